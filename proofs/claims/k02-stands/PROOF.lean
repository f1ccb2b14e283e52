import PyProof.Rows.All
import Wide.All
import OpenK.AllK
import Wide.FinOn
import HandS.ForMost
import HandS.ForExc
import HandS.TupAny
import HandS.Deep
import HandS.Flow
import HandS.IsInst
import HandS.Conv
import HandS.Walk
import HandS.WordsExc
import HandS.ExcOwn
import HandS.Ends
import HandS.More
import HandS.AnyAll
import HandS.Text
import HandS.StrMore
import HandS.ExcInit
import HandS.ClsMeth
import HandS.TryMany
import HandS.ExcField
import HandS.ExcIs
import KE.KIsAll
import KE.KTryMore
import HandS.Iter
import PyProof.ReprRoads
import PyProof.Rows.RegFStrParts
import HandS.Zip0
import PyProof.Draws
import KE.DataCmp
import HandS.DictComp
import HandS.Property
import PyProof.Rows.Range3
import KE.KOpsOwn
import HandS.SlotsOwn
import HandS.Style
import HandS.SortKw
import HandS.SortInts
import HandS.ListItems
import HandS.Defaults
import PySem.Challenge.RW_duehouse_k02_who_stands
import KE.BitLaws
set_option Elab.async false
set_option linter.all false
set_option maxRecDepth 100000
set_option maxHeartbeats 4000000
namespace Sim
open PySem L2

/-! ### data, elements, cells -/
/-- plain data: what never changes again -/
inductive D where
  | non | bl (b : Bool) | int (i : Int) | str (s : Str)
  | tup (xs : List D) | lst (xs : List D) | rol (xs : List D) | rot (xs : List D) | dic (ks : List (Key × D)) | dit (ks : List (List Key × D))
  | ins (c : String) (fs : List (String × D)) | cls (c : String)
/-- data, or the n-th cell of the store, or a tuple in which there are such -/
inductive E where
  | p (d : D) | loc (n : Nat) | tp (xs : List E)
/-- what may change -/
inductive C where
  | lst (xs : List D) | lse (xs : List E) | dic (ks : List (Key × D)) | dit (ks : List (List Key × D)) | dce (ks : List (Key × E))
  | ins (c : String) (fs : List (String × E))
abbrev Sto := List C
/-- an exception: its class, its fields -/
structure Xc where
  c : String
  fs : List (String × D)
inductive S where
  | u | e (x : E) | o (c : C) | x (z : Xc)
abbrev Fr := List S

section
variable (G : String → Addr) (K : PySem.W.Frag)
mutual
def Den (H : Hp) : D → V → Prop
  | .non, v => v = .non
  | .bl b, v => v = .bl b
  | .int i, v => v = .int i
  | .str s, v => v = .str s
  | .tup xs, v => ∃ a vs, v = .ref a ∧ H a = some (.tup vs) ∧ DenL H xs vs
  | .rot xs, v => ∃ a vs, v = .ref a ∧ SqT K H a vs ∧ DenL H xs vs
  | .lst xs, v => ∃ a vs, v = .ref a ∧ H a = some (.lst vs) ∧ DenL H xs vs
  | .rol xs, v => ∃ a vs, v = .ref a ∧ SqL K H a vs ∧ DenL H xs vs
  | .dic ks, v => ∃ a us, v = .ref a ∧ Rd H a (.dK us) ∧ DenK H ks us
  | .dit ks, v => ∃ a us, v = .ref a ∧ Rd H a (.dT us) ∧ DenT H ks us
  | .ins c fs, v => ∃ a dx us, v = .ref a ∧ H a = some (.ins (G c) dx us) ∧ DenF H fs us
  | .cls c, v => v = .ref (G c)
def DenL (H : Hp) : List D → List V → Prop
  | [], vs => vs = []
  | x :: r, vs => ∃ v w, vs = v :: w ∧ Den H x v ∧ DenL H r w
def DenK (H : Hp) : List (Key × D) → List (Key × V) → Prop
  | [], us => us = []
  | (k, x) :: r, us => ∃ v w, us = (k, v) :: w ∧ Den H x v ∧ DenK H r w
def DenT (H : Hp) : List (List Key × D) → List (List Key × V) → Prop
  | [], us => us = []
  | (k, x) :: r, us => ∃ v w, us = (k, v) :: w ∧ Den H x v ∧ DenT H r w
def DenF (H : Hp) : List (String × D) → List (Str × V) → Prop
  | [], us => us = []
  | (k, x) :: r, us => ∃ v w, us = (Str.ofString k, v) :: w ∧ Den H x v ∧ DenF H r w
end
mutual
def EDen (H : Hp) (φ : Nat → Addr) : E → V → Prop
  | .p d, v => Den G K H d v
  | .loc n, v => v = .ref (φ n)
  | .tp xs, v => ∃ a vs, v = .ref a ∧ H a = some (.tup vs) ∧ EDenL H φ xs vs
def EDenL (H : Hp) (φ : Nat → Addr) : List E → List V → Prop
  | [], vs => vs = []
  | x :: r, vs => ∃ v w, vs = v :: w ∧ EDen H φ x v ∧ EDenL H φ r w
end
def EDenK (H : Hp) (φ : Nat → Addr) : List (Key × E) → List (Key × V) → Prop
  | [], us => us = []
  | (k, x) :: r, us => ∃ v w, us = (k, v) :: w ∧ EDen G K H φ x v ∧ EDenK H φ r w
def EDenF (H : Hp) (φ : Nat → Addr) : List (String × E) → List (Str × V) → Prop
  | [], us => us = []
  | (k, x) :: r, us => ∃ v w, us = (Str.ofString k, v) :: w ∧ EDen G K H φ x v ∧ EDenF H φ r w
def XDenH (H : Hp) (z : Xc) (cls : Value) (d : Option Addr) : Prop := cls = .ref (G z.c) ∧ match d with
  | none => z.fs = []
  | some dd => ∃ us, H dd = some (.xd us) ∧ DenF G K H z.fs us
def CDen (H : Hp) (φ : Nat → Addr) : C → HO → Prop
  | .lst xs, o => ∃ vs, o = .lst vs ∧ DenL G K H xs vs
  | .lse xs, o => ∃ vs, o = .lst vs ∧ EDenL G K H φ xs vs
  | .dic ks, o => ∃ us, o = .dK us ∧ DenK G K H ks us
  | .dit ks, o => ∃ us, o = .dT us ∧ DenT G K H ks us
  | .dce ks, o => ∃ us, o = .dK us ∧ EDenK G K H φ ks us
  | .ins c fs, o => ∃ dx us, o = .ins (G c) dx us ∧ EDenF G K H φ fs us
end

/-! ### heaps that grow -/
def nfz : HO → Prop
  | .frz _ _ => False
  | _ => True
def firm : HO → Prop
  | .lst _ => True
  | .tup _ => True
  | .ins _ _ _ => True
  | .xd _ => True
  | .own _ => True
  | _ => False
structure Ext (H H' : Hp) : Prop where
  rd : ∀ a u, nfz u → Rd H a u → Rd H' a u
  fm : ∀ a u, firm u → H a = some u → H' a = some u
  dm : ∀ a, H a ≠ none → H' a ≠ none
  fz : ∀ a o u, H a = some (.frz o u) → H' a = some (.frz o u)
theorem Ext.refl (H : Hp) : Ext H H := ⟨fun _ _ _ h => h, fun _ _ _ h => h, fun _ h => h, fun _ _ _ h => h⟩
theorem Ext.trans {H H1 H2 : Hp} (a : Ext H H1) (b : Ext H1 H2) : Ext H H2 := ⟨fun x u n h => b.rd x u n (a.rd x u n h), fun x u n h => b.fm x u n (a.fm x u n h), fun x h => b.dm x (a.dm x h), fun x o u h => b.fz x o u (a.fz x o u h)⟩
theorem Ext.of {H H' : Hp} (h : ∀ a u, H a = some u → H' a = some u) : Ext H H' where
  rd := fun a u _ r => r.elim (fun e => .inl (h a _ e)) fun ⟨o, e⟩ => .inr ⟨o, h a _ e⟩
  fm := fun a u _ e => h a u e
  dm := fun a n z => by
    cases q : H a with
    | none => exact n q
    | some u => rw [h a u q] at z; cases z
  fz := fun a o u e => h a _ e
theorem Ext.l {K : PySem.W.Frag} {H H' : Hp} {a : Addr} {vs : List V} (x : Ext H H') (h : SqL K H a vs) : SqL K H' a vs := h.imp (x.rd a _ trivial) id
theorem Ext.t {K : PySem.W.Frag} {H H' : Hp} {a : Addr} {vs : List V} (x : Ext H H') (h : SqT K H a vs) : SqT K H' a vs := h.imp (x.rd a _ trivial) id

section
variable {G : String → Addr} {K : PySem.W.Frag} {H H' : Hp} {φ φ' : Nat → Addr}
mutual
theorem Den.mono (x : Ext H H') : ∀ {d : D} {v : V}, Den G K H d v → Den G K H' d v
  | .non, _, h => h
  | .bl _, _, h => h
  | .int _, _, h => h
  | .str _, _, h => h
  | .tup _, _, ⟨a, vs, e, s, l⟩ => ⟨a, vs, e, x.fm _ _ trivial s, DenL.mono x l⟩
  | .rot _, _, ⟨a, vs, e, s, l⟩ => ⟨a, vs, e, x.t s, DenL.mono x l⟩
  | .lst _, _, ⟨a, vs, e, s, l⟩ => ⟨a, vs, e, x.fm _ _ trivial s, DenL.mono x l⟩
  | .rol _, _, ⟨a, vs, e, s, l⟩ => ⟨a, vs, e, x.l s, DenL.mono x l⟩
  | .dic _, _, ⟨a, vs, e, s, l⟩ => ⟨a, vs, e, x.rd _ _ trivial s, DenK.mono x l⟩
  | .dit _, _, ⟨a, vs, e, s, l⟩ => ⟨a, vs, e, x.rd _ _ trivial s, DenT.mono x l⟩
  | .ins _ _, _, ⟨a, dx, us, e, s, l⟩ => ⟨a, dx, us, e, x.fm _ _ trivial s, DenF.mono x l⟩
  | .cls _, _, h => h
theorem DenL.mono (x : Ext H H') : ∀ {d : List D} {v : List V}, DenL G K H d v → DenL G K H' d v
  | [], _, h => h
  | _ :: _, _, ⟨v, w, e, h, r⟩ => ⟨v, w, e, h.mono x, DenL.mono x r⟩
theorem DenK.mono (x : Ext H H') : ∀ {d : List (Key × D)} {v : List (Key × V)}, DenK G K H d v → DenK G K H' d v
  | [], _, h => h
  | (_, _) :: _, _, ⟨v, w, e, h, r⟩ => ⟨v, w, e, h.mono x, DenK.mono x r⟩
theorem DenT.mono (x : Ext H H') : ∀ {d : List (List Key × D)} {v : List (List Key × V)}, DenT G K H d v → DenT G K H' d v
  | [], _, h => h
  | (_, _) :: _, _, ⟨v, w, e, h, r⟩ => ⟨v, w, e, h.mono x, DenT.mono x r⟩
theorem DenF.mono (x : Ext H H') : ∀ {d : List (String × D)} {v : List (Str × V)}, DenF G K H d v → DenF G K H' d v
  | [], _, h => h
  | (_, _) :: _, _, ⟨v, w, e, h, r⟩ => ⟨v, w, e, h.mono x, DenF.mono x r⟩
end
theorem XDenH.mono (x : Ext H H') {z : Xc} {cls : Value} {d : Option Addr} (h : XDenH G K H z cls d) : XDenH G K H' z cls d := by
  refine ⟨h.1, ?_⟩
  have h2 := h.2
  cases d with
  | none => exact h2
  | some dd =>
    obtain ⟨us, h3, h4⟩ := h2
    exact ⟨us, x.fm dd (.xd us) trivial h3, h4.mono x⟩
end
/-- the exception that the suite around holds -/
class EXC where
  ea : Addr
  ecls : Value
  ed : Option Addr
end Sim

set_option Elab.async false
set_option linter.all false
set_option maxRecDepth 100000
set_option maxHeartbeats 4000000
namespace Sim
open PySem L2
variable [EXC]

/-! ### scopes: which cells an element names -/
mutual
def E.sc (n : Nat) : E → Bool
  | .p _ => true
  | .loc m => decide (m < n)
  | .tp xs => E.scL n xs
def E.scL (n : Nat) : List E → Bool
  | [] => true
  | x :: r => E.sc n x && E.scL n r
end
def scK {κ : Type} (n : Nat) : List (κ × E) → Bool
  | [] => true
  | (_, x) :: r => E.sc n x && scK n r
def C.sc (n : Nat) : C → Bool
  | .lse xs => E.scL n xs
  | .dce ks => scK n ks
  | .ins _ fs => scK n fs
  | _ => true
mutual
theorem E.sc_mono {n m : Nat} (h : n ≤ m) : ∀ {x : E}, x.sc n = true → x.sc m = true
  | .p _, _ => by rw [E.sc]
  | .loc k, e => by
    rw [E.sc] at e ⊢
    have := of_decide_eq_true e
    exact decide_eq_true (by omega)
  | .tp xs, e => by
    rw [E.sc] at e ⊢
    exact E.scL_mono h e
theorem E.scL_mono {n m : Nat} (h : n ≤ m) : ∀ {x : List E}, E.scL n x = true → E.scL m x = true
  | [], _ => by rw [E.scL]
  | x :: r, e => by
    rw [E.scL] at e ⊢
    obtain ⟨a, b⟩ := Bool.and_eq_true_iff.mp e
    exact Bool.and_eq_true_iff.mpr ⟨E.sc_mono h a, E.scL_mono h b⟩
end
theorem scK_mono {κ : Type} {n m : Nat} (h : n ≤ m) : ∀ {x : List (κ × E)}, scK n x = true → scK m x = true
  | [], _ => by rw [scK]
  | (_, x) :: r, e => by
    rw [scK] at e ⊢
    obtain ⟨a, b⟩ := Bool.and_eq_true_iff.mp e
    exact Bool.and_eq_true_iff.mpr ⟨E.sc_mono h a, scK_mono h b⟩
theorem C.sc_mono {n m : Nat} (h : n ≤ m) : ∀ {c : C}, c.sc n = true → c.sc m = true
  | .lst _, _ => rfl
  | .lse _, e => E.scL_mono h e
  | .dic _, _ => rfl
  | .dit _, _ => rfl
  | .dce _, e => scK_mono h e
  | .ins _ _, e => scK_mono h e

section
variable {G : String → Addr} {K : PySem.W.Frag} {H H' : Hp} {φ φ' : Nat → Addr} {n : Nat}
mutual
theorem EDen.mono (x : Ext H H') (a : ∀ m, m < n → φ' m = φ m) : ∀ {d : E} {v : V}, d.sc n = true → EDen G K H φ d v → EDen G K H' φ' d v
  | .p _, _, _, h => Den.mono x h
  | .loc m, v, s, h => by
    have e : v = .ref (φ m) := h
    rw [E.sc] at s
    show v = .ref (φ' m)
    rw [a m (of_decide_eq_true s)]
    exact e
  | .tp xs, _, s, ⟨p, vs, e, q, l⟩ => ⟨p, vs, e, x.fm _ _ trivial q, EDenL.mono x a (by rw [E.sc] at s; exact s) l⟩
theorem EDenL.mono (x : Ext H H') (a : ∀ m, m < n → φ' m = φ m) : ∀ {d : List E} {v : List V}, E.scL n d = true → EDenL G K H φ d v → EDenL G K H' φ' d v
  | [], _, _, h => h
  | y :: r, _, s, ⟨v, w, e, h, q⟩ => by
    rw [E.scL] at s
    obtain ⟨s1, s2⟩ := Bool.and_eq_true_iff.mp s
    exact ⟨v, w, e, EDen.mono x a s1 h, EDenL.mono x a s2 q⟩
end
theorem EDenK.mono (x : Ext H H') (a : ∀ m, m < n → φ' m = φ m) : ∀ {d : List (Key × E)} {v : List (Key × V)}, scK n d = true → EDenK G K H φ d v → EDenK G K H' φ' d v
  | [], _, _, h => h
  | (k, y) :: r, _, s, ⟨v, w, e, h, q⟩ => by
    rw [scK] at s
    obtain ⟨s1, s2⟩ := Bool.and_eq_true_iff.mp s
    exact ⟨v, w, e, EDen.mono x a s1 h, EDenK.mono x a s2 q⟩
theorem EDenF.mono (x : Ext H H') (a : ∀ m, m < n → φ' m = φ m) : ∀ {d : List (String × E)} {v : List (Str × V)}, scK n d = true → EDenF G K H φ d v → EDenF G K H' φ' d v
  | [], _, _, h => h
  | (k, y) :: r, _, s, ⟨v, w, e, h, q⟩ => by
    rw [scK] at s
    obtain ⟨s1, s2⟩ := Bool.and_eq_true_iff.mp s
    exact ⟨v, w, e, EDen.mono x a s1 h, EDenF.mono x a s2 q⟩
theorem CDen.mono (x : Ext H H') (a : ∀ m, m < n → φ' m = φ m) : ∀ {c : C} {o : HO}, c.sc n = true → CDen G K H φ c o → CDen G K H' φ' c o
  | .lst _, _, _, ⟨vs, e, h⟩ => ⟨vs, e, h.mono x⟩
  | .lse _, _, s, ⟨vs, e, h⟩ => ⟨vs, e, h.mono x a s⟩
  | .dic _, _, _, ⟨vs, e, h⟩ => ⟨vs, e, h.mono x⟩
  | .dit _, _, _, ⟨vs, e, h⟩ => ⟨vs, e, h.mono x⟩
  | .dce _, _, s, ⟨vs, e, h⟩ => ⟨vs, e, h.mono x a s⟩
  | .ins _ _, _, s, ⟨dx, us, e, h⟩ => ⟨dx, us, e, h.mono x a s⟩
end

/-! ### what is seen -/
def vw (own : Addr → Bool) (H : Hp) : Hp := fun a => if own a = true then none else H a
theorem vw_le {own : Addr → Bool} {H : Hp} : Ext (vw own H) H := .of fun a u e => by
  unfold vw at e
  split at e
  · cases e
  · exact e
theorem vw_at {own : Addr → Bool} {H : Hp} {a : Addr} (h : own a = false) : vw own H a = H a := by
  unfold vw
  rw [h]
  rfl
theorem vw_own {own : Addr → Bool} {H : Hp} {a : Addr} (h : own a = true) : vw own H a = none := by
  unfold vw
  rw [h]
  rfl
theorem vw_sub {own own' : Addr → Bool} {H : Hp} (h : ∀ a, own a = true → own' a = true) : Ext (vw own' H) (vw own H) := .of fun a u e => by
  cases q : own' a with
  | true => rw [vw_own q] at e; cases e
  | false =>
    rw [vw_at q] at e
    cases r : own a with
    | true => rw [h a r] at q; cases q
    | false => rw [vw_at r]; exact e
/-- one more, one less -/
def plus (own : Addr → Bool) (a : Addr) : Addr → Bool := fun b => own b || (b == a)
def minus (own : Addr → Bool) (a : Addr) : Addr → Bool := fun b => own b && !(b == a)
theorem plus_self {own : Addr → Bool} {a : Addr} : plus own a a = true := by unfold plus; simp
theorem plus_of {own : Addr → Bool} {a b : Addr} (h : own b = true) : plus own a b = true := by unfold plus; rw [h]; rfl
theorem plus_ne {own : Addr → Bool} {a b : Addr} (h : b ≠ a) : plus own a b = own b := by
  unfold plus
  rw [show (b == a) = false from beq_eq_false_iff_ne.mpr h, Bool.or_false]
theorem minus_self {own : Addr → Bool} {a : Addr} : minus own a a = false := by unfold minus; simp
theorem minus_ne {own : Addr → Bool} {a b : Addr} (h : b ≠ a) : minus own a b = own b := by
  unfold minus
  rw [show (b == a) = false from beq_eq_false_iff_ne.mpr h]
  simp
theorem minus_of {own : Addr → Bool} {a b : Addr} (h : minus own a b = true) : own b = true ∧ b ≠ a := by
  by_cases e : b = a
  · subst e; rw [minus_self] at h; cases h
  · rw [minus_ne e] at h; exact ⟨h, e⟩
theorem vw_upd_own {own : Addr → Bool} {H : Hp} {a : Addr} {o : HO} (h : own a = true) : vw own (upd H a o) = vw own H := by
  funext b
  by_cases e : b = a
  · subst e; rw [vw_own h, vw_own h]
  · cases q : own b with
    | true => rw [vw_own q, vw_own q]
    | false => rw [vw_at q, vw_at q, upd_ne e]
theorem vw_upd_new {own : Addr → Bool} {H : Hp} {a : Addr} {o : HO} (h : own a = false) : vw own (upd H a o) = upd (vw own H) a o := by
  funext b
  by_cases e : b = a
  · subst e; rw [vw_at h, upd_same, upd_same]
  · cases q : own b with
    | true => rw [vw_own q, upd_ne e, vw_own q]
    | false => rw [vw_at q, upd_ne e, upd_ne e, vw_at q]
theorem vw_plus_upd {own : Addr → Bool} {H : Hp} {a : Addr} {o : HO} (hn : H a = none) : vw (plus own a) (upd H a o) = vw own H := by
  funext b
  by_cases e : b = a
  · subst e
    rw [vw_own plus_self]
    cases q : own b with
    | true => rw [vw_own q]
    | false => rw [vw_at q, hn]
  · cases q : own b with
    | true => rw [vw_own q, vw_own (plus_of q)]
    | false => rw [vw_at q, vw_at (by rw [plus_ne e]; exact q), upd_ne e]
theorem Ext.new {H : Hp} {a : Addr} {o : HO} (h : H a = none) : Ext H (upd H a o) := .of fun b u e => by rw [upd_ne (ne_of_none e h)]; exact e

/-! ### the state -/
structure Gs where
  own : Addr → Bool
  φ : Nat → Addr
  H : Hp
abbrev Gs.W (g : Gs) : Hp := vw g.own g.H
/-- what stood at the entry -/
structure Act where
  own0 : Addr → Bool
  φ0 : Nat → Addr
  H0 : Hp
  prot : Addr → Prop
  S0 : Sto
def Lvl (l : Nat) (S : Sto) : Prop := ∀ (m : Nat) (c : C), m < l → S[m]? = some c → c.sc l = true

section
variable (G : String → Addr) (K : PySem.W.Frag)
/-- at a stands c -/
def CAt (g : Gs) (a : Addr) (c : C) : Prop := ∃ o, g.H a = some o ∧ CDen G K g.W g.φ c o
def SDen (A : Act) (T : Sto) (g : Gs) (x : Option (Option V)) : S → Prop
  | .u => True
  | .e d => d.sc T.length = true ∧ ∃ v, x = some (some v) ∧ EDen G K g.W g.φ d v
  | .o c => c.sc T.length = true ∧ ∃ a, x = some (some (.ref a)) ∧ g.own a = true ∧ A.own0 a = false ∧ (∀ n, n < T.length → g.φ n ≠ a) ∧ CAt G K g a c
  | .x z => x = some (some (.ref EXC.ea)) ∧ XDenH G K g.W z EXC.ecls EXC.ed
structure Iv (A : Act) (T : Sto) (F : Fr) (σ : St) (g : Gs) : Prop where
  len : F.length = σ.length
  dom : ∀ a, g.own a = true → g.H a ≠ none
  base : ∀ a, A.own0 a = true → g.own a = true
  prot : ∀ a, A.prot a → A.own0 a = true ∧ g.H a = A.H0 a
  agr : ∀ n, n < A.S0.length → g.φ n = A.φ0 n
  grow : Ext (vw A.own0 A.H0) g.W
  kS : A.S0.length ≤ T.length
  lv : ∀ l, l ≤ A.S0.length → Lvl l A.S0 → Lvl l T
  sc : Lvl T.length T
  liv : ∀ (n : Nat) (c : C), T[n]? = some c → g.own (g.φ n) = true ∧ ¬ A.prot (g.φ n) ∧ CAt G K g (g.φ n) c
  inj : ∀ (n m : Nat), n < T.length → m < T.length → g.φ n = g.φ m → n = m
  slot : ∀ (i : Nat) (s : S), F[i]? = some s → SDen G K A T g σ[i]? s
  dis : ∀ (i j : Nat) (c c' : C), F[i]? = some (.o c) → F[j]? = some (.o c') → σ[i]? = σ[j]? → i = j
end
structure Le (T T' : Sto) (g g' : Gs) : Prop where
  ext : Ext g.W g'.W
  agr : ∀ n, n < T.length → g'.φ n = g.φ n
  len : T.length ≤ T'.length
theorem Le.refl {T : Sto} {g : Gs} : Le T T g g := ⟨Ext.refl _, fun _ _ => rfl, Nat.le_refl _⟩
theorem Le.trans {T T1 T2 : Sto} {g g1 g2 : Gs} (a : Le T T1 g g1) (b : Le T1 T2 g1 g2) : Le T T2 g g2 :=
  ⟨a.ext.trans b.ext, fun n h => (b.agr n (Nat.lt_of_lt_of_le h a.len)).trans (a.agr n h), Nat.le_trans a.len b.len⟩

section
variable {G : String → Addr} {K : PySem.W.Frag} {A : Act} {T T' : Sto} {F : Fr} {σ : St} {g g' : Gs}
theorem Le.e {x : E} {v : V} (l : Le T T' g g') (s : x.sc T.length = true) (h : EDen G K g.W g.φ x v) : EDen G K g'.W g'.φ x v := h.mono l.ext l.agr s
theorem Le.el {x : List E} {v : List V} (l : Le T T' g g') (s : E.scL T.length x = true) (h : EDenL G K g.W g.φ x v) : EDenL G K g'.W g'.φ x v := h.mono l.ext l.agr s
theorem Le.c {c : C} {o : HO} (l : Le T T' g g') (s : c.sc T.length = true) (h : CDen G K g.W g.φ c o) : CDen G K g'.W g'.φ c o := h.mono l.ext l.agr s
theorem Le.d {d : D} {v : V} (l : Le T T' g g') (h : Den G K g.W d v) : Den G K g'.W d v := h.mono l.ext
theorem Iv.cell_sc (I : Iv G K A T F σ g) {n : Nat} {c : C} (h : T[n]? = some c) : c.sc T.length = true :=
  I.sc n c (List.getElem?_eq_some_iff.mp h).1 h
theorem Iv.fresh (I : Iv G K A T F σ g) {a : Addr} (h : g.H a = none) : g.own a = false := by
  cases q : g.own a with
  | false => rfl
  | true => exact absurd h (I.dom a q)

/-- nothing that is own has changed; own and φ as they were -/
theorem Iv.same {H' : Hp} (I : Iv G K A T F σ g) (x : Ext g.W (vw g.own H')) (k : ∀ a, g.own a = true → H' a = g.H a) : Iv G K A T F σ ⟨g.own, g.φ, H'⟩ := by
  have l : Le T T g ⟨g.own, g.φ, H'⟩ := ⟨x, fun _ _ => rfl, Nat.le_refl _⟩
  have cat : ∀ a c, g.own a = true → c.sc T.length = true → CAt G K g a c → CAt G K ⟨g.own, g.φ, H'⟩ a c := fun a c ha hc ⟨o, h1, h2⟩ => ⟨o, (k a ha).trans h1, l.c hc h2⟩
  refine ⟨I.len, fun a h => ?_, I.base, fun a h => ⟨(I.prot a h).1, (k a (I.base a (I.prot a h).1)).trans (I.prot a h).2⟩, I.agr, I.grow.trans x, I.kS, I.lv, I.sc, fun n c h => ?_, I.inj, fun i s h => ?_, I.dis⟩
  · show H' a ≠ none
    rw [k a h]
    exact I.dom a h
  · obtain ⟨h1, h2, h3⟩ := I.liv n c h
    exact ⟨h1, h2, cat _ _ h1 (I.cell_sc h) h3⟩
  · have q := I.slot i s h
    cases s with
    | u => trivial
    | x z => exact ⟨q.1, q.2.mono l.ext⟩
    | e d => obtain ⟨q1, v, q2, q3⟩ := q; exact ⟨q1, v, q2, l.e q1 q3⟩
    | o c => obtain ⟨q1, a, q2, q3, q4, q5, q6⟩ := q; exact ⟨q1, a, q2, q3, q4, q5, cat _ _ q3 q1 q6⟩
/-- a new object that is at once as it stays -/
theorem Iv.new (I : Iv G K A T F σ g) {p : Addr} {o : HO} (h : g.H p = none) : Iv G K A T F σ ⟨g.own, g.φ, upd g.H p o⟩ ∧ Le T T g ⟨g.own, g.φ, upd g.H p o⟩ := by
  have f := I.fresh h
  have x : Ext g.W (vw g.own (upd g.H p o)) := by
    rw [vw_upd_new f]
    exact Ext.new ((vw_at f).trans h)
  have k : ∀ a, g.own a = true → (upd g.H p o) a = g.H a := fun a ha => upd_ne fun z => by
    subst z
    rw [ha] at f
    cases f
  exact ⟨I.same x k, ⟨x, fun _ _ => rfl, Nat.le_refl _⟩⟩
end
end Sim

set_option Elab.async false
set_option linter.all false
set_option maxRecDepth 100000
set_option maxHeartbeats 4000000
namespace Sim
open PySem L2
variable [EXC]
section
variable {G : String → Addr} {K : PySem.W.Frag} {A : Act} {T T' : Sto} {F : Fr} {σ : St} {g g' : Gs}

/-- a new root: an object of ours that no slot and no cell names -/
structure Root (G : String → Addr) (K : PySem.W.Frag) (A : Act) (T : Sto) (F : Fr) (σ : St) (g : Gs) (a : Addr) (c : C) : Prop where
  sc : c.sc T.length = true
  own : g.own a = true
  own0 : A.own0 a = false
  liv : ∀ n, n < T.length → g.φ n ≠ a
  slot : ∀ (j : Nat) (c' : C), F[j]? = some (.o c') → σ[j]? ≠ some (some (.ref a))
  at_ : CAt G K g a c
theorem Iv.own0 (I : Iv G K A T F σ g) {a : Addr} (h : g.own a = false) : A.own0 a = false := by
  cases q : A.own0 a with
  | false => rfl
  | true => rw [I.base a q] at h; cases h
theorem Iv.nprot (I : Iv G K A T F σ g) {a : Addr} (h : A.own0 a = false) : ¬ A.prot a := fun p => by
  rw [(I.prot a p).1] at h
  cases h
/-- a new object becomes a root -/
theorem Iv.newRoot (I : Iv G K A T F σ g) {p : Addr} {o : HO} {c : C} (h : g.H p = none) (sc : c.sc T.length = true) (cd : CDen G K g.W g.φ c o) :
    Iv G K A T F σ ⟨plus g.own p, g.φ, upd g.H p o⟩ ∧ Le T T g ⟨plus g.own p, g.φ, upd g.H p o⟩ ∧ Root G K A T F σ ⟨plus g.own p, g.φ, upd g.H p o⟩ p c := by
  have f := I.fresh h
  have w : Gs.W ⟨plus g.own p, g.φ, upd g.H p o⟩ = g.W := vw_plus_upd h
  have k : ∀ a, g.own a = true → (upd g.H p o) a = g.H a := fun a ha => upd_ne fun z => by
    subst z
    rw [ha] at f
    cases f
  have cat : ∀ a c, g.own a = true → CAt G K g a c → CAt G K ⟨plus g.own p, g.φ, upd g.H p o⟩ a c := fun a c ha ⟨o, h1, h2⟩ => ⟨o, (k a ha).trans h1, by rw [w]; exact h2⟩
  refine ⟨⟨I.len, fun a ha => ?_, fun a ha => plus_of (I.base a ha), fun a ha => ⟨(I.prot a ha).1, (k a (I.base a (I.prot a ha).1)).trans (I.prot a ha).2⟩, I.agr, ?_, I.kS, I.lv, I.sc, fun n c hc => ?_, I.inj, fun i s hs => ?_, I.dis⟩, ⟨?_, fun _ _ => rfl, Nat.le_refl _⟩, ⟨sc, plus_self, I.own0 f, fun n hn z => ?_, fun j c' hj z => ?_, ⟨o, upd_same, by rw [w]; exact cd⟩⟩⟩
  · show upd g.H p o a ≠ none
    by_cases e : a = p
    · subst e; rw [upd_same]; intro z; cases z
    · rw [upd_ne e]
      exact I.dom a ((plus_ne (own := g.own) e).symm.trans ha)
  · rw [w]; exact I.grow
  · obtain ⟨h1, h2, h3⟩ := I.liv n c hc
    exact ⟨plus_of h1, h2, cat _ _ h1 h3⟩
  · have q := I.slot i s hs
    cases s with
    | u => trivial
    | x z => exact ⟨q.1, by rw [w]; exact q.2⟩
    | e d =>
      obtain ⟨q1, v, q2, q3⟩ := q
      refine ⟨q1, v, q2, ?_⟩
      rw [w]
      exact q3
    | o c => obtain ⟨q1, a, q2, q3, q4, q5, q6⟩ := q; exact ⟨q1, a, q2, plus_of q3, q4, q5, cat _ _ q3 q6⟩
  · rw [w]; exact Ext.refl _
  · have e : g.φ n = p := z
    obtain ⟨h1, _⟩ := I.liv n _ (List.getElem?_eq_getElem hn)
    rw [e, f] at h1
    cases h1
  · have q := I.slot j _ hj
    obtain ⟨_, a, q2, q3, _⟩ := q
    rw [q2] at z
    have z' : a = p := by injection z with z; injection z with z; injection z
    rw [z', f] at q3
    cases q3
/-- a root is let go: it stays as it is from now on -/
theorem Iv.drop (I : Iv G K A T F σ g) {a : Addr} {c : C} (R : Root G K A T F σ g a c) : Iv G K A T F σ ⟨minus g.own a, g.φ, g.H⟩ ∧ Le T T g ⟨minus g.own a, g.φ, g.H⟩ := by
  have x : Ext g.W (vw (minus g.own a) g.H) := vw_sub fun b hb => (minus_of hb).1
  have l : Le T T g ⟨minus g.own a, g.φ, g.H⟩ := ⟨x, fun _ _ => rfl, Nat.le_refl _⟩
  have cat : ∀ b c, c.sc T.length = true → CAt G K g b c → CAt G K ⟨minus g.own a, g.φ, g.H⟩ b c := fun b c hc ⟨o, h1, h2⟩ => ⟨o, h1, l.c hc h2⟩
  have keep : ∀ b, b ≠ a → g.own b = true → minus g.own a b = true := fun b hb h => by rw [minus_ne hb]; exact h
  refine ⟨⟨I.len, fun b hb => I.dom b (minus_of hb).1, fun b hb => keep b (fun z => ?_) (I.base b hb), I.prot, I.agr, I.grow.trans x, I.kS, I.lv, I.sc, fun n c hc => ?_, I.inj, fun i s hs => ?_, I.dis⟩, l⟩
  · rw [z, R.own0] at hb; cases hb
  · obtain ⟨h1, h2, h3⟩ := I.liv n c hc
    exact ⟨keep _ (R.liv n (List.getElem?_eq_some_iff.mp hc).1) h1, h2, cat _ _ (I.cell_sc hc) h3⟩
  · have q := I.slot i s hs
    cases s with
    | u => trivial
    | x z => exact ⟨q.1, q.2.mono l.ext⟩
    | e d => obtain ⟨q1, v, q2, q3⟩ := q; exact ⟨q1, v, q2, l.e q1 q3⟩
    | o c =>
      obtain ⟨q1, b, q2, q3, q4, q5, q6⟩ := q
      have nb : b ≠ a := fun z => R.slot i c hs (by rw [q2, z])
      exact ⟨q1, b, q2, keep b nb q3, q4, q5, cat _ _ q1 q6⟩
/-- as plain data -/
def pureE : E → Option D
  | .p d => some d
  | _ => none
def pureF : List (String × E) → Option (List (String × D))
  | [] => some []
  | (k, x) :: r => match pureE x, pureF r with
    | some d, some w => some ((k, d) :: w)
    | _, _ => none
def C.fz : C → Option D
  | .lst xs => some (.lst xs)
  | .dic ks => some (.dic ks)
  | .dit ks => some (.dit ks)
  | .ins c fs => (pureF fs).map (.ins c)
  | _ => none
theorem pureF_den {H : Hp} {φ : Nat → Addr} : ∀ {fs : List (String × E)} {ds : List (String × D)} {us : List (Str × V)}, pureF fs = some ds → EDenF G K H φ fs us → DenF G K H ds us
  | [], ds, us, h, e => by
    have : ds = [] := by simpa [pureF] using h.symm
    subst this
    exact e
  | (k, x) :: r, ds, us, h, ⟨v, w, e1, e2, e3⟩ => by
    unfold pureF at h
    cases x with
    | p d =>
      cases q : pureF r with
      | none => rw [q] at h; cases h
      | some w' =>
        rw [q] at h
        have : ds = (k, d) :: w' := by simpa [pureE] using h.symm
        subst this
        exact ⟨v, w, e1, e2, pureF_den q e3⟩
    | loc n => cases h
    | tp xs => cases h
theorem fz_den {H : Hp} {φ : Nat → Addr} {a : Addr} {c : C} {d : D} {o : HO} (h : c.fz = some d) (ha : H a = some o) {H1 : Hp} (x : Ext H1 H) (cd : CDen G K H1 φ c o) : Den G K H d (.ref a) := by
  cases c with
  | lst xs =>
    obtain ⟨vs, rfl, l⟩ := cd
    obtain rfl : D.lst xs = d := Option.some.inj h
    exact ⟨a, vs, rfl, ha, l.mono x⟩
  | dic ks =>
    obtain ⟨us, rfl, l⟩ := cd
    obtain rfl : D.dic ks = d := Option.some.inj h
    exact ⟨a, us, rfl, .inl ha, l.mono x⟩
  | dit ks =>
    obtain ⟨us, rfl, l⟩ := cd
    obtain rfl : D.dit ks = d := Option.some.inj h
    exact ⟨a, us, rfl, .inl ha, l.mono x⟩
  | ins c fs =>
    obtain ⟨dx, us, rfl, l⟩ := cd
    have h' : (pureF fs).map (D.ins c) = some d := h
    cases q : pureF fs with
    | none => rw [q] at h'; cases h'
    | some ds =>
      rw [q] at h'
      obtain rfl : D.ins c ds = d := Option.some.inj h'
      exact ⟨a, dx, us, rfl, ha, (pureF_den q l).mono x⟩
  | lse xs => cases h
  | dce ks => cases h
/-- a root becomes plain data -/
theorem Iv.freeze (I : Iv G K A T F σ g) {a : Addr} {c : C} {d : D} (R : Root G K A T F σ g a c) (h : c.fz = some d) :
    Iv G K A T F σ ⟨minus g.own a, g.φ, g.H⟩ ∧ Le T T g ⟨minus g.own a, g.φ, g.H⟩ ∧ Den G K (Gs.W ⟨minus g.own a, g.φ, g.H⟩) d (.ref a) := by
  obtain ⟨I', l⟩ := I.drop R
  obtain ⟨o, h1, h2⟩ := R.at_
  exact ⟨I', l, fz_den h ((vw_at minus_self).trans h1) l.ext h2⟩

/-! ### slots -/
theorem set_get {α : Type} {l : List α} {i j : Nat} {x y : α} (h : (l.set i x)[j]? = some y) : (j = i ∧ y = x) ∨ (j ≠ i ∧ l[j]? = some y) := by
  by_cases e : j = i
  · subst e
    have hl : j < (l.set j x).length := (List.getElem?_eq_some_iff.mp h).1
    rw [List.length_set] at hl
    rw [List.getElem?_set_self hl] at h
    exact .inl ⟨rfl, (Option.some.inj h).symm⟩
  · rw [List.getElem?_set_ne (Ne.symm e)] at h
    exact .inr ⟨e, h⟩
theorem Iv.setE (I : Iv G K A T F σ g) {i : Nat} {x : E} {v : V} (sc : x.sc T.length = true) (h : EDen G K g.W g.φ x v) : Iv G K A T (F.set i (.e x)) (σ.set i (some v)) g := by
  refine ⟨by rw [List.length_set, List.length_set, I.len], I.dom, I.base, I.prot, I.agr, I.grow, I.kS, I.lv, I.sc, I.liv, I.inj, fun j s hs => ?_, fun j k c c' hj hk e => ?_⟩
  · have hl : j < F.length := by
      have := (List.getElem?_eq_some_iff.mp hs).1
      rwa [List.length_set] at this
    rcases set_get hs with ⟨rfl, rfl⟩ | ⟨ne, q⟩
    · refine ⟨sc, v, ?_, h⟩
      rw [List.getElem?_set_self (by rw [← I.len]; exact hl)]
    · rw [List.getElem?_set_ne (Ne.symm ne)]
      exact I.slot j s q
  · rcases set_get hj with ⟨rfl, z⟩ | ⟨n1, q1⟩
    · cases z
    · rcases set_get hk with ⟨rfl, z⟩ | ⟨n2, q2⟩
      · cases z
      · rw [List.getElem?_set_ne (Ne.symm n1), List.getElem?_set_ne (Ne.symm n2)] at e
        exact I.dis j k c c' q1 q2 e
theorem Iv.setO (I : Iv G K A T F σ g) {i : Nat} {a : Addr} {c : C} (R : Root G K A T F σ g a c) : Iv G K A T (F.set i (.o c)) (σ.set i (some (.ref a))) g := by
  have hlen : ∀ {j : Nat} {s : S}, (F.set i (.o c))[j]? = some s → j < F.length := fun {j s} hs => by
    have := (List.getElem?_eq_some_iff.mp hs).1
    rwa [List.length_set] at this
  refine ⟨by rw [List.length_set, List.length_set, I.len], I.dom, I.base, I.prot, I.agr, I.grow, I.kS, I.lv, I.sc, I.liv, I.inj, fun j s hs => ?_, fun j k c1 c2 hj hk e => ?_⟩
  · have hl := hlen hs
    rcases set_get hs with ⟨rfl, rfl⟩ | ⟨ne, q⟩
    · refine ⟨R.sc, a, ?_, R.own, R.own0, R.liv, R.at_⟩
      rw [List.getElem?_set_self (by rw [← I.len]; exact hl)]
    · rw [List.getElem?_set_ne (Ne.symm ne)]
      exact I.slot j s q
  · have h1 := hlen hj
    have h2 := hlen hk
    rcases set_get hj with ⟨rfl, _⟩ | ⟨n1, q1⟩
    · rcases set_get hk with ⟨rfl, _⟩ | ⟨n2, q2⟩
      · rfl
      · rw [List.getElem?_set_self (by rw [← I.len]; exact h1), List.getElem?_set_ne (Ne.symm n2)] at e
        exact absurd e.symm (R.slot k c2 q2)
    · rcases set_get hk with ⟨rfl, _⟩ | ⟨n2, q2⟩
      · rw [List.getElem?_set_self (by rw [← I.len]; exact h2), List.getElem?_set_ne (Ne.symm n1)] at e
        exact absurd e (R.slot j c1 q1)
      · rw [List.getElem?_set_ne (Ne.symm n1), List.getElem?_set_ne (Ne.symm n2)] at e
        exact I.dis j k c1 c2 q1 q2 e
/-- a slot is forgotten -/
theorem Iv.setU (I : Iv G K A T F σ g) {i : Nat} {x : Option V} : Iv G K A T (F.set i .u) (σ.set i x) g := by
  refine ⟨by rw [List.length_set, List.length_set, I.len], I.dom, I.base, I.prot, I.agr, I.grow, I.kS, I.lv, I.sc, I.liv, I.inj, fun j s hs => ?_, fun j k c c' hj hk e => ?_⟩
  · rcases set_get hs with ⟨rfl, rfl⟩ | ⟨ne, q⟩
    · trivial
    · rw [List.getElem?_set_ne (Ne.symm ne)]
      exact I.slot j s q
  · rcases set_get hj with ⟨rfl, z⟩ | ⟨n1, q1⟩
    · cases z
    · rcases set_get hk with ⟨rfl, z⟩ | ⟨n2, q2⟩
      · cases z
      · rw [List.getElem?_set_ne (Ne.symm n1), List.getElem?_set_ne (Ne.symm n2)] at e
        exact I.dis j k c c' q1 q2 e
/-- a slot forgotten, its value as it was; its root -/
theorem set_id {α : Type} {l : List α} {i : Nat} {x : α} (h : l[i]? = some x) : l.set i x = l := by
  apply List.ext_getElem?
  intro j
  by_cases e : j = i
  · subst e
    rw [List.getElem?_set_self (List.getElem?_eq_some_iff.mp h).1, h]
  · rw [List.getElem?_set_ne (Ne.symm e)]
theorem Iv.takeO (I : Iv G K A T F σ g) {i : Nat} {c : C} (h : F[i]? = some (.o c)) : ∃ a, σ[i]? = some (some (.ref a)) ∧ Iv G K A T (F.set i .u) σ g ∧ Root G K A T (F.set i .u) σ g a c := by
  obtain ⟨q1, a, q2, q3, q4, q5, q6⟩ := I.slot i _ h
  refine ⟨a, q2, ?_, q1, q3, q4, q5, fun j c' hj z => ?_, q6⟩
  · have J := I.setU (i := i) (x := some (.ref a))
    rwa [set_id q2] at J
  · rcases set_get hj with ⟨_, z'⟩ | ⟨ne, q⟩
    · cases z'
    · exact ne (I.dis j i c' c q h (by rw [z, q2]))

/-! ### writing -/
/-- the content of the n-th cell is another one now -/
theorem Iv.wrT (I : Iv G K A T F σ g) {n : Nat} {c c' : C} {o' : HO} (h : T[n]? = some c) (sc : c'.sc T.length = true) (lv : ∀ l, l ≤ A.S0.length → n < l → c.sc l = true → c'.sc l = true)
    (cd : CDen G K g.W g.φ c' o') : Iv G K A (T.set n c') F σ ⟨g.own, g.φ, upd g.H (g.φ n) o'⟩ ∧ Le T (T.set n c') g ⟨g.own, g.φ, upd g.H (g.φ n) o'⟩ := by
  obtain ⟨hl, _⟩ := List.getElem?_eq_some_iff.mp h
  obtain ⟨ho, hp, _⟩ := I.liv n c h
  have w : Gs.W ⟨g.own, g.φ, upd g.H (g.φ n) o'⟩ = g.W := vw_upd_own ho
  have cat : ∀ b c, b ≠ g.φ n → CAt G K g b c → CAt G K ⟨g.own, g.φ, upd g.H (g.φ n) o'⟩ b c := fun b c hb ⟨o, h1, h2⟩ => ⟨o, (upd_ne hb).trans h1, by rw [w]; exact h2⟩
  refine ⟨⟨I.len, fun a ha => ?_, I.base, fun a ha => ⟨(I.prot a ha).1, (upd_ne fun z => hp (by rw [← z]; exact ha)).trans (I.prot a ha).2⟩, I.agr, by rw [w]; exact I.grow, by rw [List.length_set]; exact I.kS, fun l hle L m d hm hd => ?_, fun m d hm hd => ?_, fun m d hd => ?_, by rw [List.length_set]; exact I.inj, fun i s hs => ?_, I.dis⟩, ⟨by rw [w]; exact Ext.refl _, fun _ _ => rfl, by rw [List.length_set]; exact Nat.le_refl _⟩⟩
  · show upd g.H (g.φ n) o' a ≠ none
    by_cases e : a = g.φ n
    · rw [e, upd_same]; intro z; cases z
    · rw [upd_ne e]; exact I.dom a ha
  · rcases set_get hd with ⟨rfl, rfl⟩ | ⟨ne, q⟩
    · exact lv l hle hm (I.lv l hle L m c hm h)
    · exact I.lv l hle L m d hm q
  · rw [List.length_set] at hm ⊢
    rcases set_get hd with ⟨rfl, rfl⟩ | ⟨ne, q⟩
    · exact sc
    · exact I.sc m d hm q
  · rcases set_get hd with ⟨rfl, rfl⟩ | ⟨ne, q⟩
    · exact ⟨ho, hp, o', upd_same, by rw [w]; exact cd⟩
    · obtain ⟨h1, h2, h3⟩ := I.liv m d q
      exact ⟨h1, h2, cat _ _ (fun z => ne (I.inj m n (List.getElem?_eq_some_iff.mp q).1 hl z)) h3⟩
  · have q := I.slot i s hs
    cases s with
    | u => trivial
    | x z => exact ⟨q.1, by rw [w]; exact q.2⟩
    | e d =>
      obtain ⟨q1, v, q2, q3⟩ := q
      refine ⟨by rw [List.length_set]; exact q1, v, q2, ?_⟩
      rw [w]; exact q3
    | o c =>
      obtain ⟨q1, a, q2, q3, q4, q5, q6⟩ := q
      exact ⟨by rw [List.length_set]; exact q1, a, q2, q3, q4, by rw [List.length_set]; exact q5, cat _ _ (fun z => q5 n hl z.symm) q6⟩
/-- the content of a slot's root is another one now -/
theorem Iv.wrF (I : Iv G K A T F σ g) {i : Nat} {a : Addr} {c c' : C} {o' : HO} (h : F[i]? = some (.o c)) (ha : σ[i]? = some (some (.ref a))) (sc : c'.sc T.length = true)
    (cd : CDen G K g.W g.φ c' o') : Iv G K A T (F.set i (.o c')) σ ⟨g.own, g.φ, upd g.H a o'⟩ ∧ Le T T g ⟨g.own, g.φ, upd g.H a o'⟩ := by
  obtain ⟨q1, a', q2, q3, q4, q5, q6⟩ := I.slot i _ h
  rw [ha] at q2
  have ea : a = a' := by injection q2 with z; injection z with z; injection z
  subst ea
  have hp := I.nprot q4
  have w : Gs.W ⟨g.own, g.φ, upd g.H a o'⟩ = g.W := vw_upd_own q3
  have cat : ∀ b c, b ≠ a → CAt G K g b c → CAt G K ⟨g.own, g.φ, upd g.H a o'⟩ b c := fun b c hb ⟨o, h1, h2⟩ => ⟨o, (upd_ne hb).trans h1, by rw [w]; exact h2⟩
  refine ⟨⟨by rw [List.length_set]; exact I.len, fun b hb => ?_, I.base, fun b hb => ⟨(I.prot b hb).1, (upd_ne fun z => hp (by rw [← z]; exact hb)).trans (I.prot b hb).2⟩, I.agr, by rw [w]; exact I.grow, I.kS, I.lv, I.sc, fun m d hd => ?_, I.inj, fun j s hs => ?_, fun j k c1 c2 hj hk e => ?_⟩, ⟨by rw [w]; exact Ext.refl _, fun _ _ => rfl, Nat.le_refl _⟩⟩
  · show upd g.H a o' b ≠ none
    by_cases e : b = a
    · rw [e, upd_same]; intro z; cases z
    · rw [upd_ne e]; exact I.dom b hb
  · obtain ⟨h1, h2, h3⟩ := I.liv m d hd
    exact ⟨h1, h2, cat _ _ (q5 m (List.getElem?_eq_some_iff.mp hd).1) h3⟩
  · rcases set_get hs with ⟨rfl, rfl⟩ | ⟨ne, q⟩
    · exact ⟨sc, a, ha, q3, q4, q5, o', upd_same, by rw [w]; exact cd⟩
    · have r := I.slot j s q
      cases s with
      | u => trivial
      | x z => exact ⟨r.1, by rw [w]; exact r.2⟩
      | e d =>
        obtain ⟨r1, v, r2, r3⟩ := r
        refine ⟨r1, v, r2, ?_⟩
        rw [w]; exact r3
      | o d =>
        obtain ⟨r1, b, r2, r3, r4, r5, r6⟩ := r
        exact ⟨r1, b, r2, r3, r4, r5, cat _ _ (fun z => ne (I.dis j i d c q h (by rw [r2, ha, z]))) r6⟩
  · have old : ∀ {m : Nat} {d : C}, (F.set i (.o c'))[m]? = some (.o d) → ∃ d', F[m]? = some (.o d') := fun {m d} hm => by
      rcases set_get hm with ⟨rfl, _⟩ | ⟨_, q⟩
      · exact ⟨c, h⟩
      · exact ⟨d, q⟩
    obtain ⟨d1, z1⟩ := old hj
    obtain ⟨d2, z2⟩ := old hk
    exact I.dis j k d1 d2 z1 z2 e
end
end Sim

set_option Elab.async false
set_option linter.all false
set_option maxRecDepth 100000
set_option maxHeartbeats 4000000
namespace Sim
open PySem L2
variable [EXC]

/-! ### what a piece of code gives -/
inductive Rs (α : Type) where
  | ok (a : α) (F : Fr) (T : Sto) | exc (x : Xc) (F : Fr) (T : Sto) | bad
/-- a value: an element, or the root in a slot -/
inductive OV where
  | e (x : E) | sl (i : Nat)
/-- .. or a new root -/
inductive RV where
  | o (x : OV) | fr (c : C)
def Rs.bind {α β : Type} (r : Rs α) (f : α → Fr → Sto → Rs β) : Rs β := match r with
  | .ok a F T => f a F T
  | .exc x F T => .exc x F T
  | .bad => .bad
def Rs.Post {α : Type} (r : Rs α) (P : α → Fr → Sto → Prop) (Q : Xc → Fr → Sto → Prop) : Prop := match r with
  | .ok a F T => P a F T
  | .exc x F T => Q x F T
  | .bad => False
theorem post_bind {α β : Type} {r : Rs α} {f : α → Fr → Sto → Rs β} {P : β → Fr → Sto → Prop} {Q : Xc → Fr → Sto → Prop} (h : (r.bind f).Post P Q) : r.Post (fun a F T => (f a F T).Post P Q) Q := by
  cases r <;> exact h
theorem Rs.Post.imp {α : Type} {r : Rs α} {P P' : α → Fr → Sto → Prop} {Q Q' : Xc → Fr → Sto → Prop} (h : r.Post P Q) (hp : ∀ a F T, P a F T → P' a F T) (hq : ∀ a F T, Q a F T → Q' a F T) : r.Post P' Q' := by
  cases r with
  | ok a F T => exact hp a F T h
  | exc x F T => exact hq x F T h
  | bad => exact h
abbrev MO := Fr → Sto → Rs OV
abbrev ME := Fr → Sto → Rs RV
abbrev MT := Fr → Sto → Rs Bool
abbrev MA := Fr → Sto → Rs (List OV)
inductive RS where
  | nx (F : Fr) (T : Sto) | rt (r : RV) (F : Fr) (T : Sto) | bk (F : Fr) (T : Sto) | ct (F : Fr) (T : Sto) | exc (x : Xc) (F : Fr) (T : Sto) | bad
abbrev MS := Fr → Sto → RS

/-! ### what they mean -/
section
variable (G : String → Addr) (K : PySem.W.Frag)
def ODen (T : Sto) (σ : St) (g : Gs) : OV → V → Prop
  | .e x, v => x.sc T.length = true ∧ EDen G K g.W g.φ x v
  | .sl i, v => σ[i]? = some (some v)
def ODenL (T : Sto) (σ : St) (g : Gs) : List OV → List V → Prop
  | [], vs => vs = []
  | x :: r, vs => ∃ v w, vs = v :: w ∧ ODen G K T σ g x v ∧ ODenL T σ g r w
def RDen (A : Act) (T : Sto) (F : Fr) (σ : St) (g : Gs) : RV → V → Prop
  | .o x, v => ODen G K T σ g x v
  | .fr c, v => ∃ a, v = .ref a ∧ Root G K A T F σ g a c
abbrev XDen (g : Gs) (x : Xc) (cls : Value) (d : Option Addr) : Prop := XDenH G K g.W x cls d
def Wish (W : WX) (A : Act) (T : Sto) (σ : St) (g : Gs) : Xc → Fr → Sto → Prop := fun x F' T' => ∀ g' cls d, Iv G K A T' F' σ g' → Le T T' g g' → XDen G K g' x cls d → W cls d σ g'.H
def SO (W : WX) (te : TE) (m : MO) : Prop := ∀ A T F σ g (Q : VK), Iv G K A T F σ g → (m F T).Post (fun r F' T' => ∀ g' v, Iv G K A T' F' σ g' → Le T T' g g' → ODen G K T' σ g' r v → Q v g'.H) (Wish G K W A T σ g) → te σ g.H Q
def SE (W : WX) (te : TE) (m : ME) : Prop := ∀ A T F σ g (Q : VK), Iv G K A T F σ g → (m F T).Post (fun r F' T' => ∀ g' v, Iv G K A T' F' σ g' → Le T T' g g' → RDen G K A T' F' σ g' r v → Q v g'.H) (Wish G K W A T σ g) → te σ g.H Q
def ST (W : WX) (tt : TT) (m : MT) : Prop := ∀ A T F σ g (Q : Bool → Hp → Prop), Iv G K A T F σ g → (m F T).Post (fun b F' T' => ∀ g', Iv G K A T' F' σ g' → Le T T' g g' → Q b g'.H) (Wish G K W A T σ g) → tt σ g.H Q
def SA (W : WX) (ta : TA) (m : MA) : Prop := ∀ A T F σ g (Q : List V → Hp → Prop), Iv G K A T F σ g → (m F T).Post (fun r F' T' => ∀ g' vs, Iv G K A T' F' σ g' → Le T T' g g' → ODenL G K T' σ g' r vs → Q vs g'.H) (Wish G K W A T σ g) → ta σ g.H Q
def RS.Post (W : WX) (A : Act) (T : Sto) (g : Gs) (D : Ends) : RS → Prop
  | .nx F' T' => ∀ g' σ', Iv G K A T' F' σ' g' → Le T T' g g' → D.nx σ' g'.H
  | .rt r F' T' => ∀ g' σ' v, Iv G K A T' F' σ' g' → Le T T' g g' → RDen G K A T' F' σ' g' r v → D.rt v g'.H
  | .bk F' T' => ∀ g' σ', Iv G K A T' F' σ' g' → Le T T' g g' → D.bk σ' g'.H
  | .ct F' T' => ∀ g' σ', Iv G K A T' F' σ' g' → Le T T' g g' → D.ct σ' g'.H
  | .exc x F' T' => ∀ g' σ' cls d, Iv G K A T' F' σ' g' → Le T T' g g' → XDen G K g' x cls d → W cls d σ' g'.H
  | .bad => False
def SS (W : WX) (ts : TS) (m : MS) : Prop := ∀ A T F σ g (D : Ends), Iv G K A T F σ g → (m F T).Post G K W A T g D → ts D σ g.H
end
section
variable (G : String → Addr) (X : Cx) (W : WX)
structure JO (e : Expr) (m : MO) : Prop where
  ex : ∃ te, PE X e te ∧ SO G X.K W te m
structure JE (e : Expr) (m : ME) : Prop where
  ex : ∃ te, PE X e te ∧ SE G X.K W te m
structure JT (e : Expr) (m : MT) : Prop where
  ex : ∃ te, PT X e te ∧ ST G X.K W te m
structure JW (e : Expr) (m : MT) : Prop where
  ex : ∃ te, PW X e te ∧ ST G X.K W te m
structure JA (es : List Expr) (m : MA) : Prop where
  ex : ∃ te, PA X es te ∧ SA G X.K W te m
structure JS (st : Stmt) (m : MS) : Prop where
  ex : ∃ te, PS X st te ∧ SS G X.K W te m
structure JSs (st : List Stmt) (m : MS) : Prop where
  ex : ∃ te, PSs X st te ∧ SS G X.K W te m
end

section
variable {G : String → Addr} {K : PySem.W.Frag} {A : Act} {T T' : Sto} {F F' : Fr} {σ : St} {g g' : Gs} {W : WX}
theorem Le.o {x : OV} {v : V} (l : Le T T' g g') (h : ODen G K T σ g x v) : ODen G K T' σ g' x v := by
  cases x with
  | e x => exact ⟨E.sc_mono l.len h.1, l.e h.1 h.2⟩
  | sl i => exact h
theorem Le.ol (l : Le T T' g g') : ∀ {x : List OV} {v : List V}, ODenL G K T σ g x v → ODenL G K T' σ g' x v
  | [], _, h => h
  | _ :: _, _, ⟨v, w, e, h, r⟩ => ⟨v, w, e, l.o h, l.ol r⟩
theorem Wish.le {x : Xc} {F1 : Fr} {T1 : Sto} (w : Wish G K W A T σ g x F1 T1) (l : Le T T' g g') : Wish G K W A T' σ g' x F1 T1 := fun g2 cls d I l2 h => w g2 cls d I (l.trans l2) h
/-! ### what stands behind a value -/
inductive Vw where
  | d (x : D) | c (c : C) | t (xs : List E) | r (xs : List D)
def pF (fs : List (String × D)) : List (String × E) := fs.map fun x => (x.1, .p x.2)
def dvw : D → Vw
  | .lst xs => .c (.lst xs)
  | .rol xs => .r xs
  | .dic ks => .c (.dic ks)
  | .dit ks => .c (.dit ks)
  | .ins c fs => .c (.ins c (pF fs))
  | d => .d d
def look (F : Fr) (T : Sto) : OV → Option Vw
  | .e (.p d) => some (dvw d)
  | .e (.loc n) => (T[n]?).map .c
  | .e (.tp xs) => some (.t xs)
  | .sl i => match F[i]? with
    | some (.o c) => some (.c c)
    | _ => none
def CSee (G : String → Addr) (K : PySem.W.Frag) (g : Gs) (a : Addr) : C → Prop
  | .lst xs => ∃ vs, g.H a = some (.lst vs) ∧ DenL G K g.W xs vs
  | .lse xs => ∃ vs, g.H a = some (.lst vs) ∧ EDenL G K g.W g.φ xs vs
  | .dic ks => ∃ us, Rd g.H a (.dK us) ∧ DenK G K g.W ks us
  | .dit ks => ∃ us, Rd g.H a (.dT us) ∧ DenT G K g.W ks us
  | .dce ks => ∃ us, Rd g.H a (.dK us) ∧ EDenK G K g.W g.φ ks us
  | .ins c fs => ∃ dx us, g.H a = some (.ins (G c) dx us) ∧ EDenF G K g.W g.φ fs us
def VwDen (G : String → Addr) (K : PySem.W.Frag) (g : Gs) : Vw → V → Prop
  | .d d, v => Den G K g.W d v
  | .c c, v => ∃ a, v = .ref a ∧ CSee G K g a c
  | .t xs, v => ∃ a vs, v = .ref a ∧ g.H a = some (.tup vs) ∧ EDenL G K g.W g.φ xs vs
  | .r xs, v => ∃ a vs, v = .ref a ∧ SqL K g.H a vs ∧ DenL G K g.W xs vs
theorem CAt.see {a : Addr} {c : C} (h : CAt G K g a c) : CSee G K g a c := by
  obtain ⟨o, h1, h2⟩ := h
  cases c with
  | lst xs => obtain ⟨vs, rfl, l⟩ := h2; exact ⟨vs, h1, l⟩
  | lse xs => obtain ⟨vs, rfl, l⟩ := h2; exact ⟨vs, h1, l⟩
  | dic xs => obtain ⟨vs, rfl, l⟩ := h2; exact ⟨vs, .inl h1, l⟩
  | dit xs => obtain ⟨vs, rfl, l⟩ := h2; exact ⟨vs, .inl h1, l⟩
  | dce xs => obtain ⟨vs, rfl, l⟩ := h2; exact ⟨vs, .inl h1, l⟩
  | ins c xs => obtain ⟨dx, vs, rfl, l⟩ := h2; exact ⟨dx, vs, h1, l⟩
theorem pF_den {H : Hp} {φ : Nat → Addr} : ∀ {fs : List (String × D)} {us : List (Str × V)}, DenF G K H fs us → EDenF G K H φ (pF fs) us
  | [], _, h => h
  | (_, _) :: _, _, ⟨v, w, e, h, r⟩ => ⟨v, w, e, h, pF_den r⟩
theorem dvw_den {d : D} {v : V} (h : Den G K g.W d v) : VwDen G K g (dvw d) v := by
  cases d with
  | lst xs => obtain ⟨a, vs, e, s, l⟩ := h; exact ⟨a, e, vs, vw_le.fm _ _ trivial s, l⟩
  | rol xs => obtain ⟨a, vs, e, s, l⟩ := h; exact ⟨a, vs, e, vw_le.l s, l⟩
  | dic xs => obtain ⟨a, vs, e, s, l⟩ := h; exact ⟨a, e, vs, vw_le.rd _ _ trivial s, l⟩
  | dit xs => obtain ⟨a, vs, e, s, l⟩ := h; exact ⟨a, e, vs, vw_le.rd _ _ trivial s, l⟩
  | ins c fs => obtain ⟨a, dx, us, e, s, l⟩ := h; exact ⟨a, e, dx, us, vw_le.fm _ _ trivial s, pF_den l⟩
  | non => exact h
  | bl b => exact h
  | int b => exact h
  | str b => exact h
  | tup b => exact h
  | rot b => exact h
  | cls b => exact h
theorem look_den (I : Iv G K A T F σ g) {x : OV} {v : V} {w : Vw} (h : ODen G K T σ g x v) (l : look F T x = some w) : VwDen G K g w v := by
  cases x with
  | e x =>
    cases x with
    | p d =>
      obtain rfl : dvw d = w := Option.some.inj l
      exact dvw_den h.2
    | loc n =>
      have l' : (T[n]?).map Vw.c = some w := l
      cases q : T[n]? with
      | none => rw [q] at l'; cases l'
      | some c =>
        rw [q] at l'
        obtain rfl : Vw.c c = w := Option.some.inj l'
        obtain ⟨_, _, h3⟩ := I.liv n c q
        exact ⟨_, h.2, h3.see⟩
    | tp xs =>
      obtain rfl : Vw.t xs = w := Option.some.inj l
      obtain ⟨a, vs, e, s, r⟩ := h.2
      exact ⟨a, vs, e, vw_le.fm _ _ trivial s, r⟩
  | sl i =>
    have l' : (match F[i]? with | some (.o c) => some (Vw.c c) | _ => none) = some w := l
    cases q : F[i]? with
    | none => rw [q] at l'; cases l'
    | some s =>
      rw [q] at l'
      cases s with
      | u => cases l'
      | x _ => cases l'
      | e _ => cases l'
      | o c =>
        obtain rfl : Vw.c c = w := Option.some.inj l'
        obtain ⟨_, a, h2, _, _, _, h6⟩ := I.slot i _ q
        have h' : σ[i]? = some (some v) := h
        rw [h2] at h'
        have e : V.ref a = v := by injection h' with z; injection z
        exact ⟨a, e.symm, h6.see⟩
end
/-! ### from one to the other -/
/-- a new root becomes plain data -/
def cFz (m : ME) : MO := fun F T => (m F T).bind fun r F T => match r with
  | .o x => .ok x F T
  | .fr c => match c.fz with
    | some d => .ok (.e (.p d)) F T
    | none => .bad
def cUp (m : MO) : ME := fun F T => (m F T).bind fun x F T => .ok (.o x) F T
section
variable {G : String → Addr} {X : Cx} {W : WX} {e : Expr}
theorem jo_fz {m : ME} (h : JE G X W e m) : JO G X W e (cFz m) := by
  obtain ⟨te, pe, s⟩ := h.ex
  refine ⟨te, pe, fun A T F σ g Q I p => s A T F σ g Q I ((post_bind p).imp (fun r F' T' q g' v I' l rd => ?_) fun _ _ _ q => q)⟩
  cases r with
  | o x => exact q g' v I' l rd
  | fr c =>
    obtain ⟨a, rfl, R⟩ := rd
    have q' : Rs.Post (match c.fz with | some d => Rs.ok (OV.e (.p d)) F' T' | none => .bad) _ _ := q
    cases z : c.fz with
    | none => rw [z] at q'; exact q'.elim
    | some d =>
      rw [z] at q'
      obtain ⟨I2, l2, hd⟩ := I'.freeze R z
      exact q' ⟨minus g'.own a, g'.φ, g'.H⟩ (.ref a) I2 (l.trans l2) ⟨by rw [E.sc], hd⟩
theorem je_up {m : MO} (h : JO G X W e m) : JE G X W e (cUp m) := by
  obtain ⟨te, pe, s⟩ := h.ex
  exact ⟨te, pe, fun A T F σ g Q I p => s A T F σ g Q I ((post_bind p).imp (fun r F' T' q g' v I' l rd => q g' v I' l rd) fun _ _ _ q => q)⟩
end
end Sim

set_option Elab.async false
set_option linter.all false
set_option maxRecDepth 100000
set_option maxHeartbeats 4000000
namespace Sim
open PySem L2
variable [EXC]

section
variable {G : String → Addr} {K : PySem.W.Frag} {A : Act} {T T' : Sto} {F F' : Fr} {σ : St} {g g' : Gs} {W : WX} {H : Hp} {φ : Nat → Addr}
/-! ### lists of data -/
theorem DenL.length : ∀ {xs : List D} {vs : List V}, DenL G K H xs vs → vs.length = xs.length
  | [], _, h => by
    have e := (show _ = [] from h)
    rw [e]
    rfl
  | _ :: _, _, ⟨v, w, e, _, r⟩ => by rw [e, List.length_cons, List.length_cons, DenL.length r]
theorem DenL.append : ∀ {xs ys : List D} {vs ws : List V}, DenL G K H xs vs → DenL G K H ys ws → DenL G K H (xs ++ ys) (vs ++ ws)
  | [], _, _, _, h, k => by
    have e := (show _ = [] from h)
    rw [e]
    exact k
  | _ :: _, _, _, _, ⟨v, w, e, h, r⟩, k => by
    rw [e]
    exact ⟨v, _, rfl, h, DenL.append r k⟩
theorem DenL.get : ∀ {xs : List D} {vs : List V} {i : Nat} {x : D}, DenL G K H xs vs → xs[i]? = some x → ∃ v, vs[i]? = some v ∧ Den G K H x v
  | [], _, _, _, _, h => by simp at h
  | _ :: _, _, 0, _, ⟨v, w, e, h, r⟩, k => by
    rw [e]
    rw [List.getElem?_cons_zero] at k
    cases k
    exact ⟨v, rfl, h⟩
  | _ :: _, _, i + 1, _, ⟨v, w, e, h, r⟩, k => by
    rw [e]
    rw [List.getElem?_cons_succ] at k
    exact DenL.get (i := i) r k
theorem DenL.nil : DenL G K H [] [] := rfl
theorem DenL.cons {x : D} {v : V} {xs : List D} {vs : List V} (h : Den G K H x v) (r : DenL G K H xs vs) : DenL G K H (x :: xs) (v :: vs) := ⟨v, vs, rfl, h, r⟩
theorem DenL.snoc {xs : List D} {vs : List V} {x : D} {v : V} (h : DenL G K H xs vs) (k : Den G K H x v) : DenL G K H (xs ++ [x]) (vs ++ [v]) := h.append (.cons k .nil)
theorem DenL.drop : ∀ {xs : List D} {vs : List V} (n : Nat), DenL G K H xs vs → DenL G K H (xs.drop n) (vs.drop n)
  | _, _, 0, h => h
  | [], _, n + 1, h => by
    have e := (show _ = [] from h)
    rw [e]
    exact DenL.nil
  | _ :: _, _, n + 1, ⟨v, w, e, h, r⟩ => by
    rw [e]
    exact DenL.drop n r
theorem DenL.take : ∀ {xs : List D} {vs : List V} (n : Nat), DenL G K H xs vs → DenL G K H (xs.take n) (vs.take n)
  | _, _, 0, h => DenL.nil
  | [], _, n + 1, h => by
    have e := (show _ = [] from h)
    rw [e]
    exact DenL.nil
  | _ :: _, _, n + 1, ⟨v, w, e, h, r⟩ => by
    rw [e]
    exact ⟨v, _, rfl, h, DenL.take n r⟩
theorem DenL.set : ∀ {xs : List D} {vs : List V} (i : Nat) {x : D} {v : V}, DenL G K H xs vs → Den G K H x v → DenL G K H (xs.set i x) (vs.set i v)
  | [], _, _, _, _, h, _ => by
    have e := (show _ = [] from h)
    rw [e]
    exact DenL.nil
  | _ :: _, _, 0, _, _, ⟨v, w, e, h, r⟩, k => by
    rw [e]
    exact ⟨_, _, rfl, k, r⟩
  | _ :: _, _, i + 1, _, _, ⟨v, w, e, h, r⟩, k => by
    rw [e]
    exact ⟨_, _, rfl, h, DenL.set i r k⟩
theorem EDenL.length : ∀ {xs : List E} {vs : List V}, EDenL G K H φ xs vs → vs.length = xs.length
  | [], _, h => by
    have e := (show _ = [] from h)
    rw [e]
    rfl
  | _ :: _, _, ⟨v, w, e, _, r⟩ => by rw [e, List.length_cons, List.length_cons, EDenL.length r]
theorem EDenL.get : ∀ {xs : List E} {vs : List V} {i : Nat} {x : E}, EDenL G K H φ xs vs → xs[i]? = some x → ∃ v, vs[i]? = some v ∧ EDen G K H φ x v
  | [], _, _, _, _, h => by simp at h
  | _ :: _, _, 0, _, ⟨v, w, e, h, r⟩, k => by
    rw [e]
    rw [List.getElem?_cons_zero] at k
    cases k
    exact ⟨v, rfl, h⟩
  | _ :: _, _, i + 1, _, ⟨v, w, e, h, r⟩, k => by
    rw [e]
    rw [List.getElem?_cons_succ] at k
    exact EDenL.get (i := i) r k
theorem E.scL_get {n : Nat} : ∀ {xs : List E} {i : Nat} {x : E}, E.scL n xs = true → xs[i]? = some x → x.sc n = true
  | [], _, _, _, h => by simp at h
  | y :: r, 0, x, s, k => by
    rw [List.getElem?_cons_zero] at k
    cases k
    rw [E.scL] at s
    exact (Bool.and_eq_true_iff.mp s).1
  | y :: r, i + 1, x, s, k => by
    rw [List.getElem?_cons_succ] at k
    rw [E.scL] at s
    exact E.scL_get (Bool.and_eq_true_iff.mp s).2 k
theorem scp {n : Nat} {d : D} : (E.p d).sc n = true := by rw [E.sc]

/-! ### scalars -/
def sv : D → Option V
  | .non => some .non
  | .bl b => some (.bl b)
  | .int i => some (.int i)
  | .str s => some (.str s)
  | _ => none
theorem sv_den {d : D} {v : V} (h : sv d = some v) : Den G K H d v := by
  cases d <;> first | (cases h; exact rfl) | (cases h)
theorem sv_of {d : D} {v w : V} (h : sv d = some w) (k : Den G K H d v) : v = w := by
  cases d <;> first | (cases h; exact k) | (cases h)
/-- new tuples, new lists -/
theorem Iv.newTup (I : Iv G K A T F σ g) {p : Addr} {ds : List D} {vs : List V} (h : g.H p = none) (l : DenL G K g.W ds vs) :
    Iv G K A T F σ ⟨g.own, g.φ, upd g.H p (.tup vs)⟩ ∧ Le T T g ⟨g.own, g.φ, upd g.H p (.tup vs)⟩ ∧ Den G K (Gs.W ⟨g.own, g.φ, upd g.H p (.tup vs)⟩) (.tup ds) (.ref p) := by
  obtain ⟨I', le⟩ := I.new (o := .tup vs) h
  exact ⟨I', le, p, vs, rfl, (vw_at (I.fresh h)).trans upd_same, l.mono le.ext⟩
theorem Iv.newTupE (I : Iv G K A T F σ g) {p : Addr} {ds : List E} {vs : List V} (h : g.H p = none) (l : EDenL G K g.W g.φ ds vs) (s : E.scL T.length ds = true) :
    Iv G K A T F σ ⟨g.own, g.φ, upd g.H p (.tup vs)⟩ ∧ Le T T g ⟨g.own, g.φ, upd g.H p (.tup vs)⟩ ∧ EDen G K (Gs.W ⟨g.own, g.φ, upd g.H p (.tup vs)⟩) g.φ (.tp ds) (.ref p) := by
  obtain ⟨I', le⟩ := I.new (o := .tup vs) h
  exact ⟨I', le, p, vs, rfl, (vw_at (I.fresh h)).trans upd_same, l.mono le.ext le.agr s⟩
/-- a value's data, wherever it stands -/
def dat (F : Fr) (T : Sto) : OV → Option D
  | .e (.p d) => some d
  | .e (.loc n) => (T[n]?).bind C.fz
  | .e (.tp _) => none
  | .sl i => match F[i]? with
    | some (.o c) => c.fz
    | _ => none
theorem pF_pure : ∀ {fs : List (String × E)} {ds : List (String × D)}, pureF fs = some ds → pF ds = fs
  | [], ds, h => by
    have : ds = [] := by simpa [pureF] using h.symm
    subst this
    rfl
  | (k, x) :: r, ds, h => by
    unfold pureF at h
    cases x with
    | p d =>
      cases q : pureF r with
      | none => rw [q] at h; cases h
      | some w' =>
        rw [q] at h
        have : ds = (k, d) :: w' := by simpa [pureE] using h.symm
        subst this
        show (k, E.p d) :: pF w' = _
        rw [pF_pure q]
    | loc n => cases h
    | tp xs => cases h
theorem see_fz {a : Addr} {c : C} {d : D} (s : CSee G K g a c) (h : c.fz = some d) : VwDen G K g (dvw d) (.ref a) := by
  cases c with
  | lst xs => cases h; exact ⟨a, rfl, s⟩
  | dic xs => cases h; exact ⟨a, rfl, s⟩
  | dit xs => cases h; exact ⟨a, rfl, s⟩
  | ins c fs =>
    have h' : (pureF fs).map (D.ins c) = some d := h
    cases q : pureF fs with
    | none => rw [q] at h'; cases h'
    | some ds =>
      rw [q] at h'
      obtain rfl : D.ins c ds = d := Option.some.inj h'
      refine ⟨a, rfl, ?_⟩
      rw [pF_pure q]
      exact s
  | lse xs => cases h
  | dce xs => cases h
theorem dat_den (I : Iv G K A T F σ g) {x : OV} {v : V} {d : D} (h : ODen G K T σ g x v) (l : dat F T x = some d) : VwDen G K g (dvw d) v := by
  cases x with
  | e x =>
    cases x with
    | p e =>
      obtain rfl : e = d := Option.some.inj l
      exact dvw_den h.2
    | loc n =>
      have l' : (T[n]?).bind C.fz = some d := l
      cases q : T[n]? with
      | none => rw [q] at l'; cases l'
      | some c =>
        rw [q] at l'
        obtain ⟨_, _, h3⟩ := I.liv n c q
        have e : v = .ref (g.φ n) := h.2
        rw [e]
        exact see_fz h3.see l'
    | tp xs => cases l
  | sl i =>
    have l' : (match F[i]? with | some (.o c) => c.fz | _ => none) = some d := l
    cases q : F[i]? with
    | none => rw [q] at l'; cases l'
    | some s =>
      rw [q] at l'
      cases s with
      | u => cases l'
      | x _ => cases l'
      | e _ => cases l'
      | o c =>
        obtain ⟨_, a, h2, _, _, _, h6⟩ := I.slot i _ q
        have h' : σ[i]? = some (some v) := h
        rw [h2] at h'
        have e : V.ref a = v := by injection h' with z; injection z
        rw [← e]
        exact see_fz h6.see l'
end

/-! ### names and constants -/
def cVar (i : Nat) : MO := fun F T => match F[i]? with
  | some (.e x) => .ok (.e x) F T
  | some (.o _) => .ok (.sl i) F T
  | _ => .bad
def cD (d : D) : MO := fun F T => .ok (.e (.p d)) F T
section
variable {G : String → Addr} {X : Cx} {W : WX} {pos : Pos}
theorem jo_var {i : Nat} {x : Str} (hN : X.N[i]? = some x) (hv : Vis X.env.scope x) (hd : (x == ("__debug__" : Str)) = false := by decide) (hcd : (x == ("__classdict__" : Str)) = false := by decide) : JO G X W (.Name x pos) (cVar i) := by
  refine ⟨tVar i, pe_var hN hv hd hcd, fun A T F σ g Q I p => ?_⟩
  unfold cVar at p
  cases q : F[i]? with
  | none => rw [q] at p; exact p.elim
  | some s =>
    rw [q] at p
    cases s with
    | u => exact p.elim
    | x _ => exact p.elim
    | e x =>
      obtain ⟨h1, v, h2, h3⟩ := I.slot i _ q
      exact ⟨v, h2, p g v I Le.refl ⟨h1, h3⟩⟩
    | o c =>
      obtain ⟨_, a, h2, _⟩ := I.slot i _ q
      exact ⟨.ref a, h2, p g (.ref a) I Le.refl h2⟩
theorem jo_c {e : Expr} {d : D} {v : V} (h : PE X e (tC v)) (hs : sv d = some v) : JO G X W e (cD d) :=
  ⟨tC v, h, fun A T F σ g Q I p => p g v I Le.refl ⟨scp, sv_den hs⟩⟩
theorem jo_int {i : Int} {j : Nat} : JO G X W (.Constant (.int i) j pos) (cD (.int i)) := jo_c pe_int rfl
theorem jo_bl {b : Bool} {j : Nat} : JO G X W (.Constant (.bool b) j pos) (cD (.bl b)) := jo_c pe_bl rfl
theorem jo_non {j : Nat} : JO G X W (.Constant .none j pos) (cD .non) := jo_c pe_non rfl
theorem jo_str {x : Str} {j : Nat} : JO G X W (.Constant (.str x) j pos) (cD (.str x)) := jo_c pe_str rfl

/-! ### operators -/
abbrev F2 := Fr → Sto → OV → OV → Option RV
def OpS (G : String → Addr) (K : PySem.W.Frag) (r : R2) (f : F2) : Prop := ∀ A T F σ g x y vx vy z, Iv G K A T F σ g → ODen G K T σ g x vx → ODen G K T σ g y vy → f F T x y = some z →
  ∀ Q : VK, (∀ g' v, Iv G K A T F σ g' → Le T T g g' → RDen G K A T F σ g' z v → Q v g'.H) → r vx vy g.H Q
def orF (f1 f2 : F2) : F2 := fun F T x y => match f1 F T x y with
  | some z => some z
  | none => f2 F T x y
theorem OpS.or {K : PySem.W.Frag} {r1 r2 : R2} {f1 f2 : F2} (h1 : OpS G K r1 f1) (h2 : OpS G K r2 f2) : OpS G K (fun x y H Q => r1 x y H Q ∨ r2 x y H Q) (orF f1 f2) := by
  intro A T F σ g x y vx vy z I hx hy h Q q
  unfold orF at h
  cases e : f1 F T x y with
  | some w =>
    rw [e] at h
    obtain rfl : w = z := Option.some.inj h
    exact .inl (h1 A T F σ g x y vx vy w I hx hy e Q q)
  | none =>
    rw [e] at h
    exact .inr (h2 A T F σ g x y vx vy z I hx hy h Q q)
def cOp (f : F2) (ma mb : MO) : ME := fun F T => (ma F T).bind fun x F T => (mb F T).bind fun y F T => match f F T x y with
  | some z => .ok z F T
  | none => .bad
variable {a b : Expr}
theorem op_core {ta tb : TE} {r : R2} {f : F2} {ma mb : MO} (hs : OpS G X.K r f) (ha : SO G X.K W ta ma) (hb : SO G X.K W tb mb) : SE G X.K W (tOp r ta tb) (cOp f ma mb) := by
  intro A T F σ g Q I p
  refine ha A T F σ g _ I ((post_bind p).imp (fun x F1 T1 p1 g1 v I1 l1 d1 => ?_) fun _ _ _ q => q)
  refine hb A T1 F1 σ g1 _ I1 ((post_bind p1).imp (fun y F2 T2 p2 g2 w I2 l2 d2 => ?_) fun _ _ _ q => Wish.le q l1)
  have p2' : Rs.Post (match f F2 T2 x y with | some z => Rs.ok z F2 T2 | none => .bad) _ _ := p2
  cases e : f F2 T2 x y with
  | none => rw [e] at p2'; exact p2'.elim
  | some z =>
    rw [e] at p2'
    exact hs A T2 F2 σ g2 x y v w z I2 (l2.o d1) d2 e Q fun g3 u I3 l3 d3 => p2' g3 u I3 ((l1.trans l2).trans l3) d3
theorem je_op {op : Operator} {r : R2} {f : F2} {ma mb : MO} (ho : OpR X (binaryOp op) r) (hs : OpS G X.K r f) (ha : JO G X W a ma) (hb : JO G X W b mb) : JE G X W (.BinOp a op b pos) (cOp f ma mb) := by
  obtain ⟨ta, pa, sa⟩ := ha.ex
  obtain ⟨tb, pb, sb⟩ := hb.ex
  exact ⟨tOp r ta tb, pe_op ho pa pb, op_core hs sa sb⟩
theorem je_cmp {op : CmpOp} {r : R2} {f : F2} {ma mb : MO} (ho : OpR X (compareOp op) r) (hs : OpS G X.K r f) (hm : behindInMarks op b = false) (ha : JO G X W a ma) (hb : JO G X W b mb) : JE G X W (.Compare a [op] [b] pos) (cOp f ma mb) := by
  obtain ⟨ta, pa, sa⟩ := ha.ex
  obtain ⟨tb, pb, sb⟩ := hb.ex
  exact ⟨tOp r ta tb, pe_cmpR ho pa pb hm, op_core hs sa sb⟩
/-- .. as a test -/
def cBool (m : ME) : MT := fun F T => (m F T).bind fun r F T => match r with
  | .o (.e (.p (.bl b))) => .ok b F T
  | _ => .bad
theorem bool_core {te : TE} {m : ME} {K : PySem.W.Frag} (h : SE G K W te m) : ST G K W (tTest te) (cBool m) := by
  intro A T F σ g Q I p
  refine h A T F σ g _ I ((post_bind p).imp (fun r F1 T1 p1 g1 v I1 l1 d1 => ?_) fun _ _ _ q => q)
  have p1' : Rs.Post (match r with | .o (.e (.p (.bl b))) => Rs.ok b F1 T1 | _ => .bad) _ _ := p1
  split at p1'
  · exact ⟨_, d1.2, p1' g1 I1 l1⟩
  · exact p1'.elim
theorem jt_cmp {op : CmpOp} {r : R2} {f : F2} {ma mb : MO} (ho : OpR X (compareOp op) r) (hs : OpS G X.K r f) (hm : behindInMarks op b = false) (ha : JO G X W a ma) (hb : JO G X W b mb) : JT G X W (.Compare a [op] [b] pos) (cBool (cOp f ma mb)) := by
  obtain ⟨ta, pa, sa⟩ := ha.ex
  obtain ⟨tb, pb, sb⟩ := hb.ex
  exact ⟨_, pt_cmpR ho pa pb hm, bool_core (op_core hs sa sb)⟩

/-! ### which operators -/
variable {K : PySem.W.Frag}
def i2 (p : Int → Int → Option D) : F2 := fun _ _ x y => match x, y with
  | .e (.p (.int i)), .e (.p (.int j)) => (p i j).map fun d => .o (.e (.p d))
  | _, _ => none
theorem i2_inv {p : Int → Int → Option D} {F : Fr} {T : Sto} {x y : OV} {z : RV} (h : i2 p F T x y = some z) : ∃ i j d, x = .e (.p (.int i)) ∧ y = .e (.p (.int j)) ∧ p i j = some d ∧ z = .o (.e (.p d)) := by
  unfold i2 at h
  split at h
  · rename_i i j
    cases e : p i j with
    | none => rw [e] at h; cases h
    | some d => rw [e] at h; exact ⟨i, j, d, rfl, rfl, e, (Option.some.inj h).symm⟩
  · cases h
theorem ops_i {C : Int → Int → Prop} {q : Int → Int → V} {p : Int → Int → Option D} (h : ∀ i j d, p i j = some d → C i j ∧ sv d = some (q i j)) : OpS G K (rI C q) (i2 p) := by
  intro A T F σ g x y vx vy z I hx hy e Q k
  obtain ⟨i, j, d, rfl, rfl, hp, rfl⟩ := i2_inv e
  obtain ⟨h1, h2⟩ := h i j d hp
  exact ⟨i, j, hx.2, hy.2, h1, k g _ I Le.refl ⟨scp, sv_den h2⟩⟩
theorem ops_i0 {q : Int → Int → V} {p : Int → Int → D} (h : ∀ i j, sv (p i j) = some (q i j)) : OpS G K (rI0 q) (i2 fun i j => some (p i j)) := by
  intro A T F σ g x y vx vy z I hx hy e Q k
  obtain ⟨i, j, d, rfl, rfl, hp, rfl⟩ := i2_inv e
  cases hp
  exact ⟨i, j, hx.2, hy.2, k g _ I Le.refl ⟨scp, sv_den (h i j)⟩⟩
abbrev LINE : Nat := 16777216
theorem line_le {n : Nat} (h : n ≤ LINE) : n ≤ sizeLine := by rw [sizeLine_eq]; exact h
-- a + b
def addI : F2 := i2 fun i j => some (.int (i + j))
def addIB : F2 := fun _ _ x y => match x, y with
  | .e (.p (.int i)), .e (.p (.bl b)) => some (.o (.e (.p (.int (i + PyProof.Rows.b2i b)))))
  | _, _ => none
def addS : F2 := fun _ _ x y => match x, y with
  | .e (.p (.str s)), .e (.p (.str t)) => if s.length + t.length ≤ LINE then some (.o (.e (.p (.str (s ++ t))))) else none
  | _, _ => none
def addL : F2 := fun F T x y => match dat F T x, dat F T y with
  | some (.lst xs), some (.lst ys) => if xs.length + ys.length ≤ LINE then some (.fr (.lst (xs ++ ys))) else none
  | _, _ => none
def addT : F2 := fun F T x y => match x, y with
  | .e (.p (.tup xs)), .e (.p (.tup ys)) => if xs.length + ys.length ≤ LINE then some (.o (.e (.p (.tup (xs ++ ys))))) else none
  | _, _ => none
theorem ops_addIB : OpS G K (fun x y H Q => ∃ i k, x = .int i ∧ y = .bl k ∧ Q (.int (i + PyProof.Rows.b2i k)) H) addIB := by
  intro A T F σ g x y vx vy z I hx hy e Q k
  unfold addIB at e
  split at e
  · cases e
    exact ⟨_, _, hx.2, hy.2, k g _ I Le.refl ⟨scp, rfl⟩⟩
  · cases e
theorem ops_addS : OpS G K (fun x y H Q => ∃ i j, x = .str i ∧ y = .str j ∧ i.length + j.length ≤ sizeLine ∧ Q (.str (i ++ j)) H) addS := by
  intro A T F σ g x y vx vy z I hx hy e Q k
  unfold addS at e
  split at e
  · split at e
    · rename_i hl
      cases e
      exact ⟨_, _, hx.2, hy.2, line_le hl, k g _ I Le.refl ⟨scp, rfl⟩⟩
    · cases e
  · cases e
theorem ops_addL : OpS G K rCat addL := by
  intro A T F σ g x y vx vy z I hx hy e Q k
  unfold addL at e
  split at e
  · rename_i xs ys e1 e2
    split at e
    · rename_i hl
      cases e
      obtain ⟨a, rfl, us, ha, la⟩ := dat_den I hx e1
      obtain ⟨b, rfl, ws, hb, lb⟩ := dat_den I hy e2
      refine ⟨a, b, us, ws, rfl, rfl, ha, hb, line_le (by rw [la.length, lb.length]; exact hl), fun p hp => ?_⟩
      obtain ⟨I', l, R⟩ := I.newRoot (c := .lst (xs ++ ys)) (o := .lst (us ++ ws)) hp rfl ⟨_, rfl, la.append lb⟩
      exact k ⟨plus g.own p, g.φ, upd g.H p (.lst (us ++ ws))⟩ _ I' l ⟨p, rfl, R⟩
    · cases e
  · cases e
theorem ops_addT : OpS G K (rCatA K) addT := by
  intro A T F σ g x y vx vy z I hx hy e Q k
  unfold addT at e
  split at e
  · rename_i xs ys
    split at e
    · rename_i hl
      cases e
      obtain ⟨a, us, rfl, ha, la⟩ := hx.2
      obtain ⟨b, ws, rfl, hb, lb⟩ := hy.2
      have ha' := vw_le.fm a (.tup us) trivial ha
      have hb' := vw_le.fm b (.tup ws) trivial hb
      have n1 := la.length
      have n2 := lb.length
      refine ⟨a, b, us, ws, rfl, rfl, .inl (.inl ha'), .inl (.inl hb'), line_le (by rw [n1, n2]; exact hl), fun e1 => ?_, fun _ e2 => ?_, fun _ _ p hp => ?_⟩
      · have : xs = [] := by
          rw [e1] at n1
          exact List.eq_nil_of_length_eq_zero n1.symm
        subst this
        exact k g _ I Le.refl ⟨scp, b, ws, rfl, hb, lb⟩
      · have : ys = [] := by
          rw [e2] at n2
          exact List.eq_nil_of_length_eq_zero n2.symm
        subst this
        rw [List.append_nil] at k
        exact k g _ I Le.refl ⟨scp, a, us, rfl, ha, la⟩
      · obtain ⟨I', l, R⟩ := I.newTup hp (la.append lb)
        exact k ⟨g.own, g.φ, upd g.H p (.tup (us ++ ws))⟩ _ I' l ⟨scp, R⟩
    · cases e
  · cases e
def addF : F2 := orF addI (orF addIB (orF addS (orF addL addT)))
theorem je_add {ma mb : MO} (ha : JO G X W a ma) (hb : JO G X W b mb) : JE G X W (.BinOp a .Add b pos) (cOp addF ma mb) :=
  je_op (op_add.or (op_add_ib.or (op_add_str.or (op_cat.or op_catA)))) ((ops_i0 fun _ _ => rfl).or (ops_addIB.or (ops_addS.or (ops_addL.or ops_addT)))) ha hb
def subF : F2 := i2 fun i j => some (.int (i - j))
theorem je_sub {ma mb : MO} (ha : JO G X W a ma) (hb : JO G X W b mb) : JE G X W (.BinOp a .Sub b pos) (cOp subF ma mb) := je_op op_sub (ops_i0 fun _ _ => rfl) ha hb
theorem op_mul_ib : OpR X (binaryOp .Mult) (fun x y H Q => ∃ i k, x = .int i ∧ y = .bl k ∧ Q (.int (i * PyProof.Rows.b2i k)) H) := by
  intro pins s σ H x y v u Q I rx ry h
  obtain ⟨i, k, rfl, rfl, q⟩ := h
  obtain ⟨t, rfl⟩ := rx
  cases ry
  exact PySem.IntBool.mul_int_bool ⟨.int (i * PyProof.Rows.b2i k), H, I.tok _, ⟨_, rfl⟩, q⟩
def mulI : F2 := i2 fun i j => if (-18446744073709551616 < i ∧ i < 18446744073709551616) ∨ (-18446744073709551616 < j ∧ j < 18446744073709551616) then some (.int (i * j)) else none
def mulIB : F2 := fun _ _ x y => match x, y with
  | .e (.p (.int i)), .e (.p (.bl b)) => some (.o (.e (.p (.int (i * PyProof.Rows.b2i b)))))
  | _, _ => none
def mulL : F2 := fun F T x y => match dat F T x, y with
  | some (.lst xs), .e (.p (.int n)) => if 0 ≤ n ∧ n ≤ LINE ∧ xs.length * n.toNat ≤ LINE then some (.fr (.lst (List.replicate n.toNat xs).flatten)) else none
  | _, _ => none
theorem ops_mulIB : OpS G K (fun x y H Q => ∃ i k, x = .int i ∧ y = .bl k ∧ Q (.int (i * PyProof.Rows.b2i k)) H) mulIB := by
  intro A T F σ g x y vx vy z I hx hy e Q k
  unfold mulIB at e
  split at e
  · cases e
    exact ⟨_, _, hx.2, hy.2, k g _ I Le.refl ⟨scp, rfl⟩⟩
  · cases e
theorem DenL.rep {H : Hp} {xs : List D} {vs : List V} (h : DenL G K H xs vs) : ∀ n : Nat, DenL G K H (List.replicate n xs).flatten (List.replicate n vs).flatten
  | 0 => DenL.nil
  | n + 1 => by
    rw [List.replicate_succ, List.replicate_succ, List.flatten_cons, List.flatten_cons]
    exact h.append (DenL.rep h n)
theorem ops_mulL : OpS G K rRep mulL := by
  intro A T F σ g x y vx vy z I hx hy e Q k
  unfold mulL at e
  split at e
  · rename_i xs n e1
    split at e
    · rename_i hl
      cases e
      obtain ⟨a, rfl, us, ha, la⟩ := dat_den I hx e1
      refine ⟨a, n, us, rfl, hy.2, ha, by omega, Int.lt_of_le_of_lt hl.2.1 (by decide), line_le (by rw [la.length]; exact hl.2.2), fun p hp => ?_⟩
      obtain ⟨I', l, R⟩ := I.newRoot (c := .lst (List.replicate n.toNat xs).flatten) (o := .lst (List.replicate n.toNat us).flatten) hp rfl ⟨_, rfl, la.rep _⟩
      exact k ⟨plus g.own p, g.φ, upd g.H p (.lst (List.replicate n.toNat us).flatten)⟩ _ I' l ⟨p, rfl, R⟩
    · cases e
  · cases e
def mulF : F2 := orF mulI (orF mulIB mulL)
theorem je_mul {ma mb : MO} (ha : JO G X W a ma) (hb : JO G X W b mb) : JE G X W (.BinOp a .Mult b pos) (cOp mulF ma mb) := by
  refine je_op (op_mul.or (op_mul_ib.or op_rep)) (OpS.or (ops_i fun i j d h => ?_) (ops_mulIB.or ops_mulL)) ha hb
  split at h
  · rename_i hc
    cases h
    exact ⟨hc, rfl⟩
  · cases h
def fdivF : F2 := i2 fun i j => if 0 < j ∧ j < 1073741824 then some (.int (i / j)) else none
theorem je_fdiv {ma mb : MO} (ha : JO G X W a ma) (hb : JO G X W b mb) : JE G X W (.BinOp a .FloorDiv b pos) (cOp fdivF ma mb) := by
  refine je_op op_fdiv (ops_i fun i j d h => ?_) ha hb
  split at h
  · rename_i hc
    cases h
    exact ⟨hc, rfl⟩
  · cases h
def modF : F2 := i2 fun i j => if 0 < j then some (.int (i % j)) else none
theorem je_mod {ma mb : MO} (ha : JO G X W a ma) (hb : JO G X W b mb) : JE G X W (.BinOp a .Mod b pos) (cOp modF ma mb) := by
  refine je_op op_mod (ops_i fun i j d h => ?_) ha hb
  split at h
  · rename_i hc
    cases h
    exact ⟨hc, rfl⟩
  · cases h
def powF : F2 := i2 fun i j => if 0 ≤ j ∧ j ≤ 1000000 ∧ i.natAbs < 18446744073709551616 then some (.int (i ^ j.toNat)) else none
theorem je_pow {ma mb : MO} (ha : JO G X W a ma) (hb : JO G X W b mb) : JE G X W (.BinOp a .Pow b pos) (cOp powF ma mb) := by
  refine je_op op_pow (ops_i fun i j d h => ?_) ha hb
  split at h
  · rename_i hc
    cases h
    exact ⟨hc, rfl⟩
  · cases h
def andF : F2 := i2 fun i j => some (.int (Builtin.bitAnd i j))
theorem je_band {ma mb : MO} (ha : JO G X W a ma) (hb : JO G X W b mb) : JE G X W (.BinOp a .BitAnd b pos) (cOp andF ma mb) := je_op op_and (ops_i0 fun _ _ => rfl) ha hb
end
end Sim

set_option Elab.async false
set_option linter.all false
set_option maxRecDepth 100000
set_option maxHeartbeats 4000000
namespace Sim
open PySem L2
variable [EXC]

/-! ### as the library's data -/
mutual
def D.py : D → Option PyData
  | .non => some .none
  | .bl b => some (.bool b)
  | .int i => some (.int i)
  | .str s => some (.str s)
  | .tup xs => (pyL xs).map .tuple
  | .rot xs => (pyL xs).map .tuple
  | .lst xs => (pyL xs).map .list
  | .rol xs => (pyL xs).map .list
  | _ => none
def pyL : List D → Option (List PyData)
  | [] => some []
  | x :: r => match D.py x, pyL r with
    | some d, some w => some (d :: w)
    | _, _ => none
end
section
variable {G : String → Addr} {K : PySem.W.Frag} {A : Act} {T T' : Sto} {F F' : Fr} {σ : St} {g g' : Gs} {W : WX} {H H' : Hp} {φ : Nat → Addr}
mutual
theorem py_dp (x : Ext H H') : ∀ {d : D} {v : V} {q : PyData}, d.py = some q → Den G K H d v → Dp K H' v q
  | .non, v, q, h, e => by
    rw [D.py] at h; cases h
    obtain rfl : v = .non := e
    exact .non
  | .bl b, v, q, h, e => by
    rw [D.py] at h; cases h
    obtain rfl : v = .bl b := e
    exact .bl b
  | .int b, v, q, h, e => by
    rw [D.py] at h; cases h
    obtain rfl : v = .int b := e
    exact .int b
  | .str b, v, q, h, e => by
    rw [D.py] at h; cases h
    obtain rfl : v = .str b := e
    exact .str b
  | .tup xs, v, q, h, ⟨a, vs, e, s, l⟩ => by
    rw [D.py] at h
    cases z : pyL xs with
    | none => rw [z] at h; cases h
    | some w =>
      rw [z] at h; cases h
      rw [e]
      exact .tup (.inl (.inl (x.fm _ _ trivial s))) (pyL_dp x z l)
  | .rot xs, v, q, h, ⟨a, vs, e, s, l⟩ => by
    rw [D.py] at h
    cases z : pyL xs with
    | none => rw [z] at h; cases h
    | some w =>
      rw [z] at h; cases h
      rw [e]
      exact .tup (x.t s) (pyL_dp x z l)
  | .lst xs, v, q, h, ⟨a, vs, e, s, l⟩ => by
    rw [D.py] at h
    cases z : pyL xs with
    | none => rw [z] at h; cases h
    | some w =>
      rw [z] at h; cases h
      rw [e]
      exact .lst (.inl (.inl (x.fm _ _ trivial s))) (pyL_dp x z l)
  | .rol xs, v, q, h, ⟨a, vs, e, s, l⟩ => by
    rw [D.py] at h
    cases z : pyL xs with
    | none => rw [z] at h; cases h
    | some w =>
      rw [z] at h; cases h
      rw [e]
      exact .lst (x.l s) (pyL_dp x z l)
  | .dic _, _, _, h, _ => by rw [D.py] at h <;> first | (cases h) | (intros; exact nofun)
  | .dit _, _, _, h, _ => by rw [D.py] at h <;> first | (cases h) | (intros; exact nofun)
  | .ins _ _, _, _, h, _ => by rw [D.py] at h <;> first | (cases h) | (intros; exact nofun)
  | .cls _, _, _, h, _ => by rw [D.py] at h <;> first | (cases h) | (intros; exact nofun)
theorem pyL_dp (x : Ext H H') : ∀ {d : List D} {v : List V} {q : List PyData}, pyL d = some q → DenL G K H d v → DpAll K H' v q
  | [], v, q, h, e => by
    rw [pyL] at h; cases h
    obtain rfl : v = [] := e
    exact .nil
  | y :: r, v, q, h, ⟨v0, w, e, h1, h2⟩ => by
    rw [pyL] at h
    cases z1 : D.py y with
    | none => rw [z1] at h; cases h
    | some d =>
      cases z2 : pyL r with
      | none => rw [z1, z2] at h; cases h
      | some ds =>
        rw [z1, z2] at h; cases h
        rw [e]
        exact .cons (py_dp x z1 h1) (pyL_dp x z2 h2)
end
/-- .. of what is seen -/
theorem seen_dp {d : D} {v : V} {q : PyData} (h : d.py = some q) (s : VwDen G K g (dvw d) v) : Dp K g.H v q := by
  cases d with
  | lst xs =>
    obtain ⟨a, rfl, vs, s, l⟩ := s
    rw [D.py] at h
    cases z : pyL xs with
    | none => rw [z] at h; cases h
    | some w =>
      rw [z] at h; cases h
      exact .lst (.inl (.inl s)) (pyL_dp vw_le z l)
  | rol xs =>
    obtain ⟨a, vs, rfl, s, l⟩ := s
    rw [D.py] at h
    cases z : pyL xs with
    | none => rw [z] at h; cases h
    | some w =>
      rw [z] at h; cases h
      exact .lst s (pyL_dp vw_le z l)
  | non => exact py_dp (G := G) (vw_le (own := g.own)) h s
  | bl b => exact py_dp (G := G) (vw_le (own := g.own)) h s
  | int b => exact py_dp (G := G) (vw_le (own := g.own)) h s
  | str b => exact py_dp (G := G) (vw_le (own := g.own)) h s
  | tup b => exact py_dp (G := G) (vw_le (own := g.own)) h s
  | rot b => exact py_dp (G := G) (vw_le (own := g.own)) h s
  | cls b => exact py_dp (G := G) (vw_le (own := g.own)) h s
  | dic b => rw [D.py] at h <;> first | (cases h) | (intros; exact nofun)
  | dit b => rw [D.py] at h <;> first | (cases h) | (intros; exact nofun)
  | ins b c => rw [D.py] at h <;> first | (cases h) | (intros; exact nofun)
theorem seen_sv {d : D} {v w : V} (h : sv d = some w) (s : VwDen G K g (dvw d) v) : v = w := by
  cases d <;> first | (cases h; exact s) | (cases h)

/-! ### == -/
def pyeq (a b : D) : Option Bool := match a.py, b.py with
  | some p, some q => if SeqAt.shaped p = true ∧ SeqAt.shaped q = true then some (PyData.eqv p q) else none
  | _, _ => none
def sceq (a b : D) : Option Bool := match sv a, sv b with
  | some u, some w => if scal u w = true then some (decide (u = w)) else none
  | _, _ => none
def deq (a b : D) : Option Bool := match sceq a b with
  | some r => some r
  | none => pyeq a b
def bF (f : D → D → Option Bool) : F2 := fun F T x y => match dat F T x, dat F T y with
  | some a, some b => (f a b).map fun r => .o (.e (.p (.bl r)))
  | _, _ => none
theorem bF_inv {f : D → D → Option Bool} {x y : OV} {z : RV} (h : bF f F T x y = some z) : ∃ a b r, dat F T x = some a ∧ dat F T y = some b ∧ f a b = some r ∧ z = .o (.e (.p (.bl r))) := by
  unfold bF at h
  split at h
  · rename_i a b e1 e2
    cases e : f a b with
    | none => rw [e] at h; cases h
    | some r => rw [e] at h; exact ⟨a, b, r, e1, e2, e, (Option.some.inj h).symm⟩
  · cases h
theorem sceq_inv {a b : D} {r : Bool} (h : sceq a b = some r) : ∃ u w, sv a = some u ∧ sv b = some w ∧ scal u w = true ∧ r = decide (u = w) := by
  unfold sceq at h
  split at h
  · rename_i u w e1 e2
    split at h
    · rename_i hs
      exact ⟨u, w, e1, e2, hs, (Option.some.inj h).symm⟩
    · cases h
  · cases h
theorem pyeq_inv {a b : D} {r : Bool} (h : pyeq a b = some r) : ∃ p q, a.py = some p ∧ b.py = some q ∧ SeqAt.shaped p = true ∧ SeqAt.shaped q = true ∧ r = PyData.eqv p q := by
  unfold pyeq at h
  split at h
  · rename_i p q e1 e2
    split at h
    · rename_i hs
      exact ⟨p, q, e1, e2, hs.1, hs.2, (Option.some.inj h).symm⟩
    · cases h
  · cases h
def eqF : F2 := orF (bF sceq) (bF pyeq)
def neF : F2 := orF (bF fun a b => (sceq a b).map (!·)) (bF fun a b => (pyeq a b).map (!·))
theorem map_inv {α β : Type} {o : Option α} {f : α → β} {r : β} (h : o.map f = some r) : ∃ a, o = some a ∧ r = f a := by
  cases o with
  | none => cases h
  | some a => exact ⟨a, rfl, (Option.some.inj h).symm⟩
theorem ops_eqS : OpS G K rEq (bF sceq) := by
  intro A T F σ g x y vx vy z I hx hy e Q k
  obtain ⟨a, b, r, e1, e2, e3, rfl⟩ := bF_inv e
  obtain ⟨u, w, s1, s2, s3, rfl⟩ := sceq_inv e3
  obtain rfl := seen_sv s1 (dat_den I hx e1)
  obtain rfl := seen_sv s2 (dat_den I hy e2)
  exact ⟨s3, k g _ I Le.refl ⟨scp, rfl⟩⟩
theorem ops_neS : OpS G K rNe (bF fun a b => (sceq a b).map (!·)) := by
  intro A T F σ g x y vx vy z I hx hy e Q k
  obtain ⟨a, b, r, e1, e2, e3, rfl⟩ := bF_inv e
  obtain ⟨r', e4, rfl⟩ := map_inv e3
  obtain ⟨u, w, s1, s2, s3, rfl⟩ := sceq_inv e4
  obtain rfl := seen_sv s1 (dat_den I hx e1)
  obtain rfl := seen_sv s2 (dat_den I hy e2)
  exact ⟨s3, k g _ I Le.refl ⟨scp, rfl⟩⟩
theorem ops_eqP : OpS G K (rEqD K) (bF pyeq) := by
  intro A T F σ g x y vx vy z I hx hy e Q k
  obtain ⟨a, b, r, e1, e2, e3, rfl⟩ := bF_inv e
  obtain ⟨p, q, s1, s2, s3, s4, rfl⟩ := pyeq_inv e3
  exact ⟨p, q, seen_dp s1 (dat_den I hx e1), seen_dp s2 (dat_den I hy e2), s3, s4, k g _ I Le.refl ⟨scp, rfl⟩⟩
theorem ops_neP : OpS G K (rNeD K) (bF fun a b => (pyeq a b).map (!·)) := by
  intro A T F σ g x y vx vy z I hx hy e Q k
  obtain ⟨a, b, r, e1, e2, e3, rfl⟩ := bF_inv e
  obtain ⟨r', e4, rfl⟩ := map_inv e3
  obtain ⟨p, q, s1, s2, s3, s4, rfl⟩ := pyeq_inv e4
  exact ⟨p, q, seen_dp s1 (dat_den I hx e1), seen_dp s2 (dat_den I hy e2), s3, s4, k g _ I Le.refl ⟨scp, rfl⟩⟩

/-! ### order -/
def ltI : F2 := i2 fun i j => some (.bl (decide (i < j)))
def leI : F2 := i2 fun i j => some (.bl (decide (i ≤ j)))
def gtI : F2 := i2 fun i j => some (.bl (decide (j < i)))
def geI : F2 := i2 fun i j => some (.bl (decide (j ≤ i)))
def s2 (p : Str → Str → Bool) : F2 := fun _ _ x y => match x, y with
  | .e (.p (.str i)), .e (.p (.str j)) => some (.o (.e (.p (.bl (p i j)))))
  | _, _ => none
theorem ops_s2 {p : Str → Str → Bool} : OpS G K (fun x y H Q => ∃ i j, x = .str i ∧ y = .str j ∧ Q (.bl (p i j)) H) (s2 p) := by
  intro A T F σ g x y vx vy z I hx hy e Q k
  unfold s2 at e
  split at e
  · cases e
    exact ⟨_, _, hx.2, hy.2, k g _ I Le.refl ⟨scp, rfl⟩⟩
  · cases e
def ltS : F2 := s2 fun i j => decide (i.cps.toList < j.cps.toList)
def leS : F2 := s2 fun i j => !decide (j.cps.toList < i.cps.toList)
def gtS : F2 := s2 fun i j => decide (j.cps.toList < i.cps.toList)
def geS : F2 := s2 fun i j => !decide (i.cps.toList < j.cps.toList)

theorem Den.non_of {d : D} (h : Den G K H d .non) : d = .non := by
  cases d with
  | non => rfl
  | bl b => cases h
  | int b => cases h
  | str b => cases h
  | tup b => obtain ⟨_, _, e, _⟩ := h; cases e
  | rot b => obtain ⟨_, _, e, _⟩ := h; cases e
  | lst b => obtain ⟨_, _, e, _⟩ := h; cases e
  | rol b => obtain ⟨_, _, e, _⟩ := h; cases e
  | dic b => obtain ⟨_, _, e, _⟩ := h; cases e
  | dit b => obtain ⟨_, _, e, _⟩ := h; cases e
  | ins b c => obtain ⟨_, _, _, e, _⟩ := h; cases e
  | cls b => cases h
/-! ### is None -/
def isN (F : Fr) : OV → Option Bool
  | .e (.p .non) => some true
  | .e _ => some false
  | .sl i => match F[i]? with
    | some (.o _) => some false
    | _ => none
theorem isN_den (I : Iv G K A T F σ g) {x : OV} {v : V} {r : Bool} (h : isN F x = some r) (d : ODen G K T σ g x v) : r = decide (v = .non) := by
  cases x with
  | e x =>
    cases x with
    | p d' =>
      by_cases e : d' = .non
      · subst e
        cases h
        exact (decide_eq_true (show v = .non from d.2)).symm
      · have h' : r = false := by
          unfold isN at h
          split at h
          · rename_i z; injection z with z; injection z with z; exact absurd z e
          · exact (Option.some.inj h).symm
          · rename_i z; cases z
        rw [h']
        symm
        apply decide_eq_false
        intro z
        subst z
        exact e (Den.non_of d.2)
    | loc n =>
      cases h
      symm
      apply decide_eq_false
      intro z
      have d2 : v = .ref _ := d.2
      rw [d2] at z; cases z
    | tp xs =>
      cases h
      symm
      apply decide_eq_false
      intro z
      obtain ⟨_, a, vs, d2, _⟩ := d
      rw [d2] at z; cases z
  | sl i =>
    have l' : (match F[i]? with | some (.o c) => some false | _ => none) = some r := h
    cases q : F[i]? with
    | none => rw [q] at l'; cases l'
    | some s =>
      rw [q] at l'
      cases s with
      | u => cases l'
      | x _ => cases l'
      | e _ => cases l'
      | o c =>
        cases l'
        obtain ⟨_, a, h2, _⟩ := I.slot i _ q
        have h' : σ[i]? = some (some v) := d
        rw [h2] at h'
        have e : V.ref a = v := by injection h' with z; injection z
        rw [← e]
        symm
        apply decide_eq_false
        intro z
        cases z
def isF : F2 := fun F _ x y => match y with
  | .e (.p .non) => (isN F x).map fun r => .o (.e (.p (.bl r)))
  | _ => none
def isnF : F2 := fun F _ x y => match y with
  | .e (.p .non) => (isN F x).map fun r => .o (.e (.p (.bl (!r))))
  | _ => none
theorem ops_is : OpS G K (fun x y H Q => y = .non ∧ Q (.bl (decide (x = .non))) H) isF := by
  intro A T F σ g x y vx vy z I hx hy e Q k
  unfold isF at e
  split at e
  · obtain ⟨r, e1, rfl⟩ := map_inv e
    rw [← isN_den I e1 hx]
    exact ⟨hy.2, k g _ I Le.refl ⟨scp, rfl⟩⟩
  · cases e
theorem ops_isn : OpS G K (fun x y H Q => y = .non ∧ Q (.bl (!decide (x = .non))) H) isnF := by
  intro A T F σ g x y vx vy z I hx hy e Q k
  unfold isnF at e
  split at e
  · obtain ⟨r, e1, rfl⟩ := map_inv e
    rw [← isN_den I e1 hx]
    exact ⟨hy.2, k g _ I Le.refl ⟨scp, rfl⟩⟩
  · cases e
end
section
variable {G : String → Addr} {X : Cx} {W : WX} {pos : Pos} {a b : Expr}
theorem je_eq {ma mb : MO} (hu : X.A.units + 64 < cLine) (ha : JO G X W a ma) (hb : JO G X W b mb) : JE G X W (.Compare a [.Eq] [b] pos) (cOp eqF ma mb) := je_cmp (op_eq.or (op_eqD hu)) (ops_eqS.or ops_eqP) (nomark _) ha hb
theorem je_ne {ma mb : MO} (hu : X.A.units + 64 < cLine) (ha : JO G X W a ma) (hb : JO G X W b mb) : JE G X W (.Compare a [.NotEq] [b] pos) (cOp neF ma mb) := je_cmp (op_ne.or (op_neD hu)) (ops_neS.or ops_neP) (nomark _) ha hb
theorem jt_eq {ma mb : MO} (hu : X.A.units + 64 < cLine) (ha : JO G X W a ma) (hb : JO G X W b mb) : JT G X W (.Compare a [.Eq] [b] pos) (cBool (cOp eqF ma mb)) := jt_cmp (op_eq.or (op_eqD hu)) (ops_eqS.or ops_eqP) (nomark _) ha hb
theorem jt_ne {ma mb : MO} (hu : X.A.units + 64 < cLine) (ha : JO G X W a ma) (hb : JO G X W b mb) : JT G X W (.Compare a [.NotEq] [b] pos) (cBool (cOp neF ma mb)) := jt_cmp (op_ne.or (op_neD hu)) (ops_neS.or ops_neP) (nomark _) ha hb
theorem je_lt {ma mb : MO} (ha : JO G X W a ma) (hb : JO G X W b mb) : JE G X W (.Compare a [.Lt] [b] pos) (cOp (orF ltI ltS) ma mb) := je_cmp (op_lt.or op_lt_str) ((ops_i0 fun _ _ => rfl).or ops_s2) (nomark _) ha hb
theorem je_le {ma mb : MO} (ha : JO G X W a ma) (hb : JO G X W b mb) : JE G X W (.Compare a [.LtE] [b] pos) (cOp (orF leI leS) ma mb) := je_cmp (op_le.or op_le_str) ((ops_i0 fun _ _ => rfl).or ops_s2) (nomark _) ha hb
theorem je_gt {ma mb : MO} (ha : JO G X W a ma) (hb : JO G X W b mb) : JE G X W (.Compare a [.Gt] [b] pos) (cOp (orF gtI gtS) ma mb) := je_cmp (op_gt.or op_gt_str) ((ops_i0 fun _ _ => rfl).or ops_s2) (nomark _) ha hb
theorem je_ge {ma mb : MO} (ha : JO G X W a ma) (hb : JO G X W b mb) : JE G X W (.Compare a [.GtE] [b] pos) (cOp (orF geI geS) ma mb) := je_cmp (op_ge.or op_ge_str) ((ops_i0 fun _ _ => rfl).or ops_s2) (nomark _) ha hb
theorem jt_lt {ma mb : MO} (ha : JO G X W a ma) (hb : JO G X W b mb) : JT G X W (.Compare a [.Lt] [b] pos) (cBool (cOp (orF ltI ltS) ma mb)) := jt_cmp (op_lt.or op_lt_str) ((ops_i0 fun _ _ => rfl).or ops_s2) (nomark _) ha hb
theorem jt_le {ma mb : MO} (ha : JO G X W a ma) (hb : JO G X W b mb) : JT G X W (.Compare a [.LtE] [b] pos) (cBool (cOp (orF leI leS) ma mb)) := jt_cmp (op_le.or op_le_str) ((ops_i0 fun _ _ => rfl).or ops_s2) (nomark _) ha hb
theorem jt_gt {ma mb : MO} (ha : JO G X W a ma) (hb : JO G X W b mb) : JT G X W (.Compare a [.Gt] [b] pos) (cBool (cOp (orF gtI gtS) ma mb)) := jt_cmp (op_gt.or op_gt_str) ((ops_i0 fun _ _ => rfl).or ops_s2) (nomark _) ha hb
theorem jt_ge {ma mb : MO} (ha : JO G X W a ma) (hb : JO G X W b mb) : JT G X W (.Compare a [.GtE] [b] pos) (cBool (cOp (orF geI geS) ma mb)) := jt_cmp (op_ge.or op_ge_str) ((ops_i0 fun _ _ => rfl).or ops_s2) (nomark _) ha hb
theorem je_is {ma mb : MO} (ha : JO G X W a ma) (hb : JO G X W b mb) : JE G X W (.Compare a [.Is] [b] pos) (cOp isF ma mb) := je_cmp op_isN ops_is (nomark _) ha hb
theorem je_isnot {ma mb : MO} (ha : JO G X W a ma) (hb : JO G X W b mb) : JE G X W (.Compare a [.IsNot] [b] pos) (cOp isnF ma mb) := je_cmp op_notN ops_isn (nomark _) ha hb
theorem jt_is {ma mb : MO} (ha : JO G X W a ma) (hb : JO G X W b mb) : JT G X W (.Compare a [.Is] [b] pos) (cBool (cOp isF ma mb)) := jt_cmp op_isN ops_is (nomark _) ha hb
theorem jt_isnot {ma mb : MO} (ha : JO G X W a ma) (hb : JO G X W b mb) : JT G X W (.Compare a [.IsNot] [b] pos) (cBool (cOp isnF ma mb)) := jt_cmp op_notN ops_isn (nomark _) ha hb
end
end Sim

set_option Elab.async false
set_option linter.all false
set_option maxRecDepth 100000
set_option maxHeartbeats 4000000
namespace Sim
open PySem L2
variable [EXC]

/-! ### truth -/
def tru : Vw → Option Bool
  | .d .non => some false
  | .d (.bl b) => some b
  | .d (.int i) => some (i != 0)
  | .d (.str s) => if s.length ≤ LINE then some ((s.length : Int) != 0) else none
  | .d (.tup xs) => some (!xs.isEmpty)
  | .d (.rot xs) => some (!xs.isEmpty)
  | .r xs => some (!xs.isEmpty)
  | .t xs => some (!xs.isEmpty)
  | .c (.lst xs) => some (!xs.isEmpty)
  | .c (.lse xs) => some (!xs.isEmpty)
  | .c (.dic ks) => some (!ks.isEmpty)
  | _ => none
section
variable {G : String → Addr} {K : PySem.W.Frag} {A : Act} {T T' : Sto} {F F' : Fr} {σ : St} {g g' : Gs} {W : WX} {H H' : Hp} {φ : Nat → Addr}
theorem emp_len {α β : Type} {xs : List α} {ys : List β} (h : xs.length = ys.length) : (!xs.isEmpty) = !ys.isEmpty := by
  cases xs <;> cases ys <;> first | rfl | (simp at h)
theorem DenK.length : ∀ {xs : List (Key × D)} {vs : List (Key × V)}, DenK G K H xs vs → vs.length = xs.length
  | [], _, h => by
    have e := (show _ = [] from h)
    rw [e]
    rfl
  | (_, _) :: _, _, ⟨v, w, e, _, r⟩ => by rw [e, List.length_cons, List.length_cons, DenK.length r]
def TruX (K : PySem.W.Frag) (x : V) (H : Hp) (k : Bool) : Prop := TruV K x H k ∨ ∃ a kvs, x = .ref a ∧ Rd H a (.dK kvs) ∧ k = !kvs.isEmpty
theorem tru_den {w : Vw} {v : V} {b : Bool} (h : VwDen G K g w v) (e : tru w = some b) : TruX K v g.H b := by
  cases w with
  | d x =>
    cases x with
    | non => cases e; obtain rfl : v = .non := h; exact .inl rfl
    | bl c => cases e; obtain rfl : v = .bl b := h; exact .inl rfl
    | int c => cases e; obtain rfl : v = .int c := h; exact .inl rfl
    | str c =>
      obtain rfl : v = .str c := h
      unfold tru at e
      split at e <;> first | (cases e; done) | skip
      all_goals first | (rename_i q; cases q) | skip
      all_goals (split at e <;> first | (rename_i hl; cases e; exact .inl ⟨line_le hl, rfl⟩) | cases e)
    | tup xs => cases e; obtain ⟨a, vs, rfl, s, l⟩ := h; exact .inl (.inr (.inl ⟨vs, .inl (.inl (vw_le.fm a (.tup vs) trivial s)), emp_len l.length.symm⟩))
    | rot xs => cases e; obtain ⟨a, vs, rfl, s, l⟩ := h; exact .inl (.inr (.inl ⟨vs, vw_le.t s, emp_len l.length.symm⟩))
    | lst xs => cases e
    | rol xs => cases e
    | dic xs => cases e
    | dit xs => cases e
    | ins c xs => cases e
    | cls c => cases e
  | r xs => cases e; obtain ⟨a, vs, rfl, s, l⟩ := h; exact .inl (.inl ⟨vs, s, emp_len l.length.symm⟩)
  | t xs => cases e; obtain ⟨a, vs, rfl, s, l⟩ := h; exact .inl (.inr (.inl ⟨vs, .inl (.inl s), emp_len l.length.symm⟩))
  | c c =>
    obtain ⟨a, rfl, h⟩ := h
    cases c with
    | lst xs => cases e; obtain ⟨vs, s, l⟩ := h; exact .inl (.inl ⟨vs, .inl (.inl s), emp_len l.length.symm⟩)
    | lse xs => cases e; obtain ⟨vs, s, l⟩ := h; exact .inl (.inl ⟨vs, .inl (.inl s), emp_len l.length.symm⟩)
    | dic ks => cases e; obtain ⟨vs, s, l⟩ := h; exact .inr ⟨a, vs, rfl, s, emp_len l.length.symm⟩
    | dit ks => cases e
    | dce ks => cases e
    | ins c fs => cases e
end
theorem tru_X {X : Cx} : TruR X (fun x H Q => ∃ k, TruX X.K x H k ∧ Q k H) := by
  intro pins s σ H x u Q I rx ⟨k, h, q⟩
  rcases h with h | ⟨a, kvs, rfl, r, rfl⟩
  · exact tru_ok pins s σ H x u Q I rx ⟨k, h, q⟩
  · cases rx
    exact d_truth I r fun s' I' => ⟨H, I', q⟩
def cTru (m : MO) : MT := fun F T => (m F T).bind fun x F T => match (look F T x).bind tru with
  | some b => .ok b F T
  | none => .bad
section
variable {G : String → Addr} {X : Cx} {W : WX} {pos : Pos} {a b c : Expr}
theorem pt_truX {ta : TE} (ha : PE X a ta) (he : ∀ whole, isTrue a X.env whole = (do let v ← whole; standAt a.pos; holding [v] (truthy v))) : PT X a (fun σ H Q => ta σ H fun x H' => ∃ k, TruX X.K x H' k ∧ Q k H') := by
  refine ⟨fun pins s σ H Q I h => ?_⟩
  exact PyProof.Rows.isTrue_plain (thn (ha.run pins s σ H _ I h) fun v s1 ⟨x, H1, I1, r1, q1⟩ => tru_X pins s1 σ H1 x v Q I1 r1 q1) (he _)
theorem jt_tru {m : MO} (h : JO G X W a m) (he : ∀ whole, isTrue a X.env whole = (do let v ← whole; standAt a.pos; holding [v] (truthy v)) := by intro _; rfl) : JT G X W a (cTru m) := by
  obtain ⟨ta, pa, sa⟩ := h.ex
  refine ⟨_, pt_truX pa he, fun A T F σ g Q I p => ?_⟩
  refine sa A T F σ g _ I ((post_bind p).imp (fun x F1 T1 p1 g1 v I1 l1 d1 => ?_) fun _ _ _ q => q)
  have p1' : Rs.Post (match (look F1 T1 x).bind tru with | some b => Rs.ok b F1 T1 | none => .bad) _ _ := p1
  cases e : look F1 T1 x with
  | none => rw [e] at p1'; exact p1'.elim
  | some w =>
    cases e2 : tru w with
    | none => rw [e] at p1'; simp only [Option.bind_some, e2] at p1'; exact p1'.elim
    | some b =>
      rw [e] at p1'
      simp only [Option.bind_some, e2] at p1'
      exact ⟨b, tru_den (look_den I1 d1 e) e2, p1' g1 I1 l1⟩
/-! ### not, and, or -/
def cNot (m : MT) : MT := fun F T => (m F T).bind fun b F T => .ok (!b) F T
def cAnd (m n : MT) : MT := fun F T => (m F T).bind fun b F T => if b = true then n F T else .ok false F T
def cOr (m n : MT) : MT := fun F T => (m F T).bind fun b F T => if b = true then .ok true F T else n F T
theorem jt_not {m : MT} (h : JT G X W a m) : JT G X W (.UnaryOp .Not a pos) (cNot m) := by
  obtain ⟨ta, pa, sa⟩ := h.ex
  exact ⟨_, pt_not pa, fun A T F σ g Q I p => sa A T F σ g _ I ((post_bind p).imp (fun x F1 T1 p1 g1 I1 l1 => p1 g1 I1 l1) fun _ _ _ q => q)⟩
theorem jt_w {m : MT} (h : JW G X W a m) : JT G X W a m := by
  obtain ⟨ta, pa, sa⟩ := h.ex
  exact ⟨_, pa.pt, sa⟩
theorem jw_and1 {m : MT} (h : JT G X W a m) : JW G X W (.BoolOp .And [a] pos) m := by
  obtain ⟨ta, pa, sa⟩ := h.ex
  exact ⟨_, pw_and1 pa, sa⟩
theorem jw_or1 {m : MT} (h : JT G X W a m) : JW G X W (.BoolOp .Or [a] pos) m := by
  obtain ⟨ta, pa, sa⟩ := h.ex
  exact ⟨_, pw_or1 pa, sa⟩
theorem and_core {K : PySem.W.Frag} {t u : TT} {m n : MT} (ha : ST G K W t m) (hb : ST G K W u n) : ST G K W (tAnd t u) (cAnd m n) := by
  intro A T F σ g Q I p
  refine ha A T F σ g _ I ((post_bind p).imp (fun b F1 T1 p1 g1 I1 l1 => ?_) fun _ _ _ q => q)
  cases b with
  | true =>
    exact hb A T1 F1 σ g1 Q I1 (Rs.Post.imp (r := n F1 T1) p1 (fun c F2 T2 p2 g2 I2 l2 => p2 g2 I2 (l1.trans l2)) fun _ _ _ q => Wish.le q l1)
  | false => exact p1 g1 I1 l1
theorem or_core {K : PySem.W.Frag} {t u : TT} {m n : MT} (ha : ST G K W t m) (hb : ST G K W u n) : ST G K W (tOr t u) (cOr m n) := by
  intro A T F σ g Q I p
  refine ha A T F σ g _ I ((post_bind p).imp (fun b F1 T1 p1 g1 I1 l1 => ?_) fun _ _ _ q => q)
  cases b with
  | false =>
    exact hb A T1 F1 σ g1 Q I1 (Rs.Post.imp (r := n F1 T1) p1 (fun c F2 T2 p2 g2 I2 l2 => p2 g2 I2 (l1.trans l2)) fun _ _ _ q => Wish.le q l1)
  | true => exact p1 g1 I1 l1
theorem jw_and {m n : MT} {rest : List Expr} (ha : JT G X W a m) (hb : JW G X W (.BoolOp .And (b :: rest) pos) n) : JW G X W (.BoolOp .And (a :: b :: rest) pos) (cAnd m n) := by
  obtain ⟨ta, pa, sa⟩ := ha.ex
  obtain ⟨tb, pb, sb⟩ := hb.ex
  exact ⟨_, pw_and pa pb, and_core sa sb⟩
theorem jw_or {m n : MT} {rest : List Expr} (ha : JT G X W a m) (hb : JW G X W (.BoolOp .Or (b :: rest) pos) n) : JW G X W (.BoolOp .Or (a :: b :: rest) pos) (cOr m n) := by
  obtain ⟨ta, pa, sa⟩ := ha.ex
  obtain ⟨tb, pb, sb⟩ := hb.ex
  exact ⟨_, pw_or pa pb, or_core sa sb⟩
/-- as values, by truth -/
def cAndV (m n : MO) : MO := fun F T => (m F T).bind fun x F T => match (look F T x).bind tru with
  | some true => n F T
  | some false => .ok x F T
  | none => .bad
def cOrV (m n : MO) : MO := fun F T => (m F T).bind fun x F T => match (look F T x).bind tru with
  | some true => .ok x F T
  | some false => n F T
  | none => .bad
def cNotV (m : MO) : MO := fun F T => (m F T).bind fun x F T => match (look F T x).bind tru with
  | some b => .ok (.e (.p (.bl (!b)))) F T
  | none => .bad
theorem truX_V {K : PySem.W.Frag} {x : V} {H : Hp} {k : Bool} (h : TruX K x H k) (hs : ∀ a kvs, x = .ref a → Rd H a (.dK kvs) → H a = some (.dK kvs)) : TruV K x H k := by
  rcases h with h | ⟨a, kvs, rfl, r, rfl⟩
  · exact h
  · exact .inr (.inr ⟨kvs, hs a kvs rfl r, rfl⟩)
theorem pe_andX {ta tb : TE} {rest : List Expr} (ha : PE X a ta) (hb : PE X (.BoolOp .And (b :: rest) pos) tb) : PE X (.BoolOp .And (a :: b :: rest) pos) (fun σ H Q => ta σ H fun x H1 => ∃ k, TruX X.K x H1 k ∧ if k = true then tb σ H1 Q else Q x H1) := by
  refine ⟨fun pins s σ H Q I h => ?_⟩
  refine PyProof.Rows.BoolOp_and (thn (ha.run pins s σ H _ I h) fun v s1 ⟨x, H1, I1, r1, k, tr, q1⟩ => ?_)
  refine thn (tru_X pins s1 σ H1 x v (fun c H2 => if c = true then tb σ H2 Q else Q x H2) I1 r1 ⟨k, tr, q1⟩) fun c s2 ⟨H2, I2, q2⟩ => ?_
  cases c with
  | true => exact hb.run pins s2 σ H2 Q I2 q2
  | false => exact ⟨x, H2, I2, r1, q2⟩
theorem pe_orX {ta tb : TE} {rest : List Expr} (ha : PE X a ta) (hb : PE X (.BoolOp .Or (b :: rest) pos) tb) : PE X (.BoolOp .Or (a :: b :: rest) pos) (fun σ H Q => ta σ H fun x H1 => ∃ k, TruX X.K x H1 k ∧ if k = true then Q x H1 else tb σ H1 Q) := by
  refine ⟨fun pins s σ H Q I h => ?_⟩
  refine PyProof.Rows.BoolOp_or (thn (ha.run pins s σ H _ I h) fun v s1 ⟨x, H1, I1, r1, k, tr, q1⟩ => ?_)
  refine thn (tru_X pins s1 σ H1 x v (fun c H2 => if c = true then Q x H2 else tb σ H2 Q) I1 r1 ⟨k, tr, q1⟩) fun c s2 ⟨H2, I2, q2⟩ => ?_
  cases c with
  | false => exact hb.run pins s2 σ H2 Q I2 q2
  | true => exact ⟨x, H2, I2, r1, q2⟩
theorem pe_notX {ta : TE} (ha : PE X a ta) : PE X (.UnaryOp .Not a pos) (fun σ H Q => ta σ H fun x H1 => ∃ k, TruX X.K x H1 k ∧ Q (.bl (!k)) H1) := by
  refine ⟨fun pins s σ H Q I h => ?_⟩
  refine PyProof.Rows.UnaryOp_ (thn (ha.run pins s σ H _ I h) fun v s1 ⟨x, H1, I1, r1, k, tr, q1⟩ => ?_)
  refine PyProof.Rows.not_of (thn (tru_X pins s1 σ H1 x v (fun c H2 => Q (.bl (!c)) H2) I1 r1 ⟨k, tr, q1⟩) fun c s2 ⟨H2, I2, q2⟩ => ⟨.bl (!c), H2, I2, rfl, q2⟩)
theorem jo_one {op : BoolOp} {m : MO} (h : JO G X W a m) : JO G X W (.BoolOp op [a] pos) m := by
  obtain ⟨ta, pa, sa⟩ := h.ex
  exact ⟨_, pe_one pa, sa⟩
theorem tru_some {F : Fr} {T : Sto} {x : OV} {b : Bool} (h : (look F T x).bind tru = some b) : ∃ w, look F T x = some w ∧ tru w = some b := by
  cases e : look F T x with
  | none => rw [e] at h; cases h
  | some w => rw [e] at h; exact ⟨w, rfl, h⟩
theorem jo_and {m n : MO} {rest : List Expr} (ha : JO G X W a m) (hb : JO G X W (.BoolOp .And (b :: rest) pos) n) : JO G X W (.BoolOp .And (a :: b :: rest) pos) (cAndV m n) := by
  obtain ⟨ta, pa, sa⟩ := ha.ex
  obtain ⟨tb, pb, sb⟩ := hb.ex
  refine ⟨_, pe_andX pa pb, fun A T F σ g Q I p => ?_⟩
  refine sa A T F σ g _ I ((post_bind p).imp (fun x F1 T1 p1 g1 v I1 l1 d1 => ?_) fun _ _ _ q => q)
  have p1' : Rs.Post (match (look F1 T1 x).bind tru with | some true => n F1 T1 | some false => .ok x F1 T1 | none => .bad) _ _ := p1
  split at p1'
  · rename_i e
    obtain ⟨w, e1, e2⟩ := tru_some e
    exact ⟨true, tru_den (look_den I1 d1 e1) e2, sb A T1 F1 σ g1 Q I1 (p1'.imp (fun c F2 T2 p2 g2 v I2 l2 d2 => p2 g2 v I2 (l1.trans l2) d2) fun _ _ _ q => Wish.le q l1)⟩
  · rename_i e
    obtain ⟨w, e1, e2⟩ := tru_some e
    exact ⟨false, tru_den (look_den I1 d1 e1) e2, p1' g1 v I1 l1 d1⟩
  · exact p1'.elim
theorem jo_or {m n : MO} {rest : List Expr} (ha : JO G X W a m) (hb : JO G X W (.BoolOp .Or (b :: rest) pos) n) : JO G X W (.BoolOp .Or (a :: b :: rest) pos) (cOrV m n) := by
  obtain ⟨ta, pa, sa⟩ := ha.ex
  obtain ⟨tb, pb, sb⟩ := hb.ex
  refine ⟨_, pe_orX pa pb, fun A T F σ g Q I p => ?_⟩
  refine sa A T F σ g _ I ((post_bind p).imp (fun x F1 T1 p1 g1 v I1 l1 d1 => ?_) fun _ _ _ q => q)
  have p1' : Rs.Post (match (look F1 T1 x).bind tru with | some true => .ok x F1 T1 | some false => n F1 T1 | none => .bad) _ _ := p1
  split at p1'
  · rename_i e
    obtain ⟨w, e1, e2⟩ := tru_some e
    exact ⟨true, tru_den (look_den I1 d1 e1) e2, p1' g1 v I1 l1 d1⟩
  · rename_i e
    obtain ⟨w, e1, e2⟩ := tru_some e
    exact ⟨false, tru_den (look_den I1 d1 e1) e2, sb A T1 F1 σ g1 Q I1 (p1'.imp (fun c F2 T2 p2 g2 v I2 l2 d2 => p2 g2 v I2 (l1.trans l2) d2) fun _ _ _ q => Wish.le q l1)⟩
  · exact p1'.elim
theorem jo_not {m : MO} (ha : JO G X W a m) : JO G X W (.UnaryOp .Not a pos) (cNotV m) := by
  obtain ⟨ta, pa, sa⟩ := ha.ex
  refine ⟨_, pe_notX pa, fun A T F σ g Q I p => ?_⟩
  refine sa A T F σ g _ I ((post_bind p).imp (fun x F1 T1 p1 g1 v I1 l1 d1 => ?_) fun _ _ _ q => q)
  have p1' : Rs.Post (match (look F1 T1 x).bind tru with | some b => Rs.ok (OV.e (.p (.bl (!b)))) F1 T1 | none => .bad) _ _ := p1
  split at p1'
  · rename_i e
    obtain ⟨w, e1, e2⟩ := tru_some e
    exact ⟨_, tru_den (look_den I1 d1 e1) e2, p1' g1 _ I1 l1 ⟨scp, rfl⟩⟩
  · exact p1'.elim
/-- a if t else b -/
def cIf (t : MT) (m n : MO) : MO := fun F T => (t F T).bind fun b F T => if b = true then m F T else n F T
theorem jo_if {t : MT} {m n : MO} (hc : JT G X W c t) (ha : JO G X W a m) (hb : JO G X W b n) : JO G X W (.IfExp c a b pos) (cIf t m n) := by
  obtain ⟨tc, pc, sc⟩ := hc.ex
  obtain ⟨ta, pa, sa⟩ := ha.ex
  obtain ⟨tb, pb, sb⟩ := hb.ex
  refine ⟨_, pe_ifExp pc pa pb, fun A T F σ g Q I p => ?_⟩
  refine sc A T F σ g _ I ((post_bind p).imp (fun x F1 T1 p1 g1 I1 l1 => ?_) fun _ _ _ q => q)
  cases x with
  | true => exact sa A T1 F1 σ g1 Q I1 (Rs.Post.imp (r := m F1 T1) p1 (fun c F2 T2 p2 g2 v I2 l2 d2 => p2 g2 v I2 (l1.trans l2) d2) fun _ _ _ q => Wish.le q l1)
  | false => exact sb A T1 F1 σ g1 Q I1 (Rs.Post.imp (r := n F1 T1) p1 (fun c F2 T2 p2 g2 v I2 l2 d2 => p2 g2 v I2 (l1.trans l2) d2) fun _ _ _ q => Wish.le q l1)
end
end Sim

set_option Elab.async false
set_option linter.all false
set_option maxRecDepth 100000
set_option maxHeartbeats 4000000
namespace Sim
open PySem L2
variable [EXC]

/-! ### argument lists -/
def cNil : MA := fun F T => .ok [] F T
def cCons (m : MO) (n : MA) : MA := fun F T => (m F T).bind fun x F T => (n F T).bind fun r F T => .ok (x :: r) F T
section
variable {G : String → Addr} {X : Cx} {W : WX} {pos p : Pos} {e : Expr} {es : List Expr}
theorem ja_nil : JA G X W [] cNil := ⟨tNil, pa_nil, fun A T F σ g Q I p => p g [] I Le.refl rfl⟩
theorem ja_cons {m : MO} {n : MA} (ha : JO G X W e m) (hr : JA G X W es n) (hs : starEach (e :: es) X.env = (false, eval e X.env) :: starEach es X.env := by rfl) : JA G X W (e :: es) (cCons m n) := by
  obtain ⟨te, pe, se⟩ := ha.ex
  obtain ⟨tr, pr, sr⟩ := hr.ex
  refine ⟨tCons te tr, pa_cons pe pr hs, fun A T F σ g Q I p => ?_⟩
  refine se A T F σ g _ I ((post_bind p).imp (fun x F1 T1 p1 g1 v I1 l1 d1 => ?_) fun _ _ _ q => q)
  refine sr A T1 F1 σ g1 _ I1 ((post_bind p1).imp (fun r F2 T2 p2 g2 vs I2 l2 d2 => ?_) fun _ _ _ q => Wish.le q l1)
  exact p2 g2 (v :: vs) I2 (l1.trans l2) ⟨v, vs, rfl, l2.o d1, d2⟩
/-! ### calls of built-ins, by their values -/
abbrev FL := Fr → Sto → List OV → Option RV
def CaS (G : String → Addr) (K : PySem.W.Frag) (r : List V → Hp → VK → Prop) (f : FL) : Prop := ∀ A T F σ g xs vs z, Iv G K A T F σ g → ODenL G K T σ g xs vs → f F T xs = some z →
  ∀ Q : VK, (∀ g' v, Iv G K A T F σ g' → Le T T g g' → RDen G K A T F σ g' z v → Q v g'.H) → r vs g.H Q
def orL (f1 f2 : FL) : FL := fun F T xs => match f1 F T xs with
  | some z => some z
  | none => f2 F T xs
theorem CaS.or {K : PySem.W.Frag} {r1 r2 : List V → Hp → VK → Prop} {f1 f2 : FL} (h1 : CaS G K r1 f1) (h2 : CaS G K r2 f2) : CaS G K (fun vs H Q => r1 vs H Q ∨ r2 vs H Q) (orL f1 f2) := by
  intro A T F σ g xs vs z I hx h Q q
  unfold orL at h
  cases e : f1 F T xs with
  | some w =>
    rw [e] at h
    obtain rfl : w = z := Option.some.inj h
    exact .inl (h1 A T F σ g xs vs w I hx e Q q)
  | none =>
    rw [e] at h
    exact .inr (h2 A T F σ g xs vs z I hx h Q q)
theorem CallR.or {f : Value} {r1 r2 : List V → Hp → VK → Prop} (h1 : CallR X f r1) (h2 : CallR X f r2) : CallR X f (fun vs H Q => r1 vs H Q ∨ r2 vs H Q) := by
  intro pins s σ H xs us Q I r h
  rcases h with h | h
  · exact h1 pins s σ H xs us Q I r h
  · exact h2 pins s σ H xs us Q I r h
def cCall (f : FL) (ma : MA) : ME := fun F T => (ma F T).bind fun xs F T => match f F T xs with
  | some z => .ok z F T
  | none => .bad
theorem call_core {K : PySem.W.Frag} {ta : TA} {r : List V → Hp → VK → Prop} {f : FL} {ma : MA} (hs : CaS G K r f) (ha : SA G K W ta ma) : SE G K W (tCB r ta) (cCall f ma) := by
  intro A T F σ g Q I p
  refine ha A T F σ g _ I ((post_bind p).imp (fun xs F1 T1 p1 g1 vs I1 l1 d1 => ?_) fun _ _ _ q => q)
  have p1' : Rs.Post (match f F1 T1 xs with | some z => Rs.ok z F1 T1 | none => .bad) _ _ := p1
  cases e : f F1 T1 xs with
  | none => rw [e] at p1'; exact p1'.elim
  | some z =>
    rw [e] at p1'
    exact hs A T1 F1 σ g1 xs vs z I1 d1 e Q fun g3 u I3 l3 d3 => p1' g3 u I3 (l1.trans l3) d3
theorem je_callB {id : String} {x : Str} {r : List V → Hp → VK → Prop} {f : FL} {ma : MA} (hc : CallR X (.builtin id) r) (hs : CaS G X.K r f) (hg : Gl X x) (hm : X.mg x = none) (hv : bootBuiltins x = some (.builtin id)) (ha : JA G X W (e :: es) ma) (hn : x ≠ "__name__" := by decide)
    (hdb : (x == ("__debug__" : Str)) = false := by decide) (he : starEach (e :: es) X.env = (false, eval e X.env) :: starEach es X.env := by rfl) (hpl : (backTo pos (starEach es X.env)).any (·.1) = false := by rfl) : JE G X W (.Call (.Name x p) (e :: es) [] pos) (cCall f ma) := by
  obtain ⟨ta, pa, sa⟩ := ha.ex
  exact ⟨_, pe_callB hc hg hm hv pa hn hdb he hpl, call_core hs sa⟩
theorem je_callTy {TT : String} {x : Str} {r : List V → Hp → VK → Prop} {f : FL} {ma : MA} (hc : CallR X (.type TT) r) (hs : CaS G X.K r f) (hg : Gl X x) (hm : X.mg x = none) (hv : bootBuiltins x = some (.type TT)) (ha : JA G X W (e :: es) ma) (hn : x ≠ "__name__" := by decide)
    (hdb : (x == ("__debug__" : Str)) = false := by decide) (he : starEach (e :: es) X.env = (false, eval e X.env) :: starEach es X.env := by rfl) (hpl : (backTo pos (starEach es X.env)).any (·.1) = false := by rfl) : JE G X W (.Call (.Name x p) (e :: es) [] pos) (cCall f ma) := by
  obtain ⟨ta, pa, sa⟩ := ha.ex
  exact ⟨_, pe_callTy hc hg hm hv pa hn hdb he hpl, call_core hs sa⟩
end
section
variable {G : String → Addr} {K : PySem.W.Frag} {A : Act} {T T' : Sto} {F F' : Fr} {σ : St} {g g' : Gs} {W : WX} {H H' : Hp} {φ : Nat → Addr}
/-- one argument -/
def f1 (f : Fr → Sto → OV → Option RV) : FL := fun F T xs => match xs with
  | [x] => f F T x
  | _ => none
theorem cas1 {r : List V → Hp → VK → Prop} {f : Fr → Sto → OV → Option RV} (h : ∀ A T F σ g x v z, Iv G K A T F σ g → ODen G K T σ g x v → f F T x = some z →
    ∀ Q : VK, (∀ g' v, Iv G K A T F σ g' → Le T T g g' → RDen G K A T F σ g' z v → Q v g'.H) → r [v] g.H Q) : CaS G K r (f1 f) := by
  intro A T F σ g xs vs z I hx e Q q
  match xs, e with
  | [x], e =>
    obtain ⟨v, w, rfl, d, rfl⟩ := hx
    exact h A T F σ g x v z I d e Q q
/-! ### len -/
def lenV : Vw → Option Nat
  | .d (.str s) => if s.length ≤ LINE then some s.length else none
  | .d (.tup xs) => some xs.length
  | .d (.rot xs) => some xs.length
  | .r xs => some xs.length
  | .t xs => some xs.length
  | .c (.lst xs) => some xs.length
  | .c (.lse xs) => some xs.length
  | .c (.dic ks) => some ks.length
  | _ => none
def lenF : Fr → Sto → OV → Option RV := fun F T x => ((look F T x).bind lenV).map fun n => .o (.e (.p (.int (n : Nat))))
def LenX (K : PySem.W.Frag) (x : V) (H : Hp) (n : Nat) : Prop := LenV K x H n ∨ ∃ a kvs, x = .ref a ∧ Rd H a (.dK kvs) ∧ n = kvs.length
theorem call_lenX {X : Cx} : CallR X (.builtin "len") (fun xs H Q => ∃ x n, xs = [x] ∧ LenX X.K x H n ∧ Q (.int n) H) := by
  intro pins s σ H xs us Q I r ⟨x, n, e, h, q⟩
  rcases h with h | ⟨a, kvs, rfl, rd, rfl⟩
  · exact call_len pins s σ H xs us Q I r ⟨x, n, e, h, q⟩
  · subst e
    obtain ⟨u, rfl, ru⟩ := vals1 r
    cases ru
    exact d_len I rd fun t s' I' => ⟨.int kvs.length, H, I', ⟨t, rfl⟩, q⟩
theorem len_den {w : Vw} {v : V} {n : Nat} (h : VwDen G K g w v) (e : lenV w = some n) : LenX K v g.H n := by
  cases w with
  | d x =>
    cases x with
    | str c =>
      obtain rfl : v = .str c := h
      have e' : (if c.length ≤ LINE then some c.length else none) = some n := e
      split at e'
      · rename_i hl
        cases e'
        exact .inl ⟨line_le hl, rfl⟩
      · cases e'
    | tup xs => cases e; obtain ⟨a, vs, rfl, s, l⟩ := h; exact .inl (.inr ⟨vs, .inl (.inl (vw_le.fm a (.tup vs) trivial s)), l.length.symm⟩)
    | rot xs => cases e; obtain ⟨a, vs, rfl, s, l⟩ := h; exact .inl (.inr ⟨vs, vw_le.t s, l.length.symm⟩)
    | _ => cases e
  | r xs => cases e; obtain ⟨a, vs, rfl, s, l⟩ := h; exact .inl (.inl ⟨vs, s, l.length.symm⟩)
  | t xs => cases e; obtain ⟨a, vs, rfl, s, l⟩ := h; exact .inl (.inr ⟨vs, .inl (.inl s), l.length.symm⟩)
  | c c =>
    obtain ⟨a, rfl, h⟩ := h
    cases c with
    | lst xs => cases e; obtain ⟨vs, s, l⟩ := h; exact .inl (.inl ⟨vs, .inl (.inl s), l.length.symm⟩)
    | lse xs => cases e; obtain ⟨vs, s, l⟩ := h; exact .inl (.inl ⟨vs, .inl (.inl s), l.length.symm⟩)
    | dic ks => cases e; obtain ⟨vs, s, l⟩ := h; exact .inr ⟨a, vs, rfl, s, l.length.symm⟩
    | _ => cases e
theorem cas_len : CaS G K (fun xs H Q => ∃ x n, xs = [x] ∧ LenX K x H n ∧ Q (.int n) H) (f1 lenF) := by
  refine cas1 fun A T F σ g x v z I d e Q q => ?_
  obtain ⟨n, e1, rfl⟩ := map_inv e
  cases e2 : look F T x with
  | none => rw [e2] at e1; cases e1
  | some w =>
    rw [e2] at e1
    exact ⟨v, n, rfl, len_den (look_den I d e2) e1, q g _ I Le.refl ⟨scp, rfl⟩⟩
/-! ### int, abs, bool -/
def intF : Fr → Sto → OV → Option RV := fun _ _ x => match x with
  | .e (.p (.int i)) => some (.o (.e (.p (.int i))))
  | .e (.p (.bl b)) => some (.o (.e (.p (.int (if b then 1 else 0)))))
  | _ => none
theorem cas_int : CaS G K (fun xs H Q => (∃ i, xs = [.int i] ∧ Q (.int i) H) ∨ ∃ k, xs = [.bl k] ∧ Q (.int (if k then 1 else 0)) H) (f1 intF) := by
  refine cas1 fun A T F σ g x v z I d e Q q => ?_
  unfold intF at e
  split at e
  · cases e
    obtain ⟨_, rfl⟩ := d
    exact .inl ⟨_, rfl, q g _ I Le.refl ⟨scp, rfl⟩⟩
  · cases e
    obtain ⟨_, rfl⟩ := d
    exact .inr ⟨_, rfl, q g _ I Le.refl ⟨scp, rfl⟩⟩
  · cases e
def absF : Fr → Sto → OV → Option RV := fun _ _ x => match x with
  | .e (.p (.int i)) => some (.o (.e (.p (.int (if i < 0 then -i else i)))))
  | _ => none
theorem cas_abs : CaS G K (fun xs H Q => ∃ i, xs = [.int i] ∧ Q (.int (if i < 0 then -i else i)) H) (f1 absF) := by
  refine cas1 fun A T F σ g x v z I d e Q q => ?_
  unfold absF at e
  split at e
  · cases e
    obtain ⟨_, rfl⟩ := d
    exact ⟨_, rfl, q g _ I Le.refl ⟨scp, rfl⟩⟩
  · cases e
/-! ### isinstance -/
inductive Tg where
  | b (n : String) | o (c : String)
def tagW : Vw → Option Tg
  | .d .non => some (.b "NoneType")
  | .d (.bl _) => some (.b "bool")
  | .d (.int _) => some (.b "int")
  | .d (.str _) => some (.b "str")
  | .d (.tup _) => some (.b "tuple")
  | .t _ => some (.b "tuple")
  | .c (.lst _) => some (.b "list")
  | .c (.lse _) => some (.b "list")
  | .c (.dic _) => some (.b "dict")
  | .c (.dce _) => some (.b "dict")
  | .c (.ins c _) => some (.o c)
  | _ => none
def tagV (G : String → Addr) : Tg → Value
  | .b n => .type n
  | .o c => .ref (G c)
/-- what isinstance asks of an own class -/
structure ClsF (K : PySem.W.Frag) (C : Addr) : Prop where
  cl : Cls K C
  ha : PySem.W.findIn K (.ref C) "__class__" = some (some (.builtin "object.__class__"))
  hn : PySem.W.specialIn K (.builtin "object.__class__") "__get__" = some (some (.builtin "getset_descriptor.__get__"))
  htk : PySem.W.takesIn K (.builtin "object.__class__") = some true
  hm : PySem.W.mroIn K C (.type "object") = some true
theorem tag_den {w : Vw} {v : V} {t : Tg} (h : VwDen G K g w v) (e : tagW w = some t) (hc : ∀ c, t = .o c → ClsF K (G c)) : TyX K g.H v (tagV G t) := by
  cases w with
  | d x =>
    cases x with
    | non => cases e; obtain rfl : v = .non := h; exact .base .non
    | bl c => cases e; obtain rfl : v = .bl c := h; exact .base (.bl c)
    | int c => cases e; obtain rfl : v = .int c := h; exact .base (.int c)
    | str c => cases e; obtain rfl : v = .str c := h; exact .base (.str c)
    | tup xs => cases e; obtain ⟨a, vs, rfl, s, l⟩ := h; exact .base (.tup (vw_le.fm a (.tup vs) trivial s))
    | _ => cases e
  | r xs => cases e
  | t xs => cases e; obtain ⟨a, vs, rfl, s, l⟩ := h; exact .base (.tup s)
  | c c =>
    obtain ⟨a, rfl, h⟩ := h
    cases c with
    | lst xs => cases e; obtain ⟨vs, s, l⟩ := h; exact .base (.lst s)
    | lse xs => cases e; obtain ⟨vs, s, l⟩ := h; exact .base (.lst s)
    | dic ks =>
      cases e
      obtain ⟨vs, s, l⟩ := h
      rcases s with s | ⟨o, s⟩
      · exact .base (.dK s)
      · exact .fDict s
    | dce ks =>
      cases e
      obtain ⟨vs, s, l⟩ := h
      rcases s with s | ⟨o, s⟩
      · exact .base (.dK s)
      · exact .fDict s
    | dit ks => cases e
    | ins k fs =>
      cases e
      obtain ⟨dx, us, s, l⟩ := h
      have c := hc k rfl
      exact .base (.ins s c.cl c.ha c.hn c.htk c.hm)
/-- the answer for a value of the tag t: of built-in types by their table -/
def isB (c : String) (own : String → Option Bool) : Tg → Option Bool
  | .b n => some (n == c || (n == "bool" && c == "int"))
  | .o k => own k
def isiF (tab : Tg → Option Bool) : Fr → Sto → OV → Option RV := fun F T x => (((look F T x).bind tagW).bind tab).map fun b => .o (.e (.p (.bl b)))
def KiT (G : String → Addr) (K : PySem.W.Frag) (u : Value) (tab : Tg → Option Bool) : Prop :=
  (∀ n b, tab (.b n) = some b → (n = "NoneType" ∨ n = "bool" ∨ n = "int" ∨ n = "str" ∨ n = "tuple" ∨ n = "list" ∨ n = "dict") → PySem.W.kitOne K (.type n) u = some b) ∧ ∀ k b, tab (.o k) = some b → ClsF K (G k) ∧ PySem.W.kitOne K (.ref (G k)) u = some b
theorem tagW_names {w : Vw} {n : String} (e : tagW w = some (.b n)) : n = "NoneType" ∨ n = "bool" ∨ n = "int" ∨ n = "str" ∨ n = "tuple" ∨ n = "list" ∨ n = "dict" := by
  cases w with
  | d x => cases x <;> first | (cases e; simp; done) | cases e
  | r xs => cases e
  | t xs => cases e; simp
  | c c => cases c <;> first | (cases e; simp; done) | cases e
theorem cas_isi {c : D} {u : Value} {tab : Tg → Option Bool} (hk : KiT G K u tab) (hv : ∀ v, Den G K g.W c v → True) {cv : V} (kc : ClsV cv u) :
    ∀ A T F σ g x v z, Iv G K A T F σ g → ODen G K T σ g x v → isiF tab F T x = some z → ∀ Q : VK, (∀ g' v, Iv G K A T F σ g' → Le T T g g' → RDen G K A T F σ g' z v → Q v g'.H) → rIsi K [v, cv] g.H Q := by
  intro A T F σ g x v z I d e Q q
  obtain ⟨b, e1, rfl⟩ := map_inv e
  cases e2 : look F T x with
  | none => rw [e2] at e1; cases e1
  | some w =>
    rw [e2] at e1
    have e1' : (tagW w).bind tab = some b := e1
    cases e3 : tagW w with
    | none => rw [e3] at e1'; cases e1'
    | some t =>
      rw [e3] at e1'
      have e4 : tab t = some b := e1'
      refine ⟨v, cv, tagV G t, u, b, rfl, kc, tag_den (look_den I d e2) e3 (fun k hk' => ?_), ?_, q g _ I Le.refl ⟨scp, rfl⟩⟩
      · subst hk'
        exact (hk.2 k b e4).1
      · cases t with
        | b n => exact hk.1 n b e4 (tagW_names e3)
        | o k => exact (hk.2 k b e4).2
end
section
variable {G : String → Addr} {X : Cx} {W : WX} {pos p : Pos} {e a b : Expr} {es : List Expr}
def cIsi (tab : Tg → Option Bool) (m : MO) : MO := fun F T => (m F T).bind fun x F T => match isiF tab F T x with
  | some (.o z) => .ok z F T
  | _ => .bad
theorem jo_isi {m : MO} {u : Value} {cv : V} {tab : Tg → Option Bool} (hk : KiT G X.K u tab) (kc : ClsV cv u) (hb : PE X b (tC cv)) (ha : JO G X W a m) (hg : Gl X "isinstance") (hm : X.mg "isinstance" = none)
    (h1 : starEach [a, b] X.env = (false, eval a X.env) :: starEach [b] X.env := by rfl) (h2 : starEach [b] X.env = (false, eval b X.env) :: starEach [] X.env := by rfl) (hpl : (backTo pos (starEach [b] X.env)).any (·.1) = false := by rfl) :
    JO G X W (.Call (.Name "isinstance" p) [a, b] [] pos) (cIsi tab m) := by
  obtain ⟨ta, pa, sa⟩ := ha.ex
  refine ⟨_, pe_callB call_isi hg hm (by decide +kernel) (pa_cons pa (pa_cons hb pa_nil h2) h1) (by decide) (by decide) h1 hpl, fun A T F σ g Q I p => ?_⟩
  refine sa A T F σ g _ I ((post_bind p).imp (fun x F1 T1 p1 g1 v I1 l1 d1 => ?_) fun _ _ _ q => q)
  have p1' : Rs.Post (match isiF tab F1 T1 x with | some (.o z) => Rs.ok z F1 T1 | _ => .bad) _ _ := p1
  cases e : isiF tab F1 T1 x with
  | none => rw [e] at p1'; exact p1'.elim
  | some z =>
    rw [e] at p1'
    cases z with
    | fr c => exact p1'.elim
    | o z => exact cas_isi (c := .non) (g := g) hk (fun _ _ => trivial) kc A T1 F1 σ g1 x v _ I1 d1 e Q fun g3 u I3 l3 d3 => p1' g3 u I3 (l1.trans l3) d3
theorem kiT_B {c : String} {own : String → Option Bool} (h : ∀ n, (n = "NoneType" ∨ n = "bool" ∨ n = "int" ∨ n = "str" ∨ n = "tuple" ∨ n = "list" ∨ n = "dict") → PySem.W.kitOne X.K (.type n) (.type c) = some (n == c || (n == "bool" && c == "int")))
    (ho : ∀ k b, own k = some b → ClsF X.K (G k) ∧ PySem.W.kitOne X.K (.ref (G k)) (.type c) = some b) : KiT G X.K (.type c) (isB c own) :=
  ⟨fun n b e hn => by
    cases e
    exact h n hn, fun k b e => ho k b e⟩
/-! ### len, int, abs -/
theorem je_len {ma : MA} (hg : Gl X "len") (hm : X.mg "len" = none) (ha : JA G X W (e :: es) ma) (he : starEach (e :: es) X.env = (false, eval e X.env) :: starEach es X.env := by rfl) (hpl : (backTo pos (starEach es X.env)).any (·.1) = false := by rfl) :
    JE G X W (.Call (.Name "len" p) (e :: es) [] pos) (cCall (f1 lenF) ma) := je_callB call_lenX cas_len hg hm boot_len ha (by decide) (by decide) he hpl
theorem je_int {ma : MA} (hg : Gl X "int") (hm : X.mg "int" = none) (ha : JA G X W (e :: es) ma) (he : starEach (e :: es) X.env = (false, eval e X.env) :: starEach es X.env := by rfl) (hpl : (backTo pos (starEach es X.env)).any (·.1) = false := by rfl) :
    JE G X W (.Call (.Name "int" p) (e :: es) [] pos) (cCall (f1 intF) ma) := je_callTy call_int1 cas_int hg hm (by decide +kernel) ha (by decide) (by decide) he hpl
theorem je_abs {ma : MA} (hg : Gl X "abs") (hm : X.mg "abs" = none) (ha : JA G X W (e :: es) ma) (he : starEach (e :: es) X.env = (false, eval e X.env) :: starEach es X.env := by rfl) (hpl : (backTo pos (starEach es X.env)).any (·.1) = false := by rfl) :
    JE G X W (.Call (.Name "abs" p) (e :: es) [] pos) (cCall (f1 absF) ma) := je_callB call_abs cas_abs hg hm (by decide +kernel) ha (by decide) (by decide) he hpl
end
end Sim

set_option Elab.async false
set_option linter.all false
set_option maxRecDepth 100000
set_option maxHeartbeats 4000000
namespace Sim
open PySem L2
variable [EXC]

/-! ### statements -/
def sNx : MS := fun F T => .nx F T
def sBk : MS := fun F T => .bk F T
def sCt : MS := fun F T => .ct F T
def RS.then (r : RS) (f : Fr → Sto → RS) : RS := match r with
  | .nx F T => f F T
  | r => r
def Rs.st {α : Type} (r : Rs α) (f : α → Fr → Sto → RS) : RS := match r with
  | .ok a F T => f a F T
  | .exc x F T => .exc x F T
  | .bad => .bad
def sSeq (m n : MS) : MS := fun F T => (m F T).then n
def sIf (t : MT) (m n : MS) : MS := fun F T => (t F T).st fun b F T => if b = true then m F T else n F T
/-- x = e: an element -/
def sAsg (i : Nat) (m : MO) : MS := fun F T => (m F T).st fun r F T => match r with
  | .e x => .nx (F.set i (.e x)) T
  | .sl _ => .bad
/-- x = e: a new root stays one -/
def sAsgO (i : Nat) (m : ME) : MS := fun F T => (m F T).st fun r F T => match r with
  | .fr c => .nx (F.set i (.o c)) T
  | .o (.e x) => .nx (F.set i (.e x)) T
  | .o (.sl _) => .bad
def sDrop (m : ME) : MS := fun F T => (m F T).st fun _ F T => .nx F T
def sRet (m : ME) : MS := fun F T => (m F T).st fun r F T => match r with
  | .o (.sl i) => match F[i]? with
    | some (.o c) => .rt (.fr c) (F.set i .u) T
    | _ => .bad
  | r => .rt r F T
def sRetN : MS := fun F T => .rt (.o (.e (.p .non))) F T
section
variable {G : String → Addr} {K : PySem.W.Frag} {A : Act} {T T' T0 : Sto} {F F' : Fr} {σ : St} {g g' g0 : Gs} {W : WX} {D : Ends}
theorem st_post {α : Type} {r : Rs α} {f : α → Fr → Sto → RS} (h : (r.st f).Post G K W A T g D) : r.Post (fun a F1 T1 => (f a F1 T1).Post G K W A T g D) (fun x F1 T1 => ∀ g' σ' cls d, Iv G K A T1 F1 σ' g' → Le T T1 g g' → XDen G K g' x cls d → W cls d σ' g'.H) := by
  cases r <;> exact h
/-- the same, seen from later on -/
theorem RS.Post.le {r : RS} (h : r.Post G K W A T0 g0 D) (l : Le T0 T g0 g) : r.Post G K W A T g D := by
  cases r with
  | nx F T1 => exact fun g' σ' I l1 => h g' σ' I (l.trans l1)
  | rt r F T1 => exact fun g' σ' v I l1 d => h g' σ' v I (l.trans l1) d
  | bk F T1 => exact fun g' σ' I l1 => h g' σ' I (l.trans l1)
  | ct F T1 => exact fun g' σ' I l1 => h g' σ' I (l.trans l1)
  | exc x F T1 => exact fun g' σ' cls d I l1 xd => h g' σ' cls d I (l.trans l1) xd
  | bad => exact h
theorem st_wish {x : Xc} {F1 : Fr} {T1 : Sto} (h : ∀ g' σ' cls d, Iv G K A T1 F1 σ' g' → Le T T1 g g' → XDen G K g' x cls d → W cls d σ' g'.H) : Wish G K W A T σ g x F1 T1 := fun g' cls d I l xd => h g' σ cls d I l xd
theorem seq_core {t u : TS} {m n : MS} (h1 : SS G K W t m) (h2 : SS G K W u n) : SS G K W (tSeq t u) (sSeq m n) := by
  intro A T F σ g D I p
  refine h1 A T F σ g { D with nx := u D } I ?_
  have p' : (RS.then (m F T) n).Post G K W A T g D := p
  cases e : m F T with
  | nx F1 T1 =>
    rw [e] at p'
    exact fun g1 σ1 I1 l1 => h2 A T1 F1 σ1 g1 D I1 (RS.Post.le p' l1)
  | rt r F1 T1 => rw [e] at p'; exact p'
  | bk F1 T1 => rw [e] at p'; exact p'
  | ct F1 T1 => rw [e] at p'; exact p'
  | exc x F1 T1 => rw [e] at p'; exact p'
  | bad => rw [e] at p'; exact p'
end
section
variable {G : String → Addr} {X : Cx} {W : WX} {pos : Pos} {e : Expr} {st : Stmt} {rest : List Stmt}
theorem jss_nil : JSs G X W [] sNx := ⟨tNext, pss_nil, fun A T F σ g D I p => p g σ I Le.refl⟩
theorem jss_cons {m n : MS} (h1 : JS G X W st m) (h2 : JSs G X W rest n) : JSs G X W (st :: rest) (sSeq m n) := by
  obtain ⟨t, p1, s1⟩ := h1.ex
  obtain ⟨u, p2, s2⟩ := h2.ex
  exact ⟨_, pss_cons p1 p2, seq_core s1 s2⟩
theorem jss_one {m : MS} (h1 : JS G X W st m) : JSs G X W [st] m := by
  obtain ⟨t, p1, s1⟩ := h1.ex
  exact ⟨_, pss_one p1, s1⟩
theorem js_pass : JS G X W (.Pass pos) sNx := ⟨tNext, ps_pass, fun A T F σ g D I p => p g σ I Le.refl⟩
theorem js_break : JS G X W (.Break pos) sBk := ⟨tBreak, ps_break, fun A T F σ g D I p => p g σ I Le.refl⟩
theorem js_continue : JS G X W (.Continue pos) sCt := ⟨tCont, ps_continue, fun A T F σ g D I p => p g σ I Le.refl⟩
theorem js_retN : JS G X W (.Return none pos) sRetN := ⟨tRetN, ps_retN, fun A T F σ g D I p => p g σ .non I Le.refl ⟨scp, rfl⟩⟩
theorem js_ret {m : ME} (h : JE G X W e m) : JS G X W (.Return (some e) pos) (sRet m) := by
  obtain ⟨te, pe, s⟩ := h.ex
  refine ⟨_, ps_ret pe, fun A T F σ g D I p => ?_⟩
  refine s A T F σ g D.rt I ((st_post p).imp (fun r F1 T1 p1 g1 v I1 l1 d1 => ?_) fun _ _ _ q => st_wish q)
  cases r with
  | fr c => exact p1 g1 σ v I1 l1 d1
  | o x =>
    cases x with
    | e x => exact p1 g1 σ v I1 l1 d1
    | sl i =>
      have p1' : RS.Post G X.K W A T g D (match F1[i]? with | some (.o c) => .rt (.fr c) (F1.set i .u) T1 | _ => .bad) := p1
      split at p1'
      · rename_i c hc
        obtain ⟨a, h1, I2, R⟩ := I1.takeO hc
        have e : σ[i]? = some (some v) := d1
        rw [h1] at e
        have e2 : V.ref a = v := by injection e with z; injection z
        exact p1' g1 σ v I2 l1 ⟨a, e2.symm, R⟩
      · exact p1'.elim
theorem js_drop {m : ME} (h : JE G X W e m) (hs : swapsWith e none pos.line X.env = pure false := by rfl) : JS G X W (.Expr e pos) (sDrop m) := by
  obtain ⟨te, pe, s⟩ := h.ex
  refine ⟨_, ps_expr pe hs, fun A T F σ g D I p => ?_⟩
  exact s A T F σ g _ I ((st_post p).imp (fun r F1 T1 p1 g1 v I1 l1 d1 => p1 g1 σ I1 l1) fun _ _ _ q => st_wish q)
theorem js_if {t : MT} {m n : MS} {c : Expr} {a b : List Stmt} (hc : JT G X W c t) (ha : JSs G X W a m) (hb : JSs G X W b n) : JS G X W (.If c a b pos) (sIf t m n) := by
  obtain ⟨tc, pc, sc⟩ := hc.ex
  obtain ⟨ta, pa, sa⟩ := ha.ex
  obtain ⟨tb, pb, sb⟩ := hb.ex
  refine ⟨_, ps_if pc pa pb, fun A T F σ g D I p => ?_⟩
  refine sc A T F σ g _ I ((st_post p).imp (fun r F1 T1 p1 g1 I1 l1 => ?_) fun _ _ _ q => st_wish q)
  cases r with
  | true => exact sa A T1 F1 σ g1 D I1 (RS.Post.le (r := m F1 T1) p1 l1)
  | false => exact sb A T1 F1 σ g1 D I1 (RS.Post.le (r := n F1 T1) p1 l1)
theorem asg_core {K : PySem.W.Frag} {te : TE} {m : MO} {i : Nat} (h : SO G K W te m) : SS G K W (tAsg te (gName i)) (sAsg i m) := by
  intro A T F σ g D I p
  refine h A T F σ g _ I ((st_post p).imp (fun r F1 T1 p1 g1 v I1 l1 d1 => ?_) fun _ _ _ q => st_wish q)
  cases r with
  | e x => exact p1 g1 _ (I1.setE d1.1 d1.2) l1
  | sl j => exact False.elim p1
theorem asgO_core {K : PySem.W.Frag} {te : TE} {m : ME} {i : Nat} (h : SE G K W te m) : SS G K W (tAsg te (gName i)) (sAsgO i m) := by
  intro A T F σ g D I p
  refine h A T F σ g _ I ((st_post p).imp (fun r F1 T1 p1 g1 v I1 l1 d1 => ?_) fun _ _ _ q => st_wish q)
  cases r with
  | o x =>
    cases x with
    | e x => exact p1 g1 _ (I1.setE d1.1 d1.2) l1
    | sl j => exact False.elim p1
  | fr c =>
    obtain ⟨a, rfl, R⟩ := d1
    exact p1 g1 _ (I1.setO R) l1
theorem js_asg {m : MO} {i : Nat} {x : Str} {xp : Pos} (hN : X.N.Nodup) (hi : X.N[i]? = some x) (hx : Loc X.env.scope x) (h : JO G X W e m) (hf : X.fn x = true ∨ X.env.scope.names.lookup x = some .local := by first | exact .inl rfl | exact .inr rfl)
    (hs : swapsWithSole [.Name x xp] e pos.line X.env = pure false := by rfl) (hw : swappedStores [.Name x xp] e X.env = pure none := by rfl) (h1 : (assignEach [.Name x xp] X.env).map (·.2) = [assign (.Name x xp) X.env] := by rfl) : JS G X W (.Assign [.Name x xp] e pos) (sAsg i m) := by
  obtain ⟨te, pe, s⟩ := h.ex
  exact ⟨_, ps_asg pe (pg_name hN hi hx hf) hs hw h1, asg_core s⟩
theorem js_asgO {m : ME} {i : Nat} {x : Str} {xp : Pos} (hN : X.N.Nodup) (hi : X.N[i]? = some x) (hx : Loc X.env.scope x) (h : JE G X W e m) (hf : X.fn x = true ∨ X.env.scope.names.lookup x = some .local := by first | exact .inl rfl | exact .inr rfl)
    (hs : swapsWithSole [.Name x xp] e pos.line X.env = pure false := by rfl) (hw : swappedStores [.Name x xp] e X.env = pure none := by rfl) (h1 : (assignEach [.Name x xp] X.env).map (·.2) = [assign (.Name x xp) X.env] := by rfl) : JS G X W (.Assign [.Name x xp] e pos) (sAsgO i m) := by
  obtain ⟨te, pe, s⟩ := h.ex
  exact ⟨_, ps_asg pe (pg_name hN hi hx hf) hs hw h1, asgO_core s⟩
/-- x += e -/
def sAug (f : F2) (i : Nat) (m : MO) : MS := fun F T => match F[i]? with
  | some (.e x) => (m F T).st fun y F T => match f F T (.e x) y with
    | some (.o (.e z)) => .nx (F.set i (.e z)) T
    | _ => .bad
  | _ => .bad
theorem js_aug {op : Operator} {r : R2} {f : F2} {m : MO} {i : Nat} {x : Str} {xp : Pos} (ho : OpR X (inplaceOp op) r) (hs : OpS G X.K r f) (hN : X.N.Nodup) (hi : X.N[i]? = some x) (hx : Loc X.env.scope x) (h : JO G X W e m)
    (hf : X.fn x = true ∨ X.env.scope.names.lookup x = some .local := by first | exact .inl rfl | exact .inr rfl) : JS G X W (.AugAssign (.Name x xp) op e pos) (sAug f i m) := by
  obtain ⟨te, pe, s⟩ := h.ex
  refine ⟨_, ps_aug hN hi hx pe ho hf, fun A T F σ g D I p => ?_⟩
  have p' : RS.Post G X.K W A T g D (match F[i]? with | some (.e x) => ((m F T).st fun y F T => (match f F T (.e x) y with | some (.o (.e z)) => .nx (F.set i (.e z)) T | _ => .bad)) | _ => .bad) := p
  split at p'
  · rename_i y hy
    obtain ⟨h1, v, h2, h3⟩ := I.slot i _ hy
    refine ⟨v, h2, s A T F σ g _ I ((st_post p').imp (fun z F1 T1 p1 g1 w I1 l1 d1 => ?_) fun _ _ _ q => st_wish q)⟩
    have p1' : RS.Post G X.K W A T g D (match f F1 T1 (.e y) z with | some (.o (.e z)) => .nx (F1.set i (.e z)) T1 | _ => .bad) := p1
    split at p1'
    · rename_i q hq
      refine hs A T1 F1 σ g1 (.e y) z v w _ I1 (l1.o ⟨h1, h3⟩) d1 hq _ fun g2 u I2 l2 d2 => ?_
      exact p1' g2 _ (I2.setE d2.1 d2.2) (l1.trans l2)
    · exact p1'.elim
  · exact p'.elim
def iaddF : F2 := orF addI addS
theorem js_augAdd {m : MO} {i : Nat} {x : Str} {xp : Pos} (hN : X.N.Nodup) (hi : X.N[i]? = some x) (hx : Loc X.env.scope x) (h : JO G X W e m) (hf : X.fn x = true ∨ X.env.scope.names.lookup x = some .local := by first | exact .inl rfl | exact .inr rfl) :
    JS G X W (.AugAssign (.Name x xp) .Add e pos) (sAug iaddF i m) := js_aug (iop_add.or iop_add_str) ((ops_i0 fun _ _ => rfl).or ops_addS) hN hi hx h hf
theorem js_augSub {m : MO} {i : Nat} {x : Str} {xp : Pos} (hN : X.N.Nodup) (hi : X.N[i]? = some x) (hx : Loc X.env.scope x) (h : JO G X W e m) (hf : X.fn x = true ∨ X.env.scope.names.lookup x = some .local := by first | exact .inl rfl | exact .inr rfl) :
    JS G X W (.AugAssign (.Name x xp) .Sub e pos) (sAug subF i m) := js_aug iop_sub (ops_i0 fun _ _ => rfl) hN hi hx h hf
/-- ahead of a statement: the root in a slot becomes plain data -/
def sFz (i : Nat) (m : MS) : MS := fun F T => match F[i]? with
  | some (.o c) => match c.fz with
    | some d => m (F.set i (.e (.p d))) T
    | none => .bad
  | some (.e _) => m F T
  | _ => .bad
theorem fz_core {K : PySem.W.Frag} {t : TS} {m : MS} {i : Nat} (h : SS G K W t m) : SS G K W t (sFz i m) := by
  intro A T F σ g D I p
  have p' : RS.Post G K W A T g D (match F[i]? with | some (.o c) => (match c.fz with | some d => m (F.set i (.e (.p d))) T | none => .bad) | some (.e _) => m F T | _ => .bad) := p
  split at p'
  · rename_i c hc
    split at p'
    · rename_i d hd
      obtain ⟨a, h1, I1, R⟩ := I.takeO hc
      obtain ⟨I2, l2, hden⟩ := I1.freeze R hd
      have I3 := I2.setE (i := i) (x := .p d) (v := .ref a) scp hden
      rw [List.set_set, set_id h1] at I3
      exact h A T _ σ ⟨minus g.own a, g.φ, g.H⟩ D I3 (RS.Post.le p' l2)
    · exact p'.elim
  · exact h A T F σ g D I p'
  · exact p'.elim
theorem js_fz {m : MS} (i : Nat) (h : JS G X W st m) : JS G X W st (sFz i m) := by
  obtain ⟨t, p1, s1⟩ := h.ex
  exact ⟨_, p1, fz_core s1⟩
/-- .. forgotten -/
def sUn (i : Nat) (m : MS) : MS := fun F T => m (F.set i .u) T
end

/-! ### targets -/
abbrev MG := E → Fr → Option Fr
def gN (i : Nat) : MG := fun x F => some (F.set i (.e x))
/-- a tuple's items -/
def tupE : E → Option (List E)
  | .p (.tup ds) => some (ds.map .p)
  | .p (.rot ds) => some (ds.map .p)
  | .tp es => some es
  | _ => none
abbrev MGs := List E → Fr → Option Fr
def gN0 : MGs := fun xs F => match xs with
  | [] => some F
  | _ => none
def gC (m : MG) (n : MGs) : MGs := fun xs F => match xs with
  | x :: r => (m x F).bind (n r)
  | _ => none
def gT (n : MGs) : MG := fun x F => (tupE x).bind fun xs => n xs F
def TgOk (G : String → Addr) (K : PySem.W.Frag) (t : TG) (m : MG) (ss : List Nat) : Prop := ∀ A T F F' σ g x v (Q : St → Hp → Prop), Iv G K A T F σ g → x.sc T.length = true → EDen G K g.W g.φ x v → m x F = some F' →
  (∀ σ', Iv G K A T F' σ' g → (∀ vs : List Nat, (∀ i ∈ ss, i ∈ vs) → wipe σ' vs = wipe σ vs) → Q σ' g.H) → t v σ g.H Q
def TgsOk (G : String → Addr) (K : PySem.W.Frag) (t : TGs) (m : MGs) (ss : List Nat) : Prop := ∀ A T F F' σ g xs vs (Q : St → Hp → Prop), Iv G K A T F σ g → E.scL T.length xs = true → EDenL G K g.W g.φ xs vs → m xs F = some F' →
  (∀ σ', Iv G K A T F' σ' g → (∀ ws : List Nat, (∀ i ∈ ss, i ∈ ws) → wipe σ' ws = wipe σ ws) → Q σ' g.H) → t vs σ g.H Q
structure JG (G : String → Addr) (X : Cx) (tg : Expr) (m : MG) (ss : List Nat) : Prop where
  ex : ∃ t, PG X tg t ∧ TgOk G X.K t m ss
structure JGs (G : String → Addr) (X : Cx) (tg : List Expr) (m : MGs) (ss : List Nat) : Prop where
  ex : ∃ t, PGs X tg t ∧ TgsOk G X.K t m ss
theorem wipe_set {σ : St} {i : Nat} {x : Option V} : ∀ {vs : List Nat}, i ∈ vs → wipe (σ.set i x) vs = wipe σ vs
  | [], h => by simp at h
  | w :: r, h => by
    show (wipe (σ.set i x) r).set w none = (wipe σ r).set w none
    by_cases e : i ∈ r
    · rw [wipe_set e]
    · have ei : i = w := by
        rcases List.mem_cons.mp h with z | z
        · exact z
        · exact absurd z e
      subst ei
      have com : ∀ (vs : List Nat) (σ : St), i ∉ vs → wipe (σ.set i x) vs = (wipe σ vs).set i x := by
        intro vs
        induction vs with
        | nil => intro σ _; rfl
        | cons a r ih =>
          intro σ hn
          show (wipe (σ.set i x) r).set a none = ((wipe σ r).set a none).set i x
          rw [ih σ (fun z => hn (List.mem_cons_of_mem _ z))]
          exact List.set_comm _ _ (fun z => hn (by rw [z]; exact List.mem_cons_self))
      rw [com r σ e, List.set_set]
section
variable {G : String → Addr} {X : Cx} {pos : Pos}
theorem jg_name {i : Nat} {x : Str} (hN : X.N.Nodup) (hi : X.N[i]? = some x) (hx : Loc X.env.scope x) (hf : X.fn x = true ∨ X.env.scope.names.lookup x = some .local := by first | exact .inl rfl | exact .inr rfl) : JG G X (.Name x pos) (gN i) [i] :=
  ⟨_, pg_name hN hi hx hf, fun A T F F' σ g x v Q I sc h e q => by
    cases e
    exact q _ (I.setE sc h) fun vs hv => wipe_set (hv i List.mem_cons_self)⟩
theorem jgs_nil : JGs G X [] gN0 [] := ⟨_, pgs_nil, fun A T F F' σ g xs vs Q I sc h e q => by
  match xs, e with
  | [], e =>
    cases e
    exact ⟨h, q σ I fun _ _ => rfl⟩⟩
theorem jgs_cons {e : Expr} {es : List Expr} {m : MG} {n : MGs} {ss rs : List Nat} (h1 : JG G X e m ss) (h2 : JGs G X es n rs) (hs : (assignEach (e :: es) X.env).map (·.2) = assign e X.env :: (assignEach es X.env).map (·.2) := by rfl) : JGs G X (e :: es) (gC m n) (ss ++ rs) := by
  obtain ⟨t, p1, s1⟩ := h1.ex
  obtain ⟨u, p2, s2⟩ := h2.ex
  refine ⟨_, pgs_cons p1 p2 hs, fun A T F F' σ g xs vs Q I sc h e q => ?_⟩
  match xs, e, h, sc with
  | x :: r, e, ⟨v, w, ev, h1, h2⟩, sc =>
    rw [E.scL] at sc
    obtain ⟨c1, c2⟩ := Bool.and_eq_true_iff.mp sc
    have e' : (m x F).bind (n r) = some F' := e
    cases z : m x F with
    | none => rw [z] at e'; cases e'
    | some F1 =>
      rw [z] at e'
      refine ⟨v, w, ev, s1 A T F F1 σ g x v _ I c1 h1 z fun σ1 I1 k1 => ?_⟩
      exact s2 A T F1 F' σ1 g r w Q I1 c2 h2 e' fun σ2 I2 k2 => q σ2 I2 fun ws hw => (k2 ws fun i hi => hw i (List.mem_append_right _ hi)).trans (k1 ws fun i hi => hw i (List.mem_append_left _ hi))
theorem EDenL.ofL {K : PySem.W.Frag} {H : Hp} {φ : Nat → Addr} : ∀ {ds : List D} {vs : List V}, DenL G K H ds vs → EDenL G K H φ (ds.map .p) vs
  | [], _, h => h
  | _ :: _, _, ⟨v, w, e, h, r⟩ => ⟨v, w, e, h, EDenL.ofL r⟩
theorem scL_p {n : Nat} : ∀ {ds : List D}, E.scL n (ds.map .p) = true
  | [] => by rw [List.map_nil, E.scL]
  | d :: r => by
    rw [List.map_cons, E.scL, scL_p (ds := r), Bool.and_true]
    exact scp
theorem jg_tup {es : List Expr} {k : Nat} {n : MGs} {ss : List Nat} {c : Nat} (hc : X.calm = true) (h : JGs G X es n ss) (hl : ∀ xs F F', n xs F = some F' → xs.length = c)
    (hn : (assignEach es X.env).length = c := by rfl) (hst : (assignEach es X.env).findIdx? (·.1) = none := by rfl) : JG G X (.Tuple es k pos) (gT n) ss := by
  obtain ⟨t, p, s⟩ := h.ex
  refine ⟨_, pg_tup hc p hn hst, fun A T F F' σ g x v Q I sc h e q => ?_⟩
  have e' : (tupE x).bind (fun xs => n xs F) = some F' := e
  cases z : tupE x with
  | none => rw [z] at e'; cases e'
  | some xs =>
    rw [z] at e'
    have len := hl xs F F' e'
    cases x with
    | p d =>
      cases d with
      | tup ds =>
        cases z
        obtain ⟨a, vs, rfl, ha, l⟩ := h
        exact ⟨a, vs, rfl, .inl (.inl (vw_le.fm a (.tup vs) trivial ha)), by rw [l.length, ← len, List.length_map], s A T F F' σ g _ vs Q I scL_p (.ofL l) e' q⟩
      | rot ds =>
        cases z
        obtain ⟨a, vs, rfl, ha, l⟩ := h
        exact ⟨a, vs, rfl, vw_le.t ha, by rw [l.length, ← len, List.length_map], s A T F F' σ g _ vs Q I scL_p (.ofL l) e' q⟩
      | _ => cases z
    | loc m => cases z
    | tp es =>
      cases z
      obtain ⟨a, vs, rfl, ha, l⟩ := h
      exact ⟨a, vs, rfl, .inl (.inl (vw_le.fm a (.tup vs) trivial ha)), by rw [l.length, ← len], s A T F F' σ g _ vs Q I (by rw [E.sc] at sc; exact sc) l e' q⟩
theorem gN0_len {xs : List E} {F F' : Fr} (h : gN0 xs F = some F') : xs.length = 0 := by
  match xs, h with
  | [], _ => rfl
theorem gC_len {m : MG} {n : MGs} {k : Nat} (h : ∀ xs F F', n xs F = some F' → xs.length = k) : ∀ xs F F', gC m n xs F = some F' → xs.length = k + 1 := fun xs F F' e => by
  match xs, e with
  | x :: r, e =>
    have e' : (m x F).bind (n r) = some F' := e
    cases z : m x F with
    | none => rw [z] at e'; cases e'
    | some F1 => rw [z] at e'; rw [List.length_cons, h r F1 F' e']
end
end Sim

set_option Elab.async false
set_option linter.all false
set_option maxRecDepth 100000
set_option maxHeartbeats 4000000
namespace Sim
open PySem L2
variable [EXC]

/-! ### what is walked -/
/-- from g0 on: still as it was -/
structure On (n : Nat) (g0 g : Gs) : Prop where
  ext : Ext g0.W g.W
  agr : ∀ m, m < n → g.φ m = g0.φ m
/-- a value of a turn: one that stands there, or a tuple that is new -/
def Yl (G : String → Addr) (K : PySem.W.Frag) (g : Gs) (x : E) (v : V) (H' : Hp) : Prop :=
  (H' = g.H ∧ EDen G K g.W g.φ x v) ∨ ∃ p vs, g.H p = none ∧ H' = upd g.H p (.tup vs) ∧ v = .ref p ∧ ((∃ ds, x = .p (.tup ds) ∧ DenL G K g.W ds vs) ∨ ∃ xs, x = .tp xs ∧ EDenL G K g.W g.φ xs vs)
structure Good (G : String → Addr) (K : PySem.W.Frag) (J : It) (g0 : Gs) (n : Nat) (es : List E) : Prop where
  go : ∀ i g, On n g0 g → i < es.length → J.go i g.H
  stop : ∀ g, On n g0 g → J.stop es.length g.H
  yld : ∀ i g v H', On n g0 g → i < es.length → J.yld i g.H v H' → ∃ x, es[i]? = some x ∧ x.sc n = true ∧ Yl G K g x v H'
abbrev MI := Fr → Sto → Rs (List E)
def SI (G : String → Addr) (K : PySem.W.Frag) (W : WX) (wi : TI) (m : MI) : Prop := ∀ A T F σ g (R : It → Hp → Prop), Iv G K A T F σ g → (m F T).Post (fun es F' T' => ∀ g' J, Iv G K A T' F' σ g' → Le T T' g g' → Good G K J g' T'.length es → R J g'.H) (Wish G K W A T σ g) → wi σ g.H R
structure JI (G : String → Addr) (X : Cx) (W : WX) (tg e : Expr) (m : MI) : Prop where
  ex : ∃ wi, PI X tg e wi ∧ SI G X.K W wi m
section
variable {G : String → Addr} {K : PySem.W.Frag} {A : Act} {T T' : Sto} {F F' : Fr} {σ : St} {g g' g0 : Gs} {W : WX} {H H' : Hp} {φ : Nat → Addr}
theorem Yl.state (I : Iv G K A T F σ g) {x : E} {v : V} (s : x.sc T.length = true) (y : Yl G K g x v H') : ∃ g', g'.H = H' ∧ Iv G K A T F σ g' ∧ Le T T g g' ∧ EDen G K g'.W g'.φ x v := by
  rcases y with ⟨rfl, h⟩ | ⟨p, vs, hp, rfl, rfl, ⟨ds, rfl, l⟩ | ⟨xs, rfl, l⟩⟩
  · exact ⟨g, rfl, I, Le.refl, h⟩
  · obtain ⟨I', le, d⟩ := I.newTup hp l
    exact ⟨_, rfl, I', le, d⟩
  · rw [E.sc] at s
    obtain ⟨I', le, d⟩ := I.newTupE hp l s
    exact ⟨_, rfl, I', le, d⟩
theorem good_list {a : Addr} {ds : List D} {vs : List V} {n : Nat} (h : g0.W a = some (.lst vs)) (l : DenL G K g0.W ds vs) : Good G K (Itl K a) g0 n (ds.map .p) where
  go := fun i g o hi => by
    rw [List.length_map] at hi
    have e := vw_le.fm a (.lst vs) trivial (o.ext.fm a (.lst vs) trivial h)
    have hl : i < vs.length := by rw [l.length]; exact hi
    exact ⟨vs, vs[i], .inl (.inl e), List.getElem?_eq_getElem hl⟩
  stop := fun g o => by
    have e := vw_le.fm a (.lst vs) trivial (o.ext.fm a (.lst vs) trivial h)
    rw [List.length_map, ← l.length]
    exact ⟨vs, .inl (.inl e), Nat.le_refl _⟩
  yld := fun i g v H' o hi y => by
    rw [List.length_map] at hi
    have e := vw_le.fm a (.lst vs) trivial (o.ext.fm a (.lst vs) trivial h)
    obtain ⟨w, h1, h2⟩ := l.get (List.getElem?_eq_getElem hi)
    have h3 := y.2 vs (.inl (.inl e))
    rw [h1] at h3
    cases h3
    exact ⟨.p ds[i], by rw [List.getElem?_map, List.getElem?_eq_getElem hi]; rfl, scp, .inl ⟨y.1, h2.mono o.ext⟩⟩
theorem good_rol {a : Addr} {ds : List D} {vs : List V} {n : Nat} (h : SqL K g0.W a vs) (l : DenL G K g0.W ds vs) : Good G K (Itl K a) g0 n (ds.map .p) where
  go := fun i g o hi => by
    rw [List.length_map] at hi
    have e := vw_le.l (o.ext.l h)
    have hl : i < vs.length := by rw [l.length]; exact hi
    exact ⟨vs, vs[i], e, List.getElem?_eq_getElem hl⟩
  stop := fun g o => by
    have e := vw_le.l (o.ext.l h)
    rw [List.length_map, ← l.length]
    exact ⟨vs, e, Nat.le_refl _⟩
  yld := fun i g v H' o hi y => by
    rw [List.length_map] at hi
    have e := vw_le.l (o.ext.l h)
    obtain ⟨w, h1, h2⟩ := l.get (List.getElem?_eq_getElem hi)
    have h3 := y.2 vs e
    rw [h1] at h3
    cases h3
    exact ⟨.p ds[i], by rw [List.getElem?_map, List.getElem?_eq_getElem hi]; rfl, scp, .inl ⟨y.1, h2.mono o.ext⟩⟩
theorem good_tup {a : Addr} {ds : List D} {vs : List V} {n : Nat} (h : SqT K g0.W a vs) (l : DenL G K g0.W ds vs) : Good G K (Itt K a) g0 n (ds.map .p) where
  go := fun i g o hi => by
    rw [List.length_map] at hi
    have e := vw_le.t (o.ext.t h)
    have hl : i < vs.length := by rw [l.length]; exact hi
    exact ⟨vs, vs[i], e, List.getElem?_eq_getElem hl⟩
  stop := fun g o => by
    have e := vw_le.t (o.ext.t h)
    rw [List.length_map, ← l.length]
    exact ⟨vs, e, Nat.le_refl _⟩
  yld := fun i g v H' o hi y => by
    rw [List.length_map] at hi
    have e := vw_le.t (o.ext.t h)
    obtain ⟨w, h1, h2⟩ := l.get (List.getElem?_eq_getElem hi)
    have h3 := y.2 vs e
    rw [h1] at h3
    cases h3
    exact ⟨.p ds[i], by rw [List.getElem?_map, List.getElem?_eq_getElem hi]; rfl, scp, .inl ⟨y.1, h2.mono o.ext⟩⟩
theorem good_tp {a : Addr} {xs : List E} {vs : List V} {n : Nat} (s : E.scL n xs = true) (h : SqT K g0.W a vs) (l : EDenL G K g0.W g0.φ xs vs) : Good G K (Itt K a) g0 n xs where
  go := fun i g o hi => by
    have e := vw_le.t (o.ext.t h)
    have hl : i < vs.length := by rw [l.length]; exact hi
    exact ⟨vs, vs[i], e, List.getElem?_eq_getElem hl⟩
  stop := fun g o => by
    have e := vw_le.t (o.ext.t h)
    rw [← l.length]
    exact ⟨vs, e, Nat.le_refl _⟩
  yld := fun i g v H' o hi y => by
    have e := vw_le.t (o.ext.t h)
    obtain ⟨w, h1, h2⟩ := l.get (List.getElem?_eq_getElem hi)
    have h3 := y.2 vs e
    rw [h1] at h3
    cases h3
    have sx := E.scL_get s (List.getElem?_eq_getElem hi)
    exact ⟨xs[i], List.getElem?_eq_getElem hi, sx, .inl ⟨y.1, h2.mono o.ext o.agr sx⟩⟩
theorem good_str {z : Str} {n : Nat} : Good G K (Its z) g0 n (z.cps.toList.map fun c => E.p (.str ⟨#[c]⟩)) where
  go := fun i g o hi => by
    rw [List.length_map, Array.length_toList] at hi
    exact hi
  stop := fun g o => by
    rw [List.length_map, Array.length_toList]
    exact Nat.le_refl _
  yld := fun i g v H' o hi y => by
    rw [List.length_map, Array.length_toList] at hi
    obtain ⟨e, c, h1, rfl⟩ := y
    refine ⟨.p (.str ⟨#[c]⟩), ?_, scp, .inl ⟨e, rfl⟩⟩
    rw [List.getElem?_map, Array.getElem?_toList, h1]
    rfl
/-- ints lo, lo + 1, .. -/
def rngE (lo : Int) (n : Nat) : List E := (List.range n).map fun i => E.p (.int (lo + (i : Nat)))
theorem good_rng {lo : Int} {k n : Nat} : Good G K (Itr lo k) g0 n (rngE lo k) where
  go := fun i g o hi => by
    unfold rngE at hi
    rw [List.length_map, List.length_range] at hi
    exact hi
  stop := fun g o => by
    unfold rngE
    rw [List.length_map, List.length_range]
    exact Nat.le_refl _
  yld := fun i g v H' o hi y => by
    unfold rngE at hi ⊢
    rw [List.length_map, List.length_range] at hi
    refine ⟨.p (.int (lo + (i : Nat))), ?_, scp, .inl ⟨y.1, y.2⟩⟩
    rw [List.getElem?_map, List.getElem?_range hi]
    rfl
end
section
variable {G : String → Addr} {X : Cx} {W : WX} {pos p : Pos} {tg e : Expr}
theorem PI.or {w1 w2 : TI} (h1 : PI X tg e w1) (h2 : PI X tg e w2) : PI X tg e (fun σ H R => w1 σ H R ∨ w2 σ H R) := by
  refine ⟨fun pins s σ H R I h => ?_⟩
  rcases h with h | h
  · exact h1.run pins s σ H R I h
  · exact h2.run pins s σ H R I h
/-- a list, a tuple, a text -/
def itE : OV → Option (List E)
  | .e (.p (.lst ds)) => some (ds.map .p)
  | .e (.p (.rol ds)) => some (ds.map .p)
  | .e (.p (.tup ds)) => some (ds.map .p)
  | .e (.p (.rot ds)) => some (ds.map .p)
  | .e (.p (.str z)) => some (z.cps.toList.map fun c => E.p (.str ⟨#[c]⟩))
  | .e (.tp xs) => some xs
  | _ => none
def cIt (m : MO) : MI := fun F T => (m F T).bind fun x F T => match itE x with
  | some es => .ok es F T
  | none => .bad
/-- which of three -/
def kindE : OV → Nat
  | .e (.p (.lst _)) => 0
  | .e (.p (.rol _)) => 0
  | .e (.p (.str _)) => 2
  | _ => 1
theorem ji_seq {m : MO} (h : JO G X W e m) : JI G X W tg e (cIt m) := by
  obtain ⟨te, pe, s⟩ := h.ex
  refine ⟨_, PI.or (pi_list pe) (PI.or (pi_tup pe) (pi_str pe)), fun A T F σ g R I p => ?_⟩
  have go : ∀ k : Nat, (∀ r F1 T1, m F T = .ok r F1 T1 → kindE r = k) → (if k = 0 then iList X.K te σ g.H R else if k = 1 then iTup X.K te σ g.H R else iStr te σ g.H R) := by
    intro k hk
    have pb := post_bind p
    by_cases k0 : k = 0
    · rw [if_pos k0]
      cases z : m F T with
      | bad => rw [z] at pb; exact pb.elim
      | exc x F1 T1 =>
        refine s A T F σ g _ I ?_
        rw [z] at pb ⊢
        exact pb
      | ok r F1 T1 =>
        have hr := hk r F1 T1 z
        refine s A T F σ g _ I ?_
        rw [z] at pb ⊢
        intro g' v I' l d
        have p1 : Rs.Post (match itE r with | some es => Rs.ok es F1 T1 | none => .bad) _ _ := pb
        rw [k0] at hr
        unfold kindE at hr
        split at hr
        · obtain ⟨a, vs, rfl, ha, l2⟩ := d.2
          exact ⟨a, rfl, ⟨vs, .inl (.inl (vw_le.fm a (.lst vs) trivial ha))⟩, p1 g' _ I' l (good_list ha l2)⟩
        · obtain ⟨a, vs, rfl, ha, l2⟩ := d.2
          exact ⟨a, rfl, ⟨vs, vw_le.l ha⟩, p1 g' _ I' l (good_rol ha l2)⟩
        · cases hr
        · cases hr
    · rw [if_neg k0]
      by_cases k1 : k = 1
      · rw [if_pos k1]
        cases z : m F T with
        | bad => rw [z] at pb; exact pb.elim
        | exc x F1 T1 =>
          refine s A T F σ g _ I ?_
          rw [z] at pb ⊢
          exact pb
        | ok r F1 T1 =>
          have hr := hk r F1 T1 z
          refine s A T F σ g _ I ?_
          rw [z] at pb ⊢
          intro g' v I' l d
          have p1 : Rs.Post (match itE r with | some es => Rs.ok es F1 T1 | none => .bad) _ _ := pb
          rw [k1] at hr
          cases r with
          | sl i => exact p1.elim
          | e x =>
            cases x with
            | loc n => exact p1.elim
            | tp xs =>
              obtain ⟨sc, a, vs, rfl, ha, l2⟩ := d
              rw [E.sc] at sc
              exact ⟨a, rfl, ⟨vs, .inl (.inl (vw_le.fm a (.tup vs) trivial ha))⟩, p1 g' _ I' l (good_tp sc (.inl (.inl ha)) l2)⟩
            | p d0 =>
              cases d0 with
              | tup ds =>
                obtain ⟨a, vs, rfl, ha, l2⟩ := d.2
                exact ⟨a, rfl, ⟨vs, .inl (.inl (vw_le.fm a (.tup vs) trivial ha))⟩, p1 g' _ I' l (good_tup (.inl (.inl ha)) l2)⟩
              | rot ds =>
                obtain ⟨a, vs, rfl, ha, l2⟩ := d.2
                exact ⟨a, rfl, ⟨vs, vw_le.t ha⟩, p1 g' _ I' l (good_tup ha l2)⟩
              | lst ds => exact nomatch hr
              | rol ds => exact nomatch hr
              | str ds => exact nomatch hr
              | _ => exact p1.elim
      · rw [if_neg k1]
        cases z : m F T with
        | bad => rw [z] at pb; exact pb.elim
        | exc x F1 T1 =>
          refine s A T F σ g _ I ?_
          rw [z] at pb ⊢
          exact pb
        | ok r F1 T1 =>
          have hr := hk r F1 T1 z
          refine s A T F σ g _ I ?_
          rw [z] at pb ⊢
          intro g' v I' l d
          have p1 : Rs.Post (match itE r with | some es => Rs.ok es F1 T1 | none => .bad) _ _ := pb
          unfold kindE at hr
          split at hr
          · exact absurd hr.symm k0
          · exact absurd hr.symm k0
          · obtain ⟨_, rfl⟩ := d
            exact ⟨_, rfl, p1 g' _ I' l good_str⟩
          · exact absurd hr.symm k1
  cases z : m F T with
  | bad =>
    have pb := post_bind p
    rw [z] at pb
    exact pb.elim
  | exc x F1 T1 => exact .inl (go 0 fun r F1 T1 e => by rw [z] at e; cases e)
  | ok r F1 T1 =>
    have q := go (kindE r) fun r' F' T' e => by rw [z] at e; cases e; rfl
    by_cases k0 : kindE r = 0
    · rw [if_pos k0] at q; exact .inl q
    · rw [if_neg k0] at q
      by_cases k1 : kindE r = 1
      · rw [if_pos k1] at q; exact .inr (.inl q)
      · rw [if_neg k1] at q; exact .inr (.inr q)
/-- range(n), range(a, b) -/
def cR1 (ma : MA) : MI := fun F T => (ma F T).bind fun xs F T => match xs with
  | [.e (.p (.int j))] => if -4611686018427387904 ≤ j ∧ j < 4611686018427387904 then .ok (rngE 0 j.toNat) F T else .bad
  | _ => .bad
def cR2 (ma : MA) : MI := fun F T => (ma F T).bind fun xs F T => match xs with
  | [.e (.p (.int i)), .e (.p (.int j))] => if (-4611686018427387904 ≤ i ∧ i < 4611686018427387904) ∧ -4611686018427387904 ≤ j ∧ j < 4611686018427387904 then .ok (rngE i (j - i).toNat) F T else .bad
  | _ => .bad
theorem ji_r1 {a : Expr} {ma : MA} (hg : Gl X "range") (hm : X.mg "range" = none) (h : JA G X W [a] ma) (hs : starEach [a] X.env = [(false, eval a X.env)] := by rfl) : JI G X W tg (.Call (.Name "range" p) [a] [] pos) (cR1 ma) := by
  obtain ⟨ta, pa, s⟩ := h.ex
  refine ⟨_, pi_range1 hg hm pa hs, fun A T F σ g R I p => ?_⟩
  refine s A T F σ g _ I ((post_bind p).imp (fun xs F1 T1 p1 g1 vs I1 l1 d1 => ?_) fun _ _ _ q => q)
  have p1' : Rs.Post (match xs with | [.e (.p (.int j))] => (if -4611686018427387904 ≤ j ∧ j < 4611686018427387904 then Rs.ok (rngE 0 j.toNat) F1 T1 else .bad) | _ => .bad) _ _ := p1
  split at p1'
  · rename_i j
    split at p1'
    · rename_i hj
      obtain ⟨v, w, rfl, d, rfl⟩ := d1
      obtain ⟨_, rfl⟩ := d
      exact ⟨j, rfl, hj.1, hj.2, p1' g1 _ I1 l1 good_rng⟩
    · exact p1'.elim
  · exact p1'.elim
theorem ji_r2 {a b : Expr} {ma : MA} (hg : Gl X "range") (hm : X.mg "range" = none) (h : JA G X W [a, b] ma) (hs : starEach [a, b] X.env = [(false, eval a X.env), (false, eval b X.env)] := by rfl) (hs2 : starEach [b] X.env = [(false, eval b X.env)] := by rfl) : JI G X W tg (.Call (.Name "range" p) [a, b] [] pos) (cR2 ma) := by
  obtain ⟨ta, pa, s⟩ := h.ex
  refine ⟨_, pi_range2 hg hm pa hs hs2, fun A T F σ g R I p => ?_⟩
  refine s A T F σ g _ I ((post_bind p).imp (fun xs F1 T1 p1 g1 vs I1 l1 d1 => ?_) fun _ _ _ q => q)
  have p1' : Rs.Post (match xs with | [.e (.p (.int i)), .e (.p (.int j))] => (if (-4611686018427387904 ≤ i ∧ i < 4611686018427387904) ∧ -4611686018427387904 ≤ j ∧ j < 4611686018427387904 then Rs.ok (rngE i (j - i).toNat) F1 T1 else .bad) | _ => .bad) _ _ := p1
  split at p1'
  · rename_i i j
    split at p1'
    · rename_i hj
      obtain ⟨v, w, rfl, d, v2, w2, rfl, d2, rfl⟩ := d1
      obtain ⟨_, rfl⟩ := d
      obtain ⟨_, rfl⟩ := d2
      exact ⟨i, j, rfl, ⟨hj.1.1, hj.1.2, hj.2.1, hj.2.2⟩, p1' g1 _ I1 l1 good_rng⟩
    · exact p1'.elim
  · exact p1'.elim

/-! ### for -/
def forE (mg : MG) (body : MS) : List E → Fr → Sto → RS
  | [], F, T => .nx F T
  | x :: r, F, T => match mg x F with
    | none => .bad
    | some F1 => match body F1 T with
      | .nx F2 T2 => forE mg body r F2 T2
      | .ct F2 T2 => forE mg body r F2 T2
      | .bk F2 T2 => .nx F2 T2
      | q => q
def sFor (mi : MI) (mg : MG) (body : MS) : MS := fun F T => (mi F T).st fun es F T => forE mg body es F T
theorem for_loop {K : PySem.W.Frag} {A : Act} {T T1 : Sto} {F1 : Fr} {σ : St} {g g1 : Gs} {t : TG} {mg : MG} {ss : List Nat} {tb : TS} {body : MS} {De : Ends} {J : It} {es : List E} (hg : TgOk G K t mg ss) (hb : SS G K W tb body) (I1 : Iv G K A T1 F1 σ g1) (l1 : Le T T1 g g1) (gd : Good G K J g1 T1.length es)
    (p1 : (forE mg body es F1 T1).Post G K W A T g De) : ∃ Wi : Nat → Nat → St → Hp → Prop, (∃ m, Wi 0 m σ g1.H) ∧ ∀ i m σ H, Wi i m σ H →
  (J.stop i H ∧ De.nx σ H) ∨ (J.go i H ∧ ∃ N : St → Hp → Prop, (∀ σ' H', N σ' H' → ∃ m', m' < m ∧ Wi (i + 1) m' σ' H') ∧ ∀ x H', J.yld i H x H' → t x σ H' fun σ2 H2 => tb { De with nx := N, ct := N, bk := De.nx } σ2 H2) := by
  refine ⟨fun i m σ H => m = es.length - i ∧ i ≤ es.length ∧ ∃ g2 F2 T2, g2.H = H ∧ Iv G K A T2 F2 σ g2 ∧ Le T1 T2 g1 g2 ∧ (forE mg body (es.drop i) F2 T2).Post G K W A T g De, ⟨es.length, by simp, Nat.zero_le _, g1, F1, T1, rfl, I1, Le.refl, p1⟩, ?_⟩
  rintro i m σ2 H ⟨rfl, hi, g2, F2, T2, rfl, I2, l2, p2⟩
  have on : On T1.length g1 g2 := ⟨l2.ext, l2.agr⟩
  by_cases hl : i < es.length
  · refine .inr ⟨gd.go i g2 on hl, fun σ' H' => ∃ g3 F3 T3, g3.H = H' ∧ Iv G K A T3 F3 σ' g3 ∧ Le T1 T3 g1 g3 ∧ (forE mg body (es.drop (i + 1)) F3 T3).Post G K W A T g De, fun σ' H' ⟨g3, F3, T3, h1, h2, h3, h4⟩ => ⟨es.length - (i + 1), by omega, rfl, hl, g3, F3, T3, h1, h2, h3, h4⟩, fun v H' y => ?_⟩
    obtain ⟨x, hx, sx, yl⟩ := gd.yld i g2 v H' on hl y
    have sx2 : x.sc T2.length = true := E.sc_mono l2.len sx
    obtain ⟨g3, rfl, I3, l3, d3⟩ := Yl.state I2 sx2 yl
    have ed : es.drop i = x :: es.drop (i + 1) := by
      rw [List.drop_eq_getElem_cons hl]
      congr 1
      rw [List.getElem?_eq_getElem hl] at hx
      exact Option.some.inj hx
    rw [ed] at p2
    have p2' : (match mg x F2 with | none => RS.bad | some F1 => (match body F1 T2 with | .nx F2 T2 => forE mg body (es.drop (i + 1)) F2 T2 | .ct F2 T2 => forE mg body (es.drop (i + 1)) F2 T2 | .bk F2 T2 => .nx F2 T2 | q => q)).Post G K W A T g De := p2
    cases z : mg x F2 with
    | none => rw [z] at p2'; exact p2'.elim
    | some F3 =>
      rw [z] at p2'
      refine hg A T2 F2 F3 σ2 g3 x v _ I3 sx2 d3 z fun σ4 I4 _ => ?_
      refine hb A T2 F3 σ4 g3 _ I4 ?_
      have l03 : Le T T2 g g3 := (l1.trans l2).trans l3
      have p3 : (match body F3 T2 with | .nx F2 T2 => forE mg body (es.drop (i + 1)) F2 T2 | .ct F2 T2 => forE mg body (es.drop (i + 1)) F2 T2 | .bk F2 T2 => .nx F2 T2 | q => q).Post G K W A T g De := p2'
      cases zb : body F3 T2 with
      | nx F5 T5 =>
        rw [zb] at p3
        exact fun g5 σ5 I5 l5 => ⟨g5, F5, T5, rfl, I5, (l2.trans l3).trans l5, p3⟩
      | ct F5 T5 =>
        rw [zb] at p3
        exact fun g5 σ5 I5 l5 => ⟨g5, F5, T5, rfl, I5, (l2.trans l3).trans l5, p3⟩
      | bk F5 T5 =>
        rw [zb] at p3
        exact fun g5 σ5 I5 l5 => p3 g5 σ5 I5 (l03.trans l5)
      | rt r F5 T5 =>
        rw [zb] at p3
        exact fun g5 σ5 v I5 l5 d => p3 g5 σ5 v I5 (l03.trans l5) d
      | exc x F5 T5 =>
        rw [zb] at p3
        exact fun g5 σ5 cls d I5 l5 xd => p3 g5 σ5 cls d I5 (l03.trans l5) xd
      | bad => rw [zb] at p3; exact p3
  · have e : i = es.length := by omega
    subst e
    rw [List.drop_length] at p2
    exact .inl ⟨gd.stop g2 on, p2 g2 σ2 I2 (l1.trans l2)⟩
theorem for_core {K : PySem.W.Frag} {wi : TI} {mi : MI} {t : TG} {mg : MG} {ss : List Nat} {tb : TS} {body : MS} (hi : SI G K W wi mi) (hg : TgOk G K t mg ss) (hb : SS G K W tb body) : SS G K W (tFor wi t tb) (sFor mi mg body) := by
  intro A T F σ g D I p
  refine hi A T F σ g _ I ((st_post p).imp (fun es F1 T1 p1 g1 J I1 l1 gd => ?_) fun _ _ _ q => st_wish q)
  exact for_loop hg hb I1 l1 gd p1
theorem js_for {mi : MI} {mg : MG} {ss : List Nat} {body : List Stmt} {mb : MS} (hp : PassesOwn (model X.prog X.w) X.A X.env X.xe) (hc : X.calm = true) (hi : JI G X W tg e mi) (hg : JG G X tg mg ss) (hb : JSs G X W body mb) (hs : ∀ x, foldedSetIterable e X.env x = pure x := by intro _; rfl) :
    JS G X W (.For tg e body [] pos) (sFor mi mg mb) := by
  obtain ⟨wi, p1, s1⟩ := hi.ex
  obtain ⟨t, p2, s2⟩ := hg.ex
  obtain ⟨tb, p3, s3⟩ := hb.ex
  exact ⟨_, ps_for hp hc p1 p2 p3 hs, for_core s1 s2 s3⟩

/-! ### while -/
def whileN (t : MT) (b : MS) : Nat → Fr → Sto → RS
  | 0, _, _ => .bad
  | n + 1, F, T => (t F T).st fun c F T => if c = true then (match b F T with
      | .nx F T => whileN t b n F T
      | .ct F T => whileN t b n F T
      | .bk F T => .nx F T
      | q => q) else .nx F T
open Classical in
noncomputable def sWhile (t : MT) (b : MS) : MS := fun F T => if h : ∃ n, whileN t b n F T ≠ .bad then whileN t b h.choose F T else .bad
theorem whileN_mono {t : MT} {b : MS} : ∀ {n : Nat} {F : Fr} {T : Sto}, whileN t b n F T ≠ .bad → whileN t b (n + 1) F T = whileN t b n F T
  | 0, F, T, h => absurd rfl h
  | n + 1, F, T, h => by
    unfold whileN at h ⊢
    cases z : t F T with
    | bad => rfl
    | exc x F1 T1 => rfl
    | ok c F1 T1 =>
      rw [z] at h
      have h' : (if c = true then (match b F1 T1 with | .nx F T => whileN t b n F T | .ct F T => whileN t b n F T | .bk F T => .nx F T | q => q) else RS.nx F1 T1) ≠ .bad := h
      show (if c = true then (match b F1 T1 with | .nx F T => whileN t b (n + 1) F T | .ct F T => whileN t b (n + 1) F T | .bk F T => .nx F T | q => q) else RS.nx F1 T1) = (if c = true then (match b F1 T1 with | .nx F T => whileN t b n F T | .ct F T => whileN t b n F T | .bk F T => .nx F T | q => q) else RS.nx F1 T1)
      cases c with
      | false => rfl
      | true =>
        rw [if_pos rfl] at h' ⊢
        rw [if_pos rfl]
        cases zb : b F1 T1 with
        | nx F2 T2 => rw [zb] at h'; exact whileN_mono (n := n) h'
        | ct F2 T2 => rw [zb] at h'; exact whileN_mono (n := n) h'
        | bk F2 T2 => rfl
        | rt r F2 T2 => rfl
        | exc x F2 T2 => rfl
        | bad => rfl
theorem whileN_le {t : MT} {b : MS} {F : Fr} {T : Sto} {n m : Nat} (h : whileN t b n F T ≠ .bad) (l : n ≤ m) : whileN t b m F T = whileN t b n F T := by
  induction m with
  | zero =>
    have : n = 0 := by omega
    subst this
    rfl
  | succ m ih =>
    by_cases e : n = m + 1
    · subst e; rfl
    · have q := ih (by omega)
      rw [whileN_mono (by rw [q]; exact h), q]
theorem sWhile_eq {t : MT} {b : MS} {F : Fr} {T : Sto} {n : Nat} (h : whileN t b n F T ≠ .bad) : sWhile t b F T = whileN t b n F T := by
  unfold sWhile
  have e : ∃ n, whileN t b n F T ≠ .bad := ⟨n, h⟩
  rw [dif_pos e]
  rcases Nat.le_total n e.choose with l | l
  · exact whileN_le h l
  · exact (whileN_le e.choose_spec l).symm
theorem while_core {K : PySem.W.Frag} {tc : TT} {t : MT} {tb : TS} {b : MS} (hc : ST G K W tc t) (hb : SS G K W tb b) : SS G K W (tWhile tc tb) (sWhile t b) := by
  intro A T F σ g D I p
  have ex : ∃ n, (whileN t b n F T).Post G K W A T g D := by
    unfold sWhile at p
    split at p
    · rename_i h
      exact ⟨_, p⟩
    · exact p.elim
  obtain ⟨n0, p0⟩ := ex
  refine ⟨fun n σ H => ∃ g2 F2 T2, g2.H = H ∧ Iv G K A T2 F2 σ g2 ∧ Le T T2 g g2 ∧ (whileN t b n F2 T2).Post G K W A T g D, ⟨n0, g, F, T, rfl, I, Le.refl, p0⟩, ?_⟩
  rintro n σ2 H ⟨g2, F2, T2, rfl, I2, l2, p2⟩
  cases n with
  | zero => exact p2.elim
  | succ n =>
    refine hc A T2 F2 σ2 g2 _ I2 ?_
    have p2' : RS.Post G K W A T g D ((t F2 T2).st fun c F T => if c = true then (match b F T with | .nx F T => whileN t b n F T | .ct F T => whileN t b n F T | .bk F T => .nx F T | q => q) else .nx F T) := p2
    refine (st_post p2').imp (fun c F3 T3 p3 g3 I3 l3 => ?_) fun _ _ _ q => Wish.le (T := T) (g := g) (fun g' cls d I l xd => q g' σ2 cls d I l xd) l2
    have l03 := l2.trans l3
    cases c with
    | false => exact p3 g3 σ2 I3 l03
    | true =>
      rw [if_pos rfl]
      refine ⟨fun σ' H' => ∃ g4 F4 T4, g4.H = H' ∧ Iv G K A T4 F4 σ' g4 ∧ Le T T4 g g4 ∧ (whileN t b n F4 T4).Post G K W A T g D, fun σ' H' h => ⟨n, Nat.lt_succ_self n, h⟩, ?_⟩
      refine hb A T3 F3 σ2 g3 _ I3 ?_
      have p3' : (match b F3 T3 with | .nx F T => whileN t b n F T | .ct F T => whileN t b n F T | .bk F T => .nx F T | q => q).Post G K W A T g D := p3
      cases zb : b F3 T3 with
      | nx F5 T5 =>
        rw [zb] at p3'
        exact fun g5 σ5 I5 l5 => ⟨g5, F5, T5, rfl, I5, l03.trans l5, p3'⟩
      | ct F5 T5 =>
        rw [zb] at p3'
        exact fun g5 σ5 I5 l5 => ⟨g5, F5, T5, rfl, I5, l03.trans l5, p3'⟩
      | bk F5 T5 =>
        rw [zb] at p3'
        exact fun g5 σ5 I5 l5 => p3' g5 σ5 I5 (l03.trans l5)
      | rt r F5 T5 =>
        rw [zb] at p3'
        exact fun g5 σ5 v I5 l5 d => p3' g5 σ5 v I5 (l03.trans l5) d
      | exc x F5 T5 =>
        rw [zb] at p3'
        exact fun g5 σ5 cls d I5 l5 xd => p3' g5 σ5 cls d I5 (l03.trans l5) xd
      | bad => rw [zb] at p3'; exact p3'
theorem js_while {t : MT} {c : Expr} {body : List Stmt} {mb : MS} (hp : PassesOwn (model X.prog X.w) X.A X.env X.xe) (hc : JT G X W c t) (hb : JSs G X W body mb) : JS G X W (.While c body [] pos) (sWhile t mb) := by
  obtain ⟨tc, p1, s1⟩ := hc.ex
  obtain ⟨tb, p2, s2⟩ := hb.ex
  exact ⟨_, ps_while hp p1 p2, while_core s1 s2⟩
end
end Sim

set_option Elab.async false
set_option linter.all false
set_option maxRecDepth 100000
set_option maxHeartbeats 4000000
namespace Sim
open PySem L2
variable [EXC]

def Rs.nox {α : Type} (r : Rs α) : Rs α := match r with
  | .exc _ _ _ => .bad
  | r => r
abbrev W0 : WX := fun _ _ _ _ => False
section
variable {G : String → Addr} {K : PySem.W.Frag} {A : Act} {T T' T0 : Sto} {F F' : Fr} {σ σ' : St} {g g' g0 : Gs} {W : WX} {D : Ends}
theorem nox_post {α β : Type} {r : Rs α} {f : α → Fr → Sto → Rs β} {P : β → Fr → Sto → Prop} {Q Q' : Xc → Fr → Sto → Prop} (h : (r.nox.bind f).Post P Q) : r.Post (fun a F T => (f a F T).Post P Q) Q' := by
  cases r with
  | ok a F T => exact h
  | exc x F T => exact h.elim
  | bad => exact h
theorem wipe_wipe {σ : St} {vs : List Nat} : L2.wipe (L2.wipe σ vs) vs = L2.wipe σ vs := by
  apply List.ext_getElem?
  intro j
  by_cases e : j ∈ vs
  · have get : ∀ (σ : St) (vs : List Nat), j ∈ vs → (L2.wipe σ vs)[j]? = if j < σ.length then some none else none := by
      intro σ vs
      induction vs with
      | nil => intro h; simp at h
      | cons v r ih =>
        intro h
        show ((L2.wipe σ r).set v none)[j]? = _
        by_cases ev : v = j
        · subst ev
          by_cases hl : v < σ.length
          · rw [if_pos hl, List.getElem?_set_self (by rw [wipe_length]; exact hl)]
          · rw [if_neg hl]
            exact List.getElem?_eq_none (by rw [List.length_set, wipe_length]; omega)
        · rw [List.getElem?_set_ne ev]
          exact ih ((List.mem_cons.mp h).resolve_left fun z => ev z.symm)
    rw [get _ _ e, get _ _ e, wipe_length]
  · have get : ∀ (σ : St) (vs : List Nat), j ∉ vs → (L2.wipe σ vs)[j]? = σ[j]? := by
      intro σ vs
      induction vs with
      | nil => intro _; rfl
      | cons v r ih =>
        intro h
        show ((L2.wipe σ r).set v none)[j]? = _
        rw [List.getElem?_set_ne (fun z => h (by rw [z]; exact List.mem_cons_self))]
        exact ih fun z => h (List.mem_cons_of_mem _ z)
    rw [get _ _ e, get _ _ e]
/-! ### one object kept apart -/
def Act.gd (A : Act) (p : Addr) (o : HO) : Act := ⟨plus A.own0 p, A.φ0, fun b => if b = p then some o else A.H0 b, fun b => A.prot b ∨ b = p, A.S0⟩
theorem vw_gd {A : Act} {p : Addr} {o : HO} (h : vw A.own0 A.H0 p = none) : vw (A.gd p o).own0 (A.gd p o).H0 = vw A.own0 A.H0 := by
  funext b
  by_cases e : b = p
  · subst e
    rw [h]
    exact vw_own plus_self
  · cases q : A.own0 b with
    | true => rw [vw_own q]; exact vw_own (plus_of q)
    | false =>
      rw [vw_at q]
      show vw (plus A.own0 p) _ b = _
      rw [vw_at (by rw [plus_ne e]; exact q)]
      show (if b = p then some o else A.H0 b) = A.H0 b
      rw [if_neg e]
theorem Iv.none0 (I : Iv G K A T F σ g) {p : Addr} (h : g.H p = none) : vw A.own0 A.H0 p = none := by
  cases q : vw A.own0 A.H0 p with
  | none => rfl
  | some u =>
    have f := I.fresh h
    exact absurd ((vw_at f).trans h) (I.grow.dm p (by rw [q]; intro z; cases z))
/-- a new object, kept apart -/
theorem Iv.guard (I : Iv G K A T F σ g) {p : Addr} {o : HO} (h : g.H p = none) : Iv G K (A.gd p o) T F σ ⟨plus g.own p, g.φ, upd g.H p o⟩ ∧ Gs.W ⟨plus g.own p, g.φ, upd g.H p o⟩ = g.W := by
  have f := I.fresh h
  have w : Gs.W ⟨plus g.own p, g.φ, upd g.H p o⟩ = g.W := vw_plus_upd h
  have k : ∀ a, g.own a = true → (upd g.H p o) a = g.H a := fun a ha => upd_ne fun z => by
    subst z
    rw [ha] at f
    cases f
  have ne : ∀ a, g.own a = true → a ≠ p := fun a ha z => by
    rw [z, f] at ha
    cases ha
  have cat : ∀ a c, g.own a = true → CAt G K g a c → CAt G K ⟨plus g.own p, g.φ, upd g.H p o⟩ a c := fun a c ha ⟨o, h1, h2⟩ => ⟨o, (k a ha).trans h1, by rw [w]; exact h2⟩
  refine ⟨⟨I.len, fun a ha => ?_, fun a ha => ?_, fun a ha => ?_, I.agr, ?_, I.kS, I.lv, I.sc, fun n c hc => ?_, I.inj, fun i s hs => ?_, I.dis⟩, w⟩
  · show upd g.H p o a ≠ none
    by_cases e : a = p
    · subst e; rw [upd_same]; intro z; cases z
    · rw [upd_ne e]
      exact I.dom a ((plus_ne (own := g.own) e).symm.trans ha)
  · show plus g.own p a = true
    by_cases e : a = p
    · subst e; exact plus_self
    · exact plus_of (I.base a ((plus_ne (own := A.own0) e).symm.trans ha))
  · by_cases e : a = p
    · subst e
      exact ⟨plus_self, upd_same.trans (if_pos rfl).symm⟩
    · have ha' : A.prot a := ha.elim id fun z => absurd z e
      obtain ⟨h1, h2⟩ := I.prot a ha'
      exact ⟨plus_of h1, (upd_ne e).trans (h2.trans (if_neg e).symm)⟩
  · rw [w, vw_gd (I.none0 h)]
    exact I.grow
  · obtain ⟨h1, h2, h3⟩ := I.liv n c hc
    exact ⟨plus_of h1, fun z => z.elim h2 (ne _ h1), cat _ _ h1 h3⟩
  · have q := I.slot i s hs
    cases s with
    | u => trivial
    | x z => exact ⟨q.1, by rw [w]; exact q.2⟩
    | e d =>
      obtain ⟨q1, v, q2, q3⟩ := q
      refine ⟨q1, v, q2, ?_⟩
      rw [w]
      exact q3
    | o c =>
      obtain ⟨q1, a, q2, q3, q4, q5, q6⟩ := q
      exact ⟨q1, a, q2, plus_of q3, (plus_ne (own := A.own0) (ne a q3)).trans q4, q5, cat _ _ q3 q6⟩
/-- its content is another one -/
theorem Iv.reguard {p : Addr} {o o' : HO} (I : Iv G K (A.gd p o) T F σ g) : Iv G K (A.gd p o') T F σ ⟨g.own, g.φ, upd g.H p o'⟩ ∧ Gs.W ⟨g.own, g.φ, upd g.H p o'⟩ = g.W := by
  have op : g.own p = true := I.base p plus_self
  have w : Gs.W ⟨g.own, g.φ, upd g.H p o'⟩ = g.W := vw_upd_own op
  have cat : ∀ a c, a ≠ p → CAt G K g a c → CAt G K ⟨g.own, g.φ, upd g.H p o'⟩ a c := fun a c ha ⟨o, h1, h2⟩ => ⟨o, (upd_ne ha).trans h1, by rw [w]; exact h2⟩
  refine ⟨⟨I.len, fun a ha => ?_, I.base, fun a ha => ?_, I.agr, ?_, I.kS, I.lv, I.sc, fun n c hc => ?_, I.inj, fun i s hs => ?_, I.dis⟩, w⟩
  · show upd g.H p o' a ≠ none
    by_cases e : a = p
    · subst e; rw [upd_same]; intro z; cases z
    · rw [upd_ne e]; exact I.dom a ha
  · by_cases e : a = p
    · subst e
      exact ⟨plus_self, upd_same.trans (if_pos rfl).symm⟩
    · obtain ⟨h1, h2⟩ := I.prot a ha
      exact ⟨h1, (upd_ne e).trans (h2.trans ((if_neg e).trans (if_neg e).symm))⟩
  · rw [w]
    refine Ext.trans ?_ I.grow
    have e : vw (A.gd p o').own0 (A.gd p o').H0 = vw (A.gd p o).own0 (A.gd p o).H0 := by
      funext b
      show vw (plus A.own0 p) (fun b => if b = p then some o' else A.H0 b) b = vw (plus A.own0 p) (fun b => if b = p then some o else A.H0 b) b
      by_cases e : b = p
      · subst e; rw [vw_own plus_self, vw_own plus_self]
      · unfold vw
        split
        · rfl
        · show (if b = p then some o' else A.H0 b) = (if b = p then some o else A.H0 b)
          rw [if_neg e, if_neg e]
    rw [e]
    exact Ext.refl _
  · obtain ⟨h1, h2, h3⟩ := I.liv n c hc
    exact ⟨h1, h2, cat _ _ (fun z => h2 (.inr z)) h3⟩
  · have q := I.slot i s hs
    cases s with
    | u => trivial
    | x z => exact ⟨q.1, by rw [w]; exact q.2⟩
    | e d =>
      obtain ⟨q1, v, q2, q3⟩ := q
      refine ⟨q1, v, q2, ?_⟩
      rw [w]
      exact q3
    | o c =>
      obtain ⟨q1, a, q2, q3, q4, q5, q6⟩ := q
      exact ⟨q1, a, q2, q3, q4, q5, cat _ _ (fun z => by rw [z] at q4; exact absurd (show (A.gd p o).own0 p = true from plus_self) (by rw [q4]; intro z; cases z)) q6⟩
/-- it is ours again -/
theorem Iv.unguard {p : Addr} {o : HO} {c : C} (I : Iv G K (A.gd p o) T F σ g) (h0 : vw A.own0 A.H0 p = none) (n0 : A.own0 p = false) (hp : ∀ a, A.prot a → A.own0 a = true) (sc : c.sc T.length = true) (cd : CDen G K g.W g.φ c o) :
    Iv G K A T F σ g ∧ Root G K A T F σ g p c := by
  have op : g.own p = true := I.base p plus_self
  have hpo : g.H p = some o := ((I.prot p (.inr rfl)).2).trans (if_pos rfl)
  refine ⟨⟨I.len, I.dom, fun a ha => I.base a (plus_of ha), fun a ha => ?_, I.agr, ?_, I.kS, I.lv, I.sc, fun n c hc => ?_, I.inj, fun i s hs => ?_, I.dis⟩, ⟨sc, op, n0, fun n hn z => ?_, fun j c' hj z => ?_, o, hpo, cd⟩⟩
  · have e : a ≠ p := fun z => by
      have := hp a ha
      rw [z, n0] at this
      cases this
    exact ⟨hp a ha, ((I.prot a (.inl ha)).2).trans (if_neg e)⟩
  · rw [← vw_gd (o := o) h0]
    exact I.grow
  · obtain ⟨h1, h2, h3⟩ := I.liv n c hc
    exact ⟨h1, fun z => h2 (.inl z), h3⟩
  · have q := I.slot i s hs
    cases s with
    | u => trivial
    | x z => exact q
    | e d => exact q
    | o c =>
      obtain ⟨q1, a, q2, q3, q4, q5, q6⟩ := q
      refine ⟨q1, a, q2, q3, ?_, q5, q6⟩
      cases z : A.own0 a with
      | false => rfl
      | true => rw [show (A.gd p o).own0 a = true from plus_of z] at q4; cases q4
  · exact (I.liv n _ (List.getElem?_eq_getElem hn)).2.1 (.inr z)
  · obtain ⟨q1, a, q2, q3, q4, q5, q6⟩ := I.slot j _ hj
    rw [q2] at z
    have e : a = p := by injection z with z; injection z with z; injection z
    rw [e] at q4
    exact absurd (show (A.gd p o).own0 p = true from plus_self) (by rw [q4]; intro z; cases z)
/-- slots that say nothing do not matter -/
theorem Iv.anyU (I : Iv G K A T F σ g) (hl : σ'.length = σ.length) (h : ∀ (j : Nat), F[j]? ≠ some S.u → σ'[j]? = σ[j]?) : Iv G K A T F σ' g := by
  refine ⟨by rw [hl]; exact I.len, I.dom, I.base, I.prot, I.agr, I.grow, I.kS, I.lv, I.sc, I.liv, I.inj, fun i s hs => ?_, fun i j c c' hi hj e => ?_⟩
  · cases s with
    | u => trivial
    | x z =>
      rw [h i (by rw [hs]; intro z; cases z)]
      exact I.slot i _ hs
    | e d =>
      rw [h i (by rw [hs]; intro z; cases z)]
      exact I.slot i _ hs
    | o c =>
      rw [h i (by rw [hs]; intro z; cases z)]
      exact I.slot i _ hs
  · rw [h i (by rw [hi]; intro z; cases z), h j (by rw [hj]; intro z; cases z)] at e
    exact I.dis i j c c' hi hj e
def wipeF (F : Fr) : List Nat → Fr
  | [] => F
  | v :: vs => (wipeF F vs).set v .u
theorem Iv.wipe (I : Iv G K A T F σ g) : ∀ vs : List Nat, Iv G K A T (wipeF F vs) (L2.wipe σ vs) g
  | [] => I
  | _ :: vs => (I.wipe vs).setU
theorem wipeF_get {F : Fr} {j : Nat} : ∀ {vs : List Nat}, j ∈ vs → (wipeF F vs)[j]? = some .u ∨ (wipeF F vs)[j]? = none
  | [], h => by simp at h
  | v :: r, h => by
    unfold wipeF
    by_cases e : v = j
    · subst e
      by_cases hl : v < (wipeF F r).length
      · exact .inl (List.getElem?_set_self hl)
      · exact .inr (List.getElem?_eq_none (by rw [List.length_set]; omega))
    · rw [List.getElem?_set_ne e]
      exact wipeF_get ((List.mem_cons.mp h).resolve_left (fun z => e z.symm))
theorem wipe_get {σ : St} {j : Nat} : ∀ {vs : List Nat}, j ∉ vs → (L2.wipe σ vs)[j]? = σ[j]?
  | [], _ => rfl
  | v :: r, h => by
    show ((L2.wipe σ r).set v none)[j]? = _
    rw [List.getElem?_set_ne (fun z => h (by rw [z]; exact List.mem_cons_self))]
    exact wipe_get fun z => h (List.mem_cons_of_mem _ z)
theorem Iv.unwipe {vs : List Nat} (I : Iv G K A T (wipeF F vs) (L2.wipe σ vs) g) : Iv G K A T (wipeF F vs) σ g := by
  refine I.anyU (by rw [wipe_length]) fun j hj => ?_
  by_cases e : j ∈ vs
  · rcases wipeF_get (F := F) e with z | z
    · exact absurd z hj
    · have hl := List.getElem?_eq_none_iff.mp z
      rw [I.len, wipe_length] at hl
      rw [List.getElem?_eq_none hl, List.getElem?_eq_none (by rw [wipe_length]; exact hl)]
  · exact (wipe_get e).symm
/-! ### comprehensions -/
def lcE (mg : MG) (t : MT) (el : MO) (vs : List Nat) : List E → List Sim.D → Fr → Sto → Rs (List Sim.D)
  | [], acc, F, T => .ok acc F T
  | x :: r, acc, F, T => match mg x F with
    | none => .bad
    | some F1 => (t F1 T).nox.bind fun b F2 T2 => if b = true then (el F2 T2).nox.bind fun y F3 T3 => (match y with
        | .e (.p d) => if acc.length < LINE then lcE mg t el vs r (acc ++ [d]) (wipeF F3 vs) T3 else .bad
        | _ => .bad) else lcE mg t el vs r acc (wipeF F2 vs) T2
def cLc (mi : MI) (mg : MG) (t : MT) (el : MO) (vs : List Nat) : ME := fun F T => (mi F T).bind fun es F T => (lcE mg t el vs es [] (wipeF F vs) T).bind fun ds F T => .ok (.fr (.lst ds)) F T
theorem lc_core {wi : TI} {mi : MI} {t : TG} {mg : MG} {ss : List Nat} {tt : TT} {mt : MT} {te : TE} {el : MO} {vs : List Nat} (hss : ∀ i ∈ ss, i ∈ vs) (hi : SI G K W wi mi) (hg : TgOk G K t mg ss) (ht : ST G K W0 tt mt) (he : SO G K W0 te el) :
    SE G K W (tLc wi t tt te vs) (cLc mi mg mt el vs) := by
  intro A T F σ g Q I p
  refine hi A T F σ g _ I ((post_bind p).imp (fun es F1 T1 p1 g1 J I1 l1 gd => ?_) fun _ _ _ q => q)
  intro P hP
  have h0 := I1.none0 hP
  have n0 : A.own0 P = false := I1.own0 (I1.fresh hP)
  have hp : ∀ a, A.prot a → A.own0 a = true := fun a ha => (I1.prot a ha).1
  -- what is wanted at the end
  let E1 : List Sim.D → Fr → Sto → Prop := fun ds F' T' => Rs.Post (Rs.ok (RV.fr (.lst ds)) F' T') (fun r F' T' => ∀ g' v, Iv G K A T' F' σ g' → Le T T' g g' → RDen G K A T' F' σ g' r v → Q v g'.H) (Wish G K W A T σ g)
  have p1' : (lcE mg mt el vs es [] (wipeF F1 vs) T1).Post E1 (Wish G K W A T σ g) := post_bind p1
  obtain ⟨Ig, wg⟩ := I1.guard (o := .lst []) hP
  refine ⟨fun i m H => m = es.length - i ∧ i ≤ es.length ∧ ∃ g2 F2 T2 ds acc, g2.H = H ∧ Iv G K (A.gd P (.lst acc)) T2 (wipeF F2 vs) (L2.wipe σ vs) g2 ∧ Le T1 T2 g1 g2 ∧ DenL G K g2.W ds acc ∧ (lcE mg mt el vs (es.drop i) ds (wipeF F2 vs) T2).Post E1 (Wish G K W A T σ g),
    ⟨es.length, by simp, Nat.zero_le _, ⟨plus g1.own P, g1.φ, upd g1.H P (.lst [])⟩, F1, T1, [], [], rfl, Ig.wipe vs, ⟨by rw [wg]; exact Ext.refl _, fun _ _ => rfl, Nat.le_refl _⟩, DenL.nil, p1'⟩, ?_⟩
  rintro i m H ⟨rfl, hi, g2, F2, T2, ds, acc, rfl, I2, l2, dl, p2⟩
  have on : On T1.length g1 g2 := ⟨l2.ext, l2.agr⟩
  by_cases hl : i < es.length
  · refine .inr ⟨gd.go i g2 on hl, fun H' => ∃ g3 F3 T3 ds acc, g3.H = H' ∧ Iv G K (A.gd P (.lst acc)) T3 (wipeF F3 vs) (L2.wipe σ vs) g3 ∧ Le T1 T3 g1 g3 ∧ DenL G K g3.W ds acc ∧ (lcE mg mt el vs (es.drop (i + 1)) ds (wipeF F3 vs) T3).Post E1 (Wish G K W A T σ g), fun H' ⟨g3, F3, T3, ds, acc, h1, h2, h3, h4, h5⟩ => ⟨es.length - (i + 1), by omega, rfl, hl, g3, F3, T3, ds, acc, h1, h2, h3, h4, h5⟩, fun v H' y => ?_⟩
    obtain ⟨x, hx, sx, yl⟩ := gd.yld i g2 v H' on hl y
    have sx2 : x.sc T2.length = true := E.sc_mono l2.len sx
    obtain ⟨g3, rfl, I3, l3, d3⟩ := Yl.state I2 sx2 yl
    have ed : es.drop i = x :: es.drop (i + 1) := by
      rw [List.drop_eq_getElem_cons hl]
      congr 1
      rw [List.getElem?_eq_getElem hl] at hx
      exact Option.some.inj hx
    rw [ed] at p2
    unfold lcE at p2
    cases z : mg x (wipeF F2 vs) with
    | none => rw [z] at p2; exact p2.elim
    | some F3 =>
      rw [z] at p2
      refine hg _ T2 (wipeF F2 vs) F3 (L2.wipe σ vs) g3 x v _ I3 sx2 d3 z fun σ4 I4 k4 => ?_
      have kw : L2.wipe σ4 vs = L2.wipe σ vs := by
        rw [k4 vs hss]
        exact wipe_wipe
      refine ⟨kw, ?_⟩
      refine ht _ T2 F3 σ4 g3 _ I4 ((nox_post p2).imp (fun b F5 T5 p5 g5 I5 l5 => ?_) fun _ _ _ q => q)
      have dl5 : DenL G K g5.W ds acc := (dl.mono l3.ext).mono l5.ext
      cases b with
      | false =>
        rw [if_neg Bool.false_ne_true] at p5 ⊢
        have I6 := I5.wipe vs
        rw [kw] at I6
        exact ⟨g5, F5, T5, ds, acc, rfl, I6, (l2.trans l3).trans l5, dl5, p5⟩
      | true =>
        rw [if_pos rfl] at p5 ⊢
        refine he _ T5 F5 σ4 g5 _ I5 ((nox_post p5).imp (fun y F6 T6 p6 g6 w I6 l6 d6 => ?_) fun _ _ _ q => q)
        have p6' : Rs.Post (match y with | .e (.p d) => (if ds.length < LINE then lcE mg mt el vs (es.drop (i + 1)) (ds ++ [d]) (wipeF F6 vs) T6 else .bad) | _ => .bad) E1 (Wish G K W A T σ g) := p6
        split at p6'
        · rename_i d
          split at p6'
          · rename_i hlen
            have dl6 : DenL G K g6.W ds acc := dl5.mono l6.ext
            have hpo : g6.H P = some (.lst acc) := ((I6.prot P (.inr rfl)).2).trans (if_pos rfl)
            obtain ⟨I7, w7⟩ := I6.reguard (o' := .lst (acc ++ [w]))
            have I8 := I7.wipe vs
            rw [kw] at I8
            refine ⟨acc, hpo, by rw [dl6.length, sizeLine_eq]; exact hlen, ⟨g6.own, g6.φ, upd g6.H P (.lst (acc ++ [w]))⟩, F6, T6, ds ++ [d], acc ++ [w], rfl, I8, ?_, ?_, p6'⟩
            · have l7 : Le T6 T6 g6 ⟨g6.own, g6.φ, upd g6.H P (.lst (acc ++ [w]))⟩ := ⟨by rw [w7]; exact Ext.refl _, fun _ _ => rfl, Nat.le_refl _⟩
              exact (((l2.trans l3).trans l5).trans l6).trans l7
            · rw [w7]
              exact dl6.snoc d6.2
          · exact p6'.elim
        · exact p6'.elim
  · have e : i = es.length := by omega
    subst e
    rw [List.drop_length] at p2
    unfold lcE at p2
    have I3 := I2.unwipe
    obtain ⟨I4, R⟩ := I3.unguard (c := .lst ds) h0 n0 hp rfl ⟨acc, rfl, dl⟩
    exact .inl ⟨gd.stop g2 on, p2 g2 (.ref P) I4 (l1.trans l2) ⟨P, rfl, R⟩⟩
end
end Sim

set_option Elab.async false
set_option linter.all false
set_option maxRecDepth 100000
set_option maxHeartbeats 4000000
namespace Sim
open PySem L2
variable [EXC]
/-! ### the reading that a mirror itself is -/
section
variable (G : String → Addr) (K : PySem.W.Frag) (W : WX)
def teO (m : MO) : TE := fun σ H Q => ∃ A T F g, g.H = H ∧ Iv G K A T F σ g ∧ (m F T).Post (fun r F' T' => ∀ g' v, Iv G K A T' F' σ g' → Le T T' g g' → ODen G K T' σ g' r v → Q v g'.H) (Wish G K W A T σ g)
def ttO (m : MT) : TT := fun σ H Q => ∃ A T F g, g.H = H ∧ Iv G K A T F σ g ∧ (m F T).Post (fun b F' T' => ∀ g', Iv G K A T' F' σ g' → Le T T' g g' → Q b g'.H) (Wish G K W A T σ g)
def tgO (m : MG) (ss : List Nat) : TG := fun v σ H Q => ∃ A T F F' g x, g.H = H ∧ Iv G K A T F σ g ∧ x.sc T.length = true ∧ EDen G K g.W g.φ x v ∧ m x F = some F' ∧ (∀ σ', Iv G K A T F' σ' g → (∀ vs : List Nat, (∀ i ∈ ss, i ∈ vs) → wipe σ' vs = wipe σ vs) → Q σ' g.H)
end
structure JTs (G : String → Addr) (X : Cx) (W : WX) (es : List Expr) (m : MT) : Prop where
  ex : ∃ te, PTs X es te ∧ ST G X.K W te m
section
variable {G : String → Addr} {X : Cx} {W : WX} {pos p : Pos} {e a b tg : Expr} {es : List Expr} {elt iter : Expr} {ifs : List Expr}
theorem soO {K : PySem.W.Frag} {m : MO} : SO G K W (teO G K W m) m := fun A T F σ g Q I p => ⟨A, T, F, g, rfl, I, p⟩
theorem stO {K : PySem.W.Frag} {m : MT} : ST G K W (ttO G K W m) m := fun A T F σ g Q I p => ⟨A, T, F, g, rfl, I, p⟩
theorem tgOk {K : PySem.W.Frag} {m : MG} {ss : List Nat} : TgOk G K (tgO G K m ss) m ss := fun A T F F' σ g x v Q I sc d e q => ⟨A, T, F, F', g, x, rfl, I, sc, d, e, q⟩
theorem JO.pe {m : MO} (h : JO G X W e m) : PE X e (teO G X.K W m) := by
  obtain ⟨te, p, s⟩ := h.ex
  refine ⟨fun pins st σ H Q I ⟨A, T, F, g, hg, Ig, post⟩ => ?_⟩
  subst hg
  exact p.run pins st σ g.H Q I (s A T F σ g Q Ig post)
theorem JTs.pt {m : MT} (h : JTs G X W es m) : PTs X es (ttO G X.K W m) := by
  obtain ⟨te, p, s⟩ := h.ex
  refine ⟨fun pins st σ H Q I ⟨A, T, F, g, hg, Ig, post⟩ => ?_⟩
  subst hg
  exact p.run pins st σ g.H Q I (s A T F σ g Q Ig post)
theorem JG.pg {m : MG} {ss : List Nat} (h : JG G X tg m ss) : PG X tg (tgO G X.K m ss) := by
  obtain ⟨te, p, s⟩ := h.ex
  refine ⟨fun pins st σ H v u Q I r ⟨A, T, F, F', g, x, hg, Ig, sc, d, e, q⟩ => ?_⟩
  subst hg
  exact p.run pins st σ g.H v u Q I r (s A T F F' σ g x v Q Ig sc d e q)
def tT : MT := fun F T => .ok true F T
theorem jts_nil : JTs G X W [] tT := ⟨tYes, pts_nil, fun A T F σ g Q I p => p g I Le.refl⟩
theorem jts_one {m : MT} (h : JT G X W a m) : JTs G X W [a] m := by
  obtain ⟨t, p1, s⟩ := h.ex
  exact ⟨t, pts_one p1, s⟩
variable {scope : Scope} {own : List (Str × Nat)} {mi : MI} {mg : MG} {ss : List Nat} {t : MT} {el : MO}
theorem je_lc (hc : X.calm = true) (hN : X.N.Nodup) (hi : JI G X W tg iter mi) (ok : BlkOk X.N X.env.scope scope own) (hss : ∀ i ∈ ss, i ∈ own.map (·.2))
    (hg : ∀ (s : Shared) (H : Hp) (C : Addr) (cl : List (Str × Addr)) (fp : List Addr), JG G (X.blk s H scope (compEnvC scope cl C X.env) fp) tg mg ss)
    (ht : ∀ (s : Shared) (H : Hp) (C : Addr) (cl : List (Str × Addr)) (fp : List Addr), JTs G (X.blk s H scope (compEnvC scope cl C X.env) fp) W0 ifs t)
    (he : ∀ (s : Shared) (H : Hp) (C : Addr) (cl : List (Str × Addr)) (fp : List Addr), JO G (X.blk s H scope (compEnvC scope cl C X.env) fp) W0 elt el) (hs : ∀ x, foldedSetIterable iter X.env x = pure x := by intro _; rfl) :
    JE G X W (.ListComp elt [⟨tg, iter, ifs, 0⟩] scope pos) (cLc mi mg t el (own.map (·.2))) := by
  obtain ⟨wi, p1, s1⟩ := hi.ex
  exact ⟨_, pe_lc hc hN p1 ok (fun s H C cl fp => (hg s H C cl fp).pg) (fun s H C cl fp => (ht s H C cl fp).pt) (fun s H C cl fp => (he s H C cl fp).pe) hs, lc_core hss s1 tgOk stO soO⟩
section
variable {i : Nat} {y : Str} {py spos : Pos}
theorem setLc_core (hc : X.calm = true) (hN : X.N.Nodup) (hy : X.N[i]? = some y) (hyl : X.env.scope.names.lookup y = some .local) (hsw : swapsWith (.ListComp elt [⟨tg, iter, ifs, 0⟩] scope pos) (some (.Name y py)) spos.line X.env = pure true)
    (hi : JI G X W tg iter mi) (ok : BlkOk X.N X.env.scope scope own) (hss : ∀ i ∈ ss, i ∈ own.map (·.2))
    (hg : ∀ (s : Shared) (H : Hp) (C : Addr) (cl : List (Str × Addr)) (fp : List Addr), JG G (X.blk s H scope (compEnvC scope cl C X.env) fp) tg mg ss)
    (ht : ∀ (s : Shared) (H : Hp) (C : Addr) (cl : List (Str × Addr)) (fp : List Addr), JTs G (X.blk s H scope (compEnvC scope cl C X.env) fp) W0 ifs t)
    (he : ∀ (s : Shared) (H : Hp) (C : Addr) (cl : List (Str × Addr)) (fp : List Addr), JO G (X.blk s H scope (compEnvC scope cl C X.env) fp) W0 elt el) (hs : ∀ x, foldedSetIterable iter X.env x = pure x) :
    ∃ te, PS X (.Assign [.Name y py] (.ListComp elt [⟨tg, iter, ifs, 0⟩] scope pos) spos) (tAsg te (gName i)) ∧ SE G X.K W te (cLc mi mg t el (own.map (·.2))) := by
  obtain ⟨wi, p1, s1⟩ := hi.ex
  exact ⟨_, ps_setLc hc hN hy hyl hsw p1 ok (fun s H C cl fp => (hg s H C cl fp).pg) (fun s H C cl fp => (ht s H C cl fp).pt) (fun s H C cl fp => (he s H C cl fp).pe) hs, lc_core hss s1 tgOk stO soO⟩
theorem fz_so {K : PySem.W.Frag} {te : TE} {m : ME} (h : SE G K W te m) : SO G K W te (cFz m) := fun A T F σ g Q I p => h A T F σ g Q I ((post_bind p).imp (fun r F' T' q g' v I' l rd => by
  cases r with
  | o x => exact q g' v I' l rd
  | fr c =>
    obtain ⟨a, rfl, R⟩ := rd
    have q' : Rs.Post (match c.fz with | some d => Rs.ok (OV.e (.p d)) F' T' | none => .bad) _ _ := q
    cases z : c.fz with
    | none => rw [z] at q'; exact q'.elim
    | some d =>
      rw [z] at q'
      obtain ⟨I2, l2, hd⟩ := I'.freeze R z
      exact q' ⟨minus g'.own a, g'.φ, g'.H⟩ (.ref a) I2 (l.trans l2) ⟨by rw [E.sc], hd⟩) fun _ _ _ q => q)
theorem js_setLc (hc : X.calm = true) (hN : X.N.Nodup) (hy : X.N[i]? = some y) (hyl : X.env.scope.names.lookup y = some .local) (hsw : swapsWith (.ListComp elt [⟨tg, iter, ifs, 0⟩] scope pos) (some (.Name y py)) spos.line X.env = pure true)
    (hi : JI G X W tg iter mi) (ok : BlkOk X.N X.env.scope scope own) (hss : ∀ i ∈ ss, i ∈ own.map (·.2))
    (hg : ∀ (s : Shared) (H : Hp) (C : Addr) (cl : List (Str × Addr)) (fp : List Addr), JG G (X.blk s H scope (compEnvC scope cl C X.env) fp) tg mg ss)
    (ht : ∀ (s : Shared) (H : Hp) (C : Addr) (cl : List (Str × Addr)) (fp : List Addr), JTs G (X.blk s H scope (compEnvC scope cl C X.env) fp) W0 ifs t)
    (he : ∀ (s : Shared) (H : Hp) (C : Addr) (cl : List (Str × Addr)) (fp : List Addr), JO G (X.blk s H scope (compEnvC scope cl C X.env) fp) W0 elt el) (hs : ∀ x, foldedSetIterable iter X.env x = pure x := by intro _; rfl) :
    JS G X W (.Assign [.Name y py] (.ListComp elt [⟨tg, iter, ifs, 0⟩] scope pos) spos) (sAsg i (cFz (cLc mi mg t el (own.map (·.2))))) := by
  obtain ⟨te, p, s⟩ := setLc_core hc hN hy hyl hsw hi ok hss hg ht he hs
  exact ⟨_, p, asg_core (fz_so s)⟩
theorem js_setLcO (hc : X.calm = true) (hN : X.N.Nodup) (hy : X.N[i]? = some y) (hyl : X.env.scope.names.lookup y = some .local) (hsw : swapsWith (.ListComp elt [⟨tg, iter, ifs, 0⟩] scope pos) (some (.Name y py)) spos.line X.env = pure true)
    (hi : JI G X W tg iter mi) (ok : BlkOk X.N X.env.scope scope own) (hss : ∀ i ∈ ss, i ∈ own.map (·.2))
    (hg : ∀ (s : Shared) (H : Hp) (C : Addr) (cl : List (Str × Addr)) (fp : List Addr), JG G (X.blk s H scope (compEnvC scope cl C X.env) fp) tg mg ss)
    (ht : ∀ (s : Shared) (H : Hp) (C : Addr) (cl : List (Str × Addr)) (fp : List Addr), JTs G (X.blk s H scope (compEnvC scope cl C X.env) fp) W0 ifs t)
    (he : ∀ (s : Shared) (H : Hp) (C : Addr) (cl : List (Str × Addr)) (fp : List Addr), JO G (X.blk s H scope (compEnvC scope cl C X.env) fp) W0 elt el) (hs : ∀ x, foldedSetIterable iter X.env x = pure x := by intro _; rfl) :
    JS G X W (.Assign [.Name y py] (.ListComp elt [⟨tg, iter, ifs, 0⟩] scope pos) spos) (sAsgO i (cLc mi mg t el (own.map (·.2)))) := by
  obtain ⟨te, p, s⟩ := setLc_core hc hN hy hyl hsw hi ok hss hg ht he hs
  exact ⟨_, p, asgO_core s⟩
end
end

/-! ### an item -/
def seqAt : Vw → Int → Option E
  | .c (.lst xs), i => (atI xs i).map .p
  | .c (.lse xs), i => atI xs i
  | .r xs, i => (atI xs i).map .p
  | .t xs, i => atI xs i
  | .d (.tup xs), i => (atI xs i).map .p
  | .d (.rot xs), i => (atI xs i).map .p
  | .d (.str s), i => if s.length ≤ LINE then (atI s.cps.toList i).map fun c => .p (.str ⟨#[c]⟩) else none
  | _, _ => none
def vsc (n : Nat) : Vw → Bool
  | .c k => k.sc n
  | .t ks => E.scL n ks
  | _ => true
def ixF : F2 := fun F T x y => match look F T x, y with
  | some w, .e (.p (.int i)) => (seqAt w i).map fun e => .o (.e e)
  | _, _ => none
def keyD : D → Option Key
  | .int i => some (.inl i)
  | .str s => some (.inr s)
  | _ => none
def keysD : List D → Option (List Key)
  | [] => some []
  | d :: r => match keyD d, keysD r with
    | some k, some ks => some (k :: ks)
    | _, _ => none
def keyT : D → Option (List Key)
  | .tup ds => keysD ds
  | _ => none
def kget {κ α : Type} [DecidableEq κ] (ks : List (κ × α)) (k : κ) : Option α := (ks.find? fun kv => decide (kv.1 = k)).map (·.2)
def dicAt : Vw → D → Option E
  | .c (.dic ks), d => (keyD d).bind fun k => (kget ks k).map .p
  | .c (.dce ks), d => (keyD d).bind fun k => kget ks k
  | .c (.dit ks), d => (keyT d).bind fun k => (kget ks k).map .p
  | _, _ => none
def dxF : F2 := fun F T x y => match look F T x, dat F T y with
  | some w, some d => (dicAt w d).map fun e => .o (.e e)
  | _, _ => none
section
variable {G : String → Addr} {K : PySem.W.Frag} {A : Act} {T T' : Sto} {F F' : Fr} {σ : St} {g g' : Gs} {W : WX} {H H' : Hp} {φ : Nat → Addr}
theorem pF_sc {n : Nat} : ∀ {fs : List (String × D)}, scK n (pF fs) = true
  | [] => rfl
  | y :: r => by
    show ((E.p y.2).sc n && scK n (pF r)) = true
    rw [pF_sc (fs := r), scp]
    rfl
theorem look_sc (I : Iv G K A T F σ g) {x : OV} {v : V} {w : Vw} (h : ODen G K T σ g x v) (l : look F T x = some w) : vsc T.length w = true := by
  cases x with
  | e x =>
    cases x with
    | p d =>
      obtain rfl : dvw d = w := Option.some.inj l
      cases d <;> first | rfl | exact pF_sc
    | loc n =>
      have l' : (T[n]?).map Vw.c = some w := l
      cases q : T[n]? with
      | none => rw [q] at l'; cases l'
      | some c =>
        rw [q] at l'
        obtain rfl : Vw.c c = w := Option.some.inj l'
        exact I.cell_sc q
    | tp xs =>
      obtain rfl : Vw.t xs = w := Option.some.inj l
      have s := h.1
      rw [E.sc] at s
      exact s
  | sl i =>
    have l' : (match F[i]? with | some (.o c) => some (Vw.c c) | _ => none) = some w := l
    cases q : F[i]? with
    | none => rw [q] at l'; cases l'
    | some s =>
      rw [q] at l'
      cases s with
      | u => cases l'
      | x _ => cases l'
      | e _ => cases l'
      | o c =>
        obtain rfl : Vw.c c = w := Option.some.inj l'
        exact (I.slot i _ q).1
end
end Sim

set_option Elab.async false
set_option linter.all false
set_option maxRecDepth 100000
set_option maxHeartbeats 4000000
namespace Sim
open PySem L2
variable [EXC]
section
variable {G : String → Addr} {K : PySem.W.Frag} {A : Act} {T T' : Sto} {F F' : Fr} {σ : St} {g g' : Gs} {W : WX} {H H' : Hp} {φ : Nat → Addr}
theorem atI_len {α β : Type} {xs : List α} {ys : List β} {i : Int} (h : xs.length = ys.length) : ∀ {x : α}, L2.atI xs i = some x → ∃ (j : Nat), xs[j]? = some x ∧ L2.atI ys i = ys[j]? := fun {x} e => by
  unfold L2.atI at e ⊢
  rw [← h]
  cases q : ixN xs.length i with
  | none => rw [q] at e; cases e
  | some j => rw [q] at e; exact ⟨j, e, rfl⟩
theorem DenL.atI {xs : List D} {vs : List V} {i : Int} {x : D} (h : DenL G K H xs vs) (e : L2.atI xs i = some x) : ∃ v, L2.atI vs i = some v ∧ Den G K H x v := by
  obtain ⟨j, h1, h2⟩ := atI_len h.length.symm e
  obtain ⟨v, h3, h4⟩ := h.get h1
  exact ⟨v, h2.trans h3, h4⟩
theorem EDenL.atI {xs : List E} {vs : List V} {i : Int} {x : E} (h : EDenL G K H φ xs vs) (e : L2.atI xs i = some x) : ∃ v, L2.atI vs i = some v ∧ EDen G K H φ x v := by
  obtain ⟨j, h1, h2⟩ := atI_len h.length.symm e
  obtain ⟨v, h3, h4⟩ := h.get h1
  exact ⟨v, h2.trans h3, h4⟩
theorem atI_mem {α : Type} {xs : List α} {i : Int} {x : α} (e : L2.atI xs i = some x) : ∃ j : Nat, xs[j]? = some x := by
  obtain ⟨j, h1, _⟩ := atI_len (ys := xs) rfl e
  exact ⟨j, h1⟩
theorem ops_ix : OpS G K (rIx K) ixF := by
  intro A T F σ g x y vx vy z I hx hy e Q k
  unfold ixF at e
  split at e
  · rename_i w i hw
    obtain ⟨r, e1, rfl⟩ := map_inv e
    have d := look_den I hx hw
    have s := look_sc I hx hw
    have ey := hy.2
    obtain rfl : vy = .int i := ey
    have fin : ∀ u, r.sc T.length = true → EDen G K g.W g.φ r u → Q u g.H := fun u h1 h2 => k g u I Le.refl ⟨h1, h2⟩
    cases w with
    | d dd =>
      cases dd with
      | str c =>
        obtain rfl : vx = .str c := d
        have e2 : (if c.length ≤ LINE then (L2.atI c.cps.toList i).map fun c => E.p (.str ⟨#[c]⟩) else none) = some r := e1
        split at e2
        · rename_i hl
          obtain ⟨ch, e3, rfl⟩ := map_inv e2
          exact .inr (.inr ⟨c, i, ch, rfl, rfl, line_le hl, e3, fin _ scp rfl⟩)
        · cases e2
      | tup xs =>
        obtain ⟨x0, e2, rfl⟩ := map_inv e1
        obtain ⟨a, vs, rfl, h1, l⟩ := d
        obtain ⟨v, h2, h3⟩ := l.atI e2
        exact .inr (.inl ⟨a, vs, i, v, rfl, rfl, .inl (.inl (vw_le.fm a (.tup vs) trivial h1)), h2, fin v scp h3⟩)
      | rot xs =>
        obtain ⟨x0, e2, rfl⟩ := map_inv e1
        obtain ⟨a, vs, rfl, h1, l⟩ := d
        obtain ⟨v, h2, h3⟩ := l.atI e2
        exact .inr (.inl ⟨a, vs, i, v, rfl, rfl, vw_le.t h1, h2, fin v scp h3⟩)
      | _ => cases e1
    | r xs =>
      obtain ⟨x0, e2, rfl⟩ := map_inv e1
      obtain ⟨a, vs, rfl, h1, l⟩ := d
      obtain ⟨v, h2, h3⟩ := l.atI e2
      exact .inl ⟨a, vs, i, v, rfl, rfl, h1, h2, fin v scp h3⟩
    | t xs =>
      have e2 : L2.atI xs i = some r := e1
      obtain ⟨a, vs, rfl, h1, l⟩ := d
      obtain ⟨v, h2, h3⟩ := l.atI e2
      obtain ⟨j, hj⟩ := atI_mem e2
      exact .inr (.inl ⟨a, vs, i, v, rfl, rfl, .inl (.inl h1), h2, fin v (E.scL_get s hj) h3⟩)
    | c c =>
      obtain ⟨a, rfl, d⟩ := d
      cases c with
      | lst xs =>
        obtain ⟨x0, e2, rfl⟩ := map_inv e1
        obtain ⟨vs, h1, l⟩ := d
        obtain ⟨v, h2, h3⟩ := l.atI e2
        exact .inl ⟨a, vs, i, v, rfl, rfl, .inl (.inl h1), h2, fin v scp h3⟩
      | lse xs =>
        have e2 : L2.atI xs i = some r := e1
        obtain ⟨vs, h1, l⟩ := d
        obtain ⟨v, h2, h3⟩ := l.atI e2
        obtain ⟨j, hj⟩ := atI_mem e2
        exact .inl ⟨a, vs, i, v, rfl, rfl, .inl (.inl h1), h2, fin v (E.scL_get s hj) h3⟩
      | _ => cases e1
  · cases e
/-! ### dicts: keys -/
theorem keyD_V {d : D} {k : Key} {v : V} (h : keyD d = some k) (s : VwDen G K g (dvw d) v) : v = kV k := by
  cases d with
  | int i => cases h; exact s
  | str c => cases h; exact s
  | _ => cases h
theorem keysD_V : ∀ {ds : List D} {ks : List Key} {vs : List V}, keysD ds = some ks → DenL G K H ds vs → vs = ks.map kV
  | [], ks, vs, h, l => by
    unfold keysD at h
    cases h
    exact l
  | d :: r, ks, vs, h, ⟨v, w, e, h1, h2⟩ => by
    unfold keysD at h
    split at h
    · rename_i k ks' e1 e2
      cases h
      rw [e, keysD_V e2 h2]
      cases d with
      | int i => cases e1; rw [show v = .int i from h1]; rfl
      | str c => cases e1; rw [show v = .str c from h1]; rfl
      | _ => cases e1
    · cases h
theorem kget_cons {κ α : Type} [DecidableEq κ] {k j : κ} {x : α} {r : List (κ × α)} : kget ((k, x) :: r) j = if k = j then some x else kget r j := by
  unfold kget
  rw [List.find?_cons]
  by_cases e : k = j
  · subst e; simp
  · simp [e]
theorem valV_cons {κ : Type} [DecidableEq κ] {k j : κ} {x : V} {r : List (κ × V)} : valV ((k, x) :: r) j = if k = j then some x else valV r j := by
  by_cases e : k = j
  · rw [if_pos e]; exact valV_pos e
  · rw [if_neg e]; exact valV_neg e
theorem DenK.val : ∀ {ks : List (Key × D)} {us : List (Key × V)} {k : Key}, DenK G K H ks us → match kget ks k with
    | some d => ∃ v, valV us k = some v ∧ Den G K H d v
    | none => valV us k = none
  | [], us, k, h => by
    obtain rfl : us = [] := h
    rfl
  | (j, x) :: r, us, k, ⟨v, w, e, h1, h2⟩ => by
    rw [e, kget_cons, valV_cons]
    by_cases ej : j = k
    · rw [if_pos ej, if_pos ej]
      exact ⟨v, rfl, h1⟩
    · rw [if_neg ej, if_neg ej]
      exact DenK.val h2
theorem DenT.val : ∀ {ks : List (List Key × D)} {us : List (List Key × V)} {k : List Key}, DenT G K H ks us → match kget ks k with
    | some d => ∃ v, valV us k = some v ∧ Den G K H d v
    | none => valV us k = none
  | [], us, k, h => by
    obtain rfl : us = [] := h
    rfl
  | (j, x) :: r, us, k, ⟨v, w, e, h1, h2⟩ => by
    rw [e, kget_cons, valV_cons]
    by_cases ej : j = k
    · rw [if_pos ej, if_pos ej]
      exact ⟨v, rfl, h1⟩
    · rw [if_neg ej, if_neg ej]
      exact DenT.val h2
theorem EDenK.val : ∀ {ks : List (Key × E)} {us : List (Key × V)} {k : Key}, EDenK G K H φ ks us → match kget ks k with
    | some d => ∃ v, valV us k = some v ∧ EDen G K H φ d v
    | none => valV us k = none
  | [], us, k, h => by
    obtain rfl : us = [] := h
    rfl
  | (j, x) :: r, us, k, ⟨v, w, e, h1, h2⟩ => by
    rw [e, kget_cons, valV_cons]
    by_cases ej : j = k
    · rw [if_pos ej, if_pos ej]
      exact ⟨v, rfl, h1⟩
    · rw [if_neg ej, if_neg ej]
      exact EDenK.val h2
theorem scK_get {κ : Type} [DecidableEq κ] {n : Nat} : ∀ {ks : List (κ × E)} {k : κ} {x : E}, scK n ks = true → kget ks k = some x → x.sc n = true
  | [], k, x, _, h => by cases h
  | (j, y) :: r, k, x, s, h => by
    rw [scK] at s
    obtain ⟨s1, s2⟩ := Bool.and_eq_true_iff.mp s
    rw [kget_cons] at h
    split at h
    · cases h; exact s1
    · exact scK_get s2 h
/-- what a dict has under a key -/
def dkey (w : Vw) (d : D) : Option (Option E) := match w with
  | .c (.dic ks) => (keyD d).map fun k => (kget ks k).map .p
  | .c (.dce ks) => (keyD d).map fun k => kget ks k
  | .c (.dit ks) => (keyT d).map fun k => (kget ks k).map .p
  | _ => none
theorem dkey_den {w : Vw} {d : D} {v u : V} {r : Option E} {n : Nat} (h : VwDen G K g w v) (s : vsc n w = true) (y : VwDen G K g (dvw d) u) (e : dkey w d = some r) :
    ∃ a, v = .ref a ∧ match (generalizing := false) r with
      | some x => x.sc n = true ∧ ∃ z, DGet g.H a u (some z) ∧ EDen G K g.W g.φ x z
      | none => DGet g.H a u none := by
  cases w with
  | d dd => cases e
  | r xs => cases e
  | t xs => cases e
  | c c =>
    obtain ⟨a, rfl, h⟩ := h
    refine ⟨a, rfl, ?_⟩
    cases c with
    | dic ks =>
      obtain ⟨k, e1, rfl⟩ := map_inv (show (keyD d).map (fun k => (kget ks k).map E.p) = some r from e)
      obtain ⟨us, h1, h2⟩ := h
      have hv := DenK.val (k := k) h2
      rw [keyD_V e1 y]
      cases q : kget ks k with
      | none =>
        rw [q] at hv
        exact .inl ⟨us, k, h1, rfl, hv.symm⟩
      | some x =>
        rw [q] at hv
        obtain ⟨z, h3, h4⟩ := hv
        exact ⟨scp, z, .inl ⟨us, k, h1, rfl, h3.symm⟩, h4⟩
    | dce ks =>
      obtain ⟨k, e1, rfl⟩ := map_inv (show (keyD d).map (fun k => kget ks k) = some r from e)
      obtain ⟨us, h1, h2⟩ := h
      have hv := EDenK.val (k := k) h2
      rw [keyD_V e1 y]
      cases q : kget ks k with
      | none =>
        rw [q] at hv
        exact .inl ⟨us, k, h1, rfl, hv.symm⟩
      | some x =>
        rw [q] at hv
        obtain ⟨z, h3, h4⟩ := hv
        exact ⟨scK_get s q, z, .inl ⟨us, k, h1, rfl, h3.symm⟩, h4⟩
    | dit ks =>
      obtain ⟨k, e1, rfl⟩ := map_inv (show (keyT d).map (fun k => (kget ks k).map E.p) = some r from e)
      obtain ⟨us, h1, h2⟩ := h
      have hv := DenT.val (k := k) h2
      cases d with
      | tup ds =>
        obtain ⟨b, vs, rfl, hb, l⟩ := y
        have ev := keysD_V (show keysD ds = some k from e1) l
        subst ev
        have hb' := vw_le.fm b (.tup (k.map kV)) trivial hb
        cases q : kget ks k with
        | none =>
          rw [q] at hv
          exact .inr ⟨us, k, b, h1, rfl, hb', hv.symm⟩
        | some x =>
          rw [q] at hv
          obtain ⟨z, h3, h4⟩ := hv
          exact ⟨scp, z, .inr ⟨us, k, b, h1, rfl, hb', h3.symm⟩, h4⟩
      | _ => cases e1
    | lst xs => cases e
    | lse xs => cases e
    | ins c xs => cases e
def dkF (f : Option E → Option RV) : F2 := fun F T x y => match look F T x, dat F T y with
  | some w, some d => (dkey w d).bind f
  | _, _ => none
theorem dk_inv {f : Option E → Option RV} {x y : OV} {z : RV} (e : dkF f F T x y = some z) : ∃ w d r, look F T x = some w ∧ dat F T y = some d ∧ dkey w d = some r ∧ f r = some z := by
  unfold dkF at e
  split at e
  · rename_i w d h1 h2
    cases q : dkey w d with
    | none => rw [q] at e; cases e
    | some r => rw [q] at e; exact ⟨w, d, r, h1, h2, q, e⟩
  · cases e
def rDG : R2 := fun x y H Q => ∃ a v, x = .ref a ∧ DGet H a y (some v) ∧ Q v H
def dgF : F2 := dkF fun r => r.map fun e => .o (.e e)
theorem ops_dg : OpS G K rDG dgF := by
  intro A T F σ g x y vx vy z I hx hy e Q k
  obtain ⟨w, d, r, h1, h2, h3, h4⟩ := dk_inv e
  obtain ⟨x0, rfl, rfl⟩ := map_inv h4
  obtain ⟨a, rfl, s, u, h5, h6⟩ := dkey_den (look_den I hx h1) (look_sc I hx h1) (dat_den I hy h2) h3
  exact ⟨a, u, rfl, h5, k g u I Le.refl ⟨s, h6⟩⟩
/-- k in d -/
def rDIn : R2 := fun y x H Q => ∃ a o, x = .ref a ∧ DGet H a y o ∧ Q (.bl o.isSome) H
def rDNi : R2 := fun y x H Q => ∃ a o, x = .ref a ∧ DGet H a y o ∧ Q (.bl (!o.isSome)) H
def dinF : F2 := fun F T y x => dkF (fun r => some (.o (.e (.p (.bl r.isSome))))) F T x y
def dniF : F2 := fun F T y x => dkF (fun r => some (.o (.e (.p (.bl (!r.isSome)))))) F T x y
theorem ops_din : OpS G K rDIn dinF := by
  intro A T F σ g x y vx vy z I hx hy e Q k
  obtain ⟨w, d, r, h1, h2, h3, h4⟩ := dk_inv e
  cases h4
  obtain ⟨a, rfl, h⟩ := dkey_den (look_den I hy h1) (look_sc I hy h1) (dat_den I hx h2) h3
  cases r with
  | none => exact ⟨a, none, rfl, h, k g _ I Le.refl ⟨scp, rfl⟩⟩
  | some x0 =>
    obtain ⟨s, u, h5, h6⟩ := h
    exact ⟨a, some u, rfl, h5, k g _ I Le.refl ⟨scp, rfl⟩⟩
theorem ops_dni : OpS G K rDNi dniF := by
  intro A T F σ g x y vx vy z I hx hy e Q k
  obtain ⟨w, d, r, h1, h2, h3, h4⟩ := dk_inv e
  cases h4
  obtain ⟨a, rfl, h⟩ := dkey_den (look_den I hy h1) (look_sc I hy h1) (dat_den I hx h2) h3
  cases r with
  | none => exact ⟨a, none, rfl, h, k g _ I Le.refl ⟨scp, rfl⟩⟩
  | some x0 =>
    obtain ⟨s, u, h5, h6⟩ := h
    exact ⟨a, some u, rfl, h5, k g _ I Le.refl ⟨scp, rfl⟩⟩
/-! ### in, of lists and texts -/
def svl : List D → Option (List V)
  | [] => some []
  | d :: r => match sv d, svl r with
    | some v, some vs => some (v :: vs)
    | _, _ => none
theorem svl_of : ∀ {ds : List D} {us vs : List V}, svl ds = some us → DenL G K H ds vs → vs = us ∧ us.all flatV = true
  | [], us, vs, h, l => by
    cases h
    exact ⟨l, rfl⟩
  | d :: r, us, vs, h, ⟨v, w, e, h1, h2⟩ => by
    unfold svl at h
    split at h
    · rename_i a b e1 e2
      cases h
      obtain ⟨q1, q2⟩ := svl_of e2 h2
      refine ⟨by rw [e, q1, sv_of e1 h1], ?_⟩
      rw [List.all_cons, q2, Bool.and_true]
      cases d <;> first | (cases e1; rfl) | (cases e1)
    · cases h
def seqD : D → Option (List D)
  | .lst xs => some xs
  | .rol xs => some xs
  | .tup xs => some xs
  | .rot xs => some xs
  | _ => none
theorem seqD_V {d : D} {xs : List D} {v : V} (e : seqD d = some xs) (h : VwDen G K g (dvw d) v) : ∃ a vs, v = .ref a ∧ (SqL K g.H a vs ∨ SqT K g.H a vs) ∧ DenL G K g.W xs vs := by
  cases d with
  | lst ys => cases e; obtain ⟨a, rfl, vs, s, l⟩ := h; exact ⟨a, vs, rfl, .inl (.inl (.inl s)), l⟩
  | rol ys => cases e; obtain ⟨a, vs, rfl, s, l⟩ := h; exact ⟨a, vs, rfl, .inl s, l⟩
  | tup ys => cases e; obtain ⟨a, vs, rfl, s, l⟩ := h; exact ⟨a, vs, rfl, .inr (.inl (.inl (vw_le.fm a (.tup vs) trivial s))), l⟩
  | rot ys => cases e; obtain ⟨a, vs, rfl, s, l⟩ := h; exact ⟨a, vs, rfl, .inr (vw_le.t s), l⟩
  | _ => cases e
def smem (a b : D) : Option Bool := match sv a, (seqD b).bind svl with
  | some u, some us => some (inV u us)
  | _, _ => none
def pymem (a b : D) : Option Bool := match a.py, b.py with
  | some d, some (.list ds) => if SeqAt.shaped d = true ∧ SeqAt.shaped (.list ds) = true then some (ds.any fun z => PyData.eqv z d) else none
  | _, _ => none
theorem ops_inS {neg : Bool} : OpS G K (rIn K neg) (bF fun a b => (smem a b).map fun r => if neg then !r else r) := by
  intro A T F σ g x y vx vy z I hx hy e Q k
  obtain ⟨a, b, r, e1, e2, e3, rfl⟩ := bF_inv e
  obtain ⟨r', e4, rfl⟩ := map_inv e3
  unfold smem at e4
  split at e4
  · rename_i u us h1 h2
    cases e4
    cases h3 : seqD b with
    | none => rw [h3] at h2; cases h2
    | some xs =>
      rw [h3] at h2
      obtain ⟨p, vs, rfl, sq, l⟩ := seqD_V h3 (dat_den I hy e2)
      obtain ⟨q1, q2⟩ := svl_of h2 l
      subst q1
      obtain rfl := seen_sv h1 (dat_den I hx e1)
      have fl : flatV vx = true := by cases a <;> first | (cases h1; rfl) | (cases h1)
      exact ⟨p, vs, rfl, sq, fl, q2, k g _ I Le.refl ⟨scp, rfl⟩⟩
  · cases e4
theorem pymem_inv {a b : D} {r : Bool} (h : pymem a b = some r) : ∃ d ds, a.py = some d ∧ b.py = some (.list ds) ∧ SeqAt.shaped d = true ∧ SeqAt.shaped (.list ds) = true ∧ r = ds.any fun z => PyData.eqv z d := by
  unfold pymem at h
  split at h
  · rename_i d ds e1 e2
    split at h
    · rename_i hs
      exact ⟨d, ds, e1, e2, hs.1, hs.2, (Option.some.inj h).symm⟩
    · cases h
  · cases h
theorem ops_inP : OpS G K (rInD K) (bF pymem) := by
  intro A T F σ g x y vx vy z I hx hy e Q k
  obtain ⟨a, b, r, e1, e2, e3, rfl⟩ := bF_inv e
  obtain ⟨d, ds, s1, s2, s3, s4, rfl⟩ := pymem_inv e3
  exact ⟨d, ds, seen_dp s1 (dat_den I hx e1), seen_dp s2 (dat_den I hy e2), s3, s4, k g _ I Le.refl ⟨scp, rfl⟩⟩
theorem ops_niP : OpS G K (rNotInD K) (bF fun a b => (pymem a b).map (!·)) := by
  intro A T F σ g x y vx vy z I hx hy e Q k
  obtain ⟨a, b, r, e1, e2, e3, rfl⟩ := bF_inv e
  obtain ⟨r', e4, rfl⟩ := map_inv e3
  obtain ⟨d, ds, s1, s2, s3, s4, rfl⟩ := pymem_inv e4
  exact ⟨d, ds, seen_dp s1 (dat_den I hx e1), seen_dp s2 (dat_den I hy e2), s3, s4, k g _ I Le.refl ⟨scp, rfl⟩⟩
/-- one sign in a text -/
def sgF (neg : Bool) : F2 := fun _ _ x y => match x, y with
  | .e (.p (.str c)), .e (.p (.str z)) => match c.cps.toList with
    | [n] => some (.o (.e (.p (.bl (if neg then !decide (n ∈ z.cps.toList) else decide (n ∈ z.cps.toList))))))
    | _ => none
  | _, _ => none
theorem str_one {c : Str} {n : Nat} (h : c.cps.toList = [n]) : c = ⟨#[n]⟩ := by
  obtain ⟨a⟩ := c
  congr 1
  exact Array.toList_inj.mp h
theorem ops_sg : OpS G K (fun x y H Q => ∃ (c : Nat) (z : Str), x = .str ⟨#[c]⟩ ∧ y = .str z ∧ Q (.bl (decide (c ∈ z.cps.toList))) H) (sgF false) := by
  intro A T F σ g x y vx vy z I hx hy e Q k
  unfold sgF at e
  split at e
  · split at e
    · rename_i n hn
      cases e
      refine ⟨n, _, (show vx = _ from hx.2).trans (by rw [str_one hn]), hy.2, k g _ I Le.refl ⟨scp, rfl⟩⟩
    · cases e
  · cases e
theorem ops_nsg : OpS G K (fun x y H Q => ∃ (c : Nat) (z : Str), x = .str ⟨#[c]⟩ ∧ y = .str z ∧ Q (.bl (!decide (c ∈ z.cps.toList))) H) (sgF true) := by
  intro A T F σ g x y vx vy z I hx hy e Q k
  unfold sgF at e
  split at e
  · split at e
    · rename_i n hn
      cases e
      refine ⟨n, _, (show vx = _ from hx.2).trans (by rw [str_one hn]), hy.2, k g _ I Le.refl ⟨scp, rfl⟩⟩
    · cases e
  · cases e
end
theorem op_dIn {X : Cx} (hu : X.A.units + 1 < cLine) : OpR X (compareOp .In) rDIn := by
  intro pins s σ H x y v u Q I rx ry ⟨a, o, ey, g, q⟩
  subst ey
  cases ry
  exact d_in hu I g rx fun s3 I3 => ⟨.bl o.isSome, H, I3, rfl, q⟩
theorem op_dNi {X : Cx} (hu : X.A.units + 1 < cLine) : OpR X (compareOp .NotIn) rDNi := by
  intro pins s σ H x y v u Q I rx ry ⟨a, o, ey, g, q⟩
  subst ey
  cases ry
  exact d_notIn hu I g rx fun s3 I3 => ⟨.bl (!o.isSome), H, I3, rfl, q⟩
def inF : F2 := orF (bF fun a b => (smem a b).map fun r => if false then !r else r) (orF (bF pymem) (orF dinF (sgF false)))
def niF : F2 := orF (bF fun a b => (smem a b).map fun r => if true then !r else r) (orF (bF fun a b => (pymem a b).map (!·)) (orF dniF (sgF true)))
section
variable {G : String → Addr} {X : Cx} {W : WX} {pos p : Pos} {e a b : Expr} {es : List Expr}
theorem je_in {ma mb : MO} (hu : X.A.units + 65 < cLine) (hm : behindInMarks .In b = false) (ha : JO G X W a ma) (hb : JO G X W b mb) : JE G X W (.Compare a [.In] [b] pos) (cOp inF ma mb) :=
  je_cmp (op_in_seq.or ((op_inD hu).or ((op_dIn (by omega)).or op_in_sign))) (ops_inS.or (ops_inP.or (ops_din.or ops_sg))) hm ha hb
theorem je_ni {ma mb : MO} (hu : X.A.units + 65 < cLine) (hm : behindInMarks .NotIn b = false) (ha : JO G X W a ma) (hb : JO G X W b mb) : JE G X W (.Compare a [.NotIn] [b] pos) (cOp niF ma mb) :=
  je_cmp (op_notIn_seq.or ((op_notInD hu).or ((op_dNi (by omega)).or op_notIn_sign))) (ops_inS.or (ops_niP.or (ops_dni.or ops_nsg))) hm ha hb
theorem jt_in {ma mb : MO} (hu : X.A.units + 65 < cLine) (hm : behindInMarks .In b = false) (ha : JO G X W a ma) (hb : JO G X W b mb) : JT G X W (.Compare a [.In] [b] pos) (cBool (cOp inF ma mb)) :=
  jt_cmp (op_in_seq.or ((op_inD hu).or ((op_dIn (by omega)).or op_in_sign))) (ops_inS.or (ops_inP.or (ops_din.or ops_sg))) hm ha hb
theorem jt_ni {ma mb : MO} (hu : X.A.units + 65 < cLine) (hm : behindInMarks .NotIn b = false) (ha : JO G X W a ma) (hb : JO G X W b mb) : JT G X W (.Compare a [.NotIn] [b] pos) (cBool (cOp niF ma mb)) :=
  jt_cmp (op_notIn_seq.or ((op_notInD hu).or ((op_dNi (by omega)).or op_notIn_sign))) (ops_inS.or (ops_niP.or (ops_dni.or ops_nsg))) hm ha hb
/-! ### a[i] -/
theorem PE.or {t1 t2 : TE} (h1 : PE X e t1) (h2 : PE X e t2) : PE X e (fun σ H Q => t1 σ H Q ∨ t2 σ H Q) := by
  refine ⟨fun pins s σ H Q I h => ?_⟩
  rcases h with h | h
  · exact h1.run pins s σ H Q I h
  · exact h2.run pins s σ H Q I h
theorem cOp_or {f1 f2 : F2} {ma mb : MO} {F : Fr} {T : Sto} : cOp (orF f1 f2) ma mb F T = cOp f1 ma mb F T ∨ cOp (orF f1 f2) ma mb F T = cOp f2 ma mb F T := by
  unfold cOp
  cases ma F T with
  | bad => exact .inl rfl
  | exc x F1 T1 => exact .inl rfl
  | ok x F1 T1 =>
    show (mb F1 T1).bind _ = (mb F1 T1).bind _ ∨ (mb F1 T1).bind _ = (mb F1 T1).bind _
    cases mb F1 T1 with
    | bad => exact .inl rfl
    | exc x F1 T1 => exact .inl rfl
    | ok y F2 T2 =>
      show (match orF f1 f2 F2 T2 x y with | some z => Rs.ok z F2 T2 | none => .bad) = (match f1 F2 T2 x y with | some z => Rs.ok z F2 T2 | none => .bad) ∨ (match orF f1 f2 F2 T2 x y with | some z => Rs.ok z F2 T2 | none => .bad) = (match f2 F2 T2 x y with | some z => Rs.ok z F2 T2 | none => .bad)
      unfold orF
      cases f1 F2 T2 x y with
      | some z => exact .inl rfl
      | none => exact .inr rfl
theorem or_se {K : PySem.W.Frag} {t1 t2 : TE} {f1 f2 : F2} {ma mb : MO} (h1 : SE G K W t1 (cOp f1 ma mb)) (h2 : SE G K W t2 (cOp f2 ma mb)) : SE G K W (fun σ H Q => t1 σ H Q ∨ t2 σ H Q) (cOp (orF f1 f2) ma mb) := by
  intro A T F σ g Q I p
  rcases cOp_or (f1 := f1) (f2 := f2) (ma := ma) (mb := mb) (F := F) (T := T) with z | z
  · rw [z] at p; exact .inl (h1 A T F σ g Q I p)
  · rw [z] at p; exact .inr (h2 A T F σ g Q I p)
theorem je_ix {ma mb : MO} (hu : X.A.units + 1 < cLine) (hs : PlainIx b) (hn : NoSl b) (ha : JO G X W a ma) (hb : JO G X W b mb) : JE G X W (.Subscript a b pos) (cOp (orF ixF dgF) ma mb) := by
  obtain ⟨ta, pa, sa⟩ := ha.ex
  obtain ⟨tb, pb, sb⟩ := hb.ex
  refine ⟨_, PE.or (pe_ix ix_seq pa pb hs) (pe_dget hu pa pb hn), or_se (op_core ops_ix sa sb) (t2 := tDGet ta tb) ?_⟩
  exact op_core (r := rDG) ops_dg sa sb
end
end Sim

set_option Elab.async false
set_option linter.all false
set_option maxRecDepth 100000
set_option maxHeartbeats 4000000
namespace Sim
open PySem L2
variable [EXC]
open PyProof.Rows (envOfC)

/-! ### room, and what is being shown (no repr is under way) -/
structure Rm (k : Nat) (A : PySem.Around) : Prop where
  rm : Room k A
  gd : A.guards = some []
theorem Rm.mono {j k : Nat} {A : PySem.Around} (r : Rm k A) (h : j ≤ k) : Rm j A := ⟨r.rm.mono h, r.gd⟩
theorem Rm.deeper {k : Nat} {A : PySem.Around} (r : Rm (k + 1) A) (env : Env) : Rm k (A.deeper env) := ⟨r.rm.deeper env, r.gd⟩
/-- the promise of a def where no repr is under way -/
structure FnG (P : Program) (w : World) (K : PySem.W.Frag) (mg : Str → Option Value) (base : Heap) (k : Nat) (f : Addr) (fd : FuncData) (ps : List Str) (sp : Sp) : Prop where
  many : ∀ vs H Q E, sp vs H Q E → vs.length = ps.length
  go : ∀ (A : PySem.Around), Rm k A → ∀ (outer : List Env) (s : Shared) (H : Hp) (args : Args) (us : List Value) (vs : List V) (Q : VK) (E : XK), Env0 P w K mg base A outer s H → BindsTo s fd args (ps.zip us) → Vals vs us → sp vs H Q E →
    codeAny (model P w) A (.call (.ref f) args) (CR (L2.CX P w) outer P w H s Q E) s
theorem FnG.imp {P : Program} {w : World} {K : PySem.W.Frag} {mg : Str → Option Value} {base : Heap} {k : Nat} {f : Addr} {fd : FuncData} {ps : List Str} {sp sp' : Sp} (F : FnG P w K mg base k f fd ps sp)
    (h : ∀ vs H Q E, sp' vs H Q E → sp vs H Q E) : FnG P w K mg base k f fd ps sp' :=
  ⟨fun vs H Q E q => F.many vs H Q E (h _ _ _ _ q), fun A rm outer s H args us vs Q E e b v q => F.go A rm outer s H args us vs Q E e b v (h _ _ _ _ q)⟩
/-! ### calls of defs -/
inductive FV where
  | e (x : E) | fr (c : C)
inductive FR where
  | ok (r : FV) (S : Sto) | exc (x : Xc) (S : Sto) | bad
/-- what a def makes of its arguments and the store -/
abbrev MFn := List E → Sto → FR
/-- a result on the way out: what lies above n is let go -/
def fvOut (n : Nat) (T : Sto) : RV → Option FV
  | .fr c => if c.sc n = true then some (.fr c) else none
  | .o (.e x) => if x.sc n = true then some (.e x) else match x with
    | .loc m => match T[m]? with
      | some c => if n ≤ m ∧ c.sc n = true then some (.fr c) else none
      | none => none
    | _ => none
  | .o (.sl _) => none
def rsOut (n : Nat) : RS → FR
  | .nx _ T => .ok (.e (.p .non)) (T.take n)
  | .rt r _ T => match fvOut n T r with
    | some v => .ok v (T.take n)
    | none => .bad
  | .exc x _ T => .exc x (T.take n)
  | _ => .bad
/-- the def of a body of k slots -/
def mfOf (k : Nat) (mb : MS) : MFn := fun es S => rsOut S.length (mb (es.map .e ++ List.replicate (k - es.length) .u) S)
section
variable (G : String → Addr) (K : PySem.W.Frag)
structure Aft (own : Addr → Bool) (φ : Nat → Addr) (H : Hp) (S : Sto) (own' : Addr → Bool) (S' : Sto) (H' : Hp) : Prop where
  prot : ∀ a, own a = true → (∀ n, n < S.length → φ n ≠ a) → H' a = H a
  ext : Ext (vw own H) (vw own' H')
  len : S'.length = S.length
  lv : ∀ l, l ≤ S.length → Lvl l S → Lvl l S'
  cat : ∀ (n : Nat) (c : C), S'[n]? = some c → CAt G K ⟨own', φ, H'⟩ (φ n) c
def FPost (own : Addr → Bool) (φ : Nat → Addr) (H : Hp) (S : Sto) (Q : VK) (Ex : XK) : FR → Prop
  | .ok (.e x) S' => ∀ H' v, Aft G K own φ H S own S' H' → x.sc S.length = true → EDen G K (vw own H') φ x v → Q v H'
  | .ok (.fr c) S' => ∀ H' a, own a = false → Aft G K own φ H S (plus own a) S' H' → c.sc S.length = true → CAt G K ⟨plus own a, φ, H'⟩ a c → Q (.ref a) H'
  | .exc x S' => ∀ H' cls d, Aft G K own φ H S own S' H' → XDen G K ⟨own, φ, H'⟩ x cls d → Ex cls d H'
  | .bad => False
structure Ent (own : Addr → Bool) (φ : Nat → Addr) (H : Hp) (S : Sto) : Prop where
  dom : ∀ a, own a = true → H a ≠ none
  cat : ∀ (n : Nat) (c : C), S[n]? = some c → own (φ n) = true ∧ CAt G K ⟨own, φ, H⟩ (φ n) c
  inj : ∀ (n m : Nat), n < S.length → m < S.length → φ n = φ m → n = m
  lv : Lvl S.length S
/-- the promise of a def with this mirror -/
def spS (np : Nat) (mf : MFn) : Sp := fun vs H Q Ex => ∃ own φ S es, Ent G K own φ H S ∧ es.length = np ∧ E.scL S.length es = true ∧ EDenL G K (vw own H) φ es vs ∧ FPost G K own φ H S Q Ex (mf es S)
end
section
variable {G : String → Addr} {K : PySem.W.Frag} {A : Act} {T T' : Sto} {F F' : Fr} {σ : St} {g g' : Gs} {W : WX} {H H' : Hp} {φ : Nat → Addr} {own own' : Addr → Bool} {S S' : Sto}
/-- the entry -/
def actOf (own : Addr → Bool) (φ : Nat → Addr) (H : Hp) (S : Sto) : Act := ⟨own, φ, H, fun a => own a = true ∧ ∀ n, n < S.length → φ n ≠ a, S⟩
theorem slots_e : ∀ {es : List E} {vs : List V} {i : Nat} {s : Sim.S} {k : Nat}, EDenL G K H φ es vs → (es.map Sim.S.e ++ List.replicate k .u)[i]? = some s → s = .u ∨ ∃ x v, s = .e x ∧ es[i]? = some x ∧ vs[i]? = some v ∧ EDen G K H φ x v := by
  intro es vs i s k h e
  by_cases hi : i < es.length
  · rw [List.getElem?_append_left (by simpa using hi), List.getElem?_map, List.getElem?_eq_getElem hi] at e
    cases e
    obtain ⟨v, h1, h2⟩ := h.get (List.getElem?_eq_getElem hi)
    exact .inr ⟨_, v, rfl, List.getElem?_eq_getElem hi, h1, h2⟩
  · rw [List.getElem?_append_right (by simpa using hi), List.getElem?_replicate] at e
    split at e
    · cases e; exact .inl rfl
    · cases e
theorem Iv.enter {N : List Str} {es : List E} {vs : List V} (en : Ent G K own φ H S) (sc : E.scL S.length es = true) (d : EDenL G K (vw own H) φ es vs) (hl : es.length ≤ N.length) :
    Iv G K (actOf own φ H S) S (es.map .e ++ List.replicate (N.length - es.length) .u) (L2.start N vs) ⟨own, φ, H⟩ := by
  have dl := d.length
  refine ⟨?_, en.dom, fun _ h => h, fun a h => ⟨h.1, rfl⟩, fun _ _ => rfl, Ext.refl _, Nat.le_refl _, fun _ _ h => h, en.lv, fun n c h => ⟨(en.cat n c h).1, fun z => z.2 n (List.getElem?_eq_some_iff.mp h).1 rfl, (en.cat n c h).2⟩, en.inj, fun i s h => ?_, fun i j c c' h1 h2 e => ?_⟩
  · unfold L2.start
    simp only [List.length_append, List.length_map, List.length_replicate]
    omega
  · rcases slots_e d h with rfl | ⟨x, v, rfl, h1, h2, h3⟩
    · trivial
    · refine ⟨E.scL_get sc h1, v, ?_, h3⟩
      unfold L2.start
      have hi := (List.getElem?_eq_some_iff.mp h2).1
      rw [List.getElem?_append_left (by simpa using hi), List.getElem?_map, h2]
      rfl
  · rcases slots_e d h1 with z | ⟨x, v, z, _⟩ <;> cases z
theorem vw_own0 (I : Iv G K (actOf own φ H S) T F σ g) : ∀ a, own a = true → g.own a = true := I.base
theorem cell_new (I : Iv G K (actOf own φ H S) T F σ g) {m : Nat} (h1 : S.length ≤ m) (h2 : m < T.length) : own (g.φ m) = false := by
  cases q : own (g.φ m) with
  | false => rfl
  | true =>
    refine absurd ⟨q, fun n hn e => ?_⟩ (I.liv m _ (List.getElem?_eq_getElem h2)).2.1
    have e1 : g.φ n = φ n := I.agr n hn
    have e2 := I.inj n m (by have := I.kS; exact Nat.lt_of_lt_of_le hn this) h2 (e1.trans e)
    omega
/-- the way out: own' stands between what was ours at the entry and what is ours now -/
theorem Iv.out (I : Iv G K (actOf own φ H S) T F σ g) (en : Ent G K own φ H S) (own' : Addr → Bool) (h1 : ∀ a, own a = true → own' a = true) (h2 : ∀ a, own' a = true → g.own a = true) :
    Aft G K own φ H S own' (T.take S.length) g.H := by
  have x : Ext g.W (vw own' g.H) := vw_sub h2
  have tl : (T.take S.length).length = S.length := by rw [List.length_take]; have := I.kS; exact Nat.min_eq_left this
  have tk : ∀ (n : Nat) (c : C), (T.take S.length)[n]? = some c → n < S.length ∧ T[n]? = some c := fun n c h => by
    have hn : n < S.length := by rw [← tl]; exact (List.getElem?_eq_some_iff.mp h).1
    rw [List.getElem?_take_of_lt hn] at h
    exact ⟨hn, h⟩
  refine ⟨fun a ha hn => (I.prot a ⟨ha, hn⟩).2, I.grow.trans x, tl, fun l hl L m c hm hc => ?_, fun n c h => ?_⟩
  · exact I.lv l hl L m c hm (tk m c hc).2
  · obtain ⟨hn, h⟩ := tk n c h
    have e1 : g.φ n = φ n := I.agr n hn
    obtain ⟨_, _, o, h3, h4⟩ := I.liv n c h
    have sc : c.sc S.length = true := I.lv S.length (Nat.le_refl _) en.lv n c hn h
    refine ⟨o, by rw [← e1]; exact h3, h4.mono x (fun m hm => (I.agr m hm).symm) sc⟩
theorem CAt.out (I : Iv G K (actOf own φ H S) T F σ g) {a : Addr} {c : C} (sc : c.sc S.length = true) (h2 : ∀ a, own' a = true → g.own a = true) (h : CAt G K g a c) : CAt G K ⟨own', φ, g.H⟩ a c := by
  obtain ⟨o, h3, h4⟩ := h
  exact ⟨o, h3, h4.mono (vw_sub h2) (fun m hm => (I.agr m hm).symm) sc⟩
theorem fpost_out {D : Ends} {Q : VK} {Ex : XK} {r : RS} (en : Ent G K own φ H S) (hn : D.nx = fun _ H' => Q .non H') (hr : D.rt = Q)
    (p : FPost G K own φ H S Q Ex (rsOut S.length r)) : RS.Post G K (fun cls d _ H' => Ex cls d H') (actOf own φ H S) S ⟨own, φ, H⟩ D r := by
  cases r with
  | nx F T =>
    intro g' σ' I l
    rw [hn]
    exact p g'.H .non (I.out en own (fun _ h => h) I.base) scp rfl
  | rt r F T =>
    intro g' σ' v I l rd
    rw [hr]
    have p' : FPost G K own φ H S Q Ex (match fvOut S.length T r with | some v => .ok v (T.take S.length) | none => .bad) := p
    have fin : ∀ c a, v = .ref a → own a = false → g'.own a = true → CAt G K g' a c → c.sc S.length = true → FPost G K own φ H S Q Ex (.ok (.fr c) (T.take S.length)) → Q v g'.H := by
      intro c a ev ha hg hc sc q
      subst ev
      have h2 : ∀ b, plus own a b = true → g'.own b = true := fun b hb => by
        by_cases e : b = a
        · subst e; exact hg
        · rw [plus_ne e] at hb; exact I.base b hb
      exact q g'.H a ha (I.out en (plus own a) (fun b hb => plus_of hb) h2) sc (CAt.out I sc h2 hc)
    cases r with
    | fr c =>
      obtain ⟨a, rfl, R⟩ := rd
      have p2 : FPost G K own φ H S Q Ex (match (if c.sc S.length = true then some (FV.fr c) else none) with | some v => .ok v (T.take S.length) | none => .bad) := p'
      split at p2
      · rename_i w hw
        split at hw
        · rename_i sc
          cases hw
          exact fin c a rfl R.own0 R.own R.at_ sc p2
        · cases hw
      · exact p2.elim
    | o x =>
      cases x with
      | sl i => exact p'.elim
      | e x =>
        by_cases sc : x.sc S.length = true
        · have e1 : fvOut S.length T (.o (.e x)) = some (.e x) := by show (if x.sc S.length = true then some (FV.e x) else _) = _; rw [if_pos sc]
          rw [e1] at p'
          exact p' g'.H v (I.out en own (fun _ h => h) I.base) sc (rd.2.mono (vw_sub I.base) (fun m hm => (I.agr m hm).symm) sc)
        · cases x with
          | p d => exact absurd scp sc
          | tp xs =>
            have e1 : fvOut S.length T (.o (.e (.tp xs))) = none := by show (if (E.tp xs).sc S.length = true then some (FV.e (.tp xs)) else none) = _; rw [if_neg sc]
            rw [e1] at p'
            exact p'.elim
          | loc m =>
            have e1 : fvOut S.length T (.o (.e (.loc m))) = match T[m]? with | some c => if S.length ≤ m ∧ c.sc S.length = true then some (.fr c) else none | none => none := by
              show (if (E.loc m).sc S.length = true then some (FV.e (.loc m)) else match T[m]? with | some c => if S.length ≤ m ∧ c.sc S.length = true then some (.fr c) else none | none => none) = _
              rw [if_neg sc]
            rw [e1] at p'
            cases q : T[m]? with
            | none => rw [q] at p'; exact p'.elim
            | some c =>
              rw [q] at p'
              have p2 : FPost G K own φ H S Q Ex (match (if S.length ≤ m ∧ c.sc S.length = true then some (FV.fr c) else none) with | some v => .ok v (T.take S.length) | none => .bad) := p'
              split at p2
              · rename_i w hw
                split at hw
                · rename_i hm
                  cases hw
                  obtain ⟨h3, h4, h5⟩ := I.liv m c q
                  exact fin c (g'.φ m) rd.2 (cell_new I hm.1 (List.getElem?_eq_some_iff.mp q).1) h3 h5 hm.2 p2
                · cases hw
              · exact p2.elim
  | bk F T => exact False.elim p
  | ct F T => exact False.elim p
  | bad => exact False.elim p
  | exc x F T =>
    intro g' σ' cls d I l xd
    refine p g'.H cls d (I.out en own (fun _ h => h) I.base) ⟨xd.1, ?_⟩
    have x2 := xd.2
    cases d with
    | none => exact x2
    | some dd =>
      obtain ⟨us, h1, h2⟩ := x2
      have ex : Ext g'.W (vw own g'.H) := vw_sub I.base
      exact ⟨us, ex.fm dd (.xd us) trivial h1, h2.mono ex⟩
/-- behind a call -/
theorem Iv.back (I : Iv G K A T F σ g) (a : Aft G K g.own g.φ g.H T own' T' H') (h1 : ∀ b, g.own b = true → own' b = true) (h2 : ∀ b, own' b = true → g.own b = true ∨ H' b ≠ none) :
    Iv G K A T' F σ ⟨own', g.φ, H'⟩ ∧ Le T T' g ⟨own', g.φ, H'⟩ := by
  have le : Le T T' g ⟨own', g.φ, H'⟩ := ⟨a.ext, fun _ _ => rfl, Nat.le_of_eq a.len.symm⟩
  have keep : ∀ b, g.own b = true → (∀ n, n < T.length → g.φ n ≠ b) → H' b = g.H b := a.prot
  have lt : ∀ {n : Nat} {c : C}, T'[n]? = some c → n < T.length := fun h => by rw [← a.len]; exact (List.getElem?_eq_some_iff.mp h).1
  have pk : ∀ b, A.prot b → H' b = g.H b := fun b hb => keep b (I.base b (I.prot b hb).1) fun n hn z => (I.liv n _ (List.getElem?_eq_getElem hn)).2.1 (by rw [z]; exact hb)
  refine ⟨⟨I.len, fun b hb => ?_, fun b hb => h1 b (I.base b hb), fun b hb => ⟨(I.prot b hb).1, (pk b hb).trans (I.prot b hb).2⟩, I.agr, I.grow.trans a.ext, by rw [a.len]; exact I.kS, fun l hl L => a.lv l (Nat.le_trans hl I.kS) (I.lv l hl L), ?_, fun n c hc => ?_, fun n m hn hm => ?_, fun i s hs => ?_, I.dis⟩, le⟩
  · show H' b ≠ none
    rcases h2 b hb with hb | hb
    · by_cases e : ∃ n, n < T.length ∧ g.φ n = b
      · obtain ⟨n, hn, rfl⟩ := e
        have hn' : n < T'.length := by rw [a.len]; exact hn
        obtain ⟨o, h3, _⟩ := a.cat n _ (List.getElem?_eq_getElem hn')
        intro z
        have h3' : H' (g.φ n) = some o := h3
        rw [h3'] at z
        cases z
      · rw [keep b hb fun n hn z => e ⟨n, hn, z⟩]
        exact I.dom b hb
    · exact hb
  · rw [a.len]
    exact a.lv T.length (Nat.le_refl _) I.sc
  · obtain ⟨h3, h4, _⟩ := I.liv n _ (List.getElem?_eq_getElem (lt hc))
    exact ⟨h1 _ h3, h4, a.cat n c hc⟩
  · rw [a.len] at hn hm
    exact I.inj n m hn hm
  · have q := I.slot i s hs
    cases s with
    | u => trivial
    | x z => exact ⟨q.1, q.2.mono le.ext⟩
    | e d =>
      obtain ⟨q1, v, q2, q3⟩ := q
      exact ⟨by rw [a.len]; exact q1, v, q2, le.e q1 q3⟩
    | o c =>
      obtain ⟨q1, b, q2, q3, q4, q5, o, q6, q7⟩ := q
      exact ⟨by rw [a.len]; exact q1, b, q2, h1 b q3, q4, fun n hn => q5 n (by rw [← a.len]; exact hn), o, (keep b q3 q5).trans q6, le.c q1 q7⟩
theorem Iv.ent (I : Iv G K A T F σ g) : Ent G K g.own g.φ g.H T := ⟨I.dom, fun n c h => ⟨(I.liv n c h).1, (I.liv n c h).2.2⟩, I.inj, I.sc⟩
def oes : List OV → Option (List E)
  | [] => some []
  | .e x :: r => (oes r).map (x :: ·)
  | _ => none
theorem oes_den : ∀ {xs : List OV} {vs : List V} {es : List E}, oes xs = some es → ODenL G K T σ g xs vs → E.scL T.length es = true ∧ EDenL G K g.W g.φ es vs
  | [], vs, es, h, d => by
    cases h
    exact ⟨by rw [E.scL], d⟩
  | .e x :: r, vs, es, h, ⟨v, w, e, d1, d2⟩ => by
    have h' : (oes r).map (x :: ·) = some es := h
    obtain ⟨l, e1, rfl⟩ := map_inv h'
    obtain ⟨s1, s2⟩ := oes_den e1 d2
    exact ⟨by rw [E.scL, d1.1, s1]; rfl, v, w, e, d1.2, s2⟩
  | .sl i :: r, vs, es, h, d => by cases h
/-- a call's result, at the caller -/
def frIn (F : Fr) : FR → Rs RV
  | .ok (.e x) T => .ok (.o (.e x)) F T
  | .ok (.fr c) T => .ok (.fr c) F T
  | .exc x T => .exc x F T
  | .bad => .bad
theorem call_in {Q : VK} {es : List E} {mf : MFn} {np : Nat} {vs : List V} (I : Iv G K A T F σ g) (sc : E.scL T.length es = true) (d : EDenL G K g.W g.φ es vs) (hl : es.length = np)
    (p : (frIn F (mf es T)).Post (fun r F' T' => ∀ g' v, Iv G K A T' F' σ g' → Le T T' g g' → RDen G K A T' F' σ g' r v → Q v g'.H) (Wish G K W A T σ g)) : spS G K np mf vs g.H Q (WE W σ) := by
  refine ⟨g.own, g.φ, T, es, I.ent, hl, sc, d, ?_⟩
  cases q : mf es T with
  | bad => rw [q] at p; exact p
  | exc x T' =>
    rw [q] at p
    intro H' cls dd a xd
    obtain ⟨I', le⟩ := I.back a (fun _ h => h) fun _ h => .inl h
    exact p ⟨g.own, g.φ, H'⟩ cls dd I' le xd
  | ok r T' =>
    rw [q] at p
    cases r with
    | e x =>
      intro H' v a s dn
      obtain ⟨I', le⟩ := I.back a (fun _ h => h) fun _ h => .inl h
      exact p ⟨g.own, g.φ, H'⟩ v I' le ⟨by rw [a.len]; exact s, dn⟩
    | fr c =>
      intro H' b hb a s cat
      have dm : H' b ≠ none := fun z => by
        obtain ⟨o, h3, _⟩ := cat
        have h3' : H' b = some o := h3
        rw [h3'] at z; cases z
      obtain ⟨I', le⟩ := I.back a (fun _ h => plus_of h) fun c hc => by
        by_cases e : c = b
        · subst e; exact .inr dm
        · rw [plus_ne e] at hc; exact .inl hc
      refine p ⟨plus g.own b, g.φ, H'⟩ (.ref b) I' le ⟨b, rfl, by rw [a.len]; exact s, plus_self, I.own0 hb, fun n hn z => ?_, fun j c' hj z => ?_, cat⟩
      · rw [a.len] at hn
        have h3 := (I.liv n _ (List.getElem?_eq_getElem hn)).1
        have z' : g.φ n = b := z
        rw [z', hb] at h3
        cases h3
      · obtain ⟨_, b', q2, q3, _⟩ := I.slot j _ hj
        rw [q2] at z
        have e : b' = b := by injection z with z; injection z with z; injection z
        rw [e, hb] at q3
        cases q3
/-- f(e, ..) -/
def cFn (np : Nat) (mf : MFn) (ma : MA) : ME := fun F T => (ma F T).bind fun xs F T => match oes xs with
  | some es => if es.length = np then frIn F (mf es T) else .bad
  | none => .bad
theorem fn_core {ta : TA} {ma : MA} {mf : MFn} {np : Nat} (ha : SA G K W ta ma) : SE G K W (tCallS (spS G K np mf) (WE W) ta) (cFn np mf ma) := by
  intro A T F σ g Q I p
  refine ha A T F σ g _ I ((post_bind p).imp (fun xs F1 T1 p1 g1 vs I1 l1 d1 => ?_) fun _ _ _ q => q)
  have p1' : Rs.Post (match oes xs with | some es => (if es.length = np then frIn F1 (mf es T1) else .bad) | none => .bad) _ _ := p1
  cases e : oes xs with
  | none => rw [e] at p1'; exact p1'.elim
  | some es =>
    rw [e] at p1'
    have p2 : Rs.Post (if es.length = np then frIn F1 (mf es T1) else .bad) _ _ := p1'
    split at p2
    · rename_i hl
      obtain ⟨s1, s2⟩ := oes_den e d1
      exact call_in I1 s1 s2 hl (p2.imp (fun r F' T' q g' v I' l rd => q g' v I' (l1.trans l) rd) fun _ _ _ q => Wish.le q l1)
    · exact p2.elim
/-- from a body to the def -/
theorem fn_sim {P : Program} {w : World} {mg : Str → Option Value} {base : Heap} {x qual : Str} {st : Stmt} {f : Addr} {fd : FuncData} {N ps : List Str} {k : Nat} {mb : MS} (Fu : L2.Fun K x qual st f fd) (Sc : FnScope N ps (defScope st))
    (hb : ∀ (cdv : Value) (A : PySem.Around) (outer : List Env) (s : Shared) (H : Hp) (E : XK), Rm k (A.deeper (envOfC qual (defScope st) s.heap.objs.size f cdv)) → JSs G (cxOf (L2.CX P w) P w K mg base N qual (defScope st) f cdv A outer s H E) (fun cls d _ H => E cls d H) (defBody st) mb) :
    FnG P w K mg base (k + 1) f fd ps (spS G K ps.length (mfOf N.length mb)) := by
  have hpl : ps.length ≤ N.length := by have := congrArg List.length Sc.pre; rw [List.length_take] at this; omega
  obtain ⟨oc, od, kV, doc, pm, an, cdv, ct, osl, rfl, lk, hcd⟩ := Fu.ex
  refine ⟨?_, fun A rm outer s H args us vs Q E e0 bd r h => ?_⟩
  · rintro vs H Q E ⟨own, φ, S, es, en, hl, sc, d, p⟩
    rw [d.length, hl]
  · have lv : vs.length = ps.length := by
      obtain ⟨own, φ, S, es, en, hl, sc, d, p⟩ := h
      rw [d.length, hl]
    have kin : K.In s.heap := fun b o e => (e0.bs b o (e0.mod.kin b o e)).1
    refine Att.call_fn kin (e0.mod.nolimit.keeps fun b o e => (e0.bs b o e).1) lk hcd rm.rm.depth bd ?_ (fun s1 x1 => ?_) Sc.co Sc.gen Sc.kind
    · rw [List.all_eq_true]
      rintro ⟨n, v⟩ hm
      rcases Sc.par n (List.of_mem_zip hm).1 with q | q <;> rw [show (defScope st).names.lookup n = _ from q] <;> rfl
    · obtain ⟨own, φ, S, es, en, hl, sc, d, p⟩ := h
      obtain ⟨t, h1, h2⟩ := (hb cdv A outer s H E (rm.deeper _)).ex
      have I0 := inv_start (CX := L2.CX P w) (P := P) (w := w) (K := K) (mg := mg) (base := base) (E := E) (f := f) (cd := cdv) (qual := qual) Sc rm.rm.hd e0 lv r x1
      have p' : FPost G K own φ H S Q E (rsOut S.length (mb (es.map .e ++ List.replicate (N.length - es.length) .u) S)) := p
      refine wpAny_mono (h1.run [] s1 _ H _ I0 (h2 (actOf own φ H S) S _ _ ⟨own, φ, H⟩ { nx := fun _ H' => Q .non H', rt := Q } (Iv.enter en sc d (by rw [hl]; exact hpl)) (fpost_out en rfl rfl p'))) (fun fl s' hs => ?_) fun e s' hs => hs
      cases fl with
      | ret u =>
        obtain ⟨v, σ', H', J, rv, q⟩ := hs
        exact ⟨v, H', J.os, J.bare, J.base, J.hok, rv, q⟩
      | next =>
        obtain ⟨σ', H', J, q⟩ := hs
        exact ⟨.non, H', J.os, J.bare, J.base, J.hok, rfl, q⟩
      | brk =>
        obtain ⟨_, _, _, q⟩ := hs
        exact q.elim
      | cont =>
        obtain ⟨_, _, _, q⟩ := hs
        exact q.elim
end
section
variable {G : String → Addr} {X : Cx} {W : WX} {pos p : Pos} {e : Expr} {es : List Expr}
theorem pe_callG {k : Nat} {f : Addr} {fd : FuncData} {ps : List Str} {sp : Sp} {x : Str} {t : TA} {E : St → XK} (F : FnG X.prog X.w X.K X.mg X.base k f fd ps sp) (rm : Rm k X.A) (hg : Gl X x) (hm : X.mg x = some (.ref f)) (hk : PySem.W.keepIn X.K (.ref f) = true) (hb : Binds X.K fd ps [])
    (hx : ∀ σ, PassesAt (L2.CX X.prog X.w) X σ (E σ)) (ha : PA X (e :: es) t) (hdb : (x == ("__debug__" : Str)) = false := by decide) (he : starEach (e :: es) X.env = (false, eval e X.env) :: starEach es X.env := by rfl) (hpl : (backTo pos (starEach es X.env)).any (·.1) = false := by rfl) :
    PE X (.Call (.Name x p) (e :: es) [] pos) (tCallS sp E t) := by
  refine ⟨fun pins s σ H Q I h => wpAny_Call_Name_kw (ld_glob I hg hm (PySem.W.callWith_K (h₀ := X.base) I.ok.mod.kin hk (thn (ha.run pos pins s σ H _ I h) fun us s1 ⟨vs, H1, I1, r, q⟩ => ⟨I1.kIn, ?_⟩) he hpl) hdb)⟩
  have b := hb s1 us I1.kIn (by rw [List.append_nil, ← r.length]; exact F.many _ _ _ _ q)
  rw [List.append_nil] at b
  refine wpAny_call (codeAny_mono (F.go X.A rm X.stack s1 H1 _ us vs Q (E σ) I1.env0 b r q) ?_)
  rintro (e1 | fl) s2 z
  · exact hx σ pins H1 s1 e1 s2 I1 z
  · cases fl with
    | ret u => exact I1.after z
    | _ => exact z.elim
theorem je_fn {k np : Nat} {f : Addr} {fd : FuncData} {ps : List Str} {x : Str} {mf : MFn} {ma : MA} (Fk : FnG X.prog X.w X.K X.mg X.base k f fd ps (spS G X.K np mf)) (hr : Rm k X.A) (hg : Gl X x) (hm : X.mg x = some (.ref f)) (hk : PySem.W.keepIn X.K (.ref f) = true) (hb : Binds X.K fd ps [])
    (tk : Takes X W) (ha : JA G X W (e :: es) ma) (hdb : (x == ("__debug__" : Str)) = false := by decide) (he : starEach (e :: es) X.env = (false, eval e X.env) :: starEach es X.env := by rfl) (hpl : (backTo pos (starEach es X.env)).any (·.1) = false := by rfl) :
    JE G X W (.Call (.Name x p) (e :: es) [] pos) (cFn np mf ma) := by
  obtain ⟨ta, pa, sa⟩ := ha.ex
  exact ⟨_, pe_callG Fk hr hg hm hk hb (fun σ => passAt tk σ) pa hdb he hpl, fn_core sa⟩
end
end Sim

set_option Elab.async false
set_option linter.all false
set_option maxRecDepth 100000
set_option maxHeartbeats 4000000
namespace Sim
open PySem L2
variable [EXC]

/-! ### writing -/
def getC (F : Fr) (T : Sto) : OV → Option C
  | .e (.loc n) => T[n]?
  | .sl i => match F[i]? with
    | some (.o c) => some c
    | _ => none
  | _ => none
def putC (F : Fr) (T : Sto) (x : OV) (c : C) : Option (Fr × Sto) := match x with
  | .e (.loc n) => if c.sc (n + 1) = true then some (F, T.set n c) else none
  | .sl i => if c.sc T.length = true then some (F.set i (.o c), T) else none
  | _ => none
section
variable {G : String → Addr} {K : PySem.W.Frag} {A : Act} {T T' : Sto} {F F' : Fr} {σ : St} {g g' : Gs} {W : WX} {H H' : Hp} {φ : Nat → Addr}
theorem Iv.look (I : Iv G K A T F σ g) {x : OV} {v : V} {c : C} (hx : ODen G K T σ g x v) (hc : getC F T x = some c) : ∃ a o, v = .ref a ∧ g.H a = some o ∧ CDen G K g.W g.φ c o ∧ c.sc T.length = true := by
  cases x with
  | e x =>
    cases x with
    | loc n =>
      have h : T[n]? = some c := hc
      obtain ⟨_, _, o, h1, h2⟩ := I.liv n c h
      exact ⟨_, o, hx.2, h1, h2, I.cell_sc h⟩
    | p d => cases hc
    | tp xs => cases hc
  | sl i =>
    have h : (match F[i]? with | some (.o c) => some c | _ => none) = some c := hc
    split at h
    · rename_i c' hi
      cases h
      obtain ⟨q1, a, q2, q3, q4, q5, o, q6, q7⟩ := I.slot i _ hi
      have h' : σ[i]? = some (some v) := hx
      rw [q2] at h'
      have e : V.ref a = v := by injection h' with z; injection z
      exact ⟨a, o, e.symm, q6, q7, q1⟩
    · cases h
theorem Iv.put (I : Iv G K A T F σ g) {x : OV} {a : Addr} {c c' : C} (hx : ODen G K T σ g x (.ref a)) (hc : getC F T x = some c) (hp : putC F T x c' = some (F', T')) {o' : HO} (cd : CDen G K g.W g.φ c' o') :
    Iv G K A T' F' σ ⟨g.own, g.φ, upd g.H a o'⟩ ∧ Le T T' g ⟨g.own, g.φ, upd g.H a o'⟩ := by
  cases x with
  | e x =>
    cases x with
    | loc n =>
      have h : T[n]? = some c := hc
      have hn := (List.getElem?_eq_some_iff.mp h).1
      have hp' : (if c'.sc (n + 1) = true then some (F, T.set n c') else none) = some (F', T') := hp
      split at hp'
      · rename_i s
        cases hp'
        have e : a = g.φ n := by have := hx.2; injection this
        subst e
        exact I.wrT h (C.sc_mono hn s) (fun l _ hl _ => C.sc_mono hl s) cd
      · cases hp'
    | p d => cases hc
    | tp xs => cases hc
  | sl i =>
    have h : (match F[i]? with | some (.o c) => some c | _ => none) = some c := hc
    have hp' : (if c'.sc T.length = true then some (F.set i (.o c'), T) else none) = some (F', T') := hp
    split at h
    · rename_i c2 hi
      cases h
      split at hp'
      · rename_i s
        cases hp'
        exact I.wrF hi hx s cd
      · cases hp'
    · cases h
/-! ### methods of lists that write -/
def isLst : C → Bool
  | .lst _ => true
  | .lse _ => true
  | _ => false
abbrev MWf := C → List E → Option (C × E)
/-- a method that writes the receiver -/
def MwS (G : String → Addr) (K : PySem.W.Frag) (r : V → List V → Hp → VK → Prop) (f : MWf) : Prop :=
  ∀ (g : Gs) (n : Nat) (a : Addr) (o : HO) (c c' : C) (es : List E) (vs : List V) (z : E), g.H a = some o → CDen G K g.W g.φ c o → c.sc n = true → EDenL G K g.W g.φ es vs → E.scL n es = true → f c es = some (c', z) →
    z.sc n = true ∧ ∃ o', CDen G K g.W g.φ c' o' ∧ ∀ Q : VK, (∀ v, EDen G K g.W g.φ z v → Q v (upd g.H a o')) → r (.ref a) vs g.H Q
def rcvL (F : Fr) (T : Sto) (x : OV) : Bool := match getC F T x with
  | some c => isLst c
  | none => false
def cMw (f : MWf) (mo : MO) (ma : MA) : ME := fun F T => (mo F T).bind fun x F T => if rcvL F T x = true then (ma F T).bind fun xs F T => match getC F T x, oes xs with
  | some c, some es => match f c es with
    | some (c', z) => match putC F T x c' with
      | some (F', T') => .ok (.o (.e z)) F' T'
      | none => .bad
    | none => .bad
  | _, _ => .bad else .bad
theorem getC_list (I : Iv G K A T F σ g) {x : OV} {v : V} {c : C} (hx : ODen G K T σ g x v) (hc : getC F T x = some c) (hl : isLst c = true) : tyV K "list" v g.H := by
  obtain ⟨a, o, rfl, h1, h2, _⟩ := I.look hx hc
  cases c with
  | lst xs => obtain ⟨vs, rfl, _⟩ := h2; exact .inl ⟨rfl, vs, .inl (.inl h1)⟩
  | lse xs => obtain ⟨vs, rfl, _⟩ := h2; exact .inl ⟨rfl, vs, .inl (.inl h1)⟩
  | _ => cases hl
theorem mw_core {to : TE} {ta : TA} {r : V → List V → Hp → VK → Prop} {f : MWf} {mo : MO} {ma : MA} (hs : MwS G K r f) (ho : SO G K W to mo) (ha : SA G K W ta ma) : SE G K W (tBM K "list" r to ta) (cMw f mo ma) := by
  intro A T F σ g Q I p
  refine ho A T F σ g _ I ((post_bind p).imp (fun x F1 T1 p1 g1 v I1 l1 d1 => ?_) fun _ _ _ q => q)
  have p1' : Rs.Post (if rcvL F1 T1 x = true then (ma F1 T1).bind fun xs F T => (match getC F T x, oes xs with
    | some c, some es => (match f c es with
      | some (c', z) => (match putC F T x c' with
        | some (F', T') => Rs.ok (RV.o (.e z)) F' T'
        | none => .bad)
      | none => .bad)
    | _, _ => .bad) else .bad) _ _ := p1
  split at p1'
  · rename_i hq
    refine ⟨?_, ha A T1 F1 σ g1 _ I1 ((post_bind p1').imp (fun xs F2 T2 p2 g2 vs I2 l2 d2 => ?_) fun _ _ _ q => Wish.le q l1)⟩
    · unfold rcvL at hq
      split at hq
      · rename_i c hc
        exact getC_list I1 d1 hc hq
      · cases hq
    · have p2' : Rs.Post (match getC F2 T2 x, oes xs with
        | some c, some es => (match f c es with
          | some (c', z) => (match putC F2 T2 x c' with
            | some (F', T') => Rs.ok (RV.o (.e z)) F' T'
            | none => .bad)
          | none => .bad)
        | _, _ => .bad) _ _ := p2
      split at p2'
      · rename_i c es hc he
        split at p2'
        · rename_i c' z hf
          split at p2'
          · rename_i F' T' hp
            obtain ⟨s1, s2⟩ := oes_den he d2
            have d1' := l2.o d1
            obtain ⟨a, o, rfl, h1, h2, h3⟩ := I2.look d1' hc
            obtain ⟨sz, o', h4, h5⟩ := hs g2 T2.length a o c c' es vs z h1 h2 h3 s2 s1 hf
            refine h5 Q fun u hu => ?_
            obtain ⟨I3, l3⟩ := I2.put d1' hc hp h4
            exact p2' ⟨g2.own, g2.φ, upd g2.H a o'⟩ u I3 (l1.trans (l2.trans l3)) ⟨E.sc_mono l3.len sz, l3.e sz hu⟩
          · exact p2'.elim
        · exact p2'.elim
      · exact p2'.elim
  · exact p1'.elim
def mwApp : MWf := fun c es => match c, es with
  | .lst xs, [.p d] => if xs.length < LINE then some (.lst (xs ++ [d]), .p .non) else none
  | .lse xs, [e] => if xs.length < LINE then some (.lse (xs ++ [e]), .p .non) else none
  | _, _ => none
theorem line_lt {n : Nat} (h : n < LINE) : n < sizeLine := by rw [sizeLine_eq]; exact h
theorem EDenL.append : ∀ {xs ys : List E} {vs ws : List V}, EDenL G K H φ xs vs → EDenL G K H φ ys ws → EDenL G K H φ (xs ++ ys) (vs ++ ws)
  | [], ys, vs, ws, h, k => by
    obtain rfl : vs = [] := h
    exact k
  | x :: r, ys, vs, ws, ⟨v, w, e, h1, h2⟩, k => ⟨v, w ++ ws, by rw [e]; rfl, h1, EDenL.append h2 k⟩
theorem scL_append {n : Nat} : ∀ {xs ys : List E}, E.scL n xs = true → E.scL n ys = true → E.scL n (xs ++ ys) = true
  | [], _, _, h => h
  | x :: r, ys, h, k => by
    rw [E.scL] at h
    obtain ⟨h1, h2⟩ := Bool.and_eq_true_iff.mp h
    show E.scL n (x :: (r ++ ys)) = true
    rw [E.scL, h1, scL_append h2 k]
    rfl
theorem edl1 {e : E} {vs : List V} (h : EDenL G K H φ [e] vs) : ∃ v, vs = [v] ∧ EDen G K H φ e v := by
  obtain ⟨v, w, e1, h1, h2⟩ := h
  have : w = [] := h2
  subst this
  exact ⟨v, e1, h1⟩
theorem mw_app : MwS G K rAppend mwApp := by
  intro g n a o c c' es vs z h1 h2 h3 h4 h5 h6
  unfold mwApp at h6
  split at h6
  · rename_i xs d
    split at h6
    · rename_i hl
      cases h6
      obtain ⟨us, rfl, l⟩ := h2
      obtain ⟨v, rfl, hv⟩ := edl1 h4
      exact ⟨scp, .lst (us ++ [v]), ⟨_, rfl, l.snoc hv⟩, fun Q q => ⟨a, us, v, rfl, rfl, h1, by rw [l.length]; exact line_lt hl, q .non rfl⟩⟩
    · cases h6
  · rename_i xs e
    split at h6
    · rename_i hl
      cases h6
      obtain ⟨us, rfl, l⟩ := h2
      obtain ⟨v, rfl, hv⟩ := edl1 h4
      exact ⟨scp, .lst (us ++ [v]), ⟨_, rfl, l.append h4⟩, fun Q q => ⟨a, us, v, rfl, rfl, h1, by rw [l.length]; exact line_lt hl, q .non rfl⟩⟩
    · cases h6
  · cases h6
def mwExt : MWf := fun c es => match c, es with
  | .lst xs, [.p (.lst ys)] => if xs.length + ys.length ≤ LINE then some (.lst (xs ++ ys), .p .non) else none
  | _, _ => none
theorem mw_ext : MwS G K rExtend mwExt := by
  intro g n a o c c' es vs z h1 h2 h3 h4 h5 h6
  unfold mwExt at h6
  split at h6
  · rename_i xs ys
    split at h6
    · rename_i hl
      cases h6
      obtain ⟨us, rfl, l⟩ := h2
      obtain ⟨v, rfl, hv⟩ := edl1 h4
      obtain ⟨b, ws, rfl, hb, lw⟩ := hv
      exact ⟨scp, .lst (us ++ ws), ⟨_, rfl, l.append lw⟩, fun Q q => ⟨a, b, us, ws, rfl, rfl, h1, vw_le.fm b (.lst ws) trivial hb, by rw [l.length, lw.length]; exact line_le hl, q .non rfl⟩⟩
    · cases h6
  · cases h6
def mwIns : MWf := fun c es => match c, es with
  | .lst xs, [.p (.int i), .p d] => if xs.length < LINE ∧ 0 ≤ i ∧ i < 9223372036854775808 then some (.lst (xs.take i.toNat ++ [d] ++ xs.drop i.toNat), .p .non) else none
  | _, _ => none
theorem mw_ins : MwS G K (fun x vs H Q => ∃ (l : Addr) (xs : List V) (i : Int) (y : V), x = .ref l ∧ vs = [.int i, y] ∧ H l = some (.lst xs) ∧ xs.length < sizeLine ∧ 0 ≤ i ∧ i < 2 ^ 63 ∧
    Q .non (upd H l (.lst (xs.take i.toNat ++ [y] ++ xs.drop i.toNat)))) mwIns := by
  intro g n a o c c' es vs z h1 h2 h3 h4 h5 h6
  unfold mwIns at h6
  split at h6
  · rename_i xs i d
    split at h6
    · rename_i hl
      cases h6
      obtain ⟨us, rfl, l⟩ := h2
      obtain ⟨v, w, rfl, hv, h4'⟩ := h4
      obtain ⟨u, rfl, hu⟩ := edl1 h4'
      obtain rfl : v = .int i := hv
      exact ⟨scp, .lst (us.take i.toNat ++ [u] ++ us.drop i.toNat), ⟨_, rfl, ((l.take _).snoc hu).append (l.drop _)⟩, fun Q q => ⟨a, us, i, u, rfl, rfl, h1, by rw [l.length]; exact line_lt hl.1, hl.2.1, hl.2.2, q .non rfl⟩⟩
    · cases h6
  · cases h6
theorem DenL.dropLast : ∀ {xs : List D} {vs : List V}, DenL G K H xs vs → DenL G K H xs.dropLast vs.dropLast := fun {xs vs} h => by
  rw [List.dropLast_eq_take, List.dropLast_eq_take, h.length]
  exact h.take _
theorem DenL.reverse : ∀ {xs : List D} {vs : List V}, DenL G K H xs vs → DenL G K H xs.reverse vs.reverse
  | [], vs, h => by
    obtain rfl : vs = [] := h
    exact rfl
  | x :: r, vs, ⟨v, w, e, h1, h2⟩ => by
    rw [e, List.reverse_cons, List.reverse_cons]
    exact (DenL.reverse h2).snoc h1
theorem DenL.eraseIdx {xs : List D} {vs : List V} (h : DenL G K H xs vs) (i : Nat) : DenL G K H (xs.eraseIdx i) (vs.eraseIdx i) := by
  rw [List.eraseIdx_eq_take_drop_succ, List.eraseIdx_eq_take_drop_succ]
  exact (h.take _).append (h.drop _)
/-- pop of lists of plain data -/
def mwPop : MWf := fun c es => match c, es with
  | .lst xs, [] => match xs[xs.length - 1]? with
    | some d => some (.lst xs.dropLast, .p d)
    | none => none
  | _, _ => none
theorem mw_pop : MwS G K rPop mwPop := by
  intro g n a o c c' es vs z h1 h2 h3 h4 h5 h6
  unfold mwPop at h6
  split at h6
  · rename_i xs
    split at h6
    · rename_i d hd
      cases h6
      obtain ⟨us, rfl, l⟩ := h2
      obtain ⟨v, hv, dv⟩ := l.get hd
      have e : vs = [] := h4
      subst e
      rw [← l.length] at hv
      exact ⟨scp, .lst us.dropLast, ⟨_, rfl, l.dropLast⟩, fun Q q => ⟨a, us, v, rfl, rfl, h1, hv, q v dv⟩⟩
    · cases h6
  · cases h6
def mwPopAt : MWf := fun c es => match c, es with
  | .lst xs, [.p (.int i)] => if -9223372036854775808 ≤ i ∧ i < 9223372036854775808 then match seqIndex? i xs.length with
      | some k => match xs[k]? with
        | some d => some (.lst (xs.eraseIdx k), .p d)
        | none => none
      | none => none
    else none
  | _, _ => none
theorem mw_popAt : MwS G K rPopAt mwPopAt := by
  intro g n a o c c' es vs z h1 h2 h3 h4 h5 h6
  unfold mwPopAt at h6
  split at h6
  · rename_i xs i
    split at h6
    · rename_i hi
      split at h6
      · rename_i k hk
        split at h6
        · rename_i d hd
          cases h6
          obtain ⟨us, rfl, l⟩ := h2
          obtain ⟨v, hv, dv⟩ := l.get hd
          obtain ⟨u, rfl, hu⟩ := edl1 h4
          obtain rfl : u = .int i := hu
          exact ⟨scp, .lst (us.eraseIdx k), ⟨_, rfl, l.eraseIdx k⟩, fun Q q => ⟨a, us, i, k, v, rfl, rfl, h1, hi.1, hi.2, by rw [l.length]; exact hk, hv, q v dv⟩⟩
        · cases h6
      · cases h6
    · cases h6
  · cases h6
def mwRev : MWf := fun c es => match c, es with
  | .lst xs, [] => some (.lst xs.reverse, .p .non)
  | _, _ => none
theorem mw_rev : MwS G K rReverse mwRev := by
  intro g n a o c c' es vs z h1 h2 h3 h4 h5 h6
  unfold mwRev at h6
  split at h6
  · cases h6
    obtain ⟨us, rfl, l⟩ := h2
    have e : vs = [] := h4
    subst e
    exact ⟨scp, .lst us.reverse, ⟨_, rfl, l.reverse⟩, fun Q q => ⟨a, us, rfl, rfl, h1, q .non rfl⟩⟩
  · cases h6
def mwClr : MWf := fun c es => match c, es with
  | .lst xs, [] => some (.lst [], .p .non)
  | .lse xs, [] => some (.lse [], .p .non)
  | _, _ => none
theorem mw_clr : MwS G K rClear mwClr := by
  intro g n a o c c' es vs z h1 h2 h3 h4 h5 h6
  unfold mwClr at h6
  split at h6
  · cases h6
    obtain ⟨us, rfl, l⟩ := h2
    have e : vs = [] := h4
    subst e
    exact ⟨scp, .lst [], ⟨_, rfl, rfl⟩, fun Q q => ⟨a, us, rfl, rfl, h1, q .non rfl⟩⟩
  · cases h6
    obtain ⟨us, rfl, l⟩ := h2
    have e : vs = [] := h4
    subst e
    exact ⟨scp, .lst [], ⟨_, rfl, rfl⟩, fun Q q => ⟨a, us, rfl, rfl, h1, q .non rfl⟩⟩
  · cases h6
end
section
variable {G : String → Addr} {X : Cx} {W : WX} {pos p apos cpos : Pos} {e o : Expr} {es : List Expr} {mo : MO} {ma : MA}
theorem je_append (ho : JO G X W o mo) (ha : JA G X W (e :: es) ma) (hbase : attributeBase o "append" X.env (eval o X.env) = eval o X.env := by rfl)
    (hfew : ((backTo cpos (starEach (e :: es) X.env)).all (fun x => !x.1) && (backToKw cpos (keywordEach [] X.env)).all (fun x => x.1.isSome) && decide ((e :: es).length + ([] : List Keyword).length + (if ([] : List Keyword).isEmpty then 0 else 1) < 30)) = true := by rfl)
    (hline : (apos.endLine == cpos.line) = true := by rfl) (hs : starEach (e :: es) X.env = (false, eval e X.env) :: starEach es X.env := by rfl) (hplain : (backTo cpos (starEach es X.env)).any (·.1) = false := by rfl) :
    JE G X W (.Call (.Attribute o "append" apos) (e :: es) [] cpos) (cMw mwApp mo ma) := by
  obtain ⟨to, po, so⟩ := ho.ex
  obtain ⟨ta, pa, sa⟩ := ha.ex
  exact ⟨_, pe_bm PySem.F.plainAttrs_list PySem.F.slot_list_append PySem.F.type_list_append mt_append po pa hbase hfew hline hs hplain, mw_core mw_app so sa⟩
theorem je_extend (ho : JO G X W o mo) (ha : JA G X W (e :: es) ma) (hbase : attributeBase o "extend" X.env (eval o X.env) = eval o X.env := by rfl)
    (hfew : ((backTo cpos (starEach (e :: es) X.env)).all (fun x => !x.1) && (backToKw cpos (keywordEach [] X.env)).all (fun x => x.1.isSome) && decide ((e :: es).length + ([] : List Keyword).length + (if ([] : List Keyword).isEmpty then 0 else 1) < 30)) = true := by rfl)
    (hline : (apos.endLine == cpos.line) = true := by rfl) (hs : starEach (e :: es) X.env = (false, eval e X.env) :: starEach es X.env := by rfl) (hplain : (backTo cpos (starEach es X.env)).any (·.1) = false := by rfl) :
    JE G X W (.Call (.Attribute o "extend" apos) (e :: es) [] cpos) (cMw mwExt mo ma) := by
  obtain ⟨to, po, so⟩ := ho.ex
  obtain ⟨ta, pa, sa⟩ := ha.ex
  exact ⟨_, pe_bm PySem.F.plainAttrs_list PySem.F.slot_list_extend PySem.F.type_list_extend mt_extend po pa hbase hfew hline hs hplain, mw_core mw_ext so sa⟩
theorem je_insert (ho : JO G X W o mo) (ha : JA G X W (e :: es) ma) (hbase : attributeBase o "insert" X.env (eval o X.env) = eval o X.env := by rfl)
    (hfew : ((backTo cpos (starEach (e :: es) X.env)).all (fun x => !x.1) && (backToKw cpos (keywordEach [] X.env)).all (fun x => x.1.isSome) && decide ((e :: es).length + ([] : List Keyword).length + (if ([] : List Keyword).isEmpty then 0 else 1) < 30)) = true := by rfl)
    (hline : (apos.endLine == cpos.line) = true := by rfl) (hs : starEach (e :: es) X.env = (false, eval e X.env) :: starEach es X.env := by rfl) (hplain : (backTo cpos (starEach es X.env)).any (·.1) = false := by rfl) :
    JE G X W (.Call (.Attribute o "insert" apos) (e :: es) [] cpos) (cMw mwIns mo ma) := by
  obtain ⟨to, po, so⟩ := ho.ex
  obtain ⟨ta, pa, sa⟩ := ha.ex
  exact ⟨_, pe_bm PySem.F.plainAttrs_list PySem.F.slot_list_insert PySem.F.type_list_insert mt_insert po pa hbase hfew hline hs hplain, mw_core mw_ins so sa⟩
theorem je_popAt (ho : JO G X W o mo) (ha : JA G X W (e :: es) ma) (hbase : attributeBase o "pop" X.env (eval o X.env) = eval o X.env := by rfl)
    (hfew : ((backTo cpos (starEach (e :: es) X.env)).all (fun x => !x.1) && (backToKw cpos (keywordEach [] X.env)).all (fun x => x.1.isSome) && decide ((e :: es).length + ([] : List Keyword).length + (if ([] : List Keyword).isEmpty then 0 else 1) < 30)) = true := by rfl)
    (hline : (apos.endLine == cpos.line) = true := by rfl) (hs : starEach (e :: es) X.env = (false, eval e X.env) :: starEach es X.env := by rfl) (hplain : (backTo cpos (starEach es X.env)).any (·.1) = false := by rfl) :
    JE G X W (.Call (.Attribute o "pop" apos) (e :: es) [] cpos) (cMw mwPopAt mo ma) := by
  obtain ⟨to, po, so⟩ := ho.ex
  obtain ⟨ta, pa, sa⟩ := ha.ex
  exact ⟨_, pe_bm PySem.F.plainAttrs_list PySem.F.slot_list_pop PySem.F.type_list_pop mt_popAt po pa hbase hfew hline hs hplain, mw_core mw_popAt so sa⟩
theorem bm0_se {K : PySem.W.Frag} {r : V → List V → Hp → VK → Prop} {to : TE} {m : ME} (h : SE G K W (tBM K "list" r to tNil) m) : SE G K W (tBM0 K "list" r to) m := h
theorem je_pop (ho : JO G X W o mo) (hbase : attributeBase o "pop" X.env (eval o X.env) = eval o X.env := by rfl) (hline : (apos.endLine == cpos.line) = true := by rfl) : JE G X W (.Call (.Attribute o "pop" apos) [] [] cpos) (cMw mwPop mo cNil) := by
  obtain ⟨to, po, so⟩ := ho.ex
  exact ⟨_, pe_bm0 PySem.F.plainAttrs_list PySem.F.slot_list_pop PySem.F.type_list_pop mt_pop po hbase hline, bm0_se (mw_core mw_pop so (fun A T F σ g Q I p => p g [] I Le.refl rfl))⟩
end
end Sim

set_option Elab.async false
set_option linter.all false
set_option maxRecDepth 100000
set_option maxHeartbeats 4000000
namespace Sim
open PySem L2
variable [EXC]

/-! ### o[i] = v -/
def kput {κ α : Type} [DecidableEq κ] (ks : List (κ × α)) (k : κ) (x : α) : List (κ × α) :=
  if (ks.any fun kv => decide (kv.1 = k)) = true then ks.map (fun kv => if kv.1 = k then (kv.1, x) else kv) else ks ++ [(k, x)]
section
variable {G : String → Addr} {K : PySem.W.Frag} {A : Act} {T T' : Sto} {F F' : Fr} {σ : St} {g g' : Gs} {W : WX} {H H' : Hp} {φ : Nat → Addr}
theorem DenK.any {k : Key} : ∀ {ks : List (Key × D)} {us : List (Key × V)}, DenK G K H ks us → (us.any fun kv => decide (kv.1 = k)) = (ks.any fun kv => decide (kv.1 = k))
  | [], us, h => by
    obtain rfl : us = [] := h
    rfl
  | (j, x) :: r, us, ⟨v, w, e, h1, h2⟩ => by
    rw [e, List.any_cons, List.any_cons, DenK.any h2]
theorem DenT.any {k : List Key} : ∀ {ks : List (List Key × D)} {us : List (List Key × V)}, DenT G K H ks us → (us.any fun kv => decide (kv.1 = k)) = (ks.any fun kv => decide (kv.1 = k))
  | [], us, h => by
    obtain rfl : us = [] := h
    rfl
  | (j, x) :: r, us, ⟨v, w, e, h1, h2⟩ => by
    rw [e, List.any_cons, List.any_cons, DenT.any h2]
theorem EDenK.any {k : Key} : ∀ {ks : List (Key × E)} {us : List (Key × V)}, EDenK G K H φ ks us → (us.any fun kv => decide (kv.1 = k)) = (ks.any fun kv => decide (kv.1 = k))
  | [], us, h => by
    obtain rfl : us = [] := h
    rfl
  | (j, x) :: r, us, ⟨v, w, e, h1, h2⟩ => by
    rw [e, List.any_cons, List.any_cons, EDenK.any h2]
theorem DenK.map {k : Key} {d : D} {v : V} (hd : Den G K H d v) : ∀ {ks : List (Key × D)} {us : List (Key × V)}, DenK G K H ks us → DenK G K H (ks.map fun kv => if kv.1 = k then (kv.1, d) else kv) (us.map fun kv => if kv.1 = k then (kv.1, v) else kv)
  | [], us, h => by
    obtain rfl : us = [] := h
    exact rfl
  | (j, x) :: r, us, ⟨v', w, e, h1, h2⟩ => by
    rw [e, List.map_cons, List.map_cons]
    by_cases ej : j = k
    · rw [if_pos ej, if_pos ej]
      exact ⟨v, _, rfl, hd, DenK.map hd h2⟩
    · rw [if_neg ej, if_neg ej]
      exact ⟨v', _, rfl, h1, DenK.map hd h2⟩
theorem DenT.map {k : List Key} {d : D} {v : V} (hd : Den G K H d v) : ∀ {ks : List (List Key × D)} {us : List (List Key × V)}, DenT G K H ks us → DenT G K H (ks.map fun kv => if kv.1 = k then (kv.1, d) else kv) (us.map fun kv => if kv.1 = k then (kv.1, v) else kv)
  | [], us, h => by
    obtain rfl : us = [] := h
    exact rfl
  | (j, x) :: r, us, ⟨v', w, e, h1, h2⟩ => by
    rw [e, List.map_cons, List.map_cons]
    by_cases ej : j = k
    · rw [if_pos ej, if_pos ej]
      exact ⟨v, _, rfl, hd, DenT.map hd h2⟩
    · rw [if_neg ej, if_neg ej]
      exact ⟨v', _, rfl, h1, DenT.map hd h2⟩
theorem EDenK.map {k : Key} {d : E} {v : V} (hd : EDen G K H φ d v) : ∀ {ks : List (Key × E)} {us : List (Key × V)}, EDenK G K H φ ks us → EDenK G K H φ (ks.map fun kv => if kv.1 = k then (kv.1, d) else kv) (us.map fun kv => if kv.1 = k then (kv.1, v) else kv)
  | [], us, h => by
    obtain rfl : us = [] := h
    exact rfl
  | (j, x) :: r, us, ⟨v', w, e, h1, h2⟩ => by
    rw [e, List.map_cons, List.map_cons]
    by_cases ej : j = k
    · rw [if_pos ej, if_pos ej]
      exact ⟨v, _, rfl, hd, EDenK.map hd h2⟩
    · rw [if_neg ej, if_neg ej]
      exact ⟨v', _, rfl, h1, EDenK.map hd h2⟩
theorem DenK.snoc {k : Key} {d : D} {v : V} (hd : Den G K H d v) : ∀ {ks : List (Key × D)} {us : List (Key × V)}, DenK G K H ks us → DenK G K H (ks ++ [(k, d)]) (us ++ [(k, v)])
  | [], us, h => by
    obtain rfl : us = [] := h
    exact ⟨v, [], rfl, hd, rfl⟩
  | (j, x) :: r, us, ⟨v', w, e, h1, h2⟩ => ⟨v', w ++ [(k, v)], by rw [e]; rfl, h1, DenK.snoc hd h2⟩
theorem DenT.snoc {k : List Key} {d : D} {v : V} (hd : Den G K H d v) : ∀ {ks : List (List Key × D)} {us : List (List Key × V)}, DenT G K H ks us → DenT G K H (ks ++ [(k, d)]) (us ++ [(k, v)])
  | [], us, h => by
    obtain rfl : us = [] := h
    exact ⟨v, [], rfl, hd, rfl⟩
  | (j, x) :: r, us, ⟨v', w, e, h1, h2⟩ => ⟨v', w ++ [(k, v)], by rw [e]; rfl, h1, DenT.snoc hd h2⟩
theorem EDenK.snoc {k : Key} {d : E} {v : V} (hd : EDen G K H φ d v) : ∀ {ks : List (Key × E)} {us : List (Key × V)}, EDenK G K H φ ks us → EDenK G K H φ (ks ++ [(k, d)]) (us ++ [(k, v)])
  | [], us, h => by
    obtain rfl : us = [] := h
    exact ⟨v, [], rfl, hd, rfl⟩
  | (j, x) :: r, us, ⟨v', w, e, h1, h2⟩ => ⟨v', w ++ [(k, v)], by rw [e]; rfl, h1, EDenK.snoc hd h2⟩
theorem DenK.put {k : Key} {d : D} {v : V} {ks : List (Key × D)} {us : List (Key × V)} (hd : Den G K H d v) (h : DenK G K H ks us) : DenK G K H (kput ks k d) (putK us k v) := by
  unfold kput putK
  rw [h.any]
  split
  · exact h.map hd
  · exact h.snoc hd
theorem DenT.put {k : List Key} {d : D} {v : V} {ks : List (List Key × D)} {us : List (List Key × V)} (hd : Den G K H d v) (h : DenT G K H ks us) : DenT G K H (kput ks k d) (putK us k v) := by
  unfold kput putK
  rw [h.any]
  split
  · exact h.map hd
  · exact h.snoc hd
theorem EDenK.put {k : Key} {d : E} {v : V} {ks : List (Key × E)} {us : List (Key × V)} (hd : EDen G K H φ d v) (h : EDenK G K H φ ks us) : EDenK G K H φ (kput ks k d) (putK us k v) := by
  unfold kput putK
  rw [h.any]
  split
  · exact h.map hd
  · exact h.snoc hd
theorem DenT.length : ∀ {ks : List (List Key × D)} {us : List (List Key × V)}, DenT G K H ks us → us.length = ks.length
  | [], us, h => by
    obtain rfl : us = [] := h
    rfl
  | (j, x) :: r, us, ⟨v', w, e, h1, h2⟩ => by rw [e, List.length_cons, List.length_cons, DenT.length h2]
theorem EDenK.length : ∀ {ks : List (Key × E)} {us : List (Key × V)}, EDenK G K H φ ks us → us.length = ks.length
  | [], us, h => by
    obtain rfl : us = [] := h
    rfl
  | (j, x) :: r, us, ⟨v', w, e, h1, h2⟩ => by rw [e, List.length_cons, List.length_cons, EDenK.length h2]
theorem EDenL.set : ∀ {xs : List E} {vs : List V} (i : Nat) {x : E} {v : V}, EDenL G K H φ xs vs → EDen G K H φ x v → EDenL G K H φ (xs.set i x) (vs.set i v)
  | [], vs, i, x, v, h, _ => by
    obtain rfl : vs = [] := h
    exact rfl
  | y :: r, vs, 0, x, v, ⟨v', w, e, h1, h2⟩, d => by
    rw [e]
    exact ⟨v, w, rfl, d, h2⟩
  | y :: r, vs, i + 1, x, v, ⟨v', w, e, h1, h2⟩, d => by
    rw [e]
    exact ⟨v', w.set i v, rfl, h1, EDenL.set i h2 d⟩
/-- the content behind c[d] = x -/
def setL (c : C) (d : D) (x : E) : Option C := match c, d, x with
  | .lst xs, .int i, .p y => (ixN xs.length i).map fun j => .lst (xs.set j y)
  | .lse xs, .int i, y => (ixN xs.length i).map fun j => .lse (xs.set j y)
  | _, _, _ => none
def setD (c : C) (d : D) (x : E) : Option C := match c, x with
  | .dic ks, .p y => match keyD d with
    | some k => if ks.length < LINE then some (.dic (kput ks k y)) else none
    | none => none
  | .dce ks, y => match keyD d with
    | some k => if ks.length < LINE then some (.dce (kput ks k y)) else none
    | none => none
  | .dit ks, .p y => match keyT d with
    | some k => if ks.length < LINE then some (.dit (kput ks k y)) else none
    | none => none
  | _, _ => none
abbrev F3 := C → D → E → Option C
def orS (f1 f2 : F3) : F3 := fun c d x => match f1 c d x with
  | some z => some z
  | none => f2 c d x
def StS (G : String → Addr) (K : PySem.W.Frag) (r : V → V → V → Hp → (Hp → Prop) → Prop) (f : F3) : Prop :=
  ∀ (g : Gs) (a : Addr) (o : HO) (c c' : C) (d : D) (x : E) (i v : V), g.H a = some o → CDen G K g.W g.φ c o → VwDen G K g (dvw d) i → EDen G K g.W g.φ x v → f c d x = some c' →
    ∃ o', CDen G K g.W g.φ c' o' ∧ ∀ Q : Hp → Prop, Q (upd g.H a o') → r (.ref a) i v g.H Q
theorem sts_l : StS G K rSetL setL := by
  intro g a o c c' d x i v h1 h2 h3 h4 h5
  unfold setL at h5
  split at h5
  · obtain ⟨j, e1, rfl⟩ := map_inv h5
    obtain ⟨us, rfl, l⟩ := h2
    obtain rfl : i = .int _ := h3
    exact ⟨.lst (us.set j v), ⟨_, rfl, l.set j h4⟩, fun Q q => ⟨a, us, _, j, rfl, rfl, h1, by rw [l.length]; exact e1, q⟩⟩
  · obtain ⟨j, e1, rfl⟩ := map_inv h5
    obtain ⟨us, rfl, l⟩ := h2
    obtain rfl : i = .int _ := h3
    exact ⟨.lst (us.set j v), ⟨_, rfl, l.set j h4⟩, fun Q q => ⟨a, us, _, j, rfl, rfl, h1, by rw [l.length]; exact e1, q⟩⟩
  · cases h5
def rSetD : V → V → V → Hp → (Hp → Prop) → Prop := fun x y v H Q => ∃ a H', x = .ref a ∧ DPut H a y v H' ∧ Q H'
theorem sts_d : StS G K rSetD setD := by
  intro g a o c c' d x i v h1 h2 h3 h4 h5
  unfold setD at h5
  split at h5
  · rename_i ks y
    split at h5
    · rename_i k hk
      split at h5
      · rename_i hl
        cases h5
        obtain ⟨us, rfl, l⟩ := h2
        exact ⟨.dK (putK us k v), ⟨_, rfl, l.put h4⟩, fun Q q => ⟨a, _, rfl, .inl ⟨us, k, h1, keyD_V hk h3, by rw [l.length]; exact line_lt hl, rfl⟩, q⟩⟩
      · cases h5
    · cases h5
  · rename_i ks
    split at h5
    · rename_i k hk
      split at h5
      · rename_i hl
        cases h5
        obtain ⟨us, rfl, l⟩ := h2
        exact ⟨.dK (putK us k v), ⟨_, rfl, l.put h4⟩, fun Q q => ⟨a, _, rfl, .inl ⟨us, k, h1, keyD_V hk h3, by rw [l.length]; exact line_lt hl, rfl⟩, q⟩⟩
      · cases h5
    · cases h5
  · rename_i ks y
    split at h5
    · rename_i k hk
      split at h5
      · rename_i hl
        cases h5
        obtain ⟨us, rfl, l⟩ := h2
        cases d with
        | tup ds =>
          obtain ⟨b, vs, rfl, hb, lb⟩ := h3
          have ev := keysD_V (show keysD ds = some k from hk) lb
          subst ev
          exact ⟨.dT (putK us k v), ⟨_, rfl, l.put h4⟩, fun Q q => ⟨a, _, rfl, .inr ⟨us, k, b, h1, rfl, vw_le.fm b (.tup (k.map kV)) trivial hb, by rw [l.length]; exact line_lt hl, rfl⟩, q⟩⟩
        | _ => cases hk
      · cases h5
    · cases h5
  · cases h5
def setR (f : F3) (F : Fr) (T : Sto) (x o i : OV) : RS := match x, getC F T o, dat F T i with
  | .e x, some c, some d => match f c d x with
    | some c' => match putC F T o c' with
      | some (F', T') => .nx F' T'
      | none => .bad
    | none => .bad
  | _, _, _ => .bad
theorem setR_inv {f : F3} {x o i : OV} : setR f F T x o i = .bad ∨ ∃ e c d c' F' T', x = .e e ∧ getC F T o = some c ∧ dat F T i = some d ∧ f c d e = some c' ∧ putC F T o c' = some (F', T') ∧ setR f F T x o i = .nx F' T' := by
  unfold setR
  split
  · rename_i x c d hc hd
    split
    · rename_i c' hf
      split
      · rename_i F' T' hp
        exact .inr ⟨x, c, d, c', F', T', rfl, hc, hd, hf, hp, rfl⟩
      · exact .inl rfl
    · exact .inl rfl
  · exact .inl rfl
theorem setR_or {f1 f2 : F3} {x o i : OV} : setR (orS f1 f2) F T x o i = setR f1 F T x o i ∨ setR (orS f1 f2) F T x o i = setR f2 F T x o i := by
  cases x with
  | sl j => exact .inl rfl
  | e x =>
    unfold setR
    cases getC F T o with
    | none => exact .inl rfl
    | some c =>
      cases dat F T i with
      | none => exact .inl rfl
      | some d =>
        cases h : f1 c d x with
        | some z => exact .inl (by simp only [orS, h])
        | none => exact .inr (by simp only [orS, h])
def cSet (f : F3) (mv mo mi : MO) : MS := fun F T => (mv F T).st fun x F T => (mo F T).st fun o F T => (mi F T).st fun i F T => setR f F T x o i
def tSet3 (r : V → V → V → Hp → (Hp → Prop) → Prop) (tv to ti : TE) : TS := fun D σ H => tv σ H fun v H1 => to σ H1 fun o H2 => ti σ H2 fun i H3 => r o i v H3 fun H4 => D.nx σ H4
theorem set_core {r : V → V → V → Hp → (Hp → Prop) → Prop} {f : F3} {tv to ti : TE} {mv mo mi : MO} (hs : StS G K r f) (hv : SO G K W tv mv) (ho : SO G K W to mo) (hi : SO G K W ti mi) : SS G K W (tSet3 r tv to ti) (cSet f mv mo mi) := by
  intro A T F σ g D I p
  refine hv A T F σ g _ I ((st_post p).imp (fun x F1 T1 p1 g1 v I1 l1 d1 => ?_) fun _ _ _ q => st_wish q)
  refine ho A T1 F1 σ g1 _ I1 ((st_post p1).imp (fun o F2 T2 p2 g2 ov I2 l2 d2 => ?_) fun _ _ _ q => Wish.le (st_wish q) l1)
  refine hi A T2 F2 σ g2 _ I2 ((st_post p2).imp (fun i F3 T3 p3 g3 iv I3 l3 d3 => ?_) fun _ _ _ q => Wish.le (st_wish q) (l1.trans l2))
  have p3' : RS.Post G K W A T g D (setR f F3 T3 x o i) := p3
  rcases setR_inv (f := f) (F := F3) (T := T3) (x := x) (o := o) (i := i) with z | ⟨e, c, d, c', F', T', rfl, hc, hd, hf, hp, z⟩
  · rw [z] at p3'
    exact p3'.elim
  · rw [z] at p3'
    have d2' := l3.o d2
    obtain ⟨a, ob, rfl, h1, h2, _⟩ := I3.look d2' hc
    have d1' := (l2.trans l3).o d1
    obtain ⟨o', h4, h5⟩ := hs g3 a ob c c' d e iv v h1 h2 (dat_den I3 d3 hd) d1'.2 hf
    refine h5 _ ?_
    obtain ⟨I4, l4⟩ := I3.put d2' hc hp h4
    exact p3' ⟨g3.own, g3.φ, upd g3.H a o'⟩ σ I4 (l1.trans (l2.trans (l3.trans l4)))
theorem cSet_or {f1 f2 : F3} {mv mo mi : MO} {F : Fr} {T : Sto} : cSet (orS f1 f2) mv mo mi F T = cSet f1 mv mo mi F T ∨ cSet (orS f1 f2) mv mo mi F T = cSet f2 mv mo mi F T := by
  unfold cSet
  cases mv F T with
  | bad => exact .inl rfl
  | exc x F1 T1 => exact .inl rfl
  | ok x F1 T1 =>
    show (mo F1 T1).st _ = (mo F1 T1).st _ ∨ (mo F1 T1).st _ = (mo F1 T1).st _
    cases mo F1 T1 with
    | bad => exact .inl rfl
    | exc x F1 T1 => exact .inl rfl
    | ok o F2 T2 =>
      show (mi F2 T2).st _ = (mi F2 T2).st _ ∨ (mi F2 T2).st _ = (mi F2 T2).st _
      cases mi F2 T2 with
      | bad => exact .inl rfl
      | exc x F1 T1 => exact .inl rfl
      | ok i F3 T3 =>
        exact setR_or
end
section
variable {G : String → Addr} {X : Cx} {W : WX} {pos pos' p tpos : Pos} {e o i value : Expr} {es : List Expr} {mv mo mi : MO}
theorem PS.or {st : Stmt} {t1 t2 : TS} (h1 : PS X st t1) (h2 : PS X st t2) : PS X st (fun D σ H => t1 D σ H ∨ t2 D σ H) := by
  refine ⟨fun pins s σ H D I h => ?_⟩
  rcases h with h | h
  · exact h1.run pins s σ H D I h
  · exact h2.run pins s σ H D I h
theorem js_set (hu : X.A.units + 1 < cLine) (hv : JO G X W value mv) (ho : JO G X W o mo) (hi : JO G X W i mi) (hs : swapsWith value (some (.Subscript o i pos')) pos.line X.env = pure false := by rfl)
    (hs1 : swapsWithSole [.Subscript o i pos'] value pos.line X.env = pure false := by rfl) (hw : swappedStores [.Subscript o i pos'] value X.env = pure none := by rfl) (h1 : (assignEach [.Subscript o i pos'] X.env).map (·.2) = [assign (.Subscript o i pos') X.env] := by rfl)
    (ha : ∀ v, assign (.Subscript o i pos') X.env v = (do
      let ov ← holding [v] (eval o X.env)
      let iv ← holding [v, ov] (eval i X.env)
      standAt pos'
      holding [v, ov, iv] (setItem ov iv v)
      release [v, ov, iv] []) := by intro _; rfl) : JS G X W (.Assign [.Subscript o i pos'] value pos) (cSet (orS setL setD) mv mo mi) := by
  obtain ⟨tv, pv, sv⟩ := hv.ex
  obtain ⟨to, po, so⟩ := ho.ex
  obtain ⟨ti, pi, si⟩ := hi.ex
  refine ⟨_, PS.or (ps_asg pv (pg_sub po pi set_list ha) hs1 hw h1) (ps_dput hu po pi pv hs), fun A T F σ g D I p => ?_⟩
  rcases cSet_or (f1 := setL) (f2 := setD) (mv := mv) (mo := mo) (mi := mi) (F := F) (T := T) with z | z
  · rw [z] at p
    exact .inl (set_core (r := rSetL) sts_l sv so si A T F σ g D I p)
  · rw [z] at p
    refine .inr ?_
    have q := set_core (r := rSetD) sts_d sv so si A T F σ g D I p
    exact q
end
end Sim

set_option Elab.async false
set_option linter.all false
set_option maxRecDepth 100000
set_option maxHeartbeats 4000000
namespace Sim
open PySem L2
variable [EXC]
/-! ### o[i] op= e -/
def getLV : V → V → Hp → VK → Prop := fun x y H Q => ∃ p xs i v, x = .ref p ∧ y = .int i ∧ H p = some (.lst xs) ∧ atI xs i = some v ∧ Q v H
theorem get_list {X : Cx} : PGet X getLV := by
  intro pins s σ H o i ov iv Q I ro ri h
  obtain ⟨p, xs, k, z, rfl, rfl, hq, he, q⟩ := h
  cases ro
  obtain ⟨t, rfl⟩ := ri
  obtain ⟨its, r, pl, hz⟩ := I.list (a := p) (xs := xs) (.inl (.inl hq))
  obtain ⟨j, h1, h2, h3, h4, h5⟩ := atI_get he
  obtain ⟨w, ew, rw'⟩ := r.get h2
  have hl := r.length
  have hn := line63
  have fin : EP X pins σ Q w s := ⟨z, H, I, rw', q⟩
  by_cases h0 : 0 ≤ k
  · have hj : k.toNat = j := by
      rw [seqIndex_of h0 h5] at h1
      exact Option.some.inj h1
    exact PySem.wpAny_getItem_list pl.isList h0 (by omega) (by rw [hj]; simpa using ew) fin
  · have hj : (k + (its.toArray.size : Int)).toNat = j := by
      rw [seqIndex_neg (by omega) h4] at h1
      rw [List.size_toArray, ← hl]
      exact Option.some.inj h1
    exact PySem.wpAny_getItem_list_neg pl.isList (by omega) (by rw [List.size_toArray] <;> omega) (by omega) (by rw [hj]; simpa using ew) fin
def rGetD : V → V → Hp → VK → Prop := fun x y H Q => ∃ a v, x = .ref a ∧ DGet H a y (some v) ∧ Q v H
section
variable {G : String → Addr} {K : PySem.W.Frag} {A : Act} {T T' : Sto} {F F' : Fr} {σ : St} {g g' : Gs} {W : WX} {H H' : Hp} {φ : Nat → Addr}
abbrev FG := C → D → Option E
def getL (c : C) (d : D) : Option E := match c, d with
  | .lst xs, .int i => (L2.atI xs i).map .p
  | .lse xs, .int i => L2.atI xs i
  | _, _ => none
def getD (c : C) (d : D) : Option E := (dkey (.c c) d).bind id
def GtS (G : String → Addr) (K : PySem.W.Frag) (r : V → V → Hp → VK → Prop) (f : FG) : Prop :=
  ∀ (A : Act) (T : Sto) (F : Fr) (σ : St) (g : Gs) (x y : OV) (a : Addr) (c : C) (d : D) (e : E) (i : V), Iv G K A T F σ g → ODen G K T σ g x (.ref a) → getC F T x = some c → ODen G K T σ g y i → dat F T y = some d → f c d = some e →
    ∀ Q : VK, (∀ v, e.sc T.length = true → EDen G K g.W g.φ e v → Q v g.H) → r (.ref a) i g.H Q
theorem gts_l : GtS G K getLV getL := by
  intro A T F σ g x y a c d e i I hx hc hy hd he Q q
  obtain ⟨a', o, ea, h1, h2, h3⟩ := I.look hx hc
  cases ea
  have hi := dat_den I hy hd
  unfold getL at he
  split at he
  · obtain ⟨x0, e1, rfl⟩ := map_inv he
    obtain ⟨us, rfl, l⟩ := h2
    obtain ⟨v, h4, h5⟩ := l.atI e1
    obtain rfl : i = .int _ := hi
    exact ⟨a, us, _, v, rfl, rfl, h1, h4, q v scp h5⟩
  · obtain ⟨us, rfl, l⟩ := h2
    obtain ⟨v, h4, h5⟩ := l.atI he
    obtain ⟨j, hj⟩ := atI_mem he
    obtain rfl : i = .int _ := hi
    exact ⟨a, us, _, v, rfl, rfl, h1, h4, q v (E.scL_get h3 hj) h5⟩
  · cases he
theorem getC_look {x : OV} {c : C} (h : getC F T x = some c) : look F T x = some (.c c) := by
  cases x with
  | e x =>
    cases x with
    | loc n =>
      have h' : T[n]? = some c := h
      show (T[n]?).map Vw.c = _
      rw [h']
      rfl
    | p d => cases h
    | tp xs => cases h
  | sl i =>
    have h' : (match F[i]? with | some (.o c) => some c | _ => none) = some c := h
    show (match F[i]? with | some (.o c) => some (Vw.c c) | _ => none) = _
    split at h'
    · cases h'; rfl
    · cases h'
theorem gts_d : GtS G K rGetD getD := by
  intro A T F σ g x y a c d e i I hx hc hy hd he Q q
  unfold getD at he
  cases hk : dkey (.c c) d with
  | none => rw [hk] at he; cases he
  | some r =>
    rw [hk] at he
    obtain rfl : r = some e := he
    have lk := getC_look hc
    obtain ⟨a', ea, s, u, h5, h6⟩ := dkey_den (look_den I hx lk) (look_sc I hx lk) (dat_den I hy hd) hk
    cases ea
    exact ⟨a, u, rfl, h5, q u s h6⟩
/-- o[i] op= e, where e does not write -/
def augR1 (fg : FG) (F : Fr) (T : Sto) (o i : OV) : Option E := match getC F T o, dat F T i with
  | some c, some d => fg c d
  | _, _ => none
def cAugS (fg : FG) (fs : F3) (op : F2) (mo mi me : MO) : MS := fun F T => (mo F T).st fun o F T => (mi F T).st fun i F T => match augR1 fg F T o i with
  | some x => (me F T).st fun y F T => match op F T (.e x) y with
    | some (.o z) => setR fs F T z o i
    | _ => .bad
  | none => .bad
def tAug3 (rg : V → V → Hp → VK → Prop) (rd : V → V → Hp → VK → Prop) (rs : V → V → V → Hp → (Hp → Prop) → Prop) (to ti te : TE) : TS := fun D σ H => to σ H fun o H1 => ti σ H1 fun i H2 => rg o i H2 fun x H3 => te σ H3 fun y H4 => rd x y H4 fun z H5 => rs o i z H5 fun H6 => D.nx σ H6
theorem augR1_inv {fg : FG} {o i : OV} {x : E} (h : augR1 fg F T o i = some x) : ∃ c d, getC F T o = some c ∧ dat F T i = some d ∧ fg c d = some x := by
  unfold augR1 at h
  split at h
  · rename_i c d h1 h2
    exact ⟨c, d, h1, h2, h⟩
  · cases h
theorem aug_tail {rd : V → V → Hp → VK → Prop} {R : V → Hp → (Hp → Prop) → Prop} {fs : F3} {op : F2} {te : TE} {me : MO} {De : Ends} {T2 : Sto} {F2' : Fr} {g2 : Gs} {o i : OV} {a : Addr} {iv v : V} {x : E} (hop : OpS G K rd op)
    (hs : ∀ (g : Gs) (ob : HO) (c c' : C) (d : D) (x : E) (v : V), g.H a = some ob → CDen G K g.W g.φ c ob → VwDen G K g (dvw d) iv → EDen G K g.W g.φ x v → fs c d x = some c' → ∃ o', CDen G K g.W g.φ c' o' ∧ ∀ Q : Hp → Prop, Q (upd g.H a o') → R v g.H Q)
    (he : SO G K W te me) (I2 : Iv G K A T2 F2' σ g2) (l2 : Le T T2 g g2) (d1 : ODen G K T2 σ g2 o (.ref a)) (d2 : ODen G K T2 σ g2 i iv) (sx : x.sc T2.length = true) (dx : EDen G K g2.W g2.φ x v)
    (p2 : RS.Post G K W A T g De ((me F2' T2).st fun y F T => match op F T (.e x) y with
      | some (.o z) => setR fs F T z o i
      | _ => .bad)) : te σ g2.H fun y H4 => rd v y H4 fun z H5 => R z H5 fun H6 => De.nx σ H6 := by
  refine he A T2 F2' σ g2 _ I2 ((st_post p2).imp (fun y F3 T3 p3 g3 yv I3 l3 d3 => ?_) fun _ _ _ q => Wish.le (st_wish q) l2)
  cases hz : op F3 T3 (.e x) y with
  | none => rw [hz] at p3; exact p3.elim
  | some z =>
    rw [hz] at p3
    refine hop A T3 F3 σ g3 (.e x) y v yv z I3 (l3.o ⟨sx, dx⟩) d3 hz _ fun g4 zv I4 l4 d4 => ?_
    cases z with
    | fr c => exact p3.elim
    | o z =>
      have p3' : RS.Post G K W A T g De (setR fs F3 T3 z o i) := p3
      rcases setR_inv (f := fs) (F := F3) (T := T3) (x := z) (o := o) (i := i) with w | ⟨e, c, d, c', F', T', rfl, hc, hd, hf, hp, w⟩
      · rw [w] at p3'
        exact p3'.elim
      · rw [w] at p3'
        have d1'' := l4.o (l3.o d1)
        obtain ⟨a', ob', ea, h1, h2, _⟩ := I4.look d1'' hc
        cases ea
        obtain ⟨o', h4, h5⟩ := hs g4 ob' c c' d e zv h1 h2 (dat_den I4 (l4.o (l3.o d2)) hd) d4.2 hf
        refine h5 _ ?_
        obtain ⟨I5, l5⟩ := I4.put d1'' hc hp h4
        exact p3' ⟨g4.own, g4.φ, upd g4.H a o'⟩ σ I5 (l2.trans (l3.trans (l4.trans l5)))
theorem augL_core {rd : V → V → Hp → VK → Prop} {op : F2} {to ti te : TE} {mo mi me : MO} (hop : OpS G K rd op)
    (ho : SO G K W to mo) (hi : SO G K W ti mi) (he : SO G K W te me) : SS G K W (tAugS to ti te getLV rd rSetL) (cAugS getL setL op mo mi me) := by
  intro A T F σ g D I p
  refine ho A T F σ g _ I ((st_post p).imp (fun o F1 T1 p1 g1 ov I1 l1 d1 => ?_) fun _ _ _ q => st_wish q)
  refine hi A T1 F1 σ g1 _ I1 ((st_post p1).imp (fun i F2 T2 p2 g2 iv I2 l2 d2 => ?_) fun _ _ _ q => Wish.le (st_wish q) l1)
  cases hx : augR1 getL F2 T2 o i with
  | none => rw [hx] at p2; exact p2.elim
  | some x =>
    rw [hx] at p2
    obtain ⟨c, d, hc, hd, hf⟩ := augR1_inv hx
    have d1' := l2.o d1
    obtain ⟨a, ob, rfl, _, _, _⟩ := I2.look d1' hc
    refine gts_l A T2 F2 σ g2 o i a c d x iv I2 d1' hc d2 hd hf _ fun v sx dx => ?_
    exact aug_tail (R := fun z H Q => rSetL (.ref a) iv z H Q) hop (fun g ob c c' d x v h1 h2 h3 h4 h5 => sts_l g a ob c c' d x iv v h1 h2 h3 h4 h5) he I2 (l1.trans l2) d1' d2 sx dx p2
theorem augD_core {rd : V → V → Hp → VK → Prop} {op : F2} {to ti te : TE} {mo mi me : MO} (hop : OpS G K rd op)
    (ho : SO G K W to mo) (hi : SO G K W ti mi) (he : SO G K W te me) : SS G K W (sDAug to ti te rd) (cAugS getD setD op mo mi me) := by
  intro A T F σ g D I p
  refine ho A T F σ g _ I ((st_post p).imp (fun o F1 T1 p1 g1 ov I1 l1 d1 => ?_) fun _ _ _ q => st_wish q)
  refine hi A T1 F1 σ g1 _ I1 ((st_post p1).imp (fun i F2 T2 p2 g2 iv I2 l2 d2 => ?_) fun _ _ _ q => Wish.le (st_wish q) l1)
  cases hx : augR1 getD F2 T2 o i with
  | none => rw [hx] at p2; exact p2.elim
  | some x =>
    rw [hx] at p2
    obtain ⟨c, d, hc, hd, hf⟩ := augR1_inv hx
    have d1' := l2.o d1
    obtain ⟨a, ob, rfl, _, _, _⟩ := I2.look d1' hc
    unfold getD at hf
    cases hk : dkey (.c c) d with
    | none => rw [hk] at hf; cases hf
    | some r =>
      rw [hk] at hf
      obtain rfl : r = some x := hf
      have lk := getC_look hc
      obtain ⟨a', ea, s, u, h5, h6⟩ := dkey_den (look_den I2 d1' lk) (look_sc I2 d1' lk) (dat_den I2 d2 hd) hk
      cases ea
      refine ⟨a, u, rfl, h5, ?_⟩
      exact aug_tail (R := fun z H Q => ∃ H5, DPut H a iv z H5 ∧ Q H5) hop (fun g ob c c' d x v h1 h2 h3 h4 h5 => by
        obtain ⟨o', q1, q2⟩ := sts_d g a ob c c' d x iv v h1 h2 h3 h4 h5
        refine ⟨o', q1, fun Q q => ?_⟩
        obtain ⟨a', H', ea, q3, q4⟩ := q2 Q q
        cases ea
        exact ⟨H', q3, q4⟩) he I2 (l1.trans l2) d1' d2 s h6 p2
end
section
variable {G : String → Addr} {X : Cx} {W : WX} {pos pos' p p2 tpos : Pos} {e o i value a b c : Expr} {es : List Expr} {mv mo mi me ma mb mc : MO}
theorem js_augSL {op : Operator} {r : R2} {f : F2} (ho : JO G X W o mo) (hi : JO G X W i mi) (he : JO G X W e me) (hop : PIp X op r) (hs : OpS G X.K r f)
    (ha : ∀ ov iv new, augStore i ov iv new = (do holding [new, ov, iv] (setItem ov iv new); release [new, ov, iv] []; pure .next) := by intros; rfl) : JS G X W (.AugAssign (.Subscript o i tpos) op e pos) (cAugS getL setL f mo mi me) := by
  obtain ⟨to, po, so⟩ := ho.ex
  obtain ⟨ti, pi, si⟩ := hi.ex
  obtain ⟨te, pe, se⟩ := he.ex
  exact ⟨_, ps_augS po pi get_list pe hop set_list ha, augL_core hs so si se⟩
theorem js_augSD {op : Operator} {r : R2} {f : F2} (hu : X.A.units + 1 < cLine) (ho : JO G X W o mo) (hi : JO G X W i mi) (he : JO G X W e me) (hop : InOp X op r) (hs : OpS G X.K r f)
    (ha : ∀ ov iv new, augStore i ov iv new = (do holding [new, ov, iv] (setItem ov iv new); release [new, ov, iv] []; pure .next) := by intros; rfl) : JS G X W (.AugAssign (.Subscript o i tpos) op e pos) (cAugS getD setD f mo mi me) := by
  obtain ⟨to, po, so⟩ := ho.ex
  obtain ⟨ti, pi, si⟩ := hi.ex
  obtain ⟨te, pe, se⟩ := he.ex
  exact ⟨_, ps_daug hu po pi pe hop ha, augD_core hs so si se⟩
/-- o[i] += e, o[i] -= e of ints -/
theorem js_augSLadd (ho : JO G X W o mo) (hi : JO G X W i mi) (he : JO G X W e me)
    (ha : ∀ ov iv new, augStore i ov iv new = (do holding [new, ov, iv] (setItem ov iv new); release [new, ov, iv] []; pure .next) := by intros; rfl) : JS G X W (.AugAssign (.Subscript o i tpos) .Add e pos) (cAugS getL setL addI mo mi me) := js_augSL ho hi he ip_add (ops_i0 fun _ _ => rfl) ha
theorem js_augSLsub (ho : JO G X W o mo) (hi : JO G X W i mi) (he : JO G X W e me)
    (ha : ∀ ov iv new, augStore i ov iv new = (do holding [new, ov, iv] (setItem ov iv new); release [new, ov, iv] []; pure .next) := by intros; rfl) : JS G X W (.AugAssign (.Subscript o i tpos) .Sub e pos) (cAugS getL setL subF mo mi me) := js_augSL ho hi he ip_sub (ops_i0 fun _ _ => rfl) ha
theorem js_augSDadd (hu : X.A.units + 1 < cLine) (ho : JO G X W o mo) (hi : JO G X W i mi) (he : JO G X W e me)
    (ha : ∀ ov iv new, augStore i ov iv new = (do holding [new, ov, iv] (setItem ov iv new); release [new, ov, iv] []; pure .next) := by intros; rfl) : JS G X W (.AugAssign (.Subscript o i tpos) .Add e pos) (cAugS getD setD addI mo mi me) := js_augSD hu ho hi he in_add (ops_i0 fun _ _ => rfl) ha
theorem js_augSDsub (hu : X.A.units + 1 < cLine) (ho : JO G X W o mo) (hi : JO G X W i mi) (he : JO G X W e me)
    (ha : ∀ ov iv new, augStore i ov iv new = (do holding [new, ov, iv] (setItem ov iv new); release [new, ov, iv] []; pure .next) := by intros; rfl) : JS G X W (.AugAssign (.Subscript o i tpos) .Sub e pos) (cAugS getD setD subF mo mi me) := js_augSD hu ho hi he in_sub (ops_i0 fun _ _ => rfl) ha
end
/-! ### displays -/
def pureL : List E → Option (List D)
  | [] => some []
  | .p d :: r => (pureL r).map (d :: ·)
  | _ => none
section
variable {G : String → Addr} {K : PySem.W.Frag} {A : Act} {T T' : Sto} {F F' : Fr} {σ : St} {g g' : Gs} {W : WX} {H H' : Hp} {φ : Nat → Addr}
theorem pureL_den : ∀ {es : List E} {ds : List D} {vs : List V}, pureL es = some ds → EDenL G K H φ es vs → DenL G K H ds vs
  | [], ds, vs, h, d => by
    cases h
    exact d
  | .p x :: r, ds, vs, h, ⟨v, w, e, h1, h2⟩ => by
    obtain ⟨l, e1, rfl⟩ := map_inv (show (pureL r).map (x :: ·) = some ds from h)
    exact ⟨v, w, e, h1, pureL_den e1 h2⟩
  | .loc n :: r, ds, vs, h, _ => by cases h
  | .tp xs :: r, ds, vs, h, _ => by cases h
def tupV (es : List E) : E := match pureL es with
  | some ds => .p (.tup ds)
  | none => .tp es
def lstV (es : List E) : C := match pureL es with
  | some ds => .lst ds
  | none => .lse es
theorem Iv.newE (I : Iv G K A T F σ g) {p : Addr} {es : List E} {vs : List V} (h : g.H p = none) (l : EDenL G K g.W g.φ es vs) (s : E.scL T.length es = true) :
    Iv G K A T F σ ⟨g.own, g.φ, upd g.H p (.tup vs)⟩ ∧ Le T T g ⟨g.own, g.φ, upd g.H p (.tup vs)⟩ ∧ (tupV es).sc T.length = true ∧ EDen G K (Gs.W ⟨g.own, g.φ, upd g.H p (.tup vs)⟩) g.φ (tupV es) (.ref p) := by
  unfold tupV
  cases q : pureL es with
  | none =>
    obtain ⟨I', le, d⟩ := I.newTupE h l s
    refine ⟨I', le, ?_, d⟩
    show (E.tp es).sc T.length = true
    rw [E.sc]
    exact s
  | some ds =>
    obtain ⟨I', le, d⟩ := I.newTup h (pureL_den q l)
    exact ⟨I', le, scp, d⟩
theorem lstV_den {n : Nat} {es : List E} {vs : List V} (l : EDenL G K H φ es vs) (s : E.scL n es = true) : (lstV es).sc n = true ∧ CDen G K H φ (lstV es) (.lst vs) := by
  unfold lstV
  cases q : pureL es with
  | none => exact ⟨s, vs, rfl, l⟩
  | some ds => exact ⟨rfl, vs, rfl, pureL_den q l⟩
def cTup (ma : MA) : MO := fun F T => (ma F T).bind fun xs F T => match oes xs with
  | some es => if es.length ≤ LINE then .ok (.e (tupV es)) F T else .bad
  | none => .bad
def cLst (ma : MA) : ME := fun F T => (ma F T).bind fun xs F T => match oes xs with
  | some es => if es.length ≤ LINE then .ok (.fr (lstV es)) F T else .bad
  | none => .bad
theorem tup_core {ta : TA} {ma : MA} (ha : SA G K W ta ma) : SO G K W (tTup ta) (cTup ma) := by
  intro A T F σ g Q I p
  refine ha A T F σ g _ I ((post_bind p).imp (fun xs F1 T1 p1 g1 vs I1 l1 d1 => ?_) fun _ _ _ q => q)
  cases e : oes xs with
  | none => rw [e] at p1; exact p1.elim
  | some es =>
    rw [e] at p1
    have p2 : Rs.Post (if es.length ≤ LINE then Rs.ok (OV.e (tupV es)) F1 T1 else .bad) _ _ := p1
    split at p2
    · rename_i hl
      obtain ⟨s1, s2⟩ := oes_den e d1
      refine ⟨by rw [s2.length]; exact line_le hl, fun p hp => ?_⟩
      obtain ⟨I2, l2, s3, d3⟩ := I1.newE hp s2 s1
      exact p2 ⟨g1.own, g1.φ, upd g1.H p (.tup vs)⟩ (.ref p) I2 (l1.trans l2) ⟨s3, d3⟩
    · exact p2.elim
theorem lst_core {ta : TA} {ma : MA} (ha : SA G K W ta ma) : SE G K W (tLst ta) (cLst ma) := by
  intro A T F σ g Q I p
  refine ha A T F σ g _ I ((post_bind p).imp (fun xs F1 T1 p1 g1 vs I1 l1 d1 => ?_) fun _ _ _ q => q)
  cases e : oes xs with
  | none => rw [e] at p1; exact p1.elim
  | some es =>
    rw [e] at p1
    have p2 : Rs.Post (if es.length ≤ LINE then Rs.ok (RV.fr (lstV es)) F1 T1 else .bad) _ _ := p1
    split at p2
    · rename_i hl
      obtain ⟨s1, s2⟩ := oes_den e d1
      refine ⟨by rw [s2.length]; exact line_le hl, fun p hp => ?_⟩
      obtain ⟨s3, c3⟩ := lstV_den s2 s1
      obtain ⟨I2, l2, R⟩ := I1.newRoot (o := .lst vs) hp s3 c3
      exact p2 ⟨plus g1.own p, g1.φ, upd g1.H p (.lst vs)⟩ (.ref p) I2 (l1.trans l2) ⟨p, rfl, R⟩
    · exact p2.elim
def cNewD (c : C) : ME := fun F T => .ok (.fr c) F T
end
section
variable {G : String → Addr} {X : Cx} {W : WX} {pos pos' p p2 tpos : Pos} {e o i value a b c : Expr} {es : List Expr} {mv mo mi me ma mb mc : MO}
theorem jo_tup {x1} {m : MA} (h : JA G X W es m) : JO G X W (.Tuple es x1 pos) (cTup m) := by
  obtain ⟨ta, pa, s⟩ := h.ex
  exact ⟨_, pe_tup pa, tup_core s⟩
theorem je_lst {m : MA} (h : JA G X W es m) : JE G X W (.List es pos) (cLst m) := by
  obtain ⟨ta, pa, s⟩ := h.ex
  exact ⟨_, pe_lst pa, lst_core s⟩
theorem je_dicK : JE G X W (.Dict [] [] pos) (cNewD (.dic [])) := ⟨_, pe_dnewK, fun A T F σ g Q I pp p hp => by
  obtain ⟨I2, l2, R⟩ := I.newRoot (c := .dic []) (o := .dK []) hp rfl ⟨[], rfl, rfl⟩
  exact pp ⟨plus g.own p, g.φ, upd g.H p (.dK [])⟩ (.ref p) I2 l2 ⟨p, rfl, R⟩⟩
theorem je_dicE : JE G X W (.Dict [] [] pos) (cNewD (.dce [])) := ⟨_, pe_dnewK, fun A T F σ g Q I pp p hp => by
  obtain ⟨I2, l2, R⟩ := I.newRoot (c := .dce []) (o := .dK []) hp rfl ⟨[], rfl, rfl⟩
  exact pp ⟨plus g.own p, g.φ, upd g.H p (.dK [])⟩ (.ref p) I2 l2 ⟨p, rfl, R⟩⟩
theorem je_dicT : JE G X W (.Dict [] [] pos) (cNewD (.dit [])) := ⟨_, pe_dnewT, fun A T F σ g Q I pp p hp => by
  obtain ⟨I2, l2, R⟩ := I.newRoot (c := .dit []) (o := .dT []) hp rfl ⟨[], rfl, rfl⟩
  exact pp ⟨plus g.own p, g.φ, upd g.H p (.dT [])⟩ (.ref p) I2 l2 ⟨p, rfl, R⟩⟩
end
end Sim

set_option Elab.async false
set_option linter.all false
set_option maxRecDepth 100000
set_option maxHeartbeats 4000000
namespace Sim
open PySem L2
variable [EXC]
/-! ### dicts that are walked: locked, then as before -/
structure Wk (H H' : Hp) : Prop where
  rd : ∀ a u, nfz u → Rd H a u → Rd H' a u
  fm : ∀ a u, firm u → H a = some u → H' a = some u
  dm : ∀ a, H a ≠ none → H' a ≠ none
theorem Ext.wk {H H' : Hp} (x : Ext H H') : Wk H H' := ⟨x.rd, x.fm, x.dm⟩
theorem Wk.l {K : PySem.W.Frag} {H H' : Hp} {a : Addr} {vs : List V} (x : Wk H H') (h : SqL K H a vs) : SqL K H' a vs := h.imp (x.rd a _ trivial) id
theorem Wk.t {K : PySem.W.Frag} {H H' : Hp} {a : Addr} {vs : List V} (x : Wk H H') (h : SqT K H a vs) : SqT K H' a vs := h.imp (x.rd a _ trivial) id
section
variable {G : String → Addr} {K : PySem.W.Frag} {H H' : Hp} {φ : Nat → Addr}
mutual
theorem Den.wk (x : Wk H H') : ∀ {d : D} {v : V}, Den G K H d v → Den G K H' d v
  | .non, _, h => h
  | .bl _, _, h => h
  | .int _, _, h => h
  | .str _, _, h => h
  | .tup _, _, ⟨a, vs, e, s, l⟩ => ⟨a, vs, e, x.fm _ _ trivial s, DenL.wk x l⟩
  | .rot _, _, ⟨a, vs, e, s, l⟩ => ⟨a, vs, e, x.t s, DenL.wk x l⟩
  | .lst _, _, ⟨a, vs, e, s, l⟩ => ⟨a, vs, e, x.fm _ _ trivial s, DenL.wk x l⟩
  | .rol _, _, ⟨a, vs, e, s, l⟩ => ⟨a, vs, e, x.l s, DenL.wk x l⟩
  | .dic _, _, ⟨a, vs, e, s, l⟩ => ⟨a, vs, e, x.rd _ _ trivial s, DenK.wk x l⟩
  | .dit _, _, ⟨a, vs, e, s, l⟩ => ⟨a, vs, e, x.rd _ _ trivial s, DenT.wk x l⟩
  | .ins _ _, _, ⟨a, dx, us, e, s, l⟩ => ⟨a, dx, us, e, x.fm _ _ trivial s, DenF.wk x l⟩
  | .cls _, _, h => h
theorem DenL.wk (x : Wk H H') : ∀ {d : List D} {v : List V}, DenL G K H d v → DenL G K H' d v
  | [], _, h => h
  | _ :: _, _, ⟨v, w, e, h, r⟩ => ⟨v, w, e, h.wk x, DenL.wk x r⟩
theorem DenK.wk (x : Wk H H') : ∀ {d : List (Key × D)} {v : List (Key × V)}, DenK G K H d v → DenK G K H' d v
  | [], _, h => h
  | (_, _) :: _, _, ⟨v, w, e, h, r⟩ => ⟨v, w, e, h.wk x, DenK.wk x r⟩
theorem DenT.wk (x : Wk H H') : ∀ {d : List (List Key × D)} {v : List (List Key × V)}, DenT G K H d v → DenT G K H' d v
  | [], _, h => h
  | (_, _) :: _, _, ⟨v, w, e, h, r⟩ => ⟨v, w, e, h.wk x, DenT.wk x r⟩
theorem DenF.wk (x : Wk H H') : ∀ {d : List (String × D)} {v : List (Str × V)}, DenF G K H d v → DenF G K H' d v
  | [], _, h => h
  | (_, _) :: _, _, ⟨v, w, e, h, r⟩ => ⟨v, w, e, h.wk x, DenF.wk x r⟩
end
mutual
theorem EDen.wk (x : Wk H H') : ∀ {d : E} {v : V}, EDen G K H φ d v → EDen G K H' φ d v
  | .p _, _, h => Den.wk x h
  | .loc m, v, h => h
  | .tp xs, _, ⟨p, vs, e, q, l⟩ => ⟨p, vs, e, x.fm _ _ trivial q, EDenL.wk x l⟩
theorem EDenL.wk (x : Wk H H') : ∀ {d : List E} {v : List V}, EDenL G K H φ d v → EDenL G K H' φ d v
  | [], _, h => h
  | y :: r, _, ⟨v, w, e, h, q⟩ => ⟨v, w, e, EDen.wk x h, EDenL.wk x q⟩
end
theorem XDenH.wk (x : Wk H H') {z : Xc} {cls : Value} {d : Option Addr} (h : XDenH G K H z cls d) : XDenH G K H' z cls d := by
  refine ⟨h.1, ?_⟩
  have h2 := h.2
  cases d with
  | none => exact h2
  | some dd =>
    obtain ⟨us, h3, h4⟩ := h2
    exact ⟨us, x.fm dd (.xd us) trivial h3, h4.wk x⟩
theorem EDenK.wk (x : Wk H H') : ∀ {d : List (Key × E)} {v : List (Key × V)}, EDenK G K H φ d v → EDenK G K H' φ d v
  | [], _, h => h
  | (k, y) :: r, _, ⟨v, w, e, h, q⟩ => ⟨v, w, e, EDen.wk x h, EDenK.wk x q⟩
theorem EDenF.wk (x : Wk H H') : ∀ {d : List (String × E)} {v : List (Str × V)}, EDenF G K H φ d v → EDenF G K H' φ d v
  | [], _, h => h
  | (k, y) :: r, _, ⟨v, w, e, h, q⟩ => ⟨v, w, e, EDen.wk x h, EDenF.wk x q⟩
theorem CDen.wk (x : Wk H H') : ∀ {c : C} {o : HO}, CDen G K H φ c o → CDen G K H' φ c o
  | .lst _, _, ⟨vs, e, h⟩ => ⟨vs, e, h.wk x⟩
  | .lse _, _, ⟨vs, e, h⟩ => ⟨vs, e, h.wk x⟩
  | .dic _, _, ⟨vs, e, h⟩ => ⟨vs, e, h.wk x⟩
  | .dit _, _, ⟨vs, e, h⟩ => ⟨vs, e, h.wk x⟩
  | .dce _, _, ⟨vs, e, h⟩ => ⟨vs, e, h.wk x⟩
  | .ins _ _, _, ⟨dx, us, e, h⟩ => ⟨dx, us, e, h.wk x⟩
end
def isDk : HO → Prop
  | .dK _ => True
  | .dT _ => True
  | _ => False
section
variable {G : String → Addr} {K : PySem.W.Frag} {A : Act} {T T' : Sto} {F F' : Fr} {σ : St} {g g' : Gs} {W : WX} {H H' : Hp} {φ : Nat → Addr} {d : Addr} {u : HO} {od : Obj}
theorem isDk_mut (h : isDk u) : Mut (some u) := by cases u <;> first | trivial | exact h.elim
theorem isDk_nf (h : isDk u) : ¬ firm u := by cases u <;> first | exact h.elim | exact id
/-- the lock -/
theorem ext_lock (hd : H d = some u) (h : isDk u) : Ext H (upd H d (.frz od u)) where
  rd := fun a x n r => by
    by_cases e : a = d
    · subst e
      rcases r with r | ⟨o, r⟩
      · rw [hd] at r; cases r; exact .inr ⟨od, upd_same⟩
      · rw [hd] at r; cases r; exact h.elim
    · exact r.imp (fun q => (upd_ne e).trans q) fun ⟨o, q⟩ => ⟨o, (upd_ne e).trans q⟩
  fm := fun a x f q => by
    by_cases e : a = d
    · subst e
      rw [hd] at q; cases q
      exact absurd f (isDk_nf h)
    · exact (upd_ne e).trans q
  dm := fun a n => by
    by_cases e : a = d
    · subst e; rw [upd_same]; exact fun z => by cases z
    · rw [upd_ne e]; exact n
  fz := fun a o x q => by
    by_cases e : a = d
    · subst e
      rw [hd] at q; cases q
      exact h.elim
    · exact (upd_ne e).trans q
theorem wk_unlock (hd : H d = some (.frz od u)) (h : isDk u) : Wk H (upd H d u) where
  rd := fun a x n r => by
    by_cases e : a = d
    · subst e
      rcases r with r | ⟨o, r⟩
      · rw [hd] at r; cases r; exact n.elim
      · rw [hd] at r; cases r; exact .inl upd_same
    · exact r.imp (fun q => (upd_ne e).trans q) fun ⟨o, q⟩ => ⟨o, (upd_ne e).trans q⟩
  fm := fun a x f q => by
    by_cases e : a = d
    · subst e
      rw [hd] at q; cases q
      exact f.elim
    · exact (upd_ne e).trans q
  dm := fun a n => by
    by_cases e : a = d
    · subst e; rw [upd_same]; exact fun z => by cases z
    · rw [upd_ne e]; exact n
/-- from before the lock to behind the unlock -/
theorem ext_over {H0 H1 : Hp} (h0 : H0 d = some u) (h : isDk u) (x : Ext (upd H0 d (.frz od u)) H1) : Ext H0 (upd H1 d u) where
  rd := fun a y n r => by
    by_cases e : a = d
    · subst e
      rcases r with r | ⟨o, r⟩
      · rw [h0] at r; cases r; exact .inl upd_same
      · rw [h0] at r; cases r; exact h.elim
    · exact (x.rd a y n (r.imp (fun q => (upd_ne e).trans q) fun ⟨o, q⟩ => ⟨o, (upd_ne e).trans q⟩)).imp (fun q => (upd_ne e).trans q) fun ⟨o, q⟩ => ⟨o, (upd_ne e).trans q⟩
  fm := fun a y f q => by
    by_cases e : a = d
    · subst e
      rw [h0] at q; cases q
      exact absurd f (isDk_nf h)
    · exact (upd_ne e).trans (x.fm a y f ((upd_ne e).trans q))
  dm := fun a n => by
    by_cases e : a = d
    · subst e; rw [upd_same]; exact fun z => by cases z
    · rw [upd_ne e]
      exact x.dm a (by rw [upd_ne e]; exact n)
  fz := fun a o y q => by
    by_cases e : a = d
    · subst e
      rw [h0] at q; cases q
      exact h.elim
    · exact (upd_ne e).trans (x.fz a o y ((upd_ne e).trans q))
def lk (g : Gs) (d : Addr) (o : HO) : Gs := ⟨g.own, g.φ, upd g.H d o⟩
theorem lk_W {o : HO} (n : g.own d = false) : (lk g d o).W = upd g.W d o := vw_upd_new n
theorem W_own (hd : g.W d ≠ none) : g.own d = false := by
  cases q : g.own d with
  | false => rfl
  | true => exact absurd (vw_own q) hd
theorem Iv.lock (I : Iv G K A T F σ g) (hd : g.W d = some u) (h : isDk u) : Iv G K A T F σ (lk g d (.frz od u)) ∧ Le T T g (lk g d (.frz od u)) := by
  have n := W_own (g := g) (d := d) (by rw [hd]; exact fun z => by cases z)
  have x : Ext g.W (lk g d (.frz od u)).W := by rw [lk_W n]; exact ext_lock hd h
  refine ⟨I.same x fun a ha => upd_ne fun z => ?_, x, fun _ _ => rfl, Nat.le_refl _⟩
  subst z
  rw [n] at ha
  cases ha
/-- all that was said at the lock's state, behind the unlock -/
theorem Iv.unlock (I0 : Iv G K A T F σ g) {F' : Fr} {T' : Sto} {σ' : St} {g' : Gs} (hd : g.W d = some u) (h : isDk u) (I : Iv G K A T' F' σ' g') (l : Le T T' (lk g d (.frz od u)) g') :
    g'.H d = some (.frz od u) ∧ Iv G K A T' F' σ' (lk g' d u) ∧ Le T T' g (lk g' d u) ∧ Wk g'.W (lk g' d u).W ∧ g'.own d = false := by
  have n := W_own (g := g) (d := d) (by rw [hd]; exact fun z => by cases z)
  have w0 : (lk g d (.frz od u)).W = upd g.W d (.frz od u) := lk_W n
  have x := l.ext
  rw [w0] at x
  have fz : g'.W d = some (.frz od u) := x.fz d od u upd_same
  have n' := W_own (g := g') (d := d) (by rw [fz]; exact fun z => by cases z)
  have w1 : (lk g' d u).W = upd g'.W d u := lk_W n'
  have wk : Wk g'.W (lk g' d u).W := by rw [w1]; exact wk_unlock fz h
  have xo : Ext g.W (lk g' d u).W := by rw [w1]; exact ext_over hd h x
  have hH : g'.H d = some (.frz od u) := vw_le.fz d od u fz
  have keep : ∀ a, g'.own a = true → upd g'.H d u a = g'.H a := fun a ha => upd_ne fun z => by
    subst z
    rw [n'] at ha
    cases ha
  have cat : ∀ a c, g'.own a = true → CAt G K g' a c → CAt G K (lk g' d u) a c := fun a c ha ⟨o, h1, h2⟩ => ⟨o, (keep a ha).trans h1, h2.wk wk⟩
  refine ⟨hH, ⟨I.len, fun a ha => ?_, I.base, fun a ha => ⟨(I.prot a ha).1, (keep a (I.base a (I.prot a ha).1)).trans (I.prot a ha).2⟩, I.agr, I0.grow.trans xo, I.kS, I.lv, I.sc, fun m c hc => ?_, I.inj, fun i s hs => ?_, I.dis⟩, ⟨xo, l.agr, l.len⟩, wk, n'⟩
  · show upd g'.H d u a ≠ none
    rw [keep a ha]
    exact I.dom a ha
  · obtain ⟨h1, h2, h3⟩ := I.liv m c hc
    exact ⟨h1, h2, cat _ _ h1 h3⟩
  · have q := I.slot i s hs
    cases s with
    | u => trivial
    | x z => exact ⟨q.1, q.2.wk wk⟩
    | e y => obtain ⟨q1, v, q2, q3⟩ := q; exact ⟨q1, v, q2, q3.wk wk⟩
    | o c => obtain ⟨q1, a, q2, q3, q4, q5, q6⟩ := q; exact ⟨q1, a, q2, q3, q4, q5, cat _ _ q3 q6⟩
theorem rden_unlock {x : RV} {v : V} {u : HO} (wk : Wk g'.W (lk g' d u).W) (n : g'.own d = false) (h : RDen G K A T' F' σ g' x v) : RDen G K A T' F' σ (lk g' d u) x v := by
  cases x with
  | o x =>
    cases x with
    | e x => exact ⟨h.1, h.2.wk wk⟩
    | sl i => exact h
  | fr c =>
    obtain ⟨a, e, R⟩ := h
    obtain ⟨o, h1, h2⟩ := R.at_
    refine ⟨a, e, R.sc, R.own, R.own0, R.liv, R.slot, o, (upd_ne fun z => ?_).trans h1, h2.wk wk⟩
    subst z
    have := R.own
    rw [n] at this
    cases this
/-- a statement that is fine behind a lock of d, or where d is locked already -/
theorem lock_core {t : TS} {r : RS} {D : Ends} (I : Iv G K A T F σ g) (hd : Rd g.W d u) (h : isDk u)
    (hs : ∀ (g1 : Gs) (od : Obj) (D1 : Ends), g1.W d = some (.frz od u) → Iv G K A T F σ g1 → Le T T g g1 → (r.Post G K W A T g1 D1 → t D1 σ g1.H))
    (p : r.Post G K W A T g D) : tLock t D σ g.H ∨ t D σ g.H := by
  rcases hd with hd | ⟨od, hd⟩
  · refine .inl ⟨d, u, vw_le.rd d u (by cases u <;> first | exact h.elim | trivial) (.inl hd) |>.elim id (fun ⟨o, z⟩ => ?_), isDk_mut h, fun od => ?_⟩
    · have n := W_own (g := g) (d := d) (by rw [hd]; exact fun z => by cases z)
      have : g.W d = g.H d := vw_at n
      rw [← this]
      exact hd
    · obtain ⟨I1, l1⟩ := I.lock (od := od) hd h
      have n := W_own (g := g) (d := d) (by rw [hd]; exact fun z => by cases z)
      refine hs (lk g d (.frz od u)) od _ ?_ I1 l1 ?_
      · rw [lk_W n, upd_same]
      · cases r with
        | nx F' T' =>
          intro g' σ' I' l'
          obtain ⟨e, I2, l2, _, _⟩ := I.unlock hd h I' l'
          exact ⟨e, p _ σ' I2 l2⟩
        | rt r F' T' =>
          intro g' σ' v I' l' rd
          obtain ⟨e, I2, l2, wk, n'⟩ := I.unlock hd h I' l'
          exact ⟨e, p _ σ' v I2 l2 (rden_unlock wk n' rd)⟩
        | bk F' T' =>
          intro g' σ' I' l'
          obtain ⟨e, I2, l2, _, _⟩ := I.unlock hd h I' l'
          exact ⟨e, p _ σ' I2 l2⟩
        | ct F' T' =>
          intro g' σ' I' l'
          obtain ⟨e, I2, l2, _, _⟩ := I.unlock hd h I' l'
          exact ⟨e, p _ σ' I2 l2⟩
        | exc x F' T' => exact fun g' σ' cls d I' l' xd => p g' σ' cls d I' (l1.trans l') xd
        | bad => exact p
  · exact .inr (hs g od D hd I Le.refl p)
end
end Sim

set_option Elab.async false
set_option linter.all false
set_option maxRecDepth 100000
set_option maxHeartbeats 4000000
namespace Sim
open PySem L2
variable [EXC]
/-! ### for x in a dict that a name stands for -/
def keyE : Key → D
  | .inl i => .int i
  | .inr s => .str s
theorem keyE_den {G : String → Addr} {K : PySem.W.Frag} {H : Hp} {k : Key} : Den G K H (keyE k) (kV k) := by cases k <;> rfl
section
variable {G : String → Addr} {K : PySem.W.Frag} {A : Act} {T T' : Sto} {F F' : Fr} {σ : St} {g g' g0 : Gs} {W : WX} {H H' : Hp} {φ : Nat → Addr} {d : Addr} {u : HO} {od : Obj}
theorem DenK.ix : ∀ {ks : List (Key × D)} {us : List (Key × V)} {i : Nat} {k : Key} {v : V}, DenK G K H ks us → us[i]? = some (k, v) → ∃ x, ks[i]? = some (k, x) ∧ Den G K H x v
  | [], us, i, k, v, h, e => by
    obtain rfl : us = [] := h
    simp at e
  | (j, x) :: r, us, 0, k, v, ⟨v', w, e1, h1, h2⟩, e => by
    subst e1
    rw [List.getElem?_cons_zero] at e
    cases e
    exact ⟨x, rfl, h1⟩
  | (j, x) :: r, us, i + 1, k, v, ⟨v', w, e1, h1, h2⟩, e => by
    subst e1
    rw [List.getElem?_cons_succ] at e
    rw [List.getElem?_cons_succ]
    exact DenK.ix h2 e
def keysE (ks : List (Key × D)) : List E := ks.map fun kv => .p (keyE kv.1)
def valsE (ks : List (Key × D)) : List E := ks.map fun kv => .p kv.2
def itmsE (ks : List (Key × D)) : List E := ks.map fun kv => .p (.tup [keyE kv.1, kv.2])
theorem good_keys {ks : List (Key × D)} {us : List (Key × V)} {n : Nat} (h : g0.W d = some (.frz od (.dK us))) (l : DenK G K g0.W ks us) : Good G K (Itk d od us) g0 n (keysE ks) where
  go := fun i g o hi => by
    unfold keysE at hi
    rw [List.length_map] at hi
    exact ⟨vw_le.fz d od _ (o.ext.fz d od _ h), by rw [l.length]; exact hi⟩
  stop := fun g o => by
    unfold keysE
    rw [List.length_map, ← l.length]
    exact ⟨vw_le.fz d od _ (o.ext.fz d od _ h), Nat.le_refl _⟩
  yld := fun i g v H' o hi y => by
    obtain ⟨e, k, w, h1, rfl⟩ := y
    obtain ⟨x, h2, h3⟩ := l.ix h1
    refine ⟨.p (keyE k), ?_, scp, .inl ⟨e, keyE_den⟩⟩
    unfold keysE
    rw [List.getElem?_map, h2]
    rfl
theorem good_vals {ks : List (Key × D)} {us : List (Key × V)} {n : Nat} (h : g0.W d = some (.frz od (.dK us))) (l : DenK G K g0.W ks us) : Good G K (Itd d od us) g0 n (valsE ks) where
  go := fun i g o hi => by
    unfold valsE at hi
    rw [List.length_map] at hi
    exact ⟨vw_le.fz d od _ (o.ext.fz d od _ h), by rw [l.length]; exact hi⟩
  stop := fun g o => by
    unfold valsE
    rw [List.length_map, ← l.length]
    exact ⟨vw_le.fz d od _ (o.ext.fz d od _ h), Nat.le_refl _⟩
  yld := fun i g v H' o hi y => by
    obtain ⟨e, k, h1⟩ := y
    obtain ⟨x, h2, h3⟩ := l.ix h1
    refine ⟨.p x, ?_, scp, .inl ⟨e, h3.mono o.ext⟩⟩
    unfold valsE
    rw [List.getElem?_map, h2]
    rfl
theorem good_itms {ks : List (Key × D)} {us : List (Key × V)} {n : Nat} (h : g0.W d = some (.frz od (.dK us))) (l : DenK G K g0.W ks us) : Good G K (Iti d od us) g0 n (itmsE ks) where
  go := fun i g o hi => by
    unfold itmsE at hi
    rw [List.length_map] at hi
    exact ⟨vw_le.fz d od _ (o.ext.fz d od _ h), by rw [l.length]; exact hi⟩
  stop := fun g o => by
    unfold itmsE
    rw [List.length_map, ← l.length]
    exact ⟨vw_le.fz d od _ (o.ext.fz d od _ h), Nat.le_refl _⟩
  yld := fun i g v H' o hi y => by
    obtain ⟨p, k, w, h1, rfl, hp, rfl⟩ := y
    obtain ⟨x, h2, h3⟩ := l.ix h1
    refine ⟨.p (.tup [keyE k, x]), ?_, scp, .inr ⟨p, [kV k, w], hp, rfl, rfl, .inl ⟨_, rfl, .cons keyE_den (.cons (h3.mono o.ext) .nil)⟩⟩⟩
    unfold itmsE
    rw [List.getElem?_map, h2]
    rfl
/-- the dict that the i-th slot holds -/
def slD (i : Nat) (F : Fr) : Option (List (Key × D)) := match F[i]? with
  | some (.e (.p (.dic ks))) => some ks
  | _ => none
theorem slD_inv {i : Nat} {ks : List (Key × D)} (h : slD i F = some ks) : F[i]? = some (.e (.p (.dic ks))) := by
  unfold slD at h
  split at h
  · rename_i ks' hf
    cases h
    exact hf
  · cases h
def sForD (f : List (Key × D) → List E) (i : Nat) (mg : MG) (body : MS) : MS := fun F T => match slD i F with
  | some ks => forE mg body (f ks) F T
  | none => .bad
theorem forD_core {i : Nat} {f : List (Key × D) → List E} {J : Addr → Obj → List (Key × V) → It} {t : TG} {mg : MG} {ss : List Nat} {tb : TS} {body : MS} {wi : TI}
    (hw : ∀ (σ : St) (H : Hp) (R : It → Hp → Prop) (d : Addr) (od : Obj) (us : List (Key × V)), σ[i]? = some (some (.ref d)) → H d = some (.frz od (.dK us)) → R (J d od us) H → wi σ H R)
    (hJ : ∀ (g0 : Gs) (n : Nat) (d : Addr) (od : Obj) (ks : List (Key × D)) (us : List (Key × V)), g0.W d = some (.frz od (.dK us)) → DenK G K g0.W ks us → Good G K (J d od us) g0 n (f ks))
    (hg : TgOk G K t mg ss) (hb : SS G K W tb body) : SS G K W (fun D σ H => tLock (tFor wi t tb) D σ H ∨ tFor wi t tb D σ H) (sForD f i mg body) := by
  intro A T F σ g D I p
  unfold sForD at p
  cases q : slD i F with
  | none => rw [q] at p; exact p.elim
  | some ks =>
    rw [q] at p
    have hf := slD_inv q
    obtain ⟨_, v, h2, a, us, rfl, rd, l⟩ := I.slot i _ hf
    refine lock_core (u := .dK us) I rd trivial (fun g1 od D1 hd I1 l1 p1 => ?_) p
    refine hw σ g1.H _ a od us h2 (vw_le.fz a od _ hd) ?_
    exact for_loop hg hb I1 Le.refl (hJ g1 T.length a od ks us hd (l.mono l1.ext)) p1
end
section
variable {G : String → Addr} {X : Cx} {W : WX} {pos p apos cpos tpos : Pos} {tg e : Expr} {mg : MG} {ss : List Nat} {body : List Stmt} {mb : MS} {i : Nat}
theorem js_forK {x : Str} (hN : X.N[i]? = some x) (hv : Vis X.env.scope x) (hp : PassesOwn (model X.prog X.w) X.A X.env X.xe) (hc : X.calm = true) (hg : JG G X tg mg ss) (hb : JSs G X W body mb) (hd : (x == ("__debug__" : Str)) = false := by decide) (hcd : (x == ("__classdict__" : Str)) = false := by decide)
    (hs : ∀ y, foldedSetIterable (.Name x p) X.env y = pure y := by intro _; rfl) : JS G X W (.For tg (.Name x p) body [] pos) (sForD keysE i mg mb) := by
  obtain ⟨t, p2, s2⟩ := hg.ex
  obtain ⟨tb, p3, s3⟩ := hb.ex
  have pf := ps_for (pos := pos) hp hc (pi_keys (pe_var (pos := p) hN hv hd hcd)) p2 p3 hs
  exact ⟨_, PS.or (ps_lock pf) pf, forD_core (J := Itk) (fun σ H R d od us h1 h2 h3 => ⟨.ref d, h1, d, od, rfl, .inl ⟨us, h2, h3⟩⟩) (fun g0 n d od ks us h l => good_keys h l) s2 s3⟩
theorem js_forV {x : Str} (hN : X.N[i]? = some x) (hv : Vis X.env.scope x) (hp : PassesOwn (model X.prog X.w) X.A X.env X.xe) (hc : X.calm = true) (hg : JG G X tg mg ss) (hb : JSs G X W body mb) (hd : (x == ("__debug__" : Str)) = false := by decide) (hcd : (x == ("__classdict__" : Str)) = false := by decide)
    (hbase : attributeBase (.Name x p) "values" X.env (eval (.Name x p) X.env) = eval (.Name x p) X.env := by rfl) (hline : (apos.endLine == cpos.line) = true := by rfl)
    (hs : ∀ y, foldedSetIterable (.Call (.Attribute (.Name x p) "values" apos) [] [] cpos) X.env y = pure y := by intro _; rfl) : JS G X W (.For tg (.Call (.Attribute (.Name x p) "values" apos) [] [] cpos) body [] pos) (sForD valsE i mg mb) := by
  obtain ⟨t, p2, s2⟩ := hg.ex
  obtain ⟨tb, p3, s3⟩ := hb.ex
  have pf := ps_for (pos := pos) hp hc (pi_values (pe_var (pos := p) hN hv hd hcd) hbase hline) p2 p3 hs
  exact ⟨_, PS.or (ps_lock pf) pf, forD_core (J := Itd) (fun σ H R d od us h1 h2 h3 => ⟨.ref d, h1, d, od, us, rfl, h2, h3⟩) (fun g0 n d od ks us h l => good_vals h l) s2 s3⟩
theorem js_forI {x : Str} {elts : List Expr} {kk : Nat} (hN : X.N[i]? = some x) (hv : Vis X.env.scope x) (hp : PassesOwn (model X.prog X.w) X.A X.env X.xe) (hc : X.calm = true) (hg : JG G X (.Tuple elts kk tpos) mg ss) (hb : JSs G X W body mb) (hd : (x == ("__debug__" : Str)) = false := by decide) (hcd : (x == ("__classdict__" : Str)) = false := by decide)
    (hbase : attributeBase (.Name x p) "items" X.env (eval (.Name x p) X.env) = eval (.Name x p) X.env := by rfl) (hline : (apos.endLine == cpos.line) = true := by rfl)
    (hs : ∀ y, foldedSetIterable (.Call (.Attribute (.Name x p) "items" apos) [] [] cpos) X.env y = pure y := by intro _; rfl) : JS G X W (.For (.Tuple elts kk tpos) (.Call (.Attribute (.Name x p) "items" apos) [] [] cpos) body [] pos) (sForD itmsE i mg mb) := by
  obtain ⟨t, p2, s2⟩ := hg.ex
  obtain ⟨tb, p3, s3⟩ := hb.ex
  have pf := ps_for (pos := pos) hp hc (pi_items (pe_var (pos := p) hN hv hd hcd) hbase hline) p2 p3 hs
  exact ⟨_, PS.or (ps_lock pf) pf, forD_core (J := Iti) (fun σ H R d od us h1 h2 h3 => ⟨.ref d, h1, d, od, us, rfl, h2, h3⟩) (fun g0 n d od ks us h l => good_itms h l) s2 s3⟩
end

/-! ### list(x), tuple(x), dict(x) -/
def seqE : Vw → Option (List E)
  | .c (.lst xs) => some (xs.map .p)
  | .c (.lse xs) => some xs
  | .r xs => some (xs.map .p)
  | .t xs => some xs
  | .d (.tup xs) => some (xs.map .p)
  | .d (.rot xs) => some (xs.map .p)
  | _ => none
section
variable {G : String → Addr} {K : PySem.W.Frag} {A : Act} {T T' : Sto} {F F' : Fr} {σ : St} {g g' g0 : Gs} {W : WX} {H H' : Hp} {φ : Nat → Addr}
theorem seqE_den {w : Vw} {v : V} {es : List E} {n : Nat} (e : seqE w = some es) (h : VwDen G K g w v) (s : vsc n w = true) : E.scL n es = true ∧ ∃ a vs, v = .ref a ∧ (SqL K g.H a vs ∨ SqT K g.H a vs) ∧ EDenL G K g.W g.φ es vs := by
  cases w with
  | d x =>
    cases x with
    | tup xs => cases e; obtain ⟨a, vs, rfl, q, l⟩ := h; exact ⟨scL_p, a, vs, rfl, .inr (.inl (.inl (vw_le.fm a (.tup vs) trivial q))), .ofL l⟩
    | rot xs => cases e; obtain ⟨a, vs, rfl, q, l⟩ := h; exact ⟨scL_p, a, vs, rfl, .inr (vw_le.t q), .ofL l⟩
    | _ => cases e
  | r xs => cases e; obtain ⟨a, vs, rfl, q, l⟩ := h; exact ⟨scL_p, a, vs, rfl, .inl q, .ofL l⟩
  | t xs => cases e; obtain ⟨a, vs, rfl, q, l⟩ := h; exact ⟨s, a, vs, rfl, .inr (.inl (.inl q)), l⟩
  | c c =>
    obtain ⟨a, rfl, h⟩ := h
    cases c with
    | lst xs => cases e; obtain ⟨vs, q, l⟩ := h; exact ⟨scL_p, a, vs, rfl, .inl (.inl (.inl q)), .ofL l⟩
    | lse xs => cases e; obtain ⟨vs, q, l⟩ := h; exact ⟨s, a, vs, rfl, .inl (.inl (.inl q)), l⟩
    | _ => cases e
def dicE : Vw → Option (List Key)
  | .c (.dic ks) => some (ks.map (·.1))
  | .c (.dce ks) => some (ks.map (·.1))
  | _ => none
theorem DenK.keys : ∀ {ks : List (Key × D)} {us : List (Key × V)}, DenK G K H ks us → us.map (·.1) = ks.map (·.1)
  | [], us, h => by
    obtain rfl : us = [] := h
    rfl
  | (j, x) :: r, us, ⟨v, w, e, h1, h2⟩ => by rw [e, List.map_cons, List.map_cons, DenK.keys h2]
theorem EDenK.keys : ∀ {ks : List (Key × E)} {us : List (Key × V)}, EDenK G K H φ ks us → us.map (·.1) = ks.map (·.1)
  | [], us, h => by
    obtain rfl : us = [] := h
    rfl
  | (j, x) :: r, us, ⟨v, w, e, h1, h2⟩ => by rw [e, List.map_cons, List.map_cons, EDenK.keys h2]
theorem denKeys : ∀ {ks : List Key}, DenL G K H (ks.map keyE) (ks.map kV)
  | [] => rfl
  | k :: r => ⟨kV k, r.map kV, rfl, keyE_den, denKeys⟩
theorem dicE_den {w : Vw} {v : V} {ks : List Key} (e : dicE w = some ks) (h : VwDen G K g w v) : ∃ a us, v = .ref a ∧ Rd g.H a (.dK us) ∧ us.map (·.1) = ks := by
  cases w with
  | d x => cases e
  | r xs => cases e
  | t xs => cases e
  | c c =>
    obtain ⟨a, rfl, h⟩ := h
    cases c with
    | dic ks => cases e; obtain ⟨vs, q, l⟩ := h; exact ⟨a, vs, rfl, q, l.keys⟩
    | dce ks => cases e; obtain ⟨vs, q, l⟩ := h; exact ⟨a, vs, rfl, q, l.keys⟩
    | _ => cases e
def listF : Fr → Sto → OV → Option RV := fun F T x => match look F T x with
  | some w => match seqE w with
    | some es => some (.fr (lstV es))
    | none => match dicE w with
      | some ks => some (.fr (.lst (ks.map keyE)))
      | none => none
  | none => none
def rListX (K : PySem.W.Frag) : List V → Hp → VK → Prop := fun xs H Q => (∃ p ys, xs = [.ref p] ∧ (SqL K H p ys ∨ SqT K H p ys) ∧ ∀ l, H l = none → Q (.ref l) (upd H l (.lst ys))) ∨
  ∃ (a : Addr) (kvs : List (Key × V)), xs = [.ref a] ∧ Rd H a (.dK kvs) ∧ ∀ p, H p = none → Q (.ref p) (upd H p (.lst (kvs.map fun kv => kV kv.1)))
theorem cas_list : CaS G K (rListX K) (f1 listF) := by
  refine cas1 fun A T F σ g x v z I d e Q q => ?_
  unfold listF at e
  split at e
  · rename_i w hw
    have hv := look_den I d hw
    have hs := look_sc I d hw
    split at e
    · rename_i es he
      cases e
      obtain ⟨s1, a, vs, rfl, sq, l⟩ := seqE_den he hv hs
      refine .inl ⟨a, vs, rfl, sq, fun p hp => ?_⟩
      obtain ⟨s3, c3⟩ := lstV_den l s1
      obtain ⟨I2, l2, R⟩ := I.newRoot (o := .lst vs) hp s3 c3
      exact q ⟨plus g.own p, g.φ, upd g.H p (.lst vs)⟩ (.ref p) I2 l2 ⟨p, rfl, R⟩
    · split at e
      · rename_i ks he
        cases e
        obtain ⟨a, us, rfl, rd, ek⟩ := dicE_den he hv
        refine .inr ⟨a, us, rfl, rd, fun p hp => ?_⟩
        have e2 : (us.map fun kv => kV kv.1) = ks.map kV := by rw [← ek, List.map_map]; rfl
        rw [e2]
        obtain ⟨I2, l2, R⟩ := I.newRoot (c := .lst (ks.map keyE)) (o := .lst (ks.map kV)) hp rfl ⟨_, rfl, denKeys⟩
        exact q ⟨plus g.own p, g.φ, upd g.H p (.lst (ks.map kV))⟩ (.ref p) I2 l2 ⟨p, rfl, R⟩
      · cases e
  · cases e
def copyD : Vw → Option C
  | .c (.dic ks) => some (.dic ks)
  | .c (.dce ks) => some (.dce ks)
  | _ => none
def dictF : Fr → Sto → OV → Option RV := fun F T x => ((look F T x).bind copyD).map .fr
theorem cas_dict : CaS G K (fun xs H Q => ∃ (a : Addr) (kvs : List (Key × V)), xs = [.ref a] ∧ Rd H a (.dK kvs) ∧ ∀ p, H p = none → Q (.ref p) (upd H p (.dK kvs))) (f1 dictF) := by
  refine cas1 fun A T F σ g x v z I d e Q q => ?_
  obtain ⟨c, e1, rfl⟩ := map_inv e
  cases hw : look F T x with
  | none => rw [hw] at e1; cases e1
  | some w =>
    rw [hw] at e1
    have hv := look_den I d hw
    have hs := look_sc I d hw
    have e2 : copyD w = some c := e1
    cases w with
    | d x => cases e2
    | r xs => cases e2
    | t xs => cases e2
    | c k =>
      obtain ⟨a, rfl, h⟩ := hv
      cases k with
      | dic ks =>
        cases e2
        obtain ⟨us, rd, l⟩ := h
        refine ⟨a, us, rfl, rd, fun p hp => ?_⟩
        obtain ⟨I2, l2, R⟩ := I.newRoot (c := .dic ks) (o := .dK us) hp rfl ⟨us, rfl, l⟩
        exact q ⟨plus g.own p, g.φ, upd g.H p (.dK us)⟩ (.ref p) I2 l2 ⟨p, rfl, R⟩
      | dce ks =>
        cases e2
        obtain ⟨us, rd, l⟩ := h
        refine ⟨a, us, rfl, rd, fun p hp => ?_⟩
        obtain ⟨I2, l2, R⟩ := I.newRoot (c := .dce ks) (o := .dK us) hp hs ⟨us, rfl, l⟩
        exact q ⟨plus g.own p, g.φ, upd g.H p (.dK us)⟩ (.ref p) I2 l2 ⟨p, rfl, R⟩
      | _ => cases e2
def seqLE : Vw → Option (List E)
  | .c (.lst xs) => some (xs.map .p)
  | .c (.lse xs) => some xs
  | .r xs => some (xs.map .p)
  | _ => none
theorem seqLE_den {w : Vw} {v : V} {es : List E} {n : Nat} (e : seqLE w = some es) (h : VwDen G K g w v) (s : vsc n w = true) : E.scL n es = true ∧ ∃ a vs, v = .ref a ∧ SqL K g.H a vs ∧ EDenL G K g.W g.φ es vs := by
  cases w with
  | d x => cases e
  | r xs => cases e; obtain ⟨a, vs, rfl, q, l⟩ := h; exact ⟨scL_p, a, vs, rfl, q, .ofL l⟩
  | t xs => cases e
  | c c =>
    obtain ⟨a, rfl, h⟩ := h
    cases c with
    | lst xs => cases e; obtain ⟨vs, q, l⟩ := h; exact ⟨scL_p, a, vs, rfl, .inl (.inl q), .ofL l⟩
    | lse xs => cases e; obtain ⟨vs, q, l⟩ := h; exact ⟨s, a, vs, rfl, .inl (.inl q), l⟩
    | _ => cases e
def isTup : Vw → Bool
  | .t _ => true
  | .d (.tup _) => true
  | .d (.rot _) => true
  | _ => false
def tupF : Fr → Sto → OV → Option RV := fun F T x => match look F T x with
  | some w => if isTup w = true then some (.o x) else (seqLE w).map fun es => .o (.e (tupV es))
  | none => none
theorem cas_tup : CaS G K (fun xs H Q => ∃ p ys, xs = [.ref p] ∧ ((SqL K H p ys ∧ ∀ l, H l = none → Q (.ref l) (upd H l (.tup ys))) ∨ (SqT K H p ys ∧ Q (.ref p) H))) (f1 tupF) := by
  refine cas1 fun A T F σ g x v z I d e Q q => ?_
  unfold tupF at e
  split at e
  · rename_i w hw
    have hv := look_den I d hw
    have hs := look_sc I d hw
    split at e
    · rename_i ht
      cases e
      cases w with
      | t es =>
        obtain ⟨a, vs, rfl, s, l⟩ := hv
        exact ⟨a, vs, rfl, .inr ⟨.inl (.inl s), q g _ I Le.refl d⟩⟩
      | d x =>
        cases x with
        | tup es =>
          obtain ⟨a, vs, rfl, s, l⟩ := hv
          exact ⟨a, vs, rfl, .inr ⟨.inl (.inl (vw_le.fm a (.tup vs) trivial s)), q g _ I Le.refl d⟩⟩
        | rot es =>
          obtain ⟨a, vs, rfl, s, l⟩ := hv
          exact ⟨a, vs, rfl, .inr ⟨vw_le.t s, q g _ I Le.refl d⟩⟩
        | _ => cases ht
      | _ => cases ht
    · obtain ⟨es, he, rfl⟩ := map_inv e
      obtain ⟨s1, a, vs, rfl, sl, l⟩ := seqLE_den he hv hs
      refine ⟨a, vs, rfl, .inl ⟨sl, fun p hp => ?_⟩⟩
      obtain ⟨I2, l2, s3, d3⟩ := I.newE hp l s1
      exact q ⟨g.own, g.φ, upd g.H p (.tup vs)⟩ (.ref p) I2 l2 ⟨s3, d3⟩
  · cases e
/-! ### sum, min, max, any, all of lists; min, max of two -/
def intsD : List E → Option (List Int)
  | [] => some []
  | .p (.int i) :: r => (intsD r).map (i :: ·)
  | _ => none
theorem intsD_den : ∀ {es : List E} {ns : List Int} {vs : List V}, intsD es = some ns → EDenL G K H φ es vs → vs = ns.map V.int
  | [], ns, vs, h, d => by cases h; exact d
  | .p x :: r, ns, vs, h, ⟨v, w, e, h1, h2⟩ => by
    cases x with
    | int i =>
      obtain ⟨l, e1, rfl⟩ := map_inv (show (intsD r).map (i :: ·) = some ns from h)
      rw [e, intsD_den e1 h2, show v = .int i from h1]
      rfl
    | _ => cases h
  | .loc n :: r, ns, vs, h, _ => by cases h
  | .tp xs :: r, ns, vs, h, _ => by cases h
def blsD : List E → Option (List Bool)
  | [] => some []
  | .p (.bl i) :: r => (blsD r).map (i :: ·)
  | _ => none
theorem blsD_den : ∀ {es : List E} {ns : List Bool} {vs : List V}, blsD es = some ns → EDenL G K H φ es vs → vs = ns.map V.bl
  | [], ns, vs, h, d => by cases h; exact d
  | .p x :: r, ns, vs, h, ⟨v, w, e, h1, h2⟩ => by
    cases x with
    | bl i =>
      obtain ⟨l, e1, rfl⟩ := map_inv (show (blsD r).map (i :: ·) = some ns from h)
      rw [e, blsD_den e1 h2, show v = .bl i from h1]
      rfl
    | _ => cases h
  | .loc n :: r, ns, vs, h, _ => by cases h
  | .tp xs :: r, ns, vs, h, _ => by cases h
def ints1 (F : Fr) (T : Sto) (x : OV) : Option (List Int) := ((look F T x).bind seqLE).bind intsD
theorem ints1_den (I : Iv G K A T F σ g) {x : OV} {v : V} {ns : List Int} (d : ODen G K T σ g x v) (e : ints1 F T x = some ns) : ∃ a, v = .ref a ∧ SqL K g.H a (ns.map V.int) := by
  unfold ints1 at e
  cases hw : look F T x with
  | none => rw [hw] at e; cases e
  | some w =>
    rw [hw] at e
    cases he : seqLE w with
    | none =>
      rw [show (some w).bind seqLE = none from he] at e
      cases e
    | some es =>
      rw [show (some w).bind seqLE = some es from he] at e
      obtain ⟨s1, a, vs, rfl, sl, l⟩ := seqLE_den he (look_den I d hw) (look_sc I d hw)
      rw [intsD_den (show intsD es = some ns from e) l] at sl
      exact ⟨a, rfl, sl⟩
def bls1 (F : Fr) (T : Sto) (x : OV) : Option (List Bool) := ((look F T x).bind seqLE).bind blsD
theorem bls1_den (I : Iv G K A T F σ g) {x : OV} {v : V} {ns : List Bool} (d : ODen G K T σ g x v) (e : bls1 F T x = some ns) : ∃ a, v = .ref a ∧ SqL K g.H a (ns.map V.bl) := by
  unfold bls1 at e
  cases hw : look F T x with
  | none => rw [hw] at e; cases e
  | some w =>
    rw [hw] at e
    cases he : seqLE w with
    | none =>
      rw [show (some w).bind seqLE = none from he] at e
      cases e
    | some es =>
      rw [show (some w).bind seqLE = some es from he] at e
      obtain ⟨s1, a, vs, rfl, sl, l⟩ := seqLE_den he (look_den I d hw) (look_sc I d hw)
      rw [blsD_den (show blsD es = some ns from e) l] at sl
      exact ⟨a, rfl, sl⟩
def sumF : Fr → Sto → OV → Option RV := fun F T x => (ints1 F T x).map fun ns => .o (.e (.p (.int ns.sum)))
def maxI : Int → List Int → Int
  | m, [] => m
  | m, x :: r => maxI (if x > m then x else m) r
def minI : Int → List Int → Int
  | m, [] => m
  | m, x :: r => minI (if x < m then x else m) r
def maxF : Fr → Sto → OV → Option RV := fun F T x => match ints1 F T x with
  | some (n :: ns) => some (.o (.e (.p (.int (maxI n ns)))))
  | _ => none
def minF : Fr → Sto → OV → Option RV := fun F T x => match ints1 F T x with
  | some (n :: ns) => some (.o (.e (.p (.int (minI n ns)))))
  | _ => none
def anyF : Fr → Sto → OV → Option RV := fun F T x => (bls1 F T x).map fun ns => .o (.e (.p (.bl (ns.any id))))
def allF : Fr → Sto → OV → Option RV := fun F T x => (bls1 F T x).map fun ns => .o (.e (.p (.bl (ns.all id))))
theorem maxI_max : ∀ (ns : List Int) (m : Int), maxI m ns ∈ m :: ns ∧ ∀ y ∈ m :: ns, y ≤ maxI m ns
  | [], m => ⟨List.mem_cons_self, fun y hy => by
    rcases List.mem_cons.mp hy with rfl | h
    · exact Int.le_refl _
    · cases h⟩
  | x :: r, m => by
    have ih := maxI_max r (if x > m then x else m)
    show maxI (if x > m then x else m) r ∈ _ ∧ _
    obtain ⟨h1, h2⟩ := ih
    by_cases c : x > m
    · rw [if_pos c] at h1 h2
      show maxI (if x > m then x else m) r ∈ _ ∧ ∀ y ∈ m :: x :: r, y ≤ maxI (if x > m then x else m) r
      rw [if_pos c]
      have hx := h2 x List.mem_cons_self
      refine ⟨List.mem_cons_of_mem _ h1, fun y hy => ?_⟩
      rcases List.mem_cons.mp hy with rfl | h
      · omega
      · exact h2 y h
    · rw [if_neg c] at h1 h2
      show maxI (if x > m then x else m) r ∈ _ ∧ ∀ y ∈ m :: x :: r, y ≤ maxI (if x > m then x else m) r
      rw [if_neg c]
      have hx := h2 m List.mem_cons_self
      refine ⟨?_, fun y hy => ?_⟩
      · rcases List.mem_cons.mp h1 with e | h
        · rw [e]; exact List.mem_cons_self
        · exact List.mem_cons_of_mem _ (List.mem_cons_of_mem _ h)
      · rcases List.mem_cons.mp hy with rfl | h
        · exact hx
        · rcases List.mem_cons.mp h with rfl | h
          · omega
          · exact h2 y (List.mem_cons_of_mem _ h)
theorem minI_min : ∀ (ns : List Int) (m : Int), minI m ns ∈ m :: ns ∧ ∀ y ∈ m :: ns, minI m ns ≤ y
  | [], m => ⟨List.mem_cons_self, fun y hy => by
    rcases List.mem_cons.mp hy with rfl | h
    · exact Int.le_refl _
    · cases h⟩
  | x :: r, m => by
    have ih := minI_min r (if x < m then x else m)
    obtain ⟨h1, h2⟩ := ih
    by_cases c : x < m
    · rw [if_pos c] at h1 h2
      show minI (if x < m then x else m) r ∈ _ ∧ ∀ y ∈ m :: x :: r, minI (if x < m then x else m) r ≤ y
      rw [if_pos c]
      have hx := h2 x List.mem_cons_self
      refine ⟨List.mem_cons_of_mem _ h1, fun y hy => ?_⟩
      rcases List.mem_cons.mp hy with rfl | h
      · omega
      · exact h2 y h
    · rw [if_neg c] at h1 h2
      show minI (if x < m then x else m) r ∈ _ ∧ ∀ y ∈ m :: x :: r, minI (if x < m then x else m) r ≤ y
      rw [if_neg c]
      have hx := h2 m List.mem_cons_self
      refine ⟨?_, fun y hy => ?_⟩
      · rcases List.mem_cons.mp h1 with e | h
        · rw [e]; exact List.mem_cons_self
        · exact List.mem_cons_of_mem _ (List.mem_cons_of_mem _ h)
      · rcases List.mem_cons.mp hy with rfl | h
        · exact hx
        · rcases List.mem_cons.mp h with rfl | h
          · omega
          · exact h2 y (List.mem_cons_of_mem _ h)
theorem cas_sum : CaS G K (rSum K) (f1 sumF) := by
  refine cas1 fun A T F σ g x v z I d e Q q => ?_
  obtain ⟨ns, e1, rfl⟩ := map_inv e
  obtain ⟨a, rfl, sl⟩ := ints1_den I d e1
  exact ⟨a, ns, rfl, sl, q g _ I Le.refl ⟨scp, rfl⟩⟩
theorem cas_any : CaS G K (rAny K) (f1 anyF) := by
  refine cas1 fun A T F σ g x v z I d e Q q => ?_
  obtain ⟨ns, e1, rfl⟩ := map_inv e
  obtain ⟨a, rfl, sl⟩ := bls1_den I d e1
  exact ⟨a, ns, rfl, sl, q g _ I Le.refl ⟨scp, rfl⟩⟩
theorem cas_all : CaS G K (rAll K) (f1 allF) := by
  refine cas1 fun A T F σ g x v z I d e Q q => ?_
  obtain ⟨ns, e1, rfl⟩ := map_inv e
  obtain ⟨a, rfl, sl⟩ := bls1_den I d e1
  exact ⟨a, ns, rfl, sl, q g _ I Le.refl ⟨scp, rfl⟩⟩
theorem cas_max : CaS G K (rMax K) (f1 maxF) := by
  refine cas1 fun A T F σ g x v z I d e Q q => ?_
  unfold maxF at e
  split at e
  · rename_i n ns hn
    cases e
    obtain ⟨a, rfl, sl⟩ := ints1_den I d hn
    refine ⟨a, n :: ns, rfl, sl, by simp, fun m hm h => ?_⟩
    obtain ⟨h1, h2⟩ := maxI_max ns n
    have : m = maxI n ns := by
      have a1 := h _ h1
      have a2 := h2 m hm
      omega
    rw [this]
    exact q g _ I Le.refl ⟨scp, rfl⟩
  · cases e
theorem cas_min : CaS G K (rMin K) (f1 minF) := by
  refine cas1 fun A T F σ g x v z I d e Q q => ?_
  unfold minF at e
  split at e
  · rename_i n ns hn
    cases e
    obtain ⟨a, rfl, sl⟩ := ints1_den I d hn
    refine ⟨a, n :: ns, rfl, sl, by simp, fun m hm h => ?_⟩
    obtain ⟨h1, h2⟩ := minI_min ns n
    have : m = minI n ns := by
      have a1 := h _ h1
      have a2 := h2 m hm
      omega
    rw [this]
    exact q g _ I Le.refl ⟨scp, rfl⟩
  · cases e
def f2i (f : Int → Int → Int) : FL := fun _ _ xs => match xs with
  | [.e (.p (.int i)), .e (.p (.int j))] => some (.o (.e (.p (.int (f i j)))))
  | _ => none
theorem cas_2i {f : Int → Int → Int} : CaS G K (fun xs H Q => ∃ i j, xs = [.int i, .int j] ∧ Q (.int (f i j)) H) (f2i f) := by
  intro A T F σ g xs vs z I hx e Q q
  unfold f2i at e
  split at e
  · cases e
    obtain ⟨v, w, rfl, d, v2, w2, rfl, d2, rfl⟩ := hx
    obtain ⟨_, rfl⟩ := d
    obtain ⟨_, rfl⟩ := d2
    exact ⟨_, _, rfl, q g _ I Le.refl ⟨scp, rfl⟩⟩
  · cases e
def minFF : FL := orL (f2i fun i j => if j < i then j else i) (f1 minF)
def maxFF : FL := orL (f2i fun i j => if j > i then j else i) (f1 maxF)
end
section
variable {G : String → Addr} {X : Cx} {W : WX} {pos p : Pos} {e : Expr} {es : List Expr} {ma : MA}
theorem je_min (hc : X.calm = true) (hg : Gl X "min") (hm : X.mg "min" = none) (ha : JA G X W (e :: es) ma) (he : starEach (e :: es) X.env = (false, eval e X.env) :: starEach es X.env := by rfl) (hpl : (backTo pos (starEach es X.env)).any (·.1) = false := by rfl) : JE G X W (.Call (.Name "min" p) (e :: es) [] pos) (cCall minFF ma) :=
  je_callB (CallR.or (call_min2 hc) (cr_min hc)) (CaS.or cas_2i cas_min) hg hm (by decide +kernel) ha (by decide) (by decide) he hpl
theorem je_max (hc : X.calm = true) (hg : Gl X "max") (hm : X.mg "max" = none) (ha : JA G X W (e :: es) ma) (he : starEach (e :: es) X.env = (false, eval e X.env) :: starEach es X.env := by rfl) (hpl : (backTo pos (starEach es X.env)).any (·.1) = false := by rfl) : JE G X W (.Call (.Name "max" p) (e :: es) [] pos) (cCall maxFF ma) :=
  je_callB (CallR.or (call_max2 hc) (cr_max hc)) (CaS.or cas_2i cas_max) hg hm (by decide +kernel) ha (by decide) (by decide) he hpl
theorem je_sum (hc : X.calm = true) (hg : Gl X "sum") (hm : X.mg "sum" = none) (ha : JA G X W (e :: es) ma) (he : starEach (e :: es) X.env = (false, eval e X.env) :: starEach es X.env := by rfl) (hpl : (backTo pos (starEach es X.env)).any (·.1) = false := by rfl) : JE G X W (.Call (.Name "sum" p) (e :: es) [] pos) (cCall (f1 sumF) ma) :=
  je_callB (cr_sum hc) cas_sum hg hm (by decide +kernel) ha (by decide) (by decide) he hpl
theorem je_any (hc : X.calm = true) (hg : Gl X "any") (hm : X.mg "any" = none) (ha : JA G X W (e :: es) ma) (he : starEach (e :: es) X.env = (false, eval e X.env) :: starEach es X.env := by rfl) (hpl : (backTo pos (starEach es X.env)).any (·.1) = false := by rfl) : JE G X W (.Call (.Name "any" p) (e :: es) [] pos) (cCall (f1 anyF) ma) :=
  je_callB (cr_any hc) cas_any hg hm (by decide +kernel) ha (by decide) (by decide) he hpl
theorem je_all (hc : X.calm = true) (hg : Gl X "all") (hm : X.mg "all" = none) (ha : JA G X W (e :: es) ma) (he : starEach (e :: es) X.env = (false, eval e X.env) :: starEach es X.env := by rfl) (hpl : (backTo pos (starEach es X.env)).any (·.1) = false := by rfl) : JE G X W (.Call (.Name "all" p) (e :: es) [] pos) (cCall (f1 allF) ma) :=
  je_callB (cr_all hc) cas_all hg hm (by decide +kernel) ha (by decide) (by decide) he hpl
theorem je_list (hc : X.calm = true) (hg : Gl X "list") (hm : X.mg "list" = none) (ha : JA G X W (e :: es) ma) (he : starEach (e :: es) X.env = (false, eval e X.env) :: starEach es X.env := by rfl) (hpl : (backTo pos (starEach es X.env)).any (·.1) = false := by rfl) : JE G X W (.Call (.Name "list" p) (e :: es) [] pos) (cCall (f1 listF) ma) :=
  je_callTy (CallR.or call_list_of (call_listD hc)) cas_list hg hm (by decide +kernel) ha (by decide) (by decide) he hpl
theorem je_dict (hg : Gl X "dict") (hm : X.mg "dict" = none) (ha : JA G X W (e :: es) ma) (he : starEach (e :: es) X.env = (false, eval e X.env) :: starEach es X.env := by rfl) (hpl : (backTo pos (starEach es X.env)).any (·.1) = false := by rfl) : JE G X W (.Call (.Name "dict" p) (e :: es) [] pos) (cCall (f1 dictF) ma) :=
  je_callTy call_dictD cas_dict hg hm (by decide +kernel) ha (by decide) (by decide) he hpl
theorem je_tuple (hg : Gl X "tuple") (hm : X.mg "tuple" = none) (ha : JA G X W (e :: es) ma) (he : starEach (e :: es) X.env = (false, eval e X.env) :: starEach es X.env := by rfl) (hpl : (backTo pos (starEach es X.env)).any (·.1) = false := by rfl) : JE G X W (.Call (.Name "tuple" p) (e :: es) [] pos) (cCall (f1 tupF) ma) :=
  je_callTy call_tuple_of cas_tup hg hm (by decide +kernel) ha (by decide) (by decide) he hpl
end
end Sim

set_option Elab.async false
set_option linter.all false
set_option maxRecDepth 100000
set_option maxHeartbeats 4000000
namespace Sim
open PySem L2
variable [EXC]
section
variable {G : String → Addr} {K : PySem.W.Frag} {A : Act} {T T' : Sto} {F F' : Fr} {σ : St} {g g' g0 : Gs} {W : WX} {H H' : Hp} {φ : Nat → Addr}
/-! ### -x -/
def cNeg (m : MO) : MO := fun F T => (m F T).bind fun x F T => match x with
  | .e (.p (.int i)) => .ok (.e (.p (.int (-i)))) F T
  | _ => .bad
theorem neg_core {te : TE} {m : MO} (h : SO G K W te m) : SO G K W (tUn (rU fun i => .int (-i)) te) (cNeg m) := by
  intro A T F σ g Q I p
  refine h A T F σ g _ I ((post_bind p).imp (fun x F1 T1 p1 g1 v I1 l1 d1 => ?_) fun _ _ _ q => q)
  have p1' : Rs.Post (match x with | .e (.p (.int i)) => Rs.ok (OV.e (.p (.int (-i)))) F1 T1 | _ => .bad) _ _ := p1
  split at p1'
  · rename_i i
    obtain ⟨_, rfl⟩ := d1
    exact ⟨i, rfl, p1' g1 _ I1 l1 ⟨scp, rfl⟩⟩
  · exact p1'.elim
/-! ### slices -/
abbrev MPt := Fr → Sto → Rs (Option Int)
def SPt (G : String → Addr) (K : PySem.W.Frag) (W : WX) (tp : TO) (m : MPt) : Prop := ∀ A T F σ g (Q : Option Int → Hp → Prop), Iv G K A T F σ g → (m F T).Post (fun r F' T' => ∀ g', Iv G K A T' F' σ g' → Le T T' g g' → Q r g'.H) (Wish G K W A T σ g) → tp σ g.H Q
def pNo : MPt := fun F T => .ok none F T
def pSm (m : MO) : MPt := fun F T => (m F T).bind fun x F T => match x with
  | .e (.p (.int i)) => .ok (some i) F T
  | _ => .bad
theorem pno_core : SPt G K W tNoPart pNo := fun A T F σ g Q I p => p g I Le.refl
theorem psm_core {te : TE} {m : MO} (h : SO G K W te m) : SPt G K W (tPart te) (pSm m) := by
  intro A T F σ g Q I p
  refine h A T F σ g _ I ((post_bind p).imp (fun x F1 T1 p1 g1 v I1 l1 d1 => ?_) fun _ _ _ q => q)
  have p1' : Rs.Post (match x with | .e (.p (.int i)) => Rs.ok (some i) F1 T1 | _ => .bad) _ _ := p1
  split at p1'
  · rename_i i
    obtain ⟨_, rfl⟩ := d1
    exact ⟨i, rfl, p1' g1 I1 l1⟩
  · exact p1'.elim
def cutL {α : Type} (xs : List α) (lo hi : Option Int) : List α := (xs.drop (HT.sIx xs.length 0 lo)).take (HT.sIx xs.length xs.length hi - HT.sIx xs.length 0 lo)
def whole (n : Nat) (lo hi : Option Int) : Prop := HT.sIx n 0 lo = 0 ∧ HT.sIx n n hi = n
instance {n : Nat} {lo hi : Option Int} : Decidable (whole n lo hi) := inferInstanceAs (Decidable (_ ∧ _))
theorem EDenL.drop : ∀ {xs : List E} {vs : List V} (n : Nat), EDenL G K H φ xs vs → EDenL G K H φ (xs.drop n) (vs.drop n)
  | xs, vs, 0, h => h
  | [], vs, n + 1, h => by
    obtain rfl : vs = [] := h
    exact rfl
  | x :: r, vs, n + 1, ⟨v, w, e, h1, h2⟩ => by
    rw [e]
    exact EDenL.drop n h2
theorem EDenL.take : ∀ {xs : List E} {vs : List V} (n : Nat), EDenL G K H φ xs vs → EDenL G K H φ (xs.take n) (vs.take n)
  | xs, vs, 0, h => by rw [List.take_zero, List.take_zero]; exact rfl
  | [], vs, n + 1, h => by
    obtain rfl : vs = [] := h
    exact rfl
  | x :: r, vs, n + 1, ⟨v, w, e, h1, h2⟩ => by
    rw [e]
    exact ⟨v, w.take n, rfl, h1, EDenL.take n h2⟩
theorem scL_drop {n : Nat} : ∀ {xs : List E} (k : Nat), E.scL n xs = true → E.scL n (xs.drop k) = true
  | xs, 0, h => h
  | [], k + 1, h => h
  | x :: r, k + 1, h => by
    rw [E.scL] at h
    exact scL_drop k (Bool.and_eq_true_iff.mp h).2
theorem scL_take {n : Nat} : ∀ {xs : List E} (k : Nat), E.scL n xs = true → E.scL n (xs.take k) = true
  | xs, 0, h => by rw [List.take_zero, E.scL]
  | [], k + 1, h => h
  | x :: r, k + 1, h => by
    rw [E.scL] at h
    obtain ⟨h1, h2⟩ := Bool.and_eq_true_iff.mp h
    show E.scL n (x :: r.take k) = true
    rw [E.scL, h1, scL_take k h2]
    rfl
theorem EDenL.cut {es : List E} {vs : List V} (lo hi : Option Int) (h : EDenL G K H φ es vs) : EDenL G K H φ (cutL es lo hi) (cutV vs lo hi) := by
  unfold cutL cutV
  rw [h.length]
  exact (h.drop _).take _
def sltE : Vw → Option (List E)
  | .t xs => some xs
  | .d (.tup xs) => some (xs.map .p)
  | .d (.rot xs) => some (xs.map .p)
  | _ => none
theorem sltE_den {w : Vw} {v : V} {es : List E} {n : Nat} (e : sltE w = some es) (h : VwDen G K g w v) (s : vsc n w = true) : E.scL n es = true ∧ ∃ a vs, v = .ref a ∧ SqT K g.H a vs ∧ EDenL G K g.W g.φ es vs := by
  cases w with
  | d x =>
    cases x with
    | tup xs => cases e; obtain ⟨a, vs, rfl, q, l⟩ := h; exact ⟨scL_p, a, vs, rfl, .inl (.inl (vw_le.fm a (.tup vs) trivial q)), .ofL l⟩
    | rot xs => cases e; obtain ⟨a, vs, rfl, q, l⟩ := h; exact ⟨scL_p, a, vs, rfl, vw_le.t q, .ofL l⟩
    | _ => cases e
  | r xs => cases e
  | t xs => cases e; obtain ⟨a, vs, rfl, q, l⟩ := h; exact ⟨s, a, vs, rfl, .inl (.inl q), l⟩
  | c c => cases e
def slF (F : Fr) (T : Sto) (x : OV) (lo hi : Option Int) : Option RV := match look F T x with
  | some w => match seqLE w with
    | some es => some (.fr (lstV (cutL es lo hi)))
    | none => match sltE w with
      | some es => if whole es.length lo hi then some (.o x) else some (.o (.e (tupV (cutL es lo hi))))
      | none => match w with
        | .d (.str s) => if s.length ≤ LINE then some (.o (.e (.p (.str (cutS s lo hi))))) else none
        | _ => none
  | none => none
def rSlX (K : PySem.W.Frag) : V → Option Int → Option Int → Hp → VK → Prop := fun x lo hi H Q => (rSlL K x lo hi H Q ∨ rSlA K x lo hi H Q) ∨ rSlS x lo hi H Q
theorem sl_all {X : Cx} : SlR X (rSlX X.K) := (sl_list.or sl_tupA).or sl_str
def cSl (mo : MO) (ml mh : MPt) : ME := fun F T => (mo F T).bind fun x F T => (ml F T).bind fun lo F T => (mh F T).bind fun hi F T => match slF F T x lo hi with
  | some z => .ok z F T
  | none => .bad
theorem sl_core {te : TE} {tl th : TO} {mo : MO} {ml mh : MPt} (ho : SO G K W te mo) (hl : SPt G K W tl ml) (hh : SPt G K W th mh) : SE G K W (tSl (rSlX K) te tl th) (cSl mo ml mh) := by
  intro A T F σ g Q I p
  refine ho A T F σ g _ I ((post_bind p).imp (fun x F1 T1 p1 g1 v I1 l1 d1 => ?_) fun _ _ _ q => q)
  refine hl A T1 F1 σ g1 _ I1 ((post_bind p1).imp (fun lo F2 T2 p2 g2 I2 l2 => ?_) fun _ _ _ q => Wish.le q l1)
  refine hh A T2 F2 σ g2 _ I2 ((post_bind p2).imp (fun hi F3 T3 p3 g3 I3 l3 => ?_) fun _ _ _ q => Wish.le q (l1.trans l2))
  have d := (l2.trans l3).o d1
  have l03 := l1.trans (l2.trans l3)
  have p3' : Rs.Post (match slF F3 T3 x lo hi with | some z => Rs.ok z F3 T3 | none => .bad) _ _ := p3
  split at p3'
  · rename_i z hz
    unfold slF at hz
    split at hz
    · rename_i w hw
      have hv := look_den I3 d hw
      have hs := look_sc I3 d hw
      split at hz
      · rename_i es he
        cases hz
        obtain ⟨s1, a, vs, rfl, sq, l⟩ := seqLE_den he hv hs
        refine .inl (.inl ⟨a, vs, rfl, sq, fun p hp => ?_⟩)
        obtain ⟨s3, c3⟩ := lstV_den (l.cut lo hi) (scL_take _ (scL_drop _ s1))
        obtain ⟨I4, l4, R⟩ := I3.newRoot (o := .lst (cutV vs lo hi)) hp s3 c3
        exact p3' ⟨plus g3.own p, g3.φ, upd g3.H p (.lst (cutV vs lo hi))⟩ (.ref p) I4 (l03.trans l4) ⟨p, rfl, R⟩
      · split at hz
        · rename_i es he
          obtain ⟨s1, a, vs, rfl, sq, l⟩ := sltE_den he hv hs
          have el := l.length
          split at hz
          · rename_i hwh
            cases hz
            refine .inl (.inr ⟨a, vs, rfl, sq, fun _ => p3' g3 _ I3 l03 d, fun n => absurd ?_ n⟩)
            rw [el]
            exact hwh
          · rename_i hwh
            cases hz
            refine .inl (.inr ⟨a, vs, rfl, sq, fun n => absurd (by rw [el] at n; exact n) hwh, fun _ p hp => ?_⟩)
            obtain ⟨I4, l4, s4, d4⟩ := I3.newE hp (l.cut lo hi) (scL_take _ (scL_drop _ s1))
            exact p3' ⟨g3.own, g3.φ, upd g3.H p (.tup (cutV vs lo hi))⟩ (.ref p) I4 (l03.trans l4) ⟨s4, d4⟩
        · split at hz
          · rename_i s _ _ 
            split at hz
            · rename_i hl
              cases hz
              obtain rfl : v = .str s := hv
              exact .inr ⟨s, rfl, line_le hl, p3' g3 _ I3 l03 ⟨scp, rfl⟩⟩
            · cases hz
          · cases hz
    · cases hz
  · exact p3'.elim
/-! ### chains -/
def cChn (f f' : F2) (ma mb mc : MO) : MO := fun F T => (ma F T).bind fun x F T => (mb F T).bind fun y F T => match f F T x y with
  | some (.o (.e (.p (.bl k)))) => if k = true then (mc F T).bind fun w F T => match f' F T y w with
      | some (.o z) => .ok z F T
      | _ => .bad
    else .ok (.e (.p (.bl false))) F T
  | _ => .bad
theorem chn_core {ta tb tc : TE} {r r' : R2} {f f' : F2} {ma mb mc : MO} (hs : OpS G K r f) (hs' : OpS G K r' f') (ha : SO G K W ta ma) (hb : SO G K W tb mb) (hc : SO G K W tc mc) : SO G K W (tChain r r' ta tb tc) (cChn f f' ma mb mc) := by
  intro A T F σ g Q I p
  refine ha A T F σ g _ I ((post_bind p).imp (fun x F1 T1 p1 g1 v I1 l1 d1 => ?_) fun _ _ _ q => q)
  refine hb A T1 F1 σ g1 _ I1 ((post_bind p1).imp (fun y F2 T2 p2 g2 u I2 l2 d2 => ?_) fun _ _ _ q => Wish.le q l1)
  have p2' : Rs.Post (match f F2 T2 x y with
    | some (.o (.e (.p (.bl k)))) => (if k = true then (mc F2 T2).bind fun w F T => (match f' F T y w with | some (.o z) => Rs.ok z F T | _ => .bad) else .ok (.e (.p (.bl false))) F2 T2)
    | _ => .bad) _ _ := p2
  have l02 := l1.trans l2
  split at p2'
  · rename_i k hk
    refine hs A T2 F2 σ g2 x y v u _ I2 (l2.o d1) d2 hk _ fun g3 z I3 l3 d3 => ?_
    obtain ⟨_, rfl⟩ := d3
    refine ⟨k, rfl, ?_⟩
    cases k with
    | false =>
      rw [if_neg Bool.false_ne_true] at p2' ⊢
      exact p2' g3 _ I3 (l02.trans l3) ⟨scp, rfl⟩
    | true =>
      rw [if_pos rfl] at p2' ⊢
      refine hc A T2 F2 σ g3 _ I3 ((post_bind p2').imp (fun w F4 T4 p4 g4 wv I4 l4 d4 => ?_) fun _ _ _ q => Wish.le q (l02.trans l3))
      have p4' : Rs.Post (match f' F4 T4 y w with | some (.o z) => Rs.ok z F4 T4 | _ => .bad) _ _ := p4
      split at p4'
      · rename_i z hz
        exact hs' A T4 F4 σ g4 y w u wv _ I4 (l4.o (l3.o d2)) d4 hz _ fun g5 zv I5 l5 d5 => p4' g5 zv I5 (l02.trans (l3.trans (l4.trans l5))) d5
      · exact p4'.elim
  · exact p2'.elim
/-! ### methods of texts -/
abbrev FS0 := Str → Option D
abbrev FS1 := Fr → Sto → Str → OV → Option RV
def cM0 (f : FS0) (m : MO) : MO := fun F T => (m F T).bind fun x F T => match x with
  | .e (.p (.str s)) => match f s with
    | some d => .ok (.e (.p d)) F T
    | none => .bad
  | _ => .bad
def isS : OV → Bool
  | .e (.p (.str _)) => true
  | _ => false
def cM1 (f : FS1) (m n : MO) : ME := fun F T => (m F T).bind fun x F T => if isS x = true then (n F T).bind fun y F T => match x with
    | .e (.p (.str s)) => match f F T s y with
      | some z => .ok z F T
      | none => .bad
    | _ => .bad
  else .bad
def M0S (r : V → List V → Hp → VK → Prop) (f : FS0) : Prop := ∀ s d, f s = some d → ∃ v, sv d = some v ∧ ∀ H (Q : VK), Q v H → r (.str s) [] H Q
def M1S (G : String → Addr) (K : PySem.W.Frag) (r : V → List V → Hp → VK → Prop) (f : FS1) : Prop := ∀ A T F σ g s y u z, Iv G K A T F σ g → ODen G K T σ g y u → f F T s y = some z → ∀ Q : VK, (∀ g' v, Iv G K A T F σ g' → Le T T g g' → RDen G K A T F σ g' z v → Q v g'.H) → r (.str s) [u] g.H Q
theorem m0_core {to : TE} {r : V → List V → Hp → VK → Prop} {f : FS0} {m : MO} (hs : M0S r f) (ho : SO G K W to m) : SO G K W (tM0 r to) (cM0 f m) := by
  intro A T F σ g Q I p
  refine ho A T F σ g _ I ((post_bind p).imp (fun x F1 T1 p1 g1 v I1 l1 d1 => ?_) fun _ _ _ q => q)
  have p1' : Rs.Post (match x with | .e (.p (.str s)) => (match f s with | some d => Rs.ok (OV.e (.p d)) F1 T1 | none => .bad) | _ => .bad) _ _ := p1
  split at p1'
  · rename_i s
    split at p1'
    · rename_i d hd
      obtain ⟨_, rfl⟩ := d1
      obtain ⟨v, h1, h2⟩ := hs s d hd
      exact ⟨⟨s, rfl⟩, h2 _ _ (p1' g1 v I1 l1 ⟨scp, sv_den h1⟩)⟩
    · exact p1'.elim
  · exact p1'.elim
theorem m1_core {to te : TE} {r : V → List V → Hp → VK → Prop} {f : FS1} {m n : MO} (hs : M1S G K r f) (ho : SO G K W to m) (he : SO G K W te n) : SE G K W (tM1 r to te) (cM1 f m n) := by
  intro A T F σ g Q I p
  refine ho A T F σ g _ I ((post_bind p).imp (fun x F1 T1 p1 g1 v I1 l1 d1 => ?_) fun _ _ _ q => q)
  have p1' : Rs.Post (if isS x = true then (n F1 T1).bind fun y F T => (match x with | .e (.p (.str s)) => (match f F T s y with | some z => Rs.ok z F T | none => .bad) | _ => .bad) else .bad) _ _ := p1
  by_cases hx : isS x = true
  · rw [if_pos hx] at p1'
    cases x with
    | sl i => cases hx
    | e x =>
      cases x with
      | loc n => cases hx
      | tp xs => cases hx
      | p d =>
        cases d with
        | str s =>
          obtain ⟨_, rfl⟩ := d1
          refine ⟨⟨s, rfl⟩, he A T1 F1 σ g1 _ I1 ((post_bind p1').imp (fun y F2 T2 p2 g2 u I2 l2 d2 => ?_) fun _ _ _ q => Wish.le q l1)⟩
          have p2' : Rs.Post (match f F2 T2 s y with | some z => Rs.ok z F2 T2 | none => .bad) _ _ := p2
          split at p2'
          · rename_i z hz
            exact hs A T2 F2 σ g2 s y u z I2 d2 hz Q fun g3 v3 I3 l3 d3 => p2' g3 v3 I3 (l1.trans (l2.trans l3)) d3
          · exact p2'.elim
        | _ => cases hx
  · rw [if_neg hx] at p1'
    exact p1'.elim
def strsD : List E → Option (List Str)
  | [] => some []
  | .p (.str i) :: r => (strsD r).map (i :: ·)
  | _ => none
theorem strsD_den : ∀ {es : List E} {ns : List Str} {vs : List V}, strsD es = some ns → EDenL G K H φ es vs → vs = ns.map V.str
  | [], ns, vs, h, d => by cases h; exact d
  | .p x :: r, ns, vs, h, ⟨v, w, e, h1, h2⟩ => by
    cases x with
    | str i =>
      obtain ⟨l, e1, rfl⟩ := map_inv (show (strsD r).map (i :: ·) = some ns from h)
      rw [e, strsD_den e1 h2, show v = .str i from h1]
      rfl
    | _ => cases h
  | .loc n :: r, ns, vs, h, _ => by cases h
  | .tp xs :: r, ns, vs, h, _ => by cases h
def joinF : FS1 := fun F T a y => match ((look F T y).bind seqE).bind strsD with
  | some ys => if (ys.map (·.length)).sum + ys.length * a.length ≤ LINE then some (.o (.e (.p (.str (Txt.join a ys))))) else none
  | none => none
theorem m1_join : M1S G K (fun x xs H Q => ∃ a p, ∃ ys : List Str, x = .str a ∧ xs = [.ref p] ∧ (SqL K H p (ys.map V.str) ∨ SqT K H p (ys.map V.str)) ∧ (ys.map (·.length)).sum + ys.length * a.length ≤ 16777216 ∧ Q (.str (Txt.join a ys)) H) joinF := by
  intro A T F σ g s y u z I d h Q q
  unfold joinF at h
  split at h
  · rename_i ys hy
    split at h
    · rename_i hl
      cases h
      cases hw : look F T y with
      | none => rw [hw] at hy; cases hy
      | some w =>
        rw [hw] at hy
        cases he : seqE w with
        | none => rw [show (some w).bind seqE = none from he] at hy; cases hy
        | some es =>
          rw [show (some w).bind seqE = some es from he] at hy
          obtain ⟨s1, a, vs, rfl, sq, l⟩ := seqE_den he (look_den I d hw) (look_sc I d hw)
          rw [strsD_den (show strsD es = some ys from hy) l] at sq
          exact ⟨s, a, ys, rfl, rfl, sq, hl, q g _ I Le.refl ⟨scp, rfl⟩⟩
    · cases h
  · cases h
/-! ### enumerate, zip, reversed -/
def frzL : OV → Option (List D)
  | .e (.p (.lst ds)) => some ds
  | .e (.p (.rol ds)) => some ds
  | _ => none
theorem frzL_den {x : OV} {v : V} {ds : List D} (e : frzL x = some ds) (h : ODen G K T σ g x v) : ∃ a vs, v = .ref a ∧ SqL K g.W a vs ∧ DenL G K g.W ds vs := by
  unfold frzL at e
  split at e
  · cases e; obtain ⟨_, a, vs, rfl, q, l⟩ := h; exact ⟨a, vs, rfl, .inl (.inl q), l⟩
  · cases e; obtain ⟨_, a, vs, rfl, q, l⟩ := h; exact ⟨a, vs, rfl, q, l⟩
  · cases e
def enumE (n : Nat) : List D → List E
  | [] => []
  | d :: r => .p (.tup [.int n, d]) :: enumE (n + 1) r
theorem enumE_len : ∀ {ds : List D} {n : Nat}, (enumE n ds).length = ds.length
  | [], _ => rfl
  | d :: r, n => by
    show (enumE (n + 1) r).length + 1 = _
    rw [enumE_len, List.length_cons]
theorem enumE_get : ∀ {ds : List D} {n i : Nat} {d : D}, ds[i]? = some d → (enumE n ds)[i]? = some (.p (.tup [.int ((n + i : Nat) : Int), d]))
  | [], n, i, d, h => by simp at h
  | x :: r, n, 0, d, h => by
    cases h
    rfl
  | x :: r, n, i + 1, d, h => by
    rw [List.getElem?_cons_succ] at h
    show (enumE (n + 1) r)[i]? = _
    rw [enumE_get (n := n + 1) h]
    congr 5
    omega
theorem good_enum {a : Addr} {ds : List D} {vs : List V} {n : Nat} (h : SqL K g0.W a vs) (l : DenL G K g0.W ds vs) : Good G K (Ite K a) g0 n (enumE 0 ds) where
  go := fun i g o hi => by
    rw [enumE_len] at hi
    have hl : i < vs.length := by rw [l.length]; exact hi
    exact ⟨vs, vs[i], vw_le.l (o.ext.l h), List.getElem?_eq_getElem hl⟩
  stop := fun g o => by
    rw [enumE_len, ← l.length]
    exact ⟨vs, vw_le.l (o.ext.l h), Nat.le_refl _⟩
  yld := fun i g v H' o hi y => by
    rw [enumE_len] at hi
    obtain ⟨p, x, rfl, hp, rfl, hx⟩ := y
    obtain ⟨w, h1, h2⟩ := l.get (List.getElem?_eq_getElem hi)
    have h3 := hx vs (vw_le.l (o.ext.l h))
    rw [h1] at h3
    cases h3
    refine ⟨_, enumE_get (List.getElem?_eq_getElem hi), scp, .inr ⟨p, _, hp, rfl, rfl, .inl ⟨_, rfl, .cons ?_ (.cons (h2.mono o.ext) .nil)⟩⟩⟩
    show V.int (i : Nat) = V.int ((0 + i : Nat) : Int)
    rw [Nat.zero_add]
def cEnum (ma : MA) : MI := fun F T => (ma F T).bind fun xs F T => match xs with
  | [x] => match frzL x with
    | some ds => .ok (enumE 0 ds) F T
    | none => .bad
  | _ => .bad
theorem enum_core {ta : TA} {ma : MA} (h : SA G K W ta ma) : SI G K W (iEnum K ta) (cEnum ma) := by
  intro A T F σ g R I p
  refine h A T F σ g _ I ((post_bind p).imp (fun xs F1 T1 p1 g1 vs I1 l1 d1 => ?_) fun _ _ _ q => q)
  have p1' : Rs.Post (match xs with | [x] => (match frzL x with | some ds => Rs.ok (enumE 0 ds) F1 T1 | none => .bad) | _ => .bad) _ _ := p1
  split at p1'
  · rename_i x
    split at p1'
    · rename_i ds hd
      obtain ⟨v, w, rfl, d, rfl⟩ := d1
      obtain ⟨a, us, rfl, sq, l⟩ := frzL_den hd d
      exact ⟨a, us, rfl, vw_le.l sq, p1' g1 _ I1 l1 (good_enum sq l)⟩
    · exact p1'.elim
  · exact p1'.elim
def zipE (xs ys : List D) : List E := (xs.zip ys).map fun p => .p (.tup [p.1, p.2])
theorem zipE_len {xs ys : List D} : (zipE xs ys).length = min xs.length ys.length := by unfold zipE; rw [List.length_map, List.length_zip]
theorem zipE_get {xs ys : List D} {i : Nat} {x y : D} (h : xs[i]? = some x) (k : ys[i]? = some y) : (zipE xs ys)[i]? = some (.p (.tup [x, y])) := by
  unfold zipE
  rw [List.getElem?_map, List.zip, List.getElem?_zipWith, h, k]
  rfl
theorem good_zip {a b : Addr} {xs ys : List D} {vs us : List V} {n : Nat} (h : SqL K g0.W a vs) (l : DenL G K g0.W xs vs) (h' : SqL K g0.W b us) (l' : DenL G K g0.W ys us) : Good G K (Itz K a b) g0 n (zipE xs ys) where
  go := fun i g o hi => by
    rw [zipE_len] at hi
    have h1 : i < vs.length := by rw [l.length]; omega
    have h2 : i < us.length := by rw [l'.length]; omega
    exact ⟨vs, us, vs[i], us[i], vw_le.l (o.ext.l h), vw_le.l (o.ext.l h'), List.getElem?_eq_getElem h1, List.getElem?_eq_getElem h2⟩
  stop := fun g o => by
    rw [zipE_len]
    refine ⟨vs, us, vw_le.l (o.ext.l h), vw_le.l (o.ext.l h'), ?_⟩
    rw [l.length, l'.length]
    omega
  yld := fun i g v H' o hi y => by
    rw [zipE_len] at hi
    obtain ⟨p, x, z, rfl, hp, rfl, hx, hz⟩ := y
    have i1 : i < xs.length := by omega
    have i2 : i < ys.length := by omega
    obtain ⟨w, h1, h2⟩ := l.get (List.getElem?_eq_getElem i1)
    obtain ⟨w', h1', h2'⟩ := l'.get (List.getElem?_eq_getElem i2)
    have h3 := hx vs (vw_le.l (o.ext.l h))
    rw [h1] at h3
    cases h3
    have h4 := hz us (vw_le.l (o.ext.l h'))
    rw [h1'] at h4
    cases h4
    exact ⟨_, zipE_get (List.getElem?_eq_getElem i1) (List.getElem?_eq_getElem i2), scp, .inr ⟨p, _, hp, rfl, rfl, .inl ⟨_, rfl, .cons (h2.mono o.ext) (.cons (h2'.mono o.ext) .nil)⟩⟩⟩
def cZip (ma : MA) : MI := fun F T => (ma F T).bind fun xs F T => match xs with
  | [x, y] => match frzL x, frzL y with
    | some ds, some es => .ok (zipE ds es) F T
    | _, _ => .bad
  | _ => .bad
theorem zip_core {ta : TA} {ma : MA} (h : SA G K W ta ma) : SI G K W (iZip K ta) (cZip ma) := by
  intro A T F σ g R I p
  refine h A T F σ g _ I ((post_bind p).imp (fun xs F1 T1 p1 g1 vs I1 l1 d1 => ?_) fun _ _ _ q => q)
  have p1' : Rs.Post (match xs with | [x, y] => (match frzL x, frzL y with | some ds, some es => Rs.ok (zipE ds es) F1 T1 | _, _ => .bad) | _ => .bad) _ _ := p1
  split at p1'
  · rename_i x y
    split at p1'
    · rename_i ds es hd he
      obtain ⟨v, w, rfl, d, v2, w2, rfl, d2, rfl⟩ := d1
      obtain ⟨a, us, rfl, sq, l⟩ := frzL_den hd d
      obtain ⟨b, ws, rfl, sq', l'⟩ := frzL_den he d2
      exact ⟨a, b, us, ws, rfl, vw_le.l sq, vw_le.l sq', p1' g1 _ I1 l1 (good_zip sq l sq' l')⟩
    · exact p1'.elim
  · exact p1'.elim
theorem good_rev {a : Addr} {xs : List D} {vs : List V} {n : Nat} (h : SqL K g0.W a vs) (l : DenL G K g0.W xs vs) : Good G K (Itv K a vs.length) g0 n (xs.reverse.map .p) where
  go := fun i g o hi => by
    rw [List.length_map, List.length_reverse, ← l.length] at hi
    have h1 : vs.length - 1 - i < vs.length := by omega
    exact ⟨hi, vs, vs[vs.length - 1 - i], vw_le.l (o.ext.l h), List.getElem?_eq_getElem h1⟩
  stop := fun g o => by
    rw [List.length_map, List.length_reverse, ← l.length]
    exact Nat.le_refl _
  yld := fun i g v H' o hi y => by
    rw [List.length_map, List.length_reverse] at hi
    obtain ⟨e, hx⟩ := y
    have i1 : xs.length - 1 - i < xs.length := by omega
    obtain ⟨w, h1, h2⟩ := l.get (List.getElem?_eq_getElem i1)
    have h3 := hx vs (vw_le.l (o.ext.l h))
    rw [l.length, h1] at h3
    cases h3
    refine ⟨.p xs[xs.length - 1 - i], ?_, scp, .inl ⟨e, h2.mono o.ext⟩⟩
    rw [List.getElem?_map, List.getElem?_reverse hi, List.getElem?_eq_getElem i1]
    rfl
def cRev (ma : MA) : MI := fun F T => (ma F T).bind fun xs F T => match xs with
  | [x] => match frzL x with
    | some ds => .ok (ds.reverse.map .p) F T
    | none => .bad
  | _ => .bad
theorem rev_core {ta : TA} {ma : MA} (h : SA G K W ta ma) : SI G K W (iRev K ta) (cRev ma) := by
  intro A T F σ g R I p
  refine h A T F σ g _ I ((post_bind p).imp (fun xs F1 T1 p1 g1 vs I1 l1 d1 => ?_) fun _ _ _ q => q)
  have p1' : Rs.Post (match xs with | [x] => (match frzL x with | some ds => Rs.ok (ds.reverse.map E.p) F1 T1 | none => .bad) | _ => .bad) _ _ := p1
  split at p1'
  · rename_i x
    split at p1'
    · rename_i ds hd
      obtain ⟨v, w, rfl, d, rfl⟩ := d1
      obtain ⟨a, us, rfl, sq, l⟩ := frzL_den hd d
      exact ⟨a, us, rfl, vw_le.l sq, p1' g1 _ I1 l1 (good_rev sq l)⟩
    · exact p1'.elim
  · exact p1'.elim
end
structure JP (G : String → Addr) (X : Cx) (W : WX) (e : Option Expr) (m : MPt) : Prop where
  ex : ∃ t, PO X e t ∧ SPt G X.K W t m
section
variable {G : String → Addr} {X : Cx} {W : WX} {pos p p2 tpos apos : Pos} {e o a b c e2 : Expr} {es : List Expr} {ma mb mc mo : MO} {mA : MA} {lo hi : Option Expr} {ml mh : MPt} {elts : List Expr} {kk : Nat} {tg : Expr}
theorem jo_neg (ha : JO G X W a ma) : JO G X W (.UnaryOp .USub a pos) (cNeg ma) := by
  obtain ⟨ta, pa, sa⟩ := ha.ex
  exact ⟨_, pe_un un_neg pa, neg_core sa⟩
theorem jp_no : JP G X W none pNo := ⟨_, po_none, pno_core⟩
theorem jp_some (ha : JO G X W a ma) : JP G X W (some a) (pSm ma) := by
  obtain ⟨ta, pa, sa⟩ := ha.ex
  exact ⟨_, po_some pa, psm_core sa⟩
theorem je_slice (ha : JO G X W a ma) (hl : JP G X W lo ml) (hh : JP G X W hi mh) : JE G X W (.Subscript a (.Slice lo hi none p2) pos) (cSl ma ml mh) := by
  obtain ⟨ta, pa, sa⟩ := ha.ex
  obtain ⟨tl, pl, sl⟩ := hl.ex
  obtain ⟨th, ph, sh⟩ := hh.ex
  exact ⟨_, pe_slice sl_all pa pl ph, sl_core sa sl sh⟩
theorem jo_chain {op op' : CmpOp} {r r' : R2} {f f' : F2} (h1 : OpR X (compareOp op) r) (h2 : OpR X (compareOp op') r') (s1 : OpS G X.K r f) (s2 : OpS G X.K r' f') (ha : JO G X W a ma) (hb : JO G X W b mb) (hc : JO G X W c mc)
    (hm : lastMarks [op, op'] [b, c] = false := by with_unfolding_all rfl) : JO G X W (.Compare a [op, op'] [b, c] pos) (cChn f f' ma mb mc) := by
  obtain ⟨ta, pa, sa⟩ := ha.ex
  obtain ⟨tb, pb, sb⟩ := hb.ex
  obtain ⟨tc, pc, sc⟩ := hc.ex
  exact ⟨_, pe_chain h1 h2 pa pb pc hm, chn_core s1 s2 sa sb sc⟩
theorem jt_chain {op op' : CmpOp} {r r' : R2} {f f' : F2} (h1 : OpR X (compareOp op) r) (h2 : OpR X (compareOp op') r') (s1 : OpS G X.K r f) (s2 : OpS G X.K r' f') (ha : JO G X W a ma) (hb : JO G X W b mb) (hc : JO G X W c mc)
    (hm : lastMarks [op, op'] [b, c] = false := by with_unfolding_all rfl) : JT G X W (.Compare a [op, op'] [b, c] pos) (cBool (cUp (cChn f f' ma mb mc))) := by
  obtain ⟨ta, pa, sa⟩ := ha.ex
  obtain ⟨tb, pb, sb⟩ := hb.ex
  obtain ⟨tc, pc, sc⟩ := hc.ex
  refine ⟨_, pt_chain h1 h2 pa pb pc hm, bool_core (te := tChain r r' ta tb tc) (m := cUp (cChn f f' ma mb mc)) ?_⟩
  have s := chn_core (W := W) s1 s2 sa sb sc
  exact fun A T F σ g Q I p => s A T F σ g Q I ((post_bind p).imp (fun r F' T' q g' v I' l rd => q g' v I' l rd) fun _ _ _ q => q)
theorem je_join (ha : JO G X W o mo) (hb : JO G X W e ma) (hs : starEach [e] X.env = [(false, eval e X.env)] := by rfl) (hbase : attributeBase o "join" X.env (eval o X.env) = eval o X.env := by rfl) (hline : (apos.endLine == pos.line) = true := by rfl) :
    JE G X W (.Call (.Attribute o "join" apos) [e] [] pos) (cM1 joinF mo ma) := by
  obtain ⟨ta, pa, sa⟩ := ha.ex
  obtain ⟨tb, pb, sb⟩ := hb.ex
  exact ⟨_, pe_join pa pb hs hbase hline, m1_core m1_join sa sb⟩
theorem ji_enum (hg : Gl X "enumerate") (hm : X.mg "enumerate" = none) (ha : JA G X W [e] mA) (hs : starEach [e] X.env = [(false, eval e X.env)] := by rfl) : JI G X W (.Tuple elts kk tpos) (.Call (.Name "enumerate" p) [e] [] pos) (cEnum mA) := by
  obtain ⟨ta, pa, sa⟩ := ha.ex
  exact ⟨_, pi_enum hg hm pa hs, enum_core sa⟩
theorem ji_zip (hg : Gl X "zip") (hm : X.mg "zip" = none) (ha : JA G X W [e, e2] mA) (hs : starEach [e, e2] X.env = (false, eval e X.env) :: starEach [e2] X.env := by rfl) (hpl : (backTo pos (starEach [e2] X.env)).any (·.1) = false := by rfl) :
    JI G X W (.Tuple elts kk tpos) (.Call (.Name "zip" p) [e, e2] [] pos) (cZip mA) := by
  obtain ⟨ta, pa, sa⟩ := ha.ex
  exact ⟨_, pi_zip hg hm pa hs hpl, zip_core sa⟩
theorem ji_rev (hg : Gl X "reversed") (hm : X.mg "reversed" = none) (ha : JA G X W [e] mA) (hs : starEach [e] X.env = [(false, eval e X.env)] := by rfl) : JI G X W tg (.Call (.Name "reversed" p) [e] [] pos) (cRev mA) := by
  obtain ⟨ta, pa, sa⟩ := ha.ex
  exact ⟨_, pi_reversed hg hm pa hs, rev_core sa⟩
end
end Sim

set_option Elab.async false
set_option linter.all false
set_option maxRecDepth 100000
set_option maxHeartbeats 4000000
namespace Sim
open PySem L2
variable [EXC]
open PyProof.Rows (envOfC)
/-! ### own exceptions -/
/-- the base class: its __init__ is ValueError's -/
structure ExB (K : PySem.W.Frag) (mg : Str → Option Value) (x : Str) (C0 : Addr) : Prop where
  gB : mg x = some (.ref C0)
  rd : ClX.CRead K C0 (.type "type")
  at_ : PySem.W.findCls K (.ref C0) (.type "type") "__init__" = some (.val (.builtin "ValueError.__init__"))
section
variable {X : Cx} {o e : Expr} {es : List Expr} {ta : TA} {p1 p2 pos : Pos} {x : Str} {C0 : Addr}
theorem pe_dueinit {pl : Sem Bool} (hg : Gl X x) (B : ExB X.K X.mg x C0) (ha : PA X (e :: es) ta) (hdb : (x == ("__debug__" : Str)) = false := by decide)
    (hc : eval (.Call (.Attribute (.Name x p1) "__init__" p2) (e :: es) [] pos) X.env = (do
      let ov ← eval (.Name x p1) X.env
      standAt p2.atName
      let (f, first) ← holding [ov] (getMethod ov "__init__" pl)
      callWith pos f first (backTo pos (starEach (e :: es) X.env)) (backToKw pos (keywordEach [] X.env))) := by rfl)
    (he : starEach (e :: es) X.env = (false, eval e X.env) :: starEach es X.env := by rfl) (hpl : (backTo pos (starEach es X.env)).any (·.1) = false := by rfl) :
    PE X (.Call (.Attribute (.Name x p1) "__init__" p2) (e :: es) [] pos) (tVeI X.K ta) := by
  refine ⟨fun pins s σ H Q I h => ?_⟩
  refine PySem.W.methodCall_KW (ld_glob I hg B.gB ?_ hdb) hc
  refine PySem.W.method_cls I.kIn B.rd.ga (PySem.W.cls_value I.kIn B.rd.rd B.at_ (by decide +kernel) ?_)
  show wpAny _ _ (callWith pos (Value.builtin "ValueError.__init__") [] (backTo pos (starEach (e :: es) X.env)) []) _ _ _
  refine PyProof.Rows.callWith_method1 (thn (ha.run pos pins _ σ H _ (I.tok _) h) fun us s1 ⟨vs, H1, I1, r1, a, C, ws, ev, hl, T, ea, q⟩ => ?_) he hpl
  subst ev
  cases r1 with
  | @cons _ u0 _ ur ra rw' =>
    obtain rfl : u0 = Value.ref a := ra
    have hlen : ur.length ≤ sizeLine := by
      rw [← Paired.length rw', sizeLine_eq]
      omega
    exact oinit_ok T I1 ea hlen fun s' J => ⟨.non, H1, J, rfl, q⟩
end
def spI1 (C : Addr) (f : Str) : Sp := fun vs H Q _ => ∃ a y, vs = [.ref a, y] ∧ H a = some (exo a C none) ∧ ∀ dx, H dx = none → dx ≠ a → Q .non (upd (upd H dx (exd dx [(f, y)])) a (exo a C (some dx)))
def spI2 (C : Addr) (f f' : Str) : Sp := fun vs H Q _ => ∃ a y z, vs = [.ref a, y, z] ∧ H a = some (exo a C none) ∧ ∀ dx, H dx = none → dx ≠ a → Q .non (upd (upd H dx (exd dx [(f', z), (f, y)])) a (exo a C (some dx)))
section
variable {P : Program} {w : World} {K : PySem.W.Frag} {mg : Str → Option Value} {base : Heap} {C C0 fI : Addr} {fd : FuncData} {qual x f f' y y' msg : Str} {st : Stmt} {k : Nat}
theorem upd_twice {H : Hp} {dx a : Addr} {u v o : HO} (n : dx ≠ a) : upd (upd (upd H dx u) a o) dx v = upd (upd H dx v) a o := by
  funext b
  by_cases e : b = dx
  · subst e
    rw [upd_same, upd_ne n, upd_same]
  · rw [upd_ne e]
    by_cases e2 : b = a
    · subst e2
      rw [upd_same, upd_same]
    · rw [upd_ne e2, upd_ne e, upd_ne e2, upd_ne e]
theorem ok_init1 (T : OexC K C) (hno : PySem.W.findIn K (.ref C) f = some none) (Fu : L2.Fun K "__init__" qual st fI fd) (Sc : FnScope ["self", y] ["self", y] (defScope st))
    (hbody : ∀ (cdv : Value) (A : PySem.Around) (outer : List Env) (s : Shared) (H : Hp) (E : XK), PSs (cxOf (L2.CX P w) P w K mg base ["self", y] qual (defScope st) fI cdv A outer s H E) (defBody st) (tSeq (tDrop (tVeI K (tCons (tVar 0) (tCons (tC (.str msg)) tNil)))) (tOst K f (tVar 0) (tVar 1)))) :
    FnOk P w K mg base (L2.CX P w) (k + 1) fI fd ["self", y] (spI1 C f) := by
  refine Fu.okX Sc (fun vs H Q E h => ?_) fun cdv A outer s H vs Q E hr h => ⟨_, hbody cdv A outer s H E, ?_⟩
  · obtain ⟨a, v, rfl, _⟩ := h
    rfl
  · obtain ⟨a, v, rfl, ha, q⟩ := h
    refine ⟨.ref a, rfl, ?_⟩
    refine ⟨a, C, [.str msg], rfl, (by show 1 ≤ 1000; decide), T, ha, ?_⟩
    exact ⟨v, rfl, .ref a, rfl, a, C, rfl, T, hno, .inl ⟨ha, fun dx h1 h2 => q dx h1 h2⟩⟩
theorem ok_init2 (T : OexC K C) (hno : PySem.W.findIn K (.ref C) f = some none) (hno' : PySem.W.findIn K (.ref C) f' = some none) (Fu : L2.Fun K "__init__" qual st fI fd) (Sc : FnScope ["self", y, y'] ["self", y, y'] (defScope st))
    (hbody : ∀ (cdv : Value) (A : PySem.Around) (outer : List Env) (s : Shared) (H : Hp) (E : XK), PSs (cxOf (L2.CX P w) P w K mg base ["self", y, y'] qual (defScope st) fI cdv A outer s H E) (defBody st)
      (tSeq (tDrop (tVeI K (tCons (tVar 0) (tCons (tC (.str msg)) tNil)))) (tSeq (tOst K f (tVar 0) (tVar 1)) (tOst K f' (tVar 0) (tVar 2))))) :
    FnOk P w K mg base (L2.CX P w) (k + 1) fI fd ["self", y, y'] (spI2 C f f') := by
  refine Fu.okX Sc (fun vs H Q E h => ?_) fun cdv A outer s H vs Q E hr h => ⟨_, hbody cdv A outer s H E, ?_⟩
  · obtain ⟨a, v, v', rfl, _⟩ := h
    rfl
  · obtain ⟨a, v, v', rfl, ha, q⟩ := h
    refine ⟨.ref a, rfl, ?_⟩
    refine ⟨a, C, [.str msg], rfl, (by show 1 ≤ 1000; decide), T, ha, ?_⟩
    refine ⟨v, rfl, .ref a, rfl, a, C, rfl, T, hno, .inl ⟨ha, fun dx h1 h2 => ?_⟩⟩
    refine ⟨v', rfl, .ref a, rfl, a, C, rfl, T, hno', .inr ⟨dx, [(f, v)], upd_same, (upd_ne h2).trans upd_same, (by show 1 ≤ 900; decide), ?_⟩⟩
    rw [upd_twice h2]
    exact q dx h1 h2
end
/-- raise C(e, ..) -/
def excR (c : String) (fl : List String) (xs : List OV) (F : Fr) (T : Sto) : RS := match (oes xs).bind pureL with
  | some ds => if ds.length = fl.length then .exc ⟨c, (fl.zip ds).reverse⟩ F T else .bad
  | none => .bad
def cRaise (c : String) (fl : List String) (ma : MA) : MS := fun F T => (ma F T).st fun xs F T => excR c fl xs F T
theorem exc_heap {H : Hp} {a d : Addr} {C : Addr} {e1 : HO} {u : List (Str × V)} {x1 : HO} (ha : H a = none) (n : d ≠ a) : upd (del (upd (upd (upd H a x1) d e1) a (exo a C (some d))) a) d (.xd u) = upd H d (.xd u) := by
  funext b
  by_cases e : b = d
  · subst e
    rw [upd_same, upd_same]
  · rw [upd_ne e, upd_ne e]
    by_cases e2 : b = a
    · subst e2
      rw [del_same, ha]
    · rw [del_ne e2, upd_ne e2, upd_ne e, upd_ne e2]
section
variable {G : String → Addr} {K : PySem.W.Frag} {A : Act} {T T' : Sto} {F F' : Fr} {σ : St} {g g' g0 : Gs} {W : WX} {H H' : Hp} {φ : Nat → Addr}
theorem exc_new (I : Iv G K A T F σ g) {c : String} {fs : List (String × D)} {us : List (Str × V)} {d : Addr} (hd : g.H d = none) (l : DenF G K g.W fs us) {D0 : Ends} {T0 : Sto} {g1 : Gs} (l0 : Le T0 T g1 g)
    (p : RS.Post G K W A T0 g1 D0 (.exc ⟨c, fs⟩ F T)) : W (.ref (G c)) (some d) σ (upd g.H d (.xd us)) := by
  obtain ⟨I2, l2⟩ := I.new (o := .xd us) hd
  exact p ⟨g.own, g.φ, upd g.H d (.xd us)⟩ σ (.ref (G c)) (some d) I2 (l0.trans l2) ⟨rfl, us, (vw_at (I.fresh hd)).trans upd_same, l.mono l2.ext⟩
theorem raise1_core {c : String} {f : String} {ta : TA} {ma : MA} (h : SA G K W ta ma) : SS G K W (fun _ σ H => tMkO (G c) (spI1 (G c) (Str.ofString f)) [] ta σ H fun cls d H' => W cls d σ H') (cRaise c [f] ma) := by
  intro A T F σ g D I p
  refine h A T F σ g _ I ((st_post p).imp (fun xs F1 T1 p1 g1 vs I1 l1 d1 => ?_) fun _ _ _ q => st_wish q)
  have p1' : RS.Post G K W A T g D (match (oes xs).bind pureL with | some ds => if ds.length = [f].length then .exc ⟨c, ([f].zip ds).reverse⟩ F1 T1 else .bad | none => .bad) := p1
  cases e : oes xs with
  | none => rw [e] at p1'; exact p1'.elim
  | some es =>
    rw [e] at p1'
    cases e2 : pureL es with
    | none => rw [show (some es).bind pureL = none from e2] at p1'; exact p1'.elim
    | some ds =>
      rw [show (some es).bind pureL = some ds from e2] at p1'
      obtain ⟨s1, s2⟩ := oes_den e d1
      have l := pureL_den e2 s2
      have p2 : RS.Post G K W A T g D (if ds.length = [f].length then .exc ⟨c, ([f].zip ds).reverse⟩ F1 T1 else .bad) := p1'
      split at p2
      · rename_i hl
        match ds, hl, l, p2 with
        | [x], _, l, p2 =>
          obtain ⟨v, w, rfl, hv, rfl⟩ := l
          refine ⟨(by show 1 ≤ 1000; decide), fun a ha => ?_⟩
          refine ⟨a, v, rfl, upd_same, fun dx h1 h2 => ⟨rfl, dx, [(Str.ofString f, v)], upd_same, (upd_ne h2).trans upd_same, ?_, ?_⟩⟩
          · rwa [upd_ne h2] at h1
          · rw [exc_heap ha h2]
            rw [upd_ne h2] at h1
            exact exc_new (fs := [(f, x)]) I1 h1 ⟨v, [], rfl, hv, rfl⟩ l1 p2
      · exact p2.elim
theorem raise2_core {c : String} {f f' : String} {ta : TA} {ma : MA} (h : SA G K W ta ma) : SS G K W (fun _ σ H => tMkO (G c) (spI2 (G c) (Str.ofString f) (Str.ofString f')) [] ta σ H fun cls d H' => W cls d σ H') (cRaise c [f, f'] ma) := by
  intro A T F σ g D I p
  refine h A T F σ g _ I ((st_post p).imp (fun xs F1 T1 p1 g1 vs I1 l1 d1 => ?_) fun _ _ _ q => st_wish q)
  have p1' : RS.Post G K W A T g D (match (oes xs).bind pureL with | some ds => if ds.length = [f, f'].length then .exc ⟨c, ([f, f'].zip ds).reverse⟩ F1 T1 else .bad | none => .bad) := p1
  cases e : oes xs with
  | none => rw [e] at p1'; exact p1'.elim
  | some es =>
    rw [e] at p1'
    cases e2 : pureL es with
    | none => rw [show (some es).bind pureL = none from e2] at p1'; exact p1'.elim
    | some ds =>
      rw [show (some es).bind pureL = some ds from e2] at p1'
      obtain ⟨s1, s2⟩ := oes_den e d1
      have l := pureL_den e2 s2
      have p2 : RS.Post G K W A T g D (if ds.length = [f, f'].length then .exc ⟨c, ([f, f'].zip ds).reverse⟩ F1 T1 else .bad) := p1'
      split at p2
      · rename_i hl
        match ds, hl, l, p2 with
        | [x, x'], _, l, p2 =>
          obtain ⟨v, w, rfl, hv, v', w', rfl, hv', rfl⟩ := l
          refine ⟨(by show 2 ≤ 1000; decide), fun a ha => ?_⟩
          refine ⟨a, v, v', rfl, upd_same, fun dx h1 h2 => ⟨rfl, dx, [(Str.ofString f', v'), (Str.ofString f, v)], upd_same, (upd_ne h2).trans upd_same, ?_, ?_⟩⟩
          · rwa [upd_ne h2] at h1
          · rw [exc_heap ha h2]
            rw [upd_ne h2] at h1
            exact exc_new (fs := [(f', x'), (f, x)]) I1 h1 ⟨v', _, rfl, hv', v, [], rfl, hv, rfl⟩ l1 p2
      · exact p2.elim
end
/-- what is asked of an own exception class with one field, with two -/
structure ExK (G : String → Addr) (P : Program) (w : World) (K : PySem.W.Frag) (mg : Str → Option Value) (base : Heap) (k : Nat) (c : String) (sp : Sp) : Prop where
  T : OexC K (G c)
  gC : mg (Str.ofString c) = some (.ref (G c))
  ini : ∃ (fI : Addr) (fd : FuncData) (ps : List Str), PySem.W.findIn K (.ref (G c)) "__init__" = some (some (.ref fI)) ∧ PySem.W.typeIn K (.ref fI) = some (.type "function") ∧ FnOk P w K mg base (L2.CX P w) k fI fd ps sp ∧ Binds K fd ps []
section
variable {G : String → Addr} {X : Cx} {W : WX} {pos p pos2 : Pos} {e : Expr} {es : List Expr} {ma : MA} {c f f' : String} {k : Nat}
theorem js_raise1 (E : ExK G X.prog X.w X.K X.mg X.base k c (spI1 (G c) (Str.ofString f))) (hc : X.calm = true) (tk : Takes X W) (hr : Room (k + 1) X.A) (hg : Gl X (Str.ofString c)) (ha : JA G X W (e :: es) ma)
    (hdb : (Str.ofString c == ("__debug__" : Str)) = false := by decide) (he : starEach (e :: es) X.env = (false, eval e X.env) :: starEach es X.env := by rfl) (hpl : (backTo pos (starEach es X.env)).any (·.1) = false := by rfl) :
    JS G X W (.Raise (some (.Call (.Name (Str.ofString c) p) (e :: es) [] pos)) none pos2) (cRaise c [f] ma) := by
  obtain ⟨ta, pa, sa⟩ := ha.ex
  obtain ⟨fI, fd, ps, h1, h2, h3, h4⟩ := E.ini
  exact ⟨_, ps_raise hc tk (pmk_oex E.T h1 h2 h3 hr h4 .nil passL hg E.gC pa hdb he hpl), raise1_core sa⟩
theorem js_raise2 (E : ExK G X.prog X.w X.K X.mg X.base k c (spI2 (G c) (Str.ofString f) (Str.ofString f'))) (hc : X.calm = true) (tk : Takes X W) (hr : Room (k + 1) X.A) (hg : Gl X (Str.ofString c)) (ha : JA G X W (e :: es) ma)
    (hdb : (Str.ofString c == ("__debug__" : Str)) = false := by decide) (he : starEach (e :: es) X.env = (false, eval e X.env) :: starEach es X.env := by rfl) (hpl : (backTo pos (starEach es X.env)).any (·.1) = false := by rfl) :
    JS G X W (.Raise (some (.Call (.Name (Str.ofString c) p) (e :: es) [] pos)) none pos2) (cRaise c [f, f'] ma) := by
  obtain ⟨ta, pa, sa⟩ := ha.ex
  obtain ⟨fI, fd, ps, h1, h2, h3, h4⟩ := E.ini
  exact ⟨_, ps_raise hc tk (pmk_oex E.T h1 h2 h3 hr h4 .nil passL hg E.gC pa hdb he hpl), raise2_core sa⟩
end
end Sim

set_option Elab.async false
set_option linter.all false
set_option maxRecDepth 100000
set_option maxHeartbeats 4000000
namespace Sim
open PySem L2
/-! ### try .. except -/
abbrev Hn := Value × (String → Option Bool) × Option Nat × MS
section
variable [EXC]
def tsO (G : String → Addr) (K : PySem.W.Frag) (W : WX) (m : MS) : TS := fun De σ H => ∃ A T F g, g.H = H ∧ Iv G K A T F σ g ∧ (m F T).Post G K W A T g De
theorem ssO {G : String → Addr} {K : PySem.W.Frag} {W : WX} {m : MS} : SS G K W (tsO G K W m) m := fun A T F σ g De I p => ⟨A, T, F, g, rfl, I, p⟩
theorem JSs.ps {G : String → Addr} {X : Cx} {W : WX} {b : List Stmt} {m : MS} (h : JSs G X W b m) : PSs X b (tsO G X.K W m) := by
  obtain ⟨te, p, s⟩ := h.ex
  refine ⟨fun pins st σ H De I ⟨A, T, F, g, hg, Ig, post⟩ => ?_⟩
  subst hg
  exact p.run pins st σ g.H De I (s A T F σ g De Ig post)
end
def wMix (G : String → Addr) (K : PySem.W.Frag) (Wout : WX) (De : Ends) : List Hn → WX
  | [] => Wout
  | (c, _, none, ms) :: r => fun cls d σ H => ∃ b, PySem.W.exmOne K cls c = some b ∧ (b = true → ∀ a, H a = none → @tsO ⟨a, cls, d⟩ G K W0 ms De σ H) ∧ (b = false → wMix G K Wout De r cls d σ H)
  | (c, _, some i, ms) :: r => fun cls d σ H => ∃ b, PySem.W.exmOne K cls c = some b ∧
      (b = true → ∀ a, H a = none → @tsO ⟨a, cls, d⟩ G K W0 ms { nx := fun σ' H' => De.nx (σ'.set i none) H', rt := De.rt, bk := fun σ' H' => De.bk (σ'.set i none) H', ct := fun σ' H' => De.ct (σ'.set i none) H' } (σ.set i (some (.ref a))) H) ∧ (b = false → wMix G K Wout De r cls d σ H)
inductive JH (G : String → Addr) (X : Cx) : List ExceptHandler → List Hn → Prop
  | nil : JH G X [] []
  | only {x : Str} {c : Value} {tab : String → Option Bool} {ms : MS} {b₀ : Stmt} {suite : List Stmt} {np pos' : Pos} {hds : List ExceptHandler} {l : List Hn} (hc : Names X x c) (ht : ∀ k b, tab k = some b → PySem.W.exmOne X.K (.ref (G k)) c = some b)
      (hsu : ∀ (a : Addr) (oe : Obj) (cls : Value) (d : Option Addr) (pn : List (Addr × Obj)), Zc cls d oe → (∃ vs, oe.data = .fields vs) → @JSs ⟨a, cls, d⟩ G (X.suite a ((a, oe) :: pn)) W0 (b₀ :: suite) ms) (r : JH G X hds l) :
      JH G X (.ExceptHandler (some (.Name x np)) none (b₀ :: suite) pos' :: hds) ((c, tab, none, ms) :: l)
  | as {x n : Str} {c : Value} {tab : String → Option Bool} {i : Nat} {ms : MS} {b₀ : Stmt} {suite : List Stmt} {np pos' : Pos} {hds : List ExceptHandler} {l : List Hn} (hc : Names X x c) (ht : ∀ k b, tab k = some b → PySem.W.exmOne X.K (.ref (G k)) c = some b)
      (hi : X.N[i]? = some n) (hln : X.env.kindOf n = some .local)
      (hsu : ∀ (a : Addr) (oe : Obj) (cls : Value) (d : Option Addr) (pn : List (Addr × Obj)), Zc cls d oe → (∃ vs, oe.data = .fields vs) → @JSs ⟨a, cls, d⟩ G (X.suite a ((a, oe) :: pn)) W0 (b₀ :: suite) ms) (r : JH G X hds l) :
      JH G X (.ExceptHandler (some (.Name x np)) (some n) (b₀ :: suite) pos' :: hds) ((c, tab, some i, ms) :: l)
section
variable {G : String → Addr} {X : Cx} {body : List Stmt} {h₀ : ExceptHandler} {hds : List ExceptHandler} {l : List Hn} {pos : Pos} {tb : WX → TS} {Wout : WX}
/-- the rule: clauses with a name and without, one behind another -/
theorem ps_try_mix (hs : X.stack = X.env :: X.outer) (hf : X.env.frame = some X.env.locals) (hN : X.N.Nodup) (tk : Takes X Wout)
    (hb : ∀ (W : WX) (pn : List (Addr × Obj)) (xe : Value → Shared → Prop), Takes (X.tr pn xe) W → PassesOwn (model X.prog X.w) X.A X.env xe → PSs (X.tr pn xe) body (tb W))
    (hh : JH G X (h₀ :: hds) l) : PS X (.Try body (h₀ :: hds) [] [] pos) (fun De σ H => tb (wMix G X.K Wout De l) De σ H) := by
  refine ⟨fun pins s σ H De I h => ?_⟩
  have ok := I.ok
  have hfr : X.A.frames = some (X.env :: X.outer) := by rw [ok.frames, hs]
  refine wpAny_Try_except ?_
  refine wpAny_mono ((hb (wMix G X.K Wout De l) (X.pn ++ pins) (fun e s₁ => wpAny (model X.prog X.w) X.A (noteFrame e X.env) (fun _ s₂ => wpAny (model X.prog X.w) X.A (setFlight e none) (fun _ s₃ =>
    wpAny (model X.prog X.w) X.A (handleBy e X.env (h₀ :: hds)) (SP X pins De) X.xe s₃) X.xe s₂) X.xe s₁) (fun u s' xx => ?_) PassesOwn.looking).run [] s σ H De (I.toTry _) h) (fun f s1 hsp => ?_) (fun e s1 he => he)
  · obtain ⟨a, B, sI, pins', σ', H', cls, d, rfl, J', nb, up, sky, na, os, ag, w⟩ := xx
    have J : Inv X pins σ' H' sI := J'.ofTry ok
    have sky' : Sky B (X.env :: X.outer) a (Zc cls d) X.env.locals s'.heap := by rw [← hs]; exact sky
    show wpAny (model X.prog X.w) X.A (noteFrame (.ref a) X.env) _ _ _
    refine Sky.land Zc.steady hfr hf sky' fun h3 fl3 up3 => ?_
    have J3 : Inv X pins σ' H' { s' with heap := h3 } := J.landed nb fl3.1 (up.trans up3) os ag
    obtain ⟨oe3, vs3, he3, hz3, hd3⟩ := fl3.there
    have notFr : ∀ {h : Heap} {o : Obj} {vs : Array Value}, h.FunFrames B (X.env :: X.outer) → h.get? a = some o → o.data = .fields vs → a ∉ frs (X.env :: X.outer) := fun {h o vs} ff e dd hm => by
      obtain ⟨_, o', e', hnf⟩ := ff.mem hm
      rw [e] at e'; cases e'
      exact hnf _ dd
    have nfr := notFr fl3.2.2.1 he3 hd3
    have nL : a ≠ X.env.locals := fun z => nfr (List.mem_filterMap.mpr ⟨X.env, List.mem_cons_self, by rw [hf, z]⟩)
    have nF : a ∉ X.fs := fun hm => by
      obtain ⟨e, he, q⟩ := List.mem_filterMap.mp hm
      exact nfr (List.mem_filterMap.mpr ⟨e, List.mem_cons_of_mem _ he, q⟩)
    have S3 := J3.suite he3 hd3 na nL nF
    have test : ∀ {x : Str} {c : Value} {np : Pos}, Names X x c → ∀ {Q : Value → Shared → Prop} {E : Value → Shared → Prop}, Q c { s' with heap := h3 } → wpAny (model X.prog X.w) (X.A.mark (some (.ref a))) (eval (.Name x np) X.env) Q E { s' with heap := h3 } := fun {x c np} hc {Q E} q => by
      have h1 : Gl X x := hc.1
      have h2 : (x == ("__debug__" : Str)) = false := hc.2.1
      rcases hc.2.2 with hm | hm
      · exact ld_glob (X := X.suite a ((a, oe3) :: (X.pn ++ pins))) S3 h1 hm q h2
      · exact ld_blt (X := X.suite a ((a, oe3) :: (X.pn ++ pins))) S3 h1 hm.1 hm.2.1 q hm.2.2 h2
    have LT : PySem.W.Looks (model X.prog X.w) h3 (typeOf (.ref a)) cls := fun A Q E s k q => wpAny_typeOf_ref (k _ _ he3) (by rw [hz3.1]; exact q)
    have go : ∀ {hds' : List ExceptHandler} {l' : List Hn}, JH G X hds' l' → wMix G X.K Wout De l' cls d σ' H' →
        wpAny (model X.prog X.w) X.A (handleBy (.ref a) X.env hds') (SP X pins De) X.xe { s' with heap := h3 } := by
      intro hds' l' hk
      induction hk with
      | nil =>
        intro w
        refine wpAny_handleBy_nil ?_
        obtain ⟨k1, k2, k3, oe, vs, T, oT, ts', he, hz, hd, h1, hr⟩ := id fl3
        unfold PySem.passOn
        refine wpAny_bind (wpAny_field he hd h1 ?_)
        rw [if_neg (show ¬ ((Value.ref T == Value.none) = true) from by simp)]
        have fin : wpAny (model X.prog X.w) X.A (setFlight (.ref a) X.env.frame) (fun _ s4 => wpAny (model X.prog X.w) X.A (throw (.ref a) : Sem Flow) (SP X pins De) X.xe s4) X.xe { s' with heap := h3 } := by
          rw [hf]
          refine HandSPX.setFlight_upZ fl3 fun h4 hh4 up4 => wpAny_throw (tk _ _ ?_)
          exact ⟨a, B, sI, pins, σ', H', cls, d, rfl, J, nb, (up.trans up3).trans up4, .inr (.inr (by rw [hs]; exact hh4)), na, os, ag, w⟩
        first
          | exact wpAny_bind (wpAny_pure (wpAny_bind fin))
          | exact wpAny_bind fin
      | @only x c tab ms b₀ suite np pos' hds2 l2 hc ht hsu r ih =>
        intro w
        obtain ⟨b, hb1, hyes, hno⟩ := w
        refine wpAny_handleBy_cons (codeAny_handlers_test ?_) (by intro q; cases q)
        have LM := PySem.W.exm_one (M := model X.prog X.w) (J3.kIn) LT hb1
        refine test hc (LM.here ?_)
        cases b with
        | true =>
          refine codeAny_handlers_suite ?_
          refine HandSPX.lands_againZ fl3 fun h4 fl4 up4 => ?_
          have J4 : Inv X pins σ' H' { s' with heap := h4 } := J.landed nb fl4.1 ((up.trans up3).trans up4) os ag
          obtain ⟨oe4, vs4, he4, hz4, hd4⟩ := fl4.there
          have S4 := J4.suite he4 hd4 na nL nF
          refine wpAny_mono ((@JSs.ps ⟨a, cls, d⟩ _ _ _ _ _ (hsu a oe4 cls d (X.pn ++ pins) hz4 ⟨_, hd4⟩)).run [] _ _ H' _ S4 (hyes rfl a na)) (fun f s6 hsp => ?_) (fun _ _ z => False.elim z)
          cases f with
          | next =>
            obtain ⟨σ6, H6, S6, q6⟩ := hsp
            exact ⟨_, _, S6.unsuite ok, q6⟩
          | brk =>
            obtain ⟨σ6, H6, S6, q6⟩ := hsp
            exact ⟨_, _, S6.unsuite ok, q6⟩
          | cont =>
            obtain ⟨σ6, H6, S6, q6⟩ := hsp
            exact ⟨_, _, S6.unsuite ok, q6⟩
          | ret u =>
            obtain ⟨v6, σ6, H6, S6, r6, q6⟩ := hsp
            exact ⟨_, _, _, S6.unsuite ok, r6, q6⟩
        | false =>
          show wpAny _ X.A (handleBy (.ref a) X.env hds2) _ _ _
          exact ih (hno rfl)
      | @as x n c tab i ms b₀ suite np pos' hds2 l2 hc ht hi hln hsu r ih =>
        intro w
        obtain ⟨b, hb1, hyes, hno⟩ := w
        have hloc : Loc X.env.scope n := .inl hln
        refine wpAny_handleBy_cons (codeAny_handlers_test ?_) (by intro q; cases q)
        have LM := PySem.W.exm_one (M := model X.prog X.w) (J3.kIn) LT hb1
        refine test hc (LM.here ?_)
        cases b with
        | true =>
          refine codeAny_handlers_suite_as ?_
          refine HandSPX.lands_againZ fl3 fun h4 fl4 up4 => ?_
          have J4 : Inv X pins σ' H' { s' with heap := h4 } := J.landed nb fl4.1 ((up.trans up3).trans up4) os ag
          obtain ⟨oe4, vs4, he4, hz4, hd4⟩ := fl4.there
          have S4 := J4.suite he4 hd4 na nL nF
          refine store_ok (X := X.suite a ((a, oe4) :: (X.pn ++ pins))) (v := .ref a) S4 hN hi hloc rfl (fun s5 S5 => ?_) (.inr hln)
          refine wpAny_mono ((@JSs.ps ⟨a, cls, d⟩ _ _ _ _ _ (hsu a oe4 cls d (X.pn ++ pins) hz4 ⟨_, hd4⟩)).run [] s5 _ H' _ S5 (hyes rfl a na)) (fun f s6 hsp => ?_) (fun _ _ z => False.elim z)
          have end_ : ∀ {σ6 : St} {H6 : Hp} {Q : Shared → Prop}, Inv (X.suite a ((a, oe4) :: (X.pn ++ pins))) [] σ6 H6 s6 → (∀ s7, Inv X pins (σ6.set i none) H6 s7 → Q s7) →
              wpAny (model X.prog X.w) X.A (do bindName X.env n .none; unbindBehindTheSuite X.env n pos') (fun _ s7 => Q s7) X.xe s6 := fun {σ6 H6 Q} S6 hq => gone_ok (S6.unsuite ok) hN hi hln hq
          cases f with
          | next =>
            obtain ⟨σ6, H6, S6, q6⟩ := hsp
            exact end_ S6 fun s7 J7 => ⟨_, _, J7, q6⟩
          | brk =>
            obtain ⟨σ6, H6, S6, q6⟩ := hsp
            exact end_ S6 fun s7 J7 => ⟨_, _, J7, q6⟩
          | cont =>
            obtain ⟨σ6, H6, S6, q6⟩ := hsp
            exact end_ S6 fun s7 J7 => ⟨_, _, J7, q6⟩
          | ret u =>
            obtain ⟨v6, σ6, H6, S6, r6, q6⟩ := hsp
            exact end_ S6 fun s7 J7 => ⟨_, _, _, J7, r6, q6⟩
        | false =>
          show wpAny _ X.A (handleBy (.ref a) X.env hds2) _ _ _
          exact ih (hno rfl)
    exact go hh w
  · cases f with
    | next =>
      obtain ⟨σ', H', J', q⟩ := hsp
      exact wpAny_execs_nil ⟨σ', H', J'.ofTry ok, q⟩
    | brk =>
      obtain ⟨σ', H', J', q⟩ := hsp
      exact ⟨σ', H', J'.ofTry ok, q⟩
    | cont =>
      obtain ⟨σ', H', J', q⟩ := hsp
      exact ⟨σ', H', J'.ofTry ok, q⟩
    | ret u =>
      obtain ⟨v, σ', H', J', r, q⟩ := hsp
      exact ⟨v, σ', H', J'.ofTry ok, r, q⟩
end
end Sim

set_option Elab.async false
set_option linter.all false
set_option maxRecDepth 100000
set_option maxHeartbeats 4000000
namespace Sim
open PySem L2
abbrev Hm := (String → Option Bool) × Option Nat × MS
def clrS : S → S
  | .x _ => .u
  | s => s
def clr (F : Fr) : Fr := F.map clrS
def unx (oi : Option Nat) : RS → RS
  | .nx F T => match oi with
    | some i => .nx ((clr F).set i .u) T
    | none => .nx (clr F) T
  | .bk F T => match oi with
    | some i => .bk ((clr F).set i .u) T
    | none => .bk (clr F) T
  | .ct F T => match oi with
    | some i => .ct ((clr F).set i .u) T
    | none => .ct (clr F) T
  | .rt r F T => .rt r (clr F) T
  | .exc _ _ _ => .bad
  | .bad => .bad
def hdl : List Hm → Xc → Fr → Sto → RS
  | [], x, F, T => .exc x F T
  | (tab, oi, ms) :: r, x, F, T => match tab x.c with
    | none => .bad
    | some false => hdl r x F T
    | some true => match oi with
      | some i => unx (some i) (ms ((clr F).set i (.x x)) T)
      | none => unx none (ms (clr F) T)
def sTry (mb : MS) (l : List Hm) : MS := fun F T => match mb F T with
  | .exc x F T => hdl l x F T
  | r => r
section
variable {G : String → Addr} {K : PySem.W.Frag} {A : Act} {T T' : Sto} {F F' : Fr} {σ : St} {g g' g0 : Gs} {W : WX} {H H' : Hp} {φ : Nat → Addr}
theorem clr_get {i : Nat} {s : S} (h : (clr F)[i]? = some s) : s = .u ∨ (F[i]? = some s ∧ ∀ z, s ≠ .x z) := by
  unfold clr at h
  rw [List.getElem?_map] at h
  cases q : F[i]? with
  | none => rw [q] at h; cases h
  | some t =>
    rw [q] at h
    have e : clrS t = s := Option.some.inj h
    subst e
    cases t with
    | u => exact .inl rfl
    | x z => exact .inl rfl
    | e x => exact .inr ⟨rfl, fun z q => by cases q⟩
    | o c => exact .inr ⟨rfl, fun z q => by cases q⟩
/-- from one exception's side to another's -/
theorem Iv.clr (ξ ξ' : EXC) (I : @Iv ξ G K A T F σ g) : @Iv ξ' G K A T (clr F) σ g := by
  have I' := I
  obtain ⟨h1, h2, h3, h4, h5, h6, h7, h8, h9, h10, h11, h12, h13⟩ := I
  refine @Iv.mk ξ' G K A T (Sim.clr F) σ g (by rw [← h1]; unfold Sim.clr; rw [List.length_map]) h2 h3 h4 h5 h6 h7 h8 h9 h10 h11 (fun i s hs => ?_) fun i j c c' hi hj e => ?_
  · rcases clr_get hs with rfl | ⟨q, n⟩
    · trivial
    · have r := h12 i s q
      cases s with
      | u => trivial
      | x z => exact absurd rfl (n z)
      | e x => exact r
      | o c => exact r
  · rcases clr_get hi with z | ⟨q, _⟩
    · cases z
    · rcases clr_get hj with z | ⟨q', _⟩
      · cases z
      · exact h13 i j c c' q q' e
theorem Iv.setX (ξ : EXC) (I : @Iv ξ G K A T F σ g) {i : Nat} {z : Xc} (h : XDenH G K g.W z ξ.ecls ξ.ed) : @Iv ξ G K A T (F.set i (.x z)) (σ.set i (some (.ref ξ.ea))) g := by
  refine @Iv.mk ξ G K A T _ _ g (by rw [List.length_set, List.length_set, I.len]) I.dom I.base I.prot I.agr I.grow I.kS I.lv I.sc I.liv I.inj (fun j s hs => ?_) fun j k c c' hj hk e => ?_
  · have hl : j < F.length := by
      have := (List.getElem?_eq_some_iff.mp hs).1
      rwa [List.length_set] at this
    rcases set_get hs with ⟨rfl, rfl⟩ | ⟨ne, q⟩
    · exact ⟨by rw [List.getElem?_set_self (by rw [← I.len]; exact hl)], h⟩
    · rw [List.getElem?_set_ne (Ne.symm ne)]
      exact I.slot j s q
  · rcases set_get hj with ⟨rfl, z⟩ | ⟨n1, q1⟩
    · cases z
    · rcases set_get hk with ⟨rfl, z⟩ | ⟨n2, q2⟩
      · cases z
      · rw [List.getElem?_set_ne (Ne.symm n1), List.getElem?_set_ne (Ne.symm n2)] at e
        exact I.dis j k c c' q1 q2 e
theorem RDen.clr {r : RV} {v : V} (h : RDen G K A T F σ g r v) : RDen G K A T (Sim.clr F) σ g r v := by
  cases r with
  | o x => exact h
  | fr c =>
    obtain ⟨a, e, R⟩ := h
    exact ⟨a, e, R.sc, R.own, R.own0, R.liv, fun j c' hj => by
      rcases clr_get hj with z | ⟨q, _⟩
      · cases z
      · exact R.slot j c' q, R.at_⟩
/-- the ends of a suite -/
def dSu (oi : Option Nat) (De : Ends) : Ends := match oi with
  | some i => { nx := fun σ' H' => De.nx (σ'.set i none) H', rt := De.rt, bk := fun σ' H' => De.bk (σ'.set i none) H', ct := fun σ' H' => De.ct (σ'.set i none) H' }
  | none => De
theorem post_unx (ξ ξ' : EXC) {oi : Option Nat} {r : RS} {De : Ends} {T1 : Sto} {g1 : Gs} (l : Le T T1 g g1) (p : @RS.Post ξ G K W A T g De (unx oi r)) : @RS.Post ξ' G K W0 A T1 g1 (dSu oi De) r := by
  cases r with
  | nx F T2 =>
    intro g2 σ2 I2 l2
    cases oi with
    | none => exact p g2 σ2 (Iv.clr ξ' ξ I2) (l.trans l2)
    | some i => exact p g2 _ (@Iv.setU ξ _ _ _ _ _ _ _ (Iv.clr ξ' ξ I2) i none) (l.trans l2)
  | bk F T2 =>
    intro g2 σ2 I2 l2
    cases oi with
    | none => exact p g2 σ2 (Iv.clr ξ' ξ I2) (l.trans l2)
    | some i => exact p g2 _ (@Iv.setU ξ _ _ _ _ _ _ _ (Iv.clr ξ' ξ I2) i none) (l.trans l2)
  | ct F T2 =>
    intro g2 σ2 I2 l2
    cases oi with
    | none => exact p g2 σ2 (Iv.clr ξ' ξ I2) (l.trans l2)
    | some i => exact p g2 _ (@Iv.setU ξ _ _ _ _ _ _ _ (Iv.clr ξ' ξ I2) i none) (l.trans l2)
  | rt x F T2 =>
    intro g2 σ2 v I2 l2 rd
    have q := p g2 σ2 v (Iv.clr ξ' ξ I2) (l.trans l2) (RDen.clr rd)
    cases oi <;> exact q
  | exc x F T2 => exact p.elim
  | bad => exact p.elim
theorem hdl_core (ξ : EXC) {De : Ends} {x : Xc} {F1 : Fr} {T1 : Sto} : ∀ {l : List Hn}, (∀ h ∈ l, ∀ k b, h.2.1 k = some b → PySem.W.exmOne K (.ref (G k)) h.1 = some b) → @RS.Post ξ G K W A T g De (hdl (l.map (·.2)) x F1 T1) →
    ∀ g' σ' cls d, @Iv ξ G K A T1 F1 σ' g' → Le T T1 g g' → XDen G K g' x cls d → wMix G K W De l cls d σ' g'.H
  | [], _, p, g', σ', cls, d, I', l', xd => p g' σ' cls d I' l' xd
  | (c, tab, oi, ms) :: r, ht, p, g', σ', cls, d, I', l', xd => by
    have htr : ∀ h ∈ r, ∀ k b, h.2.1 k = some b → PySem.W.exmOne K (.ref (G k)) h.1 = some b := fun h hh => ht h (List.mem_cons_of_mem _ hh)
    have p' : @RS.Post ξ G K W A T g De (match tab x.c with
      | none => .bad
      | some false => hdl (r.map (·.2)) x F1 T1
      | some true => match (generalizing := false) oi with
        | some i => unx (some i) (ms ((clr F1).set i (.x x)) T1)
        | none => unx none (ms (clr F1) T1)) := p
    cases hb : tab x.c with
    | none => rw [hb] at p'; exact p'.elim
    | some b =>
      rw [hb] at p'
      have e := ht (c, tab, oi, ms) List.mem_cons_self x.c b hb
      have e' : PySem.W.exmOne K cls c = some b := by rw [xd.1]; exact e
      cases b with
      | false =>
        have q := hdl_core ξ htr p' g' σ' cls d I' l' xd
        cases oi <;> exact ⟨false, e', (fun z => nomatch z), fun _ => q⟩
      | true =>
        cases oi with
        | none =>
          have p2 : @RS.Post ξ G K W A T g De (unx none (ms (clr F1) T1)) := p'
          refine ⟨true, e', fun _ a ha => ?_, (fun z => nomatch z)⟩
          exact ⟨A, T1, clr F1, g', rfl, Iv.clr ξ ⟨a, cls, d⟩ I', post_unx ξ ⟨a, cls, d⟩ l' p2⟩
        | some i =>
          have p2 : @RS.Post ξ G K W A T g De (unx (some i) (ms ((clr F1).set i (.x x)) T1)) := p'
          refine ⟨true, e', fun _ a ha => ?_, (fun z => nomatch z)⟩
          exact ⟨A, T1, (clr F1).set i (.x x), g', rfl, Iv.setX ⟨a, cls, d⟩ (Iv.clr ξ ⟨a, cls, d⟩ I') xd, post_unx ξ ⟨a, cls, d⟩ l' p2⟩
theorem try_core [ξ : EXC] {mb : MS} {l : List Hn} (ht : ∀ h ∈ l, ∀ k b, h.2.1 k = some b → PySem.W.exmOne K (.ref (G k)) h.1 = some b) : SS G K W (fun De σ H => tsO G K (wMix G K W De l) mb De σ H) (sTry mb (l.map (·.2))) := by
  intro A T F σ g De I p
  refine ⟨A, T, F, g, rfl, I, ?_⟩
  have p' : RS.Post G K W A T g De (match mb F T with | .exc x F T => hdl (l.map (·.2)) x F T | r => r) := p
  cases q : mb F T with
  | exc x F1 T1 =>
    rw [q] at p'
    exact fun g' σ' cls d I' l' xd => hdl_core ξ ht p' g' σ' cls d I' l' xd
  | nx F1 T1 => rw [q] at p'; exact p'
  | rt r F1 T1 => rw [q] at p'; exact p'
  | bk F1 T1 => rw [q] at p'; exact p'
  | ct F1 T1 => rw [q] at p'; exact p'
  | bad => rw [q] at p'; exact p'
end
theorem JH.ht {G : String → Addr} {X : Cx} : ∀ {hds : List ExceptHandler} {l : List Hn}, JH G X hds l → ∀ h ∈ l, ∀ k b, h.2.1 k = some b → PySem.W.exmOne X.K (.ref (G k)) h.1 = some b := by
  intro hds l h
  induction h with
  | nil => intro h hh; cases hh
  | only hc ht hsu r ih =>
    intro h hh
    rcases List.mem_cons.mp hh with rfl | hh
    · exact ht
    · exact ih h hh
  | as hc ht hi hln hsu r ih =>
    intro h hh
    rcases List.mem_cons.mp hh with rfl | hh
    · exact ht
    · exact ih h hh
section
variable [EXC] {G : String → Addr} {X : Cx} {W : WX} {body : List Stmt} {h₀ : ExceptHandler} {hds : List ExceptHandler} {l : List Hn} {pos : Pos} {mb : MS}
theorem js_try (hs : X.stack = X.env :: X.outer) (hf : X.env.frame = some X.env.locals) (hN : X.N.Nodup) (tk : Takes X W)
    (hb : ∀ (W : WX) (pn : List (Addr × Obj)) (xe : Value → Shared → Prop), Takes (X.tr pn xe) W → PassesOwn (model X.prog X.w) X.A X.env xe → JSs G (X.tr pn xe) W body mb)
    (hh : JH G X (h₀ :: hds) l) : JS G X W (.Try body (h₀ :: hds) [] [] pos) (sTry mb (l.map (·.2))) :=
  ⟨_, ps_try_mix hs hf hN tk (tb := fun W => tsO G X.K W mb) (fun W pn xe t p => (hb W pn xe t p).ps) hh, try_core hh.ht⟩
/-! ### what a suite asks of its exception -/
end
def kfind (fs : List (String × D)) (f : String) : Option D := (fs.find? fun x => x.1 == f).map (·.2)
theorem ofs_inj {a b : String} (h : Str.ofString a = Str.ofString b) : a = b := by
  rw [Str.ofString_eq_toList, Str.ofString_eq_toList] at h
  have h1 : a.toList.map Char.toNat = b.toList.map Char.toNat := by
    injection h with h
    have := congrArg Array.toList h
    simpa using this
  have key : ∀ l m : List Char, l.map Char.toNat = m.map Char.toNat → l = m := by
    intro l
    induction l with
    | nil => intro m e; cases m with
      | nil => rfl
      | cons _ _ => simp at e
    | cons x r ih => intro m e; cases m with
      | nil => simp at e
      | cons y t =>
        rw [List.map_cons, List.map_cons, List.cons.injEq] at e
        rw [Char.toNat_inj.mp e.1, ih t e.2]
  exact String.toList_inj.mp (key _ _ h1)
end Sim
namespace Sim
open PySem PySem.W PySem.Calls PyProof.Rows
section
variable {prog : Program} {w : World} {A : PySem.Around} {E : Value → Shared → Prop} {s : Shared} {K : PySem.W.Frag} {x D : Addr} {ox : Obj} {od : Option Obj}
/-- an own exception's class, read off it (with its dict or without) -/
theorem cls_of_exc {Q : Option Value → Shared → Prop} (hga : findIn K (.ref D) "__getattribute__" = some (some (.builtin "BaseException.__getattribute__"))) (hgt : findIn K (.ref D) "__getattr__" = some none) (hsub : subIn K (.ref D) (.type "BaseException") = some true)
    (hf : findObj K D od "__class__" = some (.bind (.builtin "getset_descriptor.__get__") (.builtin "object.__class__"))) (hm : mroIn K D (.type "object") = some true)
    (X : K.In s.heap) (I : InstAt s.heap x ox D od) (h : Q (some (.ref D)) { s with toks := s.toks + 1 }) : wpAny (model prog w) A (getAttr? (.ref x) "__class__") Q E s := by
  obtain ⟨hp, g, d, t, os⟩ := s
  have L0 := I.type (M := model prog w)
  have L1 := looks_findIn (M := model prog w) X hga
  have L2 := looks_findIn (M := model prog w) X hgt
  have L3 := looks_find (M := model prog w) X I hf
  have sub : Looks (model prog w) hp (isInstance (.ref x) (.type "BaseException")) true := L0.andThen (looks_subIn X hsub)
  have hx0 : (false && onTheHeap (Value.builtin "BaseException.__getattribute__")) = false := rfl
  have hx2 : (Value.builtin "BaseException.__getattribute__" == Value.builtin "object.__getattribute__") = false := by decide +kernel
  have hx1 : (onTheHeap (Value.ref D) && Value.builtin "BaseException.__getattribute__" == Value.builtin "object.__getattribute__") = false := by rw [hx2]; rfl
  unfold getAttr? getAttrBy? getAttrBy
  refine wpAny_bind (wpAny_mkText (wpAny_bind (wpAny_attempt (wpAny_holding (wpAny_bind (L0.at (wpAny_bind (L1.at ?_))))))))
  show wpAny _ _ (if (onTheHeap (Value.ref D) && Value.builtin "BaseException.__getattribute__" == Value.builtin "object.__getattribute__") = true then _ else _) _ _ _
  rw [hx1, if_neg Bool.false_ne_true]
  unfold getAttrByItsOwn hookBefore
  refine wpAny_bind ?_
  rw [if_pos (show onTheHeap (Value.ref D) = true from rfl)]
  refine L2.at ?_
  refine wpAny_bind (wpAny_attempt (wpAny_holding ?_))
  unfold callGetattribute
  rw [hx0, if_neg Bool.false_ne_true]
  unfold boundAndCalled
  rw [PySem.F.excAttr_ValueError.ga.bind (.ref x)]
  refine wpAny_bind (wpAny_pure ?_)
  show wpAny _ _ (call (.builtin "BaseException.__getattribute__") [.ref x, .str "__class__" t]) _ _ _
  refine wpAny_call (codeAny_call_builtin PySem.F.excAttr_ValueError.ga.plain PySem.F.entry_bexc_ga ?_)
  refine @check_slot (model prog w) _ _ ⟨hp, g, d, t + 1, os⟩ "BaseException.__getattribute__" "BaseException" "__getattribute__" (.ref x) [.str "__class__" t] [] _ (by decide +kernel) (by decide +kernel) sub (PySem.F.args_bexc_ga (.ref x) (.str "__class__" t)) ?_
  unfold Builtin.«object.__getattribute__»
  refine wpAny_bind (wpAny_of_eq (a := ((Value.ref x : Value), [Value.str "__class__" t])) (by first | rfl | (simp only [slotArgs]; rfl)) ?_)
  refine wpAny_bind (wpAny_pure (wpAny_bind (L0.at (wpAny_bind (L3.at ?_)))))
  show wpAny _ _ (holding [Value.builtin "object.__class__"] (call (.builtin "getset_descriptor.__get__") [.builtin "object.__class__", .ref x, .ref D]) >>= ret) _ _ _
  refine wpAny_bind (wpAny_holding (wpAny_call (class_get (s := ⟨hp, g, d, t + 1, os⟩) (ox := ox) (od := od) X I hm ?_)))
  refine wpAny_pure ?_
  show wpAny _ _ (handedOut (.ref D)) _ _ _
  rw [handedOut_of (v := .ref D) rfl]
  first
    | exact wpAny_pure (wpAny_pure h)
    | exact wpAny_pure h
    | exact wpAny_pure (wpAny_bind (wpAny_pure (wpAny_pure h)))
theorem kitx_exc (C : L2.ExcC K D) (hf : findObj K D od "__class__" = some (.bind (.builtin "getset_descriptor.__get__") (.builtin "object.__class__"))) : KitX K (.ref x) (.ref D) (fun h => InstAt h x ox D od) where
  ty := fun _ _ _ I => I.type
  it := fun M h X _ => by
    obtain ⟨cdD, hcD, _⟩ := any_some C.hd
    unfold clsIn at hcD
    split at hcD
    · rename_i c' d' cd' sl' ho
      intro A' Q' E' s' k q
      unfold isType loadHead
      exact wpAny_bind (wpAny_loadPart (k _ _ (X _ _ ho)) (wpAny_pure q))
    · cases hcD
  ne := fun h tp dd its n sl X htp => (PySem.W.handS_kitx_exc (x := x) (ox := ox) C.hg C.hk C.hs C.hd C.ha C.hn C.ht C.hm).ne h tp dd its n sl X htp
  ca := fun X I k => cls_of_exc C.hg C.hk C.hs hf C.hm X I k
end
end Sim
namespace Sim
open PySem L2
/-- isinstance(e, C), e the exception of the suite, with its dict -/
def rIsX (K : PySem.W.Frag) (cls : Value) (d : Option Addr) (a : Addr) : List V → Hp → VK → Prop := fun xs H Q => ∃ (D : Addr) (c : V) (cv : Value) (b : Bool), cls = .ref D ∧ ExcC K D ∧ (∀ dd, d = some dd → ∃ fs, H dd = some (.xd fs)) ∧
  xs = [.ref a, c] ∧ ClsV c cv ∧ PySem.W.kitOne K (.ref D) cv = some b ∧ Q (.bl b) H
theorem call_isX {X : Cx} {a : Addr} {oe : Obj} {cls : Value} {d : Option Addr} {pn : List (Addr × Obj)} (hz : Zc cls d oe) (hf : ∃ vs, oe.data = .fields vs) : CallR (X.suite a ((a, oe) :: pn)) (.builtin "isinstance") (rIsX X.K cls d a) := by
  intro pins s σ H xs us Q I r h
  obtain ⟨D, c, cv, b, rfl, C, hd, rfl, k, e, q⟩ := h
  obtain ⟨u1, u2, rfl, r1, r2⟩ := vals2 r
  have e2 := k.eq r2
  subst e2
  obtain rfl : u1 = Value.ref a := r1
  obtain ⟨ha, _⟩ := I.pin (a, oe) (List.mem_append_left _ List.mem_cons_self)
  obtain ⟨vs, hv⟩ := hf
  have hcl : (PySem.W.clsIn X.K D).isSome = true := by
    obtain ⟨cd, hc, _⟩ := PySem.W.any_some C.hd
    rw [hc]
    rfl
  have J : ∃ od, PySem.W.InstAt s.heap a oe D od := by
    cases d with
    | none =>
      obtain ⟨oc, od, oda, osl⟩ := oe
      obtain ⟨h1, h2⟩ := hz
      dsimp only at h1 h2 hv
      subst h1 h2 hv
      exact ⟨none, ha, rfl, rfl, trivial⟩
    | some dd =>
      obtain ⟨fs, hx⟩ := hd dd rfl
      have ob : ObjOk X.prog X.w H s.heap dd (.xd fs) := I.hok dd _ hx
      obtain ⟨mA, hns, hr⟩ := ob
      obtain ⟨od, ho, hl⟩ := lookIn_ns hns
      exact ⟨some od, ha, hz.1, by unfold PySem.W.notCls; rw [hv] <;> rfl, by rw [hz.2]; exact ho⟩
  obtain ⟨od, J⟩ := J
  have hfo : PySem.W.findObj X.K D od "__class__" = some (.bind (.builtin "getset_descriptor.__get__") (.builtin "object.__class__")) := by
    cases od with
    | none => exact PySem.W.findObj_dataN hcl C.ha C.hn C.ht
    | some od => exact PySem.W.findObj_data hcl C.ha C.hn C.ht
  exact PySem.W.kia_one (kitx_exc C hfo) I.kIn J e (fun z => nomatch z) fun tk => ⟨.bl b, H, I.kept (t' := tk) fun _ _ z => z, rfl, q⟩
theorem DenF.find {G : String → Addr} {K : PySem.W.Frag} {H : Hp} {f : String} : ∀ {fs : List (String × D)} {us : List (Str × V)} {d : D}, DenF G K H fs us → kfind fs f = some d → ∃ v, us.lookup (Str.ofString f) = some v ∧ Den G K H d v
  | [], us, d, h, e => by cases e
  | (k, x) :: r, us, d, ⟨v, w, e1, h1, h2⟩, e => by
    subst e1
    unfold kfind at e
    rw [List.find?_cons] at e
    by_cases ek : k = f
    · subst ek
      have eb : (k == k) = true := beq_self_eq_true k
      simp only [eb] at e
      cases e
      exact ⟨v, by simp [List.lookup], h1⟩
    · have eb : (k == f) = false := beq_eq_false_iff_ne.mpr ek
      simp only [eb] at e
      obtain ⟨u, h3, h4⟩ := DenF.find h2 e
      have ne : (Str.ofString f == Str.ofString k) = false := beq_eq_false_iff_ne.mpr fun z => ek (ofs_inj z).symm
      exact ⟨u, by simp [List.lookup, ne, h3], h4⟩
/-- e.f, e the exception of the suite, of the class c -/
def cXf (c f : String) (i : Nat) : MO := fun F T => match F[i]? with
  | some (.x z) => if z.c = c then match kfind z.fs f with
      | some d => .ok (.e (.p d)) F T
      | none => .bad
    else .bad
  | _ => .bad
/-- isinstance(e, C) -/
def cIsX (tab : String → Option Bool) (i : Nat) : MO := fun F T => match F[i]? with
  | some (.x z) => match tab z.c with
    | some b => .ok (.e (.p (.bl b))) F T
    | none => .bad
  | _ => .bad
section
variable {G : String → Addr} {X : Cx} {a : Addr} {oe : Obj} {cls : Value} {d : Option Addr} {pn : List (Addr × Obj)} {W : WX} {pos np p : Pos} {n : Str} {i : Nat} {c f : String}
theorem jo_xf (T : XfC X.K (G c)) (hno : PySem.W.findIn X.K (.ref (G c)) (Str.ofString f) = some none) (hz : Zc cls d oe) (hf : ∃ vs, oe.data = .fields vs) (hN : X.N[i]? = some n) (hv : Vis X.env.scope n) (hd : (n == ("__debug__" : Str)) = false := by decide) (hcd : (n == ("__classdict__" : Str)) = false := by decide)
    (hb : attributeBase (.Name n np) (Str.ofString f) X.env (eval (.Name n np) X.env) = eval (.Name n np) X.env := by rfl) : @JO ⟨a, cls, d⟩ G (X.suite a ((a, oe) :: pn)) W (.Attribute (.Name n np) (Str.ofString f) pos) (cXf c f i) := by
  letI : EXC := ⟨a, cls, d⟩
  refine ⟨_, pe_xf T hno hz hf (pe_var (X := X.suite a ((a, oe) :: pn)) (pos := np) hN hv hd hcd) hb, fun A T' F σ g Q I p => ?_⟩
  unfold cXf at p
  split at p
  · rename_i z hz'
    split at p
    · rename_i hc
      split at p
      · rename_i dv hk
        obtain ⟨h1, h2, h3⟩ := I.slot i _ hz'
        refine ⟨.ref a, h1, rfl, by rw [← hc]; exact h2, ?_⟩
        cases d with
        | none =>
          have e : z.fs = [] := h3
          rw [e] at hk
          cases hk
        | some dd =>
          obtain ⟨us, h4, h5⟩ := h3
          obtain ⟨v, h6, h7⟩ := h5.find hk
          exact ⟨dd, us, v, rfl, vw_le.fm dd (.xd us) trivial h4, h6, p g v I Le.refl ⟨scp, h7⟩⟩
      · exact p.elim
    · exact p.elim
  · exact p.elim
theorem jo_isx {b : Expr} {u : Value} {cv : V} {tab : String → Option Bool} (hk : ∀ k r, tab k = some r → ExcC X.K (G k) ∧ PySem.W.kitOne X.K (.ref (G k)) u = some r) (kc : ClsV cv u) (hb : PE (X.suite a ((a, oe) :: pn)) b (tC cv)) (hz : Zc cls d oe) (hf : ∃ vs, oe.data = .fields vs)
    (hN : X.N[i]? = some n) (hv : Vis X.env.scope n) (hg : Gl X "isinstance") (hm : X.mg "isinstance" = none) (hd : (n == ("__debug__" : Str)) = false := by decide) (hcd : (n == ("__classdict__" : Str)) = false := by decide)
    (h1 : starEach [.Name n np, b] X.env = (false, eval (.Name n np) X.env) :: starEach [b] X.env := by rfl) (h2 : starEach [b] X.env = (false, eval b X.env) :: starEach [] X.env := by rfl) (hpl : (backTo pos (starEach [b] X.env)).any (·.1) = false := by rfl) :
    @JO ⟨a, cls, d⟩ G (X.suite a ((a, oe) :: pn)) W (.Call (.Name "isinstance" p) [.Name n np, b] [] pos) (cIsX tab i) := by
  letI : EXC := ⟨a, cls, d⟩
  refine ⟨_, pe_callB (X := X.suite a ((a, oe) :: pn)) (call_isX hz hf) hg hm (by decide +kernel) (pa_cons (pe_var (X := X.suite a ((a, oe) :: pn)) (pos := np) hN hv hd hcd) (pa_cons hb pa_nil h2) h1) (by decide) (by decide) h1 hpl, fun A T' F σ g Q I p => ?_⟩
  unfold cIsX at p
  split at p
  · rename_i z hz'
    split at p
    · rename_i r hr
      obtain ⟨h1, h2, h3⟩ := I.slot i _ hz'
      obtain ⟨C, ki⟩ := hk z.c r hr
      refine ⟨.ref a, h1, ⟨G z.c, cv, u, r, h2, C, fun dd hd => ?_, rfl, kc, ki, p g _ I Le.refl ⟨scp, rfl⟩⟩⟩
      have hd' : d = some dd := hd
      subst hd'
      obtain ⟨us, h4, h5⟩ := h3
      exact ⟨us, vw_le.fm dd (.xd us) trivial h4⟩
    · exact p.elim
  · exact p.elim
end
end Sim

set_option Elab.async false
set_option linter.all false
set_option maxRecDepth 100000
set_option maxHeartbeats 4000000
namespace Sim
open PySem L2
variable [EXC]
section
variable {G : String → Addr} {K : PySem.W.Frag} {A : Act} {T T' : Sto} {F F' : Fr} {σ : St} {g g' g0 : Gs} {W : WX} {H H' : Hp} {φ : Nat → Addr}
/-! ### a root becomes a cell -/
def gPush (g : Gs) (n : Nat) (a : Addr) : Gs := ⟨g.own, fun m => if m = n then a else g.φ m, g.H⟩
theorem Iv.pushT (I : Iv G K A T F σ g) {a : Addr} {c : C} (R : Root G K A T F σ g a c) : Iv G K A (T ++ [c]) F σ (gPush g T.length a) ∧ Le T (T ++ [c]) g (gPush g T.length a) := by
  have agr : ∀ n, n < T.length → (gPush g T.length a).φ n = g.φ n := fun n hn => if_neg (by omega)
  have at_ : (gPush g T.length a).φ T.length = a := if_pos rfl
  have len : (T ++ [c]).length = T.length + 1 := by rw [List.length_append, List.length_singleton]
  have le : Le T (T ++ [c]) g (gPush g T.length a) := ⟨Ext.refl _, agr, by rw [len]; omega⟩
  have cat : ∀ b d, d.sc T.length = true → CAt G K g b d → CAt G K (gPush g T.length a) b d := fun b d s ⟨o, h1, h2⟩ => ⟨o, h1, le.c s h2⟩
  have get : ∀ {n : Nat} {d : C}, (T ++ [c])[n]? = some d → (n < T.length ∧ T[n]? = some d) ∨ (n = T.length ∧ d = c) := fun {n d} h => by
    by_cases hn : n < T.length
    · rw [List.getElem?_append_left hn] at h
      exact .inl ⟨hn, h⟩
    · rw [List.getElem?_append_right (by omega)] at h
      by_cases e : n = T.length
      · subst e
        rw [Nat.sub_self] at h
        cases h
        exact .inr ⟨rfl, rfl⟩
      · have : n - T.length = (n - T.length - 1) + 1 := by omega
        rw [this] at h
        simp at h
  refine ⟨⟨I.len, I.dom, I.base, I.prot, fun n hn => (agr n (Nat.lt_of_lt_of_le hn I.kS)).trans (I.agr n hn), I.grow, by rw [len]; have := I.kS; omega, fun l hl L m d hm hd => ?_, fun m d hm hd => ?_, fun n d hd => ?_, fun n m hn hm e => ?_, fun i s hs => ?_, I.dis⟩, le⟩
  · have hm' : m < T.length := by have := I.kS; omega
    rw [List.getElem?_append_left hm'] at hd
    exact I.lv l hl L m d hm hd
  · rw [len]
    rcases get hd with ⟨h1, h2⟩ | ⟨h1, rfl⟩
    · exact C.sc_mono (by omega) (I.sc m d h1 h2)
    · exact C.sc_mono (by omega) R.sc
  · rcases get hd with ⟨h1, h2⟩ | ⟨rfl, rfl⟩
    · obtain ⟨h3, h4, h5⟩ := I.liv n d h2
      rw [agr n h1]
      exact ⟨h3, h4, cat _ _ (I.sc n d h1 h2) h5⟩
    · rw [at_]
      exact ⟨R.own, I.nprot R.own0, cat _ _ R.sc R.at_⟩
  · rw [len] at hn hm
    by_cases e1 : n < T.length
    · rw [agr n e1] at e
      by_cases e2 : m < T.length
      · rw [agr m e2] at e
        exact I.inj n m e1 e2 e
      · have : m = T.length := by omega
        subst this
        rw [at_] at e
        exact absurd e (R.liv n e1)
    · have : n = T.length := by omega
      subst this
      rw [at_] at e
      by_cases e2 : m < T.length
      · rw [agr m e2] at e
        exact absurd e.symm (R.liv m e2)
      · omega
  · have q := I.slot i s hs
    cases s with
    | u => trivial
    | x z => exact q
    | e d =>
      obtain ⟨q1, v, q2, q3⟩ := q
      exact ⟨E.sc_mono le.len q1, v, q2, le.e q1 q3⟩
    | o d =>
      obtain ⟨q1, b, q2, q3, q4, q5, q6⟩ := q
      refine ⟨C.sc_mono le.len q1, b, q2, q3, q4, fun n hn => ?_, cat _ _ q1 q6⟩
      rw [len] at hn
      by_cases e1 : n < T.length
      · rw [agr n e1]; exact q5 n e1
      · have : n = T.length := by omega
        subst this
        rw [at_]
        intro z
        subst z
        exact R.slot i d hs q2
def sAsgL (i : Nat) (m : ME) : MS := fun F T => (m F T).st fun r F T => match r with
  | .fr c => .nx (F.set i (.e (.loc T.length))) (T ++ [c])
  | .o (.e x) => .nx (F.set i (.e x)) T
  | .o (.sl _) => .bad
theorem asgL_core {te : TE} {m : ME} {i : Nat} (h : SE G K W te m) : SS G K W (tAsg te (gName i)) (sAsgL i m) := by
  intro A T F σ g D I p
  refine h A T F σ g _ I ((st_post p).imp (fun r F1 T1 p1 g1 v I1 l1 d1 => ?_) fun _ _ _ q => st_wish q)
  cases r with
  | o x =>
    cases x with
    | e x => exact p1 g1 _ (I1.setE d1.1 d1.2) l1
    | sl j => exact False.elim p1
  | fr c =>
    obtain ⟨a, rfl, R⟩ := d1
    obtain ⟨I2, l2⟩ := I1.pushT R
    have s : (E.loc T1.length).sc (T1 ++ [c]).length = true := by
      rw [E.sc, List.length_append, List.length_singleton]
      exact decide_eq_true (Nat.lt_succ_self _)
    have d : EDen G K (gPush g1 T1.length a).W (gPush g1 T1.length a).φ (.loc T1.length) (.ref a) := by
      show V.ref a = V.ref (if T1.length = T1.length then a else g1.φ T1.length)
      rw [if_pos rfl]
    exact p1 (gPush g1 T1.length a) _ (I2.setE s d) (l1.trans l2)
def sAsgG (mg : MG) (m : MO) : MS := fun F T => (m F T).st fun x F T => match x with
  | .e x => match mg x F with
    | some F' => .nx F' T
    | none => .bad
  | _ => .bad
theorem asgG_core {te : TE} {t : TG} {mg : MG} {ss : List Nat} {m : MO} (h : SO G K W te m) (hg : TgOk G K t mg ss) : SS G K W (tAsg te t) (sAsgG mg m) := by
  intro A T F σ g D I p
  refine h A T F σ g _ I ((st_post p).imp (fun r F1 T1 p1 g1 v I1 l1 d1 => ?_) fun _ _ _ q => st_wish q)
  cases r with
  | sl j => exact False.elim p1
  | e x =>
    have p1' : RS.Post G K W A T g D (match mg x F1 with | some F' => .nx F' T1 | none => .bad) := p1
    cases z : mg x F1 with
    | none => rw [z] at p1'; exact p1'.elim
    | some F2 =>
      rw [z] at p1'
      exact hg A T1 F1 F2 σ g1 x v _ I1 d1.1 d1.2 z fun σ' I' _ => p1' g1 σ' I' l1
end
section
variable {G : String → Addr} {X : Cx} {W : WX} {pos p apos cpos tpos : Pos} {tg e : Expr} {mg : MG} {ss : List Nat} {m : ME} {mo : MO} {i : Nat} {x : Str} {xp : Pos}
theorem js_asgL (hN : X.N.Nodup) (hi : X.N[i]? = some x) (hx : Loc X.env.scope x) (h : JE G X W e m) (hf : X.fn x = true ∨ X.env.scope.names.lookup x = some .local := by first | exact .inl rfl | exact .inr rfl)
    (hs : swapsWithSole [.Name x xp] e pos.line X.env = pure false := by rfl) (hw : swappedStores [.Name x xp] e X.env = pure none := by rfl) (h1 : (assignEach [.Name x xp] X.env).map (·.2) = [assign (.Name x xp) X.env] := by rfl) : JS G X W (.Assign [.Name x xp] e pos) (sAsgL i m) := by
  obtain ⟨te, pe, s⟩ := h.ex
  exact ⟨_, ps_asg pe (pg_name hN hi hx hf) hs hw h1, asgL_core s⟩
theorem js_asgG (h : JO G X W e mo) (hg : JG G X tg mg ss) (hs : swapsWithSole [tg] e pos.line X.env = pure false := by rfl) (hw : swappedStores [tg] e X.env = pure none := by rfl) (h1 : (assignEach [tg] X.env).map (·.2) = [assign tg X.env] := by rfl) : JS G X W (.Assign [tg] e pos) (sAsgG mg mo) := by
  obtain ⟨te, pe, s⟩ := h.ex
  obtain ⟨t, pg, sg⟩ := hg.ex
  exact ⟨_, ps_asg pe pg hs hw h1, asgG_core s sg⟩
theorem js_setLcL {elt iter : Expr} {ifs : List Expr} {mi : MI} {t : MT} {el : MO} {scope : Scope} {own : List (Str × Nat)} {py spos : Pos} {y : Str} (hc : X.calm = true) (hN : X.N.Nodup) (hy : X.N[i]? = some y) (hyl : X.env.scope.names.lookup y = some .local) (hsw : swapsWith (.ListComp elt [⟨tg, iter, ifs, 0⟩] scope pos) (some (.Name y py)) spos.line X.env = pure true)
    (hi : JI G X W tg iter mi) (ok : BlkOk X.N X.env.scope scope own) (hss : ∀ i ∈ ss, i ∈ own.map (·.2))
    (hg : ∀ (s : Shared) (H : Hp) (C : Addr) (cl : List (Str × Addr)) (fp : List Addr), JG G (X.blk s H scope (compEnvC scope cl C X.env) fp) tg mg ss)
    (ht : ∀ (s : Shared) (H : Hp) (C : Addr) (cl : List (Str × Addr)) (fp : List Addr), JTs G (X.blk s H scope (compEnvC scope cl C X.env) fp) W0 ifs t)
    (he : ∀ (s : Shared) (H : Hp) (C : Addr) (cl : List (Str × Addr)) (fp : List Addr), JO G (X.blk s H scope (compEnvC scope cl C X.env) fp) W0 elt el) (hs : ∀ x, foldedSetIterable iter X.env x = pure x := by intro _; rfl) :
    JS G X W (.Assign [.Name y py] (.ListComp elt [⟨tg, iter, ifs, 0⟩] scope pos) spos) (sAsgL i (cLc mi mg t el (own.map (·.2)))) := by
  obtain ⟨te, p, s⟩ := setLc_core hc hN hy hyl hsw hi ok hss hg ht he hs
  exact ⟨_, p, asgL_core s⟩
end
/-- a built-in class as isinstance's second argument -/
theorem pe_tyn {X : Cx} {x : Str} {n : String} {pos : Pos} (hg : Gl X x) (hm : X.mg x = none) (hv : bootBuiltins x = some (.type n)) (hn : x ≠ "__name__" := by decide) (hd : (x == ("__debug__" : Str)) = false := by decide) : PE X (.Name x pos) (tC (.ty n)) := pe_bltn hg hm hv rfl hn hd
theorem pe_cls {X : Cx} {x : Str} {C : Addr} {pos : Pos} (hg : Gl X x) (hm : X.mg x = some (.ref C)) (hd : (x == ("__debug__" : Str)) = false := by decide) : PE X (.Name x pos) (tC (.ref C)) := pe_glob hg hm rfl hd
/-- isinstance of built-in values asked for a built-in class -/
def bTy (n : String) : Prop := n = "NoneType" ∨ n = "bool" ∨ n = "int" ∨ n = "str" ∨ n = "tuple" ∨ n = "list" ∨ n = "dict"
end Sim

set_option Elab.async false
set_option linter.all false
set_option maxRecDepth 100000
set_option maxHeartbeats 4000000
namespace Sim
open PySem L2
open PyProof.Rows (envOfC)
instance exc0 : EXC := ⟨0, .none, none⟩
theorem hu_n {A : PySem.Around} {k n : Nat} (hr : Rm k A) (h : n ≤ 200 := by decide) : A.units + n < cLine := by
  have := hr.rm.un
  omega
/-- a def of the text, under its name -/
structure DefK (K : PySem.W.Frag) (mg : Str → Option Value) (x : Str) (st : Stmt) (ps : List Str) : Prop where
  ex : ∃ (f : Addr) (fd : FuncData), L2.Fun K x x st f fd ∧ mg x = some (.ref f) ∧ PySem.W.keepIn K (.ref f) = true ∧ Binds K fd ps []
/-- .. that may be called -/
structure CalK (P : Program) (w : World) (K : PySem.W.Frag) (mg : Str → Option Value) (base : Heap) (G : String → Addr) (k : Nat) (x : Str) (np : Nat) (mf : MFn) : Prop where
  ex : ∃ (f : Addr) (fd : FuncData) (ps : List Str), FnG P w K mg base k f fd ps (spS G K np mf) ∧ mg x = some (.ref f) ∧ PySem.W.keepIn K (.ref f) = true ∧ Binds K fd ps []
section
variable [EXC] {P : Program} {w : World} {K : PySem.W.Frag} {mg : Str → Option Value} {base : Heap} {G : String → Addr} {k : Nat} {x : Str} {st : Stmt} {N ps : List Str} {mb : MS}
theorem cal_of (d : DefK K mg x st ps) (Sc : FnScope N ps (defScope st))
    (hb : ∀ (f : Addr) (cdv : Value) (A : PySem.Around) (outer : List Env) (s : Shared) (H : Hp) (E : XK), Rm k (A.deeper (envOfC x (defScope st) s.heap.objs.size f cdv)) → JSs G (cxOf (L2.CX P w) P w K mg base N x (defScope st) f cdv A outer s H E) (fun cls d _ H => E cls d H) (defBody st) mb) :
    CalK P w K mg base G (k + 1) x ps.length (mfOf N.length mb) := by
  obtain ⟨f, fd, Fu, hm, hk, hb'⟩ := d.ex
  exact ⟨f, fd, ps, fn_sim Fu Sc (hb f), hm, hk, hb'⟩
end
section
variable [EXC] {G : String → Addr} {X : Cx} {W : WX} {pos p : Pos} {e : Expr} {es : List Expr} {k j np : Nat} {x : Str} {mf : MFn} {ma : MA}
theorem je_cal (c : CalK X.prog X.w X.K X.mg X.base G k x np mf) (hr : Rm j X.A) (hk : k ≤ j) (hg : Gl X x) (tk : Takes X W) (ha : JA G X W (e :: es) ma)
    (hdb : (x == ("__debug__" : Str)) = false := by decide) (he : starEach (e :: es) X.env = (false, eval e X.env) :: starEach es X.env := by rfl) (hpl : (backTo pos (starEach es X.env)).any (·.1) = false := by rfl) :
    JE G X W (.Call (.Name x p) (e :: es) [] pos) (cFn np mf ma) := by
  obtain ⟨f, fd, ps, h1, h2, h3, h4⟩ := c.ex
  exact je_fn h1 (hr.mono hk) hg h2 h3 h4 tk ha hdb he hpl
end
/-- isinstance of built-in values -/
theorem kit_b {K : PySem.W.Frag} {c : String} (hc : bTy c) (n : String) (hn : bTy n) : PySem.W.kitOne K (.type n) (.type c) = some (n == c || (n == "bool" && c == "int")) := by
  rcases hc with rfl | rfl | rfl | rfl | rfl | rfl | rfl <;> rcases hn with rfl | rfl | rfl | rfl | rfl | rfl | rfl <;> rfl
/-- the tables of the own classes -/
def noOwn : String → Option Bool := fun _ => none
theorem kit_no {G : String → Addr} {X : Cx} {c : String} (hc : bTy c) : KiT G X.K (.type c) (isB c noOwn) := kiT_B (fun n hn => kit_b hc n hn) fun k b e => by cases e
/-- the law's end: what it answers for every script -/
def spTrue (K : PySem.W.Frag) : Sp := fun vs H Q _ => ∃ (a : Addr) (ns : List Int), vs = [.ref a] ∧ SqL K H a (ns.map V.int) ∧ ns.length ≤ 63 ∧ ∀ H', Q (.bl true) H'
theorem den_ints {G : String → Addr} {K : PySem.W.Frag} {H : Hp} : ∀ {ns : List Int}, DenL G K H (ns.map D.int) (ns.map V.int)
  | [] => rfl
  | n :: r => ⟨.int n, r.map V.int, rfl, rfl, den_ints⟩
theorem vw_no {H : Hp} : vw (fun _ => false) H = H := by
  funext a
  exact vw_at rfl
theorem law_end {G : String → Addr} {K : PySem.W.Frag} {mf : MFn} (h : ∀ ns : List Int, ns.length ≤ 63 → mf [.p (.rol (ns.map .int))] [] = .ok (.e (.p (.bl true))) []) : ∀ vs H Q E, spTrue K vs H Q E → spS G K 1 mf vs H Q E := by
  rintro vs H Q E ⟨a, ns, rfl, hS, hl, q⟩
  refine ⟨fun _ => false, fun _ => 0, [], [.p (.rol (ns.map .int))], ⟨fun a h => (nomatch h), fun n c h => by simp at h, fun n m h => by simp at h, fun m c h => by simp at h⟩, rfl, by rw [E.scL, E.scL, scp]; rfl, ?_, ?_⟩
  · rw [vw_no]
    exact ⟨.ref a, [], rfl, ⟨a, ns.map V.int, rfl, hS, den_ints⟩, rfl⟩
  · rw [h ns hl]
    intro H' v _ _ d
    obtain rfl : v = .bl true := d
    exact q H'
theorem cx_no {P : Program} {w : World} {H : Hp} {s : Shared} {e : Value} {s' : Shared} (h : L2.CX P w [] H s (fun _ _ _ => False) e s') : False := by
  obtain ⟨_, _, _, _, _, _, _, _, _, _, _, _, z⟩ := h
  exact z
end Sim
namespace Sim
theorem bNon : bTy "NoneType" := .inl rfl
theorem bBl : bTy "bool" := .inr (.inl rfl)
theorem bInt : bTy "int" := .inr (.inr (.inl rfl))
theorem bStr : bTy "str" := .inr (.inr (.inr (.inl rfl)))
theorem bTup : bTy "tuple" := .inr (.inr (.inr (.inr (.inl rfl))))
theorem bLst : bTy "list" := .inr (.inr (.inr (.inr (.inr (.inl rfl)))))
theorem bDic : bTy "dict" := .inr (.inr (.inr (.inr (.inr (.inr rfl)))))
/-- a table of few -/
def tabL (l : List (String × Bool)) : String → Option Bool := fun k => (l.find? fun x => x.1 == k).map (·.2)
theorem tabL_ok {R : String → Bool → Prop} {l : List (String × Bool)} (h : ∀ q ∈ l, R q.1 q.2) : ∀ k r, tabL l k = some r → R k r := by
  intro k r e
  unfold tabL at e
  cases q : l.find? fun x => x.1 == k with
  | none => rw [q] at e; cases e
  | some x =>
    rw [q] at e
    cases e
    have m := List.mem_of_find?_eq_some q
    have e2 : (x.1 == k) = true := List.find?_some (p := fun x : String × Bool => x.1 == k) q
    have e3 := beq_iff_eq.mp e2
    rw [← e3]
    exact h x m
end Sim

set_option Elab.async false
set_option linter.all false
set_option maxRecDepth 100000
set_option maxHeartbeats 4000000
namespace Sim
open PySem L2
/-! ### equations for the mathematics of mirrors -/
theorem sceq_ii {i j : Int} : sceq (.int i) (.int j) = some (decide (i = j)) := by simp [sceq, sv, scal]
theorem sceq_ss {i j : Str} : sceq (.str i) (.str j) = some (decide (i = j)) := by simp [sceq, sv, scal]
theorem sceq_bb {i j : Bool} : sceq (.bl i) (.bl j) = some (decide (i = j)) := by simp [sceq, sv, scal]
theorem takeSet {α : Type} {S : List α} {n : Nat} {c : α} : List.take (List.length S) (List.set S n c) = List.set S n c := List.take_of_length_le (by rw [List.length_set]; exact Nat.le_refl _)
theorem takeSet2 {α : Type} {S : List α} {n m : Nat} {c d : α} : List.take (List.length S) (List.set (List.set S n c) m d) = List.set (List.set S n c) m d := List.take_of_length_le (by rw [List.length_set, List.length_set]; exact Nat.le_refl _)
/-! ### loops -/
theorem lcE_map {mg : MG} {t : MT} {el : MO} {vs : List Nat} {F : Fr} {T : Sto} {p : E → Bool} {h : E → D} : ∀ {es : List E} {acc : List D}, (∀ x ∈ es, ∃ F1, mg x F = some F1 ∧ t F1 T = .ok (p x) F1 T ∧ (p x = true → el F1 T = .ok (.e (.p (h x))) F1 T) ∧ wipeF F1 vs = F) →
    acc.length + es.length ≤ LINE → lcE mg t el vs es acc F T = .ok (acc ++ (es.filter p).map h) F T
  | [], acc, _, _ => by simp [lcE]
  | x :: r, acc, hs, hl => by
    obtain ⟨F1, h1, h2, h3, h4⟩ := hs x List.mem_cons_self
    have hr : ∀ y ∈ r, ∃ F1, mg y F = some F1 ∧ t F1 T = .ok (p y) F1 T ∧ (p y = true → el F1 T = .ok (.e (.p (h y))) F1 T) ∧ wipeF F1 vs = F := fun y hy => hs y (List.mem_cons_of_mem _ hy)
    rw [List.length_cons] at hl
    unfold lcE
    simp only [h1, h2, Rs.nox, Rs.bind]
    cases hp : p x with
    | false =>
      simp only [Bool.false_eq_true, if_false, h4]
      rw [lcE_map hr (by omega)]
      simp [hp]
    | true =>
      simp only [if_true, h3 hp, Rs.nox, Rs.bind, h4]
      rw [if_pos (by omega), lcE_map hr (by rw [List.length_append, List.length_singleton]; omega)]
      simp [hp]
theorem lcE_inv {mg : MG} {t : MT} {el : MO} {vs : List Nat} {F : Fr} {I : Sto → Prop} {R : D → Prop} : ∀ {es : List E}, (∀ x ∈ es, ∀ T, I T → ∃ F1 T' d, mg x F = some F1 ∧ t F1 T = .ok true F1 T ∧ el F1 T = .ok (.e (.p d)) F1 T' ∧ wipeF F1 vs = F ∧ I T' ∧ R d) →
    ∀ (acc : List D) (T : Sto), I T → acc.length + es.length ≤ LINE → ∃ ds T', lcE mg t el vs es acc F T = .ok (acc ++ ds) F T' ∧ I T' ∧ ds.length = es.length ∧ ∀ d ∈ ds, R d
  | [], _, acc, T, hI, _ => ⟨[], T, by simp [lcE], hI, rfl, fun d hd => by cases hd⟩
  | x :: r, hs, acc, T, hI, hl => by
    obtain ⟨F1, T1, d, h1, h2, h3, h4, h5, h6⟩ := hs x List.mem_cons_self T hI
    have hr : ∀ y ∈ r, ∀ T, I T → ∃ F1 T' d, mg y F = some F1 ∧ t F1 T = .ok true F1 T ∧ el F1 T = .ok (.e (.p d)) F1 T' ∧ wipeF F1 vs = F ∧ I T' ∧ R d := fun y hy => hs y (List.mem_cons_of_mem _ hy)
    rw [List.length_cons] at hl
    obtain ⟨ds, T', e, k1, k2, k3⟩ := lcE_inv hr (acc ++ [d]) T1 h5 (by rw [List.length_append, List.length_singleton]; omega)
    refine ⟨d :: ds, T', ?_, k1, by rw [List.length_cons, List.length_cons, k2], fun y hy => ?_⟩
    · unfold lcE
      simp only [h1, h2, Rs.nox, Rs.bind, if_true, h3, h4]
      rw [if_pos (by omega), e]
      simp
    · rcases List.mem_cons.mp hy with rfl | hy
      · exact h6
      · exact k3 y hy
theorem forE_inv {mg : MG} {body : MS} {P : List E → Fr → Sto → Prop} (step : ∀ x r F T, P (x :: r) F T → ∃ F1 F2 T2, mg x F = some F1 ∧ (body F1 T = .nx F2 T2 ∨ body F1 T = .ct F2 T2) ∧ P r F2 T2) : ∀ {es : List E} {F : Fr} {T : Sto}, P es F T → ∃ F' T', forE mg body es F T = .nx F' T' ∧ P [] F' T'
  | [], F, T, h => ⟨F, T, rfl, h⟩
  | x :: r, F, T, h => by
    obtain ⟨F1, F2, T2, h1, h2, h3⟩ := step x r F T h
    obtain ⟨F', T', h4, h5⟩ := forE_inv step h3
    refine ⟨F', T', ?_, h5⟩
    unfold forE
    rcases h2 with h2 | h2 <;> simp only [h1, h2, h4]
theorem forE_gen {mg : MG} {body : MS} {P : List E → Fr → Sto → Prop} {Q : RS → Prop} (step : ∀ x r F T, P (x :: r) F T → ∃ F1, mg x F = some F1 ∧ ((∃ F2 T2, (body F1 T = .nx F2 T2 ∨ body F1 T = .ct F2 T2) ∧ P r F2 T2) ∨ (∃ F2 T2, body F1 T = .bk F2 T2 ∧ Q (.nx F2 T2)) ∨ (∃ v F2 T2, body F1 T = .rt v F2 T2 ∧ Q (.rt v F2 T2)) ∨ ∃ x F2 T2, body F1 T = .exc x F2 T2 ∧ Q (.exc x F2 T2)))
    (fin : ∀ F T, P [] F T → Q (.nx F T)) : ∀ {es : List E} {F : Fr} {T : Sto}, P es F T → Q (forE mg body es F T)
  | [], F, T, h => fin F T h
  | x :: r, F, T, h => by
    obtain ⟨F1, h1, h2⟩ := step x r F T h
    unfold forE
    rcases h2 with ⟨F2, T2, h2 | h2, h3⟩ | ⟨F2, T2, h2, h3⟩ | ⟨v, F2, T2, h2, h3⟩ | ⟨z, F2, T2, h2, h3⟩
    · simp only [h1, h2]
      exact forE_gen step fin h3
    · simp only [h1, h2]
      exact forE_gen step fin h3
    · simp only [h1, h2]
      exact h3
    · simp only [h1, h2]
      exact h3
    · simp only [h1, h2]
      exact h3
theorem lcE_all {mg : MG} {t : MT} {el : MO} {vs : List Nat} {F : Fr} {T : Sto} {h : E → D} {es : List E} {acc : List D} (hs : ∀ x ∈ es, ∃ F1, mg x F = some F1 ∧ t F1 T = .ok true F1 T ∧ el F1 T = .ok (.e (.p (h x))) F1 T ∧ wipeF F1 vs = F) (hl : acc.length + es.length ≤ LINE) :
    lcE mg t el vs es acc F T = .ok (acc ++ es.map h) F T := by
  have q := lcE_map (p := fun _ => true) (h := h) (acc := acc) (fun x hx => by
    obtain ⟨F1, h1, h2, h3, h4⟩ := hs x hx
    exact ⟨F1, h1, h2, fun _ => h3, h4⟩) hl
  rw [q, List.filter_eq_self.mpr fun _ _ => rfl]
theorem pureL_map {α : Type} {f : α → D} : ∀ {xs : List α}, pureL (xs.map (E.p ∘ f)) = some (xs.map f)
  | [] => rfl
  | x :: r => by
    show (pureL (r.map (E.p ∘ f))).map (f x :: ·) = _
    rw [pureL_map]
    rfl
theorem pureL_p : ∀ {xs : List D}, pureL (xs.map E.p) = some xs
  | [] => rfl
  | x :: r => by
    show (pureL (r.map E.p)).map (x :: ·) = _
    rw [pureL_p]
    rfl
end Sim
namespace Sim
open PySem L2
/-! ### in -/
theorem dicpy_no {ks : List (Key × D)} {d : PyData} {ds : List PyData} (h : (D.dic ks).py = some d) : d ≠ .list ds := by
  intro e
  subst e
  simp [D.py] at h
theorem pymem_dic {a : D} {ks : List (Key × D)} : pymem a (.dic ks) = none := by
  unfold pymem
  split
  · rename_i d ds h1 h2
    exact absurd rfl (dicpy_no h2)
  · rfl
theorem niF_dic {F : Fr} {T : Sto} {y : OV} {ks : List (Key × D)} {x : Str} (h : look F T y = some (.c (.dic ks))) (hd : dat F T y = some (.dic ks)) : niF F T (.e (.p (.str x))) y = some (.o (.e (.p (.bl (!(kget ks (.inr x)).isSome))))) := by
  have h1 : dat F T (.e (.p (.str x))) = some (.str x) := rfl
  simp [niF, orF, bF, h1, hd, smem, sv, seqD, pymem_dic, dniF, dkF, h, dkey, keyD]
theorem inF_dic {F : Fr} {T : Sto} {y : OV} {ks : List (Key × D)} {x : Str} (h : look F T y = some (.c (.dic ks))) (hd : dat F T y = some (.dic ks)) : inF F T (.e (.p (.str x))) y = some (.o (.e (.p (.bl ((kget ks (.inr x)).isSome))))) := by
  have h1 : dat F T (.e (.p (.str x))) = some (.str x) := rfl
  simp [inF, orF, bF, h1, hd, smem, sv, seqD, pymem_dic, dinF, dkF, h, dkey, keyD]
theorem svl_str : ∀ {xs : List Str}, svl (xs.map .str) = some (xs.map V.str)
  | [] => rfl
  | x :: r => by
    show (match sv (.str x), svl (r.map .str) with | some v, some vs => some (v :: vs) | _, _ => none) = _
    rw [svl_str]
    rfl
theorem niF_strs {F : Fr} {T : Sto} {y : OV} {xs : List Str} {x : Str} (hd : dat F T y = some (.lst (xs.map .str))) : niF F T (.e (.p (.str x))) y = some (.o (.e (.p (.bl (!inV (.str x) (xs.map V.str)))))) := by
  have h1 : dat F T (.e (.p (.str x))) = some (.str x) := rfl
  simp [niF, orF, bF, h1, hd, smem, sv, seqD, svl_str]
theorem inF_strs {F : Fr} {T : Sto} {y : OV} {xs : List Str} {x : Str} (hd : dat F T y = some (.lst (xs.map .str))) : inF F T (.e (.p (.str x))) y = some (.o (.e (.p (.bl (inV (.str x) (xs.map V.str)))))) := by
  have h1 : dat F T (.e (.p (.str x))) = some (.str x) := rfl
  simp [inF, orF, bF, h1, hd, smem, sv, seqD, svl_str]
theorem kget_put {κ α : Type} [DecidableEq κ] {k j : κ} {x : α} : ∀ {ks : List (κ × α)}, kget (kput ks k x) j = if k = j then some x else kget ks j := by
  have hm : ∀ ks : List (κ × α), (ks.any fun kv => decide (kv.1 = k)) = true → kget (ks.map fun kv => if kv.1 = k then (kv.1, x) else kv) j = if k = j then some x else kget ks j := by
    intro ks
    induction ks with
    | nil => intro h; simp at h
    | cons p r ih =>
      obtain ⟨a, b⟩ := p
      intro h
      rw [List.map_cons]
      by_cases e : a = k
      · subst e
        simp only [if_true]
        rw [kget_cons, kget_cons]
        by_cases e2 : a = j
        · rw [if_pos e2, if_pos e2]
        · rw [if_neg e2, if_neg e2, if_neg e2]
          by_cases h3 : (r.any fun kv => decide (kv.1 = a)) = true
          · have := ih h3
            rw [if_neg e2] at this
            exact this
          · have hy : ∀ y ∈ r, (fun kv : κ × α => if kv.1 = a then (kv.1, x) else kv) y = y := fun y hy => if_neg fun z => h3 (List.any_eq_true.mpr ⟨y, hy, decide_eq_true z⟩)
            rw [List.map_congr_left hy, List.map_id']
      · simp only [e, if_false]
        rw [kget_cons, kget_cons]
        have h3 : (r.any fun kv => decide (kv.1 = k)) = true := by simpa [e] using h
        rw [ih h3]
        by_cases e2 : a = j
        · have : ¬ k = j := fun z => e (e2.trans z.symm)
          rw [if_pos e2, if_pos e2, if_neg this]
        · rw [if_neg e2, if_neg e2]
  intro ks
  unfold kput
  split
  · rename_i h
    exact hm ks h
  · rename_i h
    have key : ∀ ks : List (κ × α), ¬ (ks.any fun kv => decide (kv.1 = k)) = true → kget (ks ++ [(k, x)]) j = if k = j then some x else kget ks j := by
      intro ks
      induction ks with
      | nil => intro _; rw [List.nil_append, kget_cons]
      | cons p r ih =>
        obtain ⟨a, b⟩ := p
        intro h
        have h3 : ¬ a = k ∧ ¬ (r.any fun kv => decide (kv.1 = k)) = true := by simpa using h
        rw [List.cons_append, kget_cons, kget_cons, ih h3.2]
        by_cases e2 : a = j
        · have : ¬ k = j := fun z => h3.1 (e2.trans z.symm)
          rw [if_pos e2, if_pos e2, if_neg this]
        · rw [if_neg e2, if_neg e2]
    exact key ks h
theorem inV_strs {x : Str} {xs : List Str} : inV (.str x) (xs.map V.str) = decide (x ∈ xs) := by
  unfold inV
  rw [List.any_map, Bool.eq_iff_iff, List.any_eq_true, decide_eq_true_iff]
  constructor
  · rintro ⟨y, hy, e⟩
    have e' : (y == x) = true := e
    rw [← beq_iff_eq.mp e']
    exact hy
  · intro h
    exact ⟨x, h, beq_self_eq_true x⟩
end Sim
namespace Sim
open PySem L2
/-! ### equality of lists of plain things with themselves -/
theorem pyL_strs : ∀ {xs : List Str}, pyL (xs.map .str) = some (xs.map .str)
  | [] => rfl
  | x :: r => by
    show (match D.py (.str x), pyL (r.map .str) with | some d, some w => some (d :: w) | _, _ => none) = _
    rw [pyL_strs]
    rfl
theorem lay_strs : ∀ {xs : List Str}, (∀ x ∈ xs, PyData.strOk x = true) → PyData.canLayAll0 (xs.map .str) = true ∧ PyData.depthAll (xs.map .str) = 0
  | [], _ => ⟨by simp [PyData.canLayAll0], by simp [PyData.depthAll]⟩
  | x :: r, h => by
    obtain ⟨h1, h2⟩ := lay_strs (xs := r) fun y hy => h y (List.mem_cons_of_mem _ hy)
    refine ⟨?_, ?_⟩
    · rw [List.map_cons, PyData.canLayAll0, h1, PyData.canLay0, h x List.mem_cons_self]
      rfl
    · rw [List.map_cons, PyData.depthAll, h2, PyData.depth]
      rfl
theorem pyeq_self {d : D} {p : PyData} (h : d.py = some p) (hs : SeqAt.shaped p = true) : pyeq d d = some true := by
  unfold pyeq
  simp only [h, hs, and_self, if_true]
  rw [SeqAt.eqv_refl p (SeqAt.canLay_of_shaped hs)]
theorem pyeq_strs {xs : List Str} (h : ∀ x ∈ xs, PyData.strOk x = true) : pyeq (.lst (xs.map .str)) (.lst (xs.map .str)) = some true := by
  obtain ⟨h1, h2⟩ := lay_strs h
  refine pyeq_self (p := .list (xs.map .str)) (by rw [D.py, pyL_strs]; rfl) ?_
  unfold SeqAt.shaped
  rw [PyData.canLay0, h1, PyData.depth, h2]
  rfl
theorem neF_self {F : Fr} {T : Sto} {x y : OV} {d : D} (h1 : dat F T x = some d) (h2 : dat F T y = some d) (h3 : sceq d d = none) (h4 : pyeq d d = some true) : neF F T x y = some (.o (.e (.p (.bl false)))) := by
  simp [neF, orF, bF, h1, h2, h3, h4]
theorem sceq_lst {xs ys : List D} : sceq (.lst xs) (.lst ys) = none := rfl
/-! ### one step at a time -/
theorem seq_nx {m n : MS} {F F1 : Fr} {T T1 : Sto} {r : RS} (h : m F T = .nx F1 T1) (k : n F1 T1 = r) : sSeq m n F T = r := by
  unfold sSeq RS.then
  rw [h]
  exact k
theorem if_t {t : MT} {m n : MS} {F F1 : Fr} {T T1 : Sto} {r : RS} (h : t F T = .ok true F1 T1) (k : m F1 T1 = r) : sIf t m n F T = r := by
  unfold sIf Rs.st
  rw [h]
  exact k
theorem if_f {t : MT} {m n : MS} {F F1 : Fr} {T T1 : Sto} {r : RS} (h : t F T = .ok false F1 T1) (k : n F1 T1 = r) : sIf t m n F T = r := by
  unfold sIf Rs.st
  rw [h]
  exact k
end Sim

set_option Elab.async false
set_option linter.all false
set_option maxRecDepth 100000
set_option maxHeartbeats 4000000
namespace Sim
open PySem L2 PyProof.Rows
/-! ### the law's call where the promise is FnG -/
/-- the script as it is handed in -/
def scObj (vs : List Value) : Obj := { cls := .type "list", data := .seq vs.toArray }
/-- what is tracked at the start: the script, if it is no object of the text -/
def scH (K : PySem.W.Frag) (a : Addr) (vs : List Value) (ns : List Int) : Hp := fun b => if b = a ∧ K.lookup a = none then some (.frz (scObj vs) (.lst (ns.map V.int))) else none
section
variable {K : PySem.W.Frag} {a b : Addr} {vs : List Value} {ns : List Int} {P : Program} {w : World} {h : Heap} {u : HO} {o : Obj}
theorem scH_some (e : scH K a vs ns b = some u) : b = a ∧ K.lookup a = none ∧ u = .frz (scObj vs) (.lst (ns.map V.int)) := by
  unfold scH at e
  split at e
  · rename_i z; cases e; exact ⟨z.1, z.2, rfl⟩
  · cases e
theorem scH_none (n : b ≠ a) : scH K a vs ns b = none := if_neg fun z => n z.1
theorem sc_ok (ha : h.get? a = some (scObj vs)) (hi : IntsAre vs ns) (hl : ns.length ≤ sizeLine) : HOk P w (scH K a vs ns) h := by
  intro b u e
  obtain ⟨rfl, _, rfl⟩ := scH_some e
  exact ⟨ha, by rw [List.length_map]; exact hl, vs, _, vals_ints hi, ha⟩
theorem sc_sq (kin : K.In h) (ha : h.get? a = some (scObj vs)) (hi : IntsAre vs ns) (hl : ns.length ≤ sizeLine) : SqL K (scH K a vs ns) a (ns.map V.int) := by
  cases e : K.lookup a with
  | none => exact .inl (.inr ⟨scObj vs, if_pos ⟨rfl, e⟩⟩)
  | some o =>
    have z := kin a o e
    rw [ha] at z
    cases z
    exact .inr ⟨_, vs.toArray, _, e, rfl, rfl, rfl, by rw [List.size_toArray, hi.length]; exact hl, by simpa using vals_ints hi⟩
theorem sc_free (ha : h.get? a = some (scObj vs)) (e : h.get? b = some o) (n : ∀ m, o.data ≠ .seq vs.toArray m) : scH K a vs ns b = none :=
  scH_none fun z => by rw [z, ha] at e; cases e; exact n _ rfl
theorem sc_dict {m : Str → Option Value} (ha : h.get? a = some (scObj vs)) (z : h.Ns b m) : (hidT h (scH K a vs ns)).Ns b m := by
  obtain ⟨o, es, ep, e, d, r⟩ := z
  exact ⟨o, es, ep, hidT_get e (sc_free ha e fun m z => by rw [d] at z; cases z), d, r⟩
theorem sc_in (kin : K.In h) : K.In (hidT h (scH K a vs ns)) := fun b o e => hidT_get (kin b o e) (by
  cases q : scH K a vs ns b with
  | none => rfl
  | some u =>
    obtain ⟨rfl, z, _⟩ := scH_some q
    rw [z] at e
    cases e)
end
theorem walk_G {l : PySem.W.OpenLaw} {n k : Nat} {q : Program} {loose : List Str} {XP : (Str → Option Value) → Heap → Prop} {YP : World → Heap → Prop} {d : DefRec} {K : Params → PySem.W.Frag} {x : Str}
    (hn : l.most = some n) (hn2 : n ≤ 63) (hdf : d.params.defaults = []) (hr : Room k callerA) (hY : ∀ (w : World) (h : Heap), YP w h → (K w.params).In h)
    (F : ∀ (w : World) (mg : Str → Option Value) (fa : Addr) (h : Heap), (K w.params).In h → h.Ns mainGlobals mg → mg d.name = some (.ref fa) →
      ∃ fd : FuncData, (∀ (s : Shared) (u : Value), BindsTo s fd ⟨[u], []⟩ [(x, u)]) ∧
        ∀ base : Heap, (K w.params).In base → base.Ns mainGlobals mg → FnG l.prog w (K w.params) mg base k fa fd [x] (spTrue (K w.params))) :
    PySem.W.WalkO q loose XP YP l.row.toRowW d [] (fun f vs => PySem.call f vs) := by
  refine Att.attach_call hn hdf fun w s₀ s₁ mg mb fa o pm cd doc a vs ns G Y _ _ _ hmg ha hi hl hg => ?_
  have kin := hY w _ Y
  obtain ⟨fd, hb, hF⟩ := F w mg fa _ kin G.T.g hmg
  have hz : ns.length ≤ sizeLine := by rw [sizeLine_eq]; omega
  have ok := sc_ok (K := K w.params) (P := l.prog) (w := w) ha hi hz
  have no : ∀ b, b ∉ ([] : List Addr) := fun b => List.not_mem_nil
  have md : Mod (K w.params) mg (hidT s₁.heap (scH (K w.params) a vs ns)) := by
    obtain ⟨mc, z1, z2⟩ := G.T.nolimit
    exact ⟨sc_in kin, sc_dict ha G.T.g, ⟨mb, sc_dict ha G.T.b, G.T.builtins⟩, mc, sc_dict ha z1, z2⟩
  have e0 : Env0 l.prog w (K w.params) mg (hidT s₁.heap (scH (K w.params) a vs ns)) callerA [] s₁ (scH (K w.params) a vs ns) :=
    { frames := rfl, mod := md, bs := fun _ _ => of_hidT, bsz := Nat.le_of_eq (hidT_size _ _), funs := trivial, frf := fun b z => (no b z).elim, hok := ok, bare := .of_eq hg }
  have run := (hF _ (sc_in kin) (sc_dict ha G.T.g)).go callerA ⟨hr, rfl⟩ [] s₁ _ ⟨[.ref a], []⟩ [.ref a] [.ref a] (fun v _ => v = .bl true) (fun _ _ _ => False) e0 (hb s₁ _) (.cons rfl .nil)
    ⟨a, ns, rfl, sc_sq kin ha hi hz, Nat.le_trans hl hn2, fun _ => rfl⟩
  refine codeAny_mono run ?_
  rintro (e | f) s' z
  · exact (cx_no z).elim
  · cases f with
    | ret u =>
      obtain ⟨v, H', os, bare, un, ok', r, z⟩ := z
      obtain rfl : v = .bl true := z
      obtain rfl : u = .bool true := r
      refine ⟨rfl, OldK.of_keep fun b o e => ?_, os, bare⟩
      cases q : scH (K w.params) a vs ns b with
      | none => exact un.keep b o e q (no b) (no b)
      | some t =>
        obtain ⟨rfl, _, rfl⟩ := scH_some q
        rw [ha] at e
        cases e
        exact (ok' b _ (un.frzs b _ _ q)).1
    | _ => exact z.elim
end Sim

set_option Elab.async false
set_option linter.all false
set_option maxRecDepth 100000
set_option maxHeartbeats 4000000
namespace Sim
open PySem L2
section
variable {X : Cx}
/-! ### repr of plain data -/
def rRepr (K : PySem.W.Frag) : List V → Hp → VK → Prop := fun xs H Q => ∃ a d, xs = [.ref a] ∧ Dp K H (.ref a) d ∧ d.showable = true ∧ d.hasDict = false ∧ d.depth < 60 ∧ d.shown.length ≤ 16777216 ∧ Q (.str d.shown) H
theorem call_repr (hu : X.A.units + 64 < cLine) (hg : X.A.guards = some []) : CallR X (.builtin "repr") (rRepr X.K) := by
  intro pins s σ H xs us Q I r h
  obtain ⟨a, d, rfl, hd, s1, s2, s3, s4, q⟩ := h
  obtain ⟨u, rfl, t⟩ := vals1 r
  obtain ⟨as, rd⟩ := Dp.reads I d _ _ hd t
  obtain rfl : u = Value.ref a := t
  exact PySem.repr_of_reads' rd s1 (by rw [s2]; nofun) hg (by omega) (fun _ _ e => e) (fun h' u tk k => ⟨.str _, H, I.turnedL (ch := []) (fun b o _ e => k b o e) nofun, ⟨u, rfl⟩, q⟩) s4
def isSq : PyData → Bool
  | .list _ => true
  | .tuple _ => true
  | _ => false
/-- may be shown -/
def shOk (p : PyData) : Bool := isSq p && p.showable && !p.hasDict && decide (p.depth < 60) && decide (p.shown.length ≤ 16777216)
def reprF : Fr → Sto → OV → Option RV := fun F T x => match dat F T x with
  | some d => match d.py with
    | some p => if shOk p = true then some (.o (.e (.p (.str p.shown)))) else none
    | none => none
  | none => none
theorem shOk_inv {p : PyData} (h : shOk p = true) : isSq p = true ∧ p.showable = true ∧ p.hasDict = false ∧ p.depth < 60 ∧ p.shown.length ≤ 16777216 := by
  unfold shOk at h
  simp only [Bool.and_eq_true, Bool.not_eq_true', decide_eq_true_eq] at h
  obtain ⟨⟨⟨⟨h1, h2⟩, h3⟩, h4⟩, h5⟩ := h
  exact ⟨h1, h2, h3, h4, h5⟩
theorem sq_ref {K : PySem.W.Frag} {H : Hp} {v : V} {p : PyData} (h : Dp K H v p) (s : isSq p = true) : ∃ a, v = .ref a := by
  cases h <;> first | exact ⟨_, rfl⟩ | cases s
end
section
variable {G : String → Addr} {K : PySem.W.Frag}
theorem cas_repr : CaS G K (rRepr K) (f1 reprF) := by
  refine cas1 fun A T F σ g x v z I d e Q q => ?_
  unfold reprF at e
  split at e
  · rename_i dd e1
    split at e
    · rename_i p e2
      split at e
      · rename_i so
        cases e
        obtain ⟨h1, h2, h3, h4, h5⟩ := shOk_inv so
        have dp := seen_dp e2 (dat_den I d e1)
        obtain ⟨a, rfl⟩ := sq_ref dp h1
        exact ⟨a, p, rfl, dp, h2, h3, h4, h5, q g _ I Le.refl ⟨scp, rfl⟩⟩
      · cases e
    · cases e
  · cases e
end
section
variable {G : String → Addr} {X : Cx} {W : WX} {pos p : Pos} {e : Expr} {es : List Expr} {ma : MA} {k : Nat}
theorem je_repr (hr : Rm k X.A) (hg : Gl X "repr") (hm : X.mg "repr" = none) (ha : JA G X W (e :: es) ma) (he : starEach (e :: es) X.env = (false, eval e X.env) :: starEach es X.env := by rfl) (hpl : (backTo pos (starEach es X.env)).any (·.1) = false := by rfl) : JE G X W (.Call (.Name "repr" p) (e :: es) [] pos) (cCall (f1 reprF) ma) :=
  je_callB (call_repr hr.rm.units hr.gd) cas_repr hg hm (by decide +kernel) ha (by decide) (by decide) he hpl
end
theorem hu_s {a b n : Nat} (h : a + 200 < cLine) (e : a = b := by rfl) (hn : n ≤ 200 := by decide) : b + n < cLine := by omega
end Sim

set_option Elab.async false
set_option linter.all false
set_option maxRecDepth 100000
set_option maxHeartbeats 4000000
namespace Sim
open PySem L2
/-! ### small plain data: what may be shown and compared -/
mutual
/-- k: how deep it may be; the answer bounds the weight -/
def cost (k : Nat) : D → Option Nat
  | .non => some 0
  | .bl _ => some 0
  | .int i => if i.natAbs < 1000000000000 then some 40 else none
  | .str s => if PyData.strOk s = true then some s.length else none
  | .tup xs => if k = 0 then none else costL (k - 1) xs
  | .rot xs => if k = 0 then none else costL (k - 1) xs
  | .lst xs => if k = 0 then none else costL (k - 1) xs
  | .rol xs => if k = 0 then none else costL (k - 1) xs
  | _ => none
def costL (k : Nat) : List D → Option Nat
  | [] => some 0
  | x :: r => match cost k x, costL k r with
    | some a, some b => some (a + 1 + b)
    | _, _ => none
end
/-- plain, short, showable, its weight and depth -/
structure Sm (k n : Nat) (p : PyData) : Prop where
  lay : p.canLay0 = true
  shor : p.intsShort 13 = true
  sho : p.showable = true
  wt : p.weight ≤ n
  dp : p.depth ≤ k
structure SmL (k n : Nat) (p : List PyData) : Prop where
  lay : PyData.canLayAll0 p = true
  shor : PyData.intsShortAll 13 p = true
  sho : PyData.showableAll p = true
  wt : PyData.weightAll p ≤ n
  dp : PyData.depthAll p ≤ k
theorem int_small {i : Int} (h : i.natAbs < 1000000000000) : i.natAbs.log2 < 40 := by
  by_cases e : i.natAbs = 0
  · rw [e]; decide
  · exact (Nat.log2_lt e).mpr (by omega)
theorem int_sh {i : Int} (h : i.natAbs < 1000000000000) : (PyData.shown (.int i)).length ≤ 13 := PyData.shown_int_le (by omega)
mutual
theorem cost_py : ∀ {k n : Nat} {d : D}, cost k d = some n → ∃ p, d.py = some p ∧ Sm k n p
  | k, n, .non, h => by
    rw [cost] at h; cases h
    exact ⟨.none, by rw [D.py], ⟨by simp [PyData.canLay0], by simp [PyData.intsShort], by simp [PyData.showable], by simp [PyData.weight], by simp [PyData.depth]⟩⟩
  | k, n, .bl b, h => by
    rw [cost] at h; cases h
    exact ⟨.bool b, by rw [D.py], ⟨by simp [PyData.canLay0], by simp [PyData.intsShort], by simp [PyData.showable], by simp [PyData.weight], by simp [PyData.depth]⟩⟩
  | k, n, .int i, h => by
    rw [cost] at h
    split at h
    · rename_i hi
      cases h
      have h2 := int_small hi
      have h3 : i.natAbs.log2 < 1920 := by omega
      refine ⟨.int i, by rw [D.py], ⟨by simp [PyData.canLay0], ?_, by simp [PyData.showable, h3], ?_, by simp [PyData.depth]⟩⟩
      · rw [PyData.intsShort]
        exact decide_eq_true (int_sh hi)
      · simp only [PyData.weight]
        split <;> omega
    · cases h
  | k, n, .str s, h => by
    rw [cost] at h
    split at h
    · rename_i hs
      cases h
      exact ⟨.str s, by rw [D.py], ⟨by simp [PyData.canLay0, hs], by simp [PyData.intsShort], by simp [PyData.showable], by simp [PyData.weight]; exact Nat.le_refl _, by simp [PyData.depth]⟩⟩
    · cases h
  | k, n, .tup xs, h => by
    rw [cost] at h
    split at h
    · cases h
    · obtain ⟨p, e, s⟩ := costL_py h
      exact ⟨.tuple p, by rw [D.py, e]; rfl, ⟨by simp [PyData.canLay0, s.lay], by simp [PyData.intsShort, s.shor], by simp [PyData.showable, s.sho], by simp [PyData.weight, s.wt], by simp only [PyData.depth]; have := s.dp; omega⟩⟩
  | k, n, .rot xs, h => by
    rw [cost] at h
    split at h
    · cases h
    · obtain ⟨p, e, s⟩ := costL_py h
      exact ⟨.tuple p, by rw [D.py, e]; rfl, ⟨by simp [PyData.canLay0, s.lay], by simp [PyData.intsShort, s.shor], by simp [PyData.showable, s.sho], by simp [PyData.weight, s.wt], by simp only [PyData.depth]; have := s.dp; omega⟩⟩
  | k, n, .lst xs, h => by
    rw [cost] at h
    split at h
    · cases h
    · obtain ⟨p, e, s⟩ := costL_py h
      exact ⟨.list p, by rw [D.py, e]; rfl, ⟨by simp [PyData.canLay0, s.lay], by simp [PyData.intsShort, s.shor], by simp [PyData.showable, s.sho], by simp [PyData.weight, s.wt], by simp only [PyData.depth]; have := s.dp; omega⟩⟩
  | k, n, .rol xs, h => by
    rw [cost] at h
    split at h
    · cases h
    · obtain ⟨p, e, s⟩ := costL_py h
      exact ⟨.list p, by rw [D.py, e]; rfl, ⟨by simp [PyData.canLay0, s.lay], by simp [PyData.intsShort, s.shor], by simp [PyData.showable, s.sho], by simp [PyData.weight, s.wt], by simp only [PyData.depth]; have := s.dp; omega⟩⟩
  | k, n, .dic ks, h => by rw [cost] at h <;> first | cases h | (intros; exact nofun)
  | k, n, .dit ks, h => by rw [cost] at h <;> first | cases h | (intros; exact nofun)
  | k, n, .ins c fs, h => by rw [cost] at h <;> first | cases h | (intros; exact nofun)
  | k, n, .cls c, h => by rw [cost] at h <;> first | cases h | (intros; exact nofun)
theorem costL_py : ∀ {k n : Nat} {ds : List D}, costL k ds = some n → ∃ p, pyL ds = some p ∧ SmL k n p
  | k, n, [], h => by
    rw [costL] at h; cases h
    exact ⟨[], by rw [pyL], ⟨by simp [PyData.canLayAll0], by simp [PyData.intsShortAll], by simp [PyData.showableAll], by simp [PyData.weightAll], by simp [PyData.depthAll]⟩⟩
  | k, n, x :: r, h => by
    rw [costL] at h
    split at h
    · rename_i a b e1 e2
      cases h
      obtain ⟨p, f1, s1⟩ := cost_py e1
      obtain ⟨q, f2, s2⟩ := costL_py e2
      refine ⟨p :: q, by rw [pyL, f1, f2], ⟨by simp [PyData.canLayAll0, s1.lay, s2.lay], by simp [PyData.intsShortAll, s1.shor, s2.shor], by simp [PyData.showableAll, s1.sho, s2.sho], ?_, ?_⟩⟩
      · simp only [PyData.weightAll]
        have := s1.wt
        have := s2.wt
        omega
      · simp only [PyData.depthAll]
        have := s1.dp
        have := s2.dp
        omega
    · cases h
end
/-- the text that repr gives -/
def shD (d : D) : Str := match d.py with
  | some p => p.shown
  | none => ""
def isSqD : D → Bool
  | .tup _ => true
  | .rot _ => true
  | .lst _ => true
  | .rol _ => true
  | _ => false
theorem sq_py {d : D} {p : PyData} (h : isSqD d = true) (e : d.py = some p) : isSq p = true := by
  have k : ∀ {l : List D} {f : List PyData → PyData}, (∀ x, isSq (f x) = true) → (pyL l).map f = some p → isSq p = true := fun hf z => by
    obtain ⟨l, _, rfl⟩ := map_inv z
    exact hf l
  cases d with
  | tup xs => rw [D.py] at e; exact k (fun _ => rfl) e
  | rot xs => rw [D.py] at e; exact k (fun _ => rfl) e
  | lst xs => rw [D.py] at e; exact k (fun _ => rfl) e
  | rol xs => rw [D.py] at e; exact k (fun _ => rfl) e
  | non => cases h
  | bl b => cases h
  | int i => cases h
  | str s => cases h
  | dic ks => cases h
  | dit ks => cases h
  | ins c fs => cases h
  | cls c => cases h
theorem Sm.shOk {n : Nat} {p : PyData} (s : Sm 40 n p) (q : isSq p = true) (hn : n ≤ 1048576) : Sim.shOk p = true := by
  have h1 := s.wt
  have h2 := s.dp
  have h3 := PyProof.Rows.shown_le13 (d := p) (by unfold PyData.layable0; simp [s.lay]; omega) s.shor
  unfold Sim.shOk
  simp [q, s.sho, PyData.hasDict_of_canLay p s.lay]
  omega
theorem reprF_ok {F : Fr} {T : Sto} {x : OV} {d : D} {n : Nat} (h : dat F T x = some d) (q : isSqD d = true) (c : cost 40 d = some n) (hn : n ≤ 1048576) : reprF F T x = some (.o (.e (.p (.str (shD d))))) := by
  obtain ⟨p, e, s⟩ := cost_py c
  have so := s.shOk (sq_py q e) hn
  unfold reprF shD
  simp only [h, e, so, if_true]
theorem Sm.shaped {n : Nat} {p : PyData} (s : Sm 40 n p) : SeqAt.shaped p = true := by
  have h2 := s.dp
  unfold SeqAt.shaped
  simp [s.lay]
  omega
theorem pyeq_cost {d : D} {n : Nat} (c : cost 40 d = some n) : pyeq d d = some true := by
  obtain ⟨p, e, s⟩ := cost_py c
  exact pyeq_self e s.shaped
theorem costL_map {α : Type} {k c : Nat} {f : α → D} : ∀ {xs : List α}, (∀ x ∈ xs, ∃ n, cost k (f x) = some n ∧ n ≤ c) → ∃ m, costL k (xs.map f) = some m ∧ m ≤ (c + 1) * xs.length
  | [], _ => ⟨0, by simp [costL], by simp⟩
  | x :: r, h => by
    obtain ⟨n, e1, l1⟩ := h x List.mem_cons_self
    obtain ⟨m, e2, l2⟩ := costL_map (xs := r) fun y hy => h y (List.mem_cons_of_mem _ hy)
    refine ⟨n + 1 + m, by rw [List.map_cons, costL, e1, e2], ?_⟩
    rw [List.length_cons, Nat.mul_add, Nat.mul_one]
    omega
end Sim

set_option Elab.async false
set_option linter.all false
set_option maxRecDepth 100000
set_option maxHeartbeats 4000000
namespace Sim
open PySem L2
variable [EXC]
/-! ### enumerate(tuple) -/
theorem enumT_new (l : Addr) (ob : Obj) (items : Array Value) (n : Nat) (hc : ob.cls = .type "tuple") (hd : ob.data = .seq items n) :
    Meets (Builtin.«enumerate.__new__» ⟨[.type "enumerate", .ref l], []⟩) (fun _ R s => s.heap.get? l = some ob ∧
      R (.ok (.ret (.ref (s.heap.push { cls := .type "tuple_iterator", data := .fields #[.ref l, .int 0 0] }).objs.size)))
        { s with heap := (s.heap.push { cls := .type "tuple_iterator", data := .fields #[.ref l, .int 0 0] }).push { cls := .type "enumerate", data := .fields #[.none, .bool false, .ref s.heap.objs.size, rawInt 0, .none, .none] } }) :=
  .of_wp fun prog w A R s h => by
    obtain ⟨hp, g, d, tk, os⟩ := s
    obtain ⟨hl, h⟩ := h
    obtain ⟨c, dct, dt, sl⟩ := ob
    obtain rfl : c = .type "tuple" := hc
    obtain rfl : dt = .seq items n := hd
    have hsub := sub_enumerate
    have hL : Heap.IsTuple (Shared.heap ⟨hp, g, d, tk, os⟩) l items := ⟨_, hl, rfl, n, rfl⟩
    wp_walk using AutoSeq1.wpAny_loadPart' hl
    refine wpAny_stack_any fun st => wpAny_pure ?_
    split
    · rename_i c _ _ _ _ _
      cases (c == Value.type "enumerate") <;>
      · wp_walk using AutoSeq1.wpAny_loadPart' hl, wpAny_pyIter_tuple hL
        exact ⟨_, rfl, h⟩
    · wp_walk using AutoSeq1.wpAny_loadPart' hl, wpAny_pyIter_tuple hL
      exact ⟨_, rfl, h⟩
section
variable {prog : Program} {w : World} {A : PySem.Around} {E : Value → Shared → Prop} {s : Shared}
theorem call_enumT {l : Addr} {items : Array Value} {Q : Value → Shared → Prop} (hL : s.heap.IsTuple l items)
    (h : ∀ h', IsEnum h' (s.heap.objs.size + 1) s.heap.objs.size 0 .none → h'.IsTupleIter s.heap.objs.size l 0 → (∀ b o, s.heap.get? b = some o → h'.get? b = some o) → Q (.ref (s.heap.objs.size + 1)) { s with heap := h' }) :
    wpAny (model prog w) A (call (.type "enumerate") [.ref l]) Q E s := by
  obtain ⟨ob, hl, hc, n, hd⟩ := hL
  obtain ⟨h1, hh1⟩ : ∃ h1, h1 = s.heap.push { cls := .type "tuple_iterator", data := .fields #[.ref l, .int 0 0] } := ⟨_, rfl⟩
  have sz : h1.objs.size = s.heap.objs.size + 1 := by rw [hh1]; exact Heap.size_push ..
  have g1 : h1.get? s.heap.objs.size = some { cls := .type "tuple_iterator", data := .fields #[.ref l, .int 0 0] } := by rw [hh1]; exact Heap.get?_push_size _ rfl
  have g2 : (h1.push { cls := .type "enumerate", data := .fields #[.none, .bool false, .ref s.heap.objs.size, rawInt 0, .none, .none] }).get? h1.objs.size = some { cls := .type "enumerate", data := .fields #[.none, .bool false, .ref s.heap.objs.size, rawInt 0, .none, .none] } :=
    Heap.get?_push_size _ rfl
  refine callType_new F.called_enumerate (by decide) (F.typeCall_enumerate_1 _) (F.newCall_enumerate_1 _) (fun obj => F.args_object_init_2 obj _) F.entry_enumerate_new (enumT_new l ob items n hc hd) ⟨hl, ?_⟩
  rw [← hh1]
  show _ ∧ _
  have r := h _ (by rw [← sz]; exact g2) ⟨_, Heap.get?_push_of_some _ g1, rfl, rfl⟩ fun b o x => Heap.get?_push_of_some _ (by rw [hh1]; exact Heap.get?_push_of_some _ x)
  rw [← sz] at r
  exact ⟨⟨_, g2, rfl⟩, r⟩
theorem drawsT (hh : A.handled = none) (it l : Addr) (hne : l ≠ it) (items : Array Value) : Draws prog w A it [it, l] items.size (fun i v => items[i]? = some v) (fun i h => h.IsTupleIter it l i ∧ h.IsTuple l items) where
  live := fun _ _ ⟨⟨o, ho, _⟩, _⟩ => ⟨o, ho⟩
  frame := fun _ _ _ ⟨⟨o, ho, r⟩, ⟨q, hq, t⟩⟩ k => ⟨⟨o, k it (by simp) o ho, r⟩, ⟨q, k l (by simp) q hq, t⟩⟩
  item := fun i s Q E hi st hQ => RZ.nextOf_tuple_item st.1 st.2 (x := items[i]) (by simp [hi]) fun h' hi' sb => hQ _ h' s.toks (by simp [hi]) ⟨hi', st.2.extBut sb.extBut hne⟩ sb
  done := fun s Q E st hE => RZ.nextOf_tuple_end hh st.1 st.2 (by simp) hE
end
def IteT (K : PySem.W.Frag) (a : Addr) : It :=
  ⟨fun i H => ∃ (xs : List V) (x : V), SqT K H a xs ∧ xs[i]? = some x, fun i H v H' => ∃ T x, v = .ref T ∧ H T = none ∧ H' = upd H T (.tup [.int (i : Nat), x]) ∧ ∀ xs, SqT K H a xs → xs[i]? = some x, fun i H => ∃ xs : List V, SqT K H a xs ∧ xs.length = i⟩
theorem apartT {h : Heap} {a e : Addr} {items : Array Value} {o : Obj} {n : String} (t : h.IsTuple a items) (ho : h.get? e = some o) (hc : o.cls = .type n) (hn : n ≠ "tuple") : a ≠ e := by
  rintro rfl
  obtain ⟨q, hq, hc2, _⟩ := t
  rw [ho] at hq
  cases hq
  rw [hc] at hc2
  exact hn (by injection hc2)
theorem turn_enumT {P : Program} {w : World} {K : PySem.W.Frag} {elts : List Expr} {kk : Nat} {tpos : Pos} (a e it : Addr) (hne : e ≠ it) :
    Turn P w K (.Tuple elts kk tpos) (IteT K a) [e, it] e (fun i h => (∃ old, IsEnum h e it ((i : Nat) : Int) old) ∧ h.IsTupleIter it a i) where
  mem := List.mem_cons_self
  obj := by
    rintro i h ⟨⟨old, he⟩, ⟨o, ho, hc, hd⟩⟩ b hb
    rcases List.mem_cons.mp hb with rfl | hb
    · exact ⟨_, he, fun v => nofun⟩
    · obtain rfl := List.mem_singleton.mp hb
      exact ⟨o, ho, fun v z => by rw [hd] at z; cases z⟩
  keep := fun i h h' ⟨⟨old, he⟩, hi⟩ k => ⟨⟨old, k e List.mem_cons_self _ he⟩, hi.at fun o q => k it (by simp) o q⟩
  item := by
    intro X hP hw hK hc i pins s σ H E I hf ⟨⟨old, he⟩, hit⟩ hg
    subst hP hw hK
    obtain ⟨xs, x, hq, hx⟩ := hg
    obtain ⟨its, rv, p, hz⟩ := I.tuple hq
    obtain ⟨u, hu, ru⟩ := rv.get hx
    have tp : s.heap.IsTuple a its.toArray := p
    have n1 : a ≠ e := apartT tp he rfl (by decide)
    have n2 : a ≠ it := by
      obtain ⟨o, ho, hc, _⟩ := hit
      exact apartT tp ho hc (by decide)
    have il : i < its.toArray.size := by
      have := (List.getElem?_eq_some_iff.mp hu).1
      simpa using this
    have D := drawsT (prog := X.prog) (w := X.w) (A := X.A.in1) (I.ok.hd hc) it a n2 its.toArray
    refine wpAny_pyNext_enum_itemD D he ⟨hit, tp⟩ il hne (by simp [n1.symm, hne]) fun v h' tk hv ho st hT hsz hk => ?_
    obtain rfl : v = u := by
      have hv' : its.toArray[i]? = some v := hv
      rw [List.getElem?_toArray, hu] at hv'
      exact (Option.some.inj hv').symm
    refine ⟨_, rfl, wpAny_letOwnedTupleGo_enum (s := { s with heap := h', toks := tk + 1 }) ho fun h'' he' sb => ?_⟩
    have el : e < s.heap.objs.size := Heap.lt_size he
    have il2 : it < s.heap.objs.size := by obtain ⟨_, z, _⟩ := hit; exact Heap.lt_size z
    have hT2 := (sb.2 _ (Nat.ne_of_gt el)).trans hT
    have new : ObjOk X.prog X.w (upd H s.heap.objs.size (.tup [.int (i : Nat), x])) h'' s.heap.objs.size (.tup [.int (i : Nat), x]) :=
      ⟨by show 2 ≤ sizeLine; decide, [.int i tk, v], .cons ⟨_, rfl⟩ (.cons ru .nil), ⟨_, hT2, rfl, _, rfl⟩⟩
    have I1 : Inv X pins σ (upd H s.heap.objs.size (.tup [.int (i : Nat), x])) { s with heap := h'', toks := tk + 1 } :=
      I.turnedNew (ch := [e, it]) (fun b ob hb q => (sb.2 b (fun z => hb (by simp [z]))).trans (hk b ob (fun z => hb (by simp [z])) (fun z => hb (by simp [z])) q)) hf (Nat.le_refl _) new
    have fr : H s.heap.objs.size = none := I.hok.fresh (Nat.le_refl _)
    have cast : ((i + 1 : Nat) : Int) = (i : Int) + 1 := by omega
    refine ⟨.ref s.heap.objs.size, _, I1, rfl, ⟨_, x, rfl, fr, rfl, fun ys hy => by rw [I.tuple_inj hy hq]; exact hx⟩, ⟨⟨v, by rw [cast]; exact he'⟩, st.1.at fun o q => (sb.2 it (Ne.symm hne)).trans q⟩, fun b hb => ?_⟩
    have lt : b < s.heap.objs.size := by
      rcases List.mem_cons.mp hb with rfl | hb
      · exact el
      · rw [List.mem_singleton.mp hb]; exact il2
    rw [upd_ne (Nat.ne_of_lt lt)]
    exact (hf b hb).1
  done := by
    intro X hP hw hK hc i pins s σ H E I hf ⟨⟨old, he⟩, hit⟩ hg
    subst hP hw hK
    obtain ⟨xs, hq, hx⟩ := hg
    obtain ⟨its, rv, p, hz⟩ := I.tuple hq
    have tp : s.heap.IsTuple a its.toArray := p
    have n2 : a ≠ it := by
      obtain ⟨o, ho, hc, _⟩ := hit
      exact apartT tp ho hc (by decide)
    obtain ⟨f0, f1, f2, f3, f4, f5⟩ := hf it (by simp)
    have sz : its.toArray.size = i := by
      have := rv.length
      simp
      omega
    have D := drawsT (prog := X.prog) (w := X.w) (A := X.A.in1) (I.ok.hd hc) it a n2 its.toArray
    exact wpAny_pyNext_enum_endD D he (by rw [sz]; exact ⟨hit, tp⟩) fun h' eb => ⟨rfl, I.turned (t' := s.toks) (fun b o hb q => eb b o hb q) f0 f1 f3 f4 f5⟩
  self := fun A i s Q E ⟨⟨_, he⟩, _⟩ h => wpAny_pyIter_enum he h
def iEnumT (K : PySem.W.Frag) (ta : TA) : TI := fun σ H R => ta σ H fun vs H1 => ∃ a xs, vs = [.ref a] ∧ SqT K H1 a xs ∧ R (IteT K a) H1
theorem pi_enumT {X : Cx} {e : Expr} {ta : TA} {p pos tpos : Pos} {elts : List Expr} {kk : Nat} (hg : Gl X "enumerate") (hm : X.mg "enumerate" = none) (ha : PA X [e] ta) (hs : starEach [e] X.env = [(false, eval e X.env)] := by rfl) :
    PI X (.Tuple elts kk tpos) (.Call (.Name "enumerate" p) [e] [] pos) (iEnumT X.K ta) := by
  refine ⟨fun pins s σ H R I h => PyProof.Rows.Call_ (ld_blt I hg hm PyProof.Rows.boot_enumerate (PyProof.Rows.callWith_type1 (thn (ha.run pos pins s σ H _ I h) fun us s1 ⟨vs, H1, I1, r1, q1⟩ => ?_) hs rfl))⟩
  obtain ⟨a, xs, rfl, hq, q⟩ := q1
  obtain ⟨u, rfl, t⟩ := vals1 r1
  obtain rfl : u = Value.ref a := t
  obtain ⟨its, rv, tp, hz⟩ := I1.tuple hq
  refine call_enumT (items := its.toArray) tp fun h' he hit hk => wpAny_pyIter_enum he ⟨s1.heap.objs.size + 1, [s1.heap.objs.size + 1, s1.heap.objs.size], _, _, H1, rfl, I1.kept (t' := s1.toks) hk, turn_enumT a _ _ (Nat.succ_ne_self _), ⟨⟨.none, he⟩, hit⟩, fun b hb => ?_, q⟩
  have le : s1.heap.objs.size ≤ b := by
    rcases List.mem_cons.mp hb with rfl | hb
    · exact Nat.le_succ _
    · rw [List.mem_singleton.mp hb]; exact Nat.le_refl _
  exact I1.fpOk le (I1.hok.fresh le)
/-- either walk -/
theorem pi_or {X : Cx} {tg it : Expr} {w1 w2 : TI} (h1 : PI X tg it w1) (h2 : PI X tg it w2) : PI X tg it (fun σ H R => w1 σ H R ∨ w2 σ H R) :=
  ⟨fun pins s σ H R I h => h.elim (h1.run pins s σ H R I) (h2.run pins s σ H R I)⟩
def frzT : OV → Option (List D)
  | .e (.p (.tup ds)) => some ds
  | .e (.p (.rot ds)) => some ds
  | _ => none
section
variable {G : String → Addr} {K : PySem.W.Frag} {A : Act} {T T' : Sto} {F F' : Fr} {σ : St} {g g' g0 : Gs} {W : WX}
theorem frzT_den {x : OV} {v : V} {ds : List D} (e : frzT x = some ds) (h : ODen G K T σ g x v) : ∃ a vs, v = .ref a ∧ SqT K g.W a vs ∧ DenL G K g.W ds vs := by
  unfold frzT at e
  split at e
  · cases e; obtain ⟨_, a, vs, rfl, q, l⟩ := h; exact ⟨a, vs, rfl, .inl (.inl q), l⟩
  · cases e; obtain ⟨_, a, vs, rfl, q, l⟩ := h; exact ⟨a, vs, rfl, q, l⟩
  · cases e
theorem good_enumT {a : Addr} {ds : List D} {vs : List V} {n : Nat} (h : SqT K g0.W a vs) (l : DenL G K g0.W ds vs) : Good G K (IteT K a) g0 n (enumE 0 ds) where
  go := fun i g o hi => by
    rw [enumE_len] at hi
    have hl : i < vs.length := by rw [l.length]; exact hi
    exact ⟨vs, vs[i], vw_le.t (o.ext.t h), List.getElem?_eq_getElem hl⟩
  stop := fun g o => by
    rw [enumE_len, ← l.length]
    exact ⟨vs, vw_le.t (o.ext.t h), rfl⟩
  yld := fun i g v H' o hi y => by
    rw [enumE_len] at hi
    obtain ⟨p, x, rfl, hp, rfl, hx⟩ := y
    obtain ⟨w, h1, h2⟩ := l.get (List.getElem?_eq_getElem hi)
    have h3 := hx vs (vw_le.t (o.ext.t h))
    rw [h1] at h3
    cases h3
    refine ⟨_, enumE_get (List.getElem?_eq_getElem hi), scp, .inr ⟨p, _, hp, rfl, rfl, .inl ⟨_, rfl, .cons ?_ (.cons (h2.mono o.ext) .nil)⟩⟩⟩
    show V.int (i : Nat) = V.int ((0 + i : Nat) : Int)
    rw [Nat.zero_add]
def cEnumT (ma : MA) : MI := fun F T => (ma F T).bind fun xs F T => match xs with
  | [x] => match frzT x with
    | some ds => .ok (enumE 0 ds) F T
    | none => .bad
  | _ => .bad
theorem enumT_core {ta : TA} {ma : MA} (h : SA G K W ta ma) : SI G K W (iEnumT K ta) (cEnumT ma) := by
  intro A T F σ g R I p
  refine h A T F σ g _ I ((post_bind p).imp (fun xs F1 T1 p1 g1 vs I1 l1 d1 => ?_) fun _ _ _ q => q)
  have p1' : Rs.Post (match xs with | [x] => (match frzT x with | some ds => Rs.ok (enumE 0 ds) F1 T1 | none => .bad) | _ => .bad) _ _ := p1
  split at p1'
  · rename_i x
    split at p1'
    · rename_i ds hd
      obtain ⟨v, w, rfl, d, rfl⟩ := d1
      obtain ⟨a, us, rfl, sq, l⟩ := frzT_den hd d
      exact ⟨a, us, rfl, vw_le.t sq, p1' g1 _ I1 l1 (good_enumT sq l)⟩
    · exact p1'.elim
  · exact p1'.elim
/-- of a list or of a tuple -/
def cEnumA (ma : MA) : MI := fun F T => match cEnum ma F T with
  | .bad => cEnumT ma F T
  | r => r
theorem enumA_core {ta : TA} {ma : MA} (h : SA G K W ta ma) : SI G K W (fun σ H R => iEnum K ta σ H R ∨ iEnumT K ta σ H R) (cEnumA ma) := by
  intro A T F σ g R I p
  unfold cEnumA at p
  split at p
  · exact .inr (enumT_core h A T F σ g R I p)
  · exact .inl (enum_core h A T F σ g R I p)
end
theorem ji_enumA {G : String → Addr} {X : Cx} {W : WX} {e : Expr} {mA : MA} {p pos tpos : Pos} {elts : List Expr} {kk : Nat} (hg : Gl X "enumerate") (hm : X.mg "enumerate" = none) (ha : JA G X W [e] mA) (hs : starEach [e] X.env = [(false, eval e X.env)] := by rfl) : JI G X W (.Tuple elts kk tpos) (.Call (.Name "enumerate" p) [e] [] pos) (cEnumA mA) := by
  obtain ⟨ta, pa, s⟩ := ha.ex
  exact ⟨_, pi_or (pi_enum hg hm pa hs) (pi_enumT hg hm pa hs), enumA_core s⟩
end Sim

set_option Elab.async false
set_option linter.all false
set_option maxRecDepth 100000
set_option maxHeartbeats 4000000
namespace Sim
open PySem L2
variable [EXC]
/-! ### order of plain data that are alike -/
def rOrd (K : PySem.W.Frag) (f : PyData → PyData → Bool) : R2 := fun x y H Q => ∃ d e, Dp K H x d ∧ Dp K H y e ∧ PySem.W.alike d e = true ∧ d ≠ .none ∧ d.depth ≤ 60 ∧ Q (.bl (f d e)) H
section
variable {X : Cx}
theorem min60 {A : PySem.Around} {d e : PyData} (hu : A.units + 64 < cLine) (h : d.depth ≤ 60) : A.units + min d.depth e.depth < cLine := by
  have := Nat.min_le_left d.depth e.depth
  omega
theorem op_ltD (hu : X.A.units + 64 < cLine) : OpR X (compareOp .Lt) (rOrd X.K fun d e => PySem.W.dataLt d e) := by
  intro pins s σ H x y v u Q I rx ry ⟨d, e, hd, he, al, nn, dp, q⟩
  obtain ⟨as, ra⟩ := Dp.reads I d _ _ hd rx
  obtain ⟨bs, rb⟩ := Dp.reads I e _ _ he ry
  exact PySem.W.lt_data ra rb al nn (min60 hu dp) (fin_bl I q rfl)
theorem op_gtD (hu : X.A.units + 64 < cLine) : OpR X (compareOp .Gt) (rOrd X.K fun d e => PySem.W.dataLt e d) := by
  intro pins s σ H x y v u Q I rx ry ⟨d, e, hd, he, al, nn, dp, q⟩
  obtain ⟨as, ra⟩ := Dp.reads I d _ _ hd rx
  obtain ⟨bs, rb⟩ := Dp.reads I e _ _ he ry
  exact PySem.W.gt_data ra rb al nn (min60 hu dp) (fin_bl I q rfl)
theorem op_leD (hu : X.A.units + 64 < cLine) : OpR X (compareOp .LtE) (rOrd X.K fun d e => !PySem.W.dataLt e d) := by
  intro pins s σ H x y v u Q I rx ry ⟨d, e, hd, he, al, nn, dp, q⟩
  obtain ⟨as, ra⟩ := Dp.reads I d _ _ hd rx
  obtain ⟨bs, rb⟩ := Dp.reads I e _ _ he ry
  exact PySem.W.le_data ra rb al nn (min60 hu dp) (fin_bl I q rfl)
theorem op_geD (hu : X.A.units + 64 < cLine) : OpR X (compareOp .GtE) (rOrd X.K fun d e => !PySem.W.dataLt d e) := by
  intro pins s σ H x y v u Q I rx ry ⟨d, e, hd, he, al, nn, dp, q⟩
  obtain ⟨as, ra⟩ := Dp.reads I d _ _ hd rx
  obtain ⟨bs, rb⟩ := Dp.reads I e _ _ he ry
  exact PySem.W.ge_data ra rb al nn (min60 hu dp) (fin_bl I q rfl)
/-! ### == of dicts that are equal -/
def rDic (k : Bool) : R2 := fun x y H Q => ∃ a b ks ls, x = .ref a ∧ y = .ref b ∧ Rd H a (.dK ks) ∧ Rd H b (.dK ls) ∧ ks.length = ls.length ∧ (∀ p ∈ ks, valV ls p.1 = some p.2 ∧ flatB p.2 = true) ∧ Q (.bl k) H
theorem rd_dict {pins : List (Addr × Obj)} {σ : St} {H : Hp} {s : Shared} {a : Addr} {ks : List (Key × V)} (I : Inv X pins σ H s) (h : Rd H a (.dK ks)) : ∃ va, (a == sysModules) = false ∧ KV ks va ∧ s.heap.DictOf (mixKind X.prog X.w) a va := by
  rcases h with h | ⟨o, h⟩
  · obtain ⟨_, y, va, r, d⟩ := (show ObjOk X.prog X.w H s.heap a (.dK ks) from I.hok a _ h)
    exact ⟨va, y, r, d⟩
  · obtain ⟨y, _, _, es, ep, va, _, _, r, d⟩ := I.frzK h
    exact ⟨va, y, r, d.dictOf⟩
theorem op_eqDic (hu : X.A.units < cLine) : OpR X (compareOp .Eq) (rDic true) := by
  intro pins s σ H x y v u Q I rx ry ⟨a, b, ks, ls, ex, ey, ha, hb, hl, hp, q⟩
  subst ex ey
  obtain rfl : v = Value.ref a := rx
  obtain rfl : u = Value.ref b := ry
  obtain ⟨va, ya, ra, da⟩ := rd_dict I ha
  obtain ⟨vb, yb, rb, db⟩ := rd_dict I hb
  have hl2 : va.length = vb.length := by rw [← ra.length, ← rb.length]; exact hl
  exact PySem.W.keq_eq (knd := mixKind X.prog X.w) (r := true) ya yb da db hu (fun _ => hits_all rb ra hp) (fin_bl I q (by simp [hl2]))
theorem op_neDic (hu : X.A.units < cLine) : OpR X (compareOp .NotEq) (rDic false) := by
  intro pins s σ H x y v u Q I rx ry ⟨a, b, ks, ls, ex, ey, ha, hb, hl, hp, q⟩
  subst ex ey
  obtain rfl : v = Value.ref a := rx
  obtain rfl : u = Value.ref b := ry
  obtain ⟨va, ya, ra, da⟩ := rd_dict I ha
  obtain ⟨vb, yb, rb, db⟩ := rd_dict I hb
  have hl2 : va.length = vb.length := by rw [← ra.length, ← rb.length]; exact hl
  exact PySem.W.keq_ne (knd := mixKind X.prog X.w) (r := true) ya yb da db hu (fun _ => hits_all rb ra hp) (fin_bl I q (by simp [hl2]))
end
/-! ### the mirrors -/
def ordP (f : PyData → PyData → Bool) (a b : D) : Option Bool := match a.py, b.py with
  | some p, some q => if isSq p = true ∧ PySem.W.alike p q = true ∧ p.depth ≤ 60 then some (f p q) else none
  | _, _ => none
def ltP : F2 := bF (ordP fun d e => PySem.W.dataLt d e)
def gtP : F2 := bF (ordP fun d e => PySem.W.dataLt e d)
def leP : F2 := bF (ordP fun d e => !PySem.W.dataLt e d)
def geP : F2 := bF (ordP fun d e => !PySem.W.dataLt d e)
def dicOk (ks ls : List (Key × D)) : Bool := decide (ks.length = ls.length) && ks.all fun p => match sv p.2, (kget ls p.1).bind sv with
  | some u, some w => decide (u = w) && flatB u
  | _, _ => false
def dicF (k : Bool) : F2 := fun F T x y => match look F T x, look F T y with
  | some (.c (.dic ks)), some (.c (.dic ls)) => if dicOk ks ls = true then some (.o (.e (.p (.bl k)))) else none
  | _, _ => none
section
variable {G : String → Addr} {K : PySem.W.Frag} {A : Act} {T T' : Sto} {F F' : Fr} {σ : St} {g g' : Gs} {W : WX} {H H' : Hp} {φ : Nat → Addr}
theorem ops_ord {f : PyData → PyData → Bool} : OpS G K (rOrd K f) (bF (ordP f)) := by
  intro A T F σ g x y vx vy z I hx hy e Q k
  obtain ⟨a, b, r, e1, e2, e3, rfl⟩ := bF_inv e
  unfold ordP at e3
  split at e3
  · rename_i p q s1 s2
    split at e3
    · rename_i c
      cases e3
      refine ⟨p, q, seen_dp s1 (dat_den I hx e1), seen_dp s2 (dat_den I hy e2), c.2.1, fun z => ?_, c.2.2, k g _ I Le.refl ⟨scp, rfl⟩⟩
      rw [z] at c
      cases c.1
    · cases e3
  · cases e3
theorem dicOk_den {ls : List (Key × D)} {ws : List (Key × V)} (hl : DenK G K H ls ws) : ∀ {ks : List (Key × D)} {us : List (Key × V)}, DenK G K H ks us → (∀ p ∈ ks, (match sv p.2, (kget ls p.1).bind sv with | some u, some w => decide (u = w) && flatB u | _, _ => false) = true) → ∀ p ∈ us, valV ws p.1 = some p.2 ∧ flatB p.2 = true
  | [], us, h, _, p, hp => by
    rw [show us = [] from h] at hp
    cases hp
  | (k, d) :: r, us, ⟨v, w, e, h1, h2⟩, hk, p, hp => by
    rw [e] at hp
    rcases List.mem_cons.mp hp with rfl | hp
    · have q := hk (k, d) List.mem_cons_self
      dsimp only at q
      split at q
      · rename_i u w2 s1 s2
        rw [Bool.and_eq_true, decide_eq_true_eq] at q
        obtain ⟨q1, q2⟩ := q
        obtain rfl := sv_of s1 h1
        cases kg : kget ls k with
        | none => rw [kg] at s2; cases s2
        | some d2 =>
          rw [kg] at s2
          have z := DenK.val (k := k) hl
          rw [kg] at z
          obtain ⟨v2, z1, z2⟩ := z
          obtain rfl := sv_of s2 z2
          exact ⟨by rw [z1, q1], q2⟩
      · cases q
    · exact dicOk_den hl h2 (fun p hp => hk p (List.mem_cons_of_mem _ hp)) p hp
theorem denK_len : ∀ {ks : List (Key × D)} {us : List (Key × V)}, DenK G K H ks us → ks.length = us.length
  | [], us, h => by
    rw [show us = [] from h]
    rfl
  | (k, d) :: r, us, ⟨v, w, e, h1, h2⟩ => by rw [e, List.length_cons, List.length_cons, denK_len h2]
theorem ops_dic {k : Bool} : OpS G K (rDic k) (dicF k) := by
  intro A T F σ g x y vx vy z I hx hy e Q q
  unfold dicF at e
  split at e
  · rename_i ks ls l1 l2
    split at e
    · rename_i ok
      cases e
      obtain ⟨a, rfl, us, r1, d1⟩ := look_den I hx l1
      obtain ⟨b, rfl, ws, r2, d2⟩ := look_den I hy l2
      unfold dicOk at ok
      rw [Bool.and_eq_true, decide_eq_true_eq, List.all_eq_true] at ok
      exact ⟨a, b, us, ws, rfl, rfl, r1, r2, by rw [← denK_len d1, ← denK_len d2]; exact ok.1, dicOk_den d2 d1 ok.2, q g _ I Le.refl ⟨scp, rfl⟩⟩
    · cases e
  · cases e
end
section
variable {G : String → Addr} {X : Cx} {W : WX} {pos : Pos} {a b : Expr} {ma mb : MO}
theorem hu0 {n : Nat} (hu : n + 64 < cLine) : n < cLine := by omega
theorem je_eqA (hu : X.A.units + 64 < cLine) (ha : JO G X W a ma) (hb : JO G X W b mb) : JE G X W (.Compare a [.Eq] [b] pos) (cOp (orF eqF (dicF true)) ma mb) := je_cmp ((op_eq.or (op_eqD hu)).or (op_eqDic (hu0 hu))) ((ops_eqS.or ops_eqP).or ops_dic) (nomark _) ha hb
theorem je_neA (hu : X.A.units + 64 < cLine) (ha : JO G X W a ma) (hb : JO G X W b mb) : JE G X W (.Compare a [.NotEq] [b] pos) (cOp (orF neF (dicF false)) ma mb) := je_cmp ((op_ne.or (op_neD hu)).or (op_neDic (hu0 hu))) ((ops_neS.or ops_neP).or ops_dic) (nomark _) ha hb
theorem jt_eqA (hu : X.A.units + 64 < cLine) (ha : JO G X W a ma) (hb : JO G X W b mb) : JT G X W (.Compare a [.Eq] [b] pos) (cBool (cOp (orF eqF (dicF true)) ma mb)) := jt_cmp ((op_eq.or (op_eqD hu)).or (op_eqDic (hu0 hu))) ((ops_eqS.or ops_eqP).or ops_dic) (nomark _) ha hb
theorem jt_neA (hu : X.A.units + 64 < cLine) (ha : JO G X W a ma) (hb : JO G X W b mb) : JT G X W (.Compare a [.NotEq] [b] pos) (cBool (cOp (orF neF (dicF false)) ma mb)) := jt_cmp ((op_ne.or (op_neD hu)).or (op_neDic (hu0 hu))) ((ops_neS.or ops_neP).or ops_dic) (nomark _) ha hb
theorem je_ltA (hu : X.A.units + 64 < cLine) (ha : JO G X W a ma) (hb : JO G X W b mb) : JE G X W (.Compare a [.Lt] [b] pos) (cOp (orF (orF ltI ltS) ltP) ma mb) := je_cmp ((op_lt.or op_lt_str).or (op_ltD hu)) (((ops_i0 fun _ _ => rfl).or ops_s2).or ops_ord) (nomark _) ha hb
theorem je_leA (hu : X.A.units + 64 < cLine) (ha : JO G X W a ma) (hb : JO G X W b mb) : JE G X W (.Compare a [.LtE] [b] pos) (cOp (orF (orF leI leS) leP) ma mb) := je_cmp ((op_le.or op_le_str).or (op_leD hu)) (((ops_i0 fun _ _ => rfl).or ops_s2).or ops_ord) (nomark _) ha hb
theorem je_gtA (hu : X.A.units + 64 < cLine) (ha : JO G X W a ma) (hb : JO G X W b mb) : JE G X W (.Compare a [.Gt] [b] pos) (cOp (orF (orF gtI gtS) gtP) ma mb) := je_cmp ((op_gt.or op_gt_str).or (op_gtD hu)) (((ops_i0 fun _ _ => rfl).or ops_s2).or ops_ord) (nomark _) ha hb
theorem je_geA (hu : X.A.units + 64 < cLine) (ha : JO G X W a ma) (hb : JO G X W b mb) : JE G X W (.Compare a [.GtE] [b] pos) (cOp (orF (orF geI geS) geP) ma mb) := je_cmp ((op_ge.or op_ge_str).or (op_geD hu)) (((ops_i0 fun _ _ => rfl).or ops_s2).or ops_ord) (nomark _) ha hb
theorem jt_ltA (hu : X.A.units + 64 < cLine) (ha : JO G X W a ma) (hb : JO G X W b mb) : JT G X W (.Compare a [.Lt] [b] pos) (cBool (cOp (orF (orF ltI ltS) ltP) ma mb)) := jt_cmp ((op_lt.or op_lt_str).or (op_ltD hu)) (((ops_i0 fun _ _ => rfl).or ops_s2).or ops_ord) (nomark _) ha hb
theorem jt_leA (hu : X.A.units + 64 < cLine) (ha : JO G X W a ma) (hb : JO G X W b mb) : JT G X W (.Compare a [.LtE] [b] pos) (cBool (cOp (orF (orF leI leS) leP) ma mb)) := jt_cmp ((op_le.or op_le_str).or (op_leD hu)) (((ops_i0 fun _ _ => rfl).or ops_s2).or ops_ord) (nomark _) ha hb
theorem jt_gtA (hu : X.A.units + 64 < cLine) (ha : JO G X W a ma) (hb : JO G X W b mb) : JT G X W (.Compare a [.Gt] [b] pos) (cBool (cOp (orF (orF gtI gtS) gtP) ma mb)) := jt_cmp ((op_gt.or op_gt_str).or (op_gtD hu)) (((ops_i0 fun _ _ => rfl).or ops_s2).or ops_ord) (nomark _) ha hb
theorem jt_geA (hu : X.A.units + 64 < cLine) (ha : JO G X W a ma) (hb : JO G X W b mb) : JT G X W (.Compare a [.GtE] [b] pos) (cBool (cOp (orF (orF geI geS) geP) ma mb)) := jt_cmp ((op_ge.or op_ge_str).or (op_geD hu)) (((ops_i0 fun _ _ => rfl).or ops_s2).or ops_ord) (nomark _) ha hb
end
end Sim

set_option Elab.async false
set_option linter.all false
set_option maxRecDepth 100000
set_option maxHeartbeats 4000000
namespace Sim
open PySem L2
variable [EXC]
/-! ### a fresh object becomes a cell, in an expression -/
def cCel (m : ME) : MO := fun F T => (m F T).bind fun r F T => match r with
  | .fr c => .ok (.e (.loc T.length)) F (T ++ [c])
  | .o x => .ok x F T
/-! ### attributes of instances -/
def kf {α : Type} (fs : List (String × α)) (f : String) : Option α := (fs.find? fun x => x.1 == f).map (·.2)
def fput {α : Type} (f : String) (x : α) : List (String × α) → List (String × α)
  | [] => [(f, x)]
  | (g, y) :: r => if g = f then (g, x) :: r else (g, y) :: fput f x r
/-- o.f, o an instance of one of the classes cs -/
def fldF (cs : List String) (f : String) (F : Fr) (T : Sto) (x : OV) : Option RV := match look F T x with
  | some (.c (.ins c fs)) => if c ∈ cs then (kf fs f).map fun e => .o (.e e) else none
  | _ => none
def cFld (cs : List String) (f : String) (mo : MO) : ME := fun F T => (mo F T).bind fun x F T => match fldF cs f F T x with
  | some r => .ok r F T
  | none => .bad
/-- o.f = x -/
def setF (cs : List String) (f : String) (F : Fr) (T : Sto) (x o : OV) : RS := match x, getC F T o with
  | .e e, some (.ins c fs) => if c ∈ cs ∧ fs.length < 900 then match putC F T o (.ins c (fput f e fs)) with
      | some (F', T') => .nx F' T'
      | none => .bad
    else .bad
  | _, _ => .bad
def cSetF (cs : List String) (f : String) (mv mo : MO) : MS := fun F T => (mv F T).st fun x F T => (mo F T).st fun o F T => setF cs f F T x o
section
variable {G : String → Addr} {K : PySem.W.Frag} {A : Act} {T T' : Sto} {F F' : Fr} {σ : St} {g g' g0 : Gs} {W : WX} {H H' : Hp} {φ : Nat → Addr}
theorem cel_core {te : TE} {m : ME} (h : SE G K W te m) : SO G K W te (cCel m) := by
  intro A T F σ g Q I p
  refine h A T F σ g _ I ((post_bind p).imp (fun r F1 T1 p1 g1 v I1 l1 d1 => ?_) fun _ _ _ q => q)
  cases r with
  | o x => exact p1 g1 _ I1 l1 d1
  | fr c =>
    obtain ⟨a, rfl, R⟩ := d1
    obtain ⟨I2, l2⟩ := I1.pushT R
    have s : (E.loc T1.length).sc (T1 ++ [c]).length = true := by
      rw [E.sc, List.length_append, List.length_singleton]
      exact decide_eq_true (Nat.lt_succ_self _)
    have d : EDen G K (gPush g1 T1.length a).W (gPush g1 T1.length a).φ (.loc T1.length) (.ref a) := by
      show V.ref a = V.ref (if T1.length = T1.length then a else g1.φ T1.length)
      rw [if_pos rfl]
    exact p1 (gPush g1 T1.length a) _ I2 (l1.trans l2) ⟨s, d⟩
theorem EDenF.find {f : String} : ∀ {fs : List (String × E)} {us : List (Str × V)} {e : E}, EDenF G K H φ fs us → kf fs f = some e → ∃ v, us.lookup (Str.ofString f) = some v ∧ EDen G K H φ e v
  | [], us, e, h, z => by cases z
  | (k, x) :: r, us, e, ⟨v, w, q, h1, h2⟩, z => by
    rw [q]
    unfold kf at z
    rw [List.find?_cons] at z
    by_cases c : k = f
    · subst c
      have b : (k == k) = true := beq_self_eq_true k
      rw [b] at z
      cases z
      exact ⟨v, by simp [List.lookup], h1⟩
    · have b : (k == f) = false := beq_eq_false_iff_ne.mpr c
      rw [b] at z
      obtain ⟨u, h3, h4⟩ := EDenF.find h2 z
      have b2 : (Str.ofString f == Str.ofString k) = false := beq_eq_false_iff_ne.mpr fun y => c (ofs_inj y.symm)
      exact ⟨u, by simp [List.lookup, b2, h3], h4⟩
theorem EDenF.put {f : String} {e : E} {v : V} (d : EDen G K H φ e v) : ∀ {fs : List (String × E)} {us : List (Str × V)}, EDenF G K H φ fs us → EDenF G K H φ (fput f e fs) (putF (Str.ofString f) v us)
  | [], us, h => by
    rw [show us = [] from h]
    exact ⟨v, [], rfl, d, rfl⟩
  | (k, x) :: r, us, ⟨v0, w, q, h1, h2⟩ => by
    rw [q]
    unfold fput putF
    by_cases c : k = f
    · subst c
      rw [if_pos rfl, if_pos rfl]
      exact ⟨v, w, rfl, d, h2⟩
    · rw [if_neg c, if_neg fun y => c (ofs_inj y)]
      exact ⟨v0, _, rfl, h1, EDenF.put d h2⟩
theorem EDenF.len : ∀ {fs : List (String × E)} {us : List (Str × V)}, EDenF G K H φ fs us → us.length = fs.length
  | [], us, h => by rw [show us = [] from h]; rfl
  | (k, x) :: r, us, ⟨v0, w, q, h1, h2⟩ => by rw [q, List.length_cons, List.length_cons, EDenF.len h2]
theorem scK_find {n : Nat} {f : String} : ∀ {fs : List (String × E)} {e : E}, scK n fs = true → kf fs f = some e → e.sc n = true
  | [], e, h, z => by cases z
  | (k, x) :: r, e, h, z => by
    rw [scK] at h
    obtain ⟨h1, h2⟩ := Bool.and_eq_true_iff.mp h
    unfold kf at z
    rw [List.find?_cons] at z
    cases b : (k == f) with
    | true => simp only [b] at z; cases z; exact h1
    | false => simp only [b] at z; exact scK_find h2 z
/-- what is asked of the classes whose attribute f is read or written -/
def FldOk (G : String → Addr) (K : PySem.W.Frag) (cs : List String) (f : String) : Prop := ∀ c ∈ cs, Cls K (G c) ∧ NoAttr K (G c) (Str.ofString f)
theorem fld_core {te : TE} {mo : MO} {cs : List String} {f : String} (hk : FldOk G K cs f) (h : SO G K W te mo) : SE G K W (tFld K te (Str.ofString f)) (cFld cs f mo) := by
  intro A T F σ g Q I p
  refine h A T F σ g _ I ((post_bind p).imp (fun x F1 T1 p1 g1 v I1 l1 d1 => ?_) fun _ _ _ q => q)
  have p2 : Rs.Post (match fldF cs f F1 T1 x with | some r => Rs.ok r F1 T1 | none => .bad) _ _ := p1
  unfold fldF at p2
  cases lk : look F1 T1 x with
  | none => rw [lk] at p2; exact p2.elim
  | some w =>
    rw [lk] at p2
    have dn := look_den I1 d1 lk
    have sc := look_sc I1 d1 lk
    cases w with
    | c c =>
      cases c with
      | ins c fs =>
        have p3 : Rs.Post (match (if c ∈ cs then (kf fs f).map fun e => RV.o (.e e) else none) with | some r => Rs.ok r F1 T1 | none => .bad) _ _ := p2
        by_cases hc : c ∈ cs
        · rw [if_pos hc] at p3
          cases e : kf fs f with
          | none => rw [e] at p3; exact p3.elim
          | some y =>
            rw [e] at p3
            obtain ⟨a, rfl, dx, us, ha, df⟩ := dn
            obtain ⟨u, h1, h2⟩ := df.find e
            exact ⟨a, G c, dx, us, u, rfl, ha, (hk c hc).1, (hk c hc).2, h1, p3 g1 _ I1 l1 ⟨scK_find sc e, h2⟩⟩
        · rw [if_neg hc] at p3; exact p3.elim
      | _ => exact p2.elim
    | _ => exact p2.elim
theorem setF_core {tv ta : TE} {mv mo : MO} {cs : List String} {f : String} (hk : FldOk G K cs f) (hv : SO G K W tv mv) (ho : SO G K W ta mo) : SS G K W (sFld K ta tv (Str.ofString f)) (cSetF cs f mv mo) := by
  intro A T F σ g D I p
  refine hv A T F σ g _ I ((st_post p).imp (fun x F1 T1 p1 g1 v I1 l1 d1 => ?_) fun _ _ _ q => st_wish q)
  refine ho A T1 F1 σ g1 _ I1 ((st_post p1).imp (fun o F2 T2 p2 g2 ov I2 l2 d2 => ?_) fun _ _ _ q => Wish.le (st_wish q) l1)
  have p3 : RS.Post G K W A T g D (setF cs f F2 T2 x o) := p2
  cases x with
  | sl i => exact p3.elim
  | e e =>
    cases gc : getC F2 T2 o with
    | none => unfold setF at p3; rw [gc] at p3; exact p3.elim
    | some c =>
      cases c with
      | ins c fs =>
        have p4 : RS.Post G K W A T g D (if c ∈ cs ∧ fs.length < 900 then (match putC F2 T2 o (.ins c (fput f e fs)) with | some (F', T') => RS.nx F' T' | none => .bad) else .bad) := by
          unfold setF at p3
          rw [gc] at p3
          exact p3
        by_cases hc : c ∈ cs ∧ fs.length < 900
        · rw [if_pos hc] at p4
          cases pc : putC F2 T2 o (.ins c (fput f e fs)) with
          | none => rw [pc] at p4; exact p4.elim
          | some z =>
            obtain ⟨F3, T3⟩ := z
            rw [pc] at p4
            obtain ⟨a, ob, rfl, ha, cd, _⟩ := I2.look d2 gc
            obtain ⟨dx, us, rfl, df⟩ := cd
            have de := l2.e d1.1 d1.2
            have df2 := EDenF.put (f := f) de df
            obtain ⟨I3, l3⟩ := I2.put d2 gc pc (o' := .ins (G c) dx (putF (Str.ofString f) v us)) ⟨dx, _, rfl, df2⟩
            exact ⟨a, G c, dx, us, rfl, ha, (hk c hc.1).1, (hk c hc.1).2, by rw [df.len]; omega, p4 _ _ I3 ((l1.trans l2).trans l3)⟩
        · rw [if_neg hc] at p4; exact p4.elim
      | _ => unfold setF at p3; rw [gc] at p3; exact p3.elim
end
section
variable {G : String → Addr} {X : Cx} {W : WX} {pos pos' : Pos} {e o value : Expr} {m : ME} {mo mv : MO} {cs : List String} {f : String}
theorem jo_cel (h : JE G X W e m) : JO G X W e (cCel m) := by
  obtain ⟨te, pe, s⟩ := h.ex
  exact ⟨te, pe, cel_core s⟩
theorem je_fld (hk : FldOk G X.K cs f) (h : JO G X W e mo) (hb : attributeBase e (Str.ofString f) X.env (eval e X.env) = eval e X.env := by rfl) : JE G X W (.Attribute e (Str.ofString f) pos) (cFld cs f mo) := by
  obtain ⟨te, pe, s⟩ := h.ex
  exact ⟨_, pe_fld pe hb, fld_core hk s⟩
theorem js_setF (hk : FldOk G X.K cs f) (hv : JO G X W value mv) (ho : JO G X W o mo) (hs : swapsWith value (some (.Attribute o (Str.ofString f) pos')) pos.line X.env = pure false := by rfl) :
    JS G X W (.Assign [.Attribute o (Str.ofString f) pos'] value pos) (cSetF cs f mv mo) := by
  obtain ⟨tv, pv, sv⟩ := hv.ex
  obtain ⟨ta, pa, sa⟩ := ho.ex
  exact ⟨_, ps_fld pa pv hs, setF_core hk sv sa⟩
end
end Sim

set_option Elab.async false
set_option linter.all false
set_option maxRecDepth 100000
set_option maxHeartbeats 4000000
namespace Sim
open PySem L2
variable [EXC]
/-! ### methods -/
/-- a method m of the class named c -/
structure MetG (P : Program) (w : World) (K : PySem.W.Frag) (mg : Str → Option Value) (base : Heap) (G : String → Addr) (k : Nat) (c m : String) (np : Nat) (mf : MFn) : Prop where
  ex : ∃ (f : Addr) (fd : FuncData) (ps : List Str), Cls K (G c) ∧ Meth K (G c) (Str.ofString m) f ∧ FnG P w K mg base k f fd ps (spS G K np mf) ∧ Binds K fd ps []
/-- the classes that have it -/
abbrev MTab := String → Option (Nat × MFn)
def tMetG (G : String → Addr) (K : PySem.W.Frag) (tab : MTab) (m : String) (E : St → XK) (ta : TE) (t : TA) : TE := fun σ H Q => ta σ H fun x H1 => ∃ a c np mf dx fs, x = .ref a ∧ tab c = some (np, mf) ∧ H1 a = some (.ins (G c) dx fs) ∧ fs.lookup (Str.ofString m) = none ∧
  t σ H1 fun vs H2 => spS G K np mf (x :: vs) H2 Q (E σ)
def metR (tab : MTab) (m : String) (F : Fr) (T : Sto) (x : OV) : Option (Nat × MFn) := match look F T x with
  | some (.c (.ins c fs)) => match kf fs m with
    | none => tab c
    | some _ => none
  | _ => none
/-- o.m(e, ..) -/
def cMet (tab : MTab) (m : String) (mo : MO) (ma : MA) : ME := fun F T => (mo F T).bind fun x F T => match metR tab m F T x with
  | some (np, mf) => (ma F T).bind fun xs F T => match oes (x :: xs) with
    | some es => if es.length = np then frIn F (mf es T) else .bad
    | none => .bad
  | none => .bad
section
variable {G : String → Addr} {K : PySem.W.Frag} {A : Act} {T T' : Sto} {F F' : Fr} {σ : St} {g g' g0 : Gs} {W : WX} {H H' : Hp} {φ : Nat → Addr}
theorem EDenF.none {f : String} : ∀ {fs : List (String × E)} {us : List (Str × V)}, EDenF G K H φ fs us → kf fs f = Option.none → us.lookup (Str.ofString f) = Option.none
  | [], us, h, z => by rw [show us = [] from h]; rfl
  | (k, x) :: r, us, ⟨v, w, q, h1, h2⟩, z => by
    rw [q]
    unfold kf at z
    rw [List.find?_cons] at z
    by_cases c : k = f
    · subst c
      have b : (k == k) = true := beq_self_eq_true k
      rw [b] at z
      cases z
    · have b : (k == f) = false := beq_eq_false_iff_ne.mpr c
      rw [b] at z
      have b2 : (Str.ofString f == Str.ofString k) = false := beq_eq_false_iff_ne.mpr fun y => c (ofs_inj y.symm)
      simp [List.lookup, b2, EDenF.none h2 z]
theorem met_core {to : TE} {ta : TA} {mo : MO} {ma : MA} {tab : MTab} {m : String} (ho : SO G K W to mo) (ha : SA G K W ta ma) : SE G K W (tMetG G K tab m (WE W) to ta) (cMet tab m mo ma) := by
  intro A T F σ g Q I p
  refine ho A T F σ g _ I ((post_bind p).imp (fun x F1 T1 p1 g1 v I1 l1 d1 => ?_) fun _ _ _ q => q)
  cases hr : metR tab m F1 T1 x with
  | none => rw [hr] at p1; exact p1.elim
  | some z =>
    obtain ⟨np, mf⟩ := z
    rw [hr] at p1
    unfold metR at hr
    split at hr
    · rename_i c fs lk
      split at hr
      · rename_i kn
        obtain ⟨a, rfl, dx, us, hx, df⟩ := look_den I1 d1 lk
        refine ⟨a, c, np, mf, dx, us, rfl, hr, hx, df.none kn, ?_⟩
        refine ha A T1 F1 σ g1 _ I1 ((post_bind p1).imp (fun xs F2 T2 p2 g2 vs I2 l2 d2 => ?_) fun _ _ _ q => Wish.le q l1)
        have p3 : Rs.Post (match oes (x :: xs) with | some es => (if es.length = np then frIn F2 (mf es T2) else .bad) | none => .bad) _ _ := p2
        cases e : oes (x :: xs) with
        | none => rw [e] at p3; exact p3.elim
        | some es =>
          rw [e] at p3
          have p4 : Rs.Post (if es.length = np then frIn F2 (mf es T2) else .bad) _ _ := p3
          split at p4
          · rename_i hl
            have d3 : ODenL G K T2 σ g2 (x :: xs) (.ref a :: vs) := ⟨.ref a, vs, rfl, l2.o d1, d2⟩
            obtain ⟨s1, s2⟩ := oes_den e d3
            exact call_in I2 s1 s2 hl (p4.imp (fun r F' T' q g' v I' l rd => q g' v I' ((l1.trans l2).trans l) rd) fun _ _ _ q => Wish.le q (l1.trans l2))
          · exact p4.elim
      · cases hr
    · cases hr
end
section
variable {G : String → Addr} {X : Cx} {W : WX} {pos apos p : Pos} {e o : Expr} {es : List Expr} {k j : Nat} {m : String} {tab : MTab} {mo : MO} {ma : MA}
theorem run_fnG {k : Nat} {f : Addr} {fd : FuncData} {ps : List Str} {sp : Sp} {E : XK} {pins : List (Addr × Obj)} {σ : St} {H : Hp} {s : Shared} {Q : VK} {us : List Value} {vs : List V} (F : FnG X.prog X.w X.K X.mg X.base k f fd ps sp) (rm : Rm k X.A) (hb : Binds X.K fd ps []) (hx : PassesAt (L2.CX X.prog X.w) X σ E)
    (I : Inv X pins σ H s) (r : Vals vs us) (q : sp vs H Q E) : wpAny (model X.prog X.w) X.A (call (.ref f) us) (EP X pins σ Q) X.xe s := by
  have b := hb s us I.kIn (by rw [List.append_nil, ← r.length]; exact F.many _ _ _ _ q)
  rw [List.append_nil] at b
  refine wpAny_call (codeAny_mono (F.go X.A rm X.stack s H _ us vs Q E I.env0 b r q) ?_)
  rintro (e1 | fl) s2 z
  · exact hx pins H s e1 s2 I z
  · cases fl with
    | ret u => exact I.after z
    | _ => exact z.elim
theorem pe_metG {pl : Sem Bool} {to : TE} {ta : TA} {E : St → XK} (hk : ∀ c np mf, tab c = some (np, mf) → MetG X.prog X.w X.K X.mg X.base G k c m np mf) (rm : Rm k X.A) (hx : ∀ σ, PassesAt (L2.CX X.prog X.w) X σ (E σ)) (ho : PE X o to) (ha : PA X (e :: es) ta)
    (hst : starEach (e :: es) X.env = (false, eval e X.env) :: starEach es X.env := by rfl) (hpl : (backTo pos (starEach es X.env)).any (·.1) = false := by rfl)
    (ht : eval (.Call (.Attribute o (Str.ofString m) apos) (e :: es) [] pos) X.env = (do
      let ov ← eval o X.env
      standAt apos.atName
      let (f, first) ← holding [ov] (getMethod ov (Str.ofString m) pl)
      callWith pos f first (backTo pos (starEach (e :: es) X.env)) (backToKw pos (keywordEach [] X.env))) := by rfl) :
    PE X (.Call (.Attribute o (Str.ofString m) apos) (e :: es) [] pos) (tMetG G X.K tab m E to ta) := by
  refine ⟨fun pins s σ H Q I h => PySem.W.methodCall_KW (pl := pl) (thn (ho.run pins s σ H _ I h) fun u s1 ⟨x, H1, I1, rx, a, c, np, mf, dx, fs, ex, et, ea, l, q⟩ => ?_) ht⟩
  subst ex
  obtain rfl : u = Value.ref a := rx
  obtain ⟨f, fd, ps, cl, hm, F, hb⟩ := (hk c np mf et).ex
  refine getmeth_ok I1 ea cl hm l ?_
  exact PySem.W.callWith_K (first := [.ref a]) (h₀ := X.base) I.ok.mod.kin hm.kp (thn (ha.run pos pins s1 σ H1 _ I1 q) fun us s2 ⟨vs, H2, I2, r, q2⟩ => ⟨I2.kIn, run_fnG (us := .ref a :: us) (vs := .ref a :: vs) F rm hb (hx σ) I2 (.cons rfl r) q2⟩) hst hpl
theorem pe_metG0 {pl : Sem Bool} {to : TE} {E : St → XK} (hk : ∀ c np mf, tab c = some (np, mf) → MetG X.prog X.w X.K X.mg X.base G k c m np mf) (rm : Rm k X.A) (hx : ∀ σ, PassesAt (L2.CX X.prog X.w) X σ (E σ)) (ho : PE X o to)
    (ht : eval (.Call (.Attribute o (Str.ofString m) apos) [] [] pos) X.env = (do
      let ov ← eval o X.env
      standAt apos.atName
      let (f, first) ← holding [ov] (getMethod ov (Str.ofString m) pl)
      callWith pos f first (backTo pos (starEach [] X.env)) (backToKw pos (keywordEach [] X.env))) := by rfl) :
    PE X (.Call (.Attribute o (Str.ofString m) apos) [] [] pos) (tMetG G X.K tab m E to tNil) := by
  refine ⟨fun pins s σ H Q I h => PySem.W.methodCall_KW (pl := pl) (thn (ho.run pins s σ H _ I h) fun u s1 ⟨x, H1, I1, rx, a, c, np, mf, dx, fs, ex, et, ea, l, q⟩ => ?_) ht⟩
  subst ex
  obtain rfl : u = Value.ref a := rx
  obtain ⟨f, fd, ps, cl, hm, F, hb⟩ := (hk c np mf et).ex
  refine getmeth_ok I1 ea cl hm l ?_
  exact PySem.W.callWith_K0 (first := [.ref a]) I1.kIn hm.kp (run_fnG (us := [.ref a]) (vs := [.ref a]) F rm hb (hx σ) I1 (.cons rfl .nil) q)
theorem je_met {pl : Sem Bool} (hk : ∀ c np mf, tab c = some (np, mf) → MetG X.prog X.w X.K X.mg X.base G k c m np mf) (hr : Rm j X.A) (hkj : k ≤ j) (tk : Takes X W) (ho : JO G X W o mo) (ha : JA G X W (e :: es) ma)
    (hst : starEach (e :: es) X.env = (false, eval e X.env) :: starEach es X.env := by rfl) (hpl : (backTo pos (starEach es X.env)).any (·.1) = false := by rfl)
    (ht : eval (.Call (.Attribute o (Str.ofString m) apos) (e :: es) [] pos) X.env = (do
      let ov ← eval o X.env
      standAt apos.atName
      let (f, first) ← holding [ov] (getMethod ov (Str.ofString m) pl)
      callWith pos f first (backTo pos (starEach (e :: es) X.env)) (backToKw pos (keywordEach [] X.env))) := by rfl) :
    JE G X W (.Call (.Attribute o (Str.ofString m) apos) (e :: es) [] pos) (cMet tab m mo ma) := by
  obtain ⟨to, po, so⟩ := ho.ex
  obtain ⟨ta, pa, sa⟩ := ha.ex
  exact ⟨_, pe_metG hk (hr.mono hkj) (fun σ => passAt tk σ) po pa hst hpl ht, met_core so sa⟩
theorem je_met0 {pl : Sem Bool} (hk : ∀ c np mf, tab c = some (np, mf) → MetG X.prog X.w X.K X.mg X.base G k c m np mf) (hr : Rm j X.A) (hkj : k ≤ j) (tk : Takes X W) (ho : JO G X W o mo)
    (ht : eval (.Call (.Attribute o (Str.ofString m) apos) [] [] pos) X.env = (do
      let ov ← eval o X.env
      standAt apos.atName
      let (f, first) ← holding [ov] (getMethod ov (Str.ofString m) pl)
      callWith pos f first (backTo pos (starEach [] X.env)) (backToKw pos (keywordEach [] X.env))) := by rfl) :
    JE G X W (.Call (.Attribute o (Str.ofString m) apos) [] [] pos) (cMet tab m mo cNil) := by
  obtain ⟨to, po, so⟩ := ho.ex
  obtain ⟨ta, pa, sa⟩ := (ja_nil (G := G) (X := X) (W := W)).ex
  have e : tMetG G X.K tab m (WE W) to tNil = tMetG G X.K tab m (WE W) to tNil := rfl
  refine ⟨_, pe_metG0 hk (hr.mono hkj) (fun σ => passAt tk σ) po ht, met_core so ?_⟩
  intro A T F σ g Q I p
  exact p g [] I Le.refl rfl
end
end Sim

set_option Elab.async false
set_option linter.all false
set_option maxRecDepth 100000
set_option maxHeartbeats 4000000
namespace Sim
open PySem L2
variable [EXC]
/-! ### new instances -/
def ssc (n : Nat) : S → Bool
  | .e d => d.sc n
  | .o c => c.sc n
  | _ => true
section
variable {G : String → Addr} {K : PySem.W.Frag} {A : Act} {T T' : Sto} {F F' : Fr} {σ : St} {g g' g0 : Gs} {W : WX} {H H' : Hp} {φ : Nat → Addr}
/-- the last cell is let go -/
theorem Iv.popI (I : Iv G K A T F σ g) {n : Nat} (hl : T.length = n + 1) (hn : A.S0.length ≤ n) (lv : Lvl n T) (hs : ∀ (i : Nat) (s : S), F[i]? = some s → ssc n s = true) : Iv G K A (T.take n) F σ g := by
  have tl : (T.take n).length = n := by rw [List.length_take]; omega
  have get : ∀ {m : Nat} {d : C}, (T.take n)[m]? = some d → m < n ∧ T[m]? = some d := fun {m d} h => by
    have hm : m < n := by rw [← tl]; exact (List.getElem?_eq_some_iff.mp h).1
    rw [List.getElem?_take_of_lt hm] at h
    exact ⟨hm, h⟩
  have slot : ∀ (i : Nat) (s : S), F[i]? = some s → SDen G K A (T.take n) g σ[i]? s := fun i s h => by
    have q := I.slot i s h
    have z := hs i s h
    cases s with
    | u => trivial
    | x y => exact q
    | e d => exact ⟨by rw [tl]; exact z, q.2⟩
    | o d =>
      obtain ⟨q1, b, q2, q3, q4, q5, q6⟩ := q
      exact ⟨by rw [tl]; exact z, b, q2, q3, q4, fun m hm => q5 m (by rw [tl] at hm; omega), q6⟩
  refine ⟨I.len, I.dom, I.base, I.prot, I.agr, I.grow, by rw [tl]; exact hn, fun l hl2 L m d hm hd => ?_, fun m d hm hd => ?_, fun m d hd => I.liv m d (get hd).2, fun m m' hm hm' => I.inj m m' (by rw [tl] at hm; omega) (by rw [tl] at hm'; omega), slot, I.dis⟩
  · exact I.lv l hl2 L m d hm (get hd).2
  · rw [tl]
    obtain ⟨h1, h2⟩ := get hd
    exact lv m d h1 h2
/-- it becomes a root -/
theorem Iv.popR (I : Iv G K A T F σ g) {n : Nat} {c : C} (hl : T.length = n + 1) (hc : T[n]? = some c) (own0 : A.own0 (g.φ n) = false) (csc : c.sc n = true) : Root G K A (T.take n) F σ g (g.φ n) c := by
  have tl : (T.take n).length = n := by rw [List.length_take]; omega
  refine ⟨by rw [tl]; exact csc, (I.liv n c hc).1, own0, fun m hm z => ?_, fun j d hj z => ?_, (I.liv n c hc).2.2⟩
  · rw [tl] at hm
    have := I.inj m n (by omega) (by omega) z
    omega
  · obtain ⟨_, b, q2, _, _, q5, _⟩ := I.slot j _ hj
    rw [q2] at z
    have e : b = g.φ n := by injection z with z; injection z with z; injection z
    exact q5 n (by omega) e.symm
theorem Iv.ssc (I : Iv G K A T F σ g) : ∀ (i : Nat) (s : S), F[i]? = some s → Sim.ssc T.length s = true := fun i s h => by
  have q := I.slot i s h
  cases s with
  | u => rfl
  | x y => rfl
  | e d => exact q.1
  | o d => exact q.1
def tMkG (G : String → Addr) (K : PySem.W.Frag) (c : String) (np : Nat) (mf : MFn) (E : St → XK) (t : TA) : TE := fun σ H Q => t σ H fun vs H1 => ∀ x dx, H1 x = none → H1 dx = none → dx ≠ x →
  spS G K np mf (.ref x :: vs) (upd (upd H1 dx (.own x)) x (.ins (G c) dx [])) (fun v H2 => v = .non ∧ Q (.ref x) H2) (E σ)
def mkR (F : Fr) (T : Sto) : FR → Rs RV
  | .ok (.e (.p .non)) S => match S[T.length]? with
    | some c => if c.sc T.length = true then .ok (.fr c) F (S.take T.length) else .bad
    | none => .bad
  | .exc x S => .exc x F (S.take T.length)
  | _ => .bad
/-- C(e, ..) -/
def cNew (c : String) (np : Nat) (mf : MFn) (ma : MA) : ME := fun F T => (ma F T).bind fun xs F T => match oes xs with
  | some es => if es.length + 1 = np then mkR F T (mf (.loc T.length :: es) (T ++ [.ins c []])) else .bad
  | none => .bad
theorem new_core {ta : TA} {ma : MA} {c : String} {np : Nat} {mf : MFn} (ha : SA G K W ta ma) : SE G K W (tMkG G K c np mf (WE W) ta) (cNew c np mf ma) := by
  intro A T F σ g Q I p
  refine ha A T F σ g _ I ((post_bind p).imp (fun xs F1 T1 p1 g1 vs I1 l1 d1 => ?_) fun _ _ _ q => q)
  have p2 : Rs.Post (match oes xs with | some es => (if es.length + 1 = np then mkR F1 T1 (mf (.loc T1.length :: es) (T1 ++ [.ins c []])) else .bad) | none => .bad) _ _ := p1
  cases e : oes xs with
  | none => rw [e] at p2; exact p2.elim
  | some es =>
    rw [e] at p2
    have p3 : Rs.Post (if es.length + 1 = np then mkR F1 T1 (mf (.loc T1.length :: es) (T1 ++ [.ins c []])) else .bad) _ _ := p2
    split at p3
    · rename_i hnp
      obtain ⟨s1, s2⟩ := oes_den e d1
      intro x dx hx hdx ne
      obtain ⟨I2, l2⟩ := I1.new (p := dx) (o := .own x) hdx
      have hx2 : (upd g1.H dx (.own x)) x = none := (upd_ne ne.symm).trans hx
      obtain ⟨I3, l3, R3⟩ := I2.newRoot (p := x) (o := .ins (G c) dx []) (c := .ins c []) hx2 (by rw [C.sc, scK]) ⟨dx, [], rfl, rfl⟩
      obtain ⟨I4, l4⟩ := I3.pushT R3
      have l14 := (l2.trans l3).trans l4
      have len : (T1 ++ [C.ins c []]).length = T1.length + 1 := by rw [List.length_append, List.length_singleton]
      have fx : (gPush ⟨plus g1.own x, g1.φ, upd (upd g1.H dx (.own x)) x (.ins (G c) dx [])⟩ T1.length x).φ T1.length = x := if_pos rfl
      have lv0 : Lvl T1.length (T1 ++ [C.ins c []]) := fun m d hm hd => I1.sc m d hm (by rw [List.getElem?_append_left hm] at hd; exact hd)
      have fin : ∀ (S : Sto) (H' : Hp) {own' : Addr → Bool}, Aft G K (plus g1.own x) (gPush ⟨plus g1.own x, g1.φ, upd (upd g1.H dx (.own x)) x (.ins (G c) dx [])⟩ T1.length x).φ (upd (upd g1.H dx (.own x)) x (.ins (G c) dx [])) (T1 ++ [.ins c []]) own' S H' →
          (∀ b, plus g1.own x b = true → own' b = true) → (∀ b, own' b = true → plus g1.own x b = true ∨ H' b ≠ none) →
          Iv G K A (S.take T1.length) F1 σ ⟨own', (gPush ⟨plus g1.own x, g1.φ, upd (upd g1.H dx (.own x)) x (.ins (G c) dx [])⟩ T1.length x).φ, H'⟩ ∧ Le T1 (S.take T1.length) g1 ⟨own', (gPush ⟨plus g1.own x, g1.φ, upd (upd g1.H dx (.own x)) x (.ins (G c) dx [])⟩ T1.length x).φ, H'⟩ := by
        intro S H' own' a h1 h2
        obtain ⟨I5, l5⟩ := I4.back a h1 h2
        have hS : S.length = T1.length + 1 := a.len.trans len
        have tl : (S.take T1.length).length = T1.length := by rw [List.length_take]; omega
        exact ⟨I5.popI hS I1.kS (a.lv T1.length (by rw [len]; omega) lv0) I1.ssc, ⟨l14.ext.trans l5.ext, fun n hn => (l5.agr n (by rw [len]; omega)).trans (l14.agr n hn), by rw [tl]; exact Nat.le_refl _⟩⟩
      refine ⟨_, _, T1 ++ [.ins c []], .loc T1.length :: es, I4.ent, by rw [List.length_cons]; exact hnp, ?_, ?_, ?_⟩
      · rw [E.scL, E.sc, len, E.scL_mono (Nat.le_succ _) s1]
        simp
      · exact ⟨.ref x, vs, rfl, by show V.ref x = V.ref (if T1.length = T1.length then x else _); rw [if_pos rfl], l14.el s1 s2⟩
      · cases q : mf (.loc T1.length :: es) (T1 ++ [.ins c []]) with
        | bad => rw [q] at p3; exact p3.elim
        | exc z S =>
          rw [q] at p3
          intro H' cls d a xd
          obtain ⟨I6, l6⟩ := fin _ H' a (fun _ h => h) fun _ h => .inl h
          exact p3 _ cls d I6 (l1.trans l6) xd
        | ok r S =>
          rw [q] at p3
          cases r with
          | fr d => exact p3.elim
          | e y =>
            cases y with
            | loc n => exact p3.elim
            | tp ys => exact p3.elim
            | p dd =>
              cases dd with
              | non =>
                have p4 : Rs.Post (match S[T1.length]? with | some c => (if c.sc T1.length = true then Rs.ok (RV.fr c) F1 (S.take T1.length) else .bad) | none => .bad) _ _ := p3
                intro H' v a sv dv
                obtain rfl : v = .non := dv
                refine ⟨rfl, ?_⟩
                obtain ⟨I6, l6⟩ := fin _ H' a (fun _ h => h) fun _ h => .inl h
                cases gc : S[T1.length]? with
                | none => rw [gc] at p4; exact p4.elim
                | some c' =>
                  rw [gc] at p4
                  have p5 : Rs.Post (if c'.sc T1.length = true then Rs.ok (RV.fr c') F1 (S.take T1.length) else .bad) _ _ := p4
                  split at p5
                  · rename_i csc
                    obtain ⟨I5, l5⟩ := I4.back a (fun _ h => h) fun _ h => .inl h
                    have R := I5.popR (n := T1.length) (c := c') (a.len.trans len) gc (by rw [fx]; exact R3.own0) csc
                    rw [fx] at R
                    exact p5 _ (.ref x) I6 (l1.trans l6) ⟨x, rfl, R⟩
                  · exact p5.elim
              | _ => exact p3.elim
    · exact p3.elim
end
end Sim

set_option Elab.async false
set_option linter.all false
set_option maxRecDepth 100000
set_option maxHeartbeats 4000000
namespace Sim
open PySem L2
variable [EXC]
theorem make_guards {A : PySem.Around} {C : Addr} {us : List Value} {kw : List (Str × Value)} : (A.under (.builtin "type.__call__" ⟨.ref C :: us, kw⟩)).guards = A.guards := by
  have g : Code.guards (.builtin "type.__call__" ⟨.ref C :: us, kw⟩) = [] := by
    unfold Code.guards
    rw [if_neg (by first | decide | (simp [Code.isGuard, guardIds]; done) | exact Bool.false_ne_true)]
  unfold PySem.Around.under
  dsimp only
  rw [g]
  cases A.guards <;> rfl
theorem Rm.make {k : Nat} {A : PySem.Around} (r : Rm (k + 1) A) (C : Addr) (us : List Value) (kw : List (Str × Value)) : Rm k (A.under (.builtin "type.__call__" ⟨.ref C :: us, kw⟩)) := ⟨r.rm.make C us kw, make_guards.trans r.gd⟩
/-- how an __init__ is bound: positional values, then keywords by the names ks, in the parameters' order, every one given -/
def KB (K : PySem.W.Frag) (fd : FuncData) (ps ks : List Str) : Prop := ∀ (s : Shared) (us ws : List Value), K.In s.heap → (us ++ ws).length = ps.length → ws.length = ks.length → BindsTo s fd ⟨us, ks.zip ws⟩ (ps.zip (us ++ ws))
/-- a class that may be made -/
structure NewK (P : Program) (w : World) (K : PySem.W.Frag) (mg : Str → Option Value) (base : Heap) (G : String → Addr) (k : Nat) (c : String) (np : Nat) (mf : MFn) (ks : List Str) : Prop where
  ex : ∃ (f : Addr) (fd : FuncData) (ps : List Str), Mk K (G c) f ∧ mg (Str.ofString c) = some (.ref (G c)) ∧ FnG P w K mg base k f fd ps (spS G K np mf) ∧ KB K fd ps ks
section
variable {G : String → Addr} {X : Cx} {W : WX} {pos p kpos : Pos} {e : Expr} {es : List Expr} {kws : List Keyword} {k j np : Nat} {c : String} {mf : MFn} {ma : MA} {ks : List Str} {nm : Option Str}
theorem run_mkG {f C : Addr} {fd : FuncData} {ps : List Str} {sp : Sp} {E : XK} {pins : List (Addr × Obj)} {σ : St} {H : Hp} {s : Shared} {Q : VK} {us ws : List Value} {vs zs : List V} (M : Mk X.K C f) (F : FnG X.prog X.w X.K X.mg X.base k f fd ps sp) (rm : Rm (k + 1) X.A) (hb : KB X.K fd ps ks)
    (hx : PassesAt (L2.CX X.prog X.w) X σ E) (I : Inv X pins σ H s) (r : Vals vs us) (rz : Vals zs ws) (lz : zs.length = ks.length)
    (h : ∀ x dx, H x = none → H dx = none → dx ≠ x → sp (.ref x :: (vs ++ zs)) (upd (upd H dx (.own x)) x (.ins C dx [])) (fun v H2 => v = .non ∧ Q (.ref x) H2) E) :
    wpAny (model X.prog X.w) X.A (call (.ref C) us (ks.zip ws)) (EP X pins σ Q) X.xe s := by
  have q := h (s.heap.objs.size + 1) s.heap.objs.size (I.hok.fresh (Nat.le_succ _)) (I.hok.fresh (Nat.le_refl _)) (Nat.ne_of_lt (Nat.lt_succ_self _))
  have I2 := Inv.made (C := C) I
  have r2 : Vals (V.ref (s.heap.objs.size + 1) :: (vs ++ zs)) ((Value.ref (s.heap.objs.size + 1) :: us) ++ ws) := .cons rfl (r.append rz)
  have hl : ((Value.ref (s.heap.objs.size + 1) :: us) ++ ws).length = ps.length := r2.length.symm.trans (F.many _ _ _ _ q)
  refine wpAny_call (make_map (f := f) I.kIn M.makes M.init (beq_iff_eq.mp M.fn) (codeAny_mono (F.go _ (rm.make C us (ks.zip ws)) X.stack _ _ _ _ _ _ E (I2.env0.make C us (ks.zip ws)) (hb _ (Value.ref (s.heap.objs.size + 1) :: us) ws I2.kIn hl (rz.length.symm.trans lz)) r2 q) ?_))
  rintro (e | fl) s' z
  · exact hx pins _ _ e s' I2 z
  · cases fl with
    | ret u =>
      obtain ⟨v, H', I3, rv, ev, q3⟩ := I2.after z
      subst ev
      exact ⟨rv, .ref (s.heap.objs.size + 1), H', I3, rfl, q3⟩
    | _ => exact z.elim
/-- C(e, ..) -/
theorem je_new (N : NewK X.prog X.w X.K X.mg X.base G k c np mf []) (hr : Rm j X.A) (hk : k + 1 ≤ j) (hg : Gl X (Str.ofString c)) (tk : Takes X W) (ha : JA G X W (e :: es) ma)
    (hdb : (Str.ofString c == ("__debug__" : Str)) = false := by decide) (he : starEach (e :: es) X.env = (false, eval e X.env) :: starEach es X.env := by rfl) (hpl : (backTo pos (starEach es X.env)).any (·.1) = false := by rfl) :
    JE G X W (.Call (.Name (Str.ofString c) p) (e :: es) [] pos) (cNew c np mf ma) := by
  obtain ⟨f, fd, ps, M, hm, F, hb⟩ := N.ex
  obtain ⟨ta, pa, sa⟩ := ha.ex
  refine ⟨_, ⟨fun pins s σ H Q I h => wpAny_Call_Name_kw (ld_glob I hg hm (PySem.W.callWith_K (h₀ := X.base) I.ok.mod.kin M.kp (thn (pa.run pos pins s σ H _ I h) fun us s1 ⟨vs, H1, I1, r, q⟩ => ⟨I1.kIn, ?_⟩) he hpl) hdb)⟩, new_core sa⟩
  have z := run_mkG (us := us) (ws := []) (vs := vs) (zs := []) M F (hr.mono hk) hb (passAt tk σ) I1 r .nil rfl (Q := Q) (by simpa using q)
  exact z
/-- the values of keywords -/
structure JK (G : String → Addr) (X : Cx) (W : WX) (kws : List Keyword) (ma : MA) : Prop where
  ex : ∃ t, PK X kws t ∧ SA G X.K W t ma
theorem jk_nil : JK G X W [] cNil := ⟨tNil, pk_nil, fun A T F σ g Q I p => p g [] I Le.refl rfl⟩
theorem jk_cons {m : MO} {n : MA} (ha : JO G X W e m) (hr : JK G X W kws n) : JK G X W (⟨nm, e, kpos⟩ :: kws) (cCons m n) := by
  obtain ⟨te, pe, se⟩ := ha.ex
  obtain ⟨tr, pr, sr⟩ := hr.ex
  refine ⟨tCons te tr, pk_cons pe pr, fun A T F σ g Q I p => ?_⟩
  refine se A T F σ g _ I ((post_bind p).imp (fun x F1 T1 p1 g1 v I1 l1 d1 => ?_) fun _ _ _ q => q)
  refine sr A T1 F1 σ g1 _ I1 ((post_bind p1).imp (fun r F2 T2 p2 g2 vs I2 l2 d2 => ?_) fun _ _ _ q => Wish.le q l1)
  exact p2 g2 (v :: vs) I2 (l1.trans l2) ⟨v, vs, rfl, l2.o d1, d2⟩
/-- C(k = v, ..), every parameter by its name, in the parameters' order -/
theorem je_newK (N : NewK X.prog X.w X.K X.mg X.base G k c np mf ks) (hn : np = ks.length + 1) (hr : Rm j X.A) (hk : k + 1 ≤ j) (hg : Gl X (Str.ofString c)) (tk : Takes X W) (ha : JK G X W kws ma)
    (hall : (backToKw pos (keywordEach kws X.env)).all (·.1.isSome) = true := by rfl) (hks : (backToKw pos (keywordEach kws X.env)).filterMap (·.1) = ks := by rfl) (hdb : (Str.ofString c == ("__debug__" : Str)) = false := by decide)
    (hpl : ((backTo pos (starEach [] X.env)).any (·.1) || (backToKw pos (keywordEach kws X.env)).any (·.1.isNone)) = false := by rfl) :
    JE G X W (.Call (.Name (Str.ofString c) p) [] kws pos) (cNew c np mf ma) := by
  obtain ⟨f, fd, ps, M, hm, F, hb⟩ := N.ex
  obtain ⟨tk', pk, sk⟩ := ha.ex
  refine ⟨_, ⟨fun pins s σ H Q I h => wpAny_Call_Name_kw (ld_glob I hg hm (PySem.W.callWith_KW0 (h₀ := X.base) I.ok.mod.kin M.kp hall (thn (pk.run pos pins s σ H _ I h) fun ws s1 ⟨zs, H1, I1, r, q⟩ => ⟨I1.kIn, ?_⟩) hpl) hdb)⟩, new_core sk⟩
  have lz : zs.length = ks.length := by
    obtain ⟨own, φ, S, es, _, hl, _, d, _⟩ := q (s1.heap.objs.size + 1) s1.heap.objs.size (I1.hok.fresh (Nat.le_succ _)) (I1.hok.fresh (Nat.le_refl _)) (Nat.ne_of_lt (Nat.lt_succ_self _))
    have := d.length
    rw [List.length_cons] at this
    omega
  rw [hks]
  exact run_mkG (us := []) (ws := ws) (vs := []) (zs := zs) M F (hr.mono hk) hb (passAt tk σ) I1 .nil r lz (Q := Q) (by simpa using q)
end
end Sim

set_option Elab.async false
set_option linter.all false
set_option maxRecDepth 100000
set_option maxHeartbeats 4000000
namespace Sim
open PySem L2
/-! ### bool(x) by an own __bool__ -/
theorem meets_boolT (prog : Program) (w : World) (x : Addr) : MeetsIn prog w (Builtin.«bool.__new__» ⟨[.type "bool", .ref x], []⟩)
    (fun A R s => wpAny (model prog w) A.in1 (truthy (.ref x)) (fun b s' => R (.ok (.ret (.bool b))) s') (fun e s' => R (.error e) s') s) :=
  .of_wp fun A R s h => by
    obtain ⟨hp, g, d, tk, os⟩ := s
    have f1 := F.conv_sub_bool
    repeat (any_goals (first | assumption | (refine wpAny_bind (wpAny_mono h (fun b s' hb => ?_) fun _ _ z => z)) | wp_step))
    all_goals first | exact ⟨_, rfl, hb⟩ | assumption | skip
end Sim
namespace Sim
open PySem L2
variable [EXC]
theorem Rm.in1 {k : Nat} {A : PySem.Around} (r : Rm (k + 1) A) : Rm k A.in1 := ⟨r.rm.in1, r.gd⟩
section
variable {X : Cx} {k : Nat} {C f : Addr} {fd : FuncData} {ps : List Str} {sp : Sp} {E : XK} {pins : List (Addr × Obj)} {σ : St} {H : Hp} {s : Shared} {Q : VK} {a dx : Addr} {fs : List (Str × V)}
theorem run_boolG (Fn : FnG X.prog X.w X.K X.mg X.base k f fd ps sp) (rm : Rm (k + 2) X.A) (hb : Binds X.K fd ps []) (hx : PassesAt (L2.CX X.prog X.w) X σ E) (hs : PySem.W.findIn X.K (.ref C) "__bool__" = some (some (.ref f))) (ht : PySem.W.typeIn X.K (.ref f) = some (.type "function"))
    (I : Inv X pins σ H s) (ea : H a = some (.ins C dx fs)) (q : sp [.ref a] H (fun v H2 => ∃ b, v = .bl b ∧ Q (.bl b) H2) E) : wpAny (model X.prog X.w) X.A (call (.type "bool") [.ref a]) (EP X pins σ Q) X.xe s := by
  obtain ⟨mA, O, _, _, _, _⟩ := ins_get I.hok ea
  obtain ⟨od, J, _⟩ := O.look
  have b := hb s [.ref a] I.kIn (by rw [List.append_nil, ← Fn.many _ _ _ _ q]; rfl)
  rw [List.append_nil] at b
  refine callType_newIn F.called_bool F.newNe_bool (F.typeCall_bool_1 _) (F.newCall_bool_1 _) (fun obj => F.args_object_init_2 obj _) F.entry_bool_new (meets_boolT X.prog X.w a) ?_
  show wpAny (model X.prog X.w) X.A.in1.in1 (truthy (.ref a)) _ _ s
  unfold truthy
  refine wpAny_bind (m := callSpecial? (.ref a) (Str.ofString "__bool__")) (PySem.W.special_fn I.kIn J hs ht (wpAny_call (codeAny_mono (Fn.go _ rm.in1.in1 X.stack s H ⟨[.ref a], []⟩ [.ref a] [.ref a] _ E I.env0.in1.in1 b (.cons rfl .nil) q) ?_)))
  rintro (e1 | fl) s2 z
  · exact hx pins H s e1 s2 I z
  · cases fl with
    | ret u =>
      obtain ⟨v, H2, I2, rv, bb, ev, q2⟩ := I.after z
      subst ev
      obtain rfl : u = Value.bool bb := rv
      exact wpAny_pure ⟨rfl, ⟨.bl bb, H2, I2, rfl, q2⟩⟩
    | _ => exact z.elim
end
/-- an own __bool__ of the class named c -/
structure BooG (P : Program) (w : World) (K : PySem.W.Frag) (mg : Str → Option Value) (base : Heap) (G : String → Addr) (k : Nat) (c : String) (mf : MFn) : Prop where
  ex : ∃ (f : Addr) (fd : FuncData) (ps : List Str), PySem.W.findIn K (.ref (G c)) "__bool__" = some (some (.ref f)) ∧ PySem.W.typeIn K (.ref f) = some (.type "function") ∧ FnG P w K mg base k f fd ps (spS G K 1 mf) ∧ Binds K fd ps []
abbrev BTab := String → Option MFn
def rBoo : List V → Hp → VK → Prop := fun xs H Q => (∃ i, xs = [.int i] ∧ Q (.bl (i != 0)) H) ∨ ∃ k, xs = [.bl k] ∧ Q (.bl k) H
def tBoo (G : String → Addr) (K : PySem.W.Frag) (tab : BTab) (E : St → XK) (ta : TA) : TE := fun σ H Q => ta σ H fun vs H1 => rBoo vs H1 Q ∨ ∃ a c dx fs mf, vs = [.ref a] ∧ tab c = some mf ∧ H1 a = some (.ins (G c) dx fs) ∧
  spS G K 1 mf [.ref a] H1 (fun v H2 => ∃ b, v = .bl b ∧ Q (.bl b) H2) (E σ)
def frB (F : Fr) : FR → Rs RV
  | .ok (.e (.p (.bl b))) T => .ok (.o (.e (.p (.bl b)))) F T
  | .exc x T => .exc x F T
  | _ => .bad
/-- bool(x) -/
def cBoo (tab : BTab) (ma : MA) : ME := fun F T => (ma F T).bind fun xs F T => match xs with
  | [.e (.p (.int i))] => .ok (.o (.e (.p (.bl (i != 0))))) F T
  | [.e (.p (.bl b))] => .ok (.o (.e (.p (.bl b)))) F T
  | [.e x] => match look F T (.e x) with
    | some (.c (.ins c _)) => match tab c with
      | some mf => frB F (mf [x] T)
      | none => .bad
    | _ => .bad
  | _ => .bad
section
variable {G : String → Addr} {K : PySem.W.Frag} {A : Act} {T T' : Sto} {F F' : Fr} {σ : St} {g g' g0 : Gs} {W : WX}
theorem boo_core {ta : TA} {ma : MA} {tab : BTab} (ha : SA G K W ta ma) : SE G K W (tBoo G K tab (WE W) ta) (cBoo tab ma) := by
  intro A T F σ g Q I p
  refine ha A T F σ g _ I ((post_bind p).imp (fun xs F1 T1 p1 g1 vs I1 l1 d1 => ?_) fun _ _ _ q => q)
  have ins : ∀ x, xs = [.e x] → Rs.Post (match look F1 T1 (.e x) with | some (.c (.ins c _)) => (match tab c with | some mf => frB F1 (mf [x] T1) | none => Rs.bad) | _ => .bad) (fun r F' T' => ∀ g' v, Iv G K A T' F' σ g' → Le T T' g g' → RDen G K A T' F' σ g' r v → Q v g'.H) (Wish G K W A T σ g) → rBoo vs g1.H Q ∨ ∃ a c dx fs mf, vs = [.ref a] ∧ tab c = some mf ∧ g1.H a = some (.ins (G c) dx fs) ∧ spS G K 1 mf [.ref a] g1.H (fun v H2 => ∃ b, v = .bl b ∧ Q (.bl b) H2) (WE W σ) := by
    intro x ex p2
    subst ex
    obtain ⟨v, w, rfl, d, rfl⟩ := d1
    cases lk : look F1 T1 (.e x) with
    | none => rw [lk] at p2; exact p2.elim
    | some y =>
      rw [lk] at p2
      have dn := look_den I1 d lk
      cases y with
      | c y =>
        cases y with
        | ins c fs =>
          have p3 : Rs.Post (match tab c with | some mf => frB F1 (mf [x] T1) | none => Rs.bad) _ _ := p2
          cases tc : tab c with
          | none => rw [tc] at p3; exact p3.elim
          | some mf =>
            rw [tc] at p3
            have p4 : Rs.Post (frB F1 (mf [x] T1)) _ _ := p3
            obtain ⟨a, rfl, dx, us, hx, df⟩ := dn
            refine .inr ⟨a, c, dx, us, mf, rfl, tc, hx, ?_⟩
            have e : oes [.e x] = some [x] := rfl
            obtain ⟨s1, s2⟩ := oes_den (T := T1) (σ := σ) (g := g1) e ⟨.ref a, [], rfl, d, rfl⟩
            refine call_in I1 s1 s2 rfl ?_
            cases q : mf [x] T1 with
            | bad => rw [q] at p4; exact p4.elim
            | exc z S =>
              rw [q] at p4
              exact Wish.le p4 l1
            | ok r S =>
              rw [q] at p4
              cases r with
              | fr d => exact p4.elim
              | e y =>
                cases y with
                | loc n => exact p4.elim
                | tp ys => exact p4.elim
                | p dd =>
                  cases dd with
                  | bl b =>
                    intro g' v I' l rd
                    have rd2 := rd.2
                    exact ⟨b, rd2, p4 g' _ I' (l1.trans l) ⟨scp, rfl⟩⟩
                  | _ => exact p4.elim
        | _ => exact p2.elim
      | _ => exact p2.elim
  cases xs with
  | nil => exact p1.elim
  | cons x r =>
    cases r with
    | cons y r => cases x <;> first | exact p1.elim | (rename_i x; cases x <;> first | exact p1.elim | (rename_i x; cases x <;> exact p1.elim))
    | nil =>
      cases x with
      | sl i => exact p1.elim
      | e x =>
        cases x with
        | loc n => exact ins _ rfl p1
        | tp ys => exact ins _ rfl p1
        | p d =>
          cases d with
          | int i =>
            obtain ⟨v, w, rfl, d, rfl⟩ := d1
            obtain rfl : v = .int i := d.2
            exact .inl (.inl ⟨i, rfl, p1 g1 _ I1 l1 ⟨scp, rfl⟩⟩)
          | bl b =>
            obtain ⟨v, w, rfl, d, rfl⟩ := d1
            obtain rfl : v = .bl b := d.2
            exact .inl (.inr ⟨b, rfl, p1 g1 _ I1 l1 ⟨scp, rfl⟩⟩)
          | _ => exact ins _ rfl p1
end
section
variable {G : String → Addr} {X : Cx} {W : WX} {pos p : Pos} {e : Expr} {es : List Expr} {k j : Nat} {tab : BTab} {ma : MA}
theorem je_boo (hk : ∀ c mf, tab c = some mf → BooG X.prog X.w X.K X.mg X.base G k c mf) (hr : Rm j X.A) (hkj : k + 2 ≤ j) (hg : Gl X "bool") (hm : X.mg "bool" = none) (tk : Takes X W) (ha : JA G X W (e :: es) ma)
    (he : starEach (e :: es) X.env = (false, eval e X.env) :: starEach es X.env := by rfl) (hpl : (backTo pos (starEach es X.env)).any (·.1) = false := by rfl) : JE G X W (.Call (.Name "bool" p) (e :: es) [] pos) (cBoo tab ma) := by
  obtain ⟨ta, pa, sa⟩ := ha.ex
  have hv : bootBuiltins ("bool" : Str) = some (.type "bool") := by decide +kernel
  refine ⟨_, ⟨fun pins s σ H Q I h => wpAny_Call_Name_kw (ld_blt I hg hm hv (PyProof.Rows.callWith_type1 (thn (pa.run pos pins s σ H _ I h) fun us s1 ⟨vs, H1, I1, r, q⟩ => ?_) he hpl) (by decide) (by decide))⟩, boo_core sa⟩
  rcases q with q | ⟨a, c, dx, fs, mf, ev, et, ea, q⟩
  · exact call_bool1 pins s1 σ H1 vs us Q I1 r q
  · subst ev
    obtain ⟨f, fd, ps, h1, h2, h3, h4⟩ := (hk c mf et).ex
    obtain ⟨u, rfl, t⟩ := vals1 r
    obtain rfl : u = Value.ref a := t
    exact run_boolG h3 (hr.mono hkj) h4 (passAt tk σ) h1 h2 I1 ea q
end
end Sim

set_option Elab.async false
set_option linter.all false
set_option maxRecDepth 100000
set_option maxHeartbeats 4000000
namespace Sim
open PySem L2
variable [EXC]
/-! ### what no mirror covers: a statement that answers .bad -/
def sBad : MS := fun _ _ => .bad
theorem js_bad {G : String → Addr} {X : Cx} {W : WX} {st : Stmt} : JS G X W st sBad := ⟨fun _ _ _ => False, ⟨fun pins s σ H D I h => h.elim⟩, fun A T F σ g D I p => p.elim⟩
def cBad : ME := fun _ _ => .bad
theorem je_bad {G : String → Addr} {X : Cx} {W : WX} {e : Expr} : JE G X W e cBad := ⟨fun _ _ _ => False, ⟨fun pins s σ H Q I h => h.elim⟩, fun A T F σ g Q I p => p.elim⟩
/-! ### properties -/
/-- a property f of the class named c; its getter does not raise -/
structure PropG (P : Program) (w : World) (K : PySem.W.Frag) (mg : Str → Option Value) (base : Heap) (G : String → Addr) (k : Nat) (c f : String) (mf : MFn) : Prop where
  ex : ∃ (pa fa : Addr) (fd : FuncData) (ps : List Str), Cls K (G c) ∧ PropOf K (G c) (Str.ofString f) pa fa ∧ FnG P w K mg base k fa fd ps (spS G K 1 mf) ∧ Binds K fd ps []
def tPrG (G : String → Addr) (K : PySem.W.Frag) (tab : BTab) (ta : TE) : TE := fun σ H Q => ta σ H fun x H1 => ∃ a c dx fs mf, x = .ref a ∧ tab c = some mf ∧ H1 a = some (.ins (G c) dx fs) ∧ spS G K 1 mf [.ref a] H1 Q (fun _ _ _ => False)
def frNo (F : Fr) : FR → Rs RV
  | .exc _ _ => .bad
  | r => frIn F r
def cPro (tab : BTab) (mo : MO) : ME := fun F T => (mo F T).bind fun x F T => match x, look F T x with
  | .e x, some (.c (.ins c _)) => match tab c with
    | some mf => frNo F (mf [x] T)
    | none => .bad
  | _, _ => .bad
section
variable {G : String → Addr} {K : PySem.W.Frag} {A : Act} {T T' : Sto} {F F' : Fr} {σ : St} {g g' g0 : Gs} {W : WX}
theorem pro_core {to : TE} {mo : MO} {tab : BTab} (ho : SO G K W to mo) : SE G K W (tPrG G K tab to) (cPro tab mo) := by
  intro A T F σ g Q I p
  refine ho A T F σ g _ I ((post_bind p).imp (fun x F1 T1 p1 g1 v I1 l1 d1 => ?_) fun _ _ _ q => q)
  cases x with
  | sl i => exact p1.elim
  | e x =>
    have p2 : Rs.Post (match look F1 T1 (.e x) with | some (.c (.ins c _)) => (match tab c with | some mf => frNo F1 (mf [x] T1) | none => Rs.bad) | _ => .bad) (fun r F' T' => ∀ g' v, Iv G K A T' F' σ g' → Le T T' g g' → RDen G K A T' F' σ g' r v → Q v g'.H) (Wish G K W A T σ g) := by
      cases lk : look F1 T1 (.e x) with
      | none => rw [lk] at p1; exact p1
      | some y => rw [lk] at p1; cases y with
        | c y => cases y <;> exact p1
        | _ => exact p1
    cases lk : look F1 T1 (.e x) with
    | none => rw [lk] at p2; exact p2.elim
    | some y =>
      rw [lk] at p2
      have dn := look_den I1 d1 lk
      cases y with
      | c y =>
        cases y with
        | ins c fs =>
          have p3 : Rs.Post (match tab c with | some mf => frNo F1 (mf [x] T1) | none => Rs.bad) _ _ := p2
          cases tc : tab c with
          | none => rw [tc] at p3; exact p3.elim
          | some mf =>
            rw [tc] at p3
            have p4 : Rs.Post (frNo F1 (mf [x] T1)) _ _ := p3
            obtain ⟨a, rfl, dx, us, hx, df⟩ := dn
            refine ⟨a, c, dx, us, mf, rfl, tc, hx, ?_⟩
            have e : oes [.e x] = some [x] := rfl
            obtain ⟨s1, s2⟩ := oes_den (T := T1) (σ := σ) (g := g1) e ⟨.ref a, [], rfl, d1, rfl⟩
            refine call_in (W := fun _ _ _ _ => False) I1 s1 s2 rfl ?_
            cases q : mf [x] T1 with
            | bad => rw [q] at p4; exact p4.elim
            | exc z S => rw [q] at p4; exact p4.elim
            | ok r S =>
              rw [q] at p4
              have p5 : Rs.Post (frIn F1 (.ok r S)) _ _ := p4
              cases r with
              | fr d => exact fun g' v I' l rd => p5 g' v I' (l1.trans l) rd
              | e y => exact fun g' v I' l rd => p5 g' v I' (l1.trans l) rd
        | _ => exact p2.elim
      | _ => exact p2.elim
end
section
variable {G : String → Addr} {X : Cx} {W : WX} {pos : Pos} {e : Expr} {k j : Nat} {tab : BTab} {mo : MO} {f : String}
theorem run_proG {C p fa : Addr} {fd : FuncData} {ps : List Str} {sp : Sp} {pins : List (Addr × Obj)} {σ : St} {H : Hp} {s : Shared} {Q : VK} {a dx : Addr} {fs : List (Str × V)} {b : Bool} {f : Str} (Fn : FnG X.prog X.w X.K X.mg X.base k fa fd ps sp) (rm : Rm (k + 1) X.A) (hb : Binds X.K fd ps []) (c : Cls X.K C) (hp : PropOf X.K C f p fa)
    (I : Inv X pins σ H s) (ea : H a = some (.ins C dx fs)) (q : sp [.ref a] H Q (fun _ _ _ => False)) : wpAny (model X.prog X.w) X.A (getAttr (.ref a) f b) (EP X pins σ Q) X.xe s := by
  obtain ⟨mA, O, _, _, _, _⟩ := ins_get I.hok ea
  obtain ⟨od, J, _⟩ := O.look
  obtain ⟨rest, hrec⟩ := hp.rec_
  have hc : (PySem.W.clsIn X.K C).isSome = true := by
    obtain ⟨cd, hc, _⟩ := PySem.W.any_some c.hd
    rw [hc]
    rfl
  have I1 := I.tok (s.toks + 1)
  have bd := hb { s with toks := s.toks + 1 } [.ref a] I1.kIn (by rw [List.append_nil, ← Fn.many _ _ _ _ q]; rfl)
  rw [List.append_nil] at bd
  refine PySem.W.get_bind I.kIn J (PySem.W.plainGet_of (c.get f)).1 (PySem.W.findObj_data hc hp.at_ hp.get hp.tak) (PySem.W.plainGet_of (c.get f)).2 (wpAny_call (PySem.W.prop_get (s := { s with toks := s.toks + 1 }) I.kIn hrec
    (codeAny_mono (Fn.go _ rm.in1 X.stack _ H ⟨[.ref a], []⟩ [.ref a] [.ref a] Q _ I1.env0.in1 bd (.cons rfl .nil) q) ?_)))
  rintro (e1 | fl) s2 z
  · obtain ⟨_, _, _, _, _, _, _, _, _, _, _, _, y⟩ := z
    exact y.elim
  · cases fl with
    | ret u =>
      obtain ⟨v, H', I3, rv, q3⟩ := I1.after z
      show wpAny _ _ (handedOut u) _ _ _
      rw [PySem.W.handedOut_of (handed_of rv)]
      exact wpAny_pure ⟨v, H', I3, rv, q3⟩
    | _ => exact z.elim
theorem je_pro (hk : ∀ c mf, tab c = some mf → PropG X.prog X.w X.K X.mg X.base G k c f mf) (hr : Rm j X.A) (hkj : k + 1 ≤ j) (h : JO G X W e mo) (hb : attributeBase e (Str.ofString f) X.env (eval e X.env) = eval e X.env := by rfl) : JE G X W (.Attribute e (Str.ofString f) pos) (cPro tab mo) := by
  obtain ⟨te, pe, se⟩ := h.ex
  refine ⟨tPrG G X.K tab te, ⟨fun pins s σ H Q I h => attr_of hb (thn (pe.run pins s σ H _ I h) fun u s1 ⟨x, H1, I1, rx, a, c, dx, fs, mf, ex, et, ea, q⟩ => ?_)⟩, pro_core se⟩
  subst ex
  obtain rfl : u = Value.ref a := rx
  obtain ⟨pa, fa, fd, ps, cl, hp, Fn, hbi⟩ := (hk c mf et).ex
  exact run_proG Fn (hr.mono hkj) hbi cl hp I1 ea q
end
end Sim

set_option Elab.async false
set_option linter.all false
set_option maxRecDepth 100000
set_option maxHeartbeats 4000000
namespace Sim
open PySem L2 PySem.Spec
open PyProof.Rows (AllBare)
/-! ### raise C() of an own exception that keeps nothing -/
def spI0 (C : Addr) : Sp := fun vs H Q _ => ∃ a, vs = [.ref a] ∧ H a = some (exo a C none) ∧ Q .non H
section
variable {P : Program} {w : World} {K : PySem.W.Frag} {mg : Str → Option Value} {base : Heap} {C fI : Addr} {fd : FuncData} {qual msg : Str} {st : Stmt} {k : Nat}
theorem ok_init0 (T : OexC K C) (Fu : L2.Fun K "__init__" qual st fI fd) (Sc : FnScope ["self"] ["self"] (defScope st))
    (hbody : ∀ (cdv : Value) (A : PySem.Around) (outer : List Env) (s : Shared) (H : Hp) (E : XK), PSs (cxOf (L2.CX P w) P w K mg base ["self"] qual (defScope st) fI cdv A outer s H E) (defBody st) (tDrop (tVeI K (tCons (tVar 0) (tCons (tC (.str msg)) tNil))))) :
    FnOk P w K mg base (L2.CX P w) (k + 1) fI fd ["self"] (spI0 C) := by
  refine Fu.okX Sc (fun vs H Q E h => ?_) fun cdv A outer s H vs Q E hr h => ⟨_, hbody cdv A outer s H E, ?_⟩
  · obtain ⟨a, rfl, _⟩ := h
    rfl
  · obtain ⟨a, rfl, ha, q⟩ := h
    exact ⟨.ref a, rfl, a, C, [.str msg], rfl, (by show 1 ≤ 1000; decide), T, ha, q⟩
end
section
variable {X : Cx} {pins : List (Addr × Obj)} {σ : St}
/-- the new exception is taken out of what is tracked -/
theorem let_go {H1 : Hp} {hp hp2 h2 : Heap} {g1 g2 : Array GenState} {d1 d2 : Drawn} {t1 t2 : Nat} {os1 os2 : OsState} {a C : Addr} (I1 : Inv X pins σ H1 ⟨hp, g1, d1, t1, os1⟩) (ha : hp.objs.size ≤ a) (k : ∀ b o, hp.get? b = some o → hp2.get? b = some o)
    (un : Un (frs X.stack) [] (upd H1 a (exo a C none)) (upd H1 a (exo a C none)) hp2 h2) (hok : HOk X.prog X.w (upd H1 a (exo a C none)) h2) (ho : os2 = os1) (hb : AllBare g2) :
    ∃ (t0 : Addr) (J : Heap), Inv X pins σ H1 ⟨J, g2, d2, t2, os2⟩ ∧ (∀ b o, J.get? b = some o → h2.get? b = some o) ∧ J.get? a = none ∧ h2.get? a = some ({ cls := .ref C, dict := none, data := .fields #[.ref t0, .none, .none, .none, .bool false, .none] } : Obj) := by
  have fr : H1 a = none := I1.hok.fresh ha
  obtain ⟨t0, at_⟩ := exo_at hok (upd_same (H := H1))
  obtain ⟨J, j1, j2⟩ := restrict h2 fun b => decide (b ≠ a)
  have same : ∀ b, b ≠ a → J.get? b = h2.get? b := fun b hb => j1 b (decide_eq_true hb)
  have out : J.get? a = none := j2 a (by simp)
  have old : ∀ {b : Addr} {o : Obj}, hp.get? b = some o → b ≠ a := fun z => Nat.ne_of_lt (Nat.lt_of_lt_of_le (Heap.lt_size z) ha)
  have tr : ∀ {b : Addr} {u : HO}, H1 b = some u → b ≠ a := fun z e => by rw [e, fr] at z; cases z
  have hx : ∀ {b : Addr}, b ≠ a → (upd H1 a (exo a C none)) b = H1 b := fun hb => upd_ne hb
  have U : Un (frs X.stack) [] H1 H1 hp J :=
    { keep := fun b o z n hf he => (same b (old z)).trans (un.keep b o (k b o z) ((hx (old z)).trans n) hf he)
      slot := fun b o z n hf he => by rw [same b (old z)]; exact un.slot b o (k b o z) ((hx (old z)).trans n) hf he
      free := fun b o z n he => n
      there := fun b o z he => by rw [same b (old z)]; exact un.there b o (k b o z) he
      tups := fun b xs z => z
      frzs := fun b o v z => z
      tbls := fun b ps z => ⟨#[], by simpa using z⟩ }
  have ok : HOk X.prog X.w H1 J := fun b o z => by
    have ne := tr z
    refine (hok b o ((hx ne).trans z)).stay (fun c v hc y => ?_) (fun c hc => ?_) fun c xs hc => ?_
    · have nc : c ≠ a := by
        rcases hc with rfl | hc
        · exact ne
        · intro e
          subst e
          rw [upd_same] at hc
          exact exo_own (Option.some.inj hc)
      rw [same c nc]
      exact y
    · by_cases e : c = a
      · subst e
        rw [upd_same] at hc
        exact (exo_own (Option.some.inj hc)).elim
      · exact (hx e).symm.trans hc
    · by_cases e : c = a
      · subst e
        rw [upd_same] at hc
        exact (exo_tup (Option.some.inj hc)).elim
      · exact (hx e).symm.trans hc
  refine ⟨t0, J, I1.call' (ch := []) ho U ok hb (fun b z => absurd z List.not_mem_nil), fun b o z => ?_, out, at_⟩
  by_cases e : b = a
  · rw [e, out] at z; cases z
  · exact (same b e).symm.trans z
theorem pmk_oex0 {x : Str} {p pos : Pos} {C fI : Addr} {k : Nat} {fd : FuncData} {ps : List Str} (T : OexC X.K C) (iC : PySem.W.findIn X.K (.ref C) "__init__" = some (some (.ref fI))) (tI : PySem.W.typeIn X.K (.ref fI) = some (.type "function"))
    (F1 : FnOk X.prog X.w X.K X.mg X.base (L2.CX X.prog X.w) k fI fd ps (spI0 C)) (hr : Room (k + 1) X.A) (hb : Binds X.K fd ps []) (hg : Gl X x) (hm : X.mg x = some (.ref C)) (hdb : (x == ("__debug__" : Str)) = false := by decide) :
    PMk X (.Call (.Name x p) [] [] pos) (fun _ H Q => Q (.ref C) none H) := by
  intro pins s σ H Q I h
  obtain ⟨nm, q, N, bs, bm, sn, sub, ab, col, dd, k0, k1, k2, k3, k5, hC, hbm⟩ := T.cls
  refine wpAny_Call_Name_kw (ld_glob I hg hm (PySem.W.callWith_K0 I.kIn T.kC ?_) hdb)
  show wpAny _ _ (call (.ref C) []) _ _ _
  obtain ⟨hp, g, dr, tk, os⟩ := s
  have le : hp.objs.size ≤ hp.objs.size + 1 := Nat.le_succ _
  have keep : ∀ b o, hp.get? b = some o → ((hp.push (PySem.W.kdv_tup [])).push (PySem.HandSPX.excO C hp.objs.size)).get? b = some o := fun b o e => Heap.get?_push_of_some _ (Heap.get?_push_of_some _ e)
  have hget : ((hp.push (PySem.W.kdv_tup [])).push (PySem.HandSPX.excO C hp.objs.size)).get? (hp.objs.size + 1) = some (PySem.HandSPX.excO C hp.objs.size) := by heap_get
  have I2 : Inv X pins σ (upd H (hp.objs.size + 1) (exo (hp.objs.size + 1) C none)) ⟨(hp.push (PySem.W.kdv_tup [])).push (PySem.HandSPX.excO C hp.objs.size), g, dr, tk, os⟩ := I.laid (t' := tk) keep le (exo_ok hget)
  have q2 : spI0 C [.ref (hp.objs.size + 1)] (upd H (hp.objs.size + 1) (exo (hp.objs.size + 1) C none)) (fun v H2 => v = .non ∧ H2 = upd H (hp.objs.size + 1) (exo (hp.objs.size + 1) C none)) (fun _ _ _ => False) := ⟨_, rfl, upd_same, rfl, rfl⟩
  have hl : ([Value.ref (hp.objs.size + 1)] ++ []).length = ps.length := (F1.len _ _ _ _ q2)
  have run := F1.run _ X.stack _ _ ⟨[Value.ref (hp.objs.size + 1)], []⟩ ([Value.ref (hp.objs.size + 1)] ++ []) [.ref (hp.objs.size + 1)] _ _ (hr.make C [] []) (I2.env0.make C [] []) (hb _ [Value.ref (hp.objs.size + 1)] I2.kIn hl) (.cons rfl .nil) q2
  have body : codeAny (model X.prog X.w) (X.A.under (.builtin "type.__call__" ⟨[.ref C], []⟩)) (.call (.ref fI) ⟨[.ref (hp.objs.size + 1)], []⟩) (PySem.W.InitBack (hp.objs.size + 1) (fun r s' => match r with | .ok (.ret v) => MkP X pins σ Q v s' | .ok _ => False | .error e => X.xe e s')) ⟨(hp.push (PySem.W.kdv_tup [])).push (PySem.HandSPX.excO C hp.objs.size), g, dr, tk, os⟩ := by
    refine codeAny_mono run fun r s' z => ?_
    rcases r with e | fl
    · obtain ⟨_, _, _, _, _, _, _, _, _, _, _, _, y⟩ := z
      exact y.elim
    · cases fl with
      | ret u =>
        obtain ⟨v, H2, os2, bare2, un2, hok2, rv, ev, eH⟩ := z
        subst ev eH
        obtain ⟨h2, g2, d2, t2, os'⟩ := s'
        obtain ⟨t0, J, I3, kJ, out, at_⟩ := let_go (d2 := d2) (t2 := t2) I le keep un2 hok2 os2 bare2
        exact ⟨rv, _, _, _, ⟨J, g2, d2, t2, os'⟩, _, .ref C, none, rfl, I3, kJ, out, at_, ⟨rfl, rfl⟩, rfl, rfl, I.hok.fresh le, rfl, bare2, raises_own T.exC T.tyC, h⟩
      | _ => exact z.elim
  exact wpAny_call (PySem.HandSPX.call_own F.excBase_ValueError (fun Y => PySem.HandSPX.refsVE_contains Y bm hbm) (I.kIn _ _ hC) (PySem.W.looks_findIn I.kIn iC) (fun self => PySem.W.bind_fn I.kIn self tI) (Nat.zero_le _) body)
end
section
variable [EXC] {G : String → Addr} {K : PySem.W.Frag} {W : WX}
theorem raise0_core {c : String} : SS G K W (fun _ σ H => W (.ref (G c)) none σ H) (cRaise c [] cNil) := by
  intro A T F σ g D I p
  have p1 : RS.Post G K W A T g D (.exc ⟨c, []⟩ F T) := p
  exact p1 g σ (.ref (G c)) none I Le.refl ⟨rfl, rfl⟩
theorem js_raise0 {X : Cx} {pos p pos2 : Pos} {c : String} {k : Nat} (E : ExK G X.prog X.w X.K X.mg X.base k c (spI0 (G c))) (hc : X.calm = true) (tk : Takes X W) (hr : Room (k + 1) X.A) (hg : Gl X (Str.ofString c)) (hdb : (Str.ofString c == ("__debug__" : Str)) = false := by decide) :
    JS G X W (.Raise (some (.Call (.Name (Str.ofString c) p) [] [] pos)) none pos2) (cRaise c [] cNil) := by
  obtain ⟨fI, fd, ps, h1, h2, h3, h4⟩ := E.ini
  exact ⟨_, ps_raise hc tk (pmk_oex0 E.T h1 h2 h3 hr h4 hg E.gC hdb), raise0_core⟩
end
end Sim

set_option Elab.async false
set_option linter.all false
set_option maxRecDepth 100000
set_option maxHeartbeats 4000000
namespace Sim
open PySem L2
variable [EXC]
/-! ### {k: v, ..} of written keys -/
def kmerge (ks : List (Key × D)) (more : List (Key × D)) : List (Key × D) := more.foldl (fun acc kv => kput acc kv.1 kv.2) ks
def cDic (ks : List Key) (ma : MA) : ME := fun F T => ((ma F T).nox).bind fun xs F T => match (oes xs).bind pureL with
  | some ds => if ds.length = ks.length ∧ ks.length ≤ 15 then .ok (.fr (.dic (kmerge [] (ks.zip ds)))) F T else .bad
  | none => .bad
section
variable {G : String → Addr} {K : PySem.W.Frag} {A : Act} {T T' : Sto} {F F' : Fr} {σ : St} {g g' g0 : Gs} {W : WX} {H H' : Hp}
theorem post_nox {α : Type} {r : Rs α} {P : α → Fr → Sto → Prop} {E : Xc → Fr → Sto → Prop} (h : (r.nox).Post P E) : r.Post P fun _ _ _ => False := by
  cases r with
  | ok a F T => exact h
  | exc x F T => exact h
  | bad => exact h
def SP (G : String → Addr) (K : PySem.W.Frag) (trs : List (TE × TE)) (ks : List Key) (ma : MA) : Prop := ∀ A T F σ g (Q : List (V × V) → Hp → Prop), Iv G K A T F σ g →
  (ma F T).Post (fun xs F' T' => ∀ g' vs, Iv G K A T' F' σ g' → Le T T' g g' → ODenL G K T' σ g' xs vs → vs.length = ks.length → Q ((ks.map kV).zip vs) g'.H) (fun _ _ _ => False) → tPairs trs σ g.H Q
theorem DenK.merge : ∀ {more : List (Key × D)} {ms : List (Key × V)} {ks : List (Key × D)} {us : List (Key × V)}, DenK G K H more ms → DenK G K H ks us → DenK G K H (kmerge ks more) (mergeK us ms)
  | [], ms, ks, us, h, k => by
    rw [show ms = [] from h]
    exact k
  | (j, d) :: r, ms, ks, us, ⟨v, w, e, h1, h2⟩, k => by
    rw [e]
    show DenK G K H (kmerge (kput ks j d) r) (mergeK (putK us j v) w)
    exact DenK.merge h2 (DenK.put h1 k)
theorem denK_zip : ∀ {ks : List Key} {ds : List D} {vs : List V}, ds.length = ks.length → DenL G K H ds vs → DenK G K H (ks.zip ds) (ks.zip vs)
  | [], ds, vs, hl, h => by simp [DenK]
  | k :: r, [], vs, hl, h => by simp at hl
  | k :: r, d :: ds, vs, hl, ⟨v, w, e, h1, h2⟩ => by
    rw [e]
    exact ⟨v, _, rfl, h1, denK_zip (by simpa using hl) h2⟩
theorem kvs_zip : ∀ {ks : List Key} {vs : List V}, (ks.map kV).zip vs = (ks.zip vs).map fun kv => (kV kv.1, kv.2)
  | [], vs => by simp
  | k :: r, [] => by simp
  | k :: r, v :: vs => by
    rw [List.map_cons, List.zip_cons_cons, List.zip_cons_cons, List.map_cons, kvs_zip]
theorem dic_core {trs : List (TE × TE)} {ks : List Key} {ma : MA} (h : SP G K trs ks ma) : SE G K W (tDisp trs) (cDic ks ma) := by
  intro A T F σ g Q I pp p hp
  have n0 : A.own0 p = false := I.own0 (I.fresh hp)
  have hpr : ∀ a, A.prot a → A.own0 a = true := fun a ha => (I.prot a ha).1
  have h0 := I.none0 hp
  obtain ⟨I2, w2⟩ := I.guard (o := .dK []) hp
  refine h (A.gd p (.dK [])) T F σ ⟨plus g.own p, g.φ, upd g.H p (.dK [])⟩ _ I2 ((nox_post (Q' := fun _ _ _ => False) pp).imp (fun xs F1 T1 p1 g1 vs I3 l3 d3 hl => ?_) fun _ _ _ q => q)
  have p2 : Rs.Post (match (oes xs).bind pureL with | some ds => (if ds.length = ks.length ∧ ks.length ≤ 15 then Rs.ok (RV.fr (.dic (kmerge [] (ks.zip ds)))) F1 T1 else .bad) | none => .bad) _ _ := p1
  cases e : oes xs with
  | none => rw [show (oes xs).bind pureL = none from by rw [e]; rfl] at p2; exact p2.elim
  | some es =>
    cases e2 : pureL es with
    | none => rw [show (oes xs).bind pureL = none from by rw [e]; exact e2] at p2; exact p2.elim
    | some ds =>
      rw [show (oes xs).bind pureL = some ds from by rw [e]; exact e2] at p2
      have p3 : Rs.Post (if ds.length = ks.length ∧ ks.length ≤ 15 then Rs.ok (RV.fr (.dic (kmerge [] (ks.zip ds)))) F1 T1 else .bad) _ _ := p2
      split at p3
      · rename_i c
        obtain ⟨s1, s2⟩ := oes_den e d3
        have dl := pureL_den e2 s2
        have hpo : g1.H p = some (.dK []) := ((I3.prot p (.inr rfl)).2).trans (if_pos rfl)
        obtain ⟨I4, w4⟩ := I3.reguard (o' := .dK (mergeK [] (ks.zip vs)))
        have dm : DenK G K g1.W (kmerge [] (ks.zip ds)) (mergeK [] (ks.zip vs)) := DenK.merge (denK_zip c.1 dl) rfl
        obtain ⟨I5, R⟩ := I4.unguard (c := .dic (kmerge [] (ks.zip ds))) h0 n0 hpr rfl ⟨_, rfl, by rw [w4]; exact dm⟩
        have l5 : Le T T1 g ⟨g1.own, g1.φ, upd g1.H p (.dK (mergeK [] (ks.zip vs)))⟩ := ⟨by rw [w4, ← w2]; exact l3.ext, l3.agr, l3.len⟩
        refine ⟨hpo, ks.zip vs, kvs_zip, by rw [List.length_zip]; omega, p3 _ (.ref p) I5 l5 ⟨p, rfl, R⟩⟩
      · exact p3.elim
end
section
variable {G : String → Addr} {X : Cx} {W : WX} {pos : Pos} {ks : List Key} {ma : MA} {keys : List (Option Expr)} {values : List Expr} {k e : Expr} {kk : Key} {mk m : MO}
structure JD (G : String → Addr) (X : Cx) (W : WX) (pos : Pos) (keys : List (Option Expr)) (values : List Expr) (ks : List Key) (ma : MA) : Prop where
  ex : ∃ trs, PPs X pos keys values trs ∧ SP G X.K trs ks ma
theorem jd_nil : JD G X W pos [] [] [] cNil := ⟨[], pps_nil, fun A T F σ g Q I p => p g [] I Le.refl rfl rfl⟩
/-- the key is a written text -/
theorem jd_cons {x : Str} {j : Nat} {kpos : Pos} (hv : JO G X W e m) (hr : JD G X W pos keys values ks ma) : JD G X W pos (some (.Constant (.str x) j kpos) :: keys) (e :: values) (.inr x :: ks) (cCons m ma) := by
  obtain ⟨tv, pv, sv⟩ := hv.ex
  obtain ⟨trs, pr, sr⟩ := hr.ex
  refine ⟨_, pps_cons pe_str pv pr, fun A T F σ g Q I p => ?_⟩
  show tv σ g.H _
  refine sv A T F σ g _ I ((post_bind p).imp (fun y F1 T1 p1 g1 v I1 l1 d1 => ?_) fun _ _ _ q => q.elim)
  refine sr A T1 F1 σ g1 _ I1 ((post_bind p1).imp (fun r F2 T2 p2 g2 vs I2 l2 d2 hl => ?_) fun _ _ _ q => q)
  exact p2 g2 (v :: vs) I2 (l1.trans l2) ⟨v, vs, rfl, l2.o d1, d2⟩ (by rw [List.length_cons, List.length_cons, hl])
theorem je_dic (h : JD G X W pos keys values ks ma) (hall : keys.all (·.isSome) = true := by rfl) (hl : keys.length = values.length := by rfl) (h0 : keys ≠ [] := by simp) (h15 : keys.length ≤ 15 := by decide) : JE G X W (.Dict keys values pos) (cDic ks ma) := by
  obtain ⟨trs, pt, st⟩ := h.ex
  exact ⟨_, pe_disp pt hall hl h0 h15, dic_core st⟩
/-! ### a written tuple of texts under a global name -/
structure GlbT (K : PySem.W.Frag) (mg : Str → Option Value) (x : Str) (xs : List Str) : Prop where
  ex : ∃ (a : Addr) (o : Obj) (its : Array Value) (n : Nat), mg x = some (.ref a) ∧ K.lookup a = some o ∧ o.cls = .type "tuple" ∧ o.data = .seq its n ∧ its.size ≤ sizeLine ∧ Vals (xs.map V.str) its.toList
theorem denL_strs {H : Hp} : ∀ {xs : List Str}, DenL G X.K H (xs.map .str) (xs.map V.str)
  | [] => rfl
  | x :: r => ⟨.str x, r.map V.str, rfl, rfl, denL_strs⟩
theorem jo_glbT {x : Str} {xs : List Str} {p : Pos} (h : GlbT X.K X.mg x xs) (hg : Gl X x) (hd : (x == ("__debug__" : Str)) = false := by decide) : JO G X W (.Name x p) (cD (.rot (xs.map .str))) := by
  obtain ⟨a, o, its, n, hm, hk, h1, h2, h3, h4⟩ := h.ex
  refine ⟨_, pe_glob hg hm (v := .ref a) rfl hd, fun A T F σ g Q I p => p g (.ref a) I Le.refl ⟨scp, a, xs.map V.str, rfl, .inr ⟨o, its, n, hk, h1, h2, h3, h4⟩, denL_strs⟩⟩
end
end Sim

set_option Elab.async false
set_option linter.all false
set_option maxRecDepth 100000
set_option maxHeartbeats 4000000
namespace Sim
open PySem L2
theorem FnG.mono {P : Program} {w : World} {K : PySem.W.Frag} {mg : Str → Option Value} {base : Heap} {j k : Nat} {f : Addr} {fd : FuncData} {ps : List Str} {sp : Sp} (F : FnG P w K mg base j f fd ps sp) (h : j ≤ k) : FnG P w K mg base k f fd ps sp := ⟨F.many, fun A rm => F.go A (rm.mono h)⟩
/-- a method, as the text says it -/
def MeF (K : PySem.W.Frag) (G : String → Addr) (c m : String) (qual : Str) (st : Stmt) (ps : List Str) : Prop := ∃ (f : Addr) (fd : FuncData), Cls K (G c) ∧ Meth K (G c) (Str.ofString m) f ∧ L2.Fun K (Str.ofString m) qual st f fd ∧ Binds K fd ps []
def BoF (K : PySem.W.Frag) (G : String → Addr) (c : String) (qual : Str) (st : Stmt) : Prop := ∃ (f : Addr) (fd : FuncData), PySem.W.findIn K (.ref (G c)) "__bool__" = some (some (.ref f)) ∧ PySem.W.typeIn K (.ref f) = some (.type "function") ∧ L2.Fun K "__bool__" qual st f fd ∧ Binds K fd ["self"] []
def PrF (K : PySem.W.Frag) (G : String → Addr) (c f : String) (qual : Str) (st : Stmt) : Prop := ∃ (pa fa : Addr) (fd : FuncData), Cls K (G c) ∧ PropOf K (G c) (Str.ofString f) pa fa ∧ L2.Fun K (Str.ofString f) qual st fa fd ∧ Binds K fd ["self"] []
def NwF (K : PySem.W.Frag) (mg : Str → Option Value) (G : String → Addr) (c : String) (qual : Str) (st : Stmt) (ps ks : List Str) : Prop := ∃ (f : Addr) (fd : FuncData), Mk K (G c) f ∧ mg (Str.ofString c) = some (.ref (G c)) ∧ L2.Fun K "__init__" qual st f fd ∧ KB K fd ps ks
end Sim

set_option Elab.async false
set_option linter.all false
set_option maxRecDepth 100000
set_option maxHeartbeats 4000000
namespace Sim
open PySem L2
variable [EXC]
/-! ### the truth of an instance by its own __bool__ -/
section
variable {X : Cx} {k : Nat} {C f : Addr} {fd : FuncData} {ps : List Str} {sp : Sp} {E : XK} {pins : List (Addr × Obj)} {σ : St} {H : Hp} {s : Shared} {Q : Bool → Hp → Prop} {a dx : Addr} {fs : List (Str × V)}
theorem run_truG (Fn : FnG X.prog X.w X.K X.mg X.base k f fd ps sp) (rm : Rm k X.A) (hb : Binds X.K fd ps []) (hx : PassesAt (L2.CX X.prog X.w) X σ E) (hs : PySem.W.findIn X.K (.ref C) "__bool__" = some (some (.ref f))) (ht : PySem.W.typeIn X.K (.ref f) = some (.type "function"))
    (I : Inv X pins σ H s) (ea : H a = some (.ins C dx fs)) (q : sp [.ref a] H (fun v H2 => ∃ b, v = .bl b ∧ Q b H2) E) : wpAny (model X.prog X.w) X.A (truthy (.ref a)) (TP X pins σ Q) X.xe s := by
  obtain ⟨mA, O, _, _, _, _⟩ := ins_get I.hok ea
  obtain ⟨od, J, _⟩ := O.look
  have b := hb s [.ref a] I.kIn (by rw [List.append_nil, ← Fn.many _ _ _ _ q]; rfl)
  rw [List.append_nil] at b
  unfold truthy
  refine wpAny_bind (m := callSpecial? (.ref a) (Str.ofString "__bool__")) (PySem.W.special_fn I.kIn J hs ht (wpAny_call (codeAny_mono (Fn.go _ rm X.stack s H ⟨[.ref a], []⟩ [.ref a] [.ref a] _ E I.env0 b (.cons rfl .nil) q) ?_)))
  rintro (e1 | fl) s2 z
  · exact hx pins H s e1 s2 I z
  · cases fl with
    | ret u =>
      obtain ⟨v, H2, I2, rv, bb, ev, q2⟩ := I.after z
      subst ev
      obtain rfl : u = Value.bool bb := rv
      exact wpAny_pure ⟨H2, I2, q2⟩
    | _ => exact z.elim
end
def tTrG (G : String → Addr) (K : PySem.W.Frag) (tab : BTab) (E : St → XK) (ta : TE) : TT := fun σ H Q => ta σ H fun x H1 => ∃ a c dx fs mf, x = .ref a ∧ tab c = some mf ∧ H1 a = some (.ins (G c) dx fs) ∧ spS G K 1 mf [.ref a] H1 (fun v H2 => ∃ b, v = .bl b ∧ Q b H2) (E σ)
def frT (F : Fr) : FR → Rs Bool
  | .ok (.e (.p (.bl b))) T => .ok b F T
  | .exc x T => .exc x F T
  | _ => .bad
def cTruB (tab : BTab) (mo : MO) : MT := fun F T => (mo F T).bind fun x F T => match x, look F T x with
  | .e y, some (.c (.ins c _)) => match tab c with
    | some mf => frT F (mf [y] T)
    | none => .bad
  | _, _ => .bad
section
variable {G : String → Addr} {K : PySem.W.Frag} {A : Act} {T T' : Sto} {F F' : Fr} {σ : St} {g g' g0 : Gs} {W : WX}
theorem truB_core {ta : TE} {mo : MO} {tab : BTab} (ha : SO G K W ta mo) : ST G K W (tTrG G K tab (WE W) ta) (cTruB tab mo) := by
  intro A T F σ g Q I p
  refine ha A T F σ g _ I ((post_bind p).imp (fun x F1 T1 p1 g1 v I1 l1 d => ?_) fun _ _ _ q => q)
  cases x with
  | sl i =>
    have p2 : Rs.Post (match OV.sl i, look F1 T1 (.sl i) with | .e y, some (.c (.ins c _)) => (match tab c with | some mf => frT F1 (mf [y] T1) | none => Rs.bad) | _, _ => .bad) _ _ := p1
    exact p2.elim
  | e x =>
    have p2 : Rs.Post (match OV.e x, look F1 T1 (.e x) with | .e y, some (.c (.ins c _)) => (match tab c with | some mf => frT F1 (mf [y] T1) | none => Rs.bad) | _, _ => .bad) _ _ := p1
    cases lk : look F1 T1 (.e x) with
    | none => rw [lk] at p2; exact p2.elim
    | some y =>
      rw [lk] at p2
      have dn := look_den I1 d lk
      cases y with
      | c y =>
        cases y with
        | ins c fs =>
          have p3 : Rs.Post (match tab c with | some mf => frT F1 (mf [x] T1) | none => Rs.bad) _ _ := p2
          cases tc : tab c with
          | none => rw [tc] at p3; exact p3.elim
          | some mf =>
            rw [tc] at p3
            have p4 : Rs.Post (frT F1 (mf [x] T1)) _ _ := p3
            obtain ⟨a, rfl, dx, us, hx, df⟩ := dn
            refine ⟨a, c, dx, us, mf, rfl, tc, hx, ?_⟩
            have e : oes [.e x] = some [x] := rfl
            obtain ⟨s1, s2⟩ := oes_den (T := T1) (σ := σ) (g := g1) e ⟨.ref a, [], rfl, d, rfl⟩
            refine call_in I1 s1 s2 rfl ?_
            cases q : mf [x] T1 with
            | bad => rw [q] at p4; exact p4.elim
            | exc z S =>
              rw [q] at p4
              exact Wish.le p4 l1
            | ok r S =>
              rw [q] at p4
              cases r with
              | fr d => exact p4.elim
              | e y =>
                cases y with
                | loc n => exact p4.elim
                | tp ys => exact p4.elim
                | p dd =>
                  cases dd with
                  | bl b =>
                    intro g' v I' l rd
                    have rd2 := rd.2
                    exact ⟨b, rd2, p4 g' I' (l1.trans l)⟩
                  | _ => exact p4.elim
        | _ => exact p2.elim
      | _ => exact p2.elim
end
section
variable {G : String → Addr} {X : Cx} {W : WX} {a : Expr} {tab : BTab} {k j : Nat}
theorem jt_truB {m : MO} (hk : ∀ c mf, tab c = some mf → BooG X.prog X.w X.K X.mg X.base G k c mf) (hr : Rm j X.A) (hkj : k ≤ j) (tk : Takes X W) (h : JO G X W a m) (he : ∀ whole, isTrue a X.env whole = (do let v ← whole; standAt a.pos; holding [v] (truthy v)) := by intro _; rfl) : JT G X W a (cTruB tab m) := by
  obtain ⟨ta, pa, sa⟩ := h.ex
  refine ⟨_, ⟨fun pins s σ H Q I h => ?_⟩, truB_core sa⟩
  refine PyProof.Rows.isTrue_plain (thn (pa.run pins s σ H _ I h) fun v s1 ⟨x, H1, I1, r1, aa, c, dx, fs, mf, ev, et, ea, q⟩ => ?_) (he _)
  subst ev
  obtain ⟨f, fd, ps, h1, h2, h3, h4⟩ := (hk c mf et).ex
  obtain rfl : v = Value.ref aa := r1
  exact run_truG h3 (hr.mono hkj) h4 (passAt tk σ) h1 h2 I1 ea q
end
end Sim

set_option Elab.async false
set_option linter.all false
set_option maxRecDepth 100000
set_option maxHeartbeats 4000000
namespace Sim
open PySem L2
variable [EXC]
/-! ### global numbers and texts -/
structure GlbV (mg : Str → Option Value) (x : Str) (v : V) : Prop where
  ex : ∃ u, mg x = some u ∧ RelV v u
section
variable {G : String → Addr} {X : Cx} {W : WX}
theorem jo_glbI {x : Str} {i : Int} {p : Pos} (h : GlbV X.mg x (.int i)) (hg : Gl X x) (hd : (x == ("__debug__" : Str)) = false := by decide) : JO G X W (.Name x p) (cD (.int i)) := by
  obtain ⟨u, hm, r⟩ := h.ex
  exact ⟨_, pe_glob hg hm r hd, fun A T F σ g Q I p => p g (.int i) I Le.refl ⟨scp, rfl⟩⟩
theorem jo_glbS {x s : Str} {p : Pos} (h : GlbV X.mg x (.str s)) (hg : Gl X x) (hd : (x == ("__debug__" : Str)) = false := by decide) : JO G X W (.Name x p) (cD (.str s)) := by
  obtain ⟨u, hm, r⟩ := h.ex
  exact ⟨_, pe_glob hg hm r hd, fun A T F σ g Q I p => p g (.str s) I Le.refl ⟨scp, rfl⟩⟩
end
/-! ### a comprehension inside another one, with no names of the outer block -/
theorem blkOk_nf {N : List Str} {sc scope : Scope} {own : List (Str × Nat)} (h : blkC N { kind := .function, names := [], isGenerator := false, isCoroutine := false } scope own = true) : BlkOk N sc scope own := by
  refine blkOk_by ?_
  unfold blkC at h ⊢
  simp only [Bool.and_eq_true, List.all_eq_true] at h ⊢
  obtain ⟨h1, h2⟩ := h
  refine ⟨h1, fun y hy => ?_⟩
  have := h2 y hy
  split at this
  · simp at this
  · assumption
  · assumption
  · assumption
/-! ### e.f, e of one of several classes -/
def cXfM (cs : List String) (f : String) (i : Nat) : MO := fun F T => match F[i]? with
  | some (.x z) => if z.c ∈ cs then match kfind z.fs f with
      | some d => .ok (.e (.p d)) F T
      | none => .bad
    else .bad
  | _ => .bad
section
variable {G : String → Addr} {X : Cx} {a : Addr} {oe : Obj} {cls : Value} {d : Option Addr} {pn : List (Addr × Obj)} {W : WX} {pos np p : Pos} {n : Str} {i : Nat} {f : String} {cs : List String}
theorem jo_xfM (T : ∀ c ∈ cs, XfC X.K (G c) ∧ PySem.W.findIn X.K (.ref (G c)) (Str.ofString f) = some none) (hz : Zc cls d oe) (hf : ∃ vs, oe.data = .fields vs) (hN : X.N[i]? = some n) (hv : Vis X.env.scope n) (hd : (n == ("__debug__" : Str)) = false := by decide) (hcd : (n == ("__classdict__" : Str)) = false := by decide)
    (hb : attributeBase (.Name n np) (Str.ofString f) X.env (eval (.Name n np) X.env) = eval (.Name n np) X.env := by rfl) : @JO ⟨a, cls, d⟩ G (X.suite a ((a, oe) :: pn)) W (.Attribute (.Name n np) (Str.ofString f) pos) (cXfM cs f i) := by
  letI : EXC := ⟨a, cls, d⟩
  refine ⟨fun σ H Q => ∃ c, c ∈ cs ∧ tXf a cls d (G c) (Str.ofString f) (tVar i) σ H Q, ⟨fun pins s σ H Q I ⟨c, hc, h⟩ => (pe_xf (T c hc).1 (T c hc).2 hz hf (pe_var (X := X.suite a ((a, oe) :: pn)) (pos := np) hN hv hd hcd) hb).run pins s σ H Q I h⟩, fun A T' F σ g Q I p => ?_⟩
  unfold cXfM at p
  split at p
  · rename_i z hz'
    split at p
    · rename_i hc
      split at p
      · rename_i dv hk
        obtain ⟨h1, h2, h3⟩ := I.slot i _ hz'
        refine ⟨z.c, hc, .ref a, h1, rfl, h2, ?_⟩
        cases d with
        | none =>
          have e : z.fs = [] := h3
          rw [e] at hk
          cases hk
        | some dd =>
          obtain ⟨us, h4, h5⟩ := h3
          obtain ⟨v, h6, h7⟩ := h5.find hk
          exact ⟨dd, us, v, rfl, vw_le.fm dd (.xd us) trivial h4, h6, p g v I Le.refl ⟨scp, h7⟩⟩
      · exact p.elim
    · exact p.elim
  · exact p.elim
end
end Sim

set_option Elab.async false
set_option linter.all false
set_option maxRecDepth 100000
set_option maxHeartbeats 4000000
namespace Sim
open PySem L2
variable [EXC]
open PyProof.Rows (envOfC)
/-! ### defs called within an except suite; they do not raise -/
structure RmS (k : Nat) (A : PySem.Around) : Prop where
  dp : A.depth + 3 * k + 5 < recursionLimit
  un : A.units + 16 * k + 200 < cLine
  gd : A.guards = some []
theorem RmS.mono {j k : Nat} {A : PySem.Around} (r : RmS k A) (h : j ≤ k) : RmS j A := ⟨by have := r.dp; omega, by have := r.un; omega, r.gd⟩
theorem Rm.mark {k : Nat} {A : PySem.Around} (r : Rm k A) {v : Option Value} : RmS k (A.mark v) := ⟨r.rm.dp, r.rm.un, r.gd⟩
theorem Rm.soft {k : Nat} {A : PySem.Around} (r : Rm k A) : RmS k A := ⟨r.rm.dp, r.rm.un, r.gd⟩
theorem RmS.mark {k : Nat} {A : PySem.Around} (r : RmS k A) {v : Option Value} : RmS k (A.mark v) := ⟨r.dp, r.un, r.gd⟩
theorem RmS.deeper {k : Nat} {A : PySem.Around} (r : RmS (k + 1) A) (env : Env) : RmS k (A.deeper env) :=
  ⟨by have := r.dp; show A.depth + 1 + 3 * k + 5 < _; omega, by have := r.un; show A.units + 3 + 16 * k + 200 < _; omega, r.gd⟩
theorem hu_m {A : PySem.Around} {v : Option Value} {k n : Nat} (hr : Rm k A) (h : n ≤ 200 := by decide) : (A.mark v).units + n < cLine := by
  have := hr.rm.un
  show A.units + n < cLine
  omega
theorem hu_q {A : PySem.Around} {k n : Nat} (hr : RmS k A) (h : n ≤ 200 := by decide) : A.units + n < cLine := by
  have := hr.un
  omega
/-- the promise of a def while an exception is handled -/
structure FnS (P : Program) (w : World) (K : PySem.W.Frag) (mg : Str → Option Value) (base : Heap) (k : Nat) (f : Addr) (fd : FuncData) (ps : List Str) (sp : Sp) : Prop where
  many : ∀ vs H Q E, sp vs H Q E → vs.length = ps.length
  go : ∀ (B : PySem.Around) (a : Addr), B.handled = none → RmS k B → ∀ (outer : List Env) (s : Shared) (H : Hp) (args : Args) (us : List Value) (vs : List V) (Q : VK), Env0 P w K mg base B outer s H → BindsTo s fd args (ps.zip us) → Vals vs us → sp vs H Q (fun _ _ _ => False) →
    codeAny (model P w) (B.mark (some (.ref a))) (.call (.ref f) args) (CR (L2.CX P w) outer P w H s Q (fun _ _ _ => False)) s
section
variable {G : String → Addr} {K : PySem.W.Frag}
theorem fn_simS {P : Program} {w : World} {mg : Str → Option Value} {base : Heap} {x qual : Str} {st : Stmt} {f : Addr} {fd : FuncData} {N ps : List Str} {k : Nat} {mb : MS} (Fu : L2.Fun K x qual st f fd) (Sc : FnScope N ps (defScope st))
    (hb : ∀ (cdv : Value) (B : PySem.Around) (a : Addr) (outer : List Env) (s : Shared) (H : Hp) (E : XK), RmS k (B.deeper (envOfC qual (defScope st) s.heap.objs.size f cdv)) → JSs G ((cxOf (L2.CX P w) P w K mg base N qual (defScope st) f cdv B outer s H E).suite a []) W0 (defBody st) mb) :
    FnS P w K mg base (k + 1) f fd ps (spS G K ps.length (mfOf N.length mb)) := by
  have hpl : ps.length ≤ N.length := by have := congrArg List.length Sc.pre; rw [List.length_take] at this; omega
  obtain ⟨oc, od, kV, doc, pm, an, cdv, ct, osl, rfl, lk, hcd⟩ := Fu.ex
  refine ⟨?_, fun B a hB rm outer s H args us vs Q e0 bd r h => ?_⟩
  · rintro vs H Q E ⟨own, φ, S, es, en, hl, sc, d, p⟩
    rw [d.length, hl]
  · have lv : vs.length = ps.length := by
      obtain ⟨own, φ, S, es, en, hl, sc, d, p⟩ := h
      rw [d.length, hl]
    have kin : K.In s.heap := fun b o e => (e0.bs b o (e0.mod.kin b o e)).1
    have dp : (B.mark (some (.ref a))).depth < recursionLimit := by have := rm.dp; show B.depth < _; omega
    refine Att.call_fn kin (e0.mod.nolimit.keeps fun b o e => (e0.bs b o e).1) lk hcd dp bd ?_ (fun s1 x1 => ?_) Sc.co Sc.gen Sc.kind
    · rw [List.all_eq_true]
      rintro ⟨n, v⟩ hm
      rcases Sc.par n (List.of_mem_zip hm).1 with q | q <;> rw [show (defScope st).names.lookup n = _ from q] <;> rfl
    · obtain ⟨own, φ, S, es, en, hl, sc, d, p⟩ := h
      obtain ⟨t, h1, h2⟩ := (hb cdv B a outer s H (fun _ _ _ => False) (rm.deeper _)).ex
      have I00 := inv_start (CX := L2.CX P w) (P := P) (w := w) (K := K) (mg := mg) (base := base) (E := fun _ _ _ => False) (f := f) (cd := cdv) (qual := qual) Sc hB e0 lv r x1
      have I0 : Inv ((cxOf (L2.CX P w) P w K mg base N qual (defScope st) f cdv B outer s H (fun _ _ _ => False)).suite a []) [] (L2.start N vs) H s1 :=
        ⟨I00.ok.suite a [], I00.os, I00.bare, I00.base, I00.loc, I00.cell, I00.free, I00.freeC, (fun p hp => by cases hp), I00.hok, I00.len⟩
      have p' : FPost G K own φ H S Q (fun _ _ _ => False) (rsOut S.length (mb (es.map .e ++ List.replicate (N.length - es.length) .u) S)) := p
      refine wpAny_mono (h1.run [] s1 _ H _ I0 (h2 (actOf own φ H S) S _ _ ⟨own, φ, H⟩ { nx := fun _ H' => Q .non H', rt := Q } (Iv.enter en sc d (by rw [hl]; exact hpl)) (fpost_out en rfl rfl p'))) (fun fl s' hs => ?_) fun e s' hs => hs.elim
      cases fl with
      | ret u =>
        obtain ⟨v, σ', H', J, rv, q⟩ := hs
        exact ⟨v, H', J.os, J.bare, J.base, J.hok, rv, q⟩
      | next =>
        obtain ⟨σ', H', J, q⟩ := hs
        exact ⟨.non, H', J.os, J.bare, J.base, J.hok, rfl, q⟩
      | brk =>
        obtain ⟨_, _, _, q⟩ := hs
        exact q.elim
      | cont =>
        obtain ⟨_, _, _, q⟩ := hs
        exact q.elim
end
/-- f(e, ..), f does not raise -/
def cFnS (np : Nat) (mf : MFn) (ma : MA) : ME := fun F T => (ma F T).bind fun xs F T => match oes xs with
  | some es => if es.length = np then frNo F (mf es T) else .bad
  | none => .bad
section
variable {G : String → Addr} {K : PySem.W.Frag} {A : Act} {T T' : Sto} {F F' : Fr} {σ : St} {g g' g0 : Gs} {W : WX}
theorem fnS_core {ta : TA} {ma : MA} {mf : MFn} {np : Nat} (ha : SA G K W ta ma) : SE G K W (tCallS (spS G K np mf) (WE W0) ta) (cFnS np mf ma) := by
  intro A T F σ g Q I p
  refine ha A T F σ g _ I ((post_bind p).imp (fun xs F1 T1 p1 g1 vs I1 l1 d1 => ?_) fun _ _ _ q => q)
  have p1' : Rs.Post (match oes xs with | some es => (if es.length = np then frNo F1 (mf es T1) else .bad) | none => .bad) _ _ := p1
  cases e : oes xs with
  | none => rw [e] at p1'; exact p1'.elim
  | some es =>
    rw [e] at p1'
    have p2 : Rs.Post (if es.length = np then frNo F1 (mf es T1) else .bad) _ _ := p1'
    split at p2
    · rename_i hl
      obtain ⟨s1, s2⟩ := oes_den e d1
      refine call_in (W := W0) I1 s1 s2 hl ?_
      cases q : mf es T1 with
      | bad => rw [q] at p2; exact p2.elim
      | exc z S => rw [q] at p2; exact p2.elim
      | ok r S =>
        rw [q] at p2
        have p5 : Rs.Post (frIn F1 (.ok r S)) _ _ := p2
        cases r with
        | fr d => exact fun g' v I' l rd => p5 g' v I' (l1.trans l) rd
        | e y => exact fun g' v I' l rd => p5 g' v I' (l1.trans l) rd
    · exact p2.elim
end
structure CalS (P : Program) (w : World) (K : PySem.W.Frag) (mg : Str → Option Value) (base : Heap) (G : String → Addr) (k : Nat) (x : Str) (np : Nat) (mf : MFn) : Prop where
  ex : ∃ (f : Addr) (fd : FuncData) (ps : List Str), FnS P w K mg base k f fd ps (spS G K np mf) ∧ mg x = some (.ref f) ∧ PySem.W.keepIn K (.ref f) = true ∧ Binds K fd ps []
theorem calS_of {P : Program} {w : World} {K : PySem.W.Frag} {mg : Str → Option Value} {base : Heap} {G : String → Addr} {k : Nat} {x : Str} {st : Stmt} {N ps : List Str} {mb : MS} (d : DefK K mg x st ps) (Sc : FnScope N ps (defScope st))
    (hb : ∀ (f : Addr) (cdv : Value) (B : PySem.Around) (a : Addr) (outer : List Env) (s : Shared) (H : Hp) (E : XK), RmS k (B.deeper (envOfC x (defScope st) s.heap.objs.size f cdv)) → JSs G ((cxOf (L2.CX P w) P w K mg base N x (defScope st) f cdv B outer s H E).suite a []) W0 (defBody st) mb) :
    CalS P w K mg base G (k + 1) x ps.length (mfOf N.length mb) := by
  obtain ⟨f, fd, Fu, hm, hk, hb'⟩ := d.ex
  exact ⟨f, fd, ps, fn_simS Fu Sc (hb f), hm, hk, hb'⟩
section
variable {G : String → Addr} {X : Cx} {W : WX} {pos p : Pos} {e : Expr} {es : List Expr} {k j np : Nat} {x : Str} {mf : MFn} {ma : MA} {a : Addr} {pn : List (Addr × Obj)}
theorem je_calS (c : CalS X.prog X.w X.K X.mg X.base G k x np mf) (hr : RmS j X.A) (hk : k ≤ j) (hh : X.A.handled = none) (hg : Gl X x) (ha : JA G (X.suite a pn) W (e :: es) ma)
    (hdb : (x == ("__debug__" : Str)) = false := by decide) (he : starEach (e :: es) X.env = (false, eval e X.env) :: starEach es X.env := by rfl) (hpl : (backTo pos (starEach es X.env)).any (·.1) = false := by rfl) :
    JE G (X.suite a pn) W (.Call (.Name x p) (e :: es) [] pos) (cFnS np mf ma) := by
  obtain ⟨f, fd, ps, Fn, hm, hkp, hb⟩ := c.ex
  obtain ⟨ta, pa, sa⟩ := ha.ex
  refine ⟨_, ⟨fun pins s σ H Q I h => wpAny_Call_Name_kw (ld_glob I hg hm (PySem.W.callWith_K (h₀ := X.base) I.ok.mod.kin hkp (thn (pa.run pos pins s σ H _ I h) fun us s1 ⟨vs, H1, I1, r, q⟩ => ⟨I1.kIn, ?_⟩) he hpl) hdb)⟩, fnS_core sa⟩
  have b := hb s1 us I1.kIn (by rw [List.append_nil, ← r.length]; exact Fn.many _ _ _ _ q)
  rw [List.append_nil] at b
  have e0 := I1.env0
  have e1 : Env0 X.prog X.w X.K X.mg X.base X.A X.stack s1 H1 := { e0 with frames := e0.frames }
  refine wpAny_call (codeAny_mono (Fn.go X.A a hh (hr.mono hk) X.stack s1 H1 _ us vs Q e1 b r q) ?_)
  rintro (e1 | fl) s2 z
  · obtain ⟨_, _, _, _, _, _, _, _, _, _, _, _, z⟩ := z
    exact z.elim
  · cases fl with
    | ret u => exact I1.after z
    | _ => exact z.elim
end
end Sim

set_option Elab.async false
set_option linter.all false
set_option maxRecDepth 100000
set_option maxHeartbeats 4000000
namespace Sim
open PySem L2
/-! ### what comes behind stands where simp does not look -/
class Kn (α β : Type) where
  f : α → Fr → Sto → Rs β
class Ks (α : Type) where
  f : α → Fr → Sto → RS
class Kt where
  f : Fr → Sto → RS
class Kh where
  l : List Hm
def bnd {α β : Type} (r : Rs α) [k : Kn α β] : Rs β := r.bind k.f
def stt {α : Type} (r : Rs α) [k : Ks α] : RS := r.st k.f
def thnS (r : RS) [k : Kt] : RS := r.then k.f
section
variable {F : Fr} {T : Sto} {m n mo mv mi me ma' mb mc : MO} {e : ME} {t u : MT} {i j k : Nat} {f f' : F2} {ma : MA} {s s' : MS} {mg : MG}
def fzK (r : RV) (F : Fr) (T : Sto) : Rs OV := match r with
  | .o x => .ok x F T
  | .fr c => match c.fz with
    | some d => .ok (.e (.p d)) F T
    | none => .bad
def opK (r : Option RV) (F : Fr) (T : Sto) : Rs RV := match r with
  | some z => .ok z F T
  | none => .bad
def truK (r : Option Bool) (F : Fr) (T : Sto) : Rs Bool := match r with
  | some z => .ok z F T
  | none => .bad
def andK (r : Option Bool) (x : OV) (n : MO) (F : Fr) (T : Sto) : Rs OV := match r with
  | some true => n F T
  | some false => .ok x F T
  | none => .bad
def orK (r : Option Bool) (x : OV) (n : MO) (F : Fr) (T : Sto) : Rs OV := match r with
  | some true => .ok x F T
  | some false => n F T
  | none => .bad
def notK (r : Option Bool) (F : Fr) (T : Sto) : Rs OV := match r with
  | some b => .ok (.e (.p (.bl (!b)))) F T
  | none => .bad
def isiK (r : Option RV) (F : Fr) (T : Sto) : Rs OV := match r with
  | some (.o z) => .ok z F T
  | _ => .bad
def augK (r : Option RV) (i : Nat) (F : Fr) (T : Sto) : RS := match r with
  | some (.o (.e z)) => .nx (F.set i (.e z)) T
  | _ => .bad
def itK (r : Option (List E)) (F : Fr) (T : Sto) : Rs (List E) := match r with
  | some es => .ok es F T
  | none => .bad
def r1K (xs : List OV) (F : Fr) (T : Sto) : Rs (List E) := match xs with
  | [.e (.p (.int j))] => if -4611686018427387904 ≤ j ∧ j < 4611686018427387904 then .ok (rngE 0 j.toNat) F T else .bad
  | _ => .bad
def r2K (xs : List OV) (F : Fr) (T : Sto) : Rs (List E) := match xs with
  | [.e (.p (.int i)), .e (.p (.int j))] => if (-4611686018427387904 ≤ i ∧ i < 4611686018427387904) ∧ -4611686018427387904 ≤ j ∧ j < 4611686018427387904 then .ok (rngE i (j - i).toNat) F T else .bad
  | _ => .bad
def fnK (np : Nat) (mf : MFn) (xs : Option (List E)) (F : Fr) (T : Sto) : Rs RV := match xs with
  | some es => if es.length = np then frIn F (mf es T) else .bad
  | none => .bad
def mwK (g : MWf) (x : OV) (c : Option C) (es : Option (List E)) (F : Fr) (T : Sto) : Rs RV := match c, es with
  | some c, some es => match g c es with
    | some (c', z) => match putC F T x c' with
      | some (F', T') => .ok (.o (.e z)) F' T'
      | none => .bad
    | none => .bad
  | _, _ => .bad
def setK (g : F3) (F : Fr) (T : Sto) (x o : OV) (c : Option C) (d : Option D) : RS := match x, c, d with
  | .e x, some c, some d => match g c d x with
    | some c' => match putC F T o c' with
      | some (F', T') => .nx F' T'
      | none => .bad
    | none => .bad
  | _, _, _ => .bad
def tupK (xs : Option (List E)) (F : Fr) (T : Sto) : Rs OV := match xs with
  | some es => if es.length ≤ LINE then .ok (.e (tupV es)) F T else .bad
  | none => .bad
def lstK (xs : Option (List E)) (F : Fr) (T : Sto) : Rs RV := match xs with
  | some es => if es.length ≤ LINE then .ok (.fr (lstV es)) F T else .bad
  | none => .bad
def chK (r : Option RV) (y : OV) (f' : F2) (mc : MO) (F : Fr) (T : Sto) : Rs OV := match r with
  | some (.o (.e (.p (.bl k)))) => if k = true then @bnd _ _ (mc F T) (.mk fun w F T => isiK (f' F T y w) F T) else .ok (.e (.p (.bl false))) F T
  | _ => .bad
def tryK (r : RS) [k : Kh] : RS := match r with
  | .exc x F T => hdl k.l x F T
  | r => r
def hdK (b : Option Bool) (oi : Option Nat) (ms : MS) (r : List Hm) (x : Xc) (F : Fr) (T : Sto) : RS := match b with
    | none => .bad
    | some false => hdl r x F T
    | some true => match oi with
      | some i => unx (some i) (ms ((clr F).set i (.x x)) T)
      | none => unx none (ms (clr F) T)
def stfK (cs : List String) (g : String) (F : Fr) (T : Sto) (x o : OV) (c : Option C) : RS := match x, c with
  | .e e, some (.ins c fs) => if c ∈ cs ∧ fs.length < 900 then match putC F T o (.ins c (fput g e fs)) with
      | some (F', T') => .nx F' T'
      | none => .bad
    else .bad
  | _, _ => .bad
def metK (q : Option (Nat × MFn)) (x : OV) (ma : MA) (F : Fr) (T : Sto) : Rs RV := match q with
  | some (np, mf) => @bnd _ _ (ma F T) (.mk fun xs F T => fnK np mf (oes (x :: xs)) F T)
  | none => .bad
def newK (c : String) (np : Nat) (mf : MFn) (xs : Option (List E)) (F : Fr) (T : Sto) : Rs RV := match xs with
  | some es => if es.length + 1 = np then mkR F T (mf (.loc T.length :: es) (T ++ [.ins c []])) else .bad
  | none => .bad
def fnsK (np : Nat) (mf : MFn) (xs : Option (List E)) (F : Fr) (T : Sto) : Rs RV := match xs with
  | some es => if es.length = np then frNo F (mf es T) else .bad
  | none => .bad
def eqK (a b : D) (r : Option Bool) : Option Bool := match r with
  | some r => some r
  | none => pyeq a b
end
theorem scL_nil' {i : Nat} : E.scL i [] = true := rfl
theorem scL_cons' {i : Nat} {x : E} {r : List E} : E.scL i (x :: r) = (x.sc i && E.scL i r) := rfl
end Sim

set_option Elab.async false
set_option linter.all false
set_option maxRecDepth 100000
set_option maxHeartbeats 4000000
namespace Sim
open PySem L2
variable [EXC]
/-! ### operators of own classes -/
/-- the special method nm of the class named c -/
structure SpcG (P : Program) (w : World) (K : PySem.W.Frag) (mg : Str → Option Value) (base : Heap) (G : String → Addr) (k : Nat) (c nm : String) (np : Nat) (mf : MFn) : Prop where
  ex : ∃ (f : Addr) (fd : FuncData) (ps : List Str), PySem.W.findIn K (.ref (G c)) (Str.ofString nm) = some (some (.ref f)) ∧ PySem.W.isFn K (.ref f) = true ∧ PySem.W.selfFirst K (G c) = true ∧ FnG P w K mg base k f fd ps (spS G K np mf) ∧ Binds K fd ps []
def ownR (tab : BTab) (F : Fr) (T : Sto) (x : OV) : Option (String × MFn) := match x, look F T x with
  | .e _, some (.c (.ins c _)) => (tab c).map fun mf => (c, mf)
  | _, _ => none
def sameC (c : String) (F : Fr) (T : Sto) (y : OV) : Bool := match look F T y with
  | some (.c (.ins d _)) => decide (d = c)
  | _ => false
def fnQ (mf : MFn) (es : Option (List E)) (F : Fr) (T : Sto) : Rs RV := match es with
  | some es => frIn F (mf es T)
  | none => .bad
/-- x op y: by an own method of the class of both, or by f -/
def own2 (tab : BTab) (f : F2) (F : Fr) (T : Sto) (x y : OV) : Rs RV := match ownR tab F T x with
  | some (c, mf) => if sameC c F T y = true then fnQ mf (oes [x, y]) F T else .bad
  | none => opK (f F T x y) F T
def cOpO (tab : BTab) (f : F2) (ma mb : MO) : ME := fun F T => (ma F T).bind fun x F T => (mb F T).bind fun y F T => own2 tab f F T x y
abbrev rOwn2 (G : String → Addr) (K : PySem.W.Frag) (tab : BTab) (r : R2) (E : XK) : R2 := fun x y H Q => r x y H Q ∨ ∃ a b c dx fs dy gs mf, x = .ref a ∧ y = .ref b ∧ tab c = some mf ∧ H a = some (.ins (G c) dx fs) ∧ H b = some (.ins (G c) dy gs) ∧ spS G K 2 mf [x, y] H Q E
def tOpO (G : String → Addr) (K : PySem.W.Frag) (tab : BTab) (r : R2) (E : St → XK) (ta tb : TE) : TE := fun σ H Q => ta σ H fun x H1 => tb σ H1 fun y H2 => rOwn2 G K tab r (E σ) x y H2 Q
section
variable {G : String → Addr} {K : PySem.W.Frag} {A : Act} {T T' : Sto} {F F' : Fr} {σ : St} {g g' g0 : Gs} {W : WX} {H H' : Hp} {tab : BTab} {f : F2} {r : R2}
theorem ownR_inv {x : OV} {c : String} {mf : MFn} (h : ownR tab F T x = some (c, mf)) : ∃ e fs, x = .e e ∧ look F T x = some (.c (.ins c fs)) ∧ tab c = some mf := by
  unfold ownR at h
  split at h
  · rename_i e c' fs lk
    cases q : tab c' with
    | none => rw [q] at h; cases h
    | some m =>
      rw [q] at h
      cases h
      exact ⟨e, fs, rfl, lk, q⟩
  · cases h
theorem sameC_inv {y : OV} {c : String} (h : sameC c F T y = true) : ∃ fs, look F T y = some (.c (.ins c fs)) := by
  unfold sameC at h
  split at h
  · rename_i d fs lk
    obtain rfl : d = c := of_decide_eq_true h
    exact ⟨fs, lk⟩
  · cases h
theorem own2_post {x y : OV} {v w : V} {Q : VK} (hs : OpS G K r f) (I : Iv G K A T F σ g) (dx : ODen G K T σ g x v) (dy : ODen G K T σ g y w)
    (p : (own2 tab f F T x y).Post (fun r F' T' => ∀ g' v, Iv G K A T' F' σ g' → Le T T' g g' → RDen G K A T' F' σ g' r v → Q v g'.H) (Wish G K W A T σ g)) : rOwn2 G K tab r (WE W σ) v w g.H Q := by
  unfold own2 at p
  cases ho : ownR tab F T x with
  | none =>
    rw [ho] at p
    have p2 : (opK (f F T x y) F T).Post _ _ := p
    cases e : f F T x y with
    | none => rw [e] at p2; exact p2.elim
    | some z =>
      rw [e] at p2
      exact .inl (hs A T F σ g x y v w z I dx dy e Q fun g3 u I3 l3 d3 => p2 g3 u I3 l3 d3)
  | some q =>
    obtain ⟨c, mf⟩ := q
    rw [ho] at p
    have p2 : (if sameC c F T y = true then fnQ mf (oes [x, y]) F T else Rs.bad).Post _ _ := p
    split at p2
    · rename_i sc
      obtain ⟨e, fs, ex, lk, tc⟩ := ownR_inv ho
      obtain ⟨gs, lk2⟩ := sameC_inv sc
      obtain ⟨a, ea, d1, us, hx, _⟩ := look_den I dx lk
      obtain ⟨b, eb, d2, us2, hy, _⟩ := look_den I dy lk2
      refine .inr ⟨a, b, c, d1, us, d2, us2, mf, ea, eb, tc, hx, hy, ?_⟩
      cases eo : oes [x, y] with
      | none => rw [eo] at p2; exact p2.elim
      | some es =>
        rw [eo] at p2
        obtain ⟨s1, s2⟩ := oes_den eo (show ODenL G K T σ g [x, y] [v, w] from ⟨v, [w], rfl, dx, w, [], rfl, dy, rfl⟩)
        have hl : es.length = 2 := by
          subst ex
          cases y with
          | sl i => cases eo
          | e z => cases eo; rfl
        exact call_in I s1 s2 hl p2
    · exact p2.elim
theorem opO_core {ta tb : TE} {ma mb : MO} (hs : OpS G K r f) (ha : SO G K W ta ma) (hb : SO G K W tb mb) : SE G K W (tOpO G K tab r (WE W) ta tb) (cOpO tab f ma mb) := by
  intro A T F σ g Q I p
  refine ha A T F σ g _ I ((post_bind p).imp (fun x F1 T1 p1 g1 v I1 l1 d1 => ?_) fun _ _ _ q => q)
  refine hb A T1 F1 σ g1 _ I1 ((post_bind p1).imp (fun y F2 T2 p2 g2 w I2 l2 d2 => ?_) fun _ _ _ q => Wish.le q l1)
  exact own2_post hs I2 (l2.o d1) d2 (p2.imp (fun r F' T' q g' v I' l rd => q g' v I' ((l1.trans l2).trans l) rd) fun _ _ _ q => Wish.le q (l1.trans l2))
end
section
variable {G : String → Addr} {X : Cx} {W : WX} {pos p : Pos} {a b : Expr} {k j : Nat} {nm : String} {tab : BTab} {ma mb : MO} {r : R2} {f : F2}
theorem cmpb {P : Value → Shared → Prop} {z : V} {v : Value} {s' : Shared} (r : RelV z v) (h : P v s') : PySem.W.CmpBack P v s' := SlX.cmpback r h
/-- the special method is called at two instances of one class -/
theorem run_spc {f : Addr} {fd : FuncData} {ps : List Str} {sp : Sp} {E : XK} {pins : List (Addr × Obj)} {σ : St} {H : Hp} {s : Shared} {Q : VK} {us : List Value} {vs : List V} (Fn : FnG X.prog X.w X.K X.mg X.base k f fd ps sp) (rm : Rm k X.A) (hb : Binds X.K fd ps []) (hx : PassesAt (L2.CX X.prog X.w) X σ E)
    (I : Inv X pins σ H s) (r : Vals vs us) (q : sp vs H Q E) : wpAny (model X.prog X.w) X.A (call (.ref f) us) (PySem.W.CmpBack (EP X pins σ Q)) X.xe s :=
  thn (run_fnG Fn rm hb hx I r q) fun u s2 ⟨z, H2, I2, rz, q2⟩ => cmpb rz ⟨z, H2, I2, rz, q2⟩
theorem inst_at {pins : List (Addr × Obj)} {σ : St} {H : Hp} {s : Shared} {a C dx : Addr} {fs : List (Str × V)} (I : Inv X pins σ H s) (ea : H a = some (.ins C dx fs)) : ∃ od, PySem.W.InstAt s.heap a (PySem.W.instObj C dx) C (some od) := by
  obtain ⟨mA, O, _, _, _, _⟩ := ins_get I.hok ea
  obtain ⟨od, J, _⟩ := O.look
  exact ⟨od, J⟩
theorem pe_opO {op : Operator} {ta tb : TE} {E : St → XK} (ho : OpR X (binaryOp op) r) (hk : ∀ c mf, tab c = some mf → SpcG X.prog X.w X.K X.mg X.base G k c nm 2 mf) (hn : PySem.dunder op.info.2 = Str.ofString nm) (rm : Rm k X.A) (hx : ∀ σ, PassesAt (L2.CX X.prog X.w) X σ (E σ)) (ha : PE X a ta) (hb : PE X b tb) :
    PE X (.BinOp a op b pos) (tOpO G X.K tab r E ta tb) := by
  refine ⟨fun pins s σ H Q I h => wpAny_BinOp (binT ha hb I h fun v u s2 x y H2 I2 rx ry q => ?_)⟩
  rcases q with q | ⟨m, n, c, dx, fs, dy, gs, mf, rfl, rfl, tc, e1, e2, q⟩
  · exact ho pins s2 σ H2 x y v u Q I2 rx ry q
  · obtain rfl : v = Value.ref m := rx
    obtain rfl : u = Value.ref n := ry
    obtain ⟨fA, fd, ps, hf, hi, hc, Fn, bs⟩ := (hk c mf tc).ex
    obtain ⟨od, J⟩ := inst_at I2 e1
    obtain ⟨od', J'⟩ := inst_at I2 e2
    obtain ⟨mm, hF⟩ := I2.fr
    exact PySem.W.binop_K hF I2.ok.mod.kin J J'.type hc (by rw [hn]; exact hf) hi (run_spc (us := [.ref m, .ref n]) (vs := [.ref m, .ref n]) Fn rm bs (hx σ) I2 (.cons rfl (.cons rfl .nil)) q)
theorem je_opO {op : Operator} (ho : OpR X (binaryOp op) r) (hs : OpS G X.K r f) (hk : ∀ c mf, tab c = some mf → SpcG X.prog X.w X.K X.mg X.base G k c nm 2 mf) (hn : PySem.dunder op.info.2 = Str.ofString nm) (hr : Rm j X.A) (hkj : k ≤ j) (tk : Takes X W) (ha : JO G X W a ma) (hb : JO G X W b mb) :
    JE G X W (.BinOp a op b pos) (cOpO tab f ma mb) := by
  obtain ⟨ta, pa, sa⟩ := ha.ex
  obtain ⟨tb, pb, sb⟩ := hb.ex
  exact ⟨_, pe_opO ho hk hn (hr.mono hkj) (fun σ => passAt tk σ) pa pb, opO_core hs sa sb⟩
/-! comparing -/
theorem cmpO_run {op : CmpOp} {E : XK} {pins : List (Addr × Obj)} {σ : St} {H : Hp} {s : Shared} {Q : VK} {x y : V} {v u : Value} (ho : OpR X (compareOp op) r) (hop : ∀ a b, compareOp op a b = richCompare op a b) (hk : ∀ c mf, tab c = some mf → SpcG X.prog X.w X.K X.mg X.base G k c nm 2 mf) (hn : (cmpInfo op).2.1 = Str.ofString nm) (rm : Rm k X.A) (hx : PassesAt (L2.CX X.prog X.w) X σ E)
    (I : Inv X pins σ H s) (rx : RelV x v) (ry : RelV y u) (q : rOwn2 G X.K tab r E x y H Q) : wpAny (model X.prog X.w) X.A (compareOp op v u) (EP X pins σ Q) X.xe s := by
  rcases q with q | ⟨m, n, c, dx, fs, dy, gs, mf, rfl, rfl, tc, e1, e2, q⟩
  · exact ho pins s σ H x y v u Q I rx ry q
  · obtain rfl : v = Value.ref m := rx
    obtain rfl : u = Value.ref n := ry
    obtain ⟨fA, fd, ps, hf, hi, hc, Fn, bs⟩ := (hk c mf tc).ex
    obtain ⟨od, J⟩ := inst_at I e1
    obtain ⟨od', J'⟩ := inst_at I e2
    obtain ⟨mm, hF⟩ := I.fr
    rw [hop]
    exact PySem.W.cmp_K (op := op) (tb := .ref (G c)) rm.rm.units0 hF I.ok.mod.kin J J'.type (by simp [PySem.W.notFirst]) (by rw [hn]; exact hf) hi (run_spc (us := [.ref m, .ref n]) (vs := [.ref m, .ref n]) Fn rm bs hx I (.cons rfl (.cons rfl .nil)) q)
theorem pe_cmpO {op : CmpOp} {ta tb : TE} {E : St → XK} (ho : OpR X (compareOp op) r) (hop : ∀ a b, compareOp op a b = richCompare op a b) (hk : ∀ c mf, tab c = some mf → SpcG X.prog X.w X.K X.mg X.base G k c nm 2 mf) (hn : (cmpInfo op).2.1 = Str.ofString nm) (rm : Rm k X.A) (hx : ∀ σ, PassesAt (L2.CX X.prog X.w) X σ (E σ)) (hm : behindInMarks op b = false) (ha : PE X a ta) (hb : PE X b tb) :
    PE X (.Compare a [op] [b] pos) (tOpO G X.K tab r E ta tb) :=
  ⟨fun pins s σ H Q I h => wpAny_Compare1 (binT ha hb I h fun v u s2 x y H2 I2 rx ry q => cmpO_run ho hop hk hn rm (hx σ) I2 rx ry q) hm⟩
theorem pt_cmpO {op : CmpOp} {ta tb : TE} {E : St → XK} (ho : OpR X (compareOp op) r) (hop : ∀ a b, compareOp op a b = richCompare op a b) (hk : ∀ c mf, tab c = some mf → SpcG X.prog X.w X.K X.mg X.base G k c nm 2 mf) (hn : (cmpInfo op).2.1 = Str.ofString nm) (rm : Rm k X.A) (hx : ∀ σ, PassesAt (L2.CX X.prog X.w) X σ (E σ)) (hm : behindInMarks op b = false) (ha : PE X a ta) (hb : PE X b tb) :
    PT X (.Compare a [op] [b] pos) (tTest (tOpO G X.K tab r E ta tb)) := by
  refine ⟨fun pins s σ H Q I h => wpAny_isTrue_Compare1 (binT ha hb I h fun v u s2 x y H2 I2 rx ry q => ?_) hm⟩
  refine thn (cmpO_run ho hop hk hn rm (hx σ) I2 rx ry q) fun z s3 ⟨zv, H3, I3, rz, kk, ek, q3⟩ => ?_
  subst ek
  obtain rfl : z = Value.bool kk := rz
  exact wpAny_truthy_bool ⟨H3, I3, q3⟩
theorem je_cmpO {op : CmpOp} (ho : OpR X (compareOp op) r) (hs : OpS G X.K r f) (hop : ∀ a b, compareOp op a b = richCompare op a b) (hk : ∀ c mf, tab c = some mf → SpcG X.prog X.w X.K X.mg X.base G k c nm 2 mf) (hn : (cmpInfo op).2.1 = Str.ofString nm) (hr : Rm j X.A) (hkj : k ≤ j) (tk : Takes X W) (hm : behindInMarks op b = false) (ha : JO G X W a ma) (hb : JO G X W b mb) :
    JE G X W (.Compare a [op] [b] pos) (cOpO tab f ma mb) := by
  obtain ⟨ta, pa, sa⟩ := ha.ex
  obtain ⟨tb, pb, sb⟩ := hb.ex
  exact ⟨_, pe_cmpO ho hop hk hn (hr.mono hkj) (fun σ => passAt tk σ) hm pa pb, opO_core hs sa sb⟩
theorem jt_cmpO {op : CmpOp} (ho : OpR X (compareOp op) r) (hs : OpS G X.K r f) (hop : ∀ a b, compareOp op a b = richCompare op a b) (hk : ∀ c mf, tab c = some mf → SpcG X.prog X.w X.K X.mg X.base G k c nm 2 mf) (hn : (cmpInfo op).2.1 = Str.ofString nm) (hr : Rm j X.A) (hkj : k ≤ j) (tk : Takes X W) (hm : behindInMarks op b = false) (ha : JO G X W a ma) (hb : JO G X W b mb) :
    JT G X W (.Compare a [op] [b] pos) (cBool (cOpO tab f ma mb)) := by
  obtain ⟨ta, pa, sa⟩ := ha.ex
  obtain ⟨tb, pb, sb⟩ := hb.ex
  exact ⟨_, pt_cmpO ho hop hk hn (hr.mono hkj) (fun σ => passAt tk σ) hm pa pb, bool_core (opO_core hs sa sb)⟩
end
/-! ### x op= e by an own method -/
def ownI (tab : BTab) (f : F2) (F : Fr) (T : Sto) (x y : OV) : Rs RV := match ownR tab F T x with
  | some (_, mf) => fnQ mf (oes [x, y]) F T
  | none => opK (f F T x y) F T
def sAugO (tab : BTab) (f : F2) (i : Nat) (m : MO) : MS := fun F T => match F[i]? with
  | some (.e x) => (m F T).st fun y F T => (ownI tab f F T (.e x) y).st fun r F T => match r with
    | .o (.e z) => .nx (F.set i (.e z)) T
    | _ => .bad
  | _ => .bad
abbrev rOwnI (G : String → Addr) (K : PySem.W.Frag) (tab : BTab) (r : R2) (E : XK) : R2 := fun x y H Q => r x y H Q ∨ ∃ a c dx fs mf, x = .ref a ∧ tab c = some mf ∧ H a = some (.ins (G c) dx fs) ∧ spS G K 2 mf [x, y] H Q E
def tAugO (G : String → Addr) (K : PySem.W.Frag) (tab : BTab) (r : R2) (E : St → XK) (i : Nat) (te : TE) : TS := fun D σ H => ∃ x, σ[i]? = some (some x) ∧ te σ H fun y H1 => rOwnI G K tab r (E σ) x y H1 fun z H2 => D.nx (σ.set i (some z)) H2
section
variable {G : String → Addr} {X : Cx} {W : WX} {pos xp : Pos} {e : Expr} {k j i : Nat} {nm : String} {tab : BTab} {m : MO} {r : R2} {f : F2} {x : Str} {op : Operator}
theorem ps_augO {te : TE} {E : St → XK} (ho : OpR X (inplaceOp op) r) (hk : ∀ c mf, tab c = some mf → SpcG X.prog X.w X.K X.mg X.base G k c nm 2 mf) (hn : PySem.dunderI op.info.2 = Str.ofString nm) (rm : Rm k X.A) (hx : ∀ σ, PassesAt (L2.CX X.prog X.w) X σ (E σ)) (hN : X.N.Nodup) (hi : X.N[i]? = some x) (hx' : Loc X.env.scope x) (he : PE X e te)
    (hf : X.fn x = true ∨ X.env.scope.names.lookup x = some .local) : PS X (.AugAssign (.Name x xp) op e pos) (tAugO G X.K tab r E i te) := by
  refine ⟨fun pins s σ H D I ⟨v, ev, h⟩ => wpAny_AugAssign_Name ?_⟩
  have fin : ∀ old, RelV v old → wpAny (model X.prog X.w) X.A (eval e X.env) (fun w s₂ => wpAny (model X.prog X.w) X.A (inplaceOp op old w) (fun r s₃ => wpAny (model X.prog X.w) X.A (storeName X.env x r) (fun _ => L2.SP X pins D .next) X.xe s₃) X.xe s₂) X.xe s := by
    intro old ro
    refine thn (he.run pins s σ H _ I h) fun w s1 ⟨y, H1, I1, ry, q⟩ => ?_
    have done : wpAny (model X.prog X.w) X.A (inplaceOp op old w) (EP X pins σ fun z H2 => D.nx (σ.set i (some z)) H2) X.xe s1 := by
      rcases q with q | ⟨a, c, dx, fs, mf, ea, tc, e1, q⟩
      · exact ho pins s1 σ H1 v y old w _ I1 ro ry q
      · subst ea
        obtain rfl : old = Value.ref a := ro
        obtain ⟨fA, fd, ps, hf, hi, hc, Fn, bs⟩ := (hk c mf tc).ex
        obtain ⟨od, J⟩ := inst_at I1 e1
        obtain ⟨mm, hF⟩ := I1.fr
        exact PySem.W.ksp_inplace hF I1.ok.mod.kin J hc (by rw [hn]; exact hf) hi (run_spc (us := [.ref a, w]) (vs := [.ref a, y]) Fn rm bs (hx σ) I1 (.cons rfl (.cons ry .nil)) q)
    exact thn done fun z s2 ⟨zv, H2, I2, rz, q2⟩ => store_ok I2 hN hi hx' rz (fun s3 I3 => ⟨_, H2, I3, q2⟩) hf
  obtain ⟨mm, ns, val⟩ := id I.loc
  have seen : Vis X.env.scope x := hx'.elim .inl fun z => .inr (.inl z)
  obtain ⟨old, ro, place⟩ := val i x v hi ev seen
  rcases place with ⟨kl, em⟩ | ⟨kc, cell, ec, hc⟩
  · exact wpAny_loadName_local I.ok.kind kl ns em (fin old ro)
  · rcases kc with kc | kc
    · exact wpAny_loadName_cell I.ok.kind kc ec hc (fin old ro)
    · have kf : X.env.scope.names.lookup x = some .free := kc
      rcases hx' with z | z <;> rw [z] at kf <;> cases kf
theorem js_augO (ho : OpR X (inplaceOp op) r) (hs : OpS G X.K r f) (hk : ∀ c mf, tab c = some mf → SpcG X.prog X.w X.K X.mg X.base G k c nm 2 mf) (hn : PySem.dunderI op.info.2 = Str.ofString nm) (hr : Rm j X.A) (hkj : k ≤ j) (tk : Takes X W) (hN : X.N.Nodup) (hi : X.N[i]? = some x) (hx : Loc X.env.scope x) (h : JO G X W e m)
    (hf : X.fn x = true ∨ X.env.scope.names.lookup x = some .local := by first | exact .inl rfl | exact .inr rfl) : JS G X W (.AugAssign (.Name x xp) op e pos) (sAugO tab f i m) := by
  obtain ⟨te, pe, s⟩ := h.ex
  refine ⟨_, ps_augO ho hk hn (hr.mono hkj) (fun σ => passAt tk σ) hN hi hx pe hf, fun A T F σ g D I p => ?_⟩
  have p' : RS.Post G X.K W A T g D (match F[i]? with | some (.e x) => ((m F T).st fun y F T => (ownI tab f F T (.e x) y).st fun r F T => match r with | .o (.e z) => .nx (F.set i (.e z)) T | _ => .bad) | _ => .bad) := p
  split at p'
  · rename_i y hy
    obtain ⟨h1, v, h2, h3⟩ := I.slot i _ hy
    refine ⟨v, h2, s A T F σ g _ I ((st_post p').imp (fun z F1 T1 p1 g1 w I1 l1 d1 => ?_) fun _ _ _ q => st_wish q)⟩
    have dv : ODen G X.K T1 σ g1 (.e y) v := l1.o ⟨h1, h3⟩
    have p2 := st_post p1
    unfold ownI at p2
    cases hw : ownR tab F1 T1 (.e y) with
    | none =>
      rw [hw] at p2
      have p3 : (opK (f F1 T1 (.e y) z) F1 T1).Post _ _ := p2
      cases eq : f F1 T1 (.e y) z with
      | none => rw [eq] at p3; exact p3.elim
      | some q =>
        rw [eq] at p3
        refine .inl (hs A T1 F1 σ g1 (.e y) z v w q I1 dv d1 eq _ fun g2 u I2 l2 d2 => ?_)
        cases q with
        | fr c => exact (show False from p3).elim
        | o q =>
          cases q with
          | sl n => exact (show False from p3).elim
          | e z =>
            have p4 : RS.Post G X.K W A T g D (.nx (F1.set i (.e z)) T1) := p3
            exact p4 g2 _ (I2.setE d2.1 d2.2) (l1.trans l2)
    | some q =>
      obtain ⟨c, mf⟩ := q
      rw [hw] at p2
      have p3 : (fnQ mf (oes [.e y, z]) F1 T1).Post _ _ := p2
      obtain ⟨ey, fs, _, lk, tc⟩ := ownR_inv hw
      obtain ⟨a, ea, dx, us, hx1, _⟩ := look_den I1 dv lk
      refine .inr ⟨a, c, dx, us, mf, ea, tc, hx1, ?_⟩
      cases eo : oes [.e y, z] with
      | none => rw [eo] at p3; exact p3.elim
      | some es =>
        rw [eo] at p3
        obtain ⟨s1, s2⟩ := oes_den eo (show ODenL G X.K T1 σ g1 [.e y, z] [v, w] from ⟨v, [w], rfl, dv, w, [], rfl, d1, rfl⟩)
        have hl : es.length = 2 := by
          cases z with
          | sl i => cases eo
          | e z => cases eo; rfl
        refine call_in I1 s1 s2 hl (p3.imp (fun r F2 T2 p4 g2 u I2 l2 d2 => ?_) fun _ _ _ q => Wish.le (st_wish q) l1)
        cases r with
        | fr c => exact (show False from p4).elim
        | o q =>
          cases q with
          | sl n => exact (show False from p4).elim
          | e z =>
            have p5 : RS.Post G X.K W A T g D (.nx (F2.set i (.e z)) T2) := p4
            exact p5 g2 _ (I2.setE d2.1 d2.2) (l1.trans l2)
  · exact p'.elim
end
end Sim

set_option Elab.async false
set_option linter.all false
set_option maxRecDepth 100000
set_option maxHeartbeats 4000000
namespace Sim
open PySem L2
variable [EXC]
/-! ### range with a step -/
def rng3E (lo c : Int) (n : Nat) : List E := (List.range n).map fun i => E.p (.int (lo + (i : Nat) * c))
def r3ok (i j c : Int) : Bool := decide (c ≠ 0) && decide (c.natAbs < 1073741824) && Builtin.Range.small i j c && decide (0 ≤ Builtin.Range.rangeSize i j c)
def r3K (xs : List OV) (F : Fr) (T : Sto) : Rs (List E) := match xs with
  | [.e (.p (.int i)), .e (.p (.int j)), .e (.p (.int c))] => if r3ok i j c = true then .ok (rng3E i c (Builtin.Range.rangeSize i j c).toNat) F T else .bad
  | _ => .bad
def cR3 (ma : MA) : MI := fun F T => (ma F T).bind fun xs F T => r3K xs F T
section
variable {G : String → Addr} {K : PySem.W.Frag} {g0 : Gs} {A : Act} {T : Sto} {F : Fr} {σ : St} {g : Gs}
theorem good_rng3 {lo c : Int} {k n : Nat} : Good G K (Itc lo c k) g0 n (rng3E lo c k) where
  go := fun i g o hi => by
    unfold rng3E at hi
    rw [List.length_map, List.length_range] at hi
    exact hi
  stop := fun g o => by
    unfold rng3E
    rw [List.length_map, List.length_range]
    exact Nat.le_refl _
  yld := fun i g v H' o hi y => by
    unfold rng3E at hi ⊢
    rw [List.length_map, List.length_range] at hi
    obtain ⟨e1, e2⟩ := y
    subst e2
    exact ⟨.p (.int (lo + (i : Nat) * c)), by simp [hi], scp, .inl ⟨e1, rfl⟩⟩
/-! ### plain dicts stay as they are -/
theorem mut_dk {u : HO} (h : isDk u) : Mut (some u) := by cases u <;> first | exact h.elim | trivial
end
section
variable {G : String → Addr} {X : Cx} {W : WX} {tg a b c e : Expr} {p pos apos cpos tpos : Pos} {ma : MA} {m : MO} {te : TE}
theorem ji_r3 (hg : Gl X "range") (hm : X.mg "range" = none) (h : JA G X W [a, b, c] ma) (hs : starEach [a, b, c] X.env = (false, eval a X.env) :: starEach [b, c] X.env := by rfl) (hpl : (backTo pos (starEach [b, c] X.env)).any (·.1) = false := by rfl) :
    JI G X W tg (.Call (.Name "range" p) [a, b, c] [] pos) (cR3 ma) := by
  obtain ⟨ta, pa, s⟩ := h.ex
  refine ⟨_, pi_range3 hg hm pa hs hpl, fun A T F σ g R I p => ?_⟩
  refine s A T F σ g _ I ((post_bind p).imp (fun xs F1 T1 p1 g1 vs I1 l1 d1 => ?_) fun _ _ _ q => q)
  have p2 : (r3K xs F1 T1).Post _ _ := p1
  unfold r3K at p2
  split at p2
  · rename_i i j c
    split at p2
    · rename_i hk
      unfold r3ok at hk
      simp only [Bool.and_eq_true, decide_eq_true_eq] at hk
      obtain ⟨⟨⟨h1, h2⟩, h3⟩, h4⟩ := hk
      obtain ⟨v, w, rfl, d, v2, w2, rfl, d2, v3, w3, rfl, d3, rfl⟩ := d1
      obtain ⟨_, rfl⟩ := d
      obtain ⟨_, rfl⟩ := d2
      obtain ⟨_, rfl⟩ := d3
      exact ⟨i, j, c, _, rfl, ⟨h1, h2, h3, (Int.toNat_of_nonneg h4).symm⟩, p2 g1 _ I1 l1 good_rng3⟩
    · exact p2.elim
  · exact p2.elim
/-! ### xs[::-1] -/
def cRevL (m : MO) : ME := fun F T => (m F T).bind fun x F T => opK (((look F T x).bind seqLE).map fun es => .fr (lstV es.reverse)) F T
theorem EDenL.rev {K : PySem.W.Frag} {H : Hp} {φ : Nat → Addr} : ∀ {xs : List E} {vs : List V}, EDenL G K H φ xs vs → EDenL G K H φ xs.reverse vs.reverse := by
  have app : ∀ {xs ys : List E} {vs ws : List V}, EDenL G K H φ xs vs → EDenL G K H φ ys ws → EDenL G K H φ (xs ++ ys) (vs ++ ws) := by
    intro xs
    induction xs with
    | nil => intro ys vs ws h k; rw [show vs = [] from h]; exact k
    | cons x r ih =>
      intro ys vs ws h k
      obtain ⟨v, w, rfl, h1, h2⟩ := h
      exact ⟨v, w ++ ws, rfl, h1, ih h2 k⟩
  intro xs
  induction xs with
  | nil => intro vs h; rw [show vs = [] from h]; exact rfl
  | cons x r ih =>
    intro vs h
    obtain ⟨v, w, rfl, h1, h2⟩ := h
    rw [List.reverse_cons, List.reverse_cons]
    exact app (ih h2) ⟨v, [], rfl, h1, rfl⟩
theorem scL_mem : ∀ {n : Nat} {xs : List E}, E.scL n xs = true ↔ ∀ x ∈ xs, x.sc n = true
  | n, [] => by simp [scL_nil']
  | n, x :: r => by simp [scL_cons', scL_mem (xs := r)]
theorem je_revL {k : Nat} {p1 p2 p3 : Pos} (h : JO G X W e m) : JE G X W (.Subscript e (.Slice none none (some (.UnaryOp .USub (.Constant (.int 1) k p1) p2)) p3) pos) (cRevL m) := by
  obtain ⟨te, pe, s⟩ := h.ex
  refine ⟨_, pe_revL pe, fun A T F σ g Q I p => ?_⟩
  refine s A T F σ g _ I ((post_bind p).imp (fun x F1 T1 p1 g1 v I1 l1 d1 => ?_) fun _ _ _ q => q)
  cases hw : look F1 T1 x with
  | none => rw [hw] at p1; exact (show False from p1).elim
  | some w =>
    rw [hw] at p1
    cases he : seqLE w with
    | none => rw [show (some w).bind seqLE = none from he] at p1; exact (show False from p1).elim
    | some es =>
      rw [show (some w).bind seqLE = some es from he] at p1
      have p2 : (Rs.ok (RV.fr (lstV es.reverse)) F1 T1).Post _ _ := p1
      obtain ⟨s1, a, vs, rfl, sq, l⟩ := seqLE_den he (look_den I1 d1 hw) (look_sc I1 d1 hw)
      refine ⟨a, vs, rfl, sq, fun q hq => ?_⟩
      obtain ⟨s3, c3⟩ := lstV_den l.rev (scL_mem.mpr fun x hx => scL_mem.mp s1 x (List.mem_reverse.mp hx))
      obtain ⟨I2, l2, R⟩ := I1.newRoot (o := .lst vs.reverse) hq s3 c3
      exact p2 ⟨plus g1.own q, g1.φ, upd g1.H q (.lst vs.reverse)⟩ (.ref q) I2 (l1.trans l2) ⟨q, rfl, R⟩
/-! ### walks over dicts that are values -/
theorem pe_frz (h : PE X e te) : PE X e (fun σ H Q => te σ H fun x H1 => Q x H1 ∨ ∃ d u, H1 d = some u ∧ Mut (some u) ∧ ∀ od, Q x (upd H1 d (.frz od u))) := by
  refine ⟨fun pins s σ H Q I q => thn (h.run pins s σ H _ I q) fun v s1 ⟨x, H1, I1, r, q1⟩ => ?_⟩
  rcases q1 with q1 | ⟨d, u, hd, mu, q1⟩
  · exact ⟨x, H1, I1, r, q1⟩
  · obtain ⟨od, I2⟩ := I1.lock hd mu
    exact ⟨x, _, I2, r, q1 od⟩
def dkE (f : List (Key × D) → List E) : OV → Option (List E)
  | .e (.p (.dic ks)) => some (f ks)
  | _ => none
def cWlk (f : List (Key × D) → List E) (m : MO) : MI := fun F T => (m F T).bind fun x F T => itK (dkE f x) F T
theorem wlk_core {f : List (Key × D) → List E} {J : Addr → Obj → List (Key × V) → It} {P : V → Hp → (It → Hp → Prop) → Prop} (hgood : ∀ (g0 : Gs) (n : Nat) (d : Addr) (od : Obj) (ks : List (Key × D)) (us : List (Key × V)), g0.W d = some (.frz od (.dK us)) → DenK G X.K g0.W ks us → Good G X.K (J d od us) g0 n (f ks))
    (hP : ∀ (d : Addr) (o : Obj) (us : List (Key × V)) (H : Hp) (R : It → Hp → Prop), H d = some (.frz o (.dK us)) → R (J d o us) H → P (.ref d) H R) (s : SO G X.K W te m) :
    SI G X.K W (fun σ H R => te σ H fun x H1 => P x H1 R ∨ ∃ d u, H1 d = some u ∧ Mut (some u) ∧ ∀ od, P x (upd H1 d (.frz od u)) R) (cWlk f m) := by
  intro A T F σ g R I p
  refine s A T F σ g _ I ((post_bind p).imp (fun x F1 T1 p1 g1 v I1 l1 d1 => ?_) fun _ _ _ q => q)
  cases x with
  | sl i => exact (show False from p1).elim
  | e x =>
    cases x with
    | loc n => exact (show False from p1).elim
    | tp xs => exact (show False from p1).elim
    | p d =>
      cases d with
      | dic ks =>
        have p2 : (Rs.ok (f ks) F1 T1).Post _ _ := p1
        obtain ⟨_, a, us, rfl, rd, dn⟩ := d1
        rcases rd with hd | ⟨od, hd⟩
        · have hk : isDk (.dK us) := trivial
          have n := W_own (g := g1) (d := a) (by rw [hd]; exact fun z => by cases z)
          have e : g1.H a = some (.dK us) := (vw_at n).symm.trans hd
          refine .inr ⟨a, .dK us, e, mut_dk hk, fun od => hP a od us _ R upd_same ?_⟩
          obtain ⟨I2, l2⟩ := I1.lock (od := od) hd hk
          have hW : (lk g1 a (.frz od (.dK us))).W a = some (.frz od (.dK us)) := by rw [lk_W n, upd_same]
          exact p2 (lk g1 a (.frz od (.dK us))) _ I2 (l1.trans l2) (hgood _ _ a od ks us hW (dn.mono l2.ext))
        · exact .inl (hP a od us _ R (vw_le.fz a od _ hd) (p2 g1 _ I1 l1 (hgood _ _ a od ks us hd dn)))
      | _ => exact (show False from p1).elim
/-- for .. in e.values() -/
theorem ji_vals (h : JO G X W e m) (hbase : attributeBase e "values" X.env (eval e X.env) = eval e X.env := by rfl) (hline : (apos.endLine == cpos.line) = true := by rfl) : JI G X W tg (.Call (.Attribute e "values" apos) [] [] cpos) (cWlk valsE m) := by
  obtain ⟨te, pe, s⟩ := h.ex
  exact ⟨_, pi_values (pe_frz pe) hbase hline, wlk_core (J := Itd) (fun g0 n d od ks us h l => good_vals h l) (fun d o us H R h1 h2 => ⟨d, o, us, rfl, h1, h2⟩) s⟩
theorem ji_itms {elts : List Expr} {kk : Nat} (h : JO G X W e m) (hbase : attributeBase e "items" X.env (eval e X.env) = eval e X.env := by rfl) (hline : (apos.endLine == cpos.line) = true := by rfl) : JI G X W (.Tuple elts kk tpos) (.Call (.Attribute e "items" apos) [] [] cpos) (cWlk itmsE m) := by
  obtain ⟨te, pe, s⟩ := h.ex
  exact ⟨_, pi_items (pe_frz pe) hbase hline, wlk_core (J := Iti) (fun g0 n d od ks us h l => good_itms h l) (fun d o us H R h1 h2 => ⟨d, o, us, rfl, h1, h2⟩) s⟩
theorem ji_keys (h : JO G X W e m) : JI G X W tg e (cWlk keysE m) := by
  obtain ⟨te, pe, s⟩ := h.ex
  exact ⟨_, pi_keys (pe_frz pe), wlk_core (J := Itk) (fun g0 n d od ks us h l => good_keys h l) (fun d o us H R h1 h2 => ⟨d, o, rfl, .inl ⟨us, h1, h2⟩⟩) s⟩
/-! ### sorted -/
def srtB (b : Bool) (ns : List Int) : List Int := if b = true then ns.mergeSort (fun x y => decide (y ≤ x)) else ns.mergeSort (fun x y => decide (x ≤ y))
theorem srt_one {b : Bool} {ns ms : List Int} (hp : ms.Perm ns) (ho : OrdB b ms) : ms = srtB b ns := by
  have key : ∀ (le : Int → Int → Bool), (∀ x y z, le x y = true → le y z = true → le x z = true) → (∀ x y, le x y = true ∨ le y x = true) → (∀ x y, le x y = true → le y x = true → x = y) → ms.Pairwise (fun x y => le x y = true) → ms = ns.mergeSort le := by
    intro le tr tot anti hm
    have h1 := List.pairwise_mergeSort (le := le) (fun a b c => tr a b c) (fun a b => by simpa using tot a b) ns
    have h2 := List.mergeSort_perm ns le
    exact List.Perm.eq_of_pairwise (fun a b _ _ h h' => anti a b h h') hm h1 (hp.trans h2.symm)
  unfold srtB
  unfold OrdB at ho
  cases b with
  | true =>
    rw [if_pos rfl] at ho ⊢
    exact key _ (by simp; omega) (by simp; omega) (by simp; omega) (ho.imp fun h => decide_eq_true h)
  | false =>
    rw [if_neg (by decide)] at ho ⊢
    exact key _ (by simp; omega) (by simp; omega) (by simp; omega) (ho.imp fun h => decide_eq_true h)
def srtK (b : Bool) (xs : List OV) (F : Fr) (T : Sto) : Rs RV := match xs with
  | [x] => opK ((ints1 F T x).map fun ns => .fr (.lst ((srtB b ns).map .int))) F T
  | _ => .bad
/-- sorted(xs, reverse=b) -/
def cSrt (b : Bool) (ma : MA) : ME := fun F T => (ma F T).bind fun xs F T => srtK b xs F T
theorem denL_ints {G : String → Addr} {K : PySem.W.Frag} {H : Hp} : ∀ {ns : List Int}, DenL G K H (ns.map D.int) (ns.map V.int)
  | [] => rfl
  | n :: r => ⟨.int n, _, rfl, rfl, denL_ints⟩
theorem srt_core {b : Bool} {ta : TA} {P : List V → Hp → VK → Prop} (hP : ∀ vs H1 Q, (∃ (a : Addr) (ns : List Int), vs = [V.ref a] ∧ SqL X.K H1 a (ns.map V.int) ∧ ∀ (ns' : List Int) (p : Addr), ns'.Perm ns → OrdB b ns' → H1 p = none → Q (.ref p) (upd H1 p (.lst (ns'.map V.int)))) → P vs H1 Q) (sa : SA G X.K W ta ma) : SE G X.K W (fun σ H Q => ta σ H fun vs H1 => P vs H1 Q) (cSrt b ma) := by
  intro A T F σ g Q I p
  refine sa A T F σ g _ I ((post_bind p).imp (fun xs F1 T1 p1 g1 vs I1 l1 d1 => ?_) fun _ _ _ q => q)
  have p2 : (srtK b xs F1 T1).Post _ _ := p1
  unfold srtK at p2
  split at p2
  · rename_i x
    obtain ⟨v, w, rfl, d, rfl⟩ := d1
    cases hn : ints1 F1 T1 x with
    | none => rw [hn] at p2; exact (show False from p2).elim
    | some ns =>
      rw [hn] at p2
      have p3 : (Rs.ok (RV.fr (.lst ((srtB b ns).map .int))) F1 T1).Post _ _ := p2
      obtain ⟨a, rfl, sq⟩ := ints1_den I1 d hn
      refine hP _ _ _ ⟨a, ns, rfl, sq, fun ns' q hp ho hq => ?_⟩
      obtain rfl := srt_one hp ho
      obtain ⟨I2, l2, R⟩ := I1.newRoot (c := .lst ((srtB b ns).map .int)) (o := .lst ((srtB b ns).map V.int)) hq rfl ⟨_, rfl, denL_ints⟩
      exact p3 ⟨plus g1.own q, g1.φ, upd g1.H q (.lst ((srtB b ns).map V.int))⟩ (.ref q) I2 (l1.trans l2) ⟨q, rfl, R⟩
  · exact p2.elim
theorem je_srtR {es : List Expr} {kpos kp : Pos} {kk : Nat} {b : Bool} (hg : Gl X "sorted") (hm : X.mg "sorted" = none) (ha : JA G X W (e :: es) ma) (he : backTo pos (starEach (e :: es) X.env) = (false, eval e X.env) :: backTo pos (starEach es X.env) := by rfl) (hpl : (backTo pos (starEach (e :: es) X.env)).any (·.1) = false := by rfl)
    (hall : (backToKw pos (keywordEach [⟨some (Str.ofString "reverse"), .Constant (.bool b) kk kp, kpos⟩] X.env)).all (·.1.isSome) = true := by rfl) (hnone : (backToKw pos (keywordEach [⟨some (Str.ofString "reverse"), .Constant (.bool b) kk kp, kpos⟩] X.env)).any (·.1.isNone) = false := by rfl) (hks : (backToKw pos (keywordEach [⟨some (Str.ofString "reverse"), .Constant (.bool b) kk kp, kpos⟩] X.env)).filterMap (·.1) = [Str.ofString "reverse"] := by rfl) :
    JE G X W (.Call (.Name "sorted" p) (e :: es) [⟨some (Str.ofString "reverse"), .Constant (.bool b) kk kp, kpos⟩] pos) (cSrt b ma) := by
  obtain ⟨ta, pa, sa⟩ := ha.ex
  exact ⟨_, pe_callBK (cr_sortedRev (b := b)) hg hm (by decide +kernel) pa (pk_cons pe_bl pk_nil) (he := he) (hpl := hpl) (hall := hall) (hnone := hnone) (hks := hks), srt_core (P := fun vs H1 Q => rSortedKw X.K b [.bl b] vs [.bl b] H1 Q) (fun vs H1 Q ⟨a, ns, h1, h2, h3⟩ => ⟨a, ns, h1, rfl, h2, h3⟩) sa⟩
theorem je_srt {es : List Expr} (hg : Gl X "sorted") (hm : X.mg "sorted" = none) (ha : JA G X W (e :: es) ma) (he : starEach (e :: es) X.env = (false, eval e X.env) :: starEach es X.env := by rfl) (hpl : (backTo pos (starEach es X.env)).any (·.1) = false := by rfl) :
    JE G X W (.Call (.Name "sorted" p) (e :: es) [] pos) (cSrt false ma) := by
  obtain ⟨ta, pa, sa⟩ := ha.ex
  exact ⟨_, pe_callB cr_sortedI hg hm (by decide +kernel) pa (by decide) (by decide) he hpl, srt_core (P := fun vs H1 Q => rSortedI X.K vs H1 Q) (fun vs H1 Q ⟨a, ns, h1, h2, h3⟩ => ⟨a, ns, h1, h2, fun ns' q hp ho => h3 ns' q hp (by unfold OrdB; rw [if_neg (by decide)]; exact ho)⟩) sa⟩
/-! ### list(d.values()) -/
theorem vals_snd : ∀ {kvs : List (Key × V)} {vs : List (Key × Value)}, KV kvs vs → Vals (kvs.map (·.2)) (vs.map (·.2))
  | _, _, .nil => .nil
  | _, _, .cons h r => .cons h.2 (vals_snd r)
def tListVals (te : TE) : TE := fun σ H Q => te σ H fun x H1 => ∃ d kvs, x = .ref d ∧ Rd H1 d (.dK kvs) ∧ ∀ q, H1 q = none → Q (.ref q) (upd H1 q (.lst (kvs.map (·.2))))
theorem pe_listVals (hc : X.calm = true) (he : PE X e te) (hg : Gl X "list") (hm : X.mg "list" = none) (hv : bootBuiltins "list" = some (.type "list")) (hbase : attributeBase e "values" X.env (eval e X.env) = eval e X.env := by rfl) (hline : (apos.endLine == cpos.line) = true := by rfl)
    (hs : starEach [.Call (.Attribute e "values" apos) [] [] cpos] X.env = (false, eval (.Call (.Attribute e "values" apos) [] [] cpos) X.env) :: starEach [] X.env := by rfl) :
    PE X (.Call (.Name "list" p) [.Call (.Attribute e "values" apos) [] [] cpos] [] pos) (tListVals te) := by
  constructor
  intro pins s σ H Q I hq
  apply wpAny_Call_Name_kw
  apply ld_blt I hg hm hv
  refine PyProof.Rows.callWith_type1 ?_ hs rfl
  rw [hs]
  show wpAny (model X.prog X.w) X.A (spliced ((false, eval (.Call (.Attribute e "values" apos) [] [] cpos) X.env) :: backTo pos (starEach [] X.env))) _ X.xe s
  refine Calls.spliced_cons (wpAny_Call_method (T := "dict") (id := "dict.values") hbase rfl hline F.plainAttrs_dict F.slot_dict_values F.type_dict_values (thn (he.run pins s σ H _ I hq) ?_))
  rintro u s1 ⟨x, H1, I1, rx, d, kvs, rfl, hd, q⟩
  obtain rfl : u = Value.ref d := rx
  obtain ⟨hz, hs0, vs, kv, hdo⟩ := dk_rd I1.hok hd
  obtain ⟨ep, hat⟩ := hdo.dictAt
  have lk : kvs.length = vs.length := Paired.length kv
  have I2 : Inv X pins σ H1 { s1 with heap := s1.heap.push { cls := .type "dict_values", data := .fields #[.ref d] } } := I1.kept (t' := s1.toks) fun b ob z => Heap.get?_push_of_some _ z
  have view : (s1.heap.push { cls := .type "dict_values", data := .fields #[.ref d] }).IsValuesView s1.heap.objs.size d := ⟨_, Heap.get?_push_size _ rfl, rfl, rfl⟩
  refine ⟨hdo.typeIs, hdo.mapOf.noDict, ?_⟩
  refine (show wpAny (model X.prog X.w) X.A (callWith cpos (.builtin "dict.values") [.ref d] [] []) _ X.xe s1 from method_meetsIn F.slot_dict_values F.entry_dict_values rfl (PySem.evalArgs_none ⟨rfl, hdo.typeIs, F.args_dict_values_1 _, _, meets_dict_values (mixKind X.prog X.w) d hs0, ⟨vs, hdo⟩, ?_⟩))
  refine Calls.spliced_nil (PySem.W.kdl_call (PySem.W.kdl_values (knd := mixKind X.prog X.w) (kvs := vs) (ep := ep)) (I1.ok.hd hc) ⟨view, hat.push _⟩ (by rw [← lk]; exact hz) ?_)
  intro h' tk acc c' hk hD hacc
  have ea : acc.toList = vs.map (·.2) := PySem.W.kdl_vals_eq _ (by rw [Array.length_toList]; exact hacc.1) fun j v z => hacc.2 j v (by rw [← Array.getElem?_toList]; exact z)
  have rv : Vals (kvs.map (·.2)) acc.toList := by rw [ea]; exact vals_snd kv
  exact ⟨.ref _, _, I2.laid (t' := tk) (o := .lst (kvs.map (·.2))) hk (Nat.le_refl _) (show ObjOk X.prog X.w _ _ _ (.lst (kvs.map (·.2))) from ⟨by rw [List.length_map]; exact hz, acc.toList, c', rv, by rw [Array.toArray_toList]; exact hD⟩), rfl, q _ (I2.hok.fresh (Nat.le_refl _))⟩
def lvK (x : OV) (F : Fr) (T : Sto) : Rs RV := match x with
  | .e (.p (.dic ks)) => .ok (.fr (.lst (ks.map (·.2)))) F T
  | _ => .bad
def cListV (m : MO) : ME := fun F T => (m F T).bind fun x F T => lvK x F T
theorem denK_vals {G : String → Addr} {K : PySem.W.Frag} {H : Hp} : ∀ {ks : List (Key × D)} {us : List (Key × V)}, DenK G K H ks us → DenL G K H (ks.map (·.2)) (us.map (·.2))
  | [], us, h => by rw [show us = [] from h]; rfl
  | (k, x) :: r, us, ⟨v, w, e, h1, h2⟩ => by
    subst e
    exact ⟨v, _, rfl, h1, denK_vals h2⟩
theorem je_listV (hc : X.calm = true) (hg : Gl X "list") (hm : X.mg "list" = none) (h : JO G X W e m) (hbase : attributeBase e "values" X.env (eval e X.env) = eval e X.env := by rfl) (hline : (apos.endLine == cpos.line) = true := by rfl)
    (hs : starEach [.Call (.Attribute e "values" apos) [] [] cpos] X.env = (false, eval (.Call (.Attribute e "values" apos) [] [] cpos) X.env) :: starEach [] X.env := by rfl) :
    JE G X W (.Call (.Name "list" p) [.Call (.Attribute e "values" apos) [] [] cpos] [] pos) (cListV m) := by
  obtain ⟨te, pe, s⟩ := h.ex
  refine ⟨_, pe_listVals hc pe hg hm (by decide +kernel) hbase hline hs, fun A T F σ g Q I p => ?_⟩
  refine s A T F σ g _ I ((post_bind p).imp (fun x F1 T1 p1 g1 v I1 l1 d1 => ?_) fun _ _ _ q => q)
  cases x with
  | sl i => exact (show False from p1).elim
  | e x =>
    cases x with
    | loc n => exact (show False from p1).elim
    | tp xs => exact (show False from p1).elim
    | p d =>
      cases d with
      | dic ks =>
        have p2 : (Rs.ok (RV.fr (.lst (ks.map (·.2)))) F1 T1).Post _ _ := p1
        obtain ⟨_, a, us, rfl, rd, dn⟩ := d1
        refine ⟨a, us, rfl, vw_le.rd a _ trivial rd, fun q hq => ?_⟩
        obtain ⟨I2, l2, R⟩ := I1.newRoot (c := .lst (ks.map (·.2))) (o := .lst (us.map (·.2))) hq rfl ⟨_, rfl, denK_vals dn⟩
        exact p2 ⟨plus g1.own q, g1.φ, upd g1.H q (.lst (us.map (·.2)))⟩ (.ref q) I2 (l1.trans l2) ⟨q, rfl, R⟩
      | _ => exact (show False from p1).elim
end
end Sim

set_option Elab.async false
set_option linter.all false
set_option maxRecDepth 100000
set_option maxHeartbeats 4000000
namespace Sim
open PySem L2
variable [EXC]
/-! ### for .. in a list that is a cell: each turn reads the list as it stands then -/
def cellAt : C → Nat → Option (Option E)
  | .lst ds, i => some (ds[i]?.map .p)
  | .lse es, i => some es[i]?
  | _, _ => none
def cellLen : C → Option Nat
  | .lst ds => some ds.length
  | .lse es => some es.length
  | _ => none
def forL (mg : MG) (body : MS) (n : Nat) : Nat → Nat → Fr → Sto → RS
  | 0, _, _, _ => .bad
  | k + 1, i, F, T => match (T[n]?).bind fun c => cellAt c i with
    | none => .bad
    | some none => .nx F T
    | some (some x) => match mg x F with
      | none => .bad
      | some F1 => match body F1 T with
        | .nx F2 T2 => forL mg body n k (i + 1) F2 T2
        | .ct F2 T2 => forL mg body n k (i + 1) F2 T2
        | .bk F2 T2 => .nx F2 T2
        | q => q
def forA (mg : MG) (body : MS) (x : OV) (F : Fr) (T : Sto) : RS := match x with
  | .e (.loc n) => match (T[n]?).bind cellLen with
    | some k => forL mg body n (k + 1) 0 F T
    | none => .bad
  | x => match itE x with
    | some es => forE mg body es F T
    | none => .bad
def sForA (m : MO) (mg : MG) (body : MS) : MS := fun F T => (m F T).st fun x F T => forA mg body x F T
section
variable {G : String → Addr} {K : PySem.W.Frag} {A : Act} {T T1 T2 : Sto} {F1 F2 : Fr} {σ : St} {g g1 g2 : Gs} {W : WX}
theorem cell_list {n : Nat} {c : C} {k : Nat} (I : Iv G K A T2 F2 σ g2) (hc : T2[n]? = some c) (hk : cellLen c = some k) : ∃ vs : List V, g2.H (g2.φ n) = some (.lst vs) ∧ vs.length = k ∧ ∀ i x, cellAt c i = some (some x) → ∃ v, vs[i]? = some v ∧ x.sc T2.length = true ∧ EDen G K g2.W g2.φ x v := by
  obtain ⟨h1, h2, o, h3, h4⟩ := I.liv n c hc
  have sc := I.cell_sc hc
  cases c with
  | lst ds =>
    obtain ⟨vs, rfl, d⟩ := h4
    cases hk
    refine ⟨vs, h3, d.length, fun i x hx => ?_⟩
    cases hd : ds[i]? with
    | none => rw [show cellAt (.lst ds) i = some (ds[i]?.map .p) from rfl, hd] at hx; cases hx
    | some y =>
      rw [show cellAt (.lst ds) i = some (ds[i]?.map .p) from rfl, hd] at hx
      cases hx
      have hl : i < vs.length := by rw [d.length]; exact (List.getElem?_eq_some_iff.mp hd).1
      have key : ∀ {ds : List D} {vs : List V}, DenL G K g2.W ds vs → ∀ {i : Nat} {y : D}, ds[i]? = some y → ∃ v, vs[i]? = some v ∧ Den G K g2.W y v := by
        intro ds
        induction ds with
        | nil => intro vs _ i y h; simp at h
        | cons z r ih =>
          intro vs h i y hy
          obtain ⟨v, w, rfl, h1, h2⟩ := h
          cases i with
          | zero => simp at hy; subst hy; exact ⟨v, rfl, h1⟩
          | succ i => simpa using ih h2 (by simpa using hy)
      obtain ⟨v, e1, e2⟩ := key d hd
      exact ⟨v, e1, scp, e2⟩
  | lse es =>
    obtain ⟨vs, rfl, d⟩ := h4
    cases hk
    have hs : E.scL T2.length es = true := sc
    have key : ∀ {es : List E} {vs : List V}, EDenL G K g2.W g2.φ es vs → E.scL T2.length es = true → vs.length = es.length ∧ ∀ {i : Nat} {y : E}, es[i]? = some y → ∃ v, vs[i]? = some v ∧ y.sc T2.length = true ∧ EDen G K g2.W g2.φ y v := by
      intro es
      induction es with
      | nil => intro vs h _; rw [show vs = [] from h]; exact ⟨rfl, fun h => by simp at h⟩
      | cons z r ih =>
        intro vs h hs
        obtain ⟨v, w, rfl, h1, h2⟩ := h
        rw [scL_cons', Bool.and_eq_true] at hs
        obtain ⟨k1, k2⟩ := ih h2 hs.2
        refine ⟨by simp [k1], fun {i y} hy => ?_⟩
        cases i with
        | zero => simp at hy; subst hy; exact ⟨v, rfl, hs.1, h1⟩
        | succ i => simpa using k2 (by simpa using hy)
    obtain ⟨k1, k2⟩ := key d hs
    refine ⟨vs, h3, k1, fun i x hx => k2 (by simpa [cellAt] using hx)⟩
  | _ => cases hk
theorem cellAt_len {c : C} {i : Nat} {q : Option E} (h : cellAt c i = some q) : ∃ k, cellLen c = some k ∧ (q = none → k ≤ i) ∧ (q ≠ none → i < k) := by
  cases c with
  | lst ds =>
    cases h
    refine ⟨ds.length, rfl, fun e => ?_, fun e => ?_⟩
    · simpa using e
    · simpa using e
  | lse es =>
    cases h
    refine ⟨es.length, rfl, fun e => ?_, fun e => ?_⟩
    · simpa using e
    · simpa using e
  | _ => cases h
theorem forL_loop {t : TG} {mg : MG} {ss : List Nat} {tb : TS} {body : MS} {De : Ends} {n k : Nat} (hg : TgOk G K t mg ss) (hb : SS G K W tb body) (I1 : Iv G K A T1 F1 σ g1) (l1 : Le T T1 g g1) (hn : n < T1.length)
    (p1 : (forL mg body n k 0 F1 T1).Post G K W A T g De) : ∃ Wi : Nat → Nat → St → Hp → Prop, (∃ m, Wi 0 m σ g1.H) ∧ ∀ i m σ H, Wi i m σ H →
  ((Itl K (g1.φ n)).stop i H ∧ De.nx σ H) ∨ ((Itl K (g1.φ n)).go i H ∧ ∃ N : St → Hp → Prop, (∀ σ' H', N σ' H' → ∃ m', m' < m ∧ Wi (i + 1) m' σ' H') ∧ ∀ x H', (Itl K (g1.φ n)).yld i H x H' → t x σ H' fun σ2 H2 => tb { De with nx := N, ct := N, bk := De.nx } σ2 H2) := by
  refine ⟨fun i m σ H => ∃ g2 F2 T2, g2.H = H ∧ Iv G K A T2 F2 σ g2 ∧ Le T1 T2 g1 g2 ∧ (forL mg body n m i F2 T2).Post G K W A T g De, ⟨k, g1, F1, T1, rfl, I1, Le.refl, p1⟩, ?_⟩
  rintro i m σ2 H ⟨g2, F2, T2, rfl, I2, l2, p2⟩
  have ag : g2.φ n = g1.φ n := l2.agr n hn
  have hn2 : n < T2.length := Nat.lt_of_lt_of_le hn l2.len
  cases m with
  | zero => exact (show False from p2).elim
  | succ m =>
    unfold forL at p2
    cases hc : T2[n]? with
    | none => rw [hc] at p2; exact (show False from p2).elim
    | some c =>
      rw [hc] at p2
      cases ha : cellAt c i with
      | none => rw [show (some c).bind (fun c => cellAt c i) = none from ha] at p2; exact (show False from p2).elim
      | some q =>
        rw [show (some c).bind (fun c => cellAt c i) = some q from ha] at p2
        obtain ⟨kk, hk, hq1, hq2⟩ := cellAt_len ha
        obtain ⟨vs, hv, lv, ix⟩ := cell_list I2 hc hk
        rw [ag] at hv
        have sq : SqL K g2.H (g1.φ n) vs := .inl (.inl hv)
        cases q with
        | none => exact .inl ⟨⟨vs, sq, by rw [lv]; exact hq1 rfl⟩, p2 g2 σ2 I2 (l1.trans l2)⟩
        | some x =>
          obtain ⟨v, e1, sx, dx⟩ := ix i x ha
          refine .inr ⟨⟨vs, v, sq, e1⟩, fun σ' H' => ∃ g3 F3 T3, g3.H = H' ∧ Iv G K A T3 F3 σ' g3 ∧ Le T1 T3 g1 g3 ∧ (forL mg body n m (i + 1) F3 T3).Post G K W A T g De, fun σ' H' h => ⟨m, Nat.lt_succ_self _, h⟩, fun w H' y => ?_⟩
          obtain ⟨eH, y2⟩ := y
          subst eH
          obtain rfl : v = w := by
            have := y2 vs sq
            rw [e1] at this
            exact Option.some.inj this
          have p3 : (match mg x F2 with | none => RS.bad | some F1 => (match body F1 T2 with | .nx F2 T2 => forL mg body n m (i + 1) F2 T2 | .ct F2 T2 => forL mg body n m (i + 1) F2 T2 | .bk F2 T2 => .nx F2 T2 | q => q)).Post G K W A T g De := p2
          cases z : mg x F2 with
          | none => rw [z] at p3; exact p3.elim
          | some F3 =>
            rw [z] at p3
            refine hg A T2 F2 F3 σ2 g2 x v _ I2 sx dx z fun σ4 I4 _ => hb A T2 F3 σ4 g2 _ I4 ?_
            have l02 : Le T T2 g g2 := l1.trans l2
            have p4 : (match body F3 T2 with | .nx F2 T2 => forL mg body n m (i + 1) F2 T2 | .ct F2 T2 => forL mg body n m (i + 1) F2 T2 | .bk F2 T2 => .nx F2 T2 | q => q).Post G K W A T g De := p3
            cases zb : body F3 T2 with
            | nx F5 T5 =>
              rw [zb] at p4
              exact fun g5 σ5 I5 l5 => ⟨g5, F5, T5, rfl, I5, l2.trans l5, p4⟩
            | ct F5 T5 =>
              rw [zb] at p4
              exact fun g5 σ5 I5 l5 => ⟨g5, F5, T5, rfl, I5, l2.trans l5, p4⟩
            | bk F5 T5 =>
              rw [zb] at p4
              exact fun g5 σ5 I5 l5 => p4 g5 σ5 I5 (l02.trans l5)
            | rt r F5 T5 =>
              rw [zb] at p4
              exact fun g5 σ5 v I5 l5 d => p4 g5 σ5 v I5 (l02.trans l5) d
            | exc x F5 T5 =>
              rw [zb] at p4
              exact fun g5 σ5 cls d I5 l5 xd => p4 g5 σ5 cls d I5 (l02.trans l5) xd
            | bad => rw [zb] at p4; exact p4
end
section
variable {G : String → Addr} {X : Cx} {W : WX} {pos : Pos} {e tg : Expr} {m : MO}
theorem js_forA {mg : MG} {ss : List Nat} {body : List Stmt} {mb : MS} (hp : PassesOwn (model X.prog X.w) X.A X.env X.xe) (hc : X.calm = true) (h : JO G X W e m) (hg : JG G X tg mg ss) (hb : JSs G X W body mb) (hs : ∀ x, foldedSetIterable e X.env x = pure x := by intro _; rfl) :
    JS G X W (.For tg e body [] pos) (sForA m mg mb) := by
  obtain ⟨te, pe, s⟩ := h.ex
  obtain ⟨wi2, pi2, s2⟩ := (ji_seq (tg := tg) h).ex
  obtain ⟨t, pg, sg⟩ := hg.ex
  obtain ⟨tb, pb, sb⟩ := hb.ex
  refine ⟨_, ps_for hp hc (PI.or (pi_list pe) pi2) pg pb hs, fun A T F σ g De I p => ?_⟩
  have case1 : ∀ n F1 T1, m F T = .ok (.e (.loc n)) F1 T1 → tFor (iList X.K te) t tb De σ g.H := by
    intro n F1 T1 z
    refine s A T F σ g _ I ?_
    rw [z]
    intro g1 v I1 l1 d1
    have hn : n < T1.length := by
      have := d1.1
      rw [show (E.loc n).sc T1.length = decide (n < T1.length) from rfl] at this
      simpa using this
    have p2 : (forA mg mb (.e (.loc n)) F1 T1).Post G X.K W A T g De := by
      have p0 : ((m F T).st fun x F T => forA mg mb x F T).Post G X.K W A T g De := p
      rw [z] at p0
      exact p0
    have p3 : (match (T1[n]?).bind cellLen with | some k => forL mg mb n (k + 1) 0 F1 T1 | none => .bad).Post G X.K W A T g De := p2
    cases hcl : (T1[n]?).bind cellLen with
    | none => rw [hcl] at p3; exact p3.elim
    | some k =>
      rw [hcl] at p3
      cases hcc : T1[n]? with
      | none => rw [hcc] at hcl; cases hcl
      | some c =>
        rw [hcc] at hcl
        obtain ⟨vs, hv, _, _⟩ := cell_list I1 hcc hcl
        exact ⟨g1.φ n, d1.2, ⟨vs, .inl (.inl hv)⟩, forL_loop sg sb I1 l1 hn p3⟩
  have case2 : (∀ n F1 T1, m F T ≠ .ok (.e (.loc n)) F1 T1) → tFor wi2 t tb De σ g.H := by
    intro hno
    refine for_core s2 sg sb A T F σ g De I ?_
    have p0 : ((m F T).st fun x F T => forA mg mb x F T).Post G X.K W A T g De := p
    show (((cIt m) F T).st fun es F T => forE mg mb es F T).Post G X.K W A T g De
    unfold cIt
    cases z : m F T with
    | bad => rw [z] at p0; exact p0
    | exc x F1 T1 => rw [z] at p0; exact p0
    | ok r F1 T1 =>
      rw [z] at p0
      have p1 : (forA mg mb r F1 T1).Post G X.K W A T g De := p0
      have e1 : forA mg mb r F1 T1 = match itE r with | some es => forE mg mb es F1 T1 | none => .bad := by
        cases r with
        | sl i => rfl
        | e y => cases y with
          | loc n => exact absurd z (hno n F1 T1)
          | _ => rfl
      rw [e1] at p1
      show (Rs.st (match itE r with | some es => Rs.ok es F1 T1 | none => .bad) fun es F T => forE mg mb es F T).Post G X.K W A T g De
      cases hi : itE r with
      | none => rw [hi] at p1; exact p1
      | some es => rw [hi] at p1; exact p1
  by_cases hx : ∃ n F1 T1, m F T = .ok (.e (.loc n)) F1 T1
  · obtain ⟨n, F1, T1, z⟩ := hx
    exact .inl (case1 n F1 T1 z)
  · exact .inr (case2 fun n F1 T1 z => hx ⟨n, F1, T1, z⟩)
end
end Sim

set_option Elab.async false
set_option linter.all false
set_option maxRecDepth 100000
set_option maxHeartbeats 4000000
namespace Sim
open PySem L2
variable [EXC]
/-! ### comprehensions whose items are any elements -/
def lceE (mg : MG) (t : MT) (el : MO) (vs : List Nat) : List E → List E → Fr → Sto → Rs (List E)
  | [], acc, F, T => .ok acc F T
  | x :: r, acc, F, T => match mg x F with
    | none => .bad
    | some F1 => (t F1 T).nox.bind fun b F2 T2 => if b = true then (el F2 T2).nox.bind fun y F3 T3 => (match y with
        | .e d => if acc.length < LINE then lceE mg t el vs r (acc ++ [d]) (wipeF F3 vs) T3 else .bad
        | _ => .bad) else lceE mg t el vs r acc (wipeF F2 vs) T2
def cLcE (mi : MI) (mg : MG) (t : MT) (el : MO) (vs : List Nat) : ME := fun F T => (mi F T).bind fun es F T => (lceE mg t el vs es [] (wipeF F vs) T).bind fun ds F T => .ok (.fr (lstV ds)) F T
section
variable {G : String → Addr} {K : PySem.W.Frag} {A : Act} {T : Sto} {F : Fr} {σ : St} {g : Gs} {W : WX} {H : Hp} {φ : Nat → Addr}
theorem EDenL.snoc : ∀ {xs : List E} {vs : List V} {x : E} {v : V}, EDenL G K H φ xs vs → EDen G K H φ x v → EDenL G K H φ (xs ++ [x]) (vs ++ [v])
  | [], vs, x, v, h, k => by rw [show vs = [] from h]; exact ⟨v, [], rfl, k, rfl⟩
  | y :: r, vs, x, v, ⟨a, w, e, h1, h2⟩, k => by subst e; exact ⟨a, w ++ [v], rfl, h1, EDenL.snoc h2 k⟩
theorem EDenL.len : ∀ {xs : List E} {vs : List V}, EDenL G K H φ xs vs → vs.length = xs.length
  | [], vs, h => by rw [show vs = [] from h]; rfl
  | y :: r, vs, ⟨a, w, e, h1, h2⟩ => by subst e; simp [EDenL.len h2]
theorem scL_mono {n m : Nat} (h : n ≤ m) {xs : List E} (s : E.scL n xs = true) : E.scL m xs = true := scL_mem.mpr fun x hx => E.sc_mono h (scL_mem.mp s x hx)
theorem scL_snoc {n : Nat} {xs : List E} {x : E} (s : E.scL n xs = true) (h : x.sc n = true) : E.scL n (xs ++ [x]) = true := scL_mem.mpr fun y hy => by
  rcases List.mem_append.mp hy with hy | hy
  · exact scL_mem.mp s y hy
  · rw [List.mem_singleton.mp hy]; exact h
/-- what was gathered -/
def Gath (G : String → Addr) (K : PySem.W.Frag) (T : Sto) (g : Gs) (ds : List E) (acc : List V) : Prop := E.scL T.length ds = true ∧ EDenL G K g.W g.φ ds acc
theorem Gath.le {T T' : Sto} {g g' : Gs} {ds : List E} {acc : List V} (h : Gath G K T g ds acc) (l : Le T T' g g') : Gath G K T' g' ds acc := ⟨scL_mono l.len h.1, l.el h.1 h.2⟩
theorem lce_core {wi : TI} {mi : MI} {t : TG} {mg : MG} {ss : List Nat} {tt : TT} {mt : MT} {te : TE} {el : MO} {vs : List Nat} (hss : ∀ i ∈ ss, i ∈ vs) (hi : SI G K W wi mi) (hg : TgOk G K t mg ss) (ht : ST G K W0 tt mt) (he : SO G K W0 te el) :
    SE G K W (tLc wi t tt te vs) (cLcE mi mg mt el vs) := by
  intro A T F σ g Q I p
  refine hi A T F σ g _ I ((post_bind p).imp (fun es F1 T1 p1 g1 J I1 l1 gd => ?_) fun _ _ _ q => q)
  intro P hP
  have h0 := I1.none0 hP
  have n0 : A.own0 P = false := I1.own0 (I1.fresh hP)
  have hp : ∀ a, A.prot a → A.own0 a = true := fun a ha => (I1.prot a ha).1
  let E1 : List E → Fr → Sto → Prop := fun ds F' T' => Rs.Post (Rs.ok (RV.fr (lstV ds)) F' T') (fun r F' T' => ∀ g' v, Iv G K A T' F' σ g' → Le T T' g g' → RDen G K A T' F' σ g' r v → Q v g'.H) (Wish G K W A T σ g)
  have p1' : (lceE mg mt el vs es [] (wipeF F1 vs) T1).Post E1 (Wish G K W A T σ g) := post_bind p1
  obtain ⟨Ig, wg⟩ := I1.guard (o := .lst []) hP
  refine ⟨fun i m H => m = es.length - i ∧ i ≤ es.length ∧ ∃ g2 F2 T2 ds acc, g2.H = H ∧ Iv G K (A.gd P (.lst acc)) T2 (wipeF F2 vs) (L2.wipe σ vs) g2 ∧ Le T1 T2 g1 g2 ∧ Gath G K T2 g2 ds acc ∧ (lceE mg mt el vs (es.drop i) ds (wipeF F2 vs) T2).Post E1 (Wish G K W A T σ g),
    ⟨es.length, by simp, Nat.zero_le _, ⟨plus g1.own P, g1.φ, upd g1.H P (.lst [])⟩, F1, T1, [], [], rfl, Ig.wipe vs, ⟨by rw [wg]; exact Ext.refl _, fun _ _ => rfl, Nat.le_refl _⟩, ⟨scL_nil', rfl⟩, p1'⟩, ?_⟩
  rintro i m H ⟨rfl, hi, g2, F2, T2, ds, acc, rfl, I2, l2, dl, p2⟩
  have on : On T1.length g1 g2 := ⟨l2.ext, l2.agr⟩
  by_cases hl : i < es.length
  · refine .inr ⟨gd.go i g2 on hl, fun H' => ∃ g3 F3 T3 ds acc, g3.H = H' ∧ Iv G K (A.gd P (.lst acc)) T3 (wipeF F3 vs) (L2.wipe σ vs) g3 ∧ Le T1 T3 g1 g3 ∧ Gath G K T3 g3 ds acc ∧ (lceE mg mt el vs (es.drop (i + 1)) ds (wipeF F3 vs) T3).Post E1 (Wish G K W A T σ g), fun H' ⟨g3, F3, T3, ds, acc, h1, h2, h3, h4, h5⟩ => ⟨es.length - (i + 1), by omega, rfl, hl, g3, F3, T3, ds, acc, h1, h2, h3, h4, h5⟩, fun v H' y => ?_⟩
    obtain ⟨x, hx, sx, yl⟩ := gd.yld i g2 v H' on hl y
    have sx2 : x.sc T2.length = true := E.sc_mono l2.len sx
    obtain ⟨g3, rfl, I3, l3, d3⟩ := Yl.state I2 sx2 yl
    have ed : es.drop i = x :: es.drop (i + 1) := by
      rw [List.drop_eq_getElem_cons hl]
      congr 1
      rw [List.getElem?_eq_getElem hl] at hx
      exact Option.some.inj hx
    rw [ed] at p2
    unfold lceE at p2
    cases z : mg x (wipeF F2 vs) with
    | none => rw [z] at p2; exact p2.elim
    | some F3 =>
      rw [z] at p2
      refine hg _ T2 (wipeF F2 vs) F3 (L2.wipe σ vs) g3 x v _ I3 sx2 d3 z fun σ4 I4 k4 => ?_
      have kw : L2.wipe σ4 vs = L2.wipe σ vs := by
        rw [k4 vs hss]
        exact wipe_wipe
      refine ⟨kw, ?_⟩
      refine ht _ T2 F3 σ4 g3 _ I4 ((nox_post p2).imp (fun b F5 T5 p5 g5 I5 l5 => ?_) fun _ _ _ q => q)
      have dl5 : Gath G K T5 g5 ds acc := (dl.le l3).le l5
      cases b with
      | false =>
        rw [if_neg Bool.false_ne_true] at p5 ⊢
        have I6 := I5.wipe vs
        rw [kw] at I6
        exact ⟨g5, F5, T5, ds, acc, rfl, I6, (l2.trans l3).trans l5, dl5, p5⟩
      | true =>
        rw [if_pos rfl] at p5 ⊢
        refine he _ T5 F5 σ4 g5 _ I5 ((nox_post p5).imp (fun y F6 T6 p6 g6 w I6 l6 d6 => ?_) fun _ _ _ q => q)
        have p6' : Rs.Post (match y with | .e d => (if ds.length < LINE then lceE mg mt el vs (es.drop (i + 1)) (ds ++ [d]) (wipeF F6 vs) T6 else .bad) | _ => .bad) E1 (Wish G K W A T σ g) := p6
        split at p6'
        · rename_i d
          split at p6'
          · rename_i hlen
            have dl6 : Gath G K T6 g6 ds acc := dl5.le l6
            have hpo : g6.H P = some (.lst acc) := ((I6.prot P (.inr rfl)).2).trans (if_pos rfl)
            obtain ⟨I7, w7⟩ := I6.reguard (o' := .lst (acc ++ [w]))
            have I8 := I7.wipe vs
            rw [kw] at I8
            refine ⟨acc, hpo, by rw [dl6.2.len, sizeLine_eq]; exact hlen, ⟨g6.own, g6.φ, upd g6.H P (.lst (acc ++ [w]))⟩, F6, T6, ds ++ [d], acc ++ [w], rfl, I8, ?_, ?_, p6'⟩
            · have l7 : Le T6 T6 g6 ⟨g6.own, g6.φ, upd g6.H P (.lst (acc ++ [w]))⟩ := ⟨by rw [w7]; exact Ext.refl _, fun _ _ => rfl, Nat.le_refl _⟩
              exact (((l2.trans l3).trans l5).trans l6).trans l7
            · refine ⟨scL_snoc dl6.1 d6.1, ?_⟩
              rw [w7]
              exact dl6.2.snoc d6.2
          · exact p6'.elim
        · exact p6'.elim
  · have e : i = es.length := by omega
    subst e
    rw [List.drop_length] at p2
    unfold lceE at p2
    have I3 := I2.unwipe
    obtain ⟨s3, c3⟩ := lstV_den dl.2 dl.1
    obtain ⟨I4, R⟩ := I3.unguard (c := lstV ds) h0 n0 hp s3 c3
    exact .inl ⟨gd.stop g2 on, p2 g2 (.ref P) I4 (l1.trans l2) ⟨P, rfl, R⟩⟩
end
section
variable {G : String → Addr} {X : Cx} {W : WX} {pos p : Pos} {tg elt iter : Expr} {ifs : List Expr} {scope : Scope} {own : List (Str × Nat)} {mi : MI} {mg : MG} {ss : List Nat} {t : MT} {el : MO} {i : Nat} {y : Str} {py spos : Pos}
theorem je_lcE (hc : X.calm = true) (hN : X.N.Nodup) (hi : JI G X W tg iter mi) (ok : BlkOk X.N X.env.scope scope own) (hss : ∀ i ∈ ss, i ∈ own.map (·.2))
    (hg : ∀ (s : Shared) (H : Hp) (C : Addr) (cl : List (Str × Addr)) (fp : List Addr), JG G (X.blk s H scope (compEnvC scope cl C X.env) fp) tg mg ss)
    (ht : ∀ (s : Shared) (H : Hp) (C : Addr) (cl : List (Str × Addr)) (fp : List Addr), JTs G (X.blk s H scope (compEnvC scope cl C X.env) fp) W0 ifs t)
    (he : ∀ (s : Shared) (H : Hp) (C : Addr) (cl : List (Str × Addr)) (fp : List Addr), JO G (X.blk s H scope (compEnvC scope cl C X.env) fp) W0 elt el) (hs : ∀ x, foldedSetIterable iter X.env x = pure x := by intro _; rfl) :
    JE G X W (.ListComp elt [⟨tg, iter, ifs, 0⟩] scope pos) (cLcE mi mg t el (own.map (·.2))) := by
  obtain ⟨wi, p1, s1⟩ := hi.ex
  exact ⟨_, pe_lc hc hN p1 ok (fun s H C cl fp => (hg s H C cl fp).pg) (fun s H C cl fp => (ht s H C cl fp).pt) (fun s H C cl fp => (he s H C cl fp).pe) hs, lce_core hss s1 tgOk stO soO⟩
theorem setLcE_core (hc : X.calm = true) (hN : X.N.Nodup) (hy : X.N[i]? = some y) (hyl : X.env.scope.names.lookup y = some .local) (hsw : swapsWith (.ListComp elt [⟨tg, iter, ifs, 0⟩] scope pos) (some (.Name y py)) spos.line X.env = pure true)
    (hi : JI G X W tg iter mi) (ok : BlkOk X.N X.env.scope scope own) (hss : ∀ i ∈ ss, i ∈ own.map (·.2))
    (hg : ∀ (s : Shared) (H : Hp) (C : Addr) (cl : List (Str × Addr)) (fp : List Addr), JG G (X.blk s H scope (compEnvC scope cl C X.env) fp) tg mg ss)
    (ht : ∀ (s : Shared) (H : Hp) (C : Addr) (cl : List (Str × Addr)) (fp : List Addr), JTs G (X.blk s H scope (compEnvC scope cl C X.env) fp) W0 ifs t)
    (he : ∀ (s : Shared) (H : Hp) (C : Addr) (cl : List (Str × Addr)) (fp : List Addr), JO G (X.blk s H scope (compEnvC scope cl C X.env) fp) W0 elt el) (hs : ∀ x, foldedSetIterable iter X.env x = pure x) :
    ∃ te, PS X (.Assign [.Name y py] (.ListComp elt [⟨tg, iter, ifs, 0⟩] scope pos) spos) (tAsg te (gName i)) ∧ SE G X.K W te (cLcE mi mg t el (own.map (·.2))) := by
  obtain ⟨wi, p1, s1⟩ := hi.ex
  exact ⟨_, ps_setLc hc hN hy hyl hsw p1 ok (fun s H C cl fp => (hg s H C cl fp).pg) (fun s H C cl fp => (ht s H C cl fp).pt) (fun s H C cl fp => (he s H C cl fp).pe) hs, lce_core hss s1 tgOk stO soO⟩
theorem js_setLcEO (hc : X.calm = true) (hN : X.N.Nodup) (hy : X.N[i]? = some y) (hyl : X.env.scope.names.lookup y = some .local) (hsw : swapsWith (.ListComp elt [⟨tg, iter, ifs, 0⟩] scope pos) (some (.Name y py)) spos.line X.env = pure true)
    (hi : JI G X W tg iter mi) (ok : BlkOk X.N X.env.scope scope own) (hss : ∀ i ∈ ss, i ∈ own.map (·.2))
    (hg : ∀ (s : Shared) (H : Hp) (C : Addr) (cl : List (Str × Addr)) (fp : List Addr), JG G (X.blk s H scope (compEnvC scope cl C X.env) fp) tg mg ss)
    (ht : ∀ (s : Shared) (H : Hp) (C : Addr) (cl : List (Str × Addr)) (fp : List Addr), JTs G (X.blk s H scope (compEnvC scope cl C X.env) fp) W0 ifs t)
    (he : ∀ (s : Shared) (H : Hp) (C : Addr) (cl : List (Str × Addr)) (fp : List Addr), JO G (X.blk s H scope (compEnvC scope cl C X.env) fp) W0 elt el) (hs : ∀ x, foldedSetIterable iter X.env x = pure x := by intro _; rfl) :
    JS G X W (.Assign [.Name y py] (.ListComp elt [⟨tg, iter, ifs, 0⟩] scope pos) spos) (sAsgO i (cLcE mi mg t el (own.map (·.2)))) := by
  obtain ⟨te, p, s⟩ := setLcE_core hc hN hy hyl hsw hi ok hss hg ht he hs
  exact ⟨_, p, asgO_core s⟩
theorem js_setLcEL (hc : X.calm = true) (hN : X.N.Nodup) (hy : X.N[i]? = some y) (hyl : X.env.scope.names.lookup y = some .local) (hsw : swapsWith (.ListComp elt [⟨tg, iter, ifs, 0⟩] scope pos) (some (.Name y py)) spos.line X.env = pure true)
    (hi : JI G X W tg iter mi) (ok : BlkOk X.N X.env.scope scope own) (hss : ∀ i ∈ ss, i ∈ own.map (·.2))
    (hg : ∀ (s : Shared) (H : Hp) (C : Addr) (cl : List (Str × Addr)) (fp : List Addr), JG G (X.blk s H scope (compEnvC scope cl C X.env) fp) tg mg ss)
    (ht : ∀ (s : Shared) (H : Hp) (C : Addr) (cl : List (Str × Addr)) (fp : List Addr), JTs G (X.blk s H scope (compEnvC scope cl C X.env) fp) W0 ifs t)
    (he : ∀ (s : Shared) (H : Hp) (C : Addr) (cl : List (Str × Addr)) (fp : List Addr), JO G (X.blk s H scope (compEnvC scope cl C X.env) fp) W0 elt el) (hs : ∀ x, foldedSetIterable iter X.env x = pure x := by intro _; rfl) :
    JS G X W (.Assign [.Name y py] (.ListComp elt [⟨tg, iter, ifs, 0⟩] scope pos) spos) (sAsgL i (cLcE mi mg t el (own.map (·.2)))) := by
  obtain ⟨te, p, s⟩ := setLcE_core hc hN hy hyl hsw hi ok hss hg ht he hs
  exact ⟨_, p, asgL_core s⟩
end
/-! ### operators that only own classes have -/
def noF : F2 := fun _ _ _ _ => none
theorem opr_no {X : Cx} {f : Value → Value → Sem Value} : OpR X f (fun _ _ _ _ => False) := fun _ _ _ _ _ _ _ _ _ _ _ _ h => h.elim
theorem ops_no {G : String → Addr} {K : PySem.W.Frag} : OpS G K (fun _ _ _ _ => False) noF := fun _ _ _ _ _ _ _ _ _ _ _ _ _ h => by cases h
/-- an own special method -/
def SpF (K : PySem.W.Frag) (G : String → Addr) (c nm : String) (qual : Str) (st : Stmt) (ps : List Str) : Prop := ∃ (f : Addr) (fd : FuncData), PySem.W.findIn K (.ref (G c)) (Str.ofString nm) = some (some (.ref f)) ∧ PySem.W.isFn K (.ref f) = true ∧ PySem.W.selfFirst K (G c) = true ∧ L2.Fun K (Str.ofString nm) qual st f fd ∧ Binds K fd ps []
/-- a loop over a cell that stays as it is while the loop runs -/
theorem forAg_h {mg : MG} {body : MS} {n : Nat} {F : Fr} {T : Sto} {r : RS} {ds : List D} (h : forA mg body (.e (.loc n)) F T = r) (P : List E → Fr → Sto → Prop) (Q : RS → Prop) (hT : ∀ es F T, P es F T → T[n]? = some (.lst ds)) (h0 : P (ds.map .p) F T)
    (step : ∀ x rest F T, P (x :: rest) F T → ∃ F1, mg x F = some F1 ∧ ∀ r, body F1 T = r → ((∃ F2 T2, (r = .nx F2 T2 ∨ r = .ct F2 T2) ∧ P rest F2 T2) ∨ (∃ F2 T2, r = .bk F2 T2 ∧ Q (.nx F2 T2)) ∨ (∃ v F2 T2, r = .rt v F2 T2 ∧ Q (.rt v F2 T2)) ∨ ∃ x F2 T2, r = .exc x F2 T2 ∧ Q (.exc x F2 T2)))
    (fin : ∀ F T, P [] F T → Q (.nx F T)) : Q r := by
  have key : ∀ (k i : Nat) (F : Fr) (T : Sto), ds.length + 1 ≤ k + i → i ≤ ds.length → P ((ds.drop i).map .p) F T → Q (forL mg body n k i F T) := by
    intro k
    induction k with
    | zero => intro i F T h1 h2 _; omega
    | succ k ih =>
      intro i F T h1 h2 hp
      unfold forL
      rw [show (T[n]?).bind (fun c => cellAt c i) = some (ds[i]?.map .p) from by rw [hT _ _ _ hp]; rfl]
      by_cases hi : i < ds.length
      · rw [List.drop_eq_getElem_cons hi, List.map_cons] at hp
        obtain ⟨F1, e1, e2⟩ := step _ _ _ _ hp
        rw [List.getElem?_eq_getElem hi]
        simp only [Option.map_some, e1]
        rcases e2 _ rfl with ⟨F2, T2, h2 | h2, h3⟩ | ⟨F2, T2, h2, h3⟩ | ⟨v, F2, T2, h2, h3⟩ | ⟨z, F2, T2, h2, h3⟩
        · simp only [h2]; exact ih (i + 1) F2 T2 (by omega) (by omega) h3
        · simp only [h2]; exact ih (i + 1) F2 T2 (by omega) (by omega) h3
        · simp only [h2]; exact h3
        · simp only [h2]; exact h3
        · simp only [h2]; exact h3
      · rw [List.getElem?_eq_none (by omega)]
        rw [List.drop_of_length_le (by omega)] at hp
        exact fin F T hp
  rw [← h]
  unfold forA
  simp only
  rw [show (T[n]?).bind cellLen = some ds.length from by rw [hT _ _ _ h0]; rfl]
  exact key (ds.length + 1) 0 F T (by omega) (by omega) (by simpa using h0)
theorem forA_h {mg : MG} {body : MS} {n : Nat} {F : Fr} {T : Sto} {r : RS} {ds : List D} (h : forA mg body (.e (.loc n)) F T = r) (P : List E → Fr → Sto → Prop) (hT : ∀ es F T, P es F T → T[n]? = some (.lst ds)) (h0 : P (ds.map .p) F T)
    (step : ∀ x rest F T, P (x :: rest) F T → ∃ F1, mg x F = some F1 ∧ ∀ r, body F1 T = r → ∃ F2 T2, (r = .nx F2 T2 ∨ r = .ct F2 T2) ∧ P rest F2 T2) : ∃ F' T', r = .nx F' T' ∧ P [] F' T' :=
  forAg_h h P (fun r => ∃ F' T', r = .nx F' T' ∧ P [] F' T') hT h0 (fun x rest F T hp => by
    obtain ⟨F1, h1, h2⟩ := step x rest F T hp
    exact ⟨F1, h1, fun r hr => .inl (h2 r hr)⟩) fun F T hp => ⟨F, T, rfl, hp⟩
end Sim

set_option Elab.async false
set_option linter.all false
set_option maxRecDepth 100000
set_option maxHeartbeats 4000000
namespace Sim
open PySem L2
variable [EXC]
/-! ### x is True, x is False -/
def isBF : F2 := fun _ _ x y => match x, y with
  | .e (.p (.bl a)), .e (.p (.bl b)) => some (.o (.e (.p (.bl (decide (a = b))))))
  | .e _, .e (.p (.bl _)) => some (.o (.e (.p (.bl false))))
  | _, _ => none
def isnBF : F2 := fun _ _ x y => match x, y with
  | .e (.p (.bl a)), .e (.p (.bl b)) => some (.o (.e (.p (.bl (!decide (a = b))))))
  | .e _, .e (.p (.bl _)) => some (.o (.e (.p (.bl true))))
  | _, _ => none
section
variable {X : Cx}
theorem rel_bool {x : V} {v : Value} {b : Bool} (r : RelV x v) : (v == Value.bool b) = decide (x = .bl b) := by
  rw [Bool.eq_iff_iff, beq_iff_eq, decide_eq_true_iff]
  cases x with
  | non => cases (show v = Value.none from r); simp
  | bl a => cases (show v = Value.bool a from r); simp
  | int i => obtain ⟨t, e⟩ := (show ∃ t, v = Value.int i t from r); cases e; simp
  | str i => obtain ⟨t, e⟩ := (show ∃ t, v = Value.str i t from r); cases e; simp
  | byt i => obtain ⟨t, e⟩ := (show ∃ t, v = Value.bytes i t from r); cases e; simp
  | flt i => obtain ⟨t, e⟩ := (show ∃ t, v = Value.float i t from r); cases e; simp
  | ref a => cases (show v = Value.ref a from r); simp
  | ty n => cases (show v = Value.type n from r); simp
theorem same_bool {x : V} {v : Value} {b : Bool} (r : RelV x v) : isSame v (.bool b) = pure (v == .bool b) := by
  cases x with
  | non => cases (show v = Value.none from r); rfl
  | bl a => cases (show v = Value.bool a from r); rfl
  | int i => obtain ⟨t, e⟩ := (show ∃ t, v = Value.int i t from r); cases e; rfl
  | str i => obtain ⟨t, e⟩ := (show ∃ t, v = Value.str i t from r); cases e; rfl
  | byt i => obtain ⟨t, e⟩ := (show ∃ t, v = Value.bytes i t from r); cases e; rfl
  | flt i => obtain ⟨t, e⟩ := (show ∃ t, v = Value.float i t from r); cases e; rfl
  | ref a => cases (show v = Value.ref a from r); rfl
  | ty n => cases (show v = Value.type n from r); rfl
theorem op_isB : OpR X (compareOp .Is) (fun x y H Q => ∃ b, y = .bl b ∧ Q (.bl (decide (x = .bl b))) H) := by
  intro pins s σ H x y v u Q I rx ry h
  obtain ⟨b, rfl, q⟩ := h
  obtain rfl : u = Value.bool b := ry
  refine wpAny_bind (wpAny_of_eq (same_bool rx) (wpAny_pure ?_))
  rw [rel_bool rx]
  exact ⟨.bl (decide (x = .bl b)), H, I, rfl, q⟩
theorem op_isnB : OpR X (compareOp .IsNot) (fun x y H Q => ∃ b, y = .bl b ∧ Q (.bl (!decide (x = .bl b))) H) := by
  intro pins s σ H x y v u Q I rx ry h
  obtain ⟨b, rfl, q⟩ := h
  obtain rfl : u = Value.bool b := ry
  refine wpAny_bind (wpAny_of_eq (same_bool rx) (wpAny_pure ?_))
  rw [rel_bool rx]
  exact ⟨.bl (!decide (x = .bl b)), H, I, rfl, q⟩
end
section
variable {G : String → Addr} {K : PySem.W.Frag} {T : Sto} {σ : St} {g : Gs}
theorem not_bl {x : E} {v : V} (h : ODen G K T σ g (.e x) v) (hx : ∀ a, x ≠ .p (.bl a)) (b : Bool) : v ≠ .bl b := by
  intro e
  subst e
  obtain ⟨_, d⟩ := h
  cases x with
  | loc n => exact absurd (show V.bl b = .ref (g.φ n) from d) (by intro z; cases z)
  | tp xs => obtain ⟨a, vs, e, _⟩ := d; cases e
  | p d' =>
    cases d' with
    | non => exact absurd (show V.bl b = .non from d) (by intro z; cases z)
    | bl a => exact hx a rfl
    | int i => exact absurd (show V.bl b = .int i from d) (by intro z; cases z)
    | str i => exact absurd (show V.bl b = .str i from d) (by intro z; cases z)
    | tup xs => obtain ⟨a, vs, e, _⟩ := d; cases e
    | lst xs => obtain ⟨a, vs, e, _⟩ := d; cases e
    | rol xs => obtain ⟨a, vs, e, _⟩ := d; cases e
    | rot xs => obtain ⟨a, vs, e, _⟩ := d; cases e
    | dic ks => obtain ⟨a, vs, e, _⟩ := d; cases e
    | dit ks => obtain ⟨a, vs, e, _⟩ := d; cases e
    | ins c fs => obtain ⟨a, dx, vs, e, _⟩ := d; cases e
    | cls c => exact absurd (show V.bl b = .ref (G c) from d) (by intro z; cases z)
theorem ops_isB : OpS G K (fun x y H Q => ∃ b, y = .bl b ∧ Q (.bl (decide (x = .bl b))) H) isBF := by
  intro A T F σ g x y vx vy z I hx hy e Q k
  unfold isBF at e
  split at e
  · rename_i a b
    cases e
    obtain rfl : vx = .bl a := hx.2
    obtain rfl : vy = .bl b := hy.2
    refine ⟨b, rfl, ?_⟩
    have := k g (.bl (decide (a = b))) I Le.refl ⟨scp, rfl⟩
    simpa using this
  · rename_i w b hno
    cases e
    obtain rfl : vy = .bl b := hy.2
    refine ⟨b, rfl, ?_⟩
    rw [decide_eq_false (not_bl hx (fun a z => hno a (by rw [z])) b)]
    exact k g (.bl false) I Le.refl ⟨scp, rfl⟩
  · cases e
theorem ops_isnB : OpS G K (fun x y H Q => ∃ b, y = .bl b ∧ Q (.bl (!decide (x = .bl b))) H) isnBF := by
  intro A T F σ g x y vx vy z I hx hy e Q k
  unfold isnBF at e
  split at e
  · rename_i a b
    cases e
    obtain rfl : vx = .bl a := hx.2
    obtain rfl : vy = .bl b := hy.2
    refine ⟨b, rfl, ?_⟩
    have := k g (.bl (!decide (a = b))) I Le.refl ⟨scp, rfl⟩
    simpa using this
  · rename_i w b hno
    cases e
    obtain rfl : vy = .bl b := hy.2
    refine ⟨b, rfl, ?_⟩
    rw [decide_eq_false (not_bl hx (fun a z => hno a (by rw [z])) b)]
    exact k g (.bl true) I Le.refl ⟨scp, rfl⟩
  · cases e
end
section
variable {G : String → Addr} {X : Cx} {W : WX} {a b : Expr} {pos : Pos} {ma mb : MO}
theorem je_isB (ha : JO G X W a ma) (hb : JO G X W b mb) : JE G X W (.Compare a [.Is] [b] pos) (cOp isBF ma mb) := je_cmp op_isB ops_isB (nomark _) ha hb
theorem je_isnotB (ha : JO G X W a ma) (hb : JO G X W b mb) : JE G X W (.Compare a [.IsNot] [b] pos) (cOp isnBF ma mb) := je_cmp op_isnB ops_isnB (nomark _) ha hb
theorem jt_isB (ha : JO G X W a ma) (hb : JO G X W b mb) : JT G X W (.Compare a [.Is] [b] pos) (cBool (cOp isBF ma mb)) := jt_cmp op_isB ops_isB (nomark _) ha hb
theorem jt_isnotB (ha : JO G X W a ma) (hb : JO G X W b mb) : JT G X W (.Compare a [.IsNot] [b] pos) (cBool (cOp isnBF ma mb)) := jt_cmp op_isnB ops_isnB (nomark _) ha hb
end
end Sim

set_option Elab.async false
set_option linter.all false
set_option maxRecDepth 100000
set_option maxHeartbeats 4000000
namespace Sim
open PySem L2
variable [EXC]
open PyProof.Rows (envOfC)
/-! ### defs with defaults -/
structure FunV (K : PySem.W.Frag) (x qual : Str) (st : Stmt) (f : Addr) (fd : FuncData) : Prop where
  ex : ∃ (oc : Value) (od : Option Addr) (dV kV doc pm : Value) (an : Option Addr) (cdv ct : Value) (osl : Array (Option Value)),
    fd = PySem.W.fnOf x qual (defArgs st) (defBody st) (defScope st) dV kV doc pm an cdv ct ∧ K.lookup f = some ⟨oc, od, .func fd, osl⟩ ∧ PySem.W.codeIn K cdv qual = true
theorem funV_mk {K : PySem.W.Frag} {x qual : Str} {st : Stmt} {f : Addr} {oc : Value} {od an : Option Addr} {osl : Array (Option Value)} {dV kV doc pm cdv ct : Value} (l : K.lookup f = some ⟨oc, od, .func (PySem.W.fnOf x qual (defArgs st) (defBody st) (defScope st) dV kV doc pm an cdv ct), osl⟩)
    (c : PySem.W.codeIn K cdv qual = true) : FunV K x qual st f (PySem.W.fnOf x qual (defArgs st) (defBody st) (defScope st) dV kV doc pm an cdv ct) := ⟨⟨oc, od, dV, kV, doc, pm, an, cdv, ct, osl, rfl, l, c⟩⟩
def NwV (K : PySem.W.Frag) (mg : Str → Option Value) (G : String → Addr) (c : String) (qual : Str) (st : Stmt) (ps ks : List Str) : Prop := ∃ (f : Addr) (fd : FuncData), Mk K (G c) f ∧ mg (Str.ofString c) = some (.ref (G c)) ∧ FunV K "__init__" qual st f fd ∧ KB K fd ps ks
/-- all parameters are written, and a tuple of defaults stands -/
theorem bind_dflt {K : PySem.W.Frag} {s : Shared} {fd : FuncData} {us : List Value} {kws : List (Str × Value)} {bs : List (Str × Value)} {T : Addr} {o : Obj} {its : Array Value} {n : Nat} {k : Option (Array Value) → Sem (List (Str × Value))} (X : K.In s.heap) (lT : K.lookup T = some o) (oT : o.data = .seq its n)
    (e : bindArgs fd ⟨us, kws⟩ = seqItems? (.ref T) >>= k) (h : k (some its) = pure bs) : BindsTo s fd ⟨us, kws⟩ bs := by
  refine L2.BindsTo.of_looks fun M => ?_
  rw [e]
  exact looks_items X lT oT (.of_pure h)
section
variable {G : String → Addr} {K : PySem.W.Frag} {A : Act} {T T' : Sto} {F F' : Fr} {σ : St} {g g' : Gs} {W : WX} {H H' : Hp} {φ : Nat → Addr} {own own' : Addr → Bool} {S S' : Sto}
/-- from a body to the def -/
theorem fn_simV {P : Program} {w : World} {mg : Str → Option Value} {base : Heap} {x qual : Str} {st : Stmt} {f : Addr} {fd : FuncData} {N ps : List Str} {k : Nat} {mb : MS} (Fu : FunV K x qual st f fd) (Sc : FnScope N ps (defScope st))
    (hb : ∀ (cdv : Value) (A : PySem.Around) (outer : List Env) (s : Shared) (H : Hp) (E : XK), Rm k (A.deeper (envOfC qual (defScope st) s.heap.objs.size f cdv)) → JSs G (cxOf (L2.CX P w) P w K mg base N qual (defScope st) f cdv A outer s H E) (fun cls d _ H => E cls d H) (defBody st) mb) :
    FnG P w K mg base (k + 1) f fd ps (spS G K ps.length (mfOf N.length mb)) := by
  have hpl : ps.length ≤ N.length := by have := congrArg List.length Sc.pre; rw [List.length_take] at this; omega
  obtain ⟨oc, od, dV, kV, doc, pm, an, cdv, ct, osl, rfl, lk, hcd⟩ := Fu.ex
  refine ⟨?_, fun A rm outer s H args us vs Q E e0 bd r h => ?_⟩
  · rintro vs H Q E ⟨own, φ, S, es, en, hl, sc, d, p⟩
    rw [d.length, hl]
  · have lv : vs.length = ps.length := by
      obtain ⟨own, φ, S, es, en, hl, sc, d, p⟩ := h
      rw [d.length, hl]
    have kin : K.In s.heap := fun b o e => (e0.bs b o (e0.mod.kin b o e)).1
    refine Att.call_fn kin (e0.mod.nolimit.keeps fun b o e => (e0.bs b o e).1) lk hcd rm.rm.depth bd ?_ (fun s1 x1 => ?_) Sc.co Sc.gen Sc.kind
    · rw [List.all_eq_true]
      rintro ⟨n, v⟩ hm
      rcases Sc.par n (List.of_mem_zip hm).1 with q | q <;> rw [show (defScope st).names.lookup n = _ from q] <;> rfl
    · obtain ⟨own, φ, S, es, en, hl, sc, d, p⟩ := h
      obtain ⟨t, h1, h2⟩ := (hb cdv A outer s H E (rm.deeper _)).ex
      have I0 := inv_start (CX := L2.CX P w) (P := P) (w := w) (K := K) (mg := mg) (base := base) (E := E) (f := f) (cd := cdv) (qual := qual) Sc rm.rm.hd e0 lv r x1
      have p' : FPost G K own φ H S Q E (rsOut S.length (mb (es.map .e ++ List.replicate (N.length - es.length) .u) S)) := p
      refine wpAny_mono (h1.run [] s1 _ H _ I0 (h2 (actOf own φ H S) S _ _ ⟨own, φ, H⟩ { nx := fun _ H' => Q .non H', rt := Q } (Iv.enter en sc d (by rw [hl]; exact hpl)) (fpost_out en rfl rfl p'))) (fun fl s' hs => ?_) fun e s' hs => hs
      cases fl with
      | ret u =>
        obtain ⟨v, σ', H', J, rv, q⟩ := hs
        exact ⟨v, H', J.os, J.bare, J.base, J.hok, rv, q⟩
      | next =>
        obtain ⟨σ', H', J, q⟩ := hs
        exact ⟨.non, H', J.os, J.bare, J.base, J.hok, rfl, q⟩
      | brk =>
        obtain ⟨_, _, _, q⟩ := hs
        exact q.elim
      | cont =>
        obtain ⟨_, _, _, q⟩ := hs
        exact q.elim
end
end Sim

set_option Elab.async false
set_option linter.all false
set_option maxRecDepth 100000
set_option maxHeartbeats 4000000
namespace Law
open PySem L2 Sim
open PyProof.Rows (envOfC)
noncomputable section
def btNo : BTab := fun _ => none
/-! ### the mirrors -/
def b__law_bag_1 : MO := (cFz (cCall (f1 intF) (cCons (cVar 2) cNil)))
def b__law_bag_2 : MS := (sAsg 3 (cFz (cOp modF (cFz (cCall (f1 intF) (cCons (cFz (cOp addF (cFz (cOp addF (cFz (cOp mulF (cVar 3) (cD (.int 31)))) (cFz (cOp modF (cFz (cCall (f1 intF) (cCons (cFz (cCall (f1 absF) (cCons (cVar 2) cNil))) cNil))) (cD (.int 1000000007)))))) (cFz (cOp mulF (cFz (cOp addF (cVar 4) (cD (.int 1)))) (cFz (cOp (orF (orF ltI ltS) ltP) (cVar 2) (cD (.int 0)))))))) cNil))) (cD (.int 1000000007)))))
def s__law_bag_1 : MS := (sAsg 1 (cFz (cLc (cIt (cVar 0)) (gN 2) tT b__law_bag_1 [2])))
def s__law_bag_2 : MS := (sAsg 3 (cFz (cCall (f1 lenF) (cCons (cVar 1) cNil))))
def s__law_bag_3 : MS := (sFor (cEnumA (cCons (cFz (cSl (cVar 1) pNo (pSm (cD (.int 63))))) cNil)) (gT (gC (gN 4) (gC (gN 2) gN0))) b__law_bag_2)
def s__law_bag_4 : MS := (sRet (cLst (cCons (cVar 1) (cCons (cD (.int 0)) (cCons (cD (.int 0)) (cCons (cD (.int 0)) (cCons (cVar 3) cNil)))))))
def m__law_bag : MS := (sSeq s__law_bag_1 (sSeq s__law_bag_2 (sSeq s__law_bag_3 s__law_bag_4)))
def f__law_bag : MFn := mfOf 5 m__law_bag
def s__law_mixed_1 : MS := (sAsg 2 (cFz (cOp modF (cFz (cCall (f1 intF) (cCons (cFz (cOp addF (cFz (cOp mulF (cFz (cOp addF (cVar 0) (cD (.int 1)))) (cD (.int 48271)))) (cFz (cOp mulF (cFz (cOp addF (cVar 1) (cD (.int 1)))) (cD (.int 1103515245)))))) cNil))) (cD (.int 2147483647)))))
def s__law_mixed_2 : MS := (sAsg 3 (cFz (cOp modF (cFz (cCall (f1 intF) (cCons (cFz (cOp addF (cFz (cOp addF (cFz (cOp mulF (cVar 2) (cVar 2))) (cFz (cOp mulF (cVar 2) (cD (.int 69621)))))) (cFz (cOp mulF (cFz (cOp addF (cVar 1) (cD (.int 3)))) (cD (.int 40692)))))) cNil))) (cD (.int 2147483629)))))
def s__law_mixed_3 : MS := (sRet (cOp modF (cFz (cCall (f1 intF) (cCons (cFz (cOp addF (cFz (cOp addF (cFz (cOp fdivF (cVar 3) (cD (.int 11)))) (cFz (cOp mulF (cVar 3) (cD (.int 16807)))))) (cVar 1))) cNil))) (cD (.int 2147483587))))
def m__law_mixed : MS := (sSeq s__law_mixed_1 (sSeq s__law_mixed_2 s__law_mixed_3))
def f__law_mixed : MFn := mfOf 4 m__law_mixed
def s__law_pick_1 : MS := (sAsg 2 (cFz (cOp (orF ixF dgF) (cVar 0) (cD (.int 3)))))
def s__law_pick_2 : MS := (cSet (orS setL setD) (cFz (cOp addF (cVar 2) (cD (.int 1)))) (cVar 0) (cD (.int 3)))
def s__law_pick_3 : MS := (sIf (cAnd (cBool (cOp (orF eqF (dicF true)) (cFz (cOp (orF ixF dgF) (cVar 0) (cD (.int 2)))) (cD (.int 0)))) (cBool (cOp (orF (orF ltI ltS) ltP) (cFz (cOp (orF ixF dgF) (cVar 0) (cD (.int 1)))) (cFz (cCall (f1 lenF) (cCons (cFz (cOp (orF ixF dgF) (cVar 0) (cD (.int 0)))) cNil)))))) (sSeq (sAsg 3 (cFz (cOp (orF ixF dgF) (cFz (cOp (orF ixF dgF) (cVar 0) (cD (.int 0)))) (cFz (cOp (orF ixF dgF) (cVar 0) (cD (.int 1)))))))
  (sSeq (cSet (orS setL setD) (cFz (cOp addF (cFz (cOp (orF ixF dgF) (cVar 0) (cD (.int 1)))) (cD (.int 1)))) (cVar 0) (cD (.int 1)))
  (sSeq (sIf (cBool (cOp (orF (orF ltI ltS) ltP) (cFz (cCall (f1 absF) (cCons (cVar 3) cNil))) (cFz (cOp powF (cD (.int 10)) (cD (.int 18)))))) (sRet (cOp modF (cFz (cCall (f1 intF) (cCons (cFz (cFn 2 f__law_mixed (cCons (cFz (cOp addF (cFz (cOp mulF (cD (.int 2)) (cFz (cCall (f1 absF) (cCons (cVar 3) cNil))))) (cFz (cOp (orF (orF ltI ltS) ltP) (cVar 3) (cD (.int 0)))))) (cCons (cVar 2) cNil)))) cNil))) (cVar 1))) sNx)
  (cSet (orS setL setD) (cFz (cCall (f1 absF) (cCons (cVar 3) cNil))) (cVar 0) (cD (.int 2)))))) sNx)
def s__law_pick_4 : MS := (sIf (cBool (cOp (orF eqF (dicF true)) (cFz (cOp (orF ixF dgF) (cVar 0) (cD (.int 2)))) (cD (.int 0)))) (sRet (cOp modF (cFz (cCall (f1 intF) (cCons (cFz (cFn 2 f__law_mixed (cCons (cFz (cOp (orF ixF dgF) (cVar 0) (cD (.int 4)))) (cCons (cVar 2) cNil)))) cNil))) (cVar 1))) sNx)
def s__law_pick_5 : MS := (sAsg 4 (cFz (cOp modF (cFz (cCall (f1 intF) (cCons (cFz (cOp (orF ixF dgF) (cVar 0) (cD (.int 2)))) cNil))) (cVar 1))))
def s__law_pick_6 : MS := (cSet (orS setL setD) (cFz (cOp fdivF (cFz (cOp (orF ixF dgF) (cVar 0) (cD (.int 2)))) (cVar 1))) (cVar 0) (cD (.int 2)))
def s__law_pick_7 : MS := (sRet (cUp (cVar 4)))
def m__law_pick : MS := (sSeq s__law_pick_1 (sSeq s__law_pick_2 (sSeq s__law_pick_3 (sSeq s__law_pick_4 (sSeq s__law_pick_5 (sSeq s__law_pick_6 s__law_pick_7))))))
def f__law_pick : MFn := mfOf 5 m__law_pick
def b__law_numbers_1 : MS := (sSeq (sAsg 2 (cFz (cOp addF (cFz (cOp addF (cVar 2) (cD (.int 1)))) (cFz (cFn 2 f__law_pick (cCons (cVar 0) (cCons (cVar 3) cNil)))))))
  (sDrop (cMw mwApp (cVar 4) (cCons (cVar 2) cNil))))
def s__law_numbers_1 : MS := (sAsg 2 (cFz (cOp (orF ixF dgF) (cFz (cLst (cCons (cD (.int 0)) (cCons (cD (.int 0)) (cCons (cD (.int 0)) (cCons (cD (.int 7)) (cCons (cD (.int 95)) (cCons (cD (.int 600)) cNil)))))))) (cFz (cFn 2 f__law_pick (cCons (cVar 0) (cCons (cD (.int 6)) cNil)))))))
def s__law_numbers_2 : MS := (sAsg 3 (cFz (cOp (orF ixF dgF) (cFz (cLst (cCons (cD (.int 1)) (cCons (cD (.int 1)) (cCons (cD (.int 2)) (cCons (cD (.int 4)) cNil)))))) (cFz (cFn 2 f__law_pick (cCons (cVar 0) (cCons (cD (.int 4)) cNil)))))))
def s__law_numbers_3 : MS := (sAsgO 4 (cLst cNil))
def s__law_numbers_4 : MS := (sFor (cR1 (cCons (cVar 1) cNil)) (gN 5) b__law_numbers_1)
def s__law_numbers_5 : MS := (sRet (cUp (cVar 4)))
def m__law_numbers : MS := (sSeq s__law_numbers_1 (sSeq s__law_numbers_2 (sSeq s__law_numbers_3 (sSeq s__law_numbers_4 s__law_numbers_5))))
def f__law_numbers : MFn := mfOf 6 m__law_numbers
def s__law_choice_1 : MS := (sRet (cOp (orF ixF dgF) (cVar 1) (cFz (cFn 2 f__law_pick (cCons (cVar 0) (cCons (cFz (cCall (f1 lenF) (cCons (cVar 1) cNil))) cNil))))))
def m__law_choice : MS := s__law_choice_1
def f__law_choice : MFn := mfOf 2 m__law_choice
def b__law_rows_1 : MS := (sSeq (sAsg 7 (cFz (cFn 2 f__law_pick (cCons (cVar 0) (cCons (cD (.int 6)) cNil)))))
  (sIf (cAnd (cTru (cVar 3)) (cAnd (cBool (cOp (orF (orF gtI gtS) gtP) (cVar 5) (cD (.int 0)))) (cBool (cOp (orF (orF ltI ltS) ltP) (cVar 7) (cD (.int 5)))))) (sDrop (cMw mwApp (cVar 4) (cCons (cTup (cCons (cVar 6) (cCons (cD (.str "void")) (cCons (cFz (cOp (orF ixF dgF) (cVar 1) (cFz (cOp subF (cVar 5) (cD (.int 1)))))) cNil)))) cNil))) (sIf (cAnd (cBool (cOp (orF (orF ltI ltS) ltP) (cVar 7) (cD (.int 2)))) (cBool (cOp (orF (orF gtI gtS) gtP) (cVar 5) (cD (.int 0))))) (sDrop (cMw mwApp (cVar 4) (cCons (cTup (cCons (cVar 6) (cCons (cD (.str "void")) (cCons (cFz (cOp (orF ixF dgF) (cVar 1) (cFz (cFn 2 f__law_pick (cCons (cVar 0) (cCons (cVar 5) cNil)))))) cNil)))) cNil))) (sIf (cAnd (cBool (cOp (orF eqF (dicF true)) (cVar 7) (cD (.int 2)))) (cBool (cOp (orF (orF gtI gtS) gtP) (cVar 6) (cD (.int 1))))) (sDrop (cMw mwApp (cVar 4) (cCons (cTup (cCons (cVar 6) (cCons (cD (.str "void")) (cCons (cFz (cOp addF (cD (.int 1)) (cFz (cFn 2 f__law_pick (cCons (cVar 0) (cCons (cFz (cOp subF (cVar 6) (cD (.int 1)))) cNil)))))) cNil)))) cNil))) (sIf (cBool (cOp (orF (orF ltI ltS) ltP) (cVar 7) (cD (.int 4)))) (sDrop (cMw mwApp (cVar 4) (cCons (cTup (cCons (cVar 6) (cCons (cD (.str "rule")) (cCons (cFz (cFn 2 f__law_pick (cCons (cVar 0) (cCons (cD (.int 60)) cNil)))) (cCons (cFz (cFn 2 f__law_choice (cCons (cVar 0) (cCons (cVar 2) cNil)))) cNil))))) cNil))) (sDrop (cMw mwApp (cVar 4) (cCons (cTup (cCons (cVar 6) (cCons (cD (.str "sign")) (cCons (cFz (cFn 2 f__law_pick (cCons (cVar 0) (cCons (cD (.int 60)) cNil)))) (cCons (cFz (cFn 2 f__law_choice (cCons (cVar 0) (cCons (cVar 2) cNil)))) cNil))))) cNil))))))))
def s__law_rows_1 : MS := (sAsg 3 (cFz (cOp (orF eqF (dicF true)) (cFz (cFn 2 f__law_pick (cCons (cVar 0) (cCons (cD (.int 4)) cNil)))) (cD (.int 0)))))
def s__law_rows_2 : MS := (sAsgO 4 (cLst cNil))
def s__law_rows_3 : MS := (sFor (cEnumA (cCons (cVar 1) cNil)) (gT (gC (gN 5) (gC (gN 6) gN0))) b__law_rows_1)
def s__law_rows_4 : MS := (sRet (cUp (cVar 4)))
def m__law_rows : MS := (sSeq s__law_rows_1 (sSeq s__law_rows_2 (sSeq s__law_rows_3 s__law_rows_4)))
def f__law_rows : MFn := mfOf 8 m__law_rows
def b__law_mingled_1 : MS := (sDrop (cMw mwApp (cVar 3) (cCons (cFz (cMw mwPopAt (cVar 2) (cCons (cFz (cFn 2 f__law_pick (cCons (cVar 0) (cCons (cFz (cCall (f1 lenF) (cCons (cVar 2) cNil))) cNil)))) cNil))) cNil)))
def s__law_mingled_1 : MS := (sAsgO 2 (cCall (f1 listF) (cCons (cVar 1) cNil)))
def s__law_mingled_2 : MS := (sAsgO 3 (cLst cNil))
def s__law_mingled_3 : MS := (sFor (cR1 (cCons (cFz (cCall (f1 lenF) (cCons (cVar 1) cNil))) cNil)) (gN 4) b__law_mingled_1)
def s__law_mingled_4 : MS := (sRet (cUp (cVar 3)))
def m__law_mingled : MS := (sSeq s__law_mingled_1 (sSeq s__law_mingled_2 (sSeq s__law_mingled_3 s__law_mingled_4)))
def f__law_mingled : MFn := mfOf 5 m__law_mingled
def b_merged_1 : MT := (cAnd (cBool (cOp (orF (orF ltI ltS) ltP) (cVar 3) (cFz (cCall (f1 lenF) (cCons (cVar 0) cNil))))) (cBool (cOp (orF (orF ltI ltS) ltP) (cVar 4) (cFz (cCall (f1 lenF) (cCons (cVar 1) cNil))))))
def b_merged_2 : MS := (sIf (cBool (cOp (orF (orF ltI ltS) ltP) (cFz (cOp (orF ixF dgF) (cVar 1) (cVar 4))) (cFz (cOp (orF ixF dgF) (cVar 0) (cVar 3))))) (sSeq (sDrop (cMw mwApp (cVar 2) (cCons (cFz (cOp (orF ixF dgF) (cVar 1) (cVar 4))) cNil)))
  (sAsg 4 (cFz (cOp addF (cVar 4) (cD (.int 1)))))) (sSeq (sDrop (cMw mwApp (cVar 2) (cCons (cFz (cOp (orF ixF dgF) (cVar 0) (cVar 3))) cNil)))
  (sAsg 3 (cFz (cOp addF (cVar 3) (cD (.int 1)))))))
def s_merged_1 : MS := (sAsgO 2 (cLst cNil))
def s_merged_2 : MS := (sAsg 3 (cD (.int 0)))
def s_merged_3 : MS := (sAsg 4 (cD (.int 0)))
def s_merged_4 : MS := (sWhile b_merged_1 b_merged_2)
def s_merged_5 : MS := (sRet (cOp addF (cFz (cOp addF (cVar 2) (cFz (cSl (cVar 0) (pSm (cVar 3)) pNo)))) (cFz (cSl (cVar 1) (pSm (cVar 4)) pNo))))
def m_merged : MS := (sSeq s_merged_1 (sSeq s_merged_2 (sSeq s_merged_3 (sSeq s_merged_4 s_merged_5))))
def f_merged : MFn := mfOf 5 m_merged
def b_ascending_1 : MO := (cFz (cLst (cCons (cVar 2) cNil)))
def b_ascending_2 : MS := (sDrop (cMw mwApp (cVar 3) (cCons (cFz (cFn 2 f_merged (cCons (cFz (cOp (orF ixF dgF) (cVar 1) (cVar 4))) (cCons (cFz (cOp (orF ixF dgF) (cVar 1) (cFz (cOp addF (cVar 4) (cD (.int 1)))))) cNil)))) cNil)))
def b_ascending_3 : MT := (cBool (cOp (orF (orF gtI gtS) gtP) (cFz (cCall (f1 lenF) (cCons (cVar 1) cNil))) (cD (.int 1))))
def b_ascending_4 : MS := (sSeq (sAsgO 3 (cLst cNil))
  (sSeq (sFor (cR3 (cCons (cD (.int 0)) (cCons (cFz (cOp subF (cFz (cCall (f1 lenF) (cCons (cVar 1) cNil))) (cD (.int 1)))) (cCons (cD (.int 2)) cNil)))) (gN 4) b_ascending_2)
  (sSeq (sIf (cBool (cOp (orF eqF (dicF true)) (cFz (cOp andF (cFz (cCall (f1 lenF) (cCons (cVar 1) cNil))) (cD (.int 1)))) (cD (.int 1)))) (sDrop (cMw mwApp (cVar 3) (cCons (cFz (cOp (orF ixF dgF) (cVar 1) (cNeg (cD (.int 1))))) cNil))) sNx)
  (sFz 3 (sAsg 1 (cVar 3))))))
def s_ascending_1 : MS := (sAsg 1 (cFz (cLc (cIt (cVar 0)) (gN 2) tT b_ascending_1 [2])))
def s_ascending_2 : MS := (sWhile b_ascending_3 b_ascending_4)
def s_ascending_3 : MS := (sIf (cNot (cTru (cVar 1))) (sRet (cLst cNil)) sNx)
def s_ascending_4 : MS := (sRet (cOp (orF ixF dgF) (cVar 1) (cD (.int 0))))
def m_ascending : MS := (sSeq s_ascending_1 (sSeq s_ascending_2 (sSeq s_ascending_3 s_ascending_4)))
def f_ascending : MFn := mfOf 5 m_ascending
def b_numbered_1 : MS := (sSeq (sAsg 4 (cFz (cOp (orF ixF dgF) (cVar 3) (cD (.int 0)))))
  (sSeq (sIf (cAnd (cBool (cOp inF (cVar 4) (cVar 1))) (cBool (cOp (orF neF (dicF false)) (cFz (cOp (orF ixF dgF) (cVar 1) (cVar 4))) (cVar 3)))) (sDrop (cMw mwApp (cVar 2) (cCons (cVar 4) cNil))) sNx)
  (cSet (orS setL setD) (cVar 3) (cVar 1) (cVar 4))))
def b_numbered_2 : MS := (cSet (orS setL setD) (cFz (cOp (orF ixF dgF) (cVar 1) (cVar 4))) (cVar 5) (cVar 4))
def s_numbered_1 : MS := (sAsgO 1 (cNewD (.dic [])))
def s_numbered_2 : MS := (sAsgL 2 (cLst cNil))
def s_numbered_3 : MS := (sForA (cVar 0) (gN 3) b_numbered_1)
def s_numbered_4 : MS := (sIf (cTru (cVar 2)) (cRaise "Clash" ["number"] (cCons (cFz (cOp (orF ixF dgF) (cFz (cFn 1 f_ascending (cCons (cVar 2) cNil))) (cD (.int 0)))) cNil)) sNx)
def s_numbered_5 : MS := (sAsgO 5 (cNewD (.dic [])))
def s_numbered_6 : MS := (sForA (cFz (cFn 1 f_ascending (cCons (cFz (cCall (f1 listF) (cCons (cVar 1) cNil))) cNil))) (gN 4) b_numbered_2)
def s_numbered_7 : MS := (sRet (cUp (cVar 5)))
def m_numbered : MS := (sSeq s_numbered_1 (sSeq s_numbered_2 (sSeq s_numbered_3 (sSeq s_numbered_4 (sSeq s_numbered_5 (sSeq s_numbered_6 s_numbered_7))))))
def f_numbered : MFn := mfOf 6 m_numbered
def s_is_number_1 : MS := (sRet (cUp (cAndV (cIsi (isB "int" noOwn) (cVar 0)) (cAndV (cNotV (cIsi (isB "bool" noOwn) (cVar 0))) (cChn leI leI (cVar 1) (cVar 0) (cVar 2))))))
def m_is_number : MS := s_is_number_1
def f_is_number : MFn := mfOf 3 m_is_number
def b_is_name_1 : MS := (sIf (cBool (cOp niF (cVar 1) (cD (.str "abcdefghijklmnopqrstuvwxyz")))) (sRet (cUp (cD (.bl false)))) sNx)
def s_is_name_1 : MS := (sIf (cOr (cNot (cTru (cIsi (isB "str" noOwn) (cVar 0)))) (cNot (cBool (cUp (cChn leI leI (cD (.int 1)) (cFz (cCall (f1 lenF) (cCons (cVar 0) cNil))) (cD (.int 8))))))) (sRet (cUp (cD (.bl false)))) sNx)
def s_is_name_2 : MS := (sForA (cVar 0) (gN 1) b_is_name_1)
def s_is_name_3 : MS := (sRet (cUp (cD (.bl true))))
def m_is_name : MS := (sSeq s_is_name_1 (sSeq s_is_name_2 s_is_name_3))
def f_is_name : MFn := mfOf 2 m_is_name
def s_is_entry_1 : MS := (sIf (cOr (cNot (cTru (cIsi (isB "tuple" noOwn) (cVar 0)))) (cNot (cBool (cUp (cChn leI leI (cD (.int 3)) (cFz (cCall (f1 lenF) (cCons (cVar 0) cNil))) (cD (.int 4))))))) (sRet (cUp (cD (.bl false)))) sNx)
def s_is_entry_2 : MS := (sIf (cOr (cNot (cTru (cFz (cFn 3 f_is_number (cCons (cFz (cOp (orF ixF dgF) (cVar 0) (cD (.int 0)))) (cCons (cD (.int 1)) (cCons (cD (.int 999)) cNil))))))) (cNot (cTru (cIsi (isB "str" noOwn) (cFz (cOp (orF ixF dgF) (cVar 0) (cD (.int 1)))))))) (sRet (cUp (cD (.bl false)))) sNx)
def s_is_entry_3 : MS := (sIf (cBool (cOp (orF eqF (dicF true)) (cFz (cOp (orF ixF dgF) (cVar 0) (cD (.int 1)))) (cD (.str "void")))) (sRet (cUp (cAndV (cFz (cOp (orF eqF (dicF true)) (cFz (cCall (f1 lenF) (cCons (cVar 0) cNil))) (cD (.int 3)))) (cFz (cFn 3 f_is_number (cCons (cFz (cOp (orF ixF dgF) (cVar 0) (cD (.int 2)))) (cCons (cD (.int 1)) (cCons (cFz (cOp subF (cFz (cOp (orF ixF dgF) (cVar 0) (cD (.int 0)))) (cD (.int 1)))) cNil)))))))) sNx)
def s_is_entry_4 : MS := (sIf (cAnd (cBool (cOp (orF neF (dicF false)) (cFz (cOp (orF ixF dgF) (cVar 0) (cD (.int 1)))) (cD (.str "sign")))) (cBool (cOp (orF neF (dicF false)) (cFz (cOp (orF ixF dgF) (cVar 0) (cD (.int 1)))) (cD (.str "rule"))))) (sRet (cUp (cD (.bl false)))) sNx)
def s_is_entry_5 : MS := (sRet (cUp (cAndV (cFz (cOp (orF eqF (dicF true)) (cFz (cCall (f1 lenF) (cCons (cVar 0) cNil))) (cD (.int 4)))) (cAndV (cFz (cFn 3 f_is_number (cCons (cFz (cOp (orF ixF dgF) (cVar 0) (cD (.int 2)))) (cCons (cD (.int 0)) (cCons (cD (.int 59)) cNil))))) (cFz (cFn 1 f_is_name (cCons (cFz (cOp (orF ixF dgF) (cVar 0) (cD (.int 3)))) cNil)))))))
def m_is_entry : MS := (sSeq s_is_entry_1 (sSeq s_is_entry_2 (sSeq s_is_entry_3 (sSeq s_is_entry_4 s_is_entry_5))))
def f_is_entry : MFn := mfOf 1 m_is_entry
def b_Sheet____init___1 : MS := (sIf (cNot (cTru (cFz (cFn 1 f_is_entry (cCons (cVar 2) cNil))))) (cRaise "BadEntry" ["entry"] (cCons (cVar 2) cNil)) sNx)
def s_Sheet____init___1 : MS := (sForA (cVar 1) (gN 2) b_Sheet____init___1)
def s_Sheet____init___2 : MS := (cSetF ["Sheet"] "by_number" (cFz (cFn 1 f_numbered (cCons (cFz (cCall (f1 listF) (cCons (cVar 1) cNil))) cNil))) (cVar 0))
def m_Sheet____init__ : MS := (sSeq s_Sheet____init___1 s_Sheet____init___2)
def f_Sheet____init__ : MFn := mfOf 3 m_Sheet____init__
def b__law_sorted_1 : MT := (cAnd (cBool (cOp (orF (orF ltI ltS) ltP) (cVar 3) (cFz (cCall (f1 lenF) (cCons (cVar 1) cNil))))) (cBool (cOp (orF (orF leI leS) leP) (cFz (cOp (orF ixF dgF) (cVar 1) (cVar 3))) (cVar 2))))
def b__law_sorted_2 : MS := (sAug iaddF 3 (cD (.int 1)))
def b__law_sorted_3 : MS := (sSeq (sAsg 3 (cD (.int 0)))
  (sSeq (sWhile b__law_sorted_1 b__law_sorted_2)
  (sDrop (cMw mwIns (cVar 1) (cCons (cVar 3) (cCons (cVar 2) cNil))))))
def s__law_sorted_1 : MS := (sAsgO 1 (cLst cNil))
def s__law_sorted_2 : MS := (sForA (cVar 0) (gN 2) b__law_sorted_3)
def s__law_sorted_3 : MS := (sRet (cUp (cVar 1)))
def m__law_sorted : MS := (sSeq s__law_sorted_1 (sSeq s__law_sorted_2 s__law_sorted_3))
def f__law_sorted : MFn := mfOf 4 m__law_sorted
def b__law_stood_1 : MS := (sIf (cBool (cOp niF (cFz (cOp (orF ixF dgF) (cVar 3) (cD (.int 0)))) (cVar 1))) (sSeq (sDrop (cMw mwApp (cVar 2) (cCons (cFz (cOp (orF ixF dgF) (cVar 3) (cD (.int 0)))) cNil)))
  (sIf (cBool (cOp (orF eqF (dicF true)) (cFz (cOp (orF ixF dgF) (cVar 3) (cD (.int 1)))) (cD (.str "void")))) (sDrop (cMw mwApp (cVar 1) (cCons (cFz (cOp (orF ixF dgF) (cVar 3) (cD (.int 2)))) cNil))) sNx)) sNx)
def s__law_stood_1 : MS := (sAsgO 1 (cLst cNil))
def s__law_stood_2 : MS := (sAsgO 2 (cLst cNil))
def s__law_stood_3 : MS := (sForA (cFz (cRevL (cFz (cFn 1 f__law_sorted (cCons (cVar 0) cNil))))) (gN 3) b__law_stood_1)
def s__law_stood_4 : MS := (sRet (cUp (cVar 2)))
def m__law_stood : MS := (sSeq s__law_stood_1 (sSeq s__law_stood_2 (sSeq s__law_stood_3 s__law_stood_4)))
def f__law_stood : MFn := mfOf 4 m__law_stood
def b__law_new_name_1 : MO := (cFz (cOp (orF ixF dgF) (cVar 2) (cFz (cFn 2 f__law_pick (cCons (cVar 0) (cCons (cD (.int 26)) cNil))))))
def b__law_new_name_2 : MO := (cFz (cOp addF (cFz (cOp (orF ixF dgF) (cVar 2) (cFz (cOp fdivF (cVar 8) (cD (.int 26)))))) (cFz (cOp (orF ixF dgF) (cVar 2) (cFz (cOp modF (cFz (cCall (f1 intF) (cCons (cVar 8) cNil))) (cD (.int 26))))))))
def b__law_new_name_3 : MT := (cBool (cOp niF (cFz (cOp addF (cFz (cSl (cVar 3) pNo (pSm (cD (.int 6))))) (cVar 9))) (cVar 1)))
def b__law_new_name_4 : MO := (cFz (cOp addF (cFz (cSl (cVar 3) pNo (pSm (cD (.int 6))))) (cVar 9)))
def s__law_new_name_1 : MS := (sAsg 2 (cD (.str "abcdefghijklmnopqrstuvwxyz")))
def s__law_new_name_2 : MS := (sAsg 3 (cFz (cM1 joinF (cD (.str "")) (cFz (cLc (cR1 (cCons (cFz (cOp addF (cD (.int 1)) (cFz (cFn 2 f__law_pick (cCons (cVar 0) (cCons (cD (.int 6)) cNil)))))) cNil)) (gN 4) tT b__law_new_name_1 [4])))))
def s__law_new_name_3 : MS := (sIf (cAnd (cTru (cVar 1)) (cBool (cOp (orF eqF (dicF true)) (cFz (cFn 2 f__law_pick (cCons (cVar 0) (cCons (cD (.int 3)) cNil)))) (cD (.int 0))))) (sSeq (sAsg 5 (cFz (cSl (cFz (cOp (orF ixF dgF) (cVar 1) (cFz (cFn 2 f__law_pick (cCons (cVar 0) (cCons (cFz (cCall (f1 lenF) (cCons (cVar 1) cNil))) cNil)))))) pNo (pSm (cD (.int 6))))))
  (sSeq (sAsg 6 (cFz (cFn 2 f__law_pick (cCons (cVar 0) (cCons (cFz (cCall (f1 lenF) (cCons (cVar 5) cNil))) cNil)))))
  (sAsg 3 (cFz (cOp addF (cFz (cOp addF (cFz (cSl (cVar 5) pNo (pSm (cVar 6)))) (cFz (cOp (orF ixF dgF) (cVar 2) (cFz (cFn 2 f__law_pick (cCons (cVar 0) (cCons (cD (.int 26)) cNil)))))))) (cFz (cSl (cVar 5) (pSm (cFz (cOp addF (cVar 6) (cD (.int 1))))) pNo))))))) sNx)
def s__law_new_name_4 : MS := (sIf (cBool (cOp inF (cVar 3) (cVar 1))) (sSeq (sAsg 7 (cFz (cLc (cR1 (cCons (cD (.int 676)) cNil)) (gN 8) tT b__law_new_name_2 [8])))
  (sAsg 3 (cFz (cOp (orF ixF dgF) (cFz (cLc (cIt (cVar 7)) (gN 9) b__law_new_name_3 b__law_new_name_4 [9])) (cD (.int 0)))))) sNx)
def s__law_new_name_5 : MS := (sDrop (cMw mwApp (cVar 1) (cCons (cVar 3) cNil)))
def s__law_new_name_6 : MS := (sRet (cUp (cVar 3)))
def m__law_new_name : MS := (sSeq s__law_new_name_1 (sSeq s__law_new_name_2 (sSeq s__law_new_name_3 (sSeq s__law_new_name_4 (sSeq s__law_new_name_5 s__law_new_name_6)))))
def f__law_new_name : MFn := mfOf 10 m__law_new_name
def s_Sheet____ior___1 : MS := (cSetF ["Sheet"] "by_number" (cFz (cFn 1 f_numbered (cCons (cFz (cOp addF (cFz (cListV (cFz (cFld ["Sheet"] "by_number" (cVar 0))))) (cFz (cListV (cFz (cFld ["Sheet"] "by_number" (cVar 1))))))) cNil))) (cVar 0))
def s_Sheet____ior___2 : MS := (sRet (cUp (cVar 0)))
def m_Sheet____ior__ : MS := (sSeq s_Sheet____ior___1 s_Sheet____ior___2)
def f_Sheet____ior__ : MFn := mfOf 2 m_Sheet____ior__
def b__law_asked_1 : MT := (cBool (cOp (orF (orF gtI gtS) gtP) (cVar 2) (cD (.int 1))))
def b__law_asked_2 : MO := (cFz (cOp subF (cVar 2) (cD (.int 1))))
def b__law_asked_3 : MO := (cFz (cOp addF (cVar 2) (cD (.int 1))))
def s__law_asked_1 : MS := (sAsg 1 (cFz (cOp addF (cFz (cCall (f1 listF) (cCons (cVar 0) cNil))) (cFz (cLst (cCons (cD (.int 1)) (cCons (cD (.int 999)) cNil)))))))
def s__law_asked_2 : MS := (sIf (cBool (cOp (orF (orF ltI ltS) ltP) (cFz (cCall (f1 lenF) (cCons (cVar 0) cNil))) (cD (.int 10)))) (sAsg 1 (cFz (cOp addF (cFz (cOp addF (cVar 1) (cFz (cLc (cIt (cVar 0)) (gN 2) b__law_asked_1 b__law_asked_2 [2])))) (cFz (cLc (cIt (cVar 0)) (gN 2) tT b__law_asked_3 [2]))))) sNx)
def s__law_asked_3 : MS := (sRet (cUp (cVar 1)))
def m__law_asked : MS := (sSeq s__law_asked_1 (sSeq s__law_asked_2 s__law_asked_3))
def f__law_asked : MFn := mfOf 3 m__law_asked
def b_Sheet__standing_numbers_1 : MS := (sIf (cBool (cOp niF (cVar 3) (cVar 1))) (sSeq (cSet (orS setL setD) (cD (.bl true)) (cVar 2) (cVar 3))
  (sIf (cBool (cOp (orF eqF (dicF true)) (cFz (cOp (orF ixF dgF) (cFz (cOp (orF ixF dgF) (cFz (cFld ["Sheet"] "by_number" (cVar 0))) (cVar 3))) (cD (.int 1)))) (cD (.str "void")))) (cSet (orS setL setD) (cD (.bl true)) (cVar 1) (cFz (cOp (orF ixF dgF) (cFz (cOp (orF ixF dgF) (cFz (cFld ["Sheet"] "by_number" (cVar 0))) (cVar 3))) (cD (.int 2))))) sNx)) sNx)
def s_Sheet__standing_numbers_1 : MS := (sAsgO 1 (cNewD (.dic [])))
def s_Sheet__standing_numbers_2 : MS := (sAsgO 2 (cNewD (.dic [])))
def s_Sheet__standing_numbers_3 : MS := (sFor (cRev (cCons (cFz (cCall (f1 listF) (cCons (cFz (cFld ["Sheet"] "by_number" (cVar 0))) cNil))) cNil)) (gN 3) b_Sheet__standing_numbers_1)
def s_Sheet__standing_numbers_4 : MS := (sRet (cUp (cVar 2)))
def m_Sheet__standing_numbers : MS := (sSeq s_Sheet__standing_numbers_1 (sSeq s_Sheet__standing_numbers_2 (sSeq s_Sheet__standing_numbers_3 s_Sheet__standing_numbers_4)))
def f_Sheet__standing_numbers : MFn := mfOf 4 m_Sheet__standing_numbers
def mt_standing_numbers : MTab := fun c => if c = "Sheet" then some (1, f_Sheet__standing_numbers) else none
def s_Sheet__stands_1 : MS := (sIf (cOr (cNot (cTru (cFz (cFn 3 f_is_number (cCons (cVar 1) (cCons (cD (.int 1)) (cCons (cD (.int 999)) cNil))))))) (cBool (cOp niF (cVar 1) (cFz (cFld ["Sheet"] "by_number" (cVar 0)))))) (cRaise "NoEntry" ["number"] (cCons (cVar 1) cNil)) sNx)
def s_Sheet__stands_2 : MS := (sRet (cOp inF (cVar 1) (cFz (cMet mt_standing_numbers "standing_numbers" (cVar 0) cNil))))
def m_Sheet__stands : MS := (sSeq s_Sheet__stands_1 s_Sheet__stands_2)
def f_Sheet__stands : MFn := mfOf 2 m_Sheet__stands
def s__law_number_1 : MS := (sRet (cUp (cAndV (cIsi (isB "int" noOwn) (cVar 0)) (cNotV (cIsi (isB "bool" noOwn) (cVar 0))))))
def m__law_number : MS := s__law_number_1
def f__law_number : MFn := mfOf 1 m__law_number
def mt_stands : MTab := fun c => if c = "Sheet" then some (2, f_Sheet__stands) else none
def s__law_told_1 : MS := (sTry (sAsg 2 (cFz (cMet mt_stands "stands" (cVar 0) (cCons (cVar 1) cNil)))) [(tabL [("Clash", true), ("BadEntry", true), ("NoEntry", true)], some 3, (sSeq (sAsg 4 (cFz (cLst (cCons (cIsX (tabL [("Clash", false), ("BadEntry", true), ("NoEntry", false)]) 3) (cCons (cIsX (tabL [("Clash", false), ("BadEntry", false), ("NoEntry", false)]) 3) (cCons (cIsX (tabL [("Clash", true), ("BadEntry", false), ("NoEntry", false)]) 3) cNil))))))
  (sSeq (sIf (cOr (cBool (cOp inF (cD (.bl true)) (cVar 4))) (cOr (cNot (cTru (cIsX (tabL [("Clash", true), ("BadEntry", true), ("NoEntry", true)]) 3))) (cNot (cTru (cIsX (tabL [("Clash", false), ("BadEntry", false), ("NoEntry", true)]) 3))))) (sRet (cUp (cD (.str "another")))) sNx)
  (sRet (cUp (cIf (cAnd (cTru (cFz (cFnS 1 f__law_number (cCons (cXfM ["Clash", "NoEntry"] "number" 3) cNil)))) (cBool (cOp (orF eqF (dicF true)) (cXfM ["Clash", "NoEntry"] "number" 3) (cVar 1)))) (cD (.str "none")) (cD (.str "another"))))))))])
def s__law_told_2 : MS := (sIf (cBool (cOp isBF (cVar 2) (cD (.bl true)))) (sRet (cUp (cD (.str "stands")))) sNx)
def s__law_told_3 : MS := (sRet (cUp (cIf (cBool (cOp isBF (cVar 2) (cD (.bl false)))) (cD (.str "gone")) (cD (.str "odd")))))
def m__law_told : MS := (sSeq s__law_told_1 (sSeq s__law_told_2 s__law_told_3))
def f__law_told : MFn := mfOf 5 m__law_told
def b__law_due_1 : MO := (cFz (cOp (orF ixF dgF) (cVar 3) (cD (.int 0))))
def s__law_due_1 : MS := (sIf (cBool (cOp inF (cVar 2) (cVar 1))) (sRet (cUp (cD (.str "stands")))) sNx)
def s__law_due_2 : MS := (sRet (cUp (cIf (cBool (cOp inF (cVar 2) (cFz (cLc (cIt (cVar 0)) (gN 3) tT b__law_due_1 [3])))) (cD (.str "gone")) (cD (.str "none")))))
def m__law_due : MS := (sSeq s__law_due_1 s__law_due_2)
def f__law_due : MFn := mfOf 4 m__law_due
def ot_ior : BTab := fun c => if c = "Sheet" then some f_Sheet____ior__ else none
def b_law_1 : MS := (sDrop (cFn 2 f__law_new_name (cCons (cVar 1) (cCons (cVar 2) cNil))))
def b_law_2 : MO := (cCel (cLst cNil))
def b_law_3 : MS := (sDrop (cMw mwApp (cFz (cOp (orF ixF dgF) (cVar 9) (cFz (cFn 2 f__law_pick (cCons (cVar 1) (cCons (cVar 8) cNil)))))) (cCons (cVar 10) cNil)))
def b_law_4 : MS := (sSeq (sIf (cBool (cOp (orF neF (dicF false)) (cFz (cFn 2 f__law_told (cCons (cVar 13) (cCons (cVar 16) cNil)))) (cFz (cFn 3 f__law_due (cCons (cVar 14) (cCons (cVar 15) (cCons (cVar 16) cNil))))))) (sRet (cUp (cD (.bl false)))) sNx)
  (sIf (cBool (cOp (orF neF (dicF false)) (cFz (cFn 2 f__law_told (cCons (cVar 11) (cCons (cVar 16) cNil)))) (cFz (cFn 3 f__law_due (cCons (cVar 7) (cCons (cVar 12) (cCons (cVar 16) cNil))))))) (sRet (cUp (cD (.bl false)))) sNx))
def b_law_5 : MS := (sSeq (sIf (cBool (cOp (orF (orF gtI gtS) gtP) (cVar 3) (cD (.int 0)))) (sSeq (sAugO ot_ior noF 13 (cFz (cNew "Sheet" 2 f_Sheet____init__ (cCons (cFz (cOp (orF ixF dgF) (cVar 9) (cVar 3))) cNil))))
  (sAsg 14 (cFz (cOp addF (cVar 14) (cFz (cOp (orF ixF dgF) (cVar 9) (cVar 3))))))) sNx)
  (sSeq (sAsg 15 (cFz (cFn 1 f__law_stood (cCons (cVar 14) cNil))))
  (sForA (cFz (cFn 1 f__law_asked (cCons (cVar 5) cNil))) (gN 16) b_law_4)))
def s_law_1 : MS := (sAsgL 1 (cFn 1 f__law_bag (cCons (cVar 0) cNil)))
def s_law_2 : MS := (sAsgL 2 (cLst cNil))
def s_law_3 : MS := (sFor (cR1 (cCons (cD (.int 2)) cNil)) (gN 3) b_law_1)
def s_law_4 : MS := (sAsg 4 (cFz (cFn 2 f__law_pick (cCons (cVar 1) (cCons (cD (.int 10)) cNil)))))
def s_law_5 : MS := (sIf (cBool (cOp (orF eqF (dicF true)) (cFz (cFn 2 f__law_pick (cCons (cVar 1) (cCons (cD (.int 6)) cNil)))) (cD (.int 0)))) (sAsg 4 (cFz (cOp addF (cD (.int 30)) (cFz (cFn 2 f__law_pick (cCons (cVar 1) (cCons (cD (.int 31)) cNil))))))) sNx)
def s_law_6 : MS := (sAsg 5 (cFz (cFn 2 f__law_numbers (cCons (cVar 1) (cCons (cVar 4) cNil)))))
def s_law_7 : MS := (sAsg 6 (cFz (cFn 3 f__law_rows (cCons (cVar 1) (cCons (cVar 5) (cCons (cVar 2) cNil))))))
def s_law_8 : MS := (sAsg 7 (cFz (cFn 3 f__law_rows (cCons (cVar 1) (cCons (cVar 5) (cCons (cVar 2) cNil))))))
def s_law_9 : MS := (sAsg 8 (cFz (cOp addF (cD (.int 1)) (cFz (cFn 2 f__law_pick (cCons (cVar 1) (cCons (cD (.int 4)) cNil)))))))
def s_law_10 : MS := (sAsgO 9 (cLcE (cR1 (cCons (cVar 8) cNil)) (gN 3) tT b_law_2 [3]))
def s_law_11 : MS := (sForA (cFz (cFn 2 f__law_mingled (cCons (cVar 1) (cCons (cVar 6) cNil)))) (gN 10) b_law_3)
def s_law_12 : MS := (sAsgL 11 (cNew "Sheet" 2 f_Sheet____init__ (cCons (cFz (cFn 2 f__law_mingled (cCons (cVar 1) (cCons (cVar 7) cNil)))) cNil)))
def s_law_13 : MS := (sAsg 12 (cFz (cFn 1 f__law_stood (cCons (cVar 7) cNil))))
def s_law_14 : MS := (sAsgL 13 (cNew "Sheet" 2 f_Sheet____init__ (cCons (cFz (cOp (orF ixF dgF) (cVar 9) (cD (.int 0)))) cNil)))
def s_law_15 : MS := (sAsg 14 (cFz (cCall (f1 listF) (cCons (cFz (cOp (orF ixF dgF) (cVar 9) (cD (.int 0)))) cNil))))
def s_law_16 : MS := (sFor (cR1 (cCons (cVar 8) cNil)) (gN 3) b_law_5)
def s_law_17 : MS := (sRet (cUp (cD (.bl true))))
def m_law : MS := (sSeq s_law_1 (sSeq s_law_2 (sSeq s_law_3 (sSeq s_law_4 (sSeq s_law_5 (sSeq s_law_6 (sSeq s_law_7 (sSeq s_law_8 (sSeq s_law_9 (sSeq s_law_10 (sSeq s_law_11 (sSeq s_law_12 (sSeq s_law_13 (sSeq s_law_14 (sSeq s_law_15 (sSeq s_law_16 s_law_17))))))))))))))))
def f_law : MFn := mfOf 17 m_law
end
end Law

set_option Elab.async false
set_option linter.all false
set_option maxRecDepth 100000
set_option maxHeartbeats 4000000
namespace Law
open PySem L2 Sim
open PyProof.Rows (envOfC)
def topS (i : Nat) : Stmt := PySem.Challenge.pw_duehouse_k02_who_stands.main.body.getD i (.Pass ⟨0, 0, 0, 0⟩)
abbrev st__law_bag : Stmt := topS 21
abbrev st__law_mixed : Stmt := topS 20
abbrev st__law_pick : Stmt := topS 22
abbrev st__law_numbers : Stmt := topS 28
abbrev st__law_choice : Stmt := topS 23
abbrev st__law_rows : Stmt := topS 29
abbrev st__law_mingled : Stmt := topS 24
abbrev st_merged : Stmt := topS 11
abbrev st_ascending : Stmt := topS 12
abbrev st_numbered : Stmt := topS 17
abbrev st_is_number : Stmt := topS 10
abbrev st_is_name : Stmt := topS 9
abbrev st_is_entry : Stmt := topS 16
abbrev st_Sheet____init__ : Stmt := inClass (topS 18) 0
abbrev st__law_sorted : Stmt := topS 25
abbrev st__law_stood : Stmt := topS 30
abbrev st__law_new_name : Stmt := topS 27
abbrev st_Sheet____ior__ : Stmt := inClass (topS 18) 7
abbrev st__law_asked : Stmt := topS 33
abbrev st_Sheet__standing_numbers : Stmt := inClass (topS 18) 9
abbrev st_Sheet__stands : Stmt := inClass (topS 18) 10
abbrev st__law_number : Stmt := topS 26
abbrev st__law_told : Stmt := topS 31
abbrev st__law_due : Stmt := topS 32
abbrev st_law : Stmt := topS 34
abbrev st_Clash : Stmt := inClass (topS 5) 0
abbrev st_BadEntry : Stmt := inClass (topS 4) 0
abbrev st_NoEntry : Stmt := inClass (topS 6) 0
structure Fx (K : PySem.W.Frag) (mg : Str → Option Value) (G : String → Addr) : Prop where
  b_ValueError : mg "ValueError" = none
  b_abs : mg "abs" = none
  b_bool : mg "bool" = none
  b_enumerate : mg "enumerate" = none
  b_int : mg "int" = none
  b_isinstance : mg "isinstance" = none
  b_len : mg "len" = none
  b_list : mg "list" = none
  b_range : mg "range" = none
  b_reversed : mg "reversed" = none
  b_str : mg "str" = none
  b_tuple : mg "tuple" = none
  d__law_bag : DefK K mg "_law_bag" st__law_bag ["script"]
  d__law_mixed : DefK K mg "_law_mixed" st__law_mixed ["number", "turn"]
  d__law_pick : DefK K mg "_law_pick" st__law_pick ["bag", "many"]
  d__law_numbers : DefK K mg "_law_numbers" st__law_numbers ["bag", "many"]
  d__law_choice : DefK K mg "_law_choice" st__law_choice ["bag", "things"]
  d__law_rows : DefK K mg "_law_rows" st__law_rows ["bag", "numbers", "names"]
  d__law_mingled : DefK K mg "_law_mingled" st__law_mingled ["bag", "things"]
  d_merged : DefK K mg "merged" st_merged ["left", "right"]
  d_ascending : DefK K mg "ascending" st_ascending ["things"]
  d_numbered : DefK K mg "numbered" st_numbered ["things"]
  d_is_number : DefK K mg "is_number" st_is_number ["thing", "low", "high"]
  d_is_name : DefK K mg "is_name" st_is_name ["thing"]
  d_is_entry : DefK K mg "is_entry" st_is_entry ["thing"]
  d__law_sorted : DefK K mg "_law_sorted" st__law_sorted ["things"]
  d__law_stood : DefK K mg "_law_stood" st__law_stood ["read"]
  d__law_new_name : DefK K mg "_law_new_name" st__law_new_name ["bag", "used"]
  d__law_asked : DefK K mg "_law_asked" st__law_asked ["numbers"]
  d__law_number : DefK K mg "_law_number" st__law_number ["thing"]
  d__law_told : DefK K mg "_law_told" st__law_told ["sheet", "number"]
  d__law_due : DefK K mg "_law_due" st__law_due ["read", "stood", "number"]
  gv_LAST_DAY : GlbV mg "LAST_DAY" (.int 59)
  gv_LAST_NUMBER : GlbV mg "LAST_NUMBER" (.int 999)
  gv_LETTERS : GlbV mg "LETTERS" (.str "abcdefghijklmnopqrstuvwxyz")
  fl_by_number : FldOk G K ["Sheet"] "by_number"
  me_Sheet_standing_numbers : MeF K G "Sheet" "standing_numbers" "Sheet.standing_numbers" st_Sheet__standing_numbers ["self"]
  me_Sheet_stands : MeF K G "Sheet" "stands" "Sheet.stands" st_Sheet__stands ["self", "number"]
  so_Sheet_ior : SpF K G "Sheet" "__ior__" "Sheet.__ior__" st_Sheet____ior__ ["self", "other"]
  nn_Sheet : NwV K mg G "Sheet" "Sheet.__init__" st_Sheet____init__ ["self", "entries"] []
  g_BadEntry : mg "BadEntry" = some (.ref (G "BadEntry"))
  g_BadNumber : mg "BadNumber" = some (.ref (G "BadNumber"))
  g_Clash : mg "Clash" = some (.ref (G "Clash"))
  g_DueError : mg "DueError" = some (.ref (G "DueError"))
  g_NoEntry : mg "NoEntry" = some (.ref (G "NoEntry"))
  bB : ExB K mg "DueError" (G "DueError")
  t_Clash : OexC K (G "Clash")
  i_Clash : ∃ (fI : Addr) (fd : FuncData), PySem.W.findIn K (.ref (G "Clash")) "__init__" = some (some (.ref fI)) ∧ PySem.W.typeIn K (.ref fI) = some (.type "function") ∧ L2.Fun K "__init__" "Clash.__init__" st_Clash fI fd ∧ Binds K fd ["self", "number"] []
  xc_Clash : ExcC K (G "Clash")
  xf_Clash : XfC K (G "Clash")
  no_Clash_number : PySem.W.findIn K (.ref (G "Clash")) "number" = some none
  t_BadEntry : OexC K (G "BadEntry")
  i_BadEntry : ∃ (fI : Addr) (fd : FuncData), PySem.W.findIn K (.ref (G "BadEntry")) "__init__" = some (some (.ref fI)) ∧ PySem.W.typeIn K (.ref fI) = some (.type "function") ∧ L2.Fun K "__init__" "BadEntry.__init__" st_BadEntry fI fd ∧ Binds K fd ["self", "entry"] []
  xc_BadEntry : ExcC K (G "BadEntry")
  xf_BadEntry : XfC K (G "BadEntry")
  no_BadEntry_entry : PySem.W.findIn K (.ref (G "BadEntry")) "entry" = some none
  t_NoEntry : OexC K (G "NoEntry")
  i_NoEntry : ∃ (fI : Addr) (fd : FuncData), PySem.W.findIn K (.ref (G "NoEntry")) "__init__" = some (some (.ref fI)) ∧ PySem.W.typeIn K (.ref fI) = some (.type "function") ∧ L2.Fun K "__init__" "NoEntry.__init__" st_NoEntry fI fd ∧ Binds K fd ["self", "number"] []
  xc_NoEntry : ExcC K (G "NoEntry")
  xf_NoEntry : XfC K (G "NoEntry")
  no_NoEntry_number : PySem.W.findIn K (.ref (G "NoEntry")) "number" = some none
  kv_BadEntry : PySem.W.kitOne K (.ref (G "BadEntry")) (.type "ValueError") = some true
  kv_Clash : PySem.W.kitOne K (.ref (G "Clash")) (.type "ValueError") = some true
  kv_NoEntry : PySem.W.kitOne K (.ref (G "NoEntry")) (.type "ValueError") = some true
  kt_BadEntry_BadEntry : PySem.W.kitOne K (.ref (G "BadEntry")) (.ref (G "BadEntry")) = some true
  kt_BadEntry_BadNumber : PySem.W.kitOne K (.ref (G "BadEntry")) (.ref (G "BadNumber")) = some false
  kt_BadEntry_Clash : PySem.W.kitOne K (.ref (G "BadEntry")) (.ref (G "Clash")) = some false
  kt_BadEntry_NoEntry : PySem.W.kitOne K (.ref (G "BadEntry")) (.ref (G "NoEntry")) = some false
  kt_Clash_BadEntry : PySem.W.kitOne K (.ref (G "Clash")) (.ref (G "BadEntry")) = some false
  kt_Clash_BadNumber : PySem.W.kitOne K (.ref (G "Clash")) (.ref (G "BadNumber")) = some false
  kt_Clash_Clash : PySem.W.kitOne K (.ref (G "Clash")) (.ref (G "Clash")) = some true
  kt_Clash_NoEntry : PySem.W.kitOne K (.ref (G "Clash")) (.ref (G "NoEntry")) = some false
  kt_NoEntry_BadEntry : PySem.W.kitOne K (.ref (G "NoEntry")) (.ref (G "BadEntry")) = some false
  kt_NoEntry_BadNumber : PySem.W.kitOne K (.ref (G "NoEntry")) (.ref (G "BadNumber")) = some false
  kt_NoEntry_Clash : PySem.W.kitOne K (.ref (G "NoEntry")) (.ref (G "Clash")) = some false
  kt_NoEntry_NoEntry : PySem.W.kitOne K (.ref (G "NoEntry")) (.ref (G "NoEntry")) = some true
  xm_BadEntry_DueError : PySem.W.exmOne K (.ref (G "BadEntry")) (.ref (G "DueError")) = some true
  xm_Clash_DueError : PySem.W.exmOne K (.ref (G "Clash")) (.ref (G "DueError")) = some true
  xm_NoEntry_DueError : PySem.W.exmOne K (.ref (G "NoEntry")) (.ref (G "DueError")) = some true
section
variable {P : Program} {w : World} {K : PySem.W.Frag} {mg : Str → Option Value} {base : Heap} {G : String → Addr}
theorem si_Clash : FnScope ["self", "number"] ["self", "number"] (defScope st_Clash) := ⟨rfl, rfl, rfl, by decide +kernel, rfl, by decide +kernel, by decide +kernel⟩
theorem ex_Clash (Z : Fx K mg G) : ExK G P w K mg base 1 "Clash" (spI1 (G "Clash") (Str.ofString "number")) := by
  obtain ⟨fI, fd, h1, h2, h3, h4⟩ := Z.i_Clash
  exact ⟨Z.t_Clash, Z.g_Clash, fI, fd, _, h1, h2, ok_init1 Z.t_Clash Z.no_Clash_number h3 si_Clash (fun cdv A outer s H E => pss_cons (ps_expr (pe_dueinit rfl Z.bB (pa_cons (pv 0) (pa_cons pe_str pa_nil)))) (pss_one (ps_ost (pv 0) (pv 1)))), h4⟩
theorem si_BadEntry : FnScope ["self", "entry"] ["self", "entry"] (defScope st_BadEntry) := ⟨rfl, rfl, rfl, by decide +kernel, rfl, by decide +kernel, by decide +kernel⟩
theorem ex_BadEntry (Z : Fx K mg G) : ExK G P w K mg base 1 "BadEntry" (spI1 (G "BadEntry") (Str.ofString "entry")) := by
  obtain ⟨fI, fd, h1, h2, h3, h4⟩ := Z.i_BadEntry
  exact ⟨Z.t_BadEntry, Z.g_BadEntry, fI, fd, _, h1, h2, ok_init1 Z.t_BadEntry Z.no_BadEntry_entry h3 si_BadEntry (fun cdv A outer s H E => pss_cons (ps_expr (pe_dueinit rfl Z.bB (pa_cons (pv 0) (pa_cons pe_str pa_nil)))) (pss_one (ps_ost (pv 0) (pv 1)))), h4⟩
theorem si_NoEntry : FnScope ["self", "number"] ["self", "number"] (defScope st_NoEntry) := ⟨rfl, rfl, rfl, by decide +kernel, rfl, by decide +kernel, by decide +kernel⟩
theorem ex_NoEntry (Z : Fx K mg G) : ExK G P w K mg base 1 "NoEntry" (spI1 (G "NoEntry") (Str.ofString "number")) := by
  obtain ⟨fI, fd, h1, h2, h3, h4⟩ := Z.i_NoEntry
  exact ⟨Z.t_NoEntry, Z.g_NoEntry, fI, fd, _, h1, h2, ok_init1 Z.t_NoEntry Z.no_NoEntry_number h3 si_NoEntry (fun cdv A outer s H E => pss_cons (ps_expr (pe_dueinit rfl Z.bB (pa_cons (pv 0) (pa_cons pe_str pa_nil)))) (pss_one (ps_ost (pv 0) (pv 1)))), h4⟩
theorem sc__law_bag : FnScope ["script", "numbers", "cell", "seed", "at"] ["script"] (defScope st__law_bag) := ⟨rfl, rfl, rfl, by decide +kernel, rfl, by decide +kernel, by decide +kernel⟩
theorem c__law_bag (Z : Fx K mg G) : CalK P w K mg base G 1 "_law_bag" 1 f__law_bag := cal_of Z.d__law_bag sc__law_bag fun f cdv A outer s H E hr =>
  (jss_cons (js_setLc (i := 1) (own := [("cell", 2)]) rfl sc__law_bag.nd rfl rfl (sw_true rfl rfl rfl (by decide +kernel)) (ji_seq (jo_var (i := 0) rfl (Or.inl rfl))) (blkOk_by (N := ["script", "numbers", "cell", "seed", "at"]) (sc := defScope st__law_bag) (by decide +kernel)) (fun _ h => h) (fun _ _ _ _ _ => (jg_name (i := 2) sc__law_bag.nd rfl (Or.inl rfl))) (fun _ _ _ _ _ => jts_nil) (fun _ _ _ _ _ => (jo_fz (je_int rfl Z.b_int (ja_cons (jo_var (i := 2) rfl (Or.inl rfl)) ja_nil)))))
  (jss_cons (js_asg (i := 3) sc__law_bag.nd rfl (Or.inl rfl) (jo_fz (je_len rfl Z.b_len (ja_cons (jo_var (i := 1) rfl (Or.inl rfl)) ja_nil))))
  (jss_cons (js_for (passes_of rfl) rfl (ji_enumA rfl Z.b_enumerate (ja_cons (jo_fz (je_slice (jo_var (i := 1) rfl (Or.inl rfl)) jp_no (jp_some jo_int))) ja_nil)) (jg_tup rfl (jgs_cons (jg_name (i := 4) sc__law_bag.nd rfl (Or.inl rfl)) (jgs_cons (jg_name (i := 2) sc__law_bag.nd rfl (Or.inl rfl)) jgs_nil)) (gC_len (gC_len (fun _ _ _ h => gN0_len h))))
  (jss_one (js_asg (i := 3) sc__law_bag.nd rfl (Or.inl rfl) (jo_fz (je_mod (jo_fz (je_int rfl Z.b_int (ja_cons (jo_fz (je_add (jo_fz (je_add (jo_fz (je_mul (jo_var (i := 3) rfl (Or.inl rfl)) jo_int)) (jo_fz (je_mod (jo_fz (je_int rfl Z.b_int (ja_cons (jo_fz (je_abs rfl Z.b_abs (ja_cons (jo_var (i := 2) rfl (Or.inl rfl)) ja_nil))) ja_nil))) jo_int)))) (jo_fz (je_mul (jo_fz (je_add (jo_var (i := 4) rfl (Or.inl rfl)) jo_int)) (jo_fz (je_ltA (hu_n hr) (jo_var (i := 2) rfl (Or.inl rfl)) jo_int)))))) ja_nil))) jo_int)))))
  (jss_one (js_ret (je_lst (ja_cons (jo_var (i := 1) rfl (Or.inl rfl)) (ja_cons jo_int (ja_cons jo_int (ja_cons jo_int (ja_cons (jo_var (i := 3) rfl (Or.inl rfl)) ja_nil)))))))))))
theorem sc__law_mixed : FnScope ["number", "turn", "low", "high"] ["number", "turn"] (defScope st__law_mixed) := ⟨rfl, rfl, rfl, by decide +kernel, rfl, by decide +kernel, by decide +kernel⟩
theorem c__law_mixed (Z : Fx K mg G) : CalK P w K mg base G 1 "_law_mixed" 2 f__law_mixed := cal_of Z.d__law_mixed sc__law_mixed fun f cdv A outer s H E hr =>
  (jss_cons (js_asg (i := 2) sc__law_mixed.nd rfl (Or.inl rfl) (jo_fz (je_mod (jo_fz (je_int rfl Z.b_int (ja_cons (jo_fz (je_add (jo_fz (je_mul (jo_fz (je_add (jo_var (i := 0) rfl (Or.inl rfl)) jo_int)) jo_int)) (jo_fz (je_mul (jo_fz (je_add (jo_var (i := 1) rfl (Or.inl rfl)) jo_int)) jo_int)))) ja_nil))) jo_int)))
  (jss_cons (js_asg (i := 3) sc__law_mixed.nd rfl (Or.inl rfl) (jo_fz (je_mod (jo_fz (je_int rfl Z.b_int (ja_cons (jo_fz (je_add (jo_fz (je_add (jo_fz (je_mul (jo_var (i := 2) rfl (Or.inl rfl)) (jo_var (i := 2) rfl (Or.inl rfl)))) (jo_fz (je_mul (jo_var (i := 2) rfl (Or.inl rfl)) jo_int)))) (jo_fz (je_mul (jo_fz (je_add (jo_var (i := 1) rfl (Or.inl rfl)) jo_int)) jo_int)))) ja_nil))) jo_int)))
  (jss_one (js_ret (je_mod (jo_fz (je_int rfl Z.b_int (ja_cons (jo_fz (je_add (jo_fz (je_add (jo_fz (je_fdiv (jo_var (i := 3) rfl (Or.inl rfl)) jo_int)) (jo_fz (je_mul (jo_var (i := 3) rfl (Or.inl rfl)) jo_int)))) (jo_var (i := 1) rfl (Or.inl rfl)))) ja_nil))) jo_int)))))
theorem sc__law_pick : FnScope ["bag", "many", "turn", "cell", "worth"] ["bag", "many"] (defScope st__law_pick) := ⟨rfl, rfl, rfl, by decide +kernel, rfl, by decide +kernel, by decide +kernel⟩
theorem c__law_pick (Z : Fx K mg G) : CalK P w K mg base G 2 "_law_pick" 2 f__law_pick := cal_of Z.d__law_pick sc__law_pick fun f cdv A outer s H E hr =>
  (jss_cons (js_asg (i := 2) sc__law_pick.nd rfl (Or.inl rfl) (jo_fz (je_ix (hu_n hr) (fun _ _ => rfl) (fun _ _ => rfl) (jo_var (i := 0) rfl (Or.inl rfl)) jo_int)))
  (jss_cons (js_set (hu_n hr) (jo_fz (je_add (jo_var (i := 2) rfl (Or.inl rfl)) jo_int)) (jo_var (i := 0) rfl (Or.inl rfl)) jo_int)
  (jss_cons (js_if (jt_w (jw_and (jt_eqA (hu_n hr) (jo_fz (je_ix (hu_n hr) (fun _ _ => rfl) (fun _ _ => rfl) (jo_var (i := 0) rfl (Or.inl rfl)) jo_int)) jo_int) (jw_and1 (jt_ltA (hu_n hr) (jo_fz (je_ix (hu_n hr) (fun _ _ => rfl) (fun _ _ => rfl) (jo_var (i := 0) rfl (Or.inl rfl)) jo_int)) (jo_fz (je_len rfl Z.b_len (ja_cons (jo_fz (je_ix (hu_n hr) (fun _ _ => rfl) (fun _ _ => rfl) (jo_var (i := 0) rfl (Or.inl rfl)) jo_int)) ja_nil)))))))
  (jss_cons (js_asg (i := 3) sc__law_pick.nd rfl (Or.inl rfl) (jo_fz (je_ix (hu_n hr) (fun _ _ => rfl) (fun _ _ => rfl) (jo_fz (je_ix (hu_n hr) (fun _ _ => rfl) (fun _ _ => rfl) (jo_var (i := 0) rfl (Or.inl rfl)) jo_int)) (jo_fz (je_ix (hu_n hr) (fun _ _ => rfl) (fun _ _ => rfl) (jo_var (i := 0) rfl (Or.inl rfl)) jo_int)))))
  (jss_cons (js_set (hu_n hr) (jo_fz (je_add (jo_fz (je_ix (hu_n hr) (fun _ _ => rfl) (fun _ _ => rfl) (jo_var (i := 0) rfl (Or.inl rfl)) jo_int)) jo_int)) (jo_var (i := 0) rfl (Or.inl rfl)) jo_int)
  (jss_cons (js_if (jt_ltA (hu_n hr) (jo_fz (je_abs rfl Z.b_abs (ja_cons (jo_var (i := 3) rfl (Or.inl rfl)) ja_nil))) (jo_fz (je_pow jo_int jo_int)))
  (jss_one (js_ret (je_mod (jo_fz (je_int rfl Z.b_int (ja_cons (jo_fz (je_cal (c__law_mixed Z) hr (by decide) rfl (takes_of rfl rfl rfl rfl) (ja_cons (jo_fz (je_add (jo_fz (je_mul jo_int (jo_fz (je_abs rfl Z.b_abs (ja_cons (jo_var (i := 3) rfl (Or.inl rfl)) ja_nil))))) (jo_fz (je_ltA (hu_n hr) (jo_var (i := 3) rfl (Or.inl rfl)) jo_int)))) (ja_cons (jo_var (i := 2) rfl (Or.inl rfl)) ja_nil)))) ja_nil))) (jo_var (i := 1) rfl (Or.inl rfl)))))
  jss_nil)
  (jss_one (js_set (hu_n hr) (jo_fz (je_abs rfl Z.b_abs (ja_cons (jo_var (i := 3) rfl (Or.inl rfl)) ja_nil))) (jo_var (i := 0) rfl (Or.inl rfl)) jo_int)))))
  jss_nil)
  (jss_cons (js_if (jt_eqA (hu_n hr) (jo_fz (je_ix (hu_n hr) (fun _ _ => rfl) (fun _ _ => rfl) (jo_var (i := 0) rfl (Or.inl rfl)) jo_int)) jo_int)
  (jss_one (js_ret (je_mod (jo_fz (je_int rfl Z.b_int (ja_cons (jo_fz (je_cal (c__law_mixed Z) hr (by decide) rfl (takes_of rfl rfl rfl rfl) (ja_cons (jo_fz (je_ix (hu_n hr) (fun _ _ => rfl) (fun _ _ => rfl) (jo_var (i := 0) rfl (Or.inl rfl)) jo_int)) (ja_cons (jo_var (i := 2) rfl (Or.inl rfl)) ja_nil)))) ja_nil))) (jo_var (i := 1) rfl (Or.inl rfl)))))
  jss_nil)
  (jss_cons (js_asg (i := 4) sc__law_pick.nd rfl (Or.inl rfl) (jo_fz (je_mod (jo_fz (je_int rfl Z.b_int (ja_cons (jo_fz (je_ix (hu_n hr) (fun _ _ => rfl) (fun _ _ => rfl) (jo_var (i := 0) rfl (Or.inl rfl)) jo_int)) ja_nil))) (jo_var (i := 1) rfl (Or.inl rfl)))))
  (jss_cons (js_set (hu_n hr) (jo_fz (je_fdiv (jo_fz (je_ix (hu_n hr) (fun _ _ => rfl) (fun _ _ => rfl) (jo_var (i := 0) rfl (Or.inl rfl)) jo_int)) (jo_var (i := 1) rfl (Or.inl rfl)))) (jo_var (i := 0) rfl (Or.inl rfl)) jo_int)
  (jss_one (js_ret (je_up (jo_var (i := 4) rfl (Or.inl rfl)))))))))))
theorem sc__law_numbers : FnScope ["bag", "many", "number", "gap", "out", "k"] ["bag", "many"] (defScope st__law_numbers) := ⟨rfl, rfl, rfl, by decide +kernel, rfl, by decide +kernel, by decide +kernel⟩
theorem c__law_numbers (Z : Fx K mg G) : CalK P w K mg base G 3 "_law_numbers" 2 f__law_numbers := cal_of Z.d__law_numbers sc__law_numbers fun f cdv A outer s H E hr =>
  (jss_cons (js_asg (i := 2) sc__law_numbers.nd rfl (Or.inl rfl) (jo_fz (je_ix (hu_n hr) (fun _ _ => rfl) (fun _ _ => rfl) (jo_fz (je_lst (ja_cons jo_int (ja_cons jo_int (ja_cons jo_int (ja_cons jo_int (ja_cons jo_int (ja_cons jo_int ja_nil)))))))) (jo_fz (je_cal (c__law_pick Z) hr (by decide) rfl (takes_of rfl rfl rfl rfl) (ja_cons (jo_var (i := 0) rfl (Or.inl rfl)) (ja_cons jo_int ja_nil)))))))
  (jss_cons (js_asg (i := 3) sc__law_numbers.nd rfl (Or.inl rfl) (jo_fz (je_ix (hu_n hr) (fun _ _ => rfl) (fun _ _ => rfl) (jo_fz (je_lst (ja_cons jo_int (ja_cons jo_int (ja_cons jo_int (ja_cons jo_int ja_nil)))))) (jo_fz (je_cal (c__law_pick Z) hr (by decide) rfl (takes_of rfl rfl rfl rfl) (ja_cons (jo_var (i := 0) rfl (Or.inl rfl)) (ja_cons jo_int ja_nil)))))))
  (jss_cons (js_asgO (i := 4) sc__law_numbers.nd rfl (Or.inl rfl) (je_lst ja_nil))
  (jss_cons (js_for (passes_of rfl) rfl (ji_r1 rfl Z.b_range (ja_cons (jo_var (i := 1) rfl (Or.inl rfl)) ja_nil)) (jg_name (i := 5) sc__law_numbers.nd rfl (Or.inl rfl))
  (jss_cons (js_asg (i := 2) sc__law_numbers.nd rfl (Or.inl rfl) (jo_fz (je_add (jo_fz (je_add (jo_var (i := 2) rfl (Or.inl rfl)) jo_int)) (jo_fz (je_cal (c__law_pick Z) hr (by decide) rfl (takes_of rfl rfl rfl rfl) (ja_cons (jo_var (i := 0) rfl (Or.inl rfl)) (ja_cons (jo_var (i := 3) rfl (Or.inl rfl)) ja_nil)))))))
  (jss_one (js_drop (je_append (jo_var (i := 4) rfl (Or.inl rfl)) (ja_cons (jo_var (i := 2) rfl (Or.inl rfl)) ja_nil))))))
  (jss_one (js_ret (je_up (jo_var (i := 4) rfl (Or.inl rfl)))))))))
theorem sc__law_choice : FnScope ["bag", "things"] ["bag", "things"] (defScope st__law_choice) := ⟨rfl, rfl, rfl, by decide +kernel, rfl, by decide +kernel, by decide +kernel⟩
theorem c__law_choice (Z : Fx K mg G) : CalK P w K mg base G 3 "_law_choice" 2 f__law_choice := cal_of Z.d__law_choice sc__law_choice fun f cdv A outer s H E hr =>
  (jss_one (js_ret (je_ix (hu_n hr) (fun _ _ => rfl) (fun _ _ => rfl) (jo_var (i := 1) rfl (Or.inl rfl)) (jo_fz (je_cal (c__law_pick Z) hr (by decide) rfl (takes_of rfl rfl rfl rfl) (ja_cons (jo_var (i := 0) rfl (Or.inl rfl)) (ja_cons (jo_fz (je_len rfl Z.b_len (ja_cons (jo_var (i := 1) rfl (Or.inl rfl)) ja_nil))) ja_nil)))))))
theorem sc__law_rows : FnScope ["bag", "numbers", "names", "deep", "out", "at", "number", "way"] ["bag", "numbers", "names"] (defScope st__law_rows) := ⟨rfl, rfl, rfl, by decide +kernel, rfl, by decide +kernel, by decide +kernel⟩
theorem c__law_rows (Z : Fx K mg G) : CalK P w K mg base G 4 "_law_rows" 3 f__law_rows := cal_of Z.d__law_rows sc__law_rows fun f cdv A outer s H E hr =>
  (jss_cons (js_asg (i := 3) sc__law_rows.nd rfl (Or.inl rfl) (jo_fz (je_eqA (hu_n hr) (jo_fz (je_cal (c__law_pick Z) hr (by decide) rfl (takes_of rfl rfl rfl rfl) (ja_cons (jo_var (i := 0) rfl (Or.inl rfl)) (ja_cons jo_int ja_nil)))) jo_int)))
  (jss_cons (js_asgO (i := 4) sc__law_rows.nd rfl (Or.inl rfl) (je_lst ja_nil))
  (jss_cons (js_for (passes_of rfl) rfl (ji_enumA rfl Z.b_enumerate (ja_cons (jo_var (i := 1) rfl (Or.inl rfl)) ja_nil)) (jg_tup rfl (jgs_cons (jg_name (i := 5) sc__law_rows.nd rfl (Or.inl rfl)) (jgs_cons (jg_name (i := 6) sc__law_rows.nd rfl (Or.inl rfl)) jgs_nil)) (gC_len (gC_len (fun _ _ _ h => gN0_len h))))
  (jss_cons (js_asg (i := 7) sc__law_rows.nd rfl (Or.inl rfl) (jo_fz (je_cal (c__law_pick Z) hr (by decide) rfl (takes_of rfl rfl rfl rfl) (ja_cons (jo_var (i := 0) rfl (Or.inl rfl)) (ja_cons jo_int ja_nil)))))
  (jss_one (js_if (jt_w (jw_and (jt_tru (jo_var (i := 3) rfl (Or.inl rfl))) (jw_and (jt_gtA (hu_n hr) (jo_var (i := 5) rfl (Or.inl rfl)) jo_int) (jw_and1 (jt_ltA (hu_n hr) (jo_var (i := 7) rfl (Or.inl rfl)) jo_int)))))
  (jss_one (js_drop (je_append (jo_var (i := 4) rfl (Or.inl rfl)) (ja_cons (jo_tup (ja_cons (jo_var (i := 6) rfl (Or.inl rfl)) (ja_cons jo_str (ja_cons (jo_fz (je_ix (hu_n hr) (fun _ _ => rfl) (fun _ _ => rfl) (jo_var (i := 1) rfl (Or.inl rfl)) (jo_fz (je_sub (jo_var (i := 5) rfl (Or.inl rfl)) jo_int)))) ja_nil)))) ja_nil))))
  (jss_one (js_if (jt_w (jw_and (jt_ltA (hu_n hr) (jo_var (i := 7) rfl (Or.inl rfl)) jo_int) (jw_and1 (jt_gtA (hu_n hr) (jo_var (i := 5) rfl (Or.inl rfl)) jo_int))))
  (jss_one (js_drop (je_append (jo_var (i := 4) rfl (Or.inl rfl)) (ja_cons (jo_tup (ja_cons (jo_var (i := 6) rfl (Or.inl rfl)) (ja_cons jo_str (ja_cons (jo_fz (je_ix (hu_n hr) (fun _ _ => rfl) (fun _ _ => rfl) (jo_var (i := 1) rfl (Or.inl rfl)) (jo_fz (je_cal (c__law_pick Z) hr (by decide) rfl (takes_of rfl rfl rfl rfl) (ja_cons (jo_var (i := 0) rfl (Or.inl rfl)) (ja_cons (jo_var (i := 5) rfl (Or.inl rfl)) ja_nil)))))) ja_nil)))) ja_nil))))
  (jss_one (js_if (jt_w (jw_and (jt_eqA (hu_n hr) (jo_var (i := 7) rfl (Or.inl rfl)) jo_int) (jw_and1 (jt_gtA (hu_n hr) (jo_var (i := 6) rfl (Or.inl rfl)) jo_int))))
  (jss_one (js_drop (je_append (jo_var (i := 4) rfl (Or.inl rfl)) (ja_cons (jo_tup (ja_cons (jo_var (i := 6) rfl (Or.inl rfl)) (ja_cons jo_str (ja_cons (jo_fz (je_add jo_int (jo_fz (je_cal (c__law_pick Z) hr (by decide) rfl (takes_of rfl rfl rfl rfl) (ja_cons (jo_var (i := 0) rfl (Or.inl rfl)) (ja_cons (jo_fz (je_sub (jo_var (i := 6) rfl (Or.inl rfl)) jo_int)) ja_nil)))))) ja_nil)))) ja_nil))))
  (jss_one (js_if (jt_ltA (hu_n hr) (jo_var (i := 7) rfl (Or.inl rfl)) jo_int)
  (jss_one (js_drop (je_append (jo_var (i := 4) rfl (Or.inl rfl)) (ja_cons (jo_tup (ja_cons (jo_var (i := 6) rfl (Or.inl rfl)) (ja_cons jo_str (ja_cons (jo_fz (je_cal (c__law_pick Z) hr (by decide) rfl (takes_of rfl rfl rfl rfl) (ja_cons (jo_var (i := 0) rfl (Or.inl rfl)) (ja_cons jo_int ja_nil)))) (ja_cons (jo_fz (je_cal (c__law_choice Z) hr (by decide) rfl (takes_of rfl rfl rfl rfl) (ja_cons (jo_var (i := 0) rfl (Or.inl rfl)) (ja_cons (jo_var (i := 2) rfl (Or.inl rfl)) ja_nil)))) ja_nil))))) ja_nil))))
  (jss_one (js_drop (je_append (jo_var (i := 4) rfl (Or.inl rfl)) (ja_cons (jo_tup (ja_cons (jo_var (i := 6) rfl (Or.inl rfl)) (ja_cons jo_str (ja_cons (jo_fz (je_cal (c__law_pick Z) hr (by decide) rfl (takes_of rfl rfl rfl rfl) (ja_cons (jo_var (i := 0) rfl (Or.inl rfl)) (ja_cons jo_int ja_nil)))) (ja_cons (jo_fz (je_cal (c__law_choice Z) hr (by decide) rfl (takes_of rfl rfl rfl rfl) (ja_cons (jo_var (i := 0) rfl (Or.inl rfl)) (ja_cons (jo_var (i := 2) rfl (Or.inl rfl)) ja_nil)))) ja_nil))))) ja_nil))))))))))))))
  (jss_one (js_ret (je_up (jo_var (i := 4) rfl (Or.inl rfl))))))))
theorem sc__law_mingled : FnScope ["bag", "things", "left", "out", "step"] ["bag", "things"] (defScope st__law_mingled) := ⟨rfl, rfl, rfl, by decide +kernel, rfl, by decide +kernel, by decide +kernel⟩
theorem c__law_mingled (Z : Fx K mg G) : CalK P w K mg base G 3 "_law_mingled" 2 f__law_mingled := cal_of Z.d__law_mingled sc__law_mingled fun f cdv A outer s H E hr =>
  (jss_cons (js_asgO (i := 2) sc__law_mingled.nd rfl (Or.inl rfl) (je_list rfl rfl Z.b_list (ja_cons (jo_var (i := 1) rfl (Or.inl rfl)) ja_nil)))
  (jss_cons (js_asgO (i := 3) sc__law_mingled.nd rfl (Or.inl rfl) (je_lst ja_nil))
  (jss_cons (js_for (passes_of rfl) rfl (ji_r1 rfl Z.b_range (ja_cons (jo_fz (je_len rfl Z.b_len (ja_cons (jo_var (i := 1) rfl (Or.inl rfl)) ja_nil))) ja_nil)) (jg_name (i := 4) sc__law_mingled.nd rfl (Or.inl rfl))
  (jss_one (js_drop (je_append (jo_var (i := 3) rfl (Or.inl rfl)) (ja_cons (jo_fz (je_popAt (jo_var (i := 2) rfl (Or.inl rfl)) (ja_cons (jo_fz (je_cal (c__law_pick Z) hr (by decide) rfl (takes_of rfl rfl rfl rfl) (ja_cons (jo_var (i := 0) rfl (Or.inl rfl)) (ja_cons (jo_fz (je_len rfl Z.b_len (ja_cons (jo_var (i := 2) rfl (Or.inl rfl)) ja_nil))) ja_nil)))) ja_nil))) ja_nil)))))
  (jss_one (js_ret (je_up (jo_var (i := 3) rfl (Or.inl rfl))))))))
theorem sc_merged : FnScope ["left", "right", "found", "first", "second"] ["left", "right"] (defScope st_merged) := ⟨rfl, rfl, rfl, by decide +kernel, rfl, by decide +kernel, by decide +kernel⟩
theorem c_merged (Z : Fx K mg G) : CalK P w K mg base G 1 "merged" 2 f_merged := cal_of Z.d_merged sc_merged fun f cdv A outer s H E hr =>
  (jss_cons (js_asgO (i := 2) sc_merged.nd rfl (Or.inl rfl) (je_lst ja_nil))
  (jss_cons (js_asg (i := 3) sc_merged.nd rfl (Or.inl rfl) jo_int)
  (jss_cons (js_asg (i := 4) sc_merged.nd rfl (Or.inl rfl) jo_int)
  (jss_cons (js_while (passes_of rfl) (jt_w (jw_and (jt_ltA (hu_n hr) (jo_var (i := 3) rfl (Or.inl rfl)) (jo_fz (je_len rfl Z.b_len (ja_cons (jo_var (i := 0) rfl (Or.inl rfl)) ja_nil)))) (jw_and1 (jt_ltA (hu_n hr) (jo_var (i := 4) rfl (Or.inl rfl)) (jo_fz (je_len rfl Z.b_len (ja_cons (jo_var (i := 1) rfl (Or.inl rfl)) ja_nil)))))))
  (jss_one (js_if (jt_ltA (hu_n hr) (jo_fz (je_ix (hu_n hr) (fun _ _ => rfl) (fun _ _ => rfl) (jo_var (i := 1) rfl (Or.inl rfl)) (jo_var (i := 4) rfl (Or.inl rfl)))) (jo_fz (je_ix (hu_n hr) (fun _ _ => rfl) (fun _ _ => rfl) (jo_var (i := 0) rfl (Or.inl rfl)) (jo_var (i := 3) rfl (Or.inl rfl)))))
  (jss_cons (js_drop (je_append (jo_var (i := 2) rfl (Or.inl rfl)) (ja_cons (jo_fz (je_ix (hu_n hr) (fun _ _ => rfl) (fun _ _ => rfl) (jo_var (i := 1) rfl (Or.inl rfl)) (jo_var (i := 4) rfl (Or.inl rfl)))) ja_nil)))
  (jss_one (js_asg (i := 4) sc_merged.nd rfl (Or.inl rfl) (jo_fz (je_add (jo_var (i := 4) rfl (Or.inl rfl)) jo_int)))))
  (jss_cons (js_drop (je_append (jo_var (i := 2) rfl (Or.inl rfl)) (ja_cons (jo_fz (je_ix (hu_n hr) (fun _ _ => rfl) (fun _ _ => rfl) (jo_var (i := 0) rfl (Or.inl rfl)) (jo_var (i := 3) rfl (Or.inl rfl)))) ja_nil)))
  (jss_one (js_asg (i := 3) sc_merged.nd rfl (Or.inl rfl) (jo_fz (je_add (jo_var (i := 3) rfl (Or.inl rfl)) jo_int))))))))
  (jss_one (js_ret (je_add (jo_fz (je_add (jo_var (i := 2) rfl (Or.inl rfl)) (jo_fz (je_slice (jo_var (i := 0) rfl (Or.inl rfl)) (jp_some (jo_var (i := 3) rfl (Or.inl rfl))) jp_no)))) (jo_fz (je_slice (jo_var (i := 1) rfl (Or.inl rfl)) (jp_some (jo_var (i := 4) rfl (Or.inl rfl))) jp_no)))))))))
theorem sc_ascending : FnScope ["things", "rows", "thing", "joined", "at"] ["things"] (defScope st_ascending) := ⟨rfl, rfl, rfl, by decide +kernel, rfl, by decide +kernel, by decide +kernel⟩
theorem c_ascending (Z : Fx K mg G) : CalK P w K mg base G 2 "ascending" 1 f_ascending := cal_of Z.d_ascending sc_ascending fun f cdv A outer s H E hr =>
  (jss_cons (js_setLc (i := 1) (own := [("thing", 2)]) rfl sc_ascending.nd rfl rfl (sw_true rfl rfl rfl (by decide +kernel)) (ji_seq (jo_var (i := 0) rfl (Or.inl rfl))) (blkOk_by (N := ["things", "rows", "thing", "joined", "at"]) (sc := defScope st_ascending) (by decide +kernel)) (fun _ h => h) (fun _ _ _ _ _ => (jg_name (i := 2) sc_ascending.nd rfl (Or.inl rfl))) (fun _ _ _ _ _ => jts_nil) (fun _ _ _ _ _ => (jo_fz (je_lst (ja_cons (jo_var (i := 2) rfl (Or.inl rfl)) ja_nil)))))
  (jss_cons (js_while (passes_of rfl) (jt_gtA (hu_n hr) (jo_fz (je_len rfl Z.b_len (ja_cons (jo_var (i := 1) rfl (Or.inl rfl)) ja_nil))) jo_int)
  (jss_cons (js_asgO (i := 3) sc_ascending.nd rfl (Or.inl rfl) (je_lst ja_nil))
  (jss_cons (js_for (passes_of rfl) rfl (ji_r3 rfl Z.b_range (ja_cons jo_int (ja_cons (jo_fz (je_sub (jo_fz (je_len rfl Z.b_len (ja_cons (jo_var (i := 1) rfl (Or.inl rfl)) ja_nil))) jo_int)) (ja_cons jo_int ja_nil)))) (jg_name (i := 4) sc_ascending.nd rfl (Or.inl rfl))
  (jss_one (js_drop (je_append (jo_var (i := 3) rfl (Or.inl rfl)) (ja_cons (jo_fz (je_cal (c_merged Z) hr (by decide) rfl (takes_of rfl rfl rfl rfl) (ja_cons (jo_fz (je_ix (hu_n hr) (fun _ _ => rfl) (fun _ _ => rfl) (jo_var (i := 1) rfl (Or.inl rfl)) (jo_var (i := 4) rfl (Or.inl rfl)))) (ja_cons (jo_fz (je_ix (hu_n hr) (fun _ _ => rfl) (fun _ _ => rfl) (jo_var (i := 1) rfl (Or.inl rfl)) (jo_fz (je_add (jo_var (i := 4) rfl (Or.inl rfl)) jo_int)))) ja_nil)))) ja_nil)))))
  (jss_cons (js_if (jt_eqA (hu_n hr) (jo_fz (je_band (jo_fz (je_len rfl Z.b_len (ja_cons (jo_var (i := 1) rfl (Or.inl rfl)) ja_nil))) jo_int)) jo_int)
  (jss_one (js_drop (je_append (jo_var (i := 3) rfl (Or.inl rfl)) (ja_cons (jo_fz (je_ix (hu_n hr) (fun _ _ => rfl) (fun _ _ => rfl) (jo_var (i := 1) rfl (Or.inl rfl)) (jo_neg jo_int))) ja_nil))))
  jss_nil)
  (jss_one (js_fz 3 (js_asg (i := 1) sc_ascending.nd rfl (Or.inl rfl) (jo_var (i := 3) rfl (Or.inl rfl)))))))))
  (jss_cons (js_if (jt_not (jt_tru (jo_var (i := 1) rfl (Or.inl rfl))))
  (jss_one (js_ret (je_lst ja_nil)))
  jss_nil)
  (jss_one (js_ret (je_ix (hu_n hr) (fun _ _ => rfl) (fun _ _ => rfl) (jo_var (i := 1) rfl (Or.inl rfl)) jo_int))))))
theorem sc_numbered : FnScope ["things", "found", "clashing", "thing", "number", "ordered"] ["things"] (defScope st_numbered) := ⟨rfl, rfl, rfl, by decide +kernel, rfl, by decide +kernel, by decide +kernel⟩
theorem c_numbered (Z : Fx K mg G) : CalK P w K mg base G 3 "numbered" 1 f_numbered := cal_of Z.d_numbered sc_numbered fun f cdv A outer s H E hr =>
  (jss_cons (js_asgO (i := 1) sc_numbered.nd rfl (Or.inl rfl) je_dicK)
  (jss_cons (js_asgL (i := 2) sc_numbered.nd rfl (Or.inl rfl) (je_lst ja_nil))
  (jss_cons (js_forA (passes_of rfl) rfl (jo_var (i := 0) rfl (Or.inl rfl)) (jg_name (i := 3) sc_numbered.nd rfl (Or.inl rfl))
  (jss_cons (js_asg (i := 4) sc_numbered.nd rfl (Or.inl rfl) (jo_fz (je_ix (hu_n hr) (fun _ _ => rfl) (fun _ _ => rfl) (jo_var (i := 3) rfl (Or.inl rfl)) jo_int)))
  (jss_cons (js_if (jt_w (jw_and (jt_in (hu_n hr) (by with_unfolding_all rfl) (jo_var (i := 4) rfl (Or.inl rfl)) (jo_var (i := 1) rfl (Or.inl rfl))) (jw_and1 (jt_neA (hu_n hr) (jo_fz (je_ix (hu_n hr) (fun _ _ => rfl) (fun _ _ => rfl) (jo_var (i := 1) rfl (Or.inl rfl)) (jo_var (i := 4) rfl (Or.inl rfl)))) (jo_var (i := 3) rfl (Or.inl rfl))))))
  (jss_one (js_drop (je_append (jo_var (i := 2) rfl (Or.inl rfl)) (ja_cons (jo_var (i := 4) rfl (Or.inl rfl)) ja_nil))))
  jss_nil)
  (jss_one (js_set (hu_n hr) (jo_var (i := 3) rfl (Or.inl rfl)) (jo_var (i := 1) rfl (Or.inl rfl)) (jo_var (i := 4) rfl (Or.inl rfl)))))))
  (jss_cons (js_if (jt_tru (jo_var (i := 2) rfl (Or.inl rfl)))
  (jss_one (js_raise1 (c := "Clash") (f := "number") (ex_Clash Z) rfl (takes_of rfl rfl rfl rfl) (hr.rm.mono (by decide)) rfl (ja_cons (jo_fz (je_ix (hu_n hr) (fun _ _ => rfl) (fun _ _ => rfl) (jo_fz (je_cal (c_ascending Z) hr (by decide) rfl (takes_of rfl rfl rfl rfl) (ja_cons (jo_var (i := 2) rfl (Or.inl rfl)) ja_nil))) jo_int)) ja_nil)))
  jss_nil)
  (jss_cons (js_asgO (i := 5) sc_numbered.nd rfl (Or.inl rfl) je_dicK)
  (jss_cons (js_forA (passes_of rfl) rfl (jo_fz (je_cal (c_ascending Z) hr (by decide) rfl (takes_of rfl rfl rfl rfl) (ja_cons (jo_fz (je_list rfl rfl Z.b_list (ja_cons (jo_var (i := 1) rfl (Or.inl rfl)) ja_nil))) ja_nil))) (jg_name (i := 4) sc_numbered.nd rfl (Or.inl rfl))
  (jss_one (js_set (hu_n hr) (jo_fz (je_ix (hu_n hr) (fun _ _ => rfl) (fun _ _ => rfl) (jo_var (i := 1) rfl (Or.inl rfl)) (jo_var (i := 4) rfl (Or.inl rfl)))) (jo_var (i := 5) rfl (Or.inl rfl)) (jo_var (i := 4) rfl (Or.inl rfl)))))
  (jss_one (js_ret (je_up (jo_var (i := 5) rfl (Or.inl rfl)))))))))))
theorem sc_is_number : FnScope ["thing", "low", "high"] ["thing", "low", "high"] (defScope st_is_number) := ⟨rfl, rfl, rfl, by decide +kernel, rfl, by decide +kernel, by decide +kernel⟩
theorem c_is_number (Z : Fx K mg G) : CalK P w K mg base G 1 "is_number" 3 f_is_number := cal_of Z.d_is_number sc_is_number fun f cdv A outer s H E hr =>
  (jss_one (js_ret (je_up (jo_and (jo_isi (kit_no bInt) (.ty "int") (pe_tyn rfl Z.b_int (by decide +kernel)) (jo_var (i := 0) rfl (Or.inl rfl)) rfl Z.b_isinstance) (jo_and (jo_not (jo_isi (kit_no bBl) (.ty "bool") (pe_tyn rfl Z.b_bool (by decide +kernel)) (jo_var (i := 0) rfl (Or.inl rfl)) rfl Z.b_isinstance)) (jo_one (jo_chain op_le op_le (ops_i0 fun _ _ => rfl) (ops_i0 fun _ _ => rfl) (jo_var (i := 1) rfl (Or.inl rfl)) (jo_var (i := 0) rfl (Or.inl rfl)) (jo_var (i := 2) rfl (Or.inl rfl)))))))))
theorem sc_is_name : FnScope ["thing", "letter"] ["thing"] (defScope st_is_name) := ⟨rfl, rfl, rfl, by decide +kernel, rfl, by decide +kernel, by decide +kernel⟩
theorem c_is_name (Z : Fx K mg G) : CalK P w K mg base G 1 "is_name" 1 f_is_name := cal_of Z.d_is_name sc_is_name fun f cdv A outer s H E hr =>
  (jss_cons (js_if (jt_w (jw_or (jt_not (jt_tru (jo_isi (kit_no bStr) (.ty "str") (pe_tyn rfl Z.b_str (by decide +kernel)) (jo_var (i := 0) rfl (Or.inl rfl)) rfl Z.b_isinstance))) (jw_or1 (jt_not (jt_chain op_le op_le (ops_i0 fun _ _ => rfl) (ops_i0 fun _ _ => rfl) jo_int (jo_fz (je_len rfl Z.b_len (ja_cons (jo_var (i := 0) rfl (Or.inl rfl)) ja_nil))) jo_int)))))
  (jss_one (js_ret (je_up jo_bl)))
  jss_nil)
  (jss_cons (js_forA (passes_of rfl) rfl (jo_var (i := 0) rfl (Or.inl rfl)) (jg_name (i := 1) sc_is_name.nd rfl (Or.inl rfl))
  (jss_one (js_if (jt_ni (hu_n hr) (by with_unfolding_all rfl) (jo_var (i := 1) rfl (Or.inl rfl)) (jo_glbS (s := "abcdefghijklmnopqrstuvwxyz") Z.gv_LETTERS rfl))
  (jss_one (js_ret (je_up jo_bl)))
  jss_nil)))
  (jss_one (js_ret (je_up jo_bl)))))
theorem sc_is_entry : FnScope ["thing"] ["thing"] (defScope st_is_entry) := ⟨rfl, rfl, rfl, by decide +kernel, rfl, by decide +kernel, by decide +kernel⟩
theorem c_is_entry (Z : Fx K mg G) : CalK P w K mg base G 2 "is_entry" 1 f_is_entry := cal_of Z.d_is_entry sc_is_entry fun f cdv A outer s H E hr =>
  (jss_cons (js_if (jt_w (jw_or (jt_not (jt_tru (jo_isi (kit_no bTup) (.ty "tuple") (pe_tyn rfl Z.b_tuple (by decide +kernel)) (jo_var (i := 0) rfl (Or.inl rfl)) rfl Z.b_isinstance))) (jw_or1 (jt_not (jt_chain op_le op_le (ops_i0 fun _ _ => rfl) (ops_i0 fun _ _ => rfl) jo_int (jo_fz (je_len rfl Z.b_len (ja_cons (jo_var (i := 0) rfl (Or.inl rfl)) ja_nil))) jo_int)))))
  (jss_one (js_ret (je_up jo_bl)))
  jss_nil)
  (jss_cons (js_if (jt_w (jw_or (jt_not (jt_tru (jo_fz (je_cal (c_is_number Z) hr (by decide) rfl (takes_of rfl rfl rfl rfl) (ja_cons (jo_fz (je_ix (hu_n hr) (fun _ _ => rfl) (fun _ _ => rfl) (jo_var (i := 0) rfl (Or.inl rfl)) jo_int)) (ja_cons jo_int (ja_cons (jo_glbI (i := 999) Z.gv_LAST_NUMBER rfl) ja_nil))))))) (jw_or1 (jt_not (jt_tru (jo_isi (kit_no bStr) (.ty "str") (pe_tyn rfl Z.b_str (by decide +kernel)) (jo_fz (je_ix (hu_n hr) (fun _ _ => rfl) (fun _ _ => rfl) (jo_var (i := 0) rfl (Or.inl rfl)) jo_int)) rfl Z.b_isinstance))))))
  (jss_one (js_ret (je_up jo_bl)))
  jss_nil)
  (jss_cons (js_if (jt_eqA (hu_n hr) (jo_fz (je_ix (hu_n hr) (fun _ _ => rfl) (fun _ _ => rfl) (jo_var (i := 0) rfl (Or.inl rfl)) jo_int)) jo_str)
  (jss_one (js_ret (je_up (jo_and (jo_fz (je_eqA (hu_n hr) (jo_fz (je_len rfl Z.b_len (ja_cons (jo_var (i := 0) rfl (Or.inl rfl)) ja_nil))) jo_int)) (jo_one (jo_fz (je_cal (c_is_number Z) hr (by decide) rfl (takes_of rfl rfl rfl rfl) (ja_cons (jo_fz (je_ix (hu_n hr) (fun _ _ => rfl) (fun _ _ => rfl) (jo_var (i := 0) rfl (Or.inl rfl)) jo_int)) (ja_cons jo_int (ja_cons (jo_fz (je_sub (jo_fz (je_ix (hu_n hr) (fun _ _ => rfl) (fun _ _ => rfl) (jo_var (i := 0) rfl (Or.inl rfl)) jo_int)) jo_int)) ja_nil))))))))))
  jss_nil)
  (jss_cons (js_if (jt_w (jw_and (jt_neA (hu_n hr) (jo_fz (je_ix (hu_n hr) (fun _ _ => rfl) (fun _ _ => rfl) (jo_var (i := 0) rfl (Or.inl rfl)) jo_int)) jo_str) (jw_and1 (jt_neA (hu_n hr) (jo_fz (je_ix (hu_n hr) (fun _ _ => rfl) (fun _ _ => rfl) (jo_var (i := 0) rfl (Or.inl rfl)) jo_int)) jo_str))))
  (jss_one (js_ret (je_up jo_bl)))
  jss_nil)
  (jss_one (js_ret (je_up (jo_and (jo_fz (je_eqA (hu_n hr) (jo_fz (je_len rfl Z.b_len (ja_cons (jo_var (i := 0) rfl (Or.inl rfl)) ja_nil))) jo_int)) (jo_and (jo_fz (je_cal (c_is_number Z) hr (by decide) rfl (takes_of rfl rfl rfl rfl) (ja_cons (jo_fz (je_ix (hu_n hr) (fun _ _ => rfl) (fun _ _ => rfl) (jo_var (i := 0) rfl (Or.inl rfl)) jo_int)) (ja_cons jo_int (ja_cons (jo_glbI (i := 59) Z.gv_LAST_DAY rfl) ja_nil))))) (jo_one (jo_fz (je_cal (c_is_name Z) hr (by decide) rfl (takes_of rfl rfl rfl rfl) (ja_cons (jo_fz (je_ix (hu_n hr) (fun _ _ => rfl) (fun _ _ => rfl) (jo_var (i := 0) rfl (Or.inl rfl)) jo_int)) ja_nil)))))))))))))
theorem sc_Sheet____init__ : FnScope ["self", "entries", "entry"] ["self", "entries"] (defScope st_Sheet____init__) := ⟨rfl, rfl, rfl, by decide +kernel, rfl, by decide +kernel, by decide +kernel⟩
theorem c_Sheet____init__ {fA : Addr} {fdA : FuncData} (Z : Fx K mg G) (Fu : FunV K "__init__" "Sheet.__init__" st_Sheet____init__ fA fdA) : FnG P w K mg base 4 fA fdA ["self", "entries"] (spS G K 2 f_Sheet____init__) := fn_simV Fu sc_Sheet____init__ fun cdv A outer s H E hr =>
  (jss_cons (js_forA (passes_of rfl) rfl (jo_var (i := 1) rfl (Or.inl rfl)) (jg_name (i := 2) sc_Sheet____init__.nd rfl (Or.inl rfl))
  (jss_one (js_if (jt_not (jt_tru (jo_fz (je_cal (c_is_entry Z) hr (by decide) rfl (takes_of rfl rfl rfl rfl) (ja_cons (jo_var (i := 2) rfl (Or.inl rfl)) ja_nil)))))
  (jss_one (js_raise1 (c := "BadEntry") (f := "entry") (ex_BadEntry Z) rfl (takes_of rfl rfl rfl rfl) (hr.rm.mono (by decide)) rfl (ja_cons (jo_var (i := 2) rfl (Or.inl rfl)) ja_nil)))
  jss_nil)))
  (jss_one (js_setF Z.fl_by_number (jo_fz (je_cal (c_numbered Z) hr (by decide) rfl (takes_of rfl rfl rfl rfl) (ja_cons (jo_fz (je_list rfl rfl Z.b_list (ja_cons (jo_var (i := 1) rfl (Or.inl rfl)) ja_nil))) ja_nil))) (jo_var (i := 0) rfl (Or.inl rfl)))))
theorem sc__law_sorted : FnScope ["things", "out", "thing", "at"] ["things"] (defScope st__law_sorted) := ⟨rfl, rfl, rfl, by decide +kernel, rfl, by decide +kernel, by decide +kernel⟩
theorem c__law_sorted (Z : Fx K mg G) : CalK P w K mg base G 1 "_law_sorted" 1 f__law_sorted := cal_of Z.d__law_sorted sc__law_sorted fun f cdv A outer s H E hr =>
  (jss_cons (js_asgO (i := 1) sc__law_sorted.nd rfl (Or.inl rfl) (je_lst ja_nil))
  (jss_cons (js_forA (passes_of rfl) rfl (jo_var (i := 0) rfl (Or.inl rfl)) (jg_name (i := 2) sc__law_sorted.nd rfl (Or.inl rfl))
  (jss_cons (js_asg (i := 3) sc__law_sorted.nd rfl (Or.inl rfl) jo_int)
  (jss_cons (js_while (passes_of rfl) (jt_w (jw_and (jt_ltA (hu_n hr) (jo_var (i := 3) rfl (Or.inl rfl)) (jo_fz (je_len rfl Z.b_len (ja_cons (jo_var (i := 1) rfl (Or.inl rfl)) ja_nil)))) (jw_and1 (jt_leA (hu_n hr) (jo_fz (je_ix (hu_n hr) (fun _ _ => rfl) (fun _ _ => rfl) (jo_var (i := 1) rfl (Or.inl rfl)) (jo_var (i := 3) rfl (Or.inl rfl)))) (jo_var (i := 2) rfl (Or.inl rfl))))))
  (jss_one (js_augAdd (i := 3) sc__law_sorted.nd rfl (Or.inl rfl) jo_int)))
  (jss_one (js_drop (je_insert (jo_var (i := 1) rfl (Or.inl rfl)) (ja_cons (jo_var (i := 3) rfl (Or.inl rfl)) (ja_cons (jo_var (i := 2) rfl (Or.inl rfl)) ja_nil))))))))
  (jss_one (js_ret (je_up (jo_var (i := 1) rfl (Or.inl rfl)))))))
theorem sc__law_stood : FnScope ["read", "gone", "out", "entry"] ["read"] (defScope st__law_stood) := ⟨rfl, rfl, rfl, by decide +kernel, rfl, by decide +kernel, by decide +kernel⟩
theorem c__law_stood (Z : Fx K mg G) : CalK P w K mg base G 2 "_law_stood" 1 f__law_stood := cal_of Z.d__law_stood sc__law_stood fun f cdv A outer s H E hr =>
  (jss_cons (js_asgO (i := 1) sc__law_stood.nd rfl (Or.inl rfl) (je_lst ja_nil))
  (jss_cons (js_asgO (i := 2) sc__law_stood.nd rfl (Or.inl rfl) (je_lst ja_nil))
  (jss_cons (js_forA (passes_of rfl) rfl (jo_fz (je_revL (jo_fz (je_cal (c__law_sorted Z) hr (by decide) rfl (takes_of rfl rfl rfl rfl) (ja_cons (jo_var (i := 0) rfl (Or.inl rfl)) ja_nil))))) (jg_name (i := 3) sc__law_stood.nd rfl (Or.inl rfl))
  (jss_one (js_if (jt_ni (hu_n hr) (by with_unfolding_all rfl) (jo_fz (je_ix (hu_n hr) (fun _ _ => rfl) (fun _ _ => rfl) (jo_var (i := 3) rfl (Or.inl rfl)) jo_int)) (jo_var (i := 1) rfl (Or.inl rfl)))
  (jss_cons (js_drop (je_append (jo_var (i := 2) rfl (Or.inl rfl)) (ja_cons (jo_fz (je_ix (hu_n hr) (fun _ _ => rfl) (fun _ _ => rfl) (jo_var (i := 3) rfl (Or.inl rfl)) jo_int)) ja_nil)))
  (jss_one (js_if (jt_eqA (hu_n hr) (jo_fz (je_ix (hu_n hr) (fun _ _ => rfl) (fun _ _ => rfl) (jo_var (i := 3) rfl (Or.inl rfl)) jo_int)) jo_str)
  (jss_one (js_drop (je_append (jo_var (i := 1) rfl (Or.inl rfl)) (ja_cons (jo_fz (je_ix (hu_n hr) (fun _ _ => rfl) (fun _ _ => rfl) (jo_var (i := 3) rfl (Or.inl rfl)) jo_int)) ja_nil))))
  jss_nil)))
  jss_nil)))
  (jss_one (js_ret (je_up (jo_var (i := 2) rfl (Or.inl rfl))))))))
theorem sc__law_new_name : FnScope ["bag", "used", "letters", "told", "step", "near", "at", "tails", "k", "tail"] ["bag", "used"] (defScope st__law_new_name) := ⟨rfl, rfl, rfl, by decide +kernel, rfl, by decide +kernel, by decide +kernel⟩
theorem c__law_new_name (Z : Fx K mg G) : CalK P w K mg base G 3 "_law_new_name" 2 f__law_new_name := cal_of Z.d__law_new_name sc__law_new_name fun f cdv A outer s H E hr =>
  (jss_cons (js_asg (i := 2) sc__law_new_name.nd rfl (Or.inr rfl) jo_str)
  (jss_cons (js_asg (i := 3) sc__law_new_name.nd rfl (Or.inr rfl) (jo_fz (je_join jo_str (jo_fz (je_lc (own := [("step", 4)]) rfl sc__law_new_name.nd (ji_r1 rfl Z.b_range (ja_cons (jo_fz (je_add jo_int (jo_fz (je_cal (c__law_pick Z) hr (by decide) rfl (takes_of rfl rfl rfl rfl) (ja_cons (jo_var (i := 0) rfl (Or.inr (Or.inl rfl))) (ja_cons jo_int ja_nil)))))) ja_nil)) (blkOk_by (N := ["bag", "used", "letters", "told", "step", "near", "at", "tails", "k", "tail"]) (sc := defScope st__law_new_name) (by decide +kernel)) (fun _ h => h) (fun _ _ _ _ _ => (jg_name (i := 4) sc__law_new_name.nd rfl (Or.inl rfl))) (fun _ _ _ _ _ => jts_nil) (fun _ _ _ _ _ => (jo_fz (je_ix (hu_n hr) (fun _ _ => rfl) (fun _ _ => rfl) (jo_var (i := 2) rfl (Or.inr (Or.inl rfl))) (jo_fz (je_cal (c__law_pick Z) hr (by decide) rfl takes0 (ja_cons (jo_var (i := 0) rfl (Or.inr (Or.inl rfl))) (ja_cons jo_int ja_nil))))))))))))
  (jss_cons (js_if (jt_w (jw_and (jt_tru (jo_var (i := 1) rfl (Or.inr (Or.inl rfl)))) (jw_and1 (jt_eqA (hu_n hr) (jo_fz (je_cal (c__law_pick Z) hr (by decide) rfl (takes_of rfl rfl rfl rfl) (ja_cons (jo_var (i := 0) rfl (Or.inr (Or.inl rfl))) (ja_cons jo_int ja_nil)))) jo_int))))
  (jss_cons (js_asg (i := 5) sc__law_new_name.nd rfl (Or.inl rfl) (jo_fz (je_slice (jo_fz (je_ix (hu_n hr) (fun _ _ => rfl) (fun _ _ => rfl) (jo_var (i := 1) rfl (Or.inr (Or.inl rfl))) (jo_fz (je_cal (c__law_pick Z) hr (by decide) rfl (takes_of rfl rfl rfl rfl) (ja_cons (jo_var (i := 0) rfl (Or.inr (Or.inl rfl))) (ja_cons (jo_fz (je_len rfl Z.b_len (ja_cons (jo_var (i := 1) rfl (Or.inr (Or.inl rfl))) ja_nil))) ja_nil)))))) jp_no (jp_some jo_int))))
  (jss_cons (js_asg (i := 6) sc__law_new_name.nd rfl (Or.inl rfl) (jo_fz (je_cal (c__law_pick Z) hr (by decide) rfl (takes_of rfl rfl rfl rfl) (ja_cons (jo_var (i := 0) rfl (Or.inr (Or.inl rfl))) (ja_cons (jo_fz (je_len rfl Z.b_len (ja_cons (jo_var (i := 5) rfl (Or.inl rfl)) ja_nil))) ja_nil)))))
  (jss_one (js_asg (i := 3) sc__law_new_name.nd rfl (Or.inr rfl) (jo_fz (je_add (jo_fz (je_add (jo_fz (je_slice (jo_var (i := 5) rfl (Or.inl rfl)) jp_no (jp_some (jo_var (i := 6) rfl (Or.inl rfl))))) (jo_fz (je_ix (hu_n hr) (fun _ _ => rfl) (fun _ _ => rfl) (jo_var (i := 2) rfl (Or.inr (Or.inl rfl))) (jo_fz (je_cal (c__law_pick Z) hr (by decide) rfl (takes_of rfl rfl rfl rfl) (ja_cons (jo_var (i := 0) rfl (Or.inr (Or.inl rfl))) (ja_cons jo_int ja_nil)))))))) (jo_fz (je_slice (jo_var (i := 5) rfl (Or.inl rfl)) (jp_some (jo_fz (je_add (jo_var (i := 6) rfl (Or.inl rfl)) jo_int))) jp_no))))))))
  jss_nil)
  (jss_cons (js_if (jt_in (hu_n hr) (by with_unfolding_all rfl) (jo_var (i := 3) rfl (Or.inr (Or.inl rfl))) (jo_var (i := 1) rfl (Or.inr (Or.inl rfl))))
  (jss_cons (js_setLc (i := 7) (own := [("k", 8)]) rfl sc__law_new_name.nd rfl rfl (sw_true rfl rfl rfl (by decide +kernel)) (ji_r1 rfl Z.b_range (ja_cons jo_int ja_nil)) (blkOk_by (N := ["bag", "used", "letters", "told", "step", "near", "at", "tails", "k", "tail"]) (sc := defScope st__law_new_name) (by decide +kernel)) (fun _ h => h) (fun _ _ _ _ _ => (jg_name (i := 8) sc__law_new_name.nd rfl (Or.inl rfl))) (fun _ _ _ _ _ => jts_nil) (fun _ _ _ _ _ => (jo_fz (je_add (jo_fz (je_ix (hu_n hr) (fun _ _ => rfl) (fun _ _ => rfl) (jo_var (i := 2) rfl (Or.inr (Or.inl rfl))) (jo_fz (je_fdiv (jo_var (i := 8) rfl (Or.inl rfl)) jo_int)))) (jo_fz (je_ix (hu_n hr) (fun _ _ => rfl) (fun _ _ => rfl) (jo_var (i := 2) rfl (Or.inr (Or.inl rfl))) (jo_fz (je_mod (jo_fz (je_int rfl Z.b_int (ja_cons (jo_var (i := 8) rfl (Or.inl rfl)) ja_nil))) jo_int))))))))
  (jss_one (js_asg (i := 3) sc__law_new_name.nd rfl (Or.inr rfl) (jo_fz (je_ix (hu_n hr) (fun _ _ => rfl) (fun _ _ => rfl) (jo_fz (je_lc (own := [("tail", 9)]) rfl sc__law_new_name.nd (ji_seq (jo_var (i := 7) rfl (Or.inl rfl))) (blkOk_by (N := ["bag", "used", "letters", "told", "step", "near", "at", "tails", "k", "tail"]) (sc := defScope st__law_new_name) (by decide +kernel)) (fun _ h => h) (fun _ _ _ _ _ => (jg_name (i := 9) sc__law_new_name.nd rfl (Or.inl rfl))) (fun _ _ _ _ _ => (jts_one (jt_ni (hu_n hr) (by with_unfolding_all rfl) (jo_fz (je_add (jo_fz (je_slice (jo_var (i := 3) rfl (Or.inr (Or.inl rfl))) jp_no (jp_some jo_int))) (jo_var (i := 9) rfl (Or.inl rfl)))) (jo_var (i := 1) rfl (Or.inr (Or.inl rfl)))))) (fun _ _ _ _ _ => (jo_fz (je_add (jo_fz (je_slice (jo_var (i := 3) rfl (Or.inr (Or.inl rfl))) jp_no (jp_some jo_int))) (jo_var (i := 9) rfl (Or.inl rfl))))))) jo_int)))))
  jss_nil)
  (jss_cons (js_drop (je_append (jo_var (i := 1) rfl (Or.inr (Or.inl rfl))) (ja_cons (jo_var (i := 3) rfl (Or.inr (Or.inl rfl))) ja_nil)))
  (jss_one (js_ret (je_up (jo_var (i := 3) rfl (Or.inr (Or.inl rfl)))))))))))
theorem sc_Sheet____ior__ : FnScope ["self", "other"] ["self", "other"] (defScope st_Sheet____ior__) := ⟨rfl, rfl, rfl, by decide +kernel, rfl, by decide +kernel, by decide +kernel⟩
theorem c_Sheet____ior__ {fA : Addr} {fdA : FuncData} (Z : Fx K mg G) (Fu : L2.Fun K "__ior__" "Sheet.__ior__" st_Sheet____ior__ fA fdA) : FnG P w K mg base 4 fA fdA ["self", "other"] (spS G K 2 f_Sheet____ior__) := fn_sim Fu sc_Sheet____ior__ fun cdv A outer s H E hr =>
  (jss_cons (js_setF Z.fl_by_number (jo_fz (je_cal (c_numbered Z) hr (by decide) rfl (takes_of rfl rfl rfl rfl) (ja_cons (jo_fz (je_add (jo_fz (je_listV rfl rfl Z.b_list (jo_fz (je_fld Z.fl_by_number (jo_var (i := 0) rfl (Or.inl rfl)))))) (jo_fz (je_listV rfl rfl Z.b_list (jo_fz (je_fld Z.fl_by_number (jo_var (i := 1) rfl (Or.inl rfl)))))))) ja_nil))) (jo_var (i := 0) rfl (Or.inl rfl)))
  (jss_one (js_ret (je_up (jo_var (i := 0) rfl (Or.inl rfl))))))
theorem sc__law_asked : FnScope ["numbers", "out", "number"] ["numbers"] (defScope st__law_asked) := ⟨rfl, rfl, rfl, by decide +kernel, rfl, by decide +kernel, by decide +kernel⟩
theorem c__law_asked (Z : Fx K mg G) : CalK P w K mg base G 1 "_law_asked" 1 f__law_asked := cal_of Z.d__law_asked sc__law_asked fun f cdv A outer s H E hr =>
  (jss_cons (js_asg (i := 1) sc__law_asked.nd rfl (Or.inl rfl) (jo_fz (je_add (jo_fz (je_list rfl rfl Z.b_list (ja_cons (jo_var (i := 0) rfl (Or.inl rfl)) ja_nil))) (jo_fz (je_lst (ja_cons jo_int (ja_cons jo_int ja_nil)))))))
  (jss_cons (js_if (jt_ltA (hu_n hr) (jo_fz (je_len rfl Z.b_len (ja_cons (jo_var (i := 0) rfl (Or.inl rfl)) ja_nil))) jo_int)
  (jss_one (js_asg (i := 1) sc__law_asked.nd rfl (Or.inl rfl) (jo_fz (je_add (jo_fz (je_add (jo_var (i := 1) rfl (Or.inl rfl)) (jo_fz (je_lc (own := [("number", 2)]) rfl sc__law_asked.nd (ji_seq (jo_var (i := 0) rfl (Or.inl rfl))) (blkOk_by (N := ["numbers", "out", "number"]) (sc := defScope st__law_asked) (by decide +kernel)) (fun _ h => h) (fun _ _ _ _ _ => (jg_name (i := 2) sc__law_asked.nd rfl (Or.inl rfl))) (fun _ _ _ _ _ => (jts_one (jt_gtA (hu_n hr) (jo_var (i := 2) rfl (Or.inl rfl)) jo_int))) (fun _ _ _ _ _ => (jo_fz (je_sub (jo_var (i := 2) rfl (Or.inl rfl)) jo_int))))))) (jo_fz (je_lc (own := [("number", 2)]) rfl sc__law_asked.nd (ji_seq (jo_var (i := 0) rfl (Or.inl rfl))) (blkOk_by (N := ["numbers", "out", "number"]) (sc := defScope st__law_asked) (by decide +kernel)) (fun _ h => h) (fun _ _ _ _ _ => (jg_name (i := 2) sc__law_asked.nd rfl (Or.inl rfl))) (fun _ _ _ _ _ => jts_nil) (fun _ _ _ _ _ => (jo_fz (je_add (jo_var (i := 2) rfl (Or.inl rfl)) jo_int)))))))))
  jss_nil)
  (jss_one (js_ret (je_up (jo_var (i := 1) rfl (Or.inl rfl)))))))
theorem sc_Sheet__standing_numbers : FnScope ["self", "withdrawn", "found", "number"] ["self"] (defScope st_Sheet__standing_numbers) := ⟨rfl, rfl, rfl, by decide +kernel, rfl, by decide +kernel, by decide +kernel⟩
theorem c_Sheet__standing_numbers {fA : Addr} {fdA : FuncData} (Z : Fx K mg G) (Fu : L2.Fun K "standing_numbers" "Sheet.standing_numbers" st_Sheet__standing_numbers fA fdA) : FnG P w K mg base 1 fA fdA ["self"] (spS G K 1 f_Sheet__standing_numbers) := fn_sim Fu sc_Sheet__standing_numbers fun cdv A outer s H E hr =>
  (jss_cons (js_asgO (i := 1) sc_Sheet__standing_numbers.nd rfl (Or.inl rfl) je_dicK)
  (jss_cons (js_asgO (i := 2) sc_Sheet__standing_numbers.nd rfl (Or.inl rfl) je_dicK)
  (jss_cons (js_for (passes_of rfl) rfl (ji_rev rfl Z.b_reversed (ja_cons (jo_fz (je_list rfl rfl Z.b_list (ja_cons (jo_fz (je_fld Z.fl_by_number (jo_var (i := 0) rfl (Or.inl rfl)))) ja_nil))) ja_nil)) (jg_name (i := 3) sc_Sheet__standing_numbers.nd rfl (Or.inl rfl))
  (jss_one (js_if (jt_ni (hu_n hr) (by with_unfolding_all rfl) (jo_var (i := 3) rfl (Or.inl rfl)) (jo_var (i := 1) rfl (Or.inl rfl)))
  (jss_cons (js_set (hu_n hr) jo_bl (jo_var (i := 2) rfl (Or.inl rfl)) (jo_var (i := 3) rfl (Or.inl rfl)))
  (jss_one (js_if (jt_eqA (hu_n hr) (jo_fz (je_ix (hu_n hr) (fun _ _ => rfl) (fun _ _ => rfl) (jo_fz (je_ix (hu_n hr) (fun _ _ => rfl) (fun _ _ => rfl) (jo_fz (je_fld Z.fl_by_number (jo_var (i := 0) rfl (Or.inl rfl)))) (jo_var (i := 3) rfl (Or.inl rfl)))) jo_int)) jo_str)
  (jss_one (js_set (hu_n hr) jo_bl (jo_var (i := 1) rfl (Or.inl rfl)) (jo_fz (je_ix (hu_n hr) (fun _ _ => rfl) (fun _ _ => rfl) (jo_fz (je_ix (hu_n hr) (fun _ _ => rfl) (fun _ _ => rfl) (jo_fz (je_fld Z.fl_by_number (jo_var (i := 0) rfl (Or.inl rfl)))) (jo_var (i := 3) rfl (Or.inl rfl)))) jo_int))))
  jss_nil)))
  jss_nil)))
  (jss_one (js_ret (je_up (jo_var (i := 2) rfl (Or.inl rfl))))))))
theorem mk_standing_numbers (Z : Fx K mg G) : ∀ c np mf, mt_standing_numbers c = some (np, mf) → MetG P w K mg base G 1 c "standing_numbers" np mf := by
  intro c np mf h
  unfold mt_standing_numbers at h
  split at h
  · rename_i e
    subst e
    cases h
    obtain ⟨f, fd, cl, hm, Fu, hb⟩ := Z.me_Sheet_standing_numbers
    exact ⟨f, fd, _, cl, hm, (c_Sheet__standing_numbers Z Fu).mono (by decide), hb⟩
  cases h
theorem sc_Sheet__stands : FnScope ["self", "number"] ["self", "number"] (defScope st_Sheet__stands) := ⟨rfl, rfl, rfl, by decide +kernel, rfl, by decide +kernel, by decide +kernel⟩
theorem c_Sheet__stands {fA : Addr} {fdA : FuncData} (Z : Fx K mg G) (Fu : L2.Fun K "stands" "Sheet.stands" st_Sheet__stands fA fdA) : FnG P w K mg base 3 fA fdA ["self", "number"] (spS G K 2 f_Sheet__stands) := fn_sim Fu sc_Sheet__stands fun cdv A outer s H E hr =>
  (jss_cons (js_if (jt_w (jw_or (jt_not (jt_tru (jo_fz (je_cal (c_is_number Z) hr (by decide) rfl (takes_of rfl rfl rfl rfl) (ja_cons (jo_var (i := 1) rfl (Or.inl rfl)) (ja_cons jo_int (ja_cons (jo_glbI (i := 999) Z.gv_LAST_NUMBER rfl) ja_nil))))))) (jw_or1 (jt_ni (hu_n hr) (by with_unfolding_all rfl) (jo_var (i := 1) rfl (Or.inl rfl)) (jo_fz (je_fld Z.fl_by_number (jo_var (i := 0) rfl (Or.inl rfl))))))))
  (jss_one (js_raise1 (c := "NoEntry") (f := "number") (ex_NoEntry Z) rfl (takes_of rfl rfl rfl rfl) (hr.rm.mono (by decide)) rfl (ja_cons (jo_var (i := 1) rfl (Or.inl rfl)) ja_nil)))
  jss_nil)
  (jss_one (js_ret (je_in (hu_n hr) (by with_unfolding_all rfl) (jo_var (i := 1) rfl (Or.inl rfl)) (jo_fz (je_met0 (mk_standing_numbers Z) hr (by decide) (takes_of rfl rfl rfl rfl) (jo_var (i := 0) rfl (Or.inl rfl))))))))
theorem sc__law_number : FnScope ["thing"] ["thing"] (defScope st__law_number) := ⟨rfl, rfl, rfl, by decide +kernel, rfl, by decide +kernel, by decide +kernel⟩
theorem c__law_number (Z : Fx K mg G) : CalK P w K mg base G 1 "_law_number" 1 f__law_number := cal_of Z.d__law_number sc__law_number fun f cdv A outer s H E hr =>
  (jss_one (js_ret (je_up (jo_and (jo_isi (kit_no bInt) (.ty "int") (pe_tyn rfl Z.b_int (by decide +kernel)) (jo_var (i := 0) rfl (Or.inl rfl)) rfl Z.b_isinstance) (jo_one (jo_not (jo_isi (kit_no bBl) (.ty "bool") (pe_tyn rfl Z.b_bool (by decide +kernel)) (jo_var (i := 0) rfl (Or.inl rfl)) rfl Z.b_isinstance)))))))
theorem s__law_number (Z : Fx K mg G) : CalS P w K mg base G 1 "_law_number" 1 f__law_number := calS_of Z.d__law_number sc__law_number fun f cdv B a outer s H E hr =>
  (jss_one (js_ret (je_up (jo_and (jo_isi (kit_no bInt) (.ty "int") (pe_tyn rfl Z.b_int (by decide +kernel)) (jo_var (i := 0) rfl (Or.inl rfl)) rfl Z.b_isinstance) (jo_one (jo_not (jo_isi (kit_no bBl) (.ty "bool") (pe_tyn rfl Z.b_bool (by decide +kernel)) (jo_var (i := 0) rfl (Or.inl rfl)) rfl Z.b_isinstance)))))))
theorem mk_stands (Z : Fx K mg G) : ∀ c np mf, mt_stands c = some (np, mf) → MetG P w K mg base G 3 c "stands" np mf := by
  intro c np mf h
  unfold mt_stands at h
  split at h
  · rename_i e
    subst e
    cases h
    obtain ⟨f, fd, cl, hm, Fu, hb⟩ := Z.me_Sheet_stands
    exact ⟨f, fd, _, cl, hm, (c_Sheet__stands Z Fu).mono (by decide), hb⟩
  cases h
theorem sc__law_told : FnScope ["sheet", "number", "told", "error", "sisters"] ["sheet", "number"] (defScope st__law_told) := ⟨rfl, rfl, rfl, by decide +kernel, rfl, by decide +kernel, by decide +kernel⟩
theorem c__law_told (Z : Fx K mg G) : CalK P w K mg base G 4 "_law_told" 2 f__law_told := cal_of Z.d__law_told sc__law_told fun f cdv A outer s H E hr =>
  (jss_cons (js_try (l := [(.ref (G "DueError"), tabL [("Clash", true), ("BadEntry", true), ("NoEntry", true)], some 3, (sSeq (sAsg 4 (cFz (cLst (cCons (cIsX (tabL [("Clash", false), ("BadEntry", true), ("NoEntry", false)]) 3) (cCons (cIsX (tabL [("Clash", false), ("BadEntry", false), ("NoEntry", false)]) 3) (cCons (cIsX (tabL [("Clash", true), ("BadEntry", false), ("NoEntry", false)]) 3) cNil))))))
  (sSeq (sIf (cOr (cBool (cOp inF (cD (.bl true)) (cVar 4))) (cOr (cNot (cTru (cIsX (tabL [("Clash", true), ("BadEntry", true), ("NoEntry", true)]) 3))) (cNot (cTru (cIsX (tabL [("Clash", false), ("BadEntry", false), ("NoEntry", true)]) 3))))) (sRet (cUp (cD (.str "another")))) sNx)
  (sRet (cUp (cIf (cAnd (cTru (cFz (cFnS 1 f__law_number (cCons (cXfM ["Clash", "NoEntry"] "number" 3) cNil)))) (cBool (cOp (orF eqF (dicF true)) (cXfM ["Clash", "NoEntry"] "number" 3) (cVar 1)))) (cD (.str "none")) (cD (.str "another"))))))))]) rfl rfl sc__law_told.nd (takes_of rfl rfl rfl rfl) (fun W1 pn1 xe1 tk1 hp1 => (jss_one (js_asg (i := 2) sc__law_told.nd rfl (Or.inl rfl) (jo_fz (je_met (mk_stands Z) hr (by decide) tk1 (jo_var (i := 0) rfl (Or.inl rfl)) (ja_cons (jo_var (i := 1) rfl (Or.inl rfl)) ja_nil))))))
  (JH.as ⟨rfl, by decide, .inl Z.g_DueError⟩ (tabL_ok (R := fun k r => PySem.W.exmOne K (.ref (G k)) (.ref (G "DueError")) = some r) (l := [("Clash", true), ("BadEntry", true), ("NoEntry", true)]) (by
    intro q hq
    simp only [List.mem_cons, List.not_mem_nil, or_false] at hq
    rcases hq with rfl | rfl | rfl
    · exact Z.xm_Clash_DueError
    · exact Z.xm_BadEntry_DueError
    · exact Z.xm_NoEntry_DueError)) rfl rfl (fun a oe cls d pn hz hf => (letI : EXC := ⟨a, cls, d⟩; (jss_cons (js_asg (i := 4) sc__law_told.nd rfl (Or.inl rfl) (jo_fz (je_lst (ja_cons (jo_isx (i := 3) (tab := tabL [("Clash", false), ("BadEntry", true), ("NoEntry", false)]) (tabL_ok (R := fun k r => ExcC K (G k) ∧ PySem.W.kitOne K (.ref (G k)) (.ref (G "BadEntry")) = some r) (l := [("Clash", false), ("BadEntry", true), ("NoEntry", false)]) (by
    intro q hq
    simp only [List.mem_cons, List.not_mem_nil, or_false] at hq
    rcases hq with rfl | rfl | rfl
    · exact ⟨Z.xc_Clash, Z.kt_Clash_BadEntry⟩
    · exact ⟨Z.xc_BadEntry, Z.kt_BadEntry_BadEntry⟩
    · exact ⟨Z.xc_NoEntry, Z.kt_NoEntry_BadEntry⟩)) (.own _) (pe_cls rfl Z.g_BadEntry) hz hf rfl (Or.inl rfl) rfl Z.b_isinstance) (ja_cons (jo_isx (i := 3) (tab := tabL [("Clash", false), ("BadEntry", false), ("NoEntry", false)]) (tabL_ok (R := fun k r => ExcC K (G k) ∧ PySem.W.kitOne K (.ref (G k)) (.ref (G "BadNumber")) = some r) (l := [("Clash", false), ("BadEntry", false), ("NoEntry", false)]) (by
    intro q hq
    simp only [List.mem_cons, List.not_mem_nil, or_false] at hq
    rcases hq with rfl | rfl | rfl
    · exact ⟨Z.xc_Clash, Z.kt_Clash_BadNumber⟩
    · exact ⟨Z.xc_BadEntry, Z.kt_BadEntry_BadNumber⟩
    · exact ⟨Z.xc_NoEntry, Z.kt_NoEntry_BadNumber⟩)) (.own _) (pe_cls rfl Z.g_BadNumber) hz hf rfl (Or.inl rfl) rfl Z.b_isinstance) (ja_cons (jo_isx (i := 3) (tab := tabL [("Clash", true), ("BadEntry", false), ("NoEntry", false)]) (tabL_ok (R := fun k r => ExcC K (G k) ∧ PySem.W.kitOne K (.ref (G k)) (.ref (G "Clash")) = some r) (l := [("Clash", true), ("BadEntry", false), ("NoEntry", false)]) (by
    intro q hq
    simp only [List.mem_cons, List.not_mem_nil, or_false] at hq
    rcases hq with rfl | rfl | rfl
    · exact ⟨Z.xc_Clash, Z.kt_Clash_Clash⟩
    · exact ⟨Z.xc_BadEntry, Z.kt_BadEntry_Clash⟩
    · exact ⟨Z.xc_NoEntry, Z.kt_NoEntry_Clash⟩)) (.own _) (pe_cls rfl Z.g_Clash) hz hf rfl (Or.inl rfl) rfl Z.b_isinstance) ja_nil))))))
  (jss_cons (js_if (jt_w (jw_or (jt_in (hu_m hr) (by with_unfolding_all rfl) jo_bl (jo_var (i := 4) rfl (Or.inl rfl))) (jw_or (jt_not (jt_tru (jo_isx (i := 3) (tab := tabL [("Clash", true), ("BadEntry", true), ("NoEntry", true)]) (tabL_ok (R := fun k r => ExcC K (G k) ∧ PySem.W.kitOne K (.ref (G k)) (.type "ValueError") = some r) (l := [("Clash", true), ("BadEntry", true), ("NoEntry", true)]) (by
    intro q hq
    simp only [List.mem_cons, List.not_mem_nil, or_false] at hq
    rcases hq with rfl | rfl | rfl
    · exact ⟨Z.xc_Clash, Z.kv_Clash⟩
    · exact ⟨Z.xc_BadEntry, Z.kv_BadEntry⟩
    · exact ⟨Z.xc_NoEntry, Z.kv_NoEntry⟩)) (.ty "ValueError") (pe_tyn rfl Z.b_ValueError (by decide +kernel)) hz hf rfl (Or.inl rfl) rfl Z.b_isinstance))) (jw_or1 (jt_not (jt_tru (jo_isx (i := 3) (tab := tabL [("Clash", false), ("BadEntry", false), ("NoEntry", true)]) (tabL_ok (R := fun k r => ExcC K (G k) ∧ PySem.W.kitOne K (.ref (G k)) (.ref (G "NoEntry")) = some r) (l := [("Clash", false), ("BadEntry", false), ("NoEntry", true)]) (by
    intro q hq
    simp only [List.mem_cons, List.not_mem_nil, or_false] at hq
    rcases hq with rfl | rfl | rfl
    · exact ⟨Z.xc_Clash, Z.kt_Clash_NoEntry⟩
    · exact ⟨Z.xc_BadEntry, Z.kt_BadEntry_NoEntry⟩
    · exact ⟨Z.xc_NoEntry, Z.kt_NoEntry_NoEntry⟩)) (.own _) (pe_cls rfl Z.g_NoEntry) hz hf rfl (Or.inl rfl) rfl Z.b_isinstance)))))))
  (jss_one (js_ret (je_up jo_str)))
  jss_nil)
  (jss_one (js_ret (je_up (jo_if (jt_w (jw_and (jt_tru (jo_fz (je_calS (s__law_number Z) hr.soft (by decide) hr.rm.hd rfl (ja_cons (jo_xfM (cs := ["Clash", "NoEntry"]) (f := "number") (i := 3) (by
    intro q hq
    simp only [List.mem_cons, List.not_mem_nil, or_false] at hq
    rcases hq with rfl | rfl
    · exact ⟨Z.xf_Clash, Z.no_Clash_number⟩
    · exact ⟨Z.xf_NoEntry, Z.no_NoEntry_number⟩) hz hf rfl (Or.inl rfl)) ja_nil)))) (jw_and1 (jt_eqA (hu_m hr) (jo_xfM (cs := ["Clash", "NoEntry"]) (f := "number") (i := 3) (by
    intro q hq
    simp only [List.mem_cons, List.not_mem_nil, or_false] at hq
    rcases hq with rfl | rfl
    · exact ⟨Z.xf_Clash, Z.no_Clash_number⟩
    · exact ⟨Z.xf_NoEntry, Z.no_NoEntry_number⟩) hz hf rfl (Or.inl rfl)) (jo_var (i := 1) rfl (Or.inl rfl)))))) jo_str jo_str)))))))) JH.nil))
  (jss_cons (js_if (jt_isB (jo_var (i := 2) rfl (Or.inl rfl)) jo_bl)
  (jss_one (js_ret (je_up jo_str)))
  jss_nil)
  (jss_one (js_ret (je_up (jo_if (jt_isB (jo_var (i := 2) rfl (Or.inl rfl)) jo_bl) jo_str jo_str))))))
theorem sc__law_due : FnScope ["read", "stood", "number", "entry"] ["read", "stood", "number"] (defScope st__law_due) := ⟨rfl, rfl, rfl, by decide +kernel, rfl, by decide +kernel, by decide +kernel⟩
theorem c__law_due (Z : Fx K mg G) : CalK P w K mg base G 1 "_law_due" 3 f__law_due := cal_of Z.d__law_due sc__law_due fun f cdv A outer s H E hr =>
  (jss_cons (js_if (jt_in (hu_n hr) (by with_unfolding_all rfl) (jo_var (i := 2) rfl (Or.inl rfl)) (jo_var (i := 1) rfl (Or.inl rfl)))
  (jss_one (js_ret (je_up jo_str)))
  jss_nil)
  (jss_one (js_ret (je_up (jo_if (jt_in (hu_n hr) (by with_unfolding_all rfl) (jo_var (i := 2) rfl (Or.inl rfl)) (jo_fz (je_lc (own := [("entry", 3)]) rfl sc__law_due.nd (ji_seq (jo_var (i := 0) rfl (Or.inl rfl))) (blkOk_by (N := ["read", "stood", "number", "entry"]) (sc := defScope st__law_due) (by decide +kernel)) (fun _ h => h) (fun _ _ _ _ _ => (jg_name (i := 3) sc__law_due.nd rfl (Or.inl rfl))) (fun _ _ _ _ _ => jts_nil) (fun _ _ _ _ _ => (jo_fz (je_ix (hu_n hr) (fun _ _ => rfl) (fun _ _ => rfl) (jo_var (i := 3) rfl (Or.inl rfl)) jo_int)))))) jo_str jo_str)))))
theorem ok_ior (Z : Fx K mg G) : ∀ c mf, ot_ior c = some mf → SpcG P w K mg base G 4 c "__ior__" 2 mf := by
  intro c mf h
  unfold ot_ior at h
  split at h
  · rename_i e
    subst e
    cases h
    obtain ⟨f, fd, h1, h2, h3, Fu, hb⟩ := Z.so_Sheet_ior
    exact ⟨f, fd, _, h1, h2, h3, (c_Sheet____ior__ Z Fu).mono (by decide), hb⟩
  cases h
theorem nw_Sheet (Z : Fx K mg G) : NewK P w K mg base G 4 "Sheet" 2 f_Sheet____init__ [] := by
  obtain ⟨f, fd, M, hm, Fu, hb⟩ := Z.nn_Sheet
  exact ⟨f, fd, _, M, hm, c_Sheet____init__ Z Fu, hb⟩
theorem sc_law : FnScope ["script", "bag", "names", "k", "many", "numbers", "entries", "second", "count", "groups", "entry", "other", "other_stood", "sheet", "read", "stood", "number"] ["script"] (defScope st_law) := ⟨rfl, rfl, rfl, by decide +kernel, rfl, by decide +kernel, by decide +kernel⟩
theorem w_law {fL : Addr} {fdL : FuncData} (Z : Fx K mg G) (Fu : L2.Fun K "law" "law" st_law fL fdL) : FnG P w K mg base 6 fL fdL ["script"] (spS G K 1 f_law) := fn_sim Fu sc_law fun cdv A outer s H E hr =>
  (jss_cons (js_asgL (i := 1) sc_law.nd rfl (Or.inl rfl) (je_cal (c__law_bag Z) hr (by decide) rfl (takes_of rfl rfl rfl rfl) (ja_cons (jo_var (i := 0) rfl (Or.inl rfl)) ja_nil)))
  (jss_cons (js_asgL (i := 2) sc_law.nd rfl (Or.inl rfl) (je_lst ja_nil))
  (jss_cons (js_for (passes_of rfl) rfl (ji_r1 rfl Z.b_range (ja_cons jo_int ja_nil)) (jg_name (i := 3) sc_law.nd rfl (Or.inl rfl))
  (jss_one (js_drop (je_cal (c__law_new_name Z) hr (by decide) rfl (takes_of rfl rfl rfl rfl) (ja_cons (jo_var (i := 1) rfl (Or.inl rfl)) (ja_cons (jo_var (i := 2) rfl (Or.inl rfl)) ja_nil))))))
  (jss_cons (js_asg (i := 4) sc_law.nd rfl (Or.inl rfl) (jo_fz (je_cal (c__law_pick Z) hr (by decide) rfl (takes_of rfl rfl rfl rfl) (ja_cons (jo_var (i := 1) rfl (Or.inl rfl)) (ja_cons jo_int ja_nil)))))
  (jss_cons (js_if (jt_eqA (hu_n hr) (jo_fz (je_cal (c__law_pick Z) hr (by decide) rfl (takes_of rfl rfl rfl rfl) (ja_cons (jo_var (i := 1) rfl (Or.inl rfl)) (ja_cons jo_int ja_nil)))) jo_int)
  (jss_one (js_asg (i := 4) sc_law.nd rfl (Or.inl rfl) (jo_fz (je_add jo_int (jo_fz (je_cal (c__law_pick Z) hr (by decide) rfl (takes_of rfl rfl rfl rfl) (ja_cons (jo_var (i := 1) rfl (Or.inl rfl)) (ja_cons jo_int ja_nil))))))))
  jss_nil)
  (jss_cons (js_asg (i := 5) sc_law.nd rfl (Or.inl rfl) (jo_fz (je_cal (c__law_numbers Z) hr (by decide) rfl (takes_of rfl rfl rfl rfl) (ja_cons (jo_var (i := 1) rfl (Or.inl rfl)) (ja_cons (jo_var (i := 4) rfl (Or.inl rfl)) ja_nil)))))
  (jss_cons (js_asg (i := 6) sc_law.nd rfl (Or.inl rfl) (jo_fz (je_cal (c__law_rows Z) hr (by decide) rfl (takes_of rfl rfl rfl rfl) (ja_cons (jo_var (i := 1) rfl (Or.inl rfl)) (ja_cons (jo_var (i := 5) rfl (Or.inl rfl)) (ja_cons (jo_var (i := 2) rfl (Or.inl rfl)) ja_nil))))))
  (jss_cons (js_asg (i := 7) sc_law.nd rfl (Or.inl rfl) (jo_fz (je_cal (c__law_rows Z) hr (by decide) rfl (takes_of rfl rfl rfl rfl) (ja_cons (jo_var (i := 1) rfl (Or.inl rfl)) (ja_cons (jo_var (i := 5) rfl (Or.inl rfl)) (ja_cons (jo_var (i := 2) rfl (Or.inl rfl)) ja_nil))))))
  (jss_cons (js_asg (i := 8) sc_law.nd rfl (Or.inl rfl) (jo_fz (je_add jo_int (jo_fz (je_cal (c__law_pick Z) hr (by decide) rfl (takes_of rfl rfl rfl rfl) (ja_cons (jo_var (i := 1) rfl (Or.inl rfl)) (ja_cons jo_int ja_nil)))))))
  (jss_cons (js_setLcEO (i := 9) (own := [("k", 3)]) rfl sc_law.nd rfl rfl (sw_true rfl rfl rfl (by decide +kernel)) (ji_r1 rfl Z.b_range (ja_cons (jo_var (i := 8) rfl (Or.inl rfl)) ja_nil)) (blkOk_by (N := ["script", "bag", "names", "k", "many", "numbers", "entries", "second", "count", "groups", "entry", "other", "other_stood", "sheet", "read", "stood", "number"]) (sc := defScope st_law) (by decide +kernel)) (fun _ h => h) (fun _ _ _ _ _ => (jg_name (i := 3) sc_law.nd rfl (Or.inl rfl))) (fun _ _ _ _ _ => jts_nil) (fun _ _ _ _ _ => (jo_cel (je_lst ja_nil))))
  (jss_cons (js_forA (passes_of rfl) rfl (jo_fz (je_cal (c__law_mingled Z) hr (by decide) rfl (takes_of rfl rfl rfl rfl) (ja_cons (jo_var (i := 1) rfl (Or.inl rfl)) (ja_cons (jo_var (i := 6) rfl (Or.inl rfl)) ja_nil)))) (jg_name (i := 10) sc_law.nd rfl (Or.inl rfl))
  (jss_one (js_drop (je_append (jo_fz (je_ix (hu_n hr) (fun _ _ => rfl) (fun _ _ => rfl) (jo_var (i := 9) rfl (Or.inl rfl)) (jo_fz (je_cal (c__law_pick Z) hr (by decide) rfl (takes_of rfl rfl rfl rfl) (ja_cons (jo_var (i := 1) rfl (Or.inl rfl)) (ja_cons (jo_var (i := 8) rfl (Or.inl rfl)) ja_nil)))))) (ja_cons (jo_var (i := 10) rfl (Or.inl rfl)) ja_nil)))))
  (jss_cons (js_asgL (i := 11) sc_law.nd rfl (Or.inl rfl) (je_new (nw_Sheet Z) hr (by decide) rfl (takes_of rfl rfl rfl rfl) (ja_cons (jo_fz (je_cal (c__law_mingled Z) hr (by decide) rfl (takes_of rfl rfl rfl rfl) (ja_cons (jo_var (i := 1) rfl (Or.inl rfl)) (ja_cons (jo_var (i := 7) rfl (Or.inl rfl)) ja_nil)))) ja_nil)))
  (jss_cons (js_asg (i := 12) sc_law.nd rfl (Or.inl rfl) (jo_fz (je_cal (c__law_stood Z) hr (by decide) rfl (takes_of rfl rfl rfl rfl) (ja_cons (jo_var (i := 7) rfl (Or.inl rfl)) ja_nil))))
  (jss_cons (js_asgL (i := 13) sc_law.nd rfl (Or.inl rfl) (je_new (nw_Sheet Z) hr (by decide) rfl (takes_of rfl rfl rfl rfl) (ja_cons (jo_fz (je_ix (hu_n hr) (fun _ _ => rfl) (fun _ _ => rfl) (jo_var (i := 9) rfl (Or.inl rfl)) jo_int)) ja_nil)))
  (jss_cons (js_asg (i := 14) sc_law.nd rfl (Or.inl rfl) (jo_fz (je_list rfl rfl Z.b_list (ja_cons (jo_fz (je_ix (hu_n hr) (fun _ _ => rfl) (fun _ _ => rfl) (jo_var (i := 9) rfl (Or.inl rfl)) jo_int)) ja_nil))))
  (jss_cons (js_for (passes_of rfl) rfl (ji_r1 rfl Z.b_range (ja_cons (jo_var (i := 8) rfl (Or.inl rfl)) ja_nil)) (jg_name (i := 3) sc_law.nd rfl (Or.inl rfl))
  (jss_cons (js_if (jt_gtA (hu_n hr) (jo_var (i := 3) rfl (Or.inl rfl)) jo_int)
  (jss_cons (js_augO (i := 13) opr_no ops_no (ok_ior Z) (by decide +kernel) hr (by decide) (takes_of rfl rfl rfl rfl) sc_law.nd rfl (Or.inl rfl) (jo_fz (je_new (nw_Sheet Z) hr (by decide) rfl (takes_of rfl rfl rfl rfl) (ja_cons (jo_fz (je_ix (hu_n hr) (fun _ _ => rfl) (fun _ _ => rfl) (jo_var (i := 9) rfl (Or.inl rfl)) (jo_var (i := 3) rfl (Or.inl rfl)))) ja_nil))))
  (jss_one (js_asg (i := 14) sc_law.nd rfl (Or.inl rfl) (jo_fz (je_add (jo_var (i := 14) rfl (Or.inl rfl)) (jo_fz (je_ix (hu_n hr) (fun _ _ => rfl) (fun _ _ => rfl) (jo_var (i := 9) rfl (Or.inl rfl)) (jo_var (i := 3) rfl (Or.inl rfl)))))))))
  jss_nil)
  (jss_cons (js_asg (i := 15) sc_law.nd rfl (Or.inl rfl) (jo_fz (je_cal (c__law_stood Z) hr (by decide) rfl (takes_of rfl rfl rfl rfl) (ja_cons (jo_var (i := 14) rfl (Or.inl rfl)) ja_nil))))
  (jss_one (js_forA (passes_of rfl) rfl (jo_fz (je_cal (c__law_asked Z) hr (by decide) rfl (takes_of rfl rfl rfl rfl) (ja_cons (jo_var (i := 5) rfl (Or.inl rfl)) ja_nil))) (jg_name (i := 16) sc_law.nd rfl (Or.inl rfl))
  (jss_cons (js_if (jt_neA (hu_n hr) (jo_fz (je_cal (c__law_told Z) hr (by decide) rfl (takes_of rfl rfl rfl rfl) (ja_cons (jo_var (i := 13) rfl (Or.inl rfl)) (ja_cons (jo_var (i := 16) rfl (Or.inl rfl)) ja_nil)))) (jo_fz (je_cal (c__law_due Z) hr (by decide) rfl (takes_of rfl rfl rfl rfl) (ja_cons (jo_var (i := 14) rfl (Or.inl rfl)) (ja_cons (jo_var (i := 15) rfl (Or.inl rfl)) (ja_cons (jo_var (i := 16) rfl (Or.inl rfl)) ja_nil))))))
  (jss_one (js_ret (je_up jo_bl)))
  jss_nil)
  (jss_one (js_if (jt_neA (hu_n hr) (jo_fz (je_cal (c__law_told Z) hr (by decide) rfl (takes_of rfl rfl rfl rfl) (ja_cons (jo_var (i := 11) rfl (Or.inl rfl)) (ja_cons (jo_var (i := 16) rfl (Or.inl rfl)) ja_nil)))) (jo_fz (je_cal (c__law_due Z) hr (by decide) rfl (takes_of rfl rfl rfl rfl) (ja_cons (jo_var (i := 7) rfl (Or.inl rfl)) (ja_cons (jo_var (i := 12) rfl (Or.inl rfl)) (ja_cons (jo_var (i := 16) rfl (Or.inl rfl)) ja_nil))))))
  (jss_one (js_ret (je_up jo_bl)))
  jss_nil))))))))
  (jss_one (js_ret (je_up jo_bl)))))))))))))))))))
end
end Law

set_option linter.all false
set_option maxRecDepth 100000
set_option maxHeartbeats 4000000
namespace Law
open PySem L2 Sim
theorem mixed_ok (n t : Int) (S : Sto) : ∃ w, f__law_mixed [.p (.int n), .p (.int t)] S = .ok (.e (.p (.int w))) S := by
  obtain ⟨low, hl⟩ : ∃ low, low = ((n + 1) * 48271 + (t + 1) * 1103515245) % 2147483647 := ⟨_, rfl⟩
  have b : -18446744073709551616 < low ∧ low < 18446744073709551616 := by omega
  simp [f__law_mixed, m__law_mixed, s__law_mixed_1, s__law_mixed_2, s__law_mixed_3, LINE, takeSet, takeSet2, mfOf, rsOut, fvOut, sSeq, RS.then, sAsg, sAsgO, sAsgL, sAsgG, sDrop, sRet, sRetN, sNx, sIf, sBk, sCt, sFz, sAug, Rs.st, Rs.bind, cFz, cUp, cVar, cD, cOp, cBool, orF, bF, addF, addI, addIB, addS, subF, i2, mulF, mulI, mulIB, modF, fdivF, powF, ltI, leI, gtI, geI, ltS, leS, gtS, geS, s2, eqF, neF, sceq_ii, sceq_ss, sceq_bb, isF, isnF, isN, cNot, cAnd, cOr, cTru, tru, cAndV, cOrV, cNotV, cIf, cNil, cCons, cCall, f1, intF, absF, lenF, lenV, listF, tupF, dictF, copyD, ixF, dgF, dkF, dkey, seqAt, look, dvw, dat, C.fz, keyD, atI, ixN, cTup, cLst, cNewD, tupV, lstV, pureL, oes, cFn, frIn, cSet, setR, getC, putC, orS, setL, setD, C.sc, E.sc, E.scL, cMw, rcvL, isLst, mwApp, gN, gT, gC, gN0, tupE, cIsi, isiF, tagW, isB, noOwn, cNeg, pSm, pNo, cSl, seqE, seqLE, sltE, ← hl, b]
/-- a bag's cell -/
def bag (nums : List Int) (a b k seed : Int) : C := .lst [.lst (nums.map .int), .int a, .int b, .int k, .int seed]
theorem pick_ok (S : Sto) (n : Nat) (nums : List Int) (a b k seed many : Int) (hS : S[n]? = some (bag nums a b k seed)) (ha : 0 ≤ a) (hb : 0 ≤ b) (h0 : 0 < many) (h1 : many < 1073741824) :
    ∃ w a' b' k', f__law_pick [.loc n, .p (.int many)] S = .ok (.e (.p (.int w))) (S.set n (bag nums a' b' k' seed)) ∧ 0 ≤ w ∧ w < many ∧ 0 ≤ a' ∧ 0 ≤ b' := by
  unfold bag at hS ⊢
  have hn : n < S.length := (List.getElem?_eq_some_iff.mp hS).1
  have hset : ∀ c, (List.set S n c)[n]? = some c := fun c => List.getElem?_set_self hn
  have r1 : ∀ x : Int, 0 ≤ x % many ∧ x % many < many := fun x => ⟨Int.emod_nonneg _ (by omega), Int.emod_lt_of_pos _ h0⟩
  have r2 : ∀ x : Int, 0 ≤ x → 0 ≤ x / many := fun x hx => Int.ediv_nonneg hx (by omega)
  by_cases c : b = 0 ∧ a < nums.length
  · obtain ⟨cb, ca⟩ := c
    subst cb
    have hlt : a.toNat < nums.length := by omega
    obtain ⟨x, hx⟩ : ∃ x, nums[a.toNat] = x := ⟨_, rfl⟩
    obtain ⟨y, hy⟩ : ∃ y, y = if x < 0 then -x else x := ⟨_, rfl⟩
    have hy0 : 0 ≤ y := by rw [hy]; split <;> omega
    by_cases hx2 : y < 1000000000000000000
    · obtain ⟨w, hw⟩ := mixed_ok (2 * y + PyProof.Rows.b2i (decide (x < 0))) k (List.set S n (C.lst [D.lst (List.map D.int nums), D.int (a + 1), D.int 0, D.int (k + 1), D.int seed]))
      have e : f__law_pick [.loc n, .p (.int many)] S = .ok (.e (.p (.int (w % many)))) (S.set n (.lst [.lst (nums.map .int), .int (a + 1), .int 0, .int (k + 1), .int seed])) := by
        simp [f__law_pick, m__law_pick, s__law_pick_1, s__law_pick_2, s__law_pick_3, s__law_pick_4, s__law_pick_5, s__law_pick_6, s__law_pick_7, LINE, takeSet, takeSet2, mfOf, rsOut, fvOut, sSeq, RS.then, sAsg, sAsgO, sAsgL, sAsgG, sDrop, sRet, sRetN, sNx, sIf, sBk, sCt, sFz, sAug, Rs.st, Rs.bind, cFz, cUp, cVar, cD, cOp, cBool, orF, bF, addF, addI, addIB, addS, subF, i2, mulF, mulI, mulIB, modF, fdivF, powF, ltI, leI, gtI, geI, ltS, leS, gtS, geS, s2, eqF, neF, sceq_ii, sceq_ss, sceq_bb, isF, isnF, isN, cNot, cAnd, cOr, cTru, tru, cAndV, cOrV, cNotV, cIf, cNil, cCons, cCall, f1, intF, absF, lenF, lenV, listF, tupF, dictF, copyD, ixF, dgF, dkF, dkey, seqAt, look, dvw, dat, C.fz, keyD, atI, ixN, cTup, cLst, cNewD, tupV, lstV, pureL, oes, cFn, frIn, cSet, setR, getC, putC, orS, setL, setD, C.sc, E.sc, E.scL, cMw, rcvL, isLst, mwApp, gN, gT, gC, gN0, tupE, cIsi, isiF, tagW, isB, noOwn, cNeg, pSm, pNo, cSl, seqE, seqLE, sltE, hS, hset, ha, ca, hx, ← hy, hx2, hw, h0]
      exact ⟨_, _, _, _, e, (r1 w).1, (r1 w).2, by omega, by omega⟩
    · have hy1 : ¬ y = 0 := by omega
      have e : f__law_pick [.loc n, .p (.int many)] S = .ok (.e (.p (.int (y % many)))) (S.set n (.lst [.lst (nums.map .int), .int (a + 1), .int (y / many), .int (k + 1), .int seed])) := by
        simp [f__law_pick, m__law_pick, s__law_pick_1, s__law_pick_2, s__law_pick_3, s__law_pick_4, s__law_pick_5, s__law_pick_6, s__law_pick_7, LINE, takeSet, takeSet2, mfOf, rsOut, fvOut, sSeq, RS.then, sAsg, sAsgO, sAsgL, sAsgG, sDrop, sRet, sRetN, sNx, sIf, sBk, sCt, sFz, sAug, Rs.st, Rs.bind, cFz, cUp, cVar, cD, cOp, cBool, orF, bF, addF, addI, addIB, addS, subF, i2, mulF, mulI, mulIB, modF, fdivF, powF, ltI, leI, gtI, geI, ltS, leS, gtS, geS, s2, eqF, neF, sceq_ii, sceq_ss, sceq_bb, isF, isnF, isN, cNot, cAnd, cOr, cTru, tru, cAndV, cOrV, cNotV, cIf, cNil, cCons, cCall, f1, intF, absF, lenF, lenV, listF, tupF, dictF, copyD, ixF, dgF, dkF, dkey, seqAt, look, dvw, dat, C.fz, keyD, atI, ixN, cTup, cLst, cNewD, tupV, lstV, pureL, oes, cFn, frIn, cSet, setR, getC, putC, orS, setL, setD, C.sc, E.sc, E.scL, cMw, rcvL, isLst, mwApp, gN, gT, gC, gN0, tupE, cIsi, isiF, tagW, isB, noOwn, cNeg, pSm, pNo, cSl, seqE, seqLE, sltE, hS, hset, ha, ca, hx, ← hy, hx2, hy1, h0, h1]
      exact ⟨_, _, _, _, e, (r1 y).1, (r1 y).2, by omega, r2 y hy0⟩
  · by_cases cb : b = 0
    · subst cb
      have ca : ¬ a < nums.length := fun h => c ⟨rfl, h⟩
      obtain ⟨w, hw⟩ := mixed_ok seed k (List.set S n (C.lst [D.lst (List.map D.int nums), D.int a, D.int 0, D.int (k + 1), D.int seed]))
      have e : f__law_pick [.loc n, .p (.int many)] S = .ok (.e (.p (.int (w % many)))) (S.set n (.lst [.lst (nums.map .int), .int a, .int 0, .int (k + 1), .int seed])) := by
        by_cases hl : nums.length ≤ 16777216
        · simp [f__law_pick, m__law_pick, s__law_pick_1, s__law_pick_2, s__law_pick_3, s__law_pick_4, s__law_pick_5, s__law_pick_6, s__law_pick_7, LINE, takeSet, takeSet2, mfOf, rsOut, fvOut, sSeq, RS.then, sAsg, sAsgO, sAsgL, sAsgG, sDrop, sRet, sRetN, sNx, sIf, sBk, sCt, sFz, sAug, Rs.st, Rs.bind, cFz, cUp, cVar, cD, cOp, cBool, orF, bF, addF, addI, addIB, addS, subF, i2, mulF, mulI, mulIB, modF, fdivF, powF, ltI, leI, gtI, geI, ltS, leS, gtS, geS, s2, eqF, neF, sceq_ii, sceq_ss, sceq_bb, isF, isnF, isN, cNot, cAnd, cOr, cTru, tru, cAndV, cOrV, cNotV, cIf, cNil, cCons, cCall, f1, intF, absF, lenF, lenV, listF, tupF, dictF, copyD, ixF, dgF, dkF, dkey, seqAt, look, dvw, dat, C.fz, keyD, atI, ixN, cTup, cLst, cNewD, tupV, lstV, pureL, oes, cFn, frIn, cSet, setR, getC, putC, orS, setL, setD, C.sc, E.sc, E.scL, cMw, rcvL, isLst, mwApp, gN, gT, gC, gN0, tupE, cIsi, isiF, tagW, isB, noOwn, cNeg, pSm, pNo, cSl, seqE, seqLE, sltE, hS, hset, ca, hw, h0]
        · simp [f__law_pick, m__law_pick, s__law_pick_1, s__law_pick_2, s__law_pick_3, s__law_pick_4, s__law_pick_5, s__law_pick_6, s__law_pick_7, LINE, takeSet, takeSet2, mfOf, rsOut, fvOut, sSeq, RS.then, sAsg, sAsgO, sAsgL, sAsgG, sDrop, sRet, sRetN, sNx, sIf, sBk, sCt, sFz, sAug, Rs.st, Rs.bind, cFz, cUp, cVar, cD, cOp, cBool, orF, bF, addF, addI, addIB, addS, subF, i2, mulF, mulI, mulIB, modF, fdivF, powF, ltI, leI, gtI, geI, ltS, leS, gtS, geS, s2, eqF, neF, sceq_ii, sceq_ss, sceq_bb, isF, isnF, isN, cNot, cAnd, cOr, cTru, tru, cAndV, cOrV, cNotV, cIf, cNil, cCons, cCall, f1, intF, absF, lenF, lenV, listF, tupF, dictF, copyD, ixF, dgF, dkF, dkey, seqAt, look, dvw, dat, C.fz, keyD, atI, ixN, cTup, cLst, cNewD, tupV, lstV, pureL, oes, cFn, frIn, cSet, setR, getC, putC, orS, setL, setD, C.sc, E.sc, E.scL, cMw, rcvL, isLst, mwApp, gN, gT, gC, gN0, tupE, cIsi, isiF, tagW, isB, noOwn, cNeg, pSm, pNo, cSl, seqE, seqLE, sltE, hS, hset, ca, hw, h0]
      exact ⟨_, _, _, _, e, (r1 w).1, (r1 w).2, ha, by omega⟩
    · have e : f__law_pick [.loc n, .p (.int many)] S = .ok (.e (.p (.int (b % many)))) (S.set n (.lst [.lst (nums.map .int), .int a, .int (b / many), .int (k + 1), .int seed])) := by
        simp [f__law_pick, m__law_pick, s__law_pick_1, s__law_pick_2, s__law_pick_3, s__law_pick_4, s__law_pick_5, s__law_pick_6, s__law_pick_7, LINE, takeSet, takeSet2, mfOf, rsOut, fvOut, sSeq, RS.then, sAsg, sAsgO, sAsgL, sAsgG, sDrop, sRet, sRetN, sNx, sIf, sBk, sCt, sFz, sAug, Rs.st, Rs.bind, cFz, cUp, cVar, cD, cOp, cBool, orF, bF, addF, addI, addIB, addS, subF, i2, mulF, mulI, mulIB, modF, fdivF, powF, ltI, leI, gtI, geI, ltS, leS, gtS, geS, s2, eqF, neF, sceq_ii, sceq_ss, sceq_bb, isF, isnF, isN, cNot, cAnd, cOr, cTru, tru, cAndV, cOrV, cNotV, cIf, cNil, cCons, cCall, f1, intF, absF, lenF, lenV, listF, tupF, dictF, copyD, ixF, dgF, dkF, dkey, seqAt, look, dvw, dat, C.fz, keyD, atI, ixN, cTup, cLst, cNewD, tupV, lstV, pureL, oes, cFn, frIn, cSet, setR, getC, putC, orS, setL, setD, C.sc, E.sc, E.scL, cMw, rcvL, isLst, mwApp, gN, gT, gC, gN0, tupE, cIsi, isiF, tagW, isB, noOwn, cNeg, pSm, pNo, cSl, seqE, seqLE, sltE, hS, hset, cb, h0, h1]
      exact ⟨_, _, _, _, e, (r1 b).1, (r1 b).2, ha, r2 b hb⟩
end Law

set_option linter.all false
set_option maxRecDepth 100000
set_option maxHeartbeats 4000000
namespace Law
open PySem L2 Sim
theorem cut63 {α : Type} (xs : List α) (h : xs.length ≤ 63) : cutL xs none (some 63) = xs := by
  unfold cutL
  rw [HT.sIx_none, show HT.sIx xs.length xs.length (some 63) = min 63 xs.length from HT.sIx_nat xs.length xs.length 63]
  rw [List.drop_zero, Nat.sub_zero, Nat.min_eq_right h, List.take_length]
theorem bag_ok (ns : List Int) (h : ns.length ≤ 63) (S : Sto) : ∃ seed, f__law_bag [.p (.rol (ns.map .int))] S = .ok (.fr (bag ns 0 0 0 seed)) S := by
  have e1 : ∀ T, lcE (gN 2) tT b__law_bag_1 [2] (ns.map (E.p ∘ D.int)) [] [Sim.S.e (.p (.rol (ns.map .int))), .u, .u, .u, .u] T = .ok (ns.map D.int) [Sim.S.e (.p (.rol (ns.map .int))), .u, .u, .u, .u] T := by
    intro T
    have q := lcE_all (mg := gN 2) (t := tT) (el := b__law_bag_1) (vs := [2]) (F := [Sim.S.e (.p (.rol (ns.map .int))), .u, .u, .u, .u]) (T := T) (h := fun x => match x with | .p d => d | _ => .non) (es := ns.map (E.p ∘ D.int)) (acc := []) (fun x hx => by
      obtain ⟨i, hi, rfl⟩ := List.mem_map.mp hx
      exact ⟨_, rfl, rfl, rfl, rfl⟩) (by simp [LINE]; omega)
    rw [q]
    simp [List.map_map, Function.comp_def]
  have e2 : cutL (ns.map (E.p ∘ D.int)) none (some 63) = ns.map (E.p ∘ D.int) := cut63 _ (by simpa using h)
  have hl : ns.length ≤ 16777216 := by omega
  obtain ⟨F', T', h1, seed, h2, h3⟩ : ∃ F' T', forE (gT (gC (gN 4) (gC (gN 2) gN0))) b__law_bag_2 (enumE 0 (ns.map D.int)) [Sim.S.e (.p (.rol (ns.map .int))), .e (.p (.lst (ns.map .int))), .u, .e (.p (.int ns.length)), .u] S = .nx F' T' ∧
      ∃ s : Int, (∃ y z, F' = [Sim.S.e (.p (.rol (ns.map .int))), .e (.p (.lst (ns.map .int))), y, .e (.p (.int s)), z]) ∧ T' = S := by
    have key := forE_inv (mg := gT (gC (gN 4) (gC (gN 2) gN0))) (body := b__law_bag_2) (P := fun es F T => (∀ e ∈ es, ∃ (i j : Int), e = .p (.tup [.int i, .int j])) ∧ ∃ s : Int, (∃ y z, F = [Sim.S.e (.p (.rol (ns.map .int))), .e (.p (.lst (ns.map .int))), y, .e (.p (.int s)), z]) ∧ T = S) ?_ (es := enumE 0 (ns.map D.int)) (F := [Sim.S.e (.p (.rol (ns.map .int))), .e (.p (.lst (ns.map .int))), .u, .e (.p (.int ns.length)), .u]) (T := S) ⟨?_, _, ⟨_, _, rfl⟩, rfl⟩
    · obtain ⟨F', T', k1, _, k2⟩ := key
      exact ⟨F', T', k1, k2⟩
    · rintro x r F T ⟨hx, s, ⟨y, z, rfl⟩, rfl⟩
      obtain ⟨i, j, rfl⟩ := hx x List.mem_cons_self
      obtain ⟨s', hb⟩ : ∃ s', b__law_bag_2 [Sim.S.e (.p (.rol (ns.map .int))), .e (.p (.lst (ns.map .int))), .e (.p (.int j)), .e (.p (.int s)), .e (.p (.int i))] T = .nx [Sim.S.e (.p (.rol (ns.map .int))), .e (.p (.lst (ns.map .int))), .e (.p (.int j)), .e (.p (.int s')), .e (.p (.int i))] T := by
        simp [b__law_bag_2, LINE, takeSet, takeSet2, mfOf, rsOut, fvOut, sSeq, RS.then, sAsg, sAsgO, sAsgL, sAsgG, sDrop, sRet, sRetN, sNx, sIf, sBk, sCt, sFz, sAug, Rs.st, Rs.bind, cFz, cUp, cVar, cD, cOp, cBool, orF, bF, addF, addI, addIB, addS, subF, i2, mulF, mulI, mulIB, modF, fdivF, powF, ltI, leI, gtI, geI, ltS, leS, gtS, geS, s2, eqF, neF, sceq_ii, sceq_ss, sceq_bb, isF, isnF, isN, cNot, cAnd, cOr, cTru, tru, cAndV, cOrV, cNotV, cIf, cNil, cCons, cCall, f1, intF, absF, lenF, lenV, listF, tupF, dictF, copyD, ixF, dgF, dkF, dkey, seqAt, look, dvw, dat, C.fz, keyD, atI, ixN, cTup, cLst, cNewD, tupV, lstV, pureL, oes, cFn, frIn, cSet, setR, getC, putC, orS, setL, setD, C.sc, E.sc, E.scL, cMw, rcvL, isLst, mwApp, gN, gT, gC, gN0, tupE, cIsi, isiF, tagW, isB, noOwn, cNeg, pSm, pNo, cSl, seqE, seqLE, sltE]
      exact ⟨_, _, _, rfl, .inl hb, fun e he => hx e (List.mem_cons_of_mem _ he), s', ⟨_, _, rfl⟩, rfl⟩
    · have key : ∀ (l : List Int) (n : Nat), ∀ e ∈ enumE n (l.map D.int), ∃ (i j : Int), e = .p (.tup [.int i, .int j]) := by
        intro l
        induction l with
        | nil => intro n e he; cases he
        | cons x r ih =>
          intro n e he
          rcases List.mem_cons.mp (show e ∈ E.p (.tup [.int n, .int x]) :: enumE (n + 1) (r.map D.int) from he) with rfl | he
          · exact ⟨_, _, rfl⟩
          · exact ih _ e he
      exact key ns 0
  obtain ⟨y, z, rfl⟩ := h2
  subst h3
  refine ⟨seed, ?_⟩
  simp [f__law_bag, m__law_bag, s__law_bag_1, s__law_bag_2, s__law_bag_3, s__law_bag_4, LINE, takeSet, takeSet2, mfOf, rsOut, fvOut, sSeq, RS.then, sAsg, sAsgO, sAsgL, sAsgG, sDrop, sRet, sRetN, sNx, sIf, sBk, sCt, sFz, sAug, Rs.st, Rs.bind, cFz, cUp, cVar, cD, cOp, cBool, orF, bF, addF, addI, addIB, addS, subF, i2, mulF, mulI, mulIB, modF, fdivF, powF, ltI, leI, gtI, geI, ltS, leS, gtS, geS, s2, eqF, neF, sceq_ii, sceq_ss, sceq_bb, isF, isnF, isN, cNot, cAnd, cOr, cTru, tru, cAndV, cOrV, cNotV, cIf, cNil, cCons, cCall, f1, intF, absF, lenF, lenV, listF, tupF, dictF, copyD, ixF, dgF, dkF, dkey, seqAt, look, dvw, dat, C.fz, keyD, atI, ixN, cTup, cLst, cNewD, tupV, lstV, pureL, oes, cFn, frIn, cSet, setR, getC, putC, orS, setL, setD, C.sc, E.sc, E.scL, cMw, rcvL, isLst, mwApp, gN, gT, gC, gN0, tupE, cIsi, isiF, tagW, isB, noOwn, cNeg, pSm, pNo, cSl, seqE, seqLE, sltE, sFor, cLc, cIt, itE, wipeF, e1, e2, cEnumA, cEnum, frzL, slF, pureL_map, h1, bag, hl]
end Law

set_option linter.all false
set_option maxRecDepth 100000
set_option maxHeartbeats 4000000
namespace Law
open PySem L2 Sim
def isBag (c : C) : Prop := ∃ nums a b k seed, c = bag nums a b k seed ∧ 0 ≤ a ∧ 0 ≤ b
theorem pick_c {S : Sto} {n : Nat} {c : C} (hS : S[n]? = some c) (hc : isBag c) (many : Int) (h0 : 0 < many) (h1 : many < 1073741824) :
    ∃ w c', f__law_pick [.loc n, .p (.int many)] S = .ok (.e (.p (.int w))) (S.set n c') ∧ isBag c' ∧ 0 ≤ w ∧ w < many := by
  obtain ⟨nums, a, b, k, seed, rfl, ha, hb⟩ := hc
  obtain ⟨w, a', b', k', e, h2, h3, h4, h5⟩ := pick_ok S n nums a b k seed many hS ha hb h0 h1
  exact ⟨w, _, e, ⟨nums, a', b', k', seed, rfl, h4, h5⟩, h2, h3⟩
theorem set_at {S : Sto} {n : Nat} {c d : C} (h : S[n]? = some c) : (S.set n d)[n]? = some d := List.getElem?_set_self (List.getElem?_eq_some_iff.mp h).1
/-- letters from a to z alone -/
def okT (s : Str) : Prop := ∀ c ∈ s.cps.toList, 97 ≤ c ∧ c < 123
def okS (s : Str) : Prop := 1 ≤ s.length ∧ s.length ≤ 8 ∧ okT s
def okN (ns : List Str) : Prop := ∀ s ∈ ns, okS s
theorem set_other {S : Sto} {n m : Nat} {c : C} (h : n ≠ m) : (S.set n c)[m]? = S[m]? := List.getElem?_set_ne h
end Law

set_option linter.all false
set_option maxRecDepth 100000
set_option maxHeartbeats 4000000
namespace Law
open PySem L2 Sim
theorem okT_iff {s : Str} : okT s ↔ ∀ c ∈ s.cps.toList, 97 ≤ c ∧ c < 123 := Iff.rfl
theorem okT_str {s : Str} (h : okT s) : PyData.strOk s = true := by
  unfold PyData.strOk
  rw [← Array.all_toList, List.all_eq_true]
  intro c hc
  have := h c hc
  simp
  omega
theorem len_list {s : Str} : s.length = s.cps.toList.length := rfl
theorem app_list {a b : Str} : (a ++ b).cps.toList = a.cps.toList ++ b.cps.toList := by
  show (a.cps ++ b.cps).toList = _
  simp
theorem len_app {a b : Str} : (a ++ b).length = a.length + b.length := by rw [len_list, app_list, List.length_append]; rfl
theorem okT_app {a b : Str} (h1 : okT a) (h2 : okT b) : okT (a ++ b) := by
  rw [okT_iff] at *
  intro c hc
  rw [app_list] at hc
  rcases List.mem_append.mp hc with h | h
  · exact h1 c h
  · exact h2 c h
theorem cut_list {z : Str} {lo hi : Option Int} : (cutS z lo hi).cps.toList = (z.cps.toList.drop (HT.sIx z.length 0 lo)).take (HT.sIx z.length z.length hi - HT.sIx z.length 0 lo) := by
  unfold cutS
  simp
theorem okT_cut {z : Str} {lo hi : Option Int} (h : okT z) : okT (cutS z lo hi) := by
  rw [okT_iff] at *
  intro c hc
  rw [cut_list] at hc
  exact h c (List.mem_of_mem_drop (List.mem_of_mem_take hc))
theorem len_cut6 {z : Str} : (cutS z none (some 6)).length = min 6 z.length := by
  rw [len_list, cut_list]
  simp [HT.sIx, len_list]
def ltr : Str := "abcdefghijklmnopqrstuvwxyz"
theorem ltr_list : ltr.cps.toList = (List.range 26).map (97 + ·) := by decide
def let1 (j : Nat) : Str := ⟨#[97 + j]⟩
theorem okT_let {j : Nat} (h : j < 26) : okT (let1 j) := by
  rw [okT_iff]
  intro c hc
  have : c = 97 + j := by simpa [let1] using hc
  omega
theorem len_let {j : Nat} : (let1 j).length = 1 := rfl
theorem ltr_at (F : Fr) (T : Sto) {w : Int} (h0 : 0 ≤ w) (h1 : w < 26) : orF ixF dgF F T (.e (.p (.str ltr))) (.e (.p (.int w))) = some (.o (.e (.p (.str (let1 w.toNat))))) := by
  have hl : ltr.cps.toList.length = 26 := by rw [ltr_list]; rfl
  have hl2 : ltr.length = 26 := hl
  have e : atI ltr.cps.toList w = some (97 + w.toNat) := by
    have : w.toNat < 26 := by omega
    unfold atI
    rw [hl]
    simp [ixN, h0, h1, ltr_list, this]
  simp [orF, ixF, look, dvw, seqAt, LINE, hl2, e, let1]
end Law

set_option linter.all false
set_option maxRecDepth 100000
set_option maxHeartbeats 4000000
namespace Law
open PySem L2 Sim
theorem join1 {z : Str} (hz : z.length = 0) : ∀ {ys : List Str}, (∀ y ∈ ys, okT y ∧ y.length = 1) → okT (Str.join z ys) ∧ (Str.join z ys).length = ys.length
  | [], _ => ⟨okT_iff.mpr (fun c hc => absurd hc (by intro h; cases h)), rfl⟩
  | [x], h => h x List.mem_cons_self
  | x :: y :: r, h => by
    obtain ⟨h1, h2⟩ := join1 hz (ys := y :: r) fun a ha => h a (List.mem_cons_of_mem _ ha)
    obtain ⟨h3, h4⟩ := h x List.mem_cons_self
    have hz2 : okT z := by
      rw [okT_iff]
      intro c hc
      have := List.length_pos_of_mem hc
      rw [← len_list] at this
      omega
    refine ⟨okT_app (okT_app h3 hz2) h1, ?_⟩
    show (x ++ z ++ Str.join z (y :: r)).length = _
    rw [len_app, len_app, h2, h4, hz]
    simp
    omega
theorem txt_join {z : Str} {ys : List Str} : Txt.join z ys = Str.join z ys := StrLaws.glued_eq_join _ _
theorem strsD_map : ∀ {xs : List Str}, strsD ((xs.map D.str).map .p) = some xs
  | [] => rfl
  | x :: r => by
    show (strsD ((r.map D.str).map .p)).map (x :: ·) = _
    rw [strsD_map]
    rfl
theorem sum1 : ∀ {ys : List Str}, (∀ y ∈ ys, y.length = 1) → (ys.map (·.length)).sum = ys.length
  | [], _ => rfl
  | x :: r, h => by
    rw [List.map_cons, List.sum_cons, sum1 fun y hy => h y (List.mem_cons_of_mem _ hy), h x List.mem_cons_self, List.length_cons]
    omega
theorem strs_of : ∀ {ds : List D} {P : Str → Prop}, (∀ d ∈ ds, ∃ s, d = .str s ∧ P s) → ∃ ss : List Str, ds = ss.map .str ∧ ∀ s ∈ ss, P s
  | [], P, _ => ⟨[], rfl, fun s hs => by cases hs⟩
  | d :: r, P, h => by
    obtain ⟨s, rfl, hs⟩ := h d List.mem_cons_self
    obtain ⟨ss, rfl, h2⟩ := strs_of fun e he => h e (List.mem_cons_of_mem _ he)
    refine ⟨s :: ss, rfl, fun t ht => ?_⟩
    rcases List.mem_cons.mp ht with rfl | ht
    · exact hs
    · exact h2 t ht
theorem name_2 {S : Sto} {n : Nat} {c : C} (hS : S[n]? = some c) (hc : isBag c) (y3 y4 y5 y6 y7 y8 y9 : Sim.S) (m : Nat) :
    ∃ told c', okT told ∧ 1 ≤ told.length ∧ told.length ≤ 6 ∧ isBag c' ∧
      s__law_new_name_2 [.e (.loc n), .e (.loc m), .e (.p (.str ltr)), y3, y4, y5, y6, y7, y8, y9] S = .nx [.e (.loc n), .e (.loc m), .e (.p (.str ltr)), .e (.p (.str told)), .u, y5, y6, y7, y8, y9] (S.set n c') := by
  obtain ⟨w, c1, e1, b1, i0, i1⟩ := pick_c hS hc 6 (by omega) (by omega)
  have g1 : -4611686018427387904 ≤ 1 + w ∧ 1 + w < 4611686018427387904 := by omega
  obtain ⟨ds, T', k1, ⟨c', k2, k3⟩, k4, k5⟩ := lcE_inv (mg := gN 4) (t := tT) (el := b__law_new_name_1) (vs := [4]) (F := [.e (.loc n), .e (.loc m), .e (.p (.str ltr)), y3, .u, y5, y6, y7, y8, y9]) (I := fun T => ∃ c', isBag c' ∧ T = S.set n c') (R := fun d => ∃ s, d = .str s ∧ (okT s ∧ s.length = 1)) (es := rngE 0 (1 + w).toNat) (by
    rintro x hx T ⟨c', hc', rfl⟩
    obtain ⟨i, rfl⟩ : ∃ i : Int, x = .p (.int i) := by
      obtain ⟨i, _, rfl⟩ := List.mem_map.mp hx
      exact ⟨_, rfl⟩
    obtain ⟨v, c2, e2, b2, j0, j1⟩ := pick_c (set_at (d := c') hS) hc' 26 (by omega) (by omega)
    rw [List.set_set] at e2
    have l := ltr_at [.e (.loc n), .e (.loc m), .e (.p (.str ltr)), y3, .e (.p (.int i)), y5, y6, y7, y8, y9] (S.set n c2) j0 j1
    refine ⟨[.e (.loc n), .e (.loc m), .e (.p (.str ltr)), y3, .e (.p (.int i)), y5, y6, y7, y8, y9], _, .str (let1 v.toNat), rfl, rfl, ?_, rfl, ⟨c2, b2, rfl⟩, _, rfl, okT_let (by omega), rfl⟩
    simp [b__law_new_name_1, cFz, cOp, cVar, cFn, cCons, cNil, cD, Rs.bind, oes, e2, l, frIn])
    [] (S.set n c1) ⟨c1, b1, rfl⟩ (by
      simp [rngE, LINE]
      omega)
  subst k3
  obtain ⟨ss, rfl, hs⟩ := strs_of k5
  have hl : 1 ≤ ss.length ∧ ss.length ≤ 6 := by
    rw [List.length_map] at k4
    simp [rngE] at k4
    omega
  have hj := join1 (z := "") rfl hs
  refine ⟨Str.join "" ss, c', hj.1, by omega, by omega, k2, ?_⟩
  have hs1 := sum1 fun y hy => (hs y hy).2
  rw [List.nil_append] at k1
  have hz : (Str.ofString "").length = 0 := rfl
  have hj2 : strsD (ss.map (E.p ∘ D.str)) = some ss := by
    have := strsD_map (xs := ss)
    rwa [List.map_map] at this
  have hl2 : ss.length ≤ 16777216 := by omega
  simp [s__law_new_name_2, LINE, takeSet, takeSet2, mfOf, rsOut, fvOut, sSeq, RS.then, sAsg, sAsgO, sAsgL, sAsgG, sDrop, sRet, sRetN, sNx, sIf, sBk, sCt, sFz, sAug, Rs.st, Rs.bind, cFz, cUp, cVar, cD, cOp, cBool, orF, bF, addF, addI, addIB, addS, subF, i2, mulF, mulI, mulIB, modF, fdivF, powF, ltI, leI, gtI, geI, ltS, leS, gtS, geS, s2, eqF, neF, sceq_ii, sceq_ss, sceq_bb, isF, isnF, isN, cNot, cAnd, cOr, cTru, tru, cAndV, cOrV, cNotV, cIf, cNil, cCons, cCall, f1, intF, absF, lenF, lenV, listF, tupF, dictF, copyD, ixF, dgF, dkF, dkey, seqAt, look, dvw, dat, C.fz, keyD, atI, ixN, cTup, cLst, cNewD, tupV, lstV, pureL, oes, cFn, frIn, cSet, setR, getC, putC, orS, setL, setD, C.sc, E.sc, E.scL, cMw, rcvL, isLst, mwApp, gN, gT, gC, gN0, tupE, cIsi, isiF, tagW, isB, noOwn, cNeg, pSm, pNo, cSl, seqE, seqLE, sltE, cM1, joinF, isS, cLc, wipeF, cR1, e1, g1, k1, hj2, hs1, hz, hl2, txt_join]
end Law

set_option linter.all false
set_option maxRecDepth 100000
set_option maxHeartbeats 4000000
namespace Law
open PySem L2 Sim
theorem len_cut_to {z : Str} {k : Nat} : (cutS z none (some (k : Int))).length = min k z.length := by
  rw [len_list, cut_list, HT.sIx_nat]
  simp [HT.sIx, len_list]
theorem len_cut_from {z : Str} {k : Nat} : (cutS z (some (k : Int)) none).length = z.length - min k z.length := by
  rw [len_list, cut_list, HT.sIx_nat]
  simp [HT.sIx, len_list]
theorem fz_ok {m : ME} {F F1 : Fr} {T T1 : Sto} {x : OV} (h : m F T = .ok (.o x) F1 T1) : cFz m F T = .ok x F1 T1 := by
  unfold cFz
  rw [h]
  rfl
theorem name_3 {S : Sto} {n m : Nat} {c : C} {ns : List Str} (hS : S[n]? = some c) (hc : isBag c) (hm : S[m]? = some (.lst (ns.map .str))) (ne : n ≠ m) (hn : okN ns) (h3 : ns.length ≤ 700) (told : Str) (o1 : okT told) (o2 : 1 ≤ told.length) (o3 : told.length ≤ 6) (y5 y6 y7 y8 y9 : Sim.S) :
    ∃ told' c' z5 z6, okT told' ∧ 1 ≤ told'.length ∧ told'.length ≤ 6 ∧ isBag c' ∧
      s__law_new_name_3 [.e (.loc n), .e (.loc m), .e (.p (.str ltr)), .e (.p (.str told)), .u, y5, y6, y7, y8, y9] S = .nx [.e (.loc n), .e (.loc m), .e (.p (.str ltr)), .e (.p (.str told')), .u, z5, z6, y7, y8, y9] (S.set n c') := by
  by_cases h0 : ns = []
  · subst h0
    refine ⟨told, c, y5, y6, o1, o2, o3, hc, ?_⟩
    rw [show S.set n c = S from set_id hS]
    simp [s__law_new_name_3, LINE, takeSet, takeSet2, mfOf, rsOut, fvOut, sSeq, RS.then, sAsg, sAsgO, sAsgL, sAsgG, sDrop, sRet, sRetN, sNx, sIf, sBk, sCt, sFz, sAug, Rs.st, Rs.bind, cFz, cUp, cVar, cD, cOp, cBool, orF, bF, addF, addI, addIB, addS, subF, i2, mulF, mulI, mulIB, modF, fdivF, powF, ltI, leI, gtI, geI, ltS, leS, gtS, geS, s2, eqF, neF, sceq_ii, sceq_ss, sceq_bb, isF, isnF, isN, cNot, cAnd, cOr, cTru, tru, cAndV, cOrV, cNotV, cIf, cNil, cCons, cCall, f1, intF, absF, lenF, lenV, listF, tupF, dictF, copyD, ixF, dgF, dkF, dkey, seqAt, look, dvw, dat, C.fz, keyD, atI, ixN, cTup, cLst, cNewD, tupV, lstV, pureL, oes, cFn, frIn, cSet, setR, getC, putC, orS, setL, setD, C.sc, E.sc, E.scL, cMw, rcvL, isLst, mwApp, gN, gT, gC, gN0, tupE, cIsi, isiF, tagW, isB, noOwn, cNeg, pSm, pNo, cSl, seqE, seqLE, sltE, hm]
  · have hp : 0 < ns.length := by rcases ns with _ | ⟨x, r⟩; exact absurd rfl h0; exact Nat.succ_pos _
    have he : ns.isEmpty = false := by simpa using h0
    obtain ⟨w, c1, e1, b1, i0, i1⟩ := pick_c hS hc 3 (by omega) (by omega)
    by_cases hw : w = 0
    · subst hw
      have s1 := set_at (d := c1) hS
      have m1 := (set_other (S := S) (c := c1) ne).trans hm
      obtain ⟨v, c2, e2, b2, j0, j1⟩ := pick_c s1 b1 ns.length (by omega) (by omega)
      rw [List.set_set] at e2
      have m2 := (set_other (S := S) (c := c2) ne).trans hm
      have lt : v.toNat < ns.length := by omega
      obtain ⟨s, hs⟩ : ∃ s, ns[v.toNat] = s := ⟨_, rfl⟩
      have os : okS s := hs ▸ hn _ (List.getElem_mem lt)
      obtain ⟨q1, q2, q3⟩ := os
      obtain ⟨near, hnear⟩ : ∃ near, near = cutS s none (some 6) := ⟨_, rfl⟩
      have nl : near.length = min 6 s.length := hnear ▸ len_cut6
      have no : okT near := hnear ▸ okT_cut q3
      obtain ⟨a, c3, e3, b3, k0, k1⟩ := pick_c (set_at (d := c2) hS) b2 near.length (by omega) (by omega)
      rw [List.set_set] at e3
      obtain ⟨l, c4, e4, b4, l0, l1⟩ := pick_c (set_at (d := c3) hS) b3 26 (by omega) (by omega)
      rw [List.set_set] at e4
      obtain ⟨A, rfl⟩ : ∃ A : Nat, a = A := ⟨a.toNat, by omega⟩
      refine ⟨cutS near none (some (A : Int)) ++ let1 l.toNat ++ cutS near (some ((A + 1 : Nat) : Int)) none, c4, .e (.p (.str near)), .e (.p (.int A)), okT_app (okT_app (okT_cut no) (okT_let (by omega))) (okT_cut no), ?_, ?_, b4, ?_⟩
      · rw [len_app, len_app, len_cut_to, len_cut_from, len_let]
        omega
      · rw [len_app, len_app, len_cut_to, len_cut_from, len_let]
        omega
      · unfold s__law_new_name_3
        refine if_t (F1 := [.e (.loc n), .e (.loc m), .e (.p (.str ltr)), .e (.p (.str told)), .u, y5, y6, y7, y8, y9]) (T1 := S.set n c1) (by simp [LINE, takeSet, takeSet2, mfOf, rsOut, fvOut, sSeq, RS.then, sAsg, sAsgO, sAsgL, sAsgG, sDrop, sRet, sRetN, sNx, sIf, sBk, sCt, sFz, sAug, Rs.st, Rs.bind, cFz, cUp, cVar, cD, cOp, cBool, orF, bF, addF, addI, addIB, addS, subF, i2, mulF, mulI, mulIB, modF, fdivF, powF, ltI, leI, gtI, geI, ltS, leS, gtS, geS, s2, eqF, neF, sceq_ii, sceq_ss, sceq_bb, isF, isnF, isN, cNot, cAnd, cOr, cTru, tru, cAndV, cOrV, cNotV, cIf, cNil, cCons, cCall, f1, intF, absF, lenF, lenV, listF, tupF, dictF, copyD, ixF, dgF, dkF, dkey, seqAt, look, dvw, dat, C.fz, keyD, atI, ixN, cTup, cLst, cNewD, tupV, lstV, pureL, oes, cFn, frIn, cSet, setR, getC, putC, orS, setL, setD, C.sc, E.sc, E.scL, cMw, rcvL, isLst, mwApp, gN, gT, gC, gN0, tupE, cIsi, isiF, tagW, isB, noOwn, cNeg, pSm, pNo, cSl, seqE, seqLE, sltE, hm, he, e1]) ?_
        refine seq_nx (F1 := [.e (.loc n), .e (.loc m), .e (.p (.str ltr)), .e (.p (.str told)), .u, .e (.p (.str near)), y6, y7, y8, y9]) (T1 := S.set n c2) ?_ ?_
        · have g2 : s.length ≤ 16777216 := by omega
          simp [LINE, takeSet, takeSet2, mfOf, rsOut, fvOut, sSeq, RS.then, sAsg, sAsgO, sAsgL, sAsgG, sDrop, sRet, sRetN, sNx, sIf, sBk, sCt, sFz, sAug, Rs.st, Rs.bind, cFz, cUp, cVar, cD, cOp, cBool, orF, bF, addF, addI, addIB, addS, subF, i2, mulF, mulI, mulIB, modF, fdivF, powF, ltI, leI, gtI, geI, ltS, leS, gtS, geS, s2, eqF, neF, sceq_ii, sceq_ss, sceq_bb, isF, isnF, isN, cNot, cAnd, cOr, cTru, tru, cAndV, cOrV, cNotV, cIf, cNil, cCons, cCall, f1, intF, absF, lenF, lenV, listF, tupF, dictF, copyD, ixF, dgF, dkF, dkey, seqAt, look, dvw, dat, C.fz, keyD, atI, ixN, cTup, cLst, cNewD, tupV, lstV, pureL, oes, cFn, frIn, cSet, setR, getC, putC, orS, setL, setD, C.sc, E.sc, E.scL, cMw, rcvL, isLst, mwApp, gN, gT, gC, gN0, tupE, cIsi, isiF, tagW, isB, noOwn, cNeg, pSm, pNo, cSl, seqE, seqLE, sltE, m1, m2, e2, j0, j1, lt, hs, slF, g2, hnear]
        refine seq_nx (F1 := [.e (.loc n), .e (.loc m), .e (.p (.str ltr)), .e (.p (.str told)), .u, .e (.p (.str near)), .e (.p (.int A)), y7, y8, y9]) (T1 := S.set n c3) ?_ ?_
        · have g3 : near.length ≤ 16777216 := by omega
          simp [LINE, takeSet, takeSet2, mfOf, rsOut, fvOut, sSeq, RS.then, sAsg, sAsgO, sAsgL, sAsgG, sDrop, sRet, sRetN, sNx, sIf, sBk, sCt, sFz, sAug, Rs.st, Rs.bind, cFz, cUp, cVar, cD, cOp, cBool, orF, bF, addF, addI, addIB, addS, subF, i2, mulF, mulI, mulIB, modF, fdivF, powF, ltI, leI, gtI, geI, ltS, leS, gtS, geS, s2, eqF, neF, sceq_ii, sceq_ss, sceq_bb, isF, isnF, isN, cNot, cAnd, cOr, cTru, tru, cAndV, cOrV, cNotV, cIf, cNil, cCons, cCall, f1, intF, absF, lenF, lenV, listF, tupF, dictF, copyD, ixF, dgF, dkF, dkey, seqAt, look, dvw, dat, C.fz, keyD, atI, ixN, cTup, cLst, cNewD, tupV, lstV, pureL, oes, cFn, frIn, cSet, setR, getC, putC, orS, setL, setD, C.sc, E.sc, E.scL, cMw, rcvL, isLst, mwApp, gN, gT, gC, gN0, tupE, cIsi, isiF, tagW, isB, noOwn, cNeg, pSm, pNo, cSl, seqE, seqLE, sltE, e3, g3]
        · have g3 : near.length ≤ 16777216 := by omega
          have g4 : (cutS near none (some (A : Int))).length ≤ 16777216 := by rw [len_cut_to]; omega
          have g5 : (cutS near (some ((A : Int) + 1)) none).length ≤ 16777216 := by
            rw [show ((A : Int) + 1) = ((A + 1 : Nat) : Int) from rfl, len_cut_from]
            omega
          have g6 : (cutS near none (some (A : Int))).length + (let1 l.toNat).length ≤ 16777216 := by rw [len_cut_to, len_let]; omega
          have g7 : (cutS near none (some (A : Int)) ++ let1 l.toNat).length + (cutS near (some ((A : Int) + 1)) none).length ≤ 16777216 := by
            rw [show ((A : Int) + 1) = ((A + 1 : Nat) : Int) from rfl, len_app, len_cut_to, len_let, len_cut_from]
            omega
          have L := ltr_at [.e (.loc n), .e (.loc m), .e (.p (.str ltr)), .e (.p (.str told)), .u, .e (.p (.str near)), .e (.p (.int A)), y7, y8, y9] (S.set n c4) l0 l1
          have L2 : (cOp (orF ixF dgF) (cVar 2) (cFz (cFn 2 f__law_pick (cCons (cVar 0) (cCons (cD (.int 26)) cNil))))) [.e (.loc n), .e (.loc m), .e (.p (.str ltr)), .e (.p (.str told)), .u, .e (.p (.str near)), .e (.p (.int A)), y7, y8, y9] (S.set n c3) = .ok (.o (.e (.p (.str (let1 l.toNat))))) [.e (.loc n), .e (.loc m), .e (.p (.str ltr)), .e (.p (.str told)), .u, .e (.p (.str near)), .e (.p (.int A)), y7, y8, y9] (S.set n c4) := by
            simp [cFz, cOp, cVar, cFn, cCons, cNil, cD, Rs.bind, oes, e4, L, frIn]
          have L3 : (cFz (cOp (orF ixF dgF) (cVar 2) (cFz (cFn 2 f__law_pick (cCons (cVar 0) (cCons (cD (.int 26)) cNil)))))) [.e (.loc n), .e (.loc m), .e (.p (.str ltr)), .e (.p (.str told)), .u, .e (.p (.str near)), .e (.p (.int A)), y7, y8, y9] (S.set n c3) = .ok (.e (.p (.str (let1 l.toNat)))) [.e (.loc n), .e (.loc m), .e (.p (.str ltr)), .e (.p (.str told)), .u, .e (.p (.str near)), .e (.p (.int A)), y7, y8, y9] (S.set n c4) := by
            exact fz_ok L2
          obtain ⟨MX, hMX⟩ : ∃ MX : MO, MX = (cFz (cOp (orF ixF dgF) (cVar 2) (cFz (cFn 2 f__law_pick (cCons (cVar 0) (cCons (cD (.int 26)) cNil)))))) := ⟨_, rfl⟩
          rw [← hMX] at L3 ⊢
          simp [LINE, takeSet, takeSet2, mfOf, rsOut, fvOut, sSeq, RS.then, sAsg, sAsgO, sAsgL, sAsgG, sDrop, sRet, sRetN, sNx, sIf, sBk, sCt, sFz, sAug, Rs.st, Rs.bind, cFz, cUp, cVar, cD, cOp, cBool, orF, bF, addF, addI, addIB, addS, subF, i2, mulF, mulI, mulIB, modF, fdivF, powF, ltI, leI, gtI, geI, ltS, leS, gtS, geS, s2, eqF, neF, sceq_ii, sceq_ss, sceq_bb, isF, isnF, isN, cNot, cAnd, cOr, cTru, tru, cAndV, cOrV, cNotV, cIf, cNil, cCons, cCall, f1, intF, absF, lenF, lenV, listF, tupF, dictF, copyD, ixF, dgF, dkF, dkey, seqAt, look, dvw, dat, C.fz, keyD, atI, ixN, cTup, cLst, cNewD, tupV, lstV, pureL, oes, cFn, frIn, cSet, setR, getC, putC, orS, setL, setD, C.sc, E.sc, E.scL, cMw, rcvL, isLst, mwApp, gN, gT, gC, gN0, tupE, cIsi, isiF, tagW, isB, noOwn, cNeg, pSm, pNo, cSl, seqE, seqLE, sltE, L3, slF, g3, g4, g5, g6, g7]
    · refine ⟨told, c1, y5, y6, o1, o2, o3, b1, ?_⟩
      simp [s__law_new_name_3, LINE, takeSet, takeSet2, mfOf, rsOut, fvOut, sSeq, RS.then, sAsg, sAsgO, sAsgL, sAsgG, sDrop, sRet, sRetN, sNx, sIf, sBk, sCt, sFz, sAug, Rs.st, Rs.bind, cFz, cUp, cVar, cD, cOp, cBool, orF, bF, addF, addI, addIB, addS, subF, i2, mulF, mulI, mulIB, modF, fdivF, powF, ltI, leI, gtI, geI, ltS, leS, gtS, geS, s2, eqF, neF, sceq_ii, sceq_ss, sceq_bb, isF, isnF, isN, cNot, cAnd, cOr, cTru, tru, cAndV, cOrV, cNotV, cIf, cNil, cCons, cCall, f1, intF, absF, lenF, lenV, listF, tupF, dictF, copyD, ixF, dgF, dkF, dkey, seqAt, look, dvw, dat, C.fz, keyD, atI, ixN, cTup, cLst, cNewD, tupV, lstV, pureL, oes, cFn, frIn, cSet, setR, getC, putC, orS, setL, setD, C.sc, E.sc, E.scL, cMw, rcvL, isLst, mwApp, gN, gT, gC, gN0, tupE, cIsi, isiF, tagW, isB, noOwn, cNeg, pSm, pNo, cSl, seqE, seqLE, sltE, hm, he, e1, hw]
end Law

set_option linter.all false
set_option maxRecDepth 100000
set_option maxHeartbeats 4000000
namespace Law
open PySem L2 Sim
theorem nodup_len : ∀ {l m : List Str}, l.Nodup → (∀ x ∈ l, x ∈ m) → l.length ≤ m.length
  | [], m, _, _ => Nat.zero_le _
  | x :: r, m, hn, h => by
    obtain ⟨h1, h2⟩ := List.nodup_cons.mp hn
    have hx := h x List.mem_cons_self
    have := nodup_len (l := r) (m := m.erase x) h2 fun y hy => (List.mem_erase_of_ne (fun e => h1 (by rw [← e]; exact hy))).mpr (h y (List.mem_cons_of_mem _ hy))
    rw [List.length_erase_of_mem hx] at this
    have := List.length_pos_of_mem hx
    rw [List.length_cons]
    omega
def tail2 (i : Nat) : Str := let1 (i / 26) ++ let1 (i % 26)
theorem tail2_list {i : Nat} : (tail2 i).cps.toList = [97 + i / 26, 97 + i % 26] := by
  unfold tail2
  rw [app_list]
  rfl
theorem tail2_inj {pre : Str} {i j : Nat} (h : pre ++ tail2 i = pre ++ tail2 j) : i = j := by
  have h2 := congrArg (fun s : Str => s.cps.toList) h
  simp only [app_list, tail2_list, List.append_cancel_left_eq] at h2
  injection h2 with a b
  injection b with b c
  omega
theorem nodup_map_on {α β : Type} {f : α → β} (hf : ∀ a b, f a = f b → a = b) : ∀ {l : List α}, l.Nodup → (l.map f).Nodup
  | [], _ => List.nodup_nil
  | x :: r, h => by
    obtain ⟨h1, h2⟩ := List.nodup_cons.mp h
    rw [List.map_cons, List.nodup_cons]
    refine ⟨fun hx => ?_, nodup_map_on hf h2⟩
    obtain ⟨y, hy, e⟩ := List.mem_map.mp hx
    exact h1 (hf _ _ e ▸ hy)
theorem some_tail {ns : List Str} (h : ns.length < 676) (pre : Str) : ∃ i, i < 676 ∧ pre ++ tail2 i ∉ ns := by
  apply Classical.byContradiction
  intro hc
  have hall : ∀ x ∈ (List.range 676).map (fun i => pre ++ tail2 i), x ∈ ns := by
    intro x hx
    obtain ⟨i, hi, rfl⟩ := List.mem_map.mp hx
    exact Classical.byContradiction fun hn => hc ⟨i, List.mem_range.mp hi, hn⟩
  have := nodup_len (nodup_map_on (fun a b e => tail2_inj e) List.nodup_range) hall
  rw [List.length_map, List.length_range] at this
  omega
def strE (e : E) : Str := match e with
  | .p (.str t) => t
  | _ => ⟨#[]⟩
theorem name_4 {S : Sto} {n m : Nat} {ns : List Str} (hm : S[m]? = some (.lst (ns.map .str))) (h3 : ns.length < 676) (told : Str) (o1 : okT told) (o2 : 1 ≤ told.length) (o3 : told.length ≤ 6) (z5 z6 y7 y8 y9 : Sim.S) :
    ∃ told' z7 z8 z9, okT told' ∧ 1 ≤ told'.length ∧ told'.length ≤ 8 ∧ told' ∉ ns ∧
      s__law_new_name_4 [.e (.loc n), .e (.loc m), .e (.p (.str ltr)), .e (.p (.str told)), .u, z5, z6, y7, y8, y9] S = .nx [.e (.loc n), .e (.loc m), .e (.p (.str ltr)), .e (.p (.str told')), .u, z5, z6, z7, z8, z9] S := by
  by_cases hin : told ∈ ns
  · obtain ⟨pre, hpre⟩ : ∃ pre, pre = cutS told none (some 6) := ⟨_, rfl⟩
    have pl : pre.length = min 6 told.length := hpre ▸ len_cut6
    have po : okT pre := hpre ▸ okT_cut o1
    have g0 : told.length ≤ 16777216 := by omega
    obtain ⟨tails, ht⟩ : ∃ tails, tails = (List.range 676).map tail2 := ⟨_, rfl⟩
    have k1 := lcE_all (mg := gN 8) (t := tT) (el := b__law_new_name_2) (vs := [8]) (F := [.e (.loc n), .e (.loc m), .e (.p (.str ltr)), .e (.p (.str told)), .u, z5, z6, y7, .u, y9]) (T := S) (h := fun e => match e with | .p (.int i) => D.str (tail2 i.toNat) | _ => .non) (es := rngE 0 676) (acc := []) (by
      intro x hx
      obtain ⟨i, hi, rfl⟩ := List.mem_map.mp hx
      have hi := List.mem_range.mp hi
      have d0 : (0 : Int) ≤ ((0 : Int) + (i : Nat)) / 26 := by omega
      have d1 : ((0 : Int) + (i : Nat)) / 26 < 26 := by omega
      have e0 : (0 : Int) ≤ ((0 : Int) + (i : Nat)) % 26 := by omega
      have e1 : ((0 : Int) + (i : Nat)) % 26 < 26 := by omega
      obtain ⟨F1, hF1⟩ : ∃ F1 : Fr, F1 = [.e (.loc n), .e (.loc m), .e (.p (.str ltr)), .e (.p (.str told)), .u, z5, z6, y7, .e (.p (.int (0 + (i : Nat)))), y9] := ⟨_, rfl⟩
      have l1 := ltr_at F1 S d0 d1
      have l2 := ltr_at F1 S e0 e1
      have t1 : (((0 : Int) + (i : Nat)) / 26).toNat = i / 26 := by omega
      have t2 : (((0 : Int) + (i : Nat)) % 26).toNat = i % 26 := by omega
      have t3 : ((0 : Int) + (i : Nat)).toNat = i := by omega
      rw [t1] at l1
      rw [t2] at l2
      refine ⟨F1, by rw [hF1]; rfl, rfl, ?_, by rw [hF1]; rfl⟩
      simp only [t3]
      have v8 : cVar 8 F1 S = .ok (.e (.p (.int (0 + (i : Nat))))) F1 S := by rw [hF1]; rfl
      have v2 : cVar 2 F1 S = .ok (.e (.p (.str ltr))) F1 S := by rw [hF1]; rfl
      have A1 : cFz (cOp fdivF (cVar 8) (cD (.int 26))) F1 S = .ok (.e (.p (.int ((0 + (i : Nat)) / 26)))) F1 S := by
        apply fz_ok
        simp [cOp, v8, Rs.bind, cD, fdivF, i2]
      have A2 : cFz (cOp modF (cFz (cCall (f1 intF) (cCons (cVar 8) cNil))) (cD (.int 26))) F1 S = .ok (.e (.p (.int ((0 + (i : Nat)) % 26)))) F1 S := by
        apply fz_ok
        simp [cFz, cOp, v8, Rs.bind, cD, modF, i2, cCall, f1, intF, cCons, cNil, dat]
      have B1 : cFz (cOp (orF ixF dgF) (cVar 2) (cFz (cOp fdivF (cVar 8) (cD (.int 26))))) F1 S = .ok (.e (.p (.str (let1 (i / 26))))) F1 S := by
        apply fz_ok
        simp only [cOp, v2, Rs.bind, A1, l1]
      have B2 : cFz (cOp (orF ixF dgF) (cVar 2) (cFz (cOp modF (cFz (cCall (f1 intF) (cCons (cVar 8) cNil))) (cD (.int 26))))) F1 S = .ok (.e (.p (.str (let1 (i % 26))))) F1 S := by
        apply fz_ok
        simp only [cOp, v2, Rs.bind, A2, l2]
      unfold b__law_new_name_2
      apply fz_ok
      have g : (let1 (i / 26)).length + (let1 (i % 26)).length ≤ 16777216 := by rw [len_let, len_let]; omega
      simp [cOp, B1, B2, Rs.bind, addF, addI, orF, i2, addIB, addS, LINE, dat, g, tail2, isB])
      (by simp [rngE, LINE])
    have k1' : lcE (gN 8) tT b__law_new_name_2 [8] (rngE 0 676) [] [.e (.loc n), .e (.loc m), .e (.p (.str ltr)), .e (.p (.str told)), .u, z5, z6, y7, .u, y9] S = .ok (tails.map .str) [.e (.loc n), .e (.loc m), .e (.p (.str ltr)), .e (.p (.str told)), .u, z5, z6, y7, .u, y9] S := by
      rw [k1, ht]
      simp [rngE]
    clear k1
    have l676 : tails.length = 676 := by rw [ht, List.length_map, List.length_range]
    have hsub : ∀ F : Fr, F[3]? = some (.e (.p (.str told))) → cFz (cSl (cVar 3) pNo (pSm (cD (.int 6)))) F S = .ok (.e (.p (.str pre))) F S := by
      intro F hF
      apply fz_ok
      simp [cSl, cVar, hF, Rs.bind, pNo, pSm, cD, slF, look, dvw, seqLE, sltE, LINE, g0, hpre]
    have k2 := lcE_map (mg := gN 9) (t := b__law_new_name_3) (el := b__law_new_name_4) (vs := [9]) (F := [.e (.loc n), .e (.loc m), .e (.p (.str ltr)), .e (.p (.str told)), .u, z5, z6, .e (.p (.lst (tails.map .str))), .u, .u]) (T := S) (p := fun e => !decide (pre ++ strE e ∈ ns)) (h := fun e => D.str (pre ++ strE e)) (es := tails.map fun t => .p (.str t)) (acc := []) (by
      intro x hx
      obtain ⟨t, htm, rfl⟩ := List.mem_map.mp hx
      obtain ⟨i, hi, hti⟩ := List.mem_map.mp (ht ▸ htm)
      have tl : t.length = 2 := by rw [← hti, len_list, tail2_list]; rfl
      obtain ⟨F1, hF1⟩ : ∃ F1 : Fr, F1 = [.e (.loc n), .e (.loc m), .e (.p (.str ltr)), .e (.p (.str told)), .u, z5, z6, .e (.p (.lst (tails.map .str))), .u, .e (.p (.str t))] := ⟨_, rfl⟩
      have v9 : cVar 9 F1 S = .ok (.e (.p (.str t))) F1 S := by rw [hF1]; rfl
      have v1 : cVar 1 F1 S = .ok (.e (.loc m)) F1 S := by rw [hF1]; rfl
      have g : pre.length + t.length ≤ 16777216 := by omega
      have A : cFz (cOp addF (cFz (cSl (cVar 3) pNo (pSm (cD (.int 6))))) (cVar 9)) F1 S = .ok (.e (.p (.str (pre ++ t)))) F1 S := by
        apply fz_ok
        simp [cOp, hsub F1 (by rw [hF1]; rfl), v9, Rs.bind, addF, addI, orF, i2, addIB, addS, LINE, dat, g, isB]
      have hd : dat F1 S (.e (.loc m)) = some (.lst (ns.map .str)) := by simp [dat, look, dvw, hm, C.fz]
      have hv := niF_strs (x := pre ++ t) hd
      rw [inV_strs] at hv
      refine ⟨F1, by rw [hF1]; rfl, ?_, fun _ => A, by rw [hF1]; rfl⟩
      unfold b__law_new_name_3
      simp [cBool, cOp, A, v1, Rs.bind, hv, strE]
      congr)
      (by simp [LINE, l676])
    obtain ⟨i, hi, hni⟩ := some_tail h3 pre
    obtain ⟨outs, ho⟩ : ∃ outs, outs = (tails.filter fun t => !decide (pre ++ t ∈ ns)).map fun t => pre ++ t := ⟨_, rfl⟩
    have k2' : lcE (gN 9) b__law_new_name_3 b__law_new_name_4 [9] (tails.map fun t => .p (.str t)) [] [.e (.loc n), .e (.loc m), .e (.p (.str ltr)), .e (.p (.str told)), .u, z5, z6, .e (.p (.lst (tails.map .str))), .u, .u] S = .ok (outs.map .str) [.e (.loc n), .e (.loc m), .e (.p (.str ltr)), .e (.p (.str told)), .u, z5, z6, .e (.p (.lst (tails.map .str))), .u, .u] S := by
      rw [k2, ho, List.filter_map, List.map_map, List.map_map]
      rfl
    clear k2
    have hmem : pre ++ tail2 i ∈ outs := by
      rw [ho]
      refine List.mem_map.mpr ⟨tail2 i, List.mem_filter.mpr ⟨?_, by simp [hni]⟩, rfl⟩
      rw [ht]
      exact List.mem_map.mpr ⟨i, List.mem_range.mpr hi, rfl⟩
    obtain ⟨x, r, hxr⟩ : ∃ x r, outs = x :: r := by
      cases outs with
      | nil => cases hmem
      | cons x r => exact ⟨x, r, rfl⟩
    have hx : x ∈ outs := hxr ▸ List.mem_cons_self
    obtain ⟨t, htm, hxt⟩ := List.mem_map.mp (ho ▸ hx)
    obtain ⟨htm, htn⟩ := List.mem_filter.mp htm
    obtain ⟨j, hj, hjt⟩ := List.mem_map.mp (ht ▸ htm)
    have hj := List.mem_range.mp hj
    have tl : t.length = 2 := by rw [← hjt, len_list, tail2_list]; rfl
    have to : okT t := by rw [← hjt]; exact okT_app (okT_let (by omega)) (okT_let (by omega))
    refine ⟨x, .e (.p (.lst (tails.map .str))), .u, .u, ?_, ?_, ?_, ?_, ?_⟩
    · rw [← hxt]; exact okT_app po to
    · rw [← hxt, len_app]; omega
    · rw [← hxt, len_app]; omega
    · rw [← hxt]; simpa using htn
    · have hd : dat [.e (.loc n), .e (.loc m), .e (.p (.str ltr)), .e (.p (.str told)), .u, z5, z6, y7, y8, y9] S (.e (.loc m)) = some (.lst (ns.map .str)) := by simp [dat, look, dvw, hm, C.fz]
      have hv := inF_strs (x := told) hd
      rw [inV_strs, decide_eq_true hin] at hv
      unfold s__law_new_name_4
      refine if_t (F1 := [.e (.loc n), .e (.loc m), .e (.p (.str ltr)), .e (.p (.str told)), .u, z5, z6, y7, y8, y9]) (T1 := S) (by simp [cBool, cOp, cVar, Rs.bind, hv]) ?_
      refine seq_nx (F1 := [.e (.loc n), .e (.loc m), .e (.p (.str ltr)), .e (.p (.str told)), .u, z5, z6, .e (.p (.lst (tails.map .str))), .u, y9]) (T1 := S) ?_ ?_
      · simp [LINE, takeSet, takeSet2, mfOf, rsOut, fvOut, sSeq, RS.then, sAsg, sAsgO, sAsgL, sAsgG, sDrop, sRet, sRetN, sNx, sIf, sBk, sCt, sFz, sAug, Rs.st, Rs.bind, cFz, cUp, cVar, cD, cOp, cBool, orF, bF, addF, addI, addIB, addS, subF, i2, mulF, mulI, mulIB, modF, fdivF, powF, ltI, leI, gtI, geI, ltS, leS, gtS, geS, s2, eqF, neF, sceq_ii, sceq_ss, sceq_bb, isF, isnF, isN, cNot, cAnd, cOr, cTru, tru, cAndV, cOrV, cNotV, cIf, cNil, cCons, cCall, f1, intF, absF, lenF, lenV, listF, tupF, dictF, copyD, ixF, dgF, dkF, dkey, seqAt, look, dvw, dat, C.fz, keyD, atI, ixN, cTup, cLst, cNewD, tupV, lstV, pureL, oes, cFn, frIn, cSet, setR, getC, putC, orS, setL, setD, C.sc, E.sc, E.scL, cMw, rcvL, isLst, mwApp, gN, gT, gC, gN0, tupE, cIsi, isiF, tagW, isB, noOwn, cNeg, pSm, pNo, cSl, seqE, seqLE, sltE, cLc, wipeF, cR1, k1']
      · have hm2 : (tails.map D.str).map E.p = tails.map fun t => E.p (.str t) := by rw [List.map_map]; rfl
        have c1 : cIt (cVar 7) [.e (.loc n), .e (.loc m), .e (.p (.str ltr)), .e (.p (.str told)), .u, z5, z6, .e (.p (.lst (tails.map .str))), .u, y9] S = .ok (tails.map fun t => E.p (.str t)) [.e (.loc n), .e (.loc m), .e (.p (.str ltr)), .e (.p (.str told)), .u, z5, z6, .e (.p (.lst (tails.map .str))), .u, y9] S := by
          rw [← hm2]
          rfl
        simp [LINE, takeSet, takeSet2, mfOf, rsOut, fvOut, sSeq, RS.then, sAsg, sAsgO, sAsgL, sAsgG, sDrop, sRet, sRetN, sNx, sIf, sBk, sCt, sFz, sAug, Rs.st, Rs.bind, cFz, cUp, cVar, cD, cOp, cBool, orF, bF, addF, addI, addIB, addS, subF, i2, mulF, mulI, mulIB, modF, fdivF, powF, ltI, leI, gtI, geI, ltS, leS, gtS, geS, s2, eqF, neF, sceq_ii, sceq_ss, sceq_bb, isF, isnF, isN, cNot, cAnd, cOr, cTru, tru, cAndV, cOrV, cNotV, cIf, cNil, cCons, cCall, f1, intF, absF, lenF, lenV, listF, tupF, dictF, copyD, ixF, dgF, dkF, dkey, seqAt, look, dvw, dat, C.fz, keyD, atI, ixN, cTup, cLst, cNewD, tupV, lstV, pureL, oes, cFn, frIn, cSet, setR, getC, putC, orS, setL, setD, C.sc, E.sc, E.scL, cMw, rcvL, isLst, mwApp, gN, gT, gC, gN0, tupE, cIsi, isiF, tagW, isB, noOwn, cNeg, pSm, pNo, cSl, seqE, seqLE, sltE, cLc, wipeF, c1, k2', hxr]
  · refine ⟨told, y7, y8, y9, o1, o2, by omega, hin, ?_⟩
    have hd : dat [.e (.loc n), .e (.loc m), .e (.p (.str ltr)), .e (.p (.str told)), .u, z5, z6, y7, y8, y9] S (.e (.loc m)) = some (.lst (ns.map .str)) := by simp [dat, look, dvw, hm, C.fz]
    have hv := inF_strs (x := told) hd
    rw [inV_strs, decide_eq_false hin] at hv
    unfold s__law_new_name_4
    refine if_f (F1 := [.e (.loc n), .e (.loc m), .e (.p (.str ltr)), .e (.p (.str told)), .u, z5, z6, y7, y8, y9]) (T1 := S) ?_ rfl
    simp [cBool, cOp, cVar, Rs.bind, hv]
end Law

set_option linter.all false
set_option maxRecDepth 100000
set_option maxHeartbeats 4000000
namespace Law
open PySem L2 Sim
theorem new_name_ok {S : Sto} {n m : Nat} {c : C} {ns : List Str} (hS : S[n]? = some c) (hc : isBag c) (hm : S[m]? = some (.lst (ns.map .str))) (ne : n ≠ m) (hn : okN ns) (h3 : ns.length < 600) :
    ∃ told c', okS told ∧ told ∉ ns ∧ isBag c' ∧
      f__law_new_name [.loc n, .loc m] S = .ok (.e (.p (.str told))) ((S.set n c').set m (.lst ((ns ++ [told]).map .str))) := by
  obtain ⟨t2, c2, a1, a2, a3, b2, e2⟩ := name_2 hS hc .u .u .u .u .u .u .u m
  have m2 := (set_other (S := S) (c := c2) ne).trans hm
  obtain ⟨t3, c3, z5, z6, a4, a5, a6, b3, e3⟩ := name_3 (set_at (d := c2) hS) b2 m2 ne hn (by omega) t2 a1 a2 a3 .u .u .u .u .u
  rw [List.set_set] at e3
  have m3 := (set_other (S := S) (c := c3) ne).trans hm
  obtain ⟨t4, z7, z8, z9, a7, a8, a9, h4, e4⟩ := name_4 m3 (by omega) t3 a4 a5 a6 z5 z6 .u .u .u
  refine ⟨t4, c3, ⟨a8, a9, a7⟩, h4, b3, ?_⟩
  have hlm : m < S.length := (List.getElem?_eq_some_iff.mp hm).1
  have q : m__law_new_name [.e (.loc n), .e (.loc m), .u, .u, .u, .u, .u, .u, .u, .u] S = .rt (.o (.e (.p (.str t4)))) [.e (.loc n), .e (.loc m), .e (.p (.str ltr)), .e (.p (.str t4)), .u, z5, z6, z7, z8, z9] ((S.set n c3).set m (.lst ((ns ++ [t4]).map .str))) := by
    refine seq_nx (F1 := [.e (.loc n), .e (.loc m), .e (.p (.str ltr)), .u, .u, .u, .u, .u, .u, .u]) (T1 := S) rfl (seq_nx e2 (seq_nx e3 (seq_nx e4 ?_)))
    refine seq_nx (F1 := [.e (.loc n), .e (.loc m), .e (.p (.str ltr)), .e (.p (.str t4)), .u, z5, z6, z7, z8, z9]) (T1 := (S.set n c3).set m (.lst ((ns ++ [t4]).map .str))) ?_ ?_
    · have g : ns.length < 16777216 := by omega
      simp [s__law_new_name_5, LINE, takeSet, takeSet2, mfOf, rsOut, fvOut, sSeq, RS.then, sAsg, sAsgO, sAsgL, sAsgG, sDrop, sRet, sRetN, sNx, sIf, sBk, sCt, sFz, sAug, Rs.st, Rs.bind, cFz, cUp, cVar, cD, cOp, cBool, orF, bF, addF, addI, addIB, addS, subF, i2, mulF, mulI, mulIB, modF, fdivF, powF, ltI, leI, gtI, geI, ltS, leS, gtS, geS, s2, eqF, neF, sceq_ii, sceq_ss, sceq_bb, isF, isnF, isN, cNot, cAnd, cOr, cTru, tru, cAndV, cOrV, cNotV, cIf, cNil, cCons, cCall, f1, intF, absF, lenF, lenV, listF, tupF, dictF, copyD, ixF, dgF, dkF, dkey, seqAt, look, dvw, dat, C.fz, keyD, atI, ixN, cTup, cLst, cNewD, tupV, lstV, pureL, oes, cFn, frIn, cSet, setR, getC, putC, orS, setL, setD, C.sc, E.sc, E.scL, cMw, rcvL, isLst, mwApp, gN, gT, gC, gN0, tupE, cIsi, isiF, tagW, isB, noOwn, cNeg, pSm, pNo, cSl, seqE, seqLE, sltE, m3, g]
    · simp [s__law_new_name_6, LINE, takeSet, takeSet2, mfOf, rsOut, fvOut, sSeq, RS.then, sAsg, sAsgO, sAsgL, sAsgG, sDrop, sRet, sRetN, sNx, sIf, sBk, sCt, sFz, sAug, Rs.st, Rs.bind, cFz, cUp, cVar, cD, cOp, cBool, orF, bF, addF, addI, addIB, addS, subF, i2, mulF, mulI, mulIB, modF, fdivF, powF, ltI, leI, gtI, geI, ltS, leS, gtS, geS, s2, eqF, neF, sceq_ii, sceq_ss, sceq_bb, isF, isnF, isN, cNot, cAnd, cOr, cTru, tru, cAndV, cOrV, cNotV, cIf, cNil, cCons, cCall, f1, intF, absF, lenF, lenV, listF, tupF, dictF, copyD, ixF, dgF, dkF, dkey, seqAt, look, dvw, dat, C.fz, keyD, atI, ixN, cTup, cLst, cNewD, tupV, lstV, pureL, oes, cFn, frIn, cSet, setR, getC, putC, orS, setL, setD, C.sc, E.sc, E.scL, cMw, rcvL, isLst, mwApp, gN, gT, gC, gN0, tupE, cIsi, isiF, tagW, isB, noOwn, cNeg, pSm, pNo, cSl, seqE, seqLE, sltE]
  have q2 : f__law_new_name [.loc n, .loc m] S = rsOut S.length (m__law_new_name [.e (.loc n), .e (.loc m), .u, .u, .u, .u, .u, .u, .u, .u] S) := rfl
  rw [q2, q]
  simp only [rsOut, fvOut, takeSet2]
  simp [E.sc]
end Law

set_option Elab.async false
set_option linter.all false
set_option maxRecDepth 100000
set_option maxHeartbeats 4000000
namespace Sim
open PySem L2
/-! ### evaluation of mirrors: the first part first; what comes behind stands where simp does not look -/
@[simp] theorem bind_ok {α β : Type} {f : α → Fr → Sto → Rs β} {a : α} {F : Fr} {T : Sto} : @bnd _ _ (Rs.ok a F T) (.mk f) = f a F T := id rfl
@[simp] theorem bind_exc {α β : Type} {f : α → Fr → Sto → Rs β} {a : Xc} {F : Fr} {T : Sto} : @bnd _ _ (Rs.exc a F T : Rs α) (.mk f) = .exc a F T := id rfl
@[simp] theorem bind_bad {α β : Type} {f : α → Fr → Sto → Rs β} : @bnd _ _ (Rs.bad : Rs α) (.mk f) = .bad := id rfl
@[simp] theorem st_ok {α : Type} {f : α → Fr → Sto → RS} {a : α} {F : Fr} {T : Sto} : @stt _ (Rs.ok a F T) (.mk f) = f a F T := id rfl
@[simp] theorem st_exc {α : Type} {f : α → Fr → Sto → RS} {a : Xc} {F : Fr} {T : Sto} : @stt _ (Rs.exc a F T : Rs α) (.mk f) = .exc a F T := id rfl
@[simp] theorem st_bad {α : Type} {f : α → Fr → Sto → RS} : @stt _ (Rs.bad : Rs α) (.mk f) = .bad := id rfl
@[simp] theorem then_nx {f : Fr → Sto → RS} {F : Fr} {T : Sto} : @thnS (RS.nx F T) (.mk f) = f F T := id rfl
@[simp] theorem then_rt {f : Fr → Sto → RS} {v : RV} {F : Fr} {T : Sto} : @thnS (RS.rt v F T) (.mk f) = .rt v F T := id rfl
@[simp] theorem then_exc {f : Fr → Sto → RS} {v : Xc} {F : Fr} {T : Sto} : @thnS (RS.exc v F T) (.mk f) = .exc v F T := id rfl
@[simp] theorem then_bk {f : Fr → Sto → RS} {F : Fr} {T : Sto} : @thnS (RS.bk F T) (.mk f) = .bk F T := id rfl
@[simp] theorem then_ct {f : Fr → Sto → RS} {F : Fr} {T : Sto} : @thnS (RS.ct F T) (.mk f) = .ct F T := id rfl
@[simp] theorem then_bad {f : Fr → Sto → RS} : @thnS RS.bad (.mk f) = .bad := id rfl
@[simp] theorem nox_ok {α : Type} {a : α} {F : Fr} {T : Sto} : (Rs.ok a F T).nox = .ok a F T := id rfl
section
variable {F : Fr} {T : Sto} {m n mo mv mi me ma' mb mc : MO} {e : ME} {t u : MT} {i j k : Nat} {f f' : F2} {ma : MA} {s s' : MS} {mg : MG}
@[simp] theorem cFz_ev : cFz e F T = @bnd _ _ (e F T) (.mk fun r F T => fzK r F T) := id rfl
@[simp] theorem fzK_o {x : OV} : fzK (.o x) F T = .ok x F T := id rfl
@[simp] theorem fzK_fr {c : C} : fzK (.fr c) F T = match c.fz with
    | some d => .ok (.e (.p d)) F T
    | none => .bad := id rfl
@[simp] theorem cUp_ev : cUp m F T = @bnd _ _ (m F T) (.mk fun x F T => .ok (.o x) F T) := id rfl
@[simp] theorem cVar_ev : cVar i F T = match F[i]? with
  | some (.e x) => .ok (.e x) F T
  | some (.o _) => .ok (.sl i) F T
  | _ => .bad := id rfl
@[simp] theorem cD_ev {d : D} : cD d F T = .ok (.e (.p d)) F T := id rfl
@[simp] theorem opK_s {z : RV} : opK (some z) F T = .ok z F T := id rfl
@[simp] theorem opK_n : opK none F T = .bad := id rfl
@[simp] theorem cOp_ev : cOp f m n F T = @bnd _ _ (m F T) (.mk fun x F T => @bnd _ _ (n F T) (.mk fun y F T => opK (f F T x y) F T)) := id rfl
@[simp] theorem cBool_ev : cBool e F T = @bnd _ _ (e F T) (.mk fun r F T => match r with
  | .o (.e (.p (.bl b))) => .ok b F T
  | _ => .bad) := id rfl
@[simp] theorem truK_s {z : Bool} : truK (some z) F T = .ok z F T := id rfl
@[simp] theorem cTru_ev : cTru m F T = @bnd _ _ (m F T) (.mk fun x F T => truK ((look F T x).bind tru) F T) := id rfl
@[simp] theorem cNot_ev : cNot t F T = @bnd _ _ (t F T) (.mk fun b F T => .ok (!b) F T) := id rfl
@[simp] theorem cAnd_ev : cAnd t u F T = @bnd _ _ (t F T) (.mk fun b F T => if b = true then u F T else .ok false F T) := id rfl
@[simp] theorem cOr_ev : cOr t u F T = @bnd _ _ (t F T) (.mk fun b F T => if b = true then .ok true F T else u F T) := id rfl
@[simp] theorem andK_t {x : OV} : andK (some true) x n F T = n F T := id rfl
@[simp] theorem andK_f {x : OV} : andK (some false) x n F T = .ok x F T := id rfl
@[simp] theorem orK_t {x : OV} : orK (some true) x n F T = .ok x F T := id rfl
@[simp] theorem orK_f {x : OV} : orK (some false) x n F T = n F T := id rfl
theorem andK_b {x : OV} {b : Bool} : andK (some b) x n F T = if b = true then n F T else .ok x F T := by cases b <;> rfl
theorem orK_b {x : OV} {b : Bool} : orK (some b) x n F T = if b = true then .ok x F T else n F T := by cases b <;> rfl
@[simp] theorem cAndV_ev : cAndV m n F T = @bnd _ _ (m F T) (.mk fun x F T => andK ((look F T x).bind tru) x n F T) := id rfl
@[simp] theorem cOrV_ev : cOrV m n F T = @bnd _ _ (m F T) (.mk fun x F T => orK ((look F T x).bind tru) x n F T) := id rfl
@[simp] theorem notK_s {b : Bool} : notK (some b) F T = .ok (.e (.p (.bl (!b)))) F T := id rfl
@[simp] theorem cNotV_ev : cNotV m F T = @bnd _ _ (m F T) (.mk fun x F T => notK ((look F T x).bind tru) F T) := id rfl
@[simp] theorem cIf_ev : cIf t m n F T = @bnd _ _ (t F T) (.mk fun b F T => if b = true then m F T else n F T) := id rfl
@[simp] theorem cNil_ev : cNil F T = .ok [] F T := id rfl
@[simp] theorem cCons_ev : cCons m ma F T = @bnd _ _ (m F T) (.mk fun x F T => @bnd _ _ (ma F T) (.mk fun r F T => .ok (x :: r) F T)) := id rfl
@[simp] theorem cCall_ev {g : FL} : cCall g ma F T = @bnd _ _ (ma F T) (.mk fun xs F T => opK (g F T xs) F T) := id rfl
@[simp] theorem f1_ev {g : Fr → Sto → OV → Option RV} {x : OV} : f1 g F T [x] = g F T x := id rfl
@[simp] theorem isiK_s {z : OV} : isiK (some (.o z)) F T = .ok z F T := id rfl
@[simp] theorem cIsi_ev {tab : Tg → Option Bool} : cIsi tab m F T = @bnd _ _ (m F T) (.mk fun x F T => isiK (isiF tab F T x) F T) := id rfl
@[simp] theorem sNx_ev : sNx F T = .nx F T := id rfl
@[simp] theorem sBk_ev : sBk F T = .bk F T := id rfl
@[simp] theorem sCt_ev : sCt F T = .ct F T := id rfl
@[simp] theorem sSeq_ev : sSeq s s' F T = @thnS (s F T) (.mk s') := id rfl
@[simp] theorem sIf_ev : sIf t s s' F T = @stt _ (t F T) (.mk fun b F T => if b = true then s F T else s' F T) := id rfl
@[simp] theorem sAsg_ev : sAsg i m F T = @stt _ (m F T) (.mk fun r F T => match r with
  | .e x => .nx (F.set i (.e x)) T
  | .sl _ => .bad) := id rfl
@[simp] theorem sAsgO_ev : sAsgO i e F T = @stt _ (e F T) (.mk fun r F T => match r with
  | .fr c => .nx (F.set i (.o c)) T
  | .o (.e x) => .nx (F.set i (.e x)) T
  | .o (.sl _) => .bad) := id rfl
@[simp] theorem sDrop_ev : sDrop e F T = @stt _ (e F T) (.mk fun _ F T => .nx F T) := id rfl
@[simp] theorem sRet_ev : sRet e F T = @stt _ (e F T) (.mk fun r F T => match r with
  | .o (.sl i) => match F[i]? with
    | some (.o c) => .rt (.fr c) (F.set i .u) T
    | _ => .bad
  | r => .rt r F T) := id rfl
@[simp] theorem sRetN_ev : sRetN F T = .rt (.o (.e (.p .non))) F T := id rfl
@[simp] theorem augK_s {z : E} : augK (some (.o (.e z))) i F T = .nx (F.set i (.e z)) T := id rfl
@[simp] theorem sAug_ev : sAug f i m F T = match F[i]? with
  | some (.e x) => @stt _ (m F T) (.mk fun y F T => augK (f F T (.e x) y) i F T)
  | _ => .bad := id rfl
@[simp] theorem sFz_ev : sFz i s F T = match F[i]? with
  | some (.o c) => match c.fz with
    | some d => s (F.set i (.e (.p d))) T
    | none => .bad
  | some (.e _) => s F T
  | _ => .bad := id rfl
@[simp] theorem gN_ev {x : E} : gN i x F = some (F.set i (.e x)) := id rfl
@[simp] theorem gT_ev {gs : MGs} {x : E} : gT gs x F = (tupE x).bind fun xs => gs xs F := id rfl
@[simp] theorem gC_ev {gs : MGs} {x : E} {r : List E} : gC mg gs (x :: r) F = (mg x F).bind (gs r) := id rfl
@[simp] theorem gN0_ev : gN0 [] F = some F := id rfl
@[simp] theorem tupE_t {ds : List D} : tupE (.p (.tup ds)) = some (ds.map .p) := id rfl
@[simp] theorem tupE_r {ds : List D} : tupE (.p (.rot ds)) = some (ds.map .p) := id rfl
@[simp] theorem tupE_e {ds : List E} : tupE (.tp ds) = some ds := id rfl
@[simp] theorem itK_s {es : List E} : itK (some es) F T = .ok es F T := id rfl
@[simp] theorem cIt_ev : cIt m F T = @bnd _ _ (m F T) (.mk fun x F T => itK (itE x) F T) := id rfl
@[simp] theorem itE_l {ds : List D} : itE (.e (.p (.lst ds))) = some (ds.map .p) := id rfl
@[simp] theorem itE_rl {ds : List D} : itE (.e (.p (.rol ds))) = some (ds.map .p) := id rfl
@[simp] theorem itE_t {ds : List D} : itE (.e (.p (.tup ds))) = some (ds.map .p) := id rfl
@[simp] theorem itE_rt {ds : List D} : itE (.e (.p (.rot ds))) = some (ds.map .p) := id rfl
@[simp] theorem itE_s {z : Str} : itE (.e (.p (.str z))) = some (z.cps.toList.map fun c => E.p (.str ⟨#[c]⟩)) := id rfl
@[simp] theorem itE_tp {ds : List E} : itE (.e (.tp ds)) = some ds := id rfl
theorem r1K_ok {j : Int} (h0 : -1000000000 ≤ j) (h1 : j < 1000000000) : r1K [.e (.p (.int j))] F T = .ok (rngE 0 j.toNat) F T := by
  exact if_pos (by omega)
@[simp] theorem r1K_nat {j : Nat} (h : j ≤ 16777216) : r1K [.e (.p (.int (j : Int)))] F T = .ok (rngE 0 j) F T := r1K_ok (by omega) (by omega)
@[simp] theorem cR1_ev : cR1 ma F T = @bnd _ _ (ma F T) (.mk fun xs F T => r1K xs F T) := id rfl
theorem r2K_ok {i j : Int} (h0 : -1000000000 ≤ i) (h1 : i < 1000000000) (h2 : -1000000000 ≤ j) (h3 : j < 1000000000) : r2K [.e (.p (.int i)), .e (.p (.int j))] F T = .ok (rngE i (j - i).toNat) F T := by
  exact if_pos (by omega)
@[simp] theorem cR2_ev : cR2 ma F T = @bnd _ _ (ma F T) (.mk fun xs F T => r2K xs F T) := id rfl
@[simp] theorem sFor_ev {mi : MI} : sFor mi mg s F T = @stt _ (mi F T) (.mk fun es F T => forE mg s es F T) := id rfl
@[simp] theorem cLc_ev {mi : MI} {vs : List Nat} : cLc mi mg t m vs F T = @bnd _ _ (mi F T) (.mk fun es F T => @bnd _ _ (lcE mg t m vs es [] (wipeF F vs) T) (.mk fun ds F T => .ok (.fr (.lst ds)) F T)) := id rfl
@[simp] theorem wipe_nil : wipeF F [] = F := id rfl
@[simp] theorem wipe_cons {vs : List Nat} : wipeF F (i :: vs) = (wipeF F vs).set i .u := id rfl
@[simp] theorem tT_ev : tT F T = .ok true F T := id rfl
@[simp] theorem fnK_1 {mf : MFn} {a : E} : fnK 1 mf (some [a]) F T = frIn F (mf [a] T) := id rfl
@[simp] theorem fnK_2 {mf : MFn} {a b : E} : fnK 2 mf (some [a, b]) F T = frIn F (mf [a, b] T) := id rfl
@[simp] theorem fnK_3 {mf : MFn} {a b c : E} : fnK 3 mf (some [a, b, c]) F T = frIn F (mf [a, b, c] T) := id rfl
@[simp] theorem fnK_4 {mf : MFn} {a b c d : E} : fnK 4 mf (some [a, b, c, d]) F T = frIn F (mf [a, b, c, d] T) := id rfl
@[simp] theorem fnK_5 {mf : MFn} {a b c d g : E} : fnK 5 mf (some [a, b, c, d, g]) F T = frIn F (mf [a, b, c, d, g] T) := id rfl
@[simp] theorem fnK_6 {mf : MFn} {a b c d g h : E} : fnK 6 mf (some [a, b, c, d, g, h]) F T = frIn F (mf [a, b, c, d, g, h] T) := id rfl
@[simp] theorem fnK_0 {mf : MFn} : fnK 0 mf (some []) F T = frIn F (mf [] T) := id rfl
@[simp] theorem cFn_ev {np : Nat} {mf : MFn} : cFn np mf ma F T = @bnd _ _ (ma F T) (.mk fun xs F T => fnK np mf (oes xs) F T) := id rfl
@[simp] theorem oes_nil : oes [] = some [] := id rfl
@[simp] theorem oes_cons {x : E} {r : List OV} : oes (.e x :: r) = (oes r).map (x :: ·) := id rfl
@[simp] theorem frIn_e {x : E} : frIn F (.ok (.e x) T) = .ok (.o (.e x)) F T := id rfl
@[simp] theorem frIn_fr {c : C} : frIn F (.ok (.fr c) T) = .ok (.fr c) F T := id rfl
@[simp] theorem frIn_x {x : Xc} : frIn F (.exc x T) = .exc x F T := id rfl
@[simp] theorem frIn_bad : frIn F .bad = .bad := id rfl
@[simp] theorem mwK_s {g : MWf} {x : OV} {c : C} {es : List E} : mwK g x (some c) (some es) F T = match g c es with
    | some (c', z) => match putC F T x c' with
      | some (F', T') => .ok (.o (.e z)) F' T'
      | none => .bad
    | none => .bad := id rfl
@[simp] theorem cMw_ev {g : MWf} : cMw g m ma F T = @bnd _ _ (m F T) (.mk fun x F T => if rcvL F T x = true then @bnd _ _ (ma F T) (.mk fun xs F T => mwK g x (getC F T x) (oes xs) F T) else .bad) := by
  rfl
@[simp] theorem rcvL_ev {x : OV} : rcvL F T x = match getC F T x with
  | some c => isLst c
  | none => false := id rfl
@[simp] theorem isLst_l {xs : List D} : isLst (.lst xs) = true := id rfl
@[simp] theorem isLst_e {xs : List E} : isLst (.lse xs) = true := id rfl
@[simp] theorem getC_loc : getC F T (.e (.loc i)) = T[i]? := id rfl
@[simp] theorem getC_sl : getC F T (.sl i) = match F[i]? with
    | some (.o c) => some c
    | _ => none := id rfl
@[simp] theorem putC_loc {c : C} : putC F T (.e (.loc i)) c = if c.sc (i + 1) = true then some (F, T.set i c) else none := id rfl
@[simp] theorem putC_sl {c : C} : putC F T (.sl i) c = if c.sc T.length = true then some (F.set i (.o c), T) else none := id rfl
@[simp] theorem sc_lst {xs : List D} : (C.lst xs).sc i = true := id rfl
@[simp] theorem sc_dic {xs : List (Key × D)} : (C.dic xs).sc i = true := id rfl
@[simp] theorem sc_dit {xs : List (List Key × D)} : (C.dit xs).sc i = true := id rfl
@[simp] theorem sc_lse {xs : List E} : (C.lse xs).sc i = E.scL i xs := id rfl
@[simp] theorem sc_ins {c : String} {xs : List (String × E)} : (C.ins c xs).sc i = scK i xs := id rfl
@[simp] theorem esc_p {d : D} : (E.p d).sc i = true := id rfl
@[simp] theorem esc_loc : (E.loc j).sc i = decide (j < i) := id rfl
@[simp] theorem esc_tp {xs : List E} : (E.tp xs).sc i = E.scL i xs := id rfl
@[simp] theorem scL_nil : E.scL i [] = true := id rfl
@[simp] theorem scL_cons {x : E} {r : List E} : E.scL i (x :: r) = (x.sc i && E.scL i r) := id rfl
@[simp] theorem mwApp_l {xs : List D} {d : D} : mwApp (.lst xs) [.p d] = if xs.length < 16777216 then some (.lst (xs ++ [d]), .p .non) else none := id rfl
@[simp] theorem mwRev_l {xs : List D} : mwRev (.lst xs) [] = some (.lst xs.reverse, .p .non) := id rfl
@[simp] theorem mwClr_l {xs : List D} : mwClr (.lst xs) [] = some (.lst [], .p .non) := id rfl
@[simp] theorem mwExt_l {xs ys : List D} : mwExt (.lst xs) [.p (.lst ys)] = if xs.length + ys.length ≤ 16777216 then some (.lst (xs ++ ys), .p .non) else none := id rfl
@[simp] theorem cSet_ev {g : F3} : cSet g mv mo mi F T = @stt _ (mv F T) (.mk fun x F T => @stt _ (mo F T) (.mk fun o F T => @stt _ (mi F T) (.mk fun i F T => setR g F T x o i))) := id rfl
@[simp] theorem setR_ev {g : F3} {x o k : OV} : setR g F T x o k = setK g F T x o (getC F T o) (dat F T k) := id rfl
@[simp] theorem setK_s {g : F3} {x : E} {o : OV} {c : C} {d : D} : setK g F T (.e x) o (some c) (some d) = match g c d x with
    | some c' => match putC F T o c' with
      | some (F', T') => .nx F' T'
      | none => .bad
    | none => .bad := id rfl
@[simp] theorem dat_p {d : D} : dat F T (.e (.p d)) = some d := id rfl
@[simp] theorem dat_loc : dat F T (.e (.loc i)) = (T[i]?).bind C.fz := id rfl
@[simp] theorem dat_sl : dat F T (.sl i) = match F[i]? with
  | some (.o c) => c.fz
  | _ => none := id rfl
@[simp] theorem fz_lst {xs : List D} : (C.lst xs).fz = some (.lst xs) := id rfl
@[simp] theorem fz_dic {xs : List (Key × D)} : (C.dic xs).fz = some (.dic xs) := id rfl
@[simp] theorem fz_dit {xs : List (List Key × D)} : (C.dit xs).fz = some (.dit xs) := id rfl
@[simp] theorem look_p {d : D} : look F T (.e (.p d)) = some (dvw d) := id rfl
@[simp] theorem look_loc : look F T (.e (.loc i)) = (T[i]?).map .c := id rfl
@[simp] theorem look_tp {xs : List E} : look F T (.e (.tp xs)) = some (.t xs) := id rfl
@[simp] theorem look_sl : look F T (.sl i) = match F[i]? with
    | some (.o c) => some (.c c)
    | _ => none := id rfl
@[simp] theorem dvw_lst {xs : List D} : dvw (.lst xs) = .c (.lst xs) := id rfl
@[simp] theorem dvw_rol {xs : List D} : dvw (.rol xs) = .r xs := id rfl
@[simp] theorem dvw_dic {xs : List (Key × D)} : dvw (.dic xs) = .c (.dic xs) := id rfl
@[simp] theorem dvw_dit {xs : List (List Key × D)} : dvw (.dit xs) = .c (.dit xs) := id rfl
@[simp] theorem dvw_ins {c : String} {xs : List (String × D)} : dvw (.ins c xs) = .c (.ins c (pF xs)) := id rfl
@[simp] theorem dvw_non : dvw .non = .d .non := id rfl
@[simp] theorem dvw_bl {b : Bool} : dvw (.bl b) = .d (.bl b) := id rfl
@[simp] theorem dvw_int {b : Int} : dvw (.int b) = .d (.int b) := id rfl
@[simp] theorem dvw_str {b : Str} : dvw (.str b) = .d (.str b) := id rfl
@[simp] theorem dvw_tup {b : List D} : dvw (.tup b) = .d (.tup b) := id rfl
@[simp] theorem dvw_rot {b : List D} : dvw (.rot b) = .d (.rot b) := id rfl
@[simp] theorem tru_non : tru (.d .non) = some false := id rfl
@[simp] theorem tru_bl {b : Bool} : tru (.d (.bl b)) = some b := id rfl
@[simp] theorem tru_int {b : Int} : tru (.d (.int b)) = some (b != 0) := id rfl
@[simp] theorem tru_str {b : Str} : tru (.d (.str b)) = if b.length ≤ 16777216 then some ((b.length : Int) != 0) else none := id rfl
@[simp] theorem tru_tup {b : List D} : tru (.d (.tup b)) = some (!b.isEmpty) := id rfl
@[simp] theorem tru_rot {b : List D} : tru (.d (.rot b)) = some (!b.isEmpty) := id rfl
@[simp] theorem tru_r {b : List D} : tru (.r b) = some (!b.isEmpty) := id rfl
@[simp] theorem tru_t {b : List E} : tru (.t b) = some (!b.isEmpty) := id rfl
@[simp] theorem tru_l {b : List D} : tru (.c (.lst b)) = some (!b.isEmpty) := id rfl
@[simp] theorem tru_e {b : List E} : tru (.c (.lse b)) = some (!b.isEmpty) := id rfl
@[simp] theorem tru_dic {b : List (Key × D)} : tru (.c (.dic b)) = some (!b.isEmpty) := id rfl
@[simp] theorem cAugS_ev {fg : FG} {fs : F3} {op : F2} : cAugS fg fs op mo mi me F T = @stt _ (mo F T) (.mk fun o F T => @stt _ (mi F T) (.mk fun i F T => match augR1 fg F T o i with
  | some x => @stt _ (me F T) (.mk fun y F T => match op F T (.e x) y with
    | some (.o z) => setR fs F T z o i
    | _ => .bad)
  | none => .bad)) := id rfl
@[simp] theorem augR1_ev {fg : FG} {o i : OV} : augR1 fg F T o i = match getC F T o, dat F T i with
  | some c, some d => fg c d
  | _, _ => none := id rfl
@[simp] theorem tupK_s {es : List E} : tupK (some es) F T = if es.length ≤ 16777216 then .ok (.e (tupV es)) F T else .bad := id rfl
@[simp] theorem cTup_ev : cTup ma F T = @bnd _ _ (ma F T) (.mk fun xs F T => tupK (oes xs) F T) := id rfl
@[simp] theorem lstK_s {es : List E} : lstK (some es) F T = if es.length ≤ 16777216 then .ok (.fr (lstV es)) F T else .bad := id rfl
@[simp] theorem cLst_ev : cLst ma F T = @bnd _ _ (ma F T) (.mk fun xs F T => lstK (oes xs) F T) := id rfl
@[simp] theorem tupV_ev {es : List E} : tupV es = match pureL es with
  | some ds => .p (.tup ds)
  | none => .tp es := id rfl
@[simp] theorem lstV_ev {es : List E} : lstV es = match pureL es with
  | some ds => .lst ds
  | none => .lse es := id rfl
@[simp] theorem pureL_nil : pureL [] = some [] := id rfl
@[simp] theorem pureL_cons {d : D} {r : List E} : pureL (.p d :: r) = (pureL r).map (d :: ·) := id rfl
@[simp] theorem pureL_loc {r : List E} : pureL (.loc i :: r) = none := id rfl
@[simp] theorem pureL_tp {x r : List E} : pureL (.tp x :: r) = none := id rfl
@[simp] theorem pureL_mp {ds : List D} : pureL (ds.map E.p) = some ds := pureL_p
@[simp] theorem pureL_mpf {α : Type} {f : α → D} {xs : List α} : pureL (xs.map (E.p ∘ f)) = some (xs.map f) := pureL_map
@[simp] theorem cNewD_ev {c : C} : cNewD c F T = .ok (.fr c) F T := id rfl
@[simp] theorem cNeg_ev : cNeg m F T = @bnd _ _ (m F T) (.mk fun x F T => match x with
  | .e (.p (.int i)) => .ok (.e (.p (.int (-i)))) F T
  | _ => .bad) := id rfl
@[simp] theorem pNo_ev : pNo F T = .ok none F T := id rfl
@[simp] theorem pSm_ev : pSm m F T = @bnd _ _ (m F T) (.mk fun x F T => match x with
  | .e (.p (.int i)) => .ok (some i) F T
  | _ => .bad) := id rfl
@[simp] theorem cSl_ev {ml mh : MPt} : cSl m ml mh F T = @bnd _ _ (m F T) (.mk fun x F T => @bnd _ _ (ml F T) (.mk fun lo F T => @bnd _ _ (mh F T) (.mk fun hi F T => opK (slF F T x lo hi) F T))) := id rfl
@[simp] theorem chK_s {b : Bool} {y : OV} : chK (some (.o (.e (.p (.bl b))))) y f' mc F T = if b = true then @bnd _ _ (mc F T) (.mk fun w F T => isiK (f' F T y w) F T) else .ok (.e (.p (.bl false))) F T := id rfl
@[simp] theorem cChn_ev : cChn f f' ma' mb mc F T = @bnd _ _ (ma' F T) (.mk fun x F T => @bnd _ _ (mb F T) (.mk fun y F T => chK (f F T x y) y f' mc F T)) := id rfl
@[simp] theorem excR_ev {c : String} {fl : List String} {xs : List OV} : excR c fl xs F T = match (oes xs).bind pureL with
  | some ds => if ds.length = fl.length then .exc ⟨c, (fl.zip ds).reverse⟩ F T else .bad
  | none => .bad := id rfl
@[simp] theorem cRaise_ev {c : String} {fl : List String} : cRaise c fl ma F T = @stt _ (ma F T) (.mk fun xs F T => excR c fl xs F T) := id rfl
@[simp] theorem tryK_nx {l : List Hm} : @tryK (.nx F T) (.mk l) = .nx F T := id rfl
@[simp] theorem tryK_rt {l : List Hm} {v : RV} : @tryK (.rt v F T) (.mk l) = .rt v F T := id rfl
@[simp] theorem tryK_x {l : List Hm} {x : Xc} : @tryK (.exc x F T) (.mk l) = hdl l x F T := id rfl
@[simp] theorem tryK_bad {l : List Hm} : @tryK .bad (.mk l) = .bad := id rfl
@[simp] theorem sTry_ev {l : List Hm} : sTry s l F T = @tryK (s F T) (.mk l) := id rfl
@[simp] theorem hdl_nil {x : Xc} : hdl [] x F T = .exc x F T := id rfl
@[simp] theorem hdl_cons {tab : String → Option Bool} {oi : Option Nat} {ms : MS} {r : List Hm} {x : Xc} : hdl ((tab, oi, ms) :: r) x F T = hdK (tab x.c) oi ms r x F T := id rfl
@[simp] theorem hdK_f {oi : Option Nat} {ms : MS} {r : List Hm} {x : Xc} : hdK (some false) oi ms r x F T = hdl r x F T := id rfl
@[simp] theorem hdK_t {i : Nat} {ms : MS} {r : List Hm} {x : Xc} : hdK (some true) (some i) ms r x F T = unx (some i) (ms ((clr F).set i (.x x)) T) := id rfl
@[simp] theorem hdK_n {ms : MS} {r : List Hm} {x : Xc} : hdK (some true) none ms r x F T = unx none (ms (clr F) T) := id rfl
@[simp] theorem unx_nx {i : Nat} : unx (some i) (.nx F T) = .nx ((clr F).set i .u) T := id rfl
@[simp] theorem unx_nx0 : unx none (.nx F T) = .nx (clr F) T := id rfl
@[simp] theorem unx_rt {oi : Option Nat} {v : RV} : unx oi (.rt v F T) = .rt v (clr F) T := by cases oi <;> rfl
@[simp] theorem clr_nil : clr [] = [] := id rfl
@[simp] theorem clr_cons {x : S} {r : Fr} : clr (x :: r) = clrS x :: clr r := id rfl
@[simp] theorem clrS_u : clrS .u = .u := id rfl
@[simp] theorem clrS_e {x : E} : clrS (.e x) = .e x := id rfl
@[simp] theorem clrS_o {x : C} : clrS (.o x) = .o x := id rfl
@[simp] theorem clrS_x {x : Xc} : clrS (.x x) = .u := id rfl
@[simp] theorem cXf_ev {c g : String} : cXf c g i F T = match F[i]? with
  | some (.x z) => if z.c = c then match kfind z.fs g with
      | some d => .ok (.e (.p d)) F T
      | none => .bad
    else .bad
  | _ => .bad := id rfl
@[simp] theorem cXfM_ev {cs : List String} {g : String} : cXfM cs g i F T = match F[i]? with
  | some (.x z) => if z.c ∈ cs then match kfind z.fs g with
      | some d => .ok (.e (.p d)) F T
      | none => .bad
    else .bad
  | _ => .bad := id rfl
@[simp] theorem cIsX_ev {tab : String → Option Bool} : cIsX tab i F T = match F[i]? with
  | some (.x z) => match tab z.c with
    | some b => .ok (.e (.p (.bl b))) F T
    | none => .bad
  | _ => .bad := id rfl
@[simp] theorem sAsgL_ev : sAsgL i e F T = @stt _ (e F T) (.mk fun r F T => match r with
  | .fr c => .nx (F.set i (.e (.loc T.length))) (T ++ [c])
  | .o (.e x) => .nx (F.set i (.e x)) T
  | .o (.sl _) => .bad) := id rfl
@[simp] theorem sAsgG_ev : sAsgG mg m F T = @stt _ (m F T) (.mk fun x F T => match x with
  | .e x => match mg x F with
    | some F' => .nx F' T
    | none => .bad
  | _ => .bad) := id rfl
@[simp] theorem cCel_ev : cCel e F T = @bnd _ _ (e F T) (.mk fun r F T => match r with
  | .fr c => .ok (.e (.loc T.length)) F (T ++ [c])
  | .o x => .ok x F T) := id rfl
@[simp] theorem cFld_ev {cs : List String} {g : String} : cFld cs g m F T = @bnd _ _ (m F T) (.mk fun x F T => opK (fldF cs g F T x) F T) := id rfl
@[simp] theorem fldF_ev {cs : List String} {g : String} {x : OV} : fldF cs g F T x = match look F T x with
  | some (.c (.ins c fs)) => if c ∈ cs then (kf fs g).map fun e => .o (.e e) else none
  | _ => none := id rfl
@[simp] theorem cSetF_ev {cs : List String} {g : String} : cSetF cs g mv mo F T = @stt _ (mv F T) (.mk fun x F T => @stt _ (mo F T) (.mk fun o F T => setF cs g F T x o)) := id rfl
@[simp] theorem setF_ev {cs : List String} {g : String} {x o : OV} : setF cs g F T x o = stfK cs g F T x o (getC F T o) := id rfl
@[simp] theorem stfK_s {cs : List String} {g c : String} {x : E} {o : OV} {fs : List (String × E)} : stfK cs g F T (.e x) o (some (.ins c fs)) = if c ∈ cs ∧ fs.length < 900 then match putC F T o (.ins c (fput g x fs)) with
      | some (F', T') => .nx F' T'
      | none => .bad
    else .bad := id rfl
@[simp] theorem kf_nil {α : Type} {g : String} : kf ([] : List (String × α)) g = none := id rfl
@[simp] theorem kf_cons {α : Type} {g h : String} {x : α} {r : List (String × α)} : kf ((h, x) :: r) g = if h = g then some x else kf r g := by
  unfold kf
  rw [List.find?_cons]
  by_cases e : h = g
  · simp [e]
  · have : (h == g) = false := by simpa using e
    simp only [this, if_neg e]
@[simp] theorem kfind_nil {g : String} : kfind [] g = none := id rfl
@[simp] theorem kfind_cons {g h : String} {x : D} {r : List (String × D)} : kfind ((h, x) :: r) g = if h = g then some x else kfind r g := by
  unfold kfind
  rw [List.find?_cons]
  by_cases e : h = g
  · simp [e]
  · have : (h == g) = false := by simpa using e
    simp only [this, if_neg e]
@[simp] theorem fput_nil {α : Type} {g : String} {x : α} : fput g x [] = [(g, x)] := id rfl
@[simp] theorem fput_cons {α : Type} {g h : String} {x y : α} {r : List (String × α)} : fput g x ((h, y) :: r) = if h = g then (h, x) :: r else (h, y) :: fput g x r := id rfl
@[simp] theorem scK_nil {κ : Type} : scK (κ := κ) i [] = true := id rfl
@[simp] theorem scK_cons {κ : Type} {a : κ} {x : E} {r : List (κ × E)} : scK i ((a, x) :: r) = (x.sc i && scK i r) := id rfl
@[simp] theorem pF_nil : pF [] = [] := id rfl
@[simp] theorem pF_cons {a : String} {x : D} {r : List (String × D)} : pF ((a, x) :: r) = (a, .p x) :: pF r := id rfl
@[simp] theorem metK_s {np : Nat} {mf : MFn} {x : OV} : metK (some (np, mf)) x ma F T = @bnd _ _ (ma F T) (.mk fun xs F T => fnK np mf (oes (x :: xs)) F T) := id rfl
@[simp] theorem cMet_ev {tab : MTab} {g : String} : cMet tab g m ma F T = @bnd _ _ (m F T) (.mk fun x F T => metK (metR tab g F T x) x ma F T) := id rfl
@[simp] theorem metR_ev {tab : MTab} {g : String} {x : OV} : metR tab g F T x = match look F T x with
  | some (.c (.ins c fs)) => match kf fs g with
    | none => tab c
    | some _ => none
  | _ => none := id rfl
@[simp] theorem newK_s {c : String} {np : Nat} {mf : MFn} {es : List E} : newK c np mf (some es) F T = if es.length + 1 = np then mkR F T (mf (.loc T.length :: es) (T ++ [.ins c []])) else .bad := id rfl
@[simp] theorem cNew_ev {c : String} {np : Nat} {mf : MFn} : cNew c np mf ma F T = @bnd _ _ (ma F T) (.mk fun xs F T => newK c np mf (oes xs) F T) := id rfl
theorem mkR_ok {c : C} {R : Sto} (h : c.sc T.length = true) (hl : R.length = T.length) : mkR F T (.ok (.e (.p .non)) (R ++ [c])) = .ok (.fr c) F R := by
  unfold mkR
  have e : (R ++ [c])[T.length]? = some c := by rw [← hl]; simp
  simp only [e]
  rw [if_pos h, ← hl]
  simp
@[simp] theorem mkR_x {x : Xc} {R : Sto} : mkR F T (.exc x R) = .exc x F (R.take T.length) := id rfl
@[simp] theorem cPro_ev {tab : BTab} : cPro tab m F T = @bnd _ _ (m F T) (.mk fun x F T => match x, look F T x with
  | .e x, some (.c (.ins c _)) => match tab c with
    | some mf => frNo F (mf [x] T)
    | none => .bad
  | _, _ => .bad) := id rfl
@[simp] theorem frNo_e {x : E} : frNo F (.ok (.e x) T) = .ok (.o (.e x)) F T := id rfl
@[simp] theorem frNo_fr {c : C} : frNo F (.ok (.fr c) T) = .ok (.fr c) F T := id rfl
@[simp] theorem fnsK_s {np : Nat} {mf : MFn} {es : List E} : fnsK np mf (some es) F T = if es.length = np then frNo F (mf es T) else .bad := id rfl
@[simp] theorem cFnS_ev {np : Nat} {mf : MFn} : cFnS np mf ma F T = @bnd _ _ (ma F T) (.mk fun xs F T => fnsK np mf (oes xs) F T) := id rfl
@[simp] theorem cBoo_ev {tab : BTab} : cBoo tab ma F T = @bnd _ _ (ma F T) (.mk fun xs F T => match xs with
  | [.e (.p (.int i))] => .ok (.o (.e (.p (.bl (i != 0))))) F T
  | [.e (.p (.bl b))] => .ok (.o (.e (.p (.bl b)))) F T
  | [.e x] => match look F T (.e x) with
    | some (.c (.ins c _)) => match tab c with
      | some mf => frB F (mf [x] T)
      | none => .bad
    | _ => .bad
  | _ => .bad) := id rfl
@[simp] theorem frB_b {b : Bool} : frB F (.ok (.e (.p (.bl b))) T) = .ok (.o (.e (.p (.bl b)))) F T := id rfl
@[simp] theorem cTruB_ev {tab : BTab} : cTruB tab m F T = @bnd _ _ (m F T) (.mk fun x F T => match x, look F T x with
  | .e y, some (.c (.ins c _)) => match tab c with
    | some mf => frT F (mf [y] T)
    | none => .bad
  | _, _ => .bad) := id rfl
@[simp] theorem frT_b {b : Bool} : frT F (.ok (.e (.p (.bl b))) T) = .ok b F T := id rfl
@[simp] theorem sForD_ev {g : List (Key × D) → List E} : sForD g i mg s F T = match slD i F with
  | some ks => forE mg s (g ks) F T
  | none => .bad := id rfl
@[simp] theorem slD_ev : slD i F = match F[i]? with
  | some (.e (.p (.dic ks))) => some ks
  | _ => none := id rfl
theorem mfOf_ev {es : List E} : mfOf k s es T = rsOut T.length (s (es.map .e ++ List.replicate (k - es.length) .u) T) := id rfl
@[simp] theorem rsOut_nx : rsOut k (.nx F T) = .ok (.e (.p .non)) (T.take k) := id rfl
@[simp] theorem rsOut_x {x : Xc} : rsOut k (.exc x F T) = .exc x (T.take k) := id rfl
@[simp] theorem rsOut_fr {c : C} : rsOut k (.rt (.fr c) F T) = if c.sc k = true then .ok (.fr c) (T.take k) else .bad := by
  unfold rsOut fvOut
  by_cases h : c.sc k = true <;> simp [h]
@[simp] theorem rsOut_p {d : D} : rsOut k (.rt (.o (.e (.p d))) F T) = .ok (.e (.p d)) (T.take k) := id rfl
@[simp] theorem rsOut_loc {l : Nat} : rsOut k (.rt (.o (.e (.loc l))) F T) = if l < k then .ok (.e (.loc l)) (T.take k) else match T[l]? with
      | some c => if k ≤ l ∧ c.sc k = true then .ok (.fr c) (T.take k) else .bad
      | none => .bad := by
  unfold rsOut fvOut
  by_cases h : l < k
  · simp [h]
  · cases h2 : T[l]? with
    | none => simp only [esc_loc, h, h2, decide_false, Bool.false_eq_true, if_false]
    | some c =>
      by_cases h3 : k ≤ l ∧ c.sc k = true
      · simp only [esc_loc, h, h2, decide_false, Bool.false_eq_true, if_false, h3, and_self, if_true]
      · simp only [esc_loc, h, h2, decide_false, Bool.false_eq_true, if_false, if_neg h3]
@[simp] theorem rsOut_tp {xs : List E} (h : E.scL k xs = true) : rsOut k (.rt (.o (.e (.tp xs))) F T) = .ok (.e (.tp xs)) (T.take k) := by
  unfold rsOut fvOut
  simp [h]
@[simp] theorem rsOut_bad : rsOut k .bad = .bad := id rfl
/-! ### data -/
@[simp] theorem add_ii {i j : Int} : addF F T (.e (.p (.int i))) (.e (.p (.int j))) = some (.o (.e (.p (.int (i + j))))) := id rfl
@[simp] theorem add_ib {i : Int} {b : Bool} : addF F T (.e (.p (.int i))) (.e (.p (.bl b))) = some (.o (.e (.p (.int (i + PyProof.Rows.b2i b))))) := id rfl
@[simp] theorem add_ss {a b : Str} : addF F T (.e (.p (.str a))) (.e (.p (.str b))) = if a.length + b.length ≤ 16777216 then some (.o (.e (.p (.str (a ++ b))))) else none := by
  have e : addF F T (.e (.p (.str a))) (.e (.p (.str b))) = orF addS (orF addL addT) F T (.e (.p (.str a))) (.e (.p (.str b))) := id rfl
  rw [e]
  by_cases h : a.length + b.length ≤ 16777216
  · simp [orF, addS, LINE, h]
  · simp [orF, addS, addL, addT, LINE, h]
@[simp] theorem add_ll {a b : List D} : addF F T (.e (.p (.lst a))) (.e (.p (.lst b))) = if a.length + b.length ≤ 16777216 then some (.fr (.lst (a ++ b))) else none := by
  have e : addF F T (.e (.p (.lst a))) (.e (.p (.lst b))) = orF addL addT F T (.e (.p (.lst a))) (.e (.p (.lst b))) := id rfl
  rw [e]
  by_cases h : a.length + b.length ≤ 16777216
  · simp [orF, addL, LINE, h]
  · simp [orF, addL, addT, LINE, h]
theorem add_lst {x y : OV} {a b : List D} (hx : dat F T x = some (.lst a)) (hy : dat F T y = some (.lst b)) (h : a.length + b.length ≤ 16777216) : addF F T x y = some (.fr (.lst (a ++ b))) := by
  have e1 : addI F T x y = none := by
    unfold addI i2
    split
    · simp at hx
    · rfl
  have e2 : addIB F T x y = none := by
    unfold addIB
    split
    · simp at hx
    · rfl
  have e3 : addS F T x y = none := by
    unfold addS
    split
    · simp at hx
    · rfl
  have e4 : addL F T x y = some (.fr (.lst (a ++ b))) := by
    unfold addL
    simp [hx, hy, LINE, h]
  simp [addF, orF, e1, e2, e3, e4]
@[simp] theorem sub_ii {i j : Int} : subF F T (.e (.p (.int i))) (.e (.p (.int j))) = some (.o (.e (.p (.int (i - j))))) := id rfl
theorem mul_ii {i j : Int} (h : (-1000000000000000000 ≤ i ∧ i ≤ 1000000000000000000) ∨ (-1000000000000000000 ≤ j ∧ j ≤ 1000000000000000000)) : mulF F T (.e (.p (.int i))) (.e (.p (.int j))) = some (.o (.e (.p (.int (i * j))))) := by
  have e : mulI F T (.e (.p (.int i))) (.e (.p (.int j))) = some (.o (.e (.p (.int (i * j))))) := by
    unfold mulI i2
    dsimp only
    rw [if_pos (by omega)]
    rfl
  unfold mulF orF
  rw [e]
@[simp] theorem mod_ii {i j : Int} (h : 0 < j) : modF F T (.e (.p (.int i))) (.e (.p (.int j))) = some (.o (.e (.p (.int (i % j))))) := by
  unfold modF i2
  dsimp only
  rw [if_pos h]
  rfl
@[simp] theorem fdiv_ii {i j : Int} (h : 0 < j) (h2 : j < 1073741824) : fdivF F T (.e (.p (.int i))) (.e (.p (.int j))) = some (.o (.e (.p (.int (i / j))))) := by
  unfold fdivF i2
  dsimp only
  rw [if_pos ⟨h, h2⟩]
  rfl
@[simp] theorem and_ii {i j : Int} : andF F T (.e (.p (.int i))) (.e (.p (.int j))) = some (.o (.e (.p (.int (Builtin.bitAnd i j))))) := id rfl
@[simp] theorem iadd_ii {i j : Int} : iaddF F T (.e (.p (.int i))) (.e (.p (.int j))) = some (.o (.e (.p (.int (i + j))))) := id rfl
@[simp] theorem lt_ii {i j : Int} : orF (orF ltI ltS) ltP F T (.e (.p (.int i))) (.e (.p (.int j))) = some (.o (.e (.p (.bl (decide (i < j)))))) := id rfl
@[simp] theorem le_ii {i j : Int} : orF (orF leI leS) leP F T (.e (.p (.int i))) (.e (.p (.int j))) = some (.o (.e (.p (.bl (decide (i ≤ j)))))) := id rfl
@[simp] theorem gt_ii {i j : Int} : orF (orF gtI gtS) gtP F T (.e (.p (.int i))) (.e (.p (.int j))) = some (.o (.e (.p (.bl (decide (j < i)))))) := id rfl
@[simp] theorem ge_ii {i j : Int} : orF (orF geI geS) geP F T (.e (.p (.int i))) (.e (.p (.int j))) = some (.o (.e (.p (.bl (decide (j ≤ i)))))) := id rfl
@[simp] theorem ltI_ii {i j : Int} : ltI F T (.e (.p (.int i))) (.e (.p (.int j))) = some (.o (.e (.p (.bl (decide (i < j)))))) := id rfl
@[simp] theorem leI_ii {i j : Int} : leI F T (.e (.p (.int i))) (.e (.p (.int j))) = some (.o (.e (.p (.bl (decide (i ≤ j)))))) := id rfl
@[simp] theorem lt_ss {i j : Str} : orF (orF ltI ltS) ltP F T (.e (.p (.str i))) (.e (.p (.str j))) = some (.o (.e (.p (.bl (decide (i.cps.toList < j.cps.toList)))))) := id rfl
@[simp] theorem le_ss {i j : Str} : orF (orF leI leS) leP F T (.e (.p (.str i))) (.e (.p (.str j))) = some (.o (.e (.p (.bl (!decide (j.cps.toList < i.cps.toList)))))) := id rfl
@[simp] theorem eqK_s {a b : D} {r : Bool} : eqK a b (some r) = some r := id rfl
@[simp] theorem eqK_n {a b : D} : eqK a b none = pyeq a b := id rfl
theorem eq_dd {x y : OV} {a b : D} {r : Bool} (hx : dat F T x = some a) (hy : dat F T y = some b) (h : eqK a b (sceq a b) = some r) : orF eqF (dicF true) F T x y = some (.o (.e (.p (.bl r)))) := by
  have e : eqF F T x y = some (.o (.e (.p (.bl r)))) := by
    have e1 : bF sceq F T x y = (sceq a b).map fun r => .o (.e (.p (.bl r))) := by unfold bF; rw [hx, hy]
    have e2 : bF pyeq F T x y = (pyeq a b).map fun r => .o (.e (.p (.bl r))) := by unfold bF; rw [hx, hy]
    unfold eqF orF
    rw [e1, e2]
    cases hs : sceq a b with
    | some q => rw [hs] at h; cases h; rfl
    | none => rw [hs, eqK_n] at h; rw [h]; rfl
  unfold orF
  rw [e]
theorem ne_dd {x y : OV} {a b : D} {r : Bool} (hx : dat F T x = some a) (hy : dat F T y = some b) (h : eqK a b (sceq a b) = some r) : orF neF (dicF false) F T x y = some (.o (.e (.p (.bl (!r))))) := by
  have e : neF F T x y = some (.o (.e (.p (.bl (!r))))) := by
    have e1 : bF (fun a b => (sceq a b).map (!·)) F T x y = ((sceq a b).map (!·)).map fun r => .o (.e (.p (.bl r))) := by unfold bF; rw [hx, hy]
    have e2 : bF (fun a b => (pyeq a b).map (!·)) F T x y = ((pyeq a b).map (!·)).map fun r => .o (.e (.p (.bl r))) := by unfold bF; rw [hx, hy]
    unfold neF orF
    rw [e1, e2]
    cases hs : sceq a b with
    | some q => rw [hs] at h; cases h; rfl
    | none => rw [hs, eqK_n] at h; rw [h]; rfl
  unfold orF
  rw [e]
@[simp] theorem eq_ii {i j : Int} : orF eqF (dicF true) F T (.e (.p (.int i))) (.e (.p (.int j))) = some (.o (.e (.p (.bl (decide (i = j)))))) := eq_dd rfl rfl (by rw [sceq_ii]; rfl)
@[simp] theorem eq_ss {i j : Str} : orF eqF (dicF true) F T (.e (.p (.str i))) (.e (.p (.str j))) = some (.o (.e (.p (.bl (decide (i = j)))))) := eq_dd rfl rfl (by rw [sceq_ss]; rfl)
@[simp] theorem eq_bb {i j : Bool} : orF eqF (dicF true) F T (.e (.p (.bl i))) (.e (.p (.bl j))) = some (.o (.e (.p (.bl (decide (i = j)))))) := eq_dd rfl rfl (by rw [sceq_bb]; rfl)
@[simp] theorem ne_ii {i j : Int} : orF neF (dicF false) F T (.e (.p (.int i))) (.e (.p (.int j))) = some (.o (.e (.p (.bl (!decide (i = j)))))) := ne_dd rfl rfl (by rw [sceq_ii]; rfl)
@[simp] theorem ne_ss {i j : Str} : orF neF (dicF false) F T (.e (.p (.str i))) (.e (.p (.str j))) = some (.o (.e (.p (.bl (!decide (i = j)))))) := ne_dd rfl rfl (by rw [sceq_ss]; rfl)
@[simp] theorem ne_bb {i j : Bool} : orF neF (dicF false) F T (.e (.p (.bl i))) (.e (.p (.bl j))) = some (.o (.e (.p (.bl (!decide (i = j)))))) := ne_dd rfl rfl (by rw [sceq_bb]; rfl)
theorem sceq_is {i : Int} {j : Str} : sceq (.int i) (.str j) = some false := by simp [sceq, sv, scal]
theorem sceq_si {i : Int} {j : Str} : sceq (.str j) (.int i) = some false := by simp [sceq, sv, scal]
theorem sceq_ni {i : Int} : sceq .non (.int i) = some false := by simp [sceq, sv, scal]
theorem sceq_in {i : Int} : sceq (.int i) .non = some false := by simp [sceq, sv, scal]
theorem sceq_ns {i : Str} : sceq .non (.str i) = some false := by simp [sceq, sv, scal]
theorem sceq_sn {i : Str} : sceq (.str i) .non = some false := by simp [sceq, sv, scal]
theorem sceq_nn : sceq .non .non = some true := by simp [sceq, sv, scal]
@[simp] theorem eq_si {i : Int} {j : Str} : orF eqF (dicF true) F T (.e (.p (.str j))) (.e (.p (.int i))) = some (.o (.e (.p (.bl false)))) := eq_dd rfl rfl (by rw [sceq_si]; rfl)
@[simp] theorem eq_is {i : Int} {j : Str} : orF eqF (dicF true) F T (.e (.p (.int i))) (.e (.p (.str j))) = some (.o (.e (.p (.bl false)))) := eq_dd rfl rfl (by rw [sceq_is]; rfl)
@[simp] theorem ne_sn {j : Str} : orF neF (dicF false) F T (.e (.p (.str j))) (.e (.p .non)) = some (.o (.e (.p (.bl true)))) := ne_dd (r := false) rfl rfl (by rw [sceq_sn]; rfl)
@[simp] theorem ne_ns {j : Str} : orF neF (dicF false) F T (.e (.p .non)) (.e (.p (.str j))) = some (.o (.e (.p (.bl true)))) := ne_dd (r := false) rfl rfl (by rw [sceq_ns]; rfl)
@[simp] theorem ne_nn : orF neF (dicF false) F T (.e (.p .non)) (.e (.p .non)) = some (.o (.e (.p (.bl false)))) := ne_dd (r := true) rfl rfl (by rw [sceq_nn]; rfl)
@[simp] theorem eq_nn : orF eqF (dicF true) F T (.e (.p .non)) (.e (.p .non)) = some (.o (.e (.p (.bl true)))) := eq_dd (r := true) rfl rfl (by rw [sceq_nn]; rfl)
@[simp] theorem is_n {x : OV} : isF F T x (.e (.p .non)) = (isN F x).map fun r => .o (.e (.p (.bl r))) := id rfl
@[simp] theorem isn_n {x : OV} : isnF F T x (.e (.p .non)) = (isN F x).map fun r => .o (.e (.p (.bl (!r)))) := id rfl
@[simp] theorem isB_bb {a b : Bool} : isBF F T (.e (.p (.bl a))) (.e (.p (.bl b))) = some (.o (.e (.p (.bl (decide (a = b)))))) := id rfl
@[simp] theorem isB_i {a : Int} {b : Bool} : isBF F T (.e (.p (.int a))) (.e (.p (.bl b))) = some (.o (.e (.p (.bl false)))) := id rfl
@[simp] theorem isB_s {a : Str} {b : Bool} : isBF F T (.e (.p (.str a))) (.e (.p (.bl b))) = some (.o (.e (.p (.bl false)))) := id rfl
@[simp] theorem isB_n {b : Bool} : isBF F T (.e (.p .non)) (.e (.p (.bl b))) = some (.o (.e (.p (.bl false)))) := id rfl
@[simp] theorem isB_t {a : List D} {b : Bool} : isBF F T (.e (.p (.tup a))) (.e (.p (.bl b))) = some (.o (.e (.p (.bl false)))) := id rfl
@[simp] theorem isB_l {a : List D} {b : Bool} : isBF F T (.e (.p (.lst a))) (.e (.p (.bl b))) = some (.o (.e (.p (.bl false)))) := id rfl
@[simp] theorem isB_ins {a : String} {fs : List (String × D)} {b : Bool} : isBF F T (.e (.p (.ins a fs))) (.e (.p (.bl b))) = some (.o (.e (.p (.bl false)))) := id rfl
@[simp] theorem isB_loc {a : Nat} {b : Bool} : isBF F T (.e (.loc a)) (.e (.p (.bl b))) = some (.o (.e (.p (.bl false)))) := id rfl
@[simp] theorem isnB_bb {a b : Bool} : isnBF F T (.e (.p (.bl a))) (.e (.p (.bl b))) = some (.o (.e (.p (.bl (!decide (a = b)))))) := id rfl
@[simp] theorem isnB_i {a : Int} {b : Bool} : isnBF F T (.e (.p (.int a))) (.e (.p (.bl b))) = some (.o (.e (.p (.bl true)))) := id rfl
@[simp] theorem isnB_s {a : Str} {b : Bool} : isnBF F T (.e (.p (.str a))) (.e (.p (.bl b))) = some (.o (.e (.p (.bl true)))) := id rfl
@[simp] theorem isnB_n {b : Bool} : isnBF F T (.e (.p .non)) (.e (.p (.bl b))) = some (.o (.e (.p (.bl true)))) := id rfl
@[simp] theorem isnB_l {a : List D} {b : Bool} : isnBF F T (.e (.p (.lst a))) (.e (.p (.bl b))) = some (.o (.e (.p (.bl true)))) := id rfl
@[simp] theorem isnB_loc {a : Nat} {b : Bool} : isnBF F T (.e (.loc a)) (.e (.p (.bl b))) = some (.o (.e (.p (.bl true)))) := id rfl
@[simp] theorem isN_n : isN F (.e (.p .non)) = some true := id rfl
@[simp] theorem isN_i {x : Int} : isN F (.e (.p (.int x))) = some false := id rfl
@[simp] theorem isN_s {x : Str} : isN F (.e (.p (.str x))) = some false := id rfl
@[simp] theorem isN_b {x : Bool} : isN F (.e (.p (.bl x))) = some false := id rfl
@[simp] theorem isN_t {x : List D} : isN F (.e (.p (.tup x))) = some false := id rfl
@[simp] theorem isN_l {x : List D} : isN F (.e (.p (.lst x))) = some false := id rfl
@[simp] theorem isN_loc {x : Nat} : isN F (.e (.loc x)) = some false := id rfl
@[simp] theorem isN_tp {x : List E} : isN F (.e (.tp x)) = some false := id rfl
@[simp] theorem len_str {s : Str} (h : s.length ≤ 16777216) : lenF F T (.e (.p (.str s))) = some (.o (.e (.p (.int (s.length : Nat))))) := by
  unfold lenF
  simp [lenV, LINE, h]
@[simp] theorem len_tup {xs : List D} : lenF F T (.e (.p (.tup xs))) = some (.o (.e (.p (.int (xs.length : Nat))))) := id rfl
@[simp] theorem len_rot {xs : List D} : lenF F T (.e (.p (.rot xs))) = some (.o (.e (.p (.int (xs.length : Nat))))) := id rfl
@[simp] theorem len_lst {xs : List D} : lenF F T (.e (.p (.lst xs))) = some (.o (.e (.p (.int (xs.length : Nat))))) := id rfl
@[simp] theorem len_rol {xs : List D} : lenF F T (.e (.p (.rol xs))) = some (.o (.e (.p (.int (xs.length : Nat))))) := id rfl
@[simp] theorem len_dic {xs : List (Key × D)} : lenF F T (.e (.p (.dic xs))) = some (.o (.e (.p (.int (xs.length : Nat))))) := id rfl
@[simp] theorem len_tp {xs : List E} : lenF F T (.e (.tp xs)) = some (.o (.e (.p (.int (xs.length : Nat))))) := id rfl
@[simp] theorem len_loc : lenF F T (.e (.loc i)) = (((T[i]?).map .c).bind lenV).map fun n => .o (.e (.p (.int (n : Nat)))) := id rfl
@[simp] theorem len_sl : lenF F T (.sl i) = ((look F T (.sl i)).bind lenV).map fun n => .o (.e (.p (.int (n : Nat)))) := id rfl
@[simp] theorem lenV_l {xs : List D} : lenV (.c (.lst xs)) = some xs.length := id rfl
@[simp] theorem lenV_e {xs : List E} : lenV (.c (.lse xs)) = some xs.length := id rfl
@[simp] theorem lenV_d {xs : List (Key × D)} : lenV (.c (.dic xs)) = some xs.length := id rfl
@[simp] theorem int_i {x : Int} : intF F T (.e (.p (.int x))) = some (.o (.e (.p (.int x)))) := id rfl
@[simp] theorem int_b {x : Bool} : intF F T (.e (.p (.bl x))) = some (.o (.e (.p (.int (if x then 1 else 0))))) := id rfl
@[simp] theorem abs_i {x : Int} : absF F T (.e (.p (.int x))) = some (.o (.e (.p (.int (if x < 0 then -x else x))))) := id rfl
@[simp] theorem list_l {ds : List D} : listF F T (.e (.p (.lst ds))) = some (.fr (.lst ds)) := by
  have e : listF F T (.e (.p (.lst ds))) = some (.fr (lstV (ds.map E.p))) := id rfl
  rw [e, lstV_ev, pureL_mp]
@[simp] theorem list_t {ds : List D} : listF F T (.e (.p (.tup ds))) = some (.fr (.lst ds)) := by
  have e : listF F T (.e (.p (.tup ds))) = some (.fr (lstV (ds.map E.p))) := id rfl
  rw [e, lstV_ev, pureL_mp]
@[simp] theorem list_d {ks : List (Key × D)} : listF F T (.e (.p (.dic ks))) = some (.fr (.lst (ks.map (keyE ∘ Prod.fst)))) := by
  have e : listF F T (.e (.p (.dic ks))) = some (.fr (.lst ((ks.map (·.1)).map keyE))) := id rfl
  rw [e, List.map_map]
theorem list_at {x : OV} {ds : List D} (h : look F T x = some (.c (.lst ds))) : listF F T x = some (.fr (.lst ds)) := by
  have e : listF F T x = some (.fr (lstV (ds.map E.p))) := by
    unfold listF
    rw [h]
    rfl
  rw [e, lstV_ev, pureL_mp]
@[simp] theorem list_loc (h : T[i]? = some (.lst ds)) : listF F T (.e (.loc i)) = some (.fr (.lst ds)) := list_at (by simp [h])
@[simp] theorem list_sl (h : F[i]? = some (.o (.lst ds))) : listF F T (.sl i) = some (.fr (.lst ds)) := list_at (by simp [h])
@[simp] theorem tup_l {ds : List D} : tupF F T (.e (.p (.lst ds))) = some (.o (.e (.p (.tup ds)))) := by
  have e : tupF F T (.e (.p (.lst ds))) = some (.o (.e (tupV (ds.map E.p)))) := id rfl
  rw [e, tupV_ev, pureL_mp]
@[simp] theorem tup_t {ds : List D} : tupF F T (.e (.p (.tup ds))) = some (.o (.e (.p (.tup ds)))) := id rfl
@[simp] theorem tup_loc (h : T[i]? = some (.lst ds)) : tupF F T (.e (.loc i)) = some (.o (.e (.p (.tup ds)))) := by
  have e : tupF F T (.e (.loc i)) = some (.o (.e (tupV (ds.map E.p)))) := by
    unfold tupF
    simp only [look_loc, h]
    rfl
  rw [e, tupV_ev, pureL_mp]
@[simp] theorem tup_sl (h : F[i]? = some (.o (.lst ds))) : tupF F T (.sl i) = some (.o (.e (.p (.tup ds)))) := by
  have e : tupF F T (.sl i) = some (.o (.e (tupV (ds.map E.p)))) := by
    unfold tupF
    simp only [look_sl, h]
    rfl
  rw [e, tupV_ev, pureL_mp]
/-! ### items -/
@[simp] theorem atI_nn {α : Type} {xs : List α} {i : Int} (h : 0 ≤ i) : atI xs i = xs[i.toNat]? := by
  unfold atI ixN
  rw [if_pos h]
  by_cases h2 : i < xs.length
  · rw [if_pos h2]
    rfl
  · rw [if_neg h2]
    exact (List.getElem?_eq_none (by omega)).symm
@[simp] theorem atI_neg1 {α : Type} {xs : List α} : atI xs (-1) = xs.getLast? := by
  unfold atI ixN
  rw [if_neg (by decide)]
  cases xs with
  | nil => rfl
  | cons a r =>
    rw [if_pos (by rw [List.length_cons]; omega)]
    rw [List.getLast?_eq_getElem?]
    have : ((-1 : Int) + ((a :: r).length : Int)).toNat = (a :: r).length - 1 := by rw [List.length_cons]; omega
    simp only [Option.bind_some, this]
theorem ix_vw {x : OV} {w : Vw} {i : Int} (h : look F T x = some w) (hd : ∀ i, dkey w (.int i) = none) : orF ixF dgF F T x (.e (.p (.int i))) = (seqAt w i).map fun e => .o (.e e) := by
  unfold orF ixF dgF dkF
  simp only [h, dat_p, hd]
  cases seqAt w i <;> rfl
@[simp] theorem ix_lst {xs : List D} {i : Int} : orF ixF dgF F T (.e (.p (.lst xs))) (.e (.p (.int i))) = (atI xs i).map fun d => .o (.e (.p d)) := by
  rw [ix_vw (w := .c (.lst xs)) rfl (fun _ => rfl)]
  simp [seqAt, Function.comp_def]
@[simp] theorem ix_rol {xs : List D} {i : Int} : orF ixF dgF F T (.e (.p (.rol xs))) (.e (.p (.int i))) = (atI xs i).map fun d => .o (.e (.p d)) := by
  rw [ix_vw (w := .r xs) rfl (fun _ => rfl)]
  simp [seqAt, Function.comp_def]
@[simp] theorem ix_tup {xs : List D} {i : Int} : orF ixF dgF F T (.e (.p (.tup xs))) (.e (.p (.int i))) = (atI xs i).map fun d => .o (.e (.p d)) := by
  rw [ix_vw (w := .d (.tup xs)) rfl (fun _ => rfl)]
  simp [seqAt, Function.comp_def]
@[simp] theorem ix_rot {xs : List D} {i : Int} : orF ixF dgF F T (.e (.p (.rot xs))) (.e (.p (.int i))) = (atI xs i).map fun d => .o (.e (.p d)) := by
  rw [ix_vw (w := .d (.rot xs)) rfl (fun _ => rfl)]
  simp [seqAt, Function.comp_def]
@[simp] theorem ix_tp {xs : List E} {i : Int} : orF ixF dgF F T (.e (.tp xs)) (.e (.p (.int i))) = (atI xs i).map fun d => .o (.e d) := by
  rw [ix_vw (w := .t xs) rfl (fun _ => rfl)]
  rfl
@[simp] theorem ix_str {s : Str} {i : Int} (h : s.length ≤ 16777216) : orF ixF dgF F T (.e (.p (.str s))) (.e (.p (.int i))) = (atI s.cps.toList i).map fun c => .o (.e (.p (.str ⟨#[c]⟩))) := by
  rw [ix_vw (w := .d (.str s)) rfl (fun _ => rfl)]
  simp [seqAt, LINE, h, Function.comp_def]
theorem ix_cl {x : OV} {xs : List D} {i : Int} (h : look F T x = some (.c (.lst xs))) : orF ixF dgF F T x (.e (.p (.int i))) = (atI xs i).map fun d => .o (.e (.p d)) := by
  rw [ix_vw h (fun _ => rfl)]
  simp [seqAt, Function.comp_def]
theorem ix_ce {x : OV} {xs : List E} {i : Int} (h : look F T x = some (.c (.lse xs))) : orF ixF dgF F T x (.e (.p (.int i))) = (atI xs i).map fun d => .o (.e d) := by
  rw [ix_vw h (fun _ => rfl)]
  rfl
@[simp] theorem ix_locl {xs : List D} {i : Int} (h : T[j]? = some (.lst xs)) : orF ixF dgF F T (.e (.loc j)) (.e (.p (.int i))) = (atI xs i).map fun d => .o (.e (.p d)) := ix_cl (by simp [h])
@[simp] theorem ix_loce {xs : List E} {i : Int} (h : T[j]? = some (.lse xs)) : orF ixF dgF F T (.e (.loc j)) (.e (.p (.int i))) = (atI xs i).map fun d => .o (.e d) := ix_ce (by simp [h])
@[simp] theorem ix_sll {xs : List D} {i : Int} (h : F[j]? = some (.o (.lst xs))) : orF ixF dgF F T (.sl j) (.e (.p (.int i))) = (atI xs i).map fun d => .o (.e (.p d)) := ix_cl (by simp [h])
@[simp] theorem ix_sle {xs : List E} {i : Int} (h : F[j]? = some (.o (.lse xs))) : orF ixF dgF F T (.sl j) (.e (.p (.int i))) = (atI xs i).map fun d => .o (.e d) := ix_ce (by simp [h])
theorem ix_dk {x y : OV} {ks : List (Key × D)} {d : D} {k : Key} (h : look F T x = some (.c (.dic ks))) (hy : dat F T y = some d) (hk : keyD d = some k) : orF ixF dgF F T x y = (kget ks k).map fun d => .o (.e (.p d)) := by
  have e : ixF F T x y = none := by
    unfold ixF
    rw [h]
    split
    · rename_i w i h1
      cases h1
      rfl
    · rfl
  unfold orF
  rw [e]
  simp only [dgF, dkF, h, hy, dkey, hk, Option.map_some, Option.bind_some]
  simp [Function.comp_def]
@[simp] theorem ix_di {ks : List (Key × D)} {i : Int} : orF ixF dgF F T (.e (.p (.dic ks))) (.e (.p (.int i))) = (kget ks (.inl i)).map fun d => .o (.e (.p d)) := ix_dk rfl rfl rfl
@[simp] theorem ix_ds {ks : List (Key × D)} {i : Str} : orF ixF dgF F T (.e (.p (.dic ks))) (.e (.p (.str i))) = (kget ks (.inr i)).map fun d => .o (.e (.p d)) := ix_dk rfl rfl rfl
@[simp] theorem ix_sdi {ks : List (Key × D)} {i : Int} (h : F[j]? = some (.o (.dic ks))) : orF ixF dgF F T (.sl j) (.e (.p (.int i))) = (kget ks (.inl i)).map fun d => .o (.e (.p d)) := ix_dk (by simp [h]) rfl rfl
@[simp] theorem ix_sds {ks : List (Key × D)} {i : Str} (h : F[j]? = some (.o (.dic ks))) : orF ixF dgF F T (.sl j) (.e (.p (.str i))) = (kget ks (.inr i)).map fun d => .o (.e (.p d)) := ix_dk (by simp [h]) rfl rfl
@[simp] theorem ix_ldi {ks : List (Key × D)} {i : Int} (h : T[j]? = some (.dic ks)) : orF ixF dgF F T (.e (.loc j)) (.e (.p (.int i))) = (kget ks (.inl i)).map fun d => .o (.e (.p d)) := ix_dk (by simp [h]) rfl rfl
@[simp] theorem ix_lds {ks : List (Key × D)} {i : Str} (h : T[j]? = some (.dic ks)) : orF ixF dgF F T (.e (.loc j)) (.e (.p (.str i))) = (kget ks (.inr i)).map fun d => .o (.e (.p d)) := ix_dk (by simp [h]) rfl rfl
/-! ### stores by place -/
@[simp] theorem set_li {xs : List D} {i : Int} {y : D} (h : 0 ≤ i) (h2 : i < xs.length) : orS setL setD (.lst xs) (.int i) (.p y) = some (.lst (xs.set i.toNat y)) := by
  unfold orS setL
  dsimp only
  unfold ixN
  rw [if_pos h, if_pos h2]
  rfl
@[simp] theorem set_ei {xs : List E} {i : Int} {y : E} (h : 0 ≤ i) (h2 : i < xs.length) : orS setL setD (.lse xs) (.int i) y = some (.lse (xs.set i.toNat y)) := by
  unfold orS setL
  dsimp only
  unfold ixN
  rw [if_pos h, if_pos h2]
  rfl
@[simp] theorem set_di {xs : List (Key × D)} {i : Int} {y : D} (h : xs.length < 16777216) : orS setL setD (.dic xs) (.int i) (.p y) = some (.dic (kput xs (.inl i) y)) := by
  unfold orS setL setD
  simp [keyD, LINE, h]
@[simp] theorem set_ds {xs : List (Key × D)} {i : Str} {y : D} (h : xs.length < 16777216) : orS setL setD (.dic xs) (.str i) (.p y) = some (.dic (kput xs (.inr i) y)) := by
  unfold orS setL setD
  simp [keyD, LINE, h]
end
/-! ### loops and calls by what is known of their ends -/
theorem for_h {mg : MG} {body : MS} {es : List E} {F : Fr} {T : Sto} {r : RS} (h : forE mg body es F T = r) (P : List E → Fr → Sto → Prop) (h0 : P es F T)
    (step : ∀ x rest F T, P (x :: rest) F T → ∃ F1, mg x F = some F1 ∧ ∀ r, body F1 T = r → ∃ F2 T2, (r = .nx F2 T2 ∨ r = .ct F2 T2) ∧ P rest F2 T2) : ∃ F' T', r = .nx F' T' ∧ P [] F' T' := by
  obtain ⟨F', T', h1, h2⟩ := forE_inv (mg := mg) (body := body) (P := P) (fun x rest F T hp => by
    obtain ⟨F1, h1, h2⟩ := step x rest F T hp
    obtain ⟨F2, T2, h3, h4⟩ := h2 _ rfl
    exact ⟨F1, F2, T2, h1, h3, h4⟩) h0
  exact ⟨F', T', by rw [← h, h1], h2⟩
theorem forg_h {mg : MG} {body : MS} {es : List E} {F : Fr} {T : Sto} {r : RS} (h : forE mg body es F T = r) (P : List E → Fr → Sto → Prop) (Q : RS → Prop) (h0 : P es F T)
    (step : ∀ x rest F T, P (x :: rest) F T → ∃ F1, mg x F = some F1 ∧ ∀ r, body F1 T = r → ((∃ F2 T2, (r = .nx F2 T2 ∨ r = .ct F2 T2) ∧ P rest F2 T2) ∨ (∃ F2 T2, r = .bk F2 T2 ∧ Q (.nx F2 T2)) ∨ (∃ v F2 T2, r = .rt v F2 T2 ∧ Q (.rt v F2 T2)) ∨ ∃ x F2 T2, r = .exc x F2 T2 ∧ Q (.exc x F2 T2)))
    (fin : ∀ F T, P [] F T → Q (.nx F T)) : Q r := by
  rw [← h]
  exact forE_gen (P := P) (fun x rest F T hp => by
    obtain ⟨F1, h1, h2⟩ := step x rest F T hp
    refine ⟨F1, h1, ?_⟩
    exact h2 _ rfl) fin h0
/-! ### evaluation of what is new -/
section
variable {F : Fr} {T : Sto} {m n : MO} {t : MT} {i j k : Nat} {f : F2} {ma : MA} {s : MS} {mg : MG} {tab : BTab}
@[simp] theorem cR3_ev : cR3 ma F T = @bnd _ _ (ma F T) (.mk fun xs F T => r3K xs F T) := id rfl
def revLK (x : OV) (F : Fr) (T : Sto) : Rs RV := opK (((look F T x).bind seqLE).map fun es => .fr (lstV es.reverse)) F T
@[simp] theorem cRevL_ev : cRevL m F T = @bnd _ _ (m F T) (.mk fun x F T => revLK x F T) := id rfl
theorem revLK_at {x : OV} {xs : List D} (h : look F T x = some (.c (.lst xs))) : revLK x F T = .ok (.fr (.lst xs.reverse)) F T := by
  unfold revLK
  rw [h]
  have e : (some (Vw.c (.lst xs))).bind seqLE = some (xs.map .p) := rfl
  rw [e]
  simp only [Option.map_some, ← List.map_reverse, lstV_ev, pureL_mp, opK_s]
@[simp] theorem revLK_l {xs : List D} : revLK (.e (.p (.lst xs))) F T = .ok (.fr (.lst xs.reverse)) F T := revLK_at (by simp)
@[simp] theorem revLK_sl {xs : List D} (h : F[i]? = some (.o (.lst xs))) : revLK (.sl i) F T = .ok (.fr (.lst xs.reverse)) F T := revLK_at (by simp [h])
@[simp] theorem cWlk_ev {g : List (Key × D) → List E} : cWlk g m F T = @bnd _ _ (m F T) (.mk fun x F T => itK (dkE g x) F T) := id rfl
@[simp] theorem dkE_d {g : List (Key × D) → List E} {ks : List (Key × D)} : dkE g (.e (.p (.dic ks))) = some (g ks) := id rfl
@[simp] theorem cSrt_ev {b : Bool} : cSrt b ma F T = @bnd _ _ (ma F T) (.mk fun xs F T => srtK b xs F T) := id rfl
@[simp] theorem srtK_ev {b : Bool} {x : OV} : srtK b [x] F T = opK ((ints1 F T x).map fun ns => .fr (.lst ((srtB b ns).map .int))) F T := id rfl
@[simp] theorem cListV_ev : cListV m F T = @bnd _ _ (m F T) (.mk fun x F T => lvK x F T) := id rfl
@[simp] theorem lvK_ev {ks : List (Key × D)} : lvK (.e (.p (.dic ks))) F T = .ok (.fr (.lst (ks.map (·.2)))) F T := id rfl
@[simp] theorem sForA_ev : sForA m mg s F T = @stt _ (m F T) (.mk fun x F T => forA mg s x F T) := id rfl
@[simp] theorem forA_l {ds : List D} : forA mg s (.e (.p (.lst ds))) F T = forE mg s (ds.map .p) F T := id rfl
@[simp] theorem forA_t {ds : List D} : forA mg s (.e (.p (.tup ds))) F T = forE mg s (ds.map .p) F T := id rfl
@[simp] theorem forA_rl {ds : List D} : forA mg s (.e (.p (.rol ds))) F T = forE mg s (ds.map .p) F T := id rfl
@[simp] theorem forA_rt {ds : List D} : forA mg s (.e (.p (.rot ds))) F T = forE mg s (ds.map .p) F T := id rfl
@[simp] theorem forA_s {z : Str} : forA mg s (.e (.p (.str z))) F T = forE mg s (z.cps.toList.map fun c => E.p (.str ⟨#[c]⟩)) F T := id rfl
@[simp] theorem cLcE_ev {mi : MI} {vs : List Nat} : cLcE mi mg t m vs F T = @bnd _ _ (mi F T) (.mk fun es F T => @bnd _ _ (lceE mg t m vs es [] (wipeF F vs) T) (.mk fun ds F T => .ok (.fr (lstV ds)) F T)) := id rfl
@[simp] theorem cOpO_ev : cOpO tab f m n F T = @bnd _ _ (m F T) (.mk fun x F T => @bnd _ _ (n F T) (.mk fun y F T => own2 tab f F T x y)) := id rfl
@[simp] theorem sAugO_ev : sAugO tab f i m F T = match F[i]? with
  | some (.e x) => @stt _ (m F T) (.mk fun y F T => @stt _ (ownI tab f F T (.e x) y) (.mk fun r F T => match r with
    | .o (.e z) => .nx (F.set i (.e z)) T
    | _ => .bad))
  | _ => .bad := id rfl
theorem ownI_loc {c : String} {fs : List (String × E)} {mf : MFn} {y : E} (h : T[j]? = some (.ins c fs)) (ht : tab c = some mf) : ownI tab f F T (.e (.loc j)) (.e y) = frIn F (mf [.loc j, y] T) := by
  unfold ownI ownR
  simp only [look_loc, h, Option.map_some, ht]
  rfl
theorem own2_loc {c : String} {fs gs : List (String × E)} {mf : MFn} (h : T[j]? = some (.ins c fs)) (h2 : T[k]? = some (.ins c gs)) (ht : tab c = some mf) : own2 tab f F T (.e (.loc j)) (.e (.loc k)) = frIn F (mf [.loc j, .loc k] T) := by
  unfold own2 ownR
  simp only [look_loc, h, h2, Option.map_some, ht, sameC, decide_true, if_true]
  rfl
theorem own2_no {x y : E} (h : ownR tab F T (.e x) = none) : own2 tab f F T (.e x) (.e y) = opK (f F T (.e x) (.e y)) F T := by
  unfold own2
  rw [h]
@[simp] theorem ownR_p {d : D} (h : ∀ c fs, d ≠ .ins c fs) : ownR tab F T (.e (.p d)) = none := by
  unfold ownR
  cases d <;> first | rfl | (rename_i c fs; exact absurd rfl (h c fs))
end
theorem while_h {t : MT} {b : MS} {F : Fr} {T : Sto} {r : RS} (h : sWhile t b F T = r) (P : Nat → Fr → Sto → Prop) (Q : Fr → Sto → Prop) {n : Nat} (h0 : P n F T)
    (step : ∀ n F T, P n F T → ∀ rt, t F T = rt → ∃ c F1 T1, rt = .ok c F1 T1 ∧ (c = false → Q F1 T1) ∧ (c = true → ∀ rb, b F1 T1 = rb → ∃ F2 T2 m, (rb = .nx F2 T2 ∨ rb = .ct F2 T2) ∧ m < n ∧ P m F2 T2)) : ∃ F' T', r = .nx F' T' ∧ Q F' T' := by
  have key : ∀ (n : Nat) (F : Fr) (T : Sto), P n F T → ∃ k F' T', whileN t b k F T = .nx F' T' ∧ Q F' T' := by
    intro n
    induction n using Nat.strongRecOn with
    | ind n ih =>
      intro F T hp
      obtain ⟨c, F1, T1, e1, e2, e3⟩ := step n F T hp _ rfl
      cases c with
      | false => exact ⟨1, F1, T1, by unfold whileN; rw [e1]; rfl, e2 rfl⟩
      | true =>
        obtain ⟨F2, T2, m, e4, e5, e6⟩ := e3 rfl _ rfl
        obtain ⟨k, F', T', e7, e8⟩ := ih m e5 F2 T2 e6
        refine ⟨k + 1, F', T', ?_, e8⟩
        have z : whileN t b (k + 1) F T = (match b F1 T1 with
          | .nx F T => whileN t b k F T
          | .ct F T => whileN t b k F T
          | .bk F T => .nx F T
          | q => q) := by
          rw [whileN, e1]
          rfl
        rw [z]
        rcases e4 with e4 | e4 <;> rw [e4] <;> exact e7
  obtain ⟨k, F', T', e1, e2⟩ := key n F T h0
  exact ⟨F', T', by rw [← h, sWhile_eq (by rw [e1]; intro z; cases z), e1], e2⟩
/-! ### slices -/
theorem cutL_map {α β : Type} {f : α → β} {xs : List α} {lo hi : Option Int} : cutL (xs.map f) lo hi = (cutL xs lo hi).map f := by
  unfold cutL
  simp
@[simp] theorem cutL_from {α : Type} {xs : List α} {k : Nat} : cutL xs (some (k : Int)) none = xs.drop k := by
  unfold cutL
  rw [HT.sIx_nat, HT.sIx_none, List.take_of_length_le (by simp)]
  rcases Nat.le_total k xs.length with h | h
  · rw [Nat.min_eq_left h]
  · rw [Nat.min_eq_right h, List.drop_of_length_le (Nat.le_refl _), List.drop_of_length_le h]
@[simp] theorem cutL_to {α : Type} {xs : List α} {k : Nat} : cutL xs none (some (k : Int)) = xs.take k := by
  unfold cutL
  rw [HT.sIx_none, HT.sIx_nat, List.drop_zero, Nat.sub_zero]
  rcases Nat.le_total k xs.length with h | h
  · rw [Nat.min_eq_left h]
  · rw [Nat.min_eq_right h, List.take_of_length_le (Nat.le_refl _), List.take_of_length_le h]
@[simp] theorem cutL_all {α : Type} {xs : List α} : cutL xs none none = xs := by
  unfold cutL
  rw [HT.sIx_none, HT.sIx_none, List.drop_zero, Nat.sub_zero, List.take_length]
section
variable {F : Fr} {T : Sto} {i j : Nat} {xs ys : List D}
theorem slF_l {x : OV} {lo hi : Option Int} (h : look F T x = some (.c (.lst xs))) : slF F T x lo hi = some (.fr (.lst (cutL xs lo hi))) := by
  unfold slF
  rw [h]
  have e : seqLE (.c (.lst xs)) = some (xs.map .p) := rfl
  simp only [e, cutL_map, lstV_ev, pureL_mp]
@[simp] theorem slF_lst {lo hi : Option Int} : slF F T (.e (.p (.lst xs))) lo hi = some (.fr (.lst (cutL xs lo hi))) := slF_l (by simp)
@[simp] theorem slF_sl {lo hi : Option Int} (h : F[i]? = some (.o (.lst xs))) : slF F T (.sl i) lo hi = some (.fr (.lst (cutL xs lo hi))) := slF_l (by simp [h])
@[simp] theorem slF_loc {lo hi : Option Int} (h : T[i]? = some (.lst xs)) : slF F T (.e (.loc i)) lo hi = some (.fr (.lst (cutL xs lo hi))) := slF_l (by simp [h])
theorem slF_tup {lo hi : Option Int} : slF F T (.e (.p (.tup xs))) lo hi = some (.o (.e (.p (.tup (cutL xs lo hi))))) := by
  unfold slF
  have l : look F T (.e (.p (.tup xs))) = some (.d (.tup xs)) := rfl
  have q : seqLE (.d (.tup xs)) = none := rfl
  have q2 : sltE (.d (.tup xs)) = some (xs.map .p) := rfl
  rw [l]
  simp only [q, q2]
  split
  · rename_i h
    unfold whole at h
    rw [List.length_map] at h
    have : cutL xs lo hi = xs := by
      unfold cutL
      rw [h.1, h.2, List.drop_zero, Nat.sub_zero, List.take_length]
    rw [this]
  · rw [cutL_map]
    simp only [tupV_ev, pureL_mp]
@[simp] theorem slF_str {s : Str} {lo hi : Option Int} (h : s.length ≤ 16777216) : slF F T (.e (.p (.str s))) lo hi = some (.o (.e (.p (.str (cutS s lo hi))))) := by
  have l : look F T (.e (.p (.str s))) = some (.d (.str s)) := rfl
  have q : seqLE (.d (.str s)) = none := rfl
  have q2 : sltE (.d (.str s)) = none := rfl
  unfold slF
  rw [l]
  have : s.length ≤ LINE := by show s.length ≤ 16777216; omega
  simp only [q, q2, this, if_true]
@[simp] theorem add_sll (h : F[i]? = some (.o (.lst xs))) (hl : xs.length + ys.length ≤ 16777216) : addF F T (.sl i) (.e (.p (.lst ys))) = some (.fr (.lst (xs ++ ys))) := add_lst (by simp [h]) rfl hl
@[simp] theorem add_lsl (h : F[i]? = some (.o (.lst ys))) (hl : xs.length + ys.length ≤ 16777216) : addF F T (.e (.p (.lst xs))) (.sl i) = some (.fr (.lst (xs ++ ys))) := add_lst rfl (by simp [h]) hl
@[simp] theorem add_locl (h : T[i]? = some (.lst xs)) (hl : xs.length + ys.length ≤ 16777216) : addF F T (.e (.loc i)) (.e (.p (.lst ys))) = some (.fr (.lst (xs ++ ys))) := add_lst (by simp [h]) rfl hl
@[simp] theorem add_lloc (h : T[i]? = some (.lst ys)) (hl : xs.length + ys.length ≤ 16777216) : addF F T (.e (.p (.lst xs))) (.e (.loc i)) = some (.fr (.lst (xs ++ ys))) := add_lst rfl (by simp [h]) hl
/-! ### a call's answer, frozen -/
def fzV : FV → Option D
  | .e (.p d) => some d
  | .fr c => c.fz
  | _ => none
theorem fz_as {v : FV} {d : D} {F : Fr} {T : Sto} (h : fzV v = some d) : @bnd _ _ (frIn F (.ok v T)) (.mk fun r F T => fzK r F T) = .ok (.e (.p d)) F T := by
  cases v with
  | e x => cases x with
    | p y => cases h; rfl
    | _ => cases h
  | fr c =>
    have h' : c.fz = some d := h
    show fzK (.fr c) F T = _
    unfold fzK
    simp only [h']
end
/-! ### comprehensions by what is known of their ends -/
theorem lc_h {α : Type} {f : α → E} {mg : MG} {t : MT} {el : MO} {vs : List Nat} {F : Fr} {T : Sto} {r : Rs (List D)} {xs : List α} (h : lcE mg t el vs (xs.map f) [] F T = r) (p : α → Bool) (g : α → D) (hl : xs.length ≤ 16777216)
    (step : ∀ x ∈ xs, ∃ F1, mg (f x) F = some F1 ∧ t F1 T = .ok (p x) F1 T ∧ (p x = true → el F1 T = .ok (.e (.p (g x))) F1 T) ∧ wipeF F1 vs = F) : r = .ok ((xs.filter p).map g) F T := by
  have key : ∀ (xs : List α) (acc : List D), acc.length + xs.length ≤ 16777216 → (∀ x ∈ xs, ∃ F1, mg (f x) F = some F1 ∧ t F1 T = .ok (p x) F1 T ∧ (p x = true → el F1 T = .ok (.e (.p (g x))) F1 T) ∧ wipeF F1 vs = F) → lcE mg t el vs (xs.map f) acc F T = .ok (acc ++ (xs.filter p).map g) F T := by
    intro xs
    induction xs with
    | nil => intro acc _ _; simp [lcE]
    | cons x r ih =>
      intro acc ha st
      rw [List.length_cons] at ha
      obtain ⟨F1, h1, h2, h3, h4⟩ := st x List.mem_cons_self
      rw [List.map_cons]
      unfold lcE
      simp only [h1, h2, Rs.nox, Rs.bind]
      cases hp : p x with
      | false =>
        have e := ih acc (by omega) fun y hy => st y (List.mem_cons_of_mem _ hy)
        simp only [Bool.false_eq_true, if_false, h4]
        rw [List.filter_cons_of_neg (by simp [hp])]
        exact e
      | true =>
        have e := ih (acc ++ [g x]) (by simp; omega) fun y hy => st y (List.mem_cons_of_mem _ hy)
        simp only [if_true, h3 hp, Rs.nox, Rs.bind, h4]
        rw [if_pos (show acc.length < 16777216 by omega), e, List.filter_cons_of_pos (by simp [hp]), List.map_cons, List.append_assoc]
        rfl
  rw [← h, key xs [] (by simpa using hl) step]
  simp
theorem lca_h {α : Type} {f : α → E} {mg : MG} {t : MT} {el : MO} {vs : List Nat} {F : Fr} {T : Sto} {r : Rs (List D)} {xs : List α} (h : lcE mg t el vs (xs.map f) [] F T = r) (g : α → D) (hl : xs.length ≤ 16777216)
    (step : ∀ x ∈ xs, ∃ F1, mg (f x) F = some F1 ∧ t F1 T = .ok true F1 T ∧ el F1 T = .ok (.e (.p (g x))) F1 T ∧ wipeF F1 vs = F) : r = .ok (xs.map g) F T := by
  have := lc_h h (fun _ => true) g hl (fun x hx => by
    obtain ⟨F1, h1, h2, h3, h4⟩ := step x hx
    exact ⟨F1, h1, h2, fun _ => h3, h4⟩)
  rw [this, List.filter_eq_self.mpr fun _ _ => rfl]
theorem lcx_h {mg : MG} {t : MT} {el : MO} {vs : List Nat} {es : List E} {acc : List D} {F : Fr} {T : Sto} {r : Rs (List D)} (h : lcE mg t el vs es acc F T = r) (P : List E → List D → Sto → Prop) (h0 : P es acc T)
    (step : ∀ x rest acc T, P (x :: rest) acc T → ∃ F1, mg x F = some F1 ∧ wipeF F1 vs = F ∧ ∀ rt, t F1 T = rt → ∃ b T1, rt = .ok b F1 T1 ∧ (b = false → P rest acc T1) ∧ (b = true → ∀ re, el F1 T1 = re → ∃ d T2, re = .ok (.e (.p d)) F1 T2 ∧ P rest (acc ++ [d]) T2 ∧ acc.length < 16777216)) : ∃ ds T', r = .ok ds F T' ∧ P [] ds T' := by
  have key : ∀ (es : List E) (acc : List D) (T : Sto), P es acc T → ∃ ds T', lcE mg t el vs es acc F T = .ok ds F T' ∧ P [] ds T' := by
    intro es
    induction es with
    | nil => intro acc T hp; exact ⟨acc, T, rfl, hp⟩
    | cons x r ih =>
      intro acc T hp
      obtain ⟨F1, h1, h4, h2⟩ := step x r acc T hp
      obtain ⟨b, T1, e1, e2, e3⟩ := h2 _ rfl
      unfold lcE
      simp only [h1, e1, Rs.nox, Rs.bind]
      cases b with
      | false =>
        obtain ⟨ds, T', k1, k2⟩ := ih acc T1 (e2 rfl)
        refine ⟨ds, T', ?_, k2⟩
        simp only [Bool.false_eq_true, if_false, h4]
        exact k1
      | true =>
        obtain ⟨d, T2, k1, k2, k3⟩ := e3 rfl _ rfl
        obtain ⟨ds, T', k4, k5⟩ := ih _ T2 k2
        refine ⟨ds, T', ?_, k5⟩
        simp only [if_true, k1, Rs.nox, Rs.bind, h4]
        rw [if_pos (show acc.length < 16777216 from k3), k4]
  rw [← h]
  exact key es acc T h0
theorem lcex_h {mg : MG} {t : MT} {el : MO} {vs : List Nat} {es acc : List E} {F : Fr} {T : Sto} {r : Rs (List E)} (h : lceE mg t el vs es acc F T = r) (P : List E → List E → Sto → Prop) (h0 : P es acc T)
    (step : ∀ x rest acc T, P (x :: rest) acc T → ∃ F1, mg x F = some F1 ∧ wipeF F1 vs = F ∧ ∀ rt, t F1 T = rt → ∃ b T1, rt = .ok b F1 T1 ∧ (b = false → P rest acc T1) ∧ (b = true → ∀ re, el F1 T1 = re → ∃ d T2, re = .ok (.e d) F1 T2 ∧ P rest (acc ++ [d]) T2 ∧ acc.length < 16777216)) : ∃ ds T', r = .ok ds F T' ∧ P [] ds T' := by
  have key : ∀ (es acc : List E) (T : Sto), P es acc T → ∃ ds T', lceE mg t el vs es acc F T = .ok ds F T' ∧ P [] ds T' := by
    intro es
    induction es with
    | nil => intro acc T hp; exact ⟨acc, T, rfl, hp⟩
    | cons x r ih =>
      intro acc T hp
      obtain ⟨F1, h1, h4, h2⟩ := step x r acc T hp
      obtain ⟨b, T1, e1, e2, e3⟩ := h2 _ rfl
      unfold lceE
      simp only [h1, e1, Rs.nox, Rs.bind]
      cases b with
      | false =>
        obtain ⟨ds, T', k1, k2⟩ := ih acc T1 (e2 rfl)
        refine ⟨ds, T', ?_, k2⟩
        simp only [Bool.false_eq_true, if_false, h4]
        exact k1
      | true =>
        obtain ⟨d, T2, k1, k2, k3⟩ := e3 rfl _ rfl
        obtain ⟨ds, T', k4, k5⟩ := ih _ T2 k2
        refine ⟨ds, T', ?_, k5⟩
        simp only [if_true, k1, Rs.nox, Rs.bind, h4]
        rw [if_pos (show acc.length < 16777216 from k3), k4]
  rw [← h]
  exact key es acc T h0
/-! ### the items of a range -/
theorem rngE_drop {lo : Int} {n k : Nat} {x : E} {rest : List E} (h : x :: rest = (rngE lo n).drop k) : k < n ∧ x = .p (.int (lo + (k : Nat))) ∧ rest = (rngE lo n).drop (k + 1) := by
  have hk : k < (rngE lo n).length := by
    rcases Nat.lt_or_ge k (rngE lo n).length with hk | hk
    · exact hk
    · rw [List.drop_of_length_le hk] at h
      cases h
  rw [List.drop_eq_getElem_cons hk] at h
  obtain ⟨h1, h2⟩ := List.cons.inj h
  have hl : (rngE lo n).length = n := by simp [rngE]
  refine ⟨by omega, ?_, h2⟩
  rw [h1]
  simp [rngE]
theorem rng3E_drop {lo c : Int} {n k : Nat} {x : E} {rest : List E} (h : x :: rest = (rng3E lo c n).drop k) : k < n ∧ x = .p (.int (lo + (k : Nat) * c)) ∧ rest = (rng3E lo c n).drop (k + 1) := by
  have hk : k < (rng3E lo c n).length := by
    rcases Nat.lt_or_ge k (rng3E lo c n).length with hk | hk
    · exact hk
    · rw [List.drop_of_length_le hk] at h
      cases h
  rw [List.drop_eq_getElem_cons hk] at h
  obtain ⟨h1, h2⟩ := List.cons.inj h
  have hl : (rng3E lo c n).length = n := by simp [rng3E]
  refine ⟨by omega, ?_, h2⟩
  rw [h1]
  simp [rng3E]
theorem rngE_end {lo : Int} {n k : Nat} (h : [] = (rngE lo n).drop k) : n ≤ k := by
  have := congrArg List.length h
  simp [rngE] at this
  omega
theorem rng3E_end {lo c : Int} {n k : Nat} (h : [] = (rng3E lo c n).drop k) : n ≤ k := by
  have := congrArg List.length h
  simp [rng3E] at this
  omega
@[simp] theorem ofs_eq' {a b : String} : (Str.ofString a = Str.ofString b) ↔ (a = b) := ⟨fun h => ofs_inj h, fun h => by rw [h]⟩
/-! ### more about dicts -/
section
variable {F : Fr} {T : Sto} {i j : Nat} {ks : List (Key × D)}
theorem in_dk {y : OV} {d : D} {k : Key} (hd : sv d ≠ none) (hk : keyD d = some k) (h : look F T y = some (.c (.dic ks))) (h2 : dat F T y = some (.dic ks)) : inF F T (.e (.p d)) y = some (.o (.e (.p (.bl ((kget ks k).isSome))))) := by
  have h1 : dat F T (.e (.p d)) = some d := rfl
  have h3 : smem d (.dic ks) = none := by
    unfold smem seqD
    cases sv d <;> rfl
  simp [inF, orF, bF, h1, h2, h3, pymem_dic, dinF, dkF, h, dkey, hk]
theorem ni_dk {y : OV} {d : D} {k : Key} (hd : sv d ≠ none) (hk : keyD d = some k) (h : look F T y = some (.c (.dic ks))) (h2 : dat F T y = some (.dic ks)) : niF F T (.e (.p d)) y = some (.o (.e (.p (.bl (!(kget ks k).isSome))))) := by
  have h1 : dat F T (.e (.p d)) = some d := rfl
  have h3 : smem d (.dic ks) = none := by
    unfold smem seqD
    cases sv d <;> rfl
  simp [niF, orF, bF, h1, h2, h3, pymem_dic, dniF, dkF, h, dkey, hk]
@[simp] theorem in_sdi {n : Int} (h : F[j]? = some (.o (.dic ks))) : inF F T (.e (.p (.int n))) (.sl j) = some (.o (.e (.p (.bl ((kget ks (.inl n)).isSome))))) := in_dk (by simp [sv]) rfl (by simp [h]) (by simp [h])
@[simp] theorem ni_sdi {n : Int} (h : F[j]? = some (.o (.dic ks))) : niF F T (.e (.p (.int n))) (.sl j) = some (.o (.e (.p (.bl (!(kget ks (.inl n)).isSome))))) := ni_dk (by simp [sv]) rfl (by simp [h]) (by simp [h])
@[simp] theorem in_di {n : Int} : inF F T (.e (.p (.int n))) (.e (.p (.dic ks))) = some (.o (.e (.p (.bl ((kget ks (.inl n)).isSome))))) := in_dk (by simp [sv]) rfl rfl rfl
@[simp] theorem ni_di {n : Int} : niF F T (.e (.p (.int n))) (.e (.p (.dic ks))) = some (.o (.e (.p (.bl (!(kget ks (.inl n)).isSome))))) := ni_dk (by simp [sv]) rfl rfl rfl
@[simp] theorem in_sds {n : Str} (h : F[j]? = some (.o (.dic ks))) : inF F T (.e (.p (.str n))) (.sl j) = some (.o (.e (.p (.bl ((kget ks (.inr n)).isSome))))) := in_dk (by simp [sv]) rfl (by simp [h]) (by simp [h])
@[simp] theorem in_ds {n : Str} : inF F T (.e (.p (.str n))) (.e (.p (.dic ks))) = some (.o (.e (.p (.bl ((kget ks (.inr n)).isSome))))) := in_dk (by simp [sv]) rfl rfl rfl
theorem list_dat {x : OV} (h : look F T x = some (.c (.dic ks))) : listF F T x = some (.fr (.lst (ks.map (keyE ∘ Prod.fst)))) := by
  unfold listF
  rw [h]
  simp [seqE, dicE, Function.comp_def]
@[simp] theorem list_sld (h : F[j]? = some (.o (.dic ks))) : listF F T (.sl j) = some (.fr (.lst (ks.map (keyE ∘ Prod.fst)))) := list_dat (by simp [h])
theorem kget_find {α : Type} {f : α → Int} {g : α → D} {n : Int} : ∀ {xs : List α}, kget (xs.map fun e => ((Sum.inl (f e) : Key), g e)) (.inl n) = (xs.find? fun e => decide (f e = n)).map g
  | [] => rfl
  | x :: r => by
    have ih := kget_find (f := f) (g := g) (n := n) (xs := r)
    unfold kget at ih ⊢
    rw [List.map_cons, List.find?_cons, List.find?_cons]
    by_cases h : f x = n
    · simp [h]
    · simp only [Sum.inl.injEq, h, decide_false]
      exact ih
theorem kput_new {α β : Type} [DecidableEq α] {xs : List (α × β)} {k : α} {v : β} (h : ∀ p ∈ xs, p.1 ≠ k) : kput xs k v = xs ++ [(k, v)] := by
  unfold kput
  rw [if_neg]
  rw [List.any_eq_true]
  rintro ⟨p, hp, e⟩
  exact h p hp (by simpa using e)
theorem kput_same {α β : Type} [DecidableEq α] {xs : List (α × β)} {k : α} {v : β} (hm : (k, v) ∈ xs) (h : ∀ p ∈ xs, p.1 = k → p.2 = v) : kput xs k v = xs := by
  unfold kput
  rw [if_pos (List.any_eq_true.mpr ⟨_, hm, by simp⟩)]
  have : xs.map (fun kv => if kv.1 = k then (kv.1, v) else kv) = xs.map id := List.map_congr_left fun p hp => by
    by_cases e : p.1 = k
    · rw [if_pos e, ← h p hp e]; rfl
    · rw [if_neg e]; rfl
  rw [this, List.map_id]
end
@[simp] theorem mwIns_l {xs : List D} {i : Nat} {d : D} (h1 : xs.length ≤ 1000000) (h2 : i ≤ 1000000) : mwIns (.lst xs) [.p (.int (i : Int)), .p d] = some (.lst (xs.take i ++ [d] ++ xs.drop i), .p .non) := by
  unfold mwIns
  dsimp only
  rw [if_pos ⟨by show xs.length < 16777216; omega, by omega, by omega⟩]
  rw [Int.toNat_natCast]
@[simp] theorem set_last {α : Type} {S : List α} {x y : α} : (S ++ [x]).set S.length y = S ++ [y] := by
  rw [List.set_append_right _ _ (Nat.le_refl _)]
  simp
def revK (xs : List OV) (F : Fr) (T : Sto) : Rs (List E) := match xs with
  | [x] => match frzL x with
    | some ds => .ok (ds.reverse.map .p) F T
    | none => .bad
  | _ => .bad
@[simp] theorem cRev_ev {ma : MA} {F : Fr} {T : Sto} : cRev ma F T = @bnd _ _ (ma F T) (.mk fun xs F T => revK xs F T) := id rfl
@[simp] theorem revK_1 {x : OV} {F : Fr} {T : Sto} : revK [x] F T = itK ((frzL x).map fun ds => ds.reverse.map .p) F T := by
  unfold revK
  dsimp only
  cases frzL x <;> rfl
@[simp] theorem frzL_l {ds : List D} : frzL (.e (.p (.lst ds))) = some ds := id rfl
@[simp] theorem frzL_r {ds : List D} : frzL (.e (.p (.rol ds))) = some ds := id rfl
@[simp] theorem frzT_t {ds : List D} : frzT (.e (.p (.tup ds))) = some ds := id rfl
@[simp] theorem cEnumA_ev {m : MO} {F : Fr} {T : Sto} : cEnumA (cCons m cNil) F T = match m F T with
  | .ok x F T => (match frzL x, frzT x with
    | some ds, _ => .ok (enumE 0 ds) F T
    | none, some ds => .ok (enumE 0 ds) F T
    | none, none => .bad)
  | .exc x F T => .exc x F T
  | .bad => .bad := by
  unfold cEnumA cEnum cEnumT cCons cNil
  cases m F T with
  | bad => rfl
  | exc x F1 T1 => rfl
  | ok x F1 T1 =>
    simp only [Rs.bind]
    cases h : frzL x with
    | some ds => rfl
    | none => cases h2 : frzT x <;> rfl
/-! ### order of tuples and lists -/
section
variable {F : Fr} {T : Sto} {x y : OV} {a b : D} {r : Bool}
theorem leA_sq (hx : dat F T x = some a) (hy : dat F T y = some b) (hb : isSqD b = true) (h : ordP (fun d e => !PySem.W.dataLt e d) a b = some r) : orF (orF leI leS) leP F T x y = some (.o (.e (.p (.bl r)))) := by
  have e0 : leI F T x y = none := by
    unfold leI i2
    split
    · rw [dat_p] at hy
      cases hy
      cases hb
    · rfl
  have e1 : leS F T x y = none := by
    unfold leS s2
    split
    · rw [dat_p] at hy
      cases hy
      cases hb
    · rfl
  have e2 : leP F T x y = some (.o (.e (.p (.bl r)))) := by
    unfold leP bF
    rw [hx, hy]
    show (ordP (fun d e => !PySem.W.dataLt e d) a b).map (fun r => RV.o (.e (.p (.bl r)))) = _
    rw [h]
    rfl
  unfold orF
  rw [e0, e1, e2]
theorem ltA_sq (hx : dat F T x = some a) (hy : dat F T y = some b) (hb : isSqD b = true) (h : ordP (fun d e => PySem.W.dataLt d e) a b = some r) : orF (orF ltI ltS) ltP F T x y = some (.o (.e (.p (.bl r)))) := by
  have e0 : ltI F T x y = none := by
    unfold ltI i2
    split
    · rw [dat_p] at hy
      cases hy
      cases hb
    · rfl
  have e1 : ltS F T x y = none := by
    unfold ltS s2
    split
    · rw [dat_p] at hy
      cases hy
      cases hb
    · rfl
  have e2 : ltP F T x y = some (.o (.e (.p (.bl r)))) := by
    unfold ltP bF
    rw [hx, hy]
    show (ordP (fun d e => PySem.W.dataLt d e) a b).map (fun r => RV.o (.e (.p (.bl r)))) = _
    rw [h]
    rfl
  unfold orF
  rw [e0, e1, e2]
end
/-! ### in a list of ints, of texts -/
section
variable {F : Fr} {T : Sto} {i j : Nat}
theorem svl_int : ∀ {xs : List Int}, svl (xs.map .int) = some (xs.map V.int)
  | [] => rfl
  | x :: r => by
    show (match sv (.int x), svl (r.map .int) with | some v, some vs => some (v :: vs) | _, _ => none) = _
    rw [svl_int]
    rfl
theorem inV_ints {x : Int} {xs : List Int} : inV (.int x) (xs.map V.int) = decide (x ∈ xs) := by
  unfold inV
  rw [Bool.eq_iff_iff, List.any_eq_true, decide_eq_true_iff]
  constructor
  · rintro ⟨v, hv, h⟩
    obtain ⟨y, hy, rfl⟩ := List.mem_map.mp hv
    have : y = x := by simpa [eqV] using h
    rw [← this]
    exact hy
  · intro h
    exact ⟨.int x, List.mem_map.mpr ⟨x, h, rfl⟩, by simp [eqV]⟩
theorem in_sq {y : OV} {d b : D} {u : V} {us : List V} {ys : List D} (hu : sv d = some u) (hb : seqD b = some ys) (hs : svl ys = some us) (h2 : dat F T y = some b) : inF F T (.e (.p d)) y = some (.o (.e (.p (.bl (inV u us))))) ∧ niF F T (.e (.p d)) y = some (.o (.e (.p (.bl (!inV u us))))) := by
  have h1 : dat F T (.e (.p d)) = some d := rfl
  have h3 : smem d b = some (inV u us) := by
    unfold smem
    rw [hu, hb]
    show (match some u, svl ys with | some u, some us => some (inV u us) | _, _ => none) = _
    rw [hs]
  constructor
  · simp [inF, orF, bF, h1, h2, h3]
  · simp [niF, orF, bF, h1, h2, h3]
theorem in_ints {y : OV} {xs : List Int} {n : Int} (h : dat F T y = some (.lst (xs.map .int))) : inF F T (.e (.p (.int n))) y = some (.o (.e (.p (.bl (decide (n ∈ xs)))))) := by
  rw [(in_sq (u := .int n) rfl rfl svl_int h).1, inV_ints]
theorem ni_ints {y : OV} {xs : List Int} {n : Int} (h : dat F T y = some (.lst (xs.map .int))) : niF F T (.e (.p (.int n))) y = some (.o (.e (.p (.bl (!decide (n ∈ xs)))))) := by
  rw [(in_sq (u := .int n) rfl rfl svl_int h).2, inV_ints]
theorem in_strs {y : OV} {xs : List Str} {n : Str} (h : dat F T y = some (.lst (xs.map .str))) : inF F T (.e (.p (.str n))) y = some (.o (.e (.p (.bl (decide (n ∈ xs)))))) := by
  rw [(in_sq (u := .str n) rfl rfl svl_str h).1, inV_strs]
theorem ni_strs {y : OV} {xs : List Str} {n : Str} (h : dat F T y = some (.lst (xs.map .str))) : niF F T (.e (.p (.str n))) y = some (.o (.e (.p (.bl (!decide (n ∈ xs)))))) := by
  rw [(in_sq (u := .str n) rfl rfl svl_str h).2, inV_strs]
theorem in_strsT {y : OV} {xs : List Str} {n : Str} (h : dat F T y = some (.tup (xs.map .str))) : inF F T (.e (.p (.str n))) y = some (.o (.e (.p (.bl (decide (n ∈ xs)))))) := by
  rw [(in_sq (u := .str n) rfl rfl svl_str h).1, inV_strs]
theorem ni_strsT {y : OV} {xs : List Str} {n : Str} (h : dat F T y = some (.tup (xs.map .str))) : niF F T (.e (.p (.str n))) y = some (.o (.e (.p (.bl (!decide (n ∈ xs)))))) := by
  rw [(in_sq (u := .str n) rfl rfl svl_str h).2, inV_strs]
@[simp] theorem in_bls3 {a b c d : Bool} : inF F T (.e (.p (.bl a))) (.e (.p (.lst [.bl b, .bl c, .bl d]))) = some (.o (.e (.p (.bl (decide (a = b ∨ a = c ∨ a = d)))))) := by
  rw [(in_sq (u := .bl a) (us := [.bl b, .bl c, .bl d]) (b := .lst [.bl b, .bl c, .bl d]) rfl rfl rfl rfl).1]
  cases a <;> cases b <;> cases c <;> cases d <;> rfl
@[simp] theorem in_bls2 {a b c : Bool} : inF F T (.e (.p (.bl a))) (.e (.p (.lst [.bl b, .bl c]))) = some (.o (.e (.p (.bl (decide (a = b ∨ a = c)))))) := by
  rw [(in_sq (u := .bl a) (us := [.bl b, .bl c]) (b := .lst [.bl b, .bl c]) rfl rfl rfl rfl).1]
  cases a <;> cases b <;> cases c <;> rfl
theorem kget_one {n : Int} : ∀ {xs : List Int} {g : Int → D}, (kget (xs.map fun x => ((Sum.inl x : Key), g x)) (.inl n)).isSome = decide (n ∈ xs)
  | [], g => rfl
  | x :: r, g => by
    have ih := kget_one (n := n) (xs := r) (g := g)
    unfold kget at ih ⊢
    rw [List.map_cons, List.find?_cons]
    by_cases h : x = n
    · simp [h]
    · have h' : ¬ n = x := fun z => h z.symm
      simp only [Sum.inl.injEq, h, decide_false]
      rw [ih]
      simp [h']
@[simp] theorem isX_t {l : List (String × Bool)} {k : String} : tabL l k = (l.find? fun x => x.1 == k).map (·.2) := rfl
end
end Sim

set_option linter.all false
set_option maxRecDepth 100000
set_option maxHeartbeats 4000000
namespace Law
open PySem L2 Sim
theorem pick_h {many : Int} {n : Nat} {S : Sto} {r : FR} (h : f__law_pick [.loc n, .p (.int many)] S = r) {c : C} (hS : S[n]? = some c) (hc : isBag c) (h0 : 0 < many) (h1 : many < 1073741824) : ∃ w c', r = .ok (.e (.p (.int w))) (S.set n c') ∧ isBag c' ∧ 0 ≤ w ∧ w < many := by
  obtain ⟨w, c', e, h2⟩ := pick_c hS hc many h0 h1
  exact ⟨w, c', by rw [← h, e], h2⟩
/-- a draw below n is one of the n -/
theorem lit_at {α : Type} {l : List α} {w : Int} (h0 : 0 ≤ w) (h1 : w < l.length) : ∃ x ∈ l, l[w.toNat]? = some x := by
  have : w.toNat < l.length := by omega
  exact ⟨l[w.toNat], List.getElem_mem this, List.getElem?_eq_getElem this⟩
theorem rng_len {lo : Int} {n : Nat} : (rngE lo n).length = n := by simp [rngE]
theorem pw_snoc {α : Type} {R : α → α → Prop} {xs : List α} {x : α} (h : xs.Pairwise R) (h2 : ∀ y ∈ xs, R y x) : (xs ++ [x]).Pairwise R := by
  rw [List.pairwise_append]
  exact ⟨h, List.pairwise_singleton _ _, fun a ha b hb => by rw [List.mem_singleton.mp hb]; exact h2 a ha⟩
theorem numbers_h {c : C} {R : Sto} {r : FR} {many : Nat} (hm : many ≤ 60) (b_c : isBag c) (h : f__law_numbers [.loc 0, .p (.int many)] (c :: R) = r) : ∃ (c' : C) (ns : List Int), isBag c' ∧ r = .ok (.fr (.lst (ns.map D.int))) (c' :: R) ∧ ns.length = many ∧ ns.Pairwise (· < ·) ∧ ∀ n ∈ ns, 1 ≤ n ∧ n ≤ 840 := by
  simp [f__law_numbers, mfOf_ev, m__law_numbers, s__law_numbers_1, s__law_numbers_2, s__law_numbers_3, s__law_numbers_4, s__law_numbers_5] at h
  generalize hp_w : f__law_pick _ _ = rp_w at h
  obtain ⟨w, c1, hq_w, b_c1, w_0, w_1⟩ := pick_h hp_w rfl b_c (by omega) (by omega)
  rw [hq_w] at h
  clear hp_w hq_w
  simp [w_0] at h
  obtain ⟨n0, k0, e0⟩ := lit_at (l := [D.int 0, D.int 0, D.int 0, D.int 7, D.int 95, D.int 600]) w_0 w_1
  obtain ⟨i0, rfl, i1, i2⟩ : ∃ i : Int, n0 = .int i ∧ 0 ≤ i ∧ i ≤ 600 := by simp at k0; rcases k0 with rfl | rfl | rfl | rfl <;> exact ⟨_, rfl, by decide, by decide⟩
  simp [e0] at h
  generalize hp_v : f__law_pick _ _ = rp_v at h
  obtain ⟨v, c2, hq_v, b_c2, v_0, v_1⟩ := pick_h hp_v rfl b_c1 (by omega) (by omega)
  rw [hq_v] at h
  clear hp_v hq_v
  simp [v_0] at h
  obtain ⟨g0, l0, f0⟩ := lit_at (l := [D.int 1, D.int 1, D.int 2, D.int 4]) v_0 v_1
  obtain ⟨gap, rfl, g1, g2⟩ : ∃ i : Int, g0 = .int i ∧ 1 ≤ i ∧ i ≤ 4 := by simp at l0; rcases l0 with rfl | rfl | rfl <;> exact ⟨_, rfl, by decide, by decide⟩
  simp [f0, r1K_nat (show many ≤ 16777216 by omega)] at h
  generalize hl : forE _ _ _ _ _ = rl at h
  obtain ⟨F', T', el, c3, ns, num, k, b_c3, rfl, rfl, hlen, hpw, hin, hnum, hn0⟩ := for_h hl (fun es F T => ∃ (c : C) (ns : List Int) (num : Int) (k : Sim.S), isBag c ∧ T = c :: R ∧ F = [.e (.loc 0), .e (.p (.int many)), .e (.p (.int num)), .e (.p (.int gap)), .o (.lst (ns.map D.int)), k] ∧ ns.length + es.length = many ∧ ns.Pairwise (· < ·) ∧ (∀ n ∈ ns, 1 ≤ n ∧ n ≤ num) ∧ num ≤ 600 + 4 * ns.length ∧ 0 ≤ num)
    ⟨c2, [], i0, .u, b_c2, rfl, rfl, by simp [rng_len], .nil, by simp, by simpa using i2, i1⟩ (by
      rintro x rest F T ⟨c, ns, num, k, b_c, rfl, rfl, hlen, hpw, hin, hnum, hn0⟩
      refine ⟨_, rfl, fun r h => ?_⟩
      simp [b__law_numbers_1] at h
      generalize hp_w : f__law_pick _ _ = rp_w at h
      obtain ⟨w, c1, hq_w, b_c1, w_0, w_1⟩ := pick_h hp_w rfl b_c (by omega) (by omega)
      rw [hq_w] at h
      clear hp_w hq_w
      rw [List.length_cons] at hlen
      simp [show ns.length < 16777216 by omega] at h
      subst h
      refine ⟨_, _, .inl rfl, c1, ns ++ [num + 1 + w], num + 1 + w, .e x, b_c1, rfl, by simp, by simp; omega, pw_snoc hpw fun y hy => ?_, fun n hn => ?_, by simp; omega, by omega⟩
      · have := hin y hy; omega
      · rcases List.mem_append.mp hn with hn | hn
        · have := hin n hn; omega
        · rw [List.mem_singleton.mp hn]; omega)
  simp [el] at h hlen
  exact ⟨c3, ns, b_c3, h.symm, hlen, hpw, fun n hn => by have := hin n hn; omega⟩
end Law

set_option linter.all false
set_option maxRecDepth 100000
set_option maxHeartbeats 4000000
namespace Law
open PySem L2 Sim
/-! ### merging and sorting, of anything that has an order -/
section
variable {α : Type} (lt : α → α → Bool)
def mrg : List α → List α → List α
  | [], r => r
  | a :: l, [] => a :: l
  | a :: l, b :: r => if lt b a = true then b :: mrg (a :: l) r else a :: mrg l (b :: r)
termination_by l r => l.length + r.length
theorem mrg_r {l : List α} : mrg lt l [] = l := by cases l <;> simp [mrg]
theorem mrg_l {r : List α} : mrg lt [] r = r := by simp [mrg]
theorem mrg_cc {a b : α} {l r : List α} : mrg lt (a :: l) (b :: r) = if lt b a = true then b :: mrg lt (a :: l) r else a :: mrg lt l (b :: r) := by rw [mrg]
theorem mrg_perm : ∀ {l r : List α}, (mrg lt l r).Perm (l ++ r)
  | [], r => by rw [mrg_l]; exact List.Perm.refl _
  | a :: l, [] => by rw [mrg_r]; simp
  | a :: l, b :: r => by
    unfold mrg
    split
    · exact ((mrg_perm (l := a :: l) (r := r)).cons b).trans List.perm_middle.symm
    · exact (mrg_perm (l := l) (r := b :: r)).cons a
termination_by l r => l.length + r.length
/-- no later one is less than an earlier one -/
def Asc (l : List α) : Prop := l.Pairwise fun a b => lt b a = false
theorem mrg_asc (tr : ∀ a b c, lt b a = false → lt c b = false → lt c a = false) (as : ∀ a b, lt b a = true → lt a b = false) : ∀ {l r : List α}, Asc lt l → Asc lt r → Asc lt (mrg lt l r)
  | [], r, _, h => by rw [mrg_l]; exact h
  | a :: l, [], h, _ => by rw [mrg_r]; exact h
  | a :: l, b :: r, h, k => by
    unfold mrg
    have h' := List.pairwise_cons.mp h
    have k' := List.pairwise_cons.mp k
    split
    · rename_i e
      refine List.pairwise_cons.mpr ⟨fun x hx => ?_, mrg_asc tr as h k'.2⟩
      rcases List.mem_append.mp ((mrg_perm lt).mem_iff.mp hx) with hx | hx
      · rcases List.mem_cons.mp hx with rfl | hx
        · exact as _ _ e
        · exact tr b a x (as _ _ e) (h'.1 x hx)
      · exact k'.1 x hx
    · rename_i e
      have e' : lt b a = false := by simpa using e
      refine List.pairwise_cons.mpr ⟨fun x hx => ?_, mrg_asc tr as h'.2 k⟩
      rcases List.mem_append.mp ((mrg_perm lt).mem_iff.mp hx) with hx | hx
      · exact h'.1 x hx
      · rcases List.mem_cons.mp hx with rfl | hx
        · exact e'
        · exact tr a b x e' (k'.1 x hx)
termination_by l r => l.length + r.length
def pairUp : List (List α) → List (List α)
  | [] => []
  | [a] => [a]
  | a :: b :: r => mrg lt a b :: pairUp r
theorem pairUp_len : ∀ {rows : List (List α)}, (pairUp lt rows).length = (rows.length + 1) / 2
  | [] => by simp [pairUp]
  | [a] => by simp [pairUp]
  | a :: b :: r => by
    unfold pairUp
    rw [List.length_cons, pairUp_len (rows := r), List.length_cons, List.length_cons]
    omega
theorem pairUp_perm : ∀ {rows : List (List α)}, ((pairUp lt rows).flatten).Perm rows.flatten
  | [] => List.Perm.refl _
  | [a] => List.Perm.refl _
  | a :: b :: r => by
    unfold pairUp
    simp only [List.flatten_cons]
    rw [← List.append_assoc]
    exact (mrg_perm lt).append (pairUp_perm (rows := r))
theorem pairUp_all {P : List α → Prop} (hm : ∀ a b, P a → P b → P (mrg lt a b)) : ∀ {rows : List (List α)}, (∀ x ∈ rows, P x) → ∀ x ∈ pairUp lt rows, P x
  | [], _ => by simp [pairUp]
  | [a], h => h
  | a :: b :: r, h => by
    intro x hx
    unfold pairUp at hx
    rcases List.mem_cons.mp hx with rfl | hx
    · exact hm a b (h a (by simp)) (h b (by simp))
    · exact pairUp_all hm (rows := r) (fun y hy => h y (by simp [hy])) x hx
def allUp (rows : List (List α)) : List (List α) := if rows.length ≤ 1 then rows else allUp (pairUp lt rows)
termination_by rows.length
decreasing_by rw [pairUp_len]; omega
theorem allUp_perm (rows : List (List α)) : ((allUp lt rows).flatten).Perm rows.flatten := by
  unfold allUp
  split
  · exact List.Perm.refl _
  · exact (allUp_perm (pairUp lt rows)).trans (pairUp_perm lt)
termination_by rows.length
decreasing_by rw [pairUp_len]; omega
theorem allUp_all {P : List α → Prop} (hm : ∀ a b, P a → P b → P (mrg lt a b)) (rows : List (List α)) (h : ∀ x ∈ rows, P x) : ∀ x ∈ allUp lt rows, P x := by
  unfold allUp
  split
  · exact h
  · exact allUp_all hm (pairUp lt rows) (pairUp_all lt hm h)
termination_by rows.length
decreasing_by rw [pairUp_len]; omega
theorem allUp_len (rows : List (List α)) : (allUp lt rows).length ≤ 1 := by
  unfold allUp
  split
  · assumption
  · exact allUp_len (pairUp lt rows)
termination_by rows.length
decreasing_by rw [pairUp_len]; omega
/-- in ascending order -/
def asc (xs : List α) : List α := (allUp lt (xs.map fun x => [x])).flatten
theorem flat_one : ∀ {xs : List α}, (xs.map fun x => [x]).flatten = xs
  | [] => rfl
  | x :: r => by rw [List.map_cons, List.flatten_cons, flat_one]; rfl
theorem asc_perm {xs : List α} : (asc lt xs).Perm xs := by
  have := allUp_perm lt (xs.map fun x => [x])
  rw [flat_one] at this
  exact this
theorem asc_asc (tr : ∀ a b c, lt b a = false → lt c b = false → lt c a = false) (as : ∀ a b, lt b a = true → lt a b = false) {xs : List α} : Asc lt (asc lt xs) := by
  have h := allUp_all lt (P := Asc lt) (fun a b => mrg_asc lt tr as) (xs.map fun x => [x]) (by
    intro x hx
    obtain ⟨y, _, rfl⟩ := List.mem_map.mp hx
    exact List.pairwise_singleton _ _)
  have l := allUp_len lt (xs.map fun x => [x])
  unfold asc
  match hq : allUp lt (xs.map fun x => [x]), l with
  | [], _ => exact .nil
  | [a], _ => rw [hq] at h; simpa using h a (by simp)
end
section
variable {α : Type} {enc : α → D} {lt : α → α → Bool}
theorem merged_h (hlt : ∀ F T a b, orF (orF ltI ltS) ltP F T (.e (.p (enc a))) (.e (.p (enc b))) = some (.o (.e (.p (.bl (lt a b)))))) {xs ys : List α} (hl : xs.length + ys.length ≤ 1000000) {S : Sto} {r : FR} (h : f_merged [.p (.lst (xs.map enc)), .p (.lst (ys.map enc))] S = r) :
    r = .ok (.fr (.lst ((mrg lt xs ys).map enc))) S := by
  simp [f_merged, mfOf_ev, m_merged, s_merged_1, s_merged_2, s_merged_3, s_merged_4, s_merged_5] at h
  generalize hw : sWhile _ _ _ _ = rw at h
  obtain ⟨F', T', e, i, j, fnd, rfl, rfl, hi, hj, hf, hq⟩ := while_h hw (fun n F T => ∃ (i j : Nat) (fnd : List α), F = [.e (.p (.lst (xs.map enc))), .e (.p (.lst (ys.map enc))), .o (.lst (fnd.map enc)), .e (.p (.int i)), .e (.p (.int j))] ∧ T = S ∧ i ≤ xs.length ∧ j ≤ ys.length ∧ fnd ++ mrg lt (xs.drop i) (ys.drop j) = mrg lt xs ys ∧ n = (xs.length - i) + (ys.length - j) ∧ fnd.length = i + j)
    (fun F T => ∃ (i j : Nat) (fnd : List α), F = [.e (.p (.lst (xs.map enc))), .e (.p (.lst (ys.map enc))), .o (.lst (fnd.map enc)), .e (.p (.int i)), .e (.p (.int j))] ∧ T = S ∧ i ≤ xs.length ∧ j ≤ ys.length ∧ (fnd ++ xs.drop i) ++ ys.drop j = mrg lt xs ys ∧ fnd.length ≤ 1000000)
    (n := xs.length + ys.length) ⟨0, 0, [], rfl, rfl, Nat.zero_le _, Nat.zero_le _, by simp, by simp, rfl⟩ (by
      rintro n F T ⟨i, j, fnd, rfl, rfl, hi, hj, hf, hn, hfl⟩ rt ht
      simp [b_merged_1] at ht
      by_cases h1 : i < xs.length
      · by_cases h2 : j < ys.length
        · simp [h1, h2] at ht
          refine ⟨true, _, _, ht.symm, (by intro z; cases z), fun _ rb hb => ?_⟩
          have ex : xs.drop i = xs[i] :: xs.drop (i + 1) := List.drop_eq_getElem_cons h1
          have ey : ys.drop j = ys[j] :: ys.drop (j + 1) := List.drop_eq_getElem_cons h2
          have gx : xs[i]? = some xs[i] := List.getElem?_eq_getElem h1
          have gy : ys[j]? = some ys[j] := List.getElem?_eq_getElem h2
          have c1 : fnd.length < 16777216 := by omega
          rw [ex, ey] at hf
          generalize xs[i] = x at *
          generalize ys[j] = y at *
          simp [b_merged_2, gx, gy, hlt] at hb
          rw [mrg_cc] at hf
          by_cases hc : lt y x = true
          · simp [hc, c1] at hb hf
            refine ⟨_, _, _, .inl hb.symm, ?_, i, j + 1, fnd ++ [y], by simp, rfl, hi, by omega, by rw [ex]; simpa using hf, rfl, by simp; omega⟩
            omega
          · simp [hc, c1] at hb hf
            refine ⟨_, _, _, .inl hb.symm, ?_, i + 1, j, fnd ++ [x], by simp, rfl, by omega, hj, by rw [ey]; simpa using hf, rfl, by simp; omega⟩
            omega
        · simp [h1, h2] at ht
          refine ⟨false, _, _, ht.symm, fun _ => ⟨i, j, fnd, rfl, rfl, hi, hj, ?_, by omega⟩, (by intro z; cases z)⟩
          have : ys.drop j = [] := List.drop_of_length_le (by omega)
          rw [this, mrg_r] at hf
          rw [this, List.append_nil]
          exact hf
      · simp [h1] at ht
        refine ⟨false, _, _, ht.symm, fun _ => ⟨i, j, fnd, rfl, rfl, hi, hj, ?_, by omega⟩, (by intro z; cases z)⟩
        have : xs.drop i = [] := List.drop_of_length_le (by omega)
        rw [this, mrg_l] at hf
        rw [this, List.append_nil]
        exact hf)
  have e1 : fnd.length + (xs.length - i) ≤ 16777216 := by omega
  have e2 : fnd.length + (xs.length - i) + (ys.length - j) ≤ 16777216 := by omega
  simp [e, e1, e2] at h
  rw [← h, ← hf]
  simp
theorem enc_rows {rows : List (List α)} : rows.map (fun row => D.lst (row.map enc)) = rows.map (D.lst ∘ List.map enc) := rfl
theorem small_2 {n : Nat} (h : n ≤ 1000000) : r3ok 0 ((n : Int) - 1) 2 = true ∧ Builtin.Range.rangeSize 0 ((n : Int) - 1) 2 = ((n / 2 : Nat) : Int) := by
  have e : Builtin.Range.rangeSize 0 ((n : Int) - 1) 2 = ((n / 2 : Nat) : Int) := by
    unfold Builtin.Range.rangeSize
    rw [if_pos (by decide)]
    split <;> omega
  refine ⟨?_, e⟩
  unfold r3ok
  have sm : Builtin.Range.small 0 ((n : Int) - 1) 2 = true := by
    unfold Builtin.Range.small
    rw [e]
    simp [Builtin.Range.rangeFitsLong]
    omega
  rw [sm, e]
  simp
  omega
theorem row_le {β : Type} : ∀ {rows : List (List β)} {row : List β}, row ∈ rows → row.length ≤ rows.flatten.length
  | a :: r, row, h => by
    rw [List.flatten_cons, List.length_append]
    rcases List.mem_cons.mp h with rfl | h
    · omega
    · have := row_le h
      omega
theorem ascending_h (hlt : ∀ F T a b, orF (orF ltI ltS) ltP F T (.e (.p (enc a))) (.e (.p (enc b))) = some (.o (.e (.p (.bl (lt a b)))))) {xs : List α} (hl : xs.length ≤ 500000) {S : Sto} {r : FR} (h : f_ascending [.p (.lst (xs.map enc))] S = r) :
    ∃ v, r = .ok v S ∧ fzV v = some (.lst ((asc lt xs).map enc)) := by
  simp [f_ascending, mfOf_ev, m_ascending, s_ascending_1, s_ascending_2, s_ascending_3, s_ascending_4] at h
  generalize hc : lcE _ _ _ _ _ _ _ _ = rc at h
  have hc' := lca_h (f := E.p ∘ enc) (xs := xs) hc (fun x => .lst [enc x]) (by omega) (fun x _ => ⟨_, rfl, rfl, by simp [b_ascending_1], rfl⟩)
  simp [hc'] at h
  generalize hw : sWhile _ _ _ _ = rw at h
  obtain ⟨F', T', e, rows, z2, z3, z4, rfl, rfl, h1, h2⟩ := while_h hw (fun n F T => ∃ (rows : List (List α)) (z2 z3 z4 : Sim.S), F = [.e (.p (.lst (xs.map enc))), .e (.p (.lst (rows.map fun row => .lst (row.map enc)))), z2, z3, z4] ∧ T = S ∧ allUp lt rows = allUp lt (xs.map fun x => [x]) ∧ rows.flatten.length = xs.length ∧ rows.length = n ∧ n ≤ 500000)
    (fun F T => ∃ (rows : List (List α)) (z2 z3 z4 : Sim.S), F = [.e (.p (.lst (xs.map enc))), .e (.p (.lst (rows.map fun row => .lst (row.map enc)))), z2, z3, z4] ∧ T = S ∧ rows.length ≤ 1 ∧ rows = allUp lt (xs.map fun x => [x]))
    (n := xs.length) ⟨xs.map fun x => [x], .u, .u, .u, by simp [Function.comp_def], rfl, rfl, by rw [flat_one], by simp, hl⟩ (by
      rintro n F T ⟨rows, z2, z3, z4, rfl, rfl, hu, hfl, rfl, hn⟩ rt ht
      simp [b_ascending_3] at ht
      by_cases h1 : (1 : Int) < rows.length
      · refine ⟨true, _, _, by rw [← ht, decide_eq_true h1], (by intro z; cases z), fun _ rb hb => ?_⟩
        simp [b_ascending_4] at hb
        obtain ⟨k1, k2⟩ := small_2 (n := rows.length) (by omega)
        unfold r3K at hb
        simp only [k1, if_true] at hb
        rw [k2] at hb
        simp at hb
        generalize hf : forE _ _ _ _ _ = rf at hb
        obtain ⟨F', T', e, k, fnd, y, rfl, rfl, hes, hk, hp, hfk⟩ := for_h hf (fun es F T' => ∃ (k : Nat) (fnd : List (List α)) (y : Sim.S), F = [.e (.p (.lst (xs.map enc))), .e (.p (.lst (rows.map fun row => .lst (row.map enc)))), z2, .o (.lst (fnd.map fun row => .lst (row.map enc))), y] ∧ T' = T ∧ es = (rng3E 0 2 (rows.length / 2)).drop k ∧ k ≤ rows.length / 2 ∧ fnd ++ pairUp lt (rows.drop (2 * k)) = pairUp lt rows ∧ fnd.length = k)
          ⟨0, [], z4, rfl, rfl, rfl, Nat.zero_le _, rfl, rfl⟩ (by
            rintro x rest F T' ⟨k, fnd, y, rfl, rfl, hes, hk, hp, hfk⟩
            obtain ⟨q1, rfl, q2⟩ := rng3E_drop hes
            refine ⟨_, rfl, fun r hr => ?_⟩
            have u1 : 2 * k < rows.length := by omega
            have u2 : 2 * k + 1 < rows.length := by omega
            have g1 : rows[2 * k]? = some rows[2 * k] := List.getElem?_eq_getElem u1
            have g2 : rows[2 * k + 1]? = some rows[2 * k + 1] := List.getElem?_eq_getElem u2
            rw [List.drop_eq_getElem_cons u1, List.drop_eq_getElem_cons u2] at hp
            have m1 := row_le (List.getElem_mem u1)
            have m2 := row_le (List.getElem_mem u2)
            have t1 : (0 + (k : Int) * 2).toNat = 2 * k := by omega
            have t2 : (0 + (k : Int) * 2 + 1).toNat = 2 * k + 1 := by omega
            have n1 : 0 ≤ 0 + (k : Int) * 2 := by omega
            have n2 : 0 ≤ 0 + (k : Int) * 2 + 1 := by omega
            generalize rows[2 * k] = a at *
            generalize rows[2 * k + 1] = b at *
            generalize 0 + (k : Int) * 2 = w at *
            simp [b_ascending_2, n1, n2, t1, t2, g1, g2] at hr
            generalize hm : f_merged _ _ = rm at hr
            have hm' := merged_h hlt (by omega) hm
            simp [hm', show fnd.length < 16777216 by omega] at hr
            exact ⟨_, _, .inl hr.symm, k + 1, fnd ++ [mrg lt a b], _, by simp; rfl, rfl, q2, by omega, by rw [← hp, show 2 * (k + 1) = 2 * k + 1 + 1 by omega]; simp [pairUp], by simp [hfk]⟩)
        simp [e] at hb
        have hk2 := rng3E_end hes
        simp [PyProof.Rows.bitAnd_m1] at hb
        have up : allUp lt (pairUp lt rows) = allUp lt rows := by
          conv => rhs; unfold allUp
          rw [if_neg (by omega)]
        have pl := pairUp_len lt (rows := rows)
        have pf := (pairUp_perm lt (rows := rows)).length_eq
        by_cases par : (rows.length : Int) % 2 = 1
        · have lk : 2 * k + 1 = rows.length := by omega
          have ul : 2 * k < rows.length := by omega
          have gl : rows.getLast? = some rows[2 * k] := by
            rw [List.getLast?_eq_getElem?, show rows.length - 1 = 2 * k by omega]
            exact List.getElem?_eq_getElem ul
          rw [List.drop_eq_getElem_cons ul, List.drop_of_length_le (by omega)] at hp
          simp [par, gl, show fnd.length < 16777216 by omega] at hb
          refine ⟨_, _, (pairUp lt rows).length, .inl hb.symm, by omega, pairUp lt rows, _, _, _, by rw [← hp]; simp [pairUp]; exact ⟨rfl, rfl, rfl⟩, rfl, up.trans hu, by omega, rfl, by omega⟩
        · rw [List.drop_of_length_le (by omega)] at hp
          simp [par] at hb
          refine ⟨_, _, (pairUp lt rows).length, .inl hb.symm, by omega, pairUp lt rows, _, _, _, by rw [← hp]; simp [pairUp]; exact ⟨rfl, rfl, rfl⟩, rfl, up.trans hu, by omega, rfl, by omega⟩
      · refine ⟨false, _, _, by rw [← ht, decide_eq_false h1], fun _ => ⟨rows, z2, z3, z4, rfl, rfl, by omega, ?_⟩, (by intro z; cases z)⟩
        rw [← hu]
        unfold allUp
        rw [if_pos (by omega)])
  · simp [e] at h
    have hq : asc lt xs = rows.flatten := by unfold asc; rw [← h2]
    rw [hq]
    match rows, h1 with
    | [], _ =>
      simp [f_ascending, mfOf_ev, m_ascending, s_ascending_1, s_ascending_2, s_ascending_3, s_ascending_4] at h
      exact ⟨_, h.symm, by simp [fzV]⟩
    | [a], _ =>
      simp [f_ascending, mfOf_ev, m_ascending, s_ascending_1, s_ascending_2, s_ascending_3, s_ascending_4] at h
      exact ⟨_, h.symm, by simp [fzV]⟩
end
end Law

set_option linter.all false
set_option maxRecDepth 100000
set_option maxHeartbeats 4000000
namespace Law
open PySem L2 Sim
theorem is_number_eq {a l h : Int} {S : Sto} : f_is_number [.p (.int a), .p (.int l), .p (.int h)] S = .ok (.e (.p (.bl (decide (l ≤ a) && decide (a ≤ h))))) S := by
  by_cases h1 : l ≤ a <;> simp [f_is_number, mfOf_ev, m_is_number, s_is_number_1, isiF, tagW, isB, h1]
def letB (c : Nat) : Bool := decide (97 ≤ c ∧ c < 123)
def nameB (s : Str) : Bool := decide (1 ≤ s.length) && decide (s.length ≤ 8) && s.cps.toList.all letB
theorem in_ltr {c : Nat} : decide (c ∈ (Str.ofString "abcdefghijklmnopqrstuvwxyz").cps.toList) = letB c := by
  have e : (Str.ofString "abcdefghijklmnopqrstuvwxyz").cps.toList = ltr.cps.toList := rfl
  rw [e, ltr_list]
  unfold letB
  rw [Bool.eq_iff_iff, decide_eq_true_iff, decide_eq_true_iff, List.mem_map]
  constructor
  · rintro ⟨i, h, rfl⟩
    have := List.mem_range.mp h
    omega
  · intro h
    exact ⟨c - 97, List.mem_range.mpr (by omega), by omega⟩
theorem ni_ltr {c : Nat} {F : Fr} {T : Sto} : niF F T (.e (.p (.str ⟨#[c]⟩))) (.e (.p (.str (Str.ofString "abcdefghijklmnopqrstuvwxyz")))) = some (.o (.e (.p (.bl (!letB c))))) := by
  have h1 : ∀ a : D, pymem a (.str (Str.ofString "abcdefghijklmnopqrstuvwxyz")) = none := by
    intro a
    unfold pymem
    split
    · rename_i h1 h2
      simp [D.py] at h2
    · rfl
  rw [← in_ltr]
  simp [niF, orF, bF, dat, smem, sv, seqD, h1, dniF, dkF, look, dvw, dkey, sgF]
theorem is_name_eq {s : Str} (hs : s.length ≤ 1000) {S : Sto} : f_is_name [.p (.str s)] S = .ok (.e (.p (.bl (nameB s)))) S := by
  generalize h : f_is_name _ _ = r
  have l0 : s.length ≤ 16777216 := by omega
  simp [f_is_name, mfOf_ev, m_is_name, s_is_name_1, s_is_name_2, s_is_name_3, isiF, tagW, isB, l0] at h
  unfold nameB
  by_cases h1 : (1 : Int) ≤ (s.length : Int)
  · by_cases h2 : (s.length : Int) ≤ 8
    · simp [h1, h2] at h
      generalize hl : forE _ _ _ _ _ = rl at h
      have key := forg_h hl (fun es F T => ∃ (done rest : List Nat) (y : Sim.S), es = rest.map (fun c => E.p (.str ⟨#[c]⟩)) ∧ done ++ rest = s.cps.toList ∧ done.all letB = true ∧ F = [.e (.p (.str s)), y] ∧ T = S)
        (fun r => (s.cps.toList.all letB = true ∧ ∃ F, r = .nx F S) ∨ (s.cps.toList.all letB = false ∧ ∃ F, r = .rt (.o (.e (.p (.bl false)))) F S))
        ⟨[], s.cps.toList, .u, rfl, rfl, rfl, rfl, rfl⟩ (by
          rintro x rest F T ⟨done, rest', y, he, hd, ha, rfl, rfl⟩
          cases rest' with
          | nil => cases he
          | cons c q =>
            rw [List.map_cons] at he
            obtain ⟨rfl, rfl⟩ := List.cons.inj he
            refine ⟨_, rfl, fun r hr => ?_⟩
            simp [b_is_name_1, ni_ltr] at hr
            cases hc : letB c with
            | true =>
              simp [hc] at hr
              exact .inl ⟨_, _, .inl hr.symm, done ++ [c], q, _, rfl, by simpa using hd, by simp [ha, hc], rfl, rfl⟩
            | false =>
              simp [hc] at hr
              exact .inr (.inr (.inl ⟨_, _, _, hr.symm, .inr ⟨by rw [← hd]; simp [hc], _, rfl⟩⟩)))
        (by
          rintro F T ⟨done, rest, y, he, hd, ha, rfl, rfl⟩
          have : rest = [] := by simpa using he.symm
          subst this
          rw [List.append_nil] at hd
          subst hd
          exact .inl ⟨ha, _, rfl⟩)
      rcases key with ⟨k1, F, rfl⟩ | ⟨k1, F, rfl⟩
      · simp [f_is_name, mfOf_ev, m_is_name, s_is_name_1, s_is_name_2, s_is_name_3] at h
        rw [← h, k1]
        simp
        omega
      · simp [f_is_name, mfOf_ev, m_is_name, s_is_name_1, s_is_name_2, s_is_name_3] at h
        rw [← h, k1]
        simp
    · simp [h1, h2] at h
      rw [← h]
      simp
      omega
  · simp [h1] at h
    rw [← h]
    simp
    omega
/-! ### entries -/
inductive Ent where
  | v (n m : Int)
  | t (n : Int) (w : Bool) (d : Int) (x : Str)
deriving DecidableEq
def Ent.n : Ent → Int
  | .v n _ => n
  | .t n _ _ _ => n
def wordW (w : Bool) : Str := if w then "rule" else "sign"
def entD : Ent → D
  | .v n m => .tup [.int n, .str "void", .int m]
  | .t n w d x => .tup [.int n, .str (wordW w), .int d, .str x]
def okEnt : Ent → Prop
  | .v n m => 1 ≤ n ∧ n ≤ 999 ∧ 1 ≤ m ∧ m ≤ n - 1
  | .t n w d x => 1 ≤ n ∧ n ≤ 999 ∧ 0 ≤ d ∧ d ≤ 59 ∧ nameB x = true
theorem is_entry_eq {e : Ent} (he : okEnt e) {S : Sto} : f_is_entry [.p (entD e)] S = .ok (.e (.p (.bl true))) S := by
  generalize h : f_is_entry _ _ = r
  cases e with
  | v n m =>
    obtain ⟨h1, h2, h3, h4⟩ := he
    simp [f_is_entry, mfOf_ev, m_is_entry, s_is_entry_1, s_is_entry_2, s_is_entry_3, s_is_entry_4, s_is_entry_5, isiF, tagW, isB, entD, is_number_eq, h1, h2, h3, h4] at h
    exact h.symm
  | t n w d x =>
    obtain ⟨h1, h2, h3, h4, h5⟩ := he
    have hx : x.length ≤ 1000 := by
      unfold nameB at h5
      simp at h5
      omega
    cases w <;> simp [f_is_entry, mfOf_ev, m_is_entry, s_is_entry_1, s_is_entry_2, s_is_entry_3, s_is_entry_4, s_is_entry_5, isiF, tagW, isB, entD, is_number_eq, h1, h2, h3, h4, h5, is_name_eq hx, wordW] at h <;> exact h.symm
end Law

set_option linter.all false
set_option maxRecDepth 100000
set_option maxHeartbeats 4000000
namespace Law
open PySem L2 Sim
/-! ### equality of data of one kind -/
theorem bd {α : Type} [BEq α] [LawfulBEq α] [DecidableEq α] {a b : α} : (a == b) = decide (a = b) := by rw [Bool.eq_iff_iff]; simp
structure EqE {α : Type} [DecidableEq α] (ok : α → Prop) (enc : α → D) (k : Nat) : Prop where
  ex : ∃ py : α → PyData, (∀ a, ok a → (enc a).py = some (py a) ∧ (py a).canLay0 = true ∧ (py a).depth ≤ k) ∧ ∀ a b, ok a → ok b → PyData.eqv (py a) (py b) = decide (a = b)
section
variable {α : Type} [DecidableEq α] {ok : α → Prop} {enc : α → D} {k : Nat} {F : Fr} {T : Sto} {a b : α}
theorem EqE.py (h : EqE ok enc k) (hk : k ≤ 64) (ha : ok a) (hb : ok b) : pyeq (enc a) (enc b) = some (decide (a = b)) := by
  obtain ⟨py, h1, h2⟩ := h.ex
  obtain ⟨a1, a2, a3⟩ := h1 a ha
  obtain ⟨b1, b2, b3⟩ := h1 b hb
  unfold pyeq
  rw [a1, b1]
  have s1 : SeqAt.shaped (py a) = true := by unfold SeqAt.shaped; rw [a2]; simp; omega
  have s2 : SeqAt.shaped (py b) = true := by unfold SeqAt.shaped; rw [b2]; simp; omega
  simp only [s1, s2, and_self, if_true, h2 a b ha hb]
theorem EqE.eq (h : EqE ok enc k) (hk : k ≤ 64) (ha : ok a) (hb : ok b) {x y : OV} (hs : sceq (enc a) (enc b) = none) (hx : dat F T x = some (enc a)) (hy : dat F T y = some (enc b)) : orF eqF (dicF true) F T x y = some (.o (.e (.p (.bl (decide (a = b)))))) := eq_dd hx hy (by rw [hs, eqK_n, h.py hk ha hb])
theorem EqE.ne (h : EqE ok enc k) (hk : k ≤ 64) (ha : ok a) (hb : ok b) {x y : OV} (hs : sceq (enc a) (enc b) = none) (hx : dat F T x = some (enc a)) (hy : dat F T y = some (enc b)) : orF neF (dicF false) F T x y = some (.o (.e (.p (.bl (!decide (a = b)))))) := ne_dd hx hy (by rw [hs, eqK_n, h.py hk ha hb])
theorem EqE.list (h : EqE ok enc k) : EqE (fun xs : List α => ∀ x ∈ xs, ok x) (fun xs => .lst (xs.map enc)) (k + 1) := by
  obtain ⟨py, h1, h2⟩ := h.ex
  refine ⟨fun xs => .list (xs.map py), fun xs hx => ?_, fun xs ys hx hy => ?_⟩
  · have e : pyL (xs.map enc) = some (xs.map py) ∧ PyData.canLayAll0 (xs.map py) = true ∧ PyData.depthAll (xs.map py) ≤ k := by
      induction xs with
      | nil => exact ⟨by simp [pyL], by simp [PyData.canLayAll0], by simp [PyData.depthAll]⟩
      | cons x r ih =>
        obtain ⟨a1, a2, a3⟩ := h1 x (hx x List.mem_cons_self)
        obtain ⟨b1, b2, b3⟩ := ih fun y hy => hx y (List.mem_cons_of_mem _ hy)
        refine ⟨?_, ?_, ?_⟩
        · rw [List.map_cons, pyL, a1, b1]; rfl
        · rw [List.map_cons, PyData.canLayAll0, a2, b2]; rfl
        · rw [List.map_cons, PyData.depthAll]; omega
    obtain ⟨e1, e2, e3⟩ := e
    refine ⟨by rw [D.py, e1]; rfl, by rw [PyData.canLay0]; exact e2, by rw [PyData.depth]; omega⟩
  · show PyData.eqv (.list (xs.map py)) (.list (ys.map py)) = _
    rw [PyData.eqv]
    induction xs generalizing ys with
    | nil => cases ys <;> simp [PyData.eqvAll]
    | cons x r ih =>
      cases ys with
      | nil => simp [PyData.eqvAll]
      | cons y s =>
        rw [List.map_cons, List.map_cons, PyData.eqvAll, h2 x y (hx x List.mem_cons_self) (hy y List.mem_cons_self), ih s (fun z hz => hx z (List.mem_cons_of_mem _ hz)) (fun z hz => hy z (List.mem_cons_of_mem _ hz))]
        simp
theorem EqE.tuple (h : EqE ok enc k) : EqE (fun xs : List α => ∀ x ∈ xs, ok x) (fun xs => .tup (xs.map enc)) (k + 1) := by
  obtain ⟨py, h1, h2⟩ := h.list.ex
  have key : ∀ xs : List α, (∀ x ∈ xs, ok x) → ∃ ps, py xs = .list ps ∧ pyL (xs.map enc) = some ps := by
    intro xs hx
    have := (h1 xs hx).1
    rw [D.py] at this
    cases e : pyL (xs.map enc) with
    | none => rw [e] at this; cases this
    | some ps => rw [e] at this; exact ⟨ps, (Option.some.inj this).symm, rfl⟩
  refine ⟨fun xs => match py xs with | .list ps => .tuple ps | d => d, fun xs hx => ?_, fun xs ys hx hy => ?_⟩
  · obtain ⟨ps, e1, e2⟩ := key xs hx
    obtain ⟨_, c1, c2⟩ := h1 xs hx
    rw [e1] at c1 c2
    simp only [e1]
    exact ⟨by rw [D.py, e2]; rfl, by simpa only [PyData.canLay0] using c1, by simpa only [PyData.depth] using c2⟩
  · obtain ⟨ps, e1, _⟩ := key xs hx
    obtain ⟨qs, e2, _⟩ := key ys hy
    have := h2 xs ys hx hy
    rw [e1, e2] at this
    simp only [e1, e2]
    simpa only [PyData.eqv] using this
end
theorem eqE_int : EqE (fun _ : Int => True) D.int 0 := ⟨PyData.int, fun a _ => ⟨by simp [D.py], by simp [PyData.canLay0], by simp [PyData.depth]⟩, fun a b _ _ => by simp [PyData.eqv, bd]⟩
theorem eqE_str : EqE (fun s : Str => PyData.strOk s = true) D.str 0 := ⟨PyData.str, fun a h => ⟨by simp [D.py], by simp [PyData.canLay0, h], by simp [PyData.depth]⟩, fun a b _ _ => by simp [PyData.eqv, bd]⟩
theorem nameB_ok {s : Str} (h : nameB s = true) : PyData.strOk s = true ∧ 1 ≤ s.length ∧ s.length ≤ 8 := by
  unfold nameB at h
  simp only [Bool.and_eq_true, decide_eq_true_eq] at h
  obtain ⟨⟨h1, h2⟩, h3⟩ := h
  refine ⟨?_, h1, h2⟩
  unfold PyData.strOk
  rw [← Array.all_toList, List.all_eq_true]
  intro c hc
  have := List.all_eq_true.mp h3 c hc
  unfold letB at this
  simp at this ⊢
  omega
theorem eqE_ent : EqE okEnt entD 1 := by
  refine ⟨fun e => match e with
    | .v n m => .tuple [.int n, .str "void", .int m]
    | .t n w d x => .tuple [.int n, .str (wordW w), .int d, .str x], fun e he => ?_, fun a b ha hb => ?_⟩
  · cases e with
    | v n m =>
      refine ⟨by simp [entD, D.py, pyL], ?_, by simp [PyData.depth, PyData.depthAll]⟩
      have : PyData.strOk (Str.ofString "void") = true := by decide +kernel
      simp [PyData.canLay0, PyData.canLayAll0, this]
    | t n w d x =>
      have h1 : PyData.strOk (wordW w) = true := by cases w <;> decide +kernel
      have h2 := (nameB_ok he.2.2.2.2).1
      exact ⟨by simp [entD, D.py, pyL], by simp [PyData.canLay0, PyData.canLayAll0, h1, h2], by simp [PyData.depth, PyData.depthAll]⟩
  · cases a with
    | v n m => cases b with
      | v n' m' => simp [PyData.eqv, PyData.eqvAll, Bool.and_assoc, bd]
      | t n' w d x => cases w <;> simp [PyData.eqv, PyData.eqvAll, wordW, bd]
    | t n w d x => cases b with
      | v n' m' => cases w <;> simp [PyData.eqv, PyData.eqvAll, wordW, bd]
      | t n' w' d' x' => cases w <;> cases w' <;> simp [PyData.eqv, PyData.eqvAll, wordW, bd]
theorem sceq_ent {a b : Ent} : sceq (entD a) (entD b) = none := by cases a <;> cases b <;> rfl
end Law

set_option linter.all false
set_option maxRecDepth 100000
set_option maxHeartbeats 4000000
namespace Law
open PySem L2 Sim
def kvE (e : Ent) : Key × D := (.inl e.n, entD e)
@[simp] theorem ent_ix0 {e : Ent} {F : Fr} {T : Sto} : orF ixF dgF F T (.e (.p (entD e))) (.e (.p (.int 0))) = some (.o (.e (.p (.int e.n)))) := by cases e <;> simp [entD, Ent.n]
theorem lt_ent : ∀ (F : Fr) (T : Sto) (a b : Ent), orF (orF ltI ltS) ltP F T (.e (.p (.int a.n))) (.e (.p (.int b.n))) = some (.o (.e (.p (.bl (decide (a.n < b.n)))))) := fun _ _ _ _ => lt_ii
/-- sorted by number, each number once -/
def Up (ds : List Ent) : Prop := ds.Pairwise fun a b => a.n < b.n
theorem Up.inj {ds : List Ent} (h : Up ds) {a b : Ent} (ha : a ∈ ds) (hb : b ∈ ds) (e : a.n = b.n) : a = b := by
  induction ds with
  | nil => cases ha
  | cons x r ih =>
    obtain ⟨h1, h2⟩ := List.pairwise_cons.mp h
    rcases List.mem_cons.mp ha with ea | ha' <;> rcases List.mem_cons.mp hb with eb | hb'
    · rw [ea, eb]
    · have := h1 _ hb'; rw [ea] at e; omega
    · have := h1 _ ha'; rw [eb] at e; omega
    · exact ih h2 ha' hb'
/-- each number once -/
def One (ds : List Ent) : Prop := ds.Pairwise fun a b => a.n ≠ b.n
theorem up_asc {ds : List Ent} (h : One ds) : Up (asc (fun a b : Ent => decide (a.n < b.n)) ds) := by
  have h1 := asc_asc (fun a b : Ent => decide (a.n < b.n)) (by simp; omega) (by simp; omega) (xs := ds)
  have h2 : One (asc (fun a b : Ent => decide (a.n < b.n)) ds) := (asc_perm (fun a b : Ent => decide (a.n < b.n)) (xs := ds)).symm.pairwise h fun h e => h e.symm
  exact (h1.and h2).imp fun ⟨a, b⟩ => by simp at a; omega
theorem find_n {ds : List Ent} {e : Ent} (h : ∀ a ∈ ds, a.n = e.n → a = e) (he : e ∈ ds) : ds.find? (fun a => decide (a.n = e.n)) = some e := by
  induction ds with
  | nil => cases he
  | cons x r ih =>
    rw [List.find?_cons]
    by_cases hx : x.n = e.n
    · simp only [hx, decide_true]
      rw [h x List.mem_cons_self hx]
    · simp only [hx, decide_false]
      rcases List.mem_cons.mp he with rfl | he
      · exact absurd rfl hx
      · exact ih (fun a ha => h a (List.mem_cons_of_mem _ ha)) he
theorem find_no {ds : List Ent} {n : Int} (h : ∀ a ∈ ds, a.n ≠ n) : ds.find? (fun a => decide (a.n = n)) = none := by
  rw [List.find?_eq_none]
  intro a ha
  simpa using h a ha
theorem kget_e {ds : List Ent} {n : Int} : kget (ds.map kvE) (.inl n) = (ds.find? fun a => decide (a.n = n)).map entD := kget_find (f := Ent.n) (g := entD)
theorem numbered_h {es : List Ent} (ok : ∀ e ∈ es, okEnt e) (nc : ∀ a ∈ es, ∀ b ∈ es, a.n = b.n → a = b) (hl : es.length ≤ 1000) {S : Sto} {r : FR} (h : f_numbered [.p (.lst (es.map entD))] S = r) : ∃ ds : List Ent, Up ds ∧ (∀ e, e ∈ ds ↔ e ∈ es) ∧ ds.length ≤ es.length ∧ r = .ok (.fr (.dic (ds.map kvE))) S := by
  simp [f_numbered, mfOf_ev, m_numbered, s_numbered_1, s_numbered_2, s_numbered_3, s_numbered_4, s_numbered_5, s_numbered_6, s_numbered_7] at h
  generalize hf : forE _ _ _ _ _ = rf at h
  obtain ⟨F', T', e, done, rest, ds, y3, y4, he, hd, hone, hm, hdl, rfl, rfl⟩ := for_h hf (fun xs F T => ∃ (done rest ds : List Ent) (y3 y4 : Sim.S), xs = rest.map (E.p ∘ entD) ∧ done ++ rest = es ∧ One ds ∧ (∀ e, e ∈ ds ↔ e ∈ done) ∧ ds.length ≤ done.length ∧ F = [.e (.p (.lst (es.map entD))), .o (.dic (ds.map kvE)), .e (.loc S.length), y3, y4, .u] ∧ T = S ++ [.lst []])
    ⟨[], es, [], .u, .u, rfl, rfl, .nil, by simp, by simp, rfl, rfl⟩ (by
      rintro x xs F T ⟨done, rest, ds, y3, y4, he, hd, hone, hm, hdl, rfl, rfl⟩
      cases rest with
      | nil => cases he
      | cons a q =>
        rw [List.map_cons] at he
        obtain ⟨rfl, rfl⟩ := List.cons.inj he
        refine ⟨_, rfl, fun r hr => ?_⟩
        have hae : a ∈ es := by rw [← hd]; simp
        have hlen : ds.length < 16777216 := by
          have := congrArg List.length hd
          simp at this
          omega
        by_cases hin : ∃ b ∈ ds, b.n = a.n
        · obtain ⟨b, hb, hbn⟩ := hin
          have hbe : b ∈ es := by rw [← hd]; exact List.mem_append_left _ ((hm b).mp hb)
          obtain rfl : b = a := nc b hbe a hae hbn
          have fd := find_n (ds := ds) (e := b) (fun c hc hcn => nc c (by rw [← hd]; exact List.mem_append_left _ ((hm c).mp hc)) b hae hcn) hb
          have ks : kput (ds.map kvE) (.inl b.n) (entD b) = ds.map kvE := kput_same (List.mem_map.mpr ⟨b, hb, rfl⟩) (by
            intro p hp hpk
            obtain ⟨c, hc, rfl⟩ := List.mem_map.mp hp
            have : c.n = b.n := Sum.inl.inj hpk
            rw [nc c (by rw [← hd]; exact List.mem_append_left _ ((hm c).mp hc)) b hae this]
            rfl)
          have ne := fun F T => eqE_ent.ne (F := F) (T := T) (x := .e (.p (entD b))) (y := .e (.p (entD b))) (by omega) (ok b hae) (ok b hae) sceq_ent rfl rfl
          simp [b_numbered_1, kget_e, fd, ne, hlen, ks] at hr
          exact ⟨_, _, .inl hr.symm, done ++ [b], q, ds, _, _, rfl, by simpa using hd, hone, fun e => by rw [hm]; simp; rintro rfl; exact (hm _).mp hb, by simp; omega, rfl, rfl⟩
        · have hno : ∀ b ∈ ds, b.n ≠ a.n := fun b hb e => hin ⟨b, hb, e⟩
          have fd := find_no hno
          have ks : kput (ds.map kvE) (.inl a.n) (entD a) = (ds ++ [a]).map kvE := by
            rw [kput_new (by
              intro p hp hpk
              obtain ⟨c, hc, rfl⟩ := List.mem_map.mp hp
              exact hno c hc (Sum.inl.inj hpk))]
            simp [kvE]
          simp [b_numbered_1, kget_e, fd, hlen, ks] at hr
          refine ⟨_, _, .inl hr.symm, done ++ [a], q, ds ++ [a], _, _, rfl, by simpa using hd, ?_, fun e => by simp [hm], by simp; omega, by simp; exact ⟨rfl, rfl⟩, rfl⟩
          exact pw_snoc hone hno)
  have : rest = [] := by simpa using he.symm
  subst this
  rw [List.append_nil] at hd
  subst hd
  simp [e, Function.comp_def, kvE, keyE] at h
  generalize ha : f_ascending _ _ = ra at h
  obtain ⟨v, hv, hz⟩ := ascending_h (enc := fun e : Ent => D.int e.n) (lt := fun a b => decide (a.n < b.n)) lt_ent (by omega) ha
  rw [hv] at h
  rw [fz_as hz] at h
  simp at h
  generalize hds : asc (fun a b : Ent => decide (a.n < b.n)) ds = ds2 at h
  have hup : Up ds2 := by rw [← hds]; exact up_asc hone
  have hpm : ds2.Perm ds := by rw [← hds]; exact asc_perm _
  have hl2 := hpm.length_eq
  generalize hg : forE _ _ _ _ _ = rg at h
  obtain ⟨F', T', e2, dn, rs, y3, y4, he, hd, rfl, rfl⟩ := for_h hg (fun xs F T => ∃ (dn rs : List Ent) (y3 y4 : Sim.S), xs = rs.map (E.p ∘ fun e => D.int e.n) ∧ dn ++ rs = ds2 ∧ F = [.e (.p (.lst (done.map entD))), .o (.dic (ds.map kvE)), .e (.loc S.length), y3, y4, .o (.dic (dn.map kvE))] ∧ T = S ++ [.lst []])
    ⟨[], ds2, y3, y4, rfl, rfl, rfl, rfl⟩ (by
      rintro x xs F T ⟨dn, rs, y3, y4, he, hd, rfl, rfl⟩
      cases rs with
      | nil => cases he
      | cons a q =>
        rw [List.map_cons] at he
        obtain ⟨rfl, rfl⟩ := List.cons.inj he
        refine ⟨_, rfl, fun r hr => ?_⟩
        have ha2 : a ∈ ds2 := by rw [← hd]; simp
        have ha : a ∈ ds := hpm.mem_iff.mp ha2
        have fd := find_n (ds := ds) (e := a) (fun c hc hcn => nc c ((hm c).mp hc) a ((hm a).mp ha) hcn) ha
        have hlen : dn.length < 16777216 := by
          have := congrArg List.length hd
          simp at this
          omega
        have ks : kput (dn.map kvE) (.inl a.n) (entD a) = (dn ++ [a]).map kvE := by
          rw [kput_new (by
            intro p hp hpk
            obtain ⟨c, hc, rfl⟩ := List.mem_map.mp hp
            have : c.n = a.n := Sum.inl.inj hpk
            rw [← hd] at hup
            have := (List.pairwise_append.mp hup).2.2 c hc a List.mem_cons_self
            omega)]
          simp [kvE]
        simp [b_numbered_2, kget_e, fd, hlen, ks] at hr
        exact ⟨_, _, .inl hr.symm, dn ++ [a], q, _, _, rfl, by simpa using hd, by simp; exact ⟨rfl, rfl⟩, rfl⟩)
  have : rs = [] := by simpa using he.symm
  subst this
  rw [List.append_nil] at hd
  subst hd
  simp [e2] at h
  exact ⟨dn, hup, fun e => by rw [hpm.mem_iff, hm], by omega, h.symm⟩
end Law

set_option linter.all false
set_option maxRecDepth 100000
set_option maxHeartbeats 4000000
namespace Law
open PySem L2 Sim
open PySem.W (alike dataLt)
def pyE : Ent → PyData
  | .v n m => .tuple [.int n, .str "void", .int m]
  | .t n w d x => .tuple [.int n, .str (wordW w), .int d, .str x]
theorem py_ent (e : Ent) : (entD e).py = some (pyE e) := by cases e <;> simp [entD, D.py, pyL, pyE]
theorem lt_of_first {a b : Int} {xs ys : List PyData} (h : a ≠ b) : dataLt (.tuple (.int a :: xs)) (.tuple (.int b :: ys)) = decide (a < b) := by
  rw [PySem.W.dataLt_tuple, PySem.W.dataLt_all_no (by simp [alike]) (by simp [PyData.eqv, h]), PySem.W.dataLt_int]
theorem le_ent {a b : Ent} (h : a.n ≠ b.n) {F : Fr} {T : Sto} {x : OV} (hx : dat F T x = some (entD a)) : orF (orF leI leS) leP F T x (.e (.p (entD b))) = some (.o (.e (.p (.bl (decide (a.n < b.n)))))) := by
  refine leA_sq hx rfl (by cases b <;> rfl) ?_
  unfold ordP
  rw [py_ent, py_ent]
  have k : isSq (pyE a) = true ∧ alike (pyE a) (pyE b) = true ∧ (pyE a).depth ≤ 60 := by
    cases a <;> cases b <;> simp [pyE, isSq, alike, PySem.W.alikeAll, PyData.depth, PyData.depthAll]
  simp only [k, and_self, if_true]
  have : dataLt (pyE b) (pyE a) = decide (b.n < a.n) := by
    cases a <;> cases b <;> exact lt_of_first (fun z => h z.symm)
  rw [this]
  congr 1
  rw [← decide_not]
  exact decide_eq_decide.mpr (by omega)
theorem sorted_h {es : List Ent} (one : One es) (hl : es.length ≤ 1000) {S : Sto} {r : FR} (h : f__law_sorted [.p (.lst (es.map entD))] S = r) : ∃ ds : List Ent, Up ds ∧ ds.Perm es ∧ r = .ok (.fr (.lst (ds.map entD))) S := by
  simp [f__law_sorted, mfOf_ev, m__law_sorted, s__law_sorted_1, s__law_sorted_2, s__law_sorted_3] at h
  generalize hf : forE _ _ _ _ _ = rf at h
  obtain ⟨F', T', e, done, rest, ds, y2, y3, he, hd, hup, hpm, rfl, rfl⟩ := for_h hf (fun xs F T => ∃ (done rest ds : List Ent) (y2 y3 : Sim.S), xs = rest.map (E.p ∘ entD) ∧ done ++ rest = es ∧ Up ds ∧ ds.Perm done ∧ F = [.e (.p (.lst (es.map entD))), .o (.lst (ds.map entD)), y2, y3] ∧ T = S)
    ⟨[], es, [], .u, .u, rfl, rfl, .nil, List.Perm.refl _, rfl, rfl⟩ (by
      rintro x xs F T ⟨done, rest, ds, y2, y3, he, hd, hup, hpm, rfl, rfl⟩
      cases rest with
      | nil => cases he
      | cons a q =>
        rw [List.map_cons] at he
        obtain ⟨rfl, rfl⟩ := List.cons.inj he
        refine ⟨_, rfl, fun r hr => ?_⟩
        have ne : ∀ b ∈ ds, b.n ≠ a.n := by
          intro b hb
          have hb := hpm.mem_iff.mp hb
          rw [← hd] at one
          exact (List.pairwise_append.mp one).2.2 b hb a List.mem_cons_self
        have dl : ds.length ≤ 1000 := by
          have := congrArg List.length hd
          have := hpm.length_eq
          simp at *
          omega
        simp [b__law_sorted_3] at hr
        generalize hw : sWhile _ _ _ _ = rw at hr
        obtain ⟨F', T', e, k, rfl, rfl, hk, hk1, hk2⟩ := while_h hw (fun n F T' => ∃ k : Nat, F = [.e (.p (.lst (es.map entD))), .o (.lst (ds.map entD)), .e (.p (entD a)), .e (.p (.int k))] ∧ T' = T ∧ k ≤ ds.length ∧ (∀ b ∈ ds.take k, b.n < a.n) ∧ n = ds.length - k)
          (fun F T' => ∃ k : Nat, F = [.e (.p (.lst (es.map entD))), .o (.lst (ds.map entD)), .e (.p (entD a)), .e (.p (.int k))] ∧ T' = T ∧ k ≤ ds.length ∧ (∀ b ∈ ds.take k, b.n < a.n) ∧ ∀ b ∈ ds.drop k, a.n < b.n)
          (n := ds.length) ⟨0, rfl, rfl, Nat.zero_le _, by simp, by simp⟩ (by
            rintro n F T' ⟨k, rfl, rfl, hk, hk1, rfl⟩ rt ht
            by_cases h1 : k < ds.length
            · obtain ⟨b, gk⟩ : ∃ b, ds[k] = b := ⟨_, rfl⟩
              have nk := ne _ (List.getElem_mem h1)
              have dk : ds.drop k = ds[k] :: ds.drop (k + 1) := List.drop_eq_getElem_cons h1
              have tk : ds.take (k + 1) = ds.take k ++ [ds[k]] := by rw [List.take_succ, List.getElem?_eq_getElem h1]; rfl
              rw [gk] at nk dk tk
              have le := fun F T => le_ent (F := F) (T := T) (x := .e (.p (entD b))) nk rfl
              simp [b__law_sorted_1, h1, gk, le] at ht
              by_cases hlt : b.n < a.n
              · refine ⟨true, _, _, by rw [← ht, decide_eq_true hlt], (by intro z; cases z), fun _ rb hb => ?_⟩
                simp [b__law_sorted_2] at hb
                refine ⟨_, _, ds.length - (k + 1), .inl hb.symm, by omega, k + 1, by simp, rfl, by omega, ?_, rfl⟩
                intro c hc
                rw [tk] at hc
                rcases List.mem_append.mp hc with hc | hc
                · exact hk1 c hc
                · rw [List.mem_singleton.mp hc]; exact hlt
              · refine ⟨false, _, _, by rw [← ht, decide_eq_false hlt], fun _ => ⟨k, rfl, rfl, hk, hk1, ?_⟩, (by intro z; cases z)⟩
                have up2 : Up (ds.drop k) := hup.sublist (List.drop_sublist _ _)
                rw [dk] at up2 ⊢
                intro c hc
                rcases List.mem_cons.mp hc with rfl | hc
                · omega
                · have := (List.pairwise_cons.mp up2).1 c hc; omega
            · simp [b__law_sorted_1, h1] at ht
              exact ⟨false, _, _, ht.symm, fun _ => ⟨k, rfl, rfl, hk, hk1, by rw [List.drop_of_length_le (by omega)]; simp⟩, (by intro z; cases z)⟩)
        simp [e, show ds.length ≤ 1000000 by omega, show k ≤ 1000000 by omega] at hr
        refine ⟨_, _, .inl hr.symm, done ++ [a], q, ds.take k ++ a :: ds.drop k, _, _, rfl, by simpa using hd, ?_, ?_, by simp; exact ⟨rfl, rfl⟩, rfl⟩
        · have up1 : Up (ds.take k) := hup.sublist (List.take_sublist _ _)
          have up2 : Up (ds.drop k) := hup.sublist (List.drop_sublist _ _)
          refine List.pairwise_append.mpr ⟨up1, List.pairwise_cons.mpr ⟨hk2, up2⟩, fun x hx y hy => ?_⟩
          have := hk1 x hx
          rcases List.mem_cons.mp hy with rfl | hy
          · exact this
          · have := hk2 y hy; omega
        · refine List.perm_middle.trans ?_
          rw [List.take_append_drop]
          exact ((hpm.cons a).trans (List.perm_append_singleton a done).symm))
  have : rest = [] := by simpa using he.symm
  subst this
  rw [List.append_nil] at hd
  subst hd
  simp [e] at h
  exact ⟨ds, hup, hpm, h.symm⟩
end Law

set_option linter.all false
set_option maxRecDepth 100000
set_option maxHeartbeats 4000000
namespace Law
open PySem L2 Sim
/-! ### who stands -/
def Ent.gone : Ent → List Int → List Int
  | .v _ m, g => g ++ [m]
  | .t _ _ _ _, g => g
def st : List Ent → List Int → List Int
  | [], _ => []
  | e :: r, g => if e.n ∈ g then st r g else e.n :: st r (e.gone g)
def Ent.word : Ent → Str
  | .v _ _ => "void"
  | .t _ w _ _ => wordW w
@[simp] theorem ent_ix1 {e : Ent} {F : Fr} {T : Sto} : orF ixF dgF F T (.e (.p (entD e))) (.e (.p (.int 1))) = some (.o (.e (.p (.str e.word)))) := by cases e <;> simp [entD, Ent.word]
theorem word_void {e : Ent} : (e.word = Str.ofString "void") ↔ ∃ n m, e = .v n m := by
  cases e with
  | v n m => simp [Ent.word]
  | t n w d x => cases w <;> simp [Ent.word, wordW]
theorem st_cons {e : Ent} {r : List Ent} {g : List Int} : st (e :: r) g = if e.n ∈ g then st r g else e.n :: st r (e.gone g) := by rw [st]
theorem st_mem : ∀ {r : List Ent} {g : List Int} {n : Int}, n ∈ st r g → n ∈ r.map Ent.n
  | [], _, _, h => by cases h
  | e :: r, g, n, h => by
    unfold st at h
    split at h
    · exact List.mem_cons_of_mem _ (st_mem h)
    · rcases List.mem_cons.mp h with rfl | h
      · simp
      · exact List.mem_cons_of_mem _ (st_mem h)
theorem stood_h {es : List Ent} (one : One es) (hl : es.length ≤ 1000) {S : Sto} {r : FR} (h : f__law_stood [.p (.lst (es.map entD))] S = r) : ∃ ds : List Ent, Up ds ∧ ds.Perm es ∧ r = .ok (.fr (.lst ((st ds.reverse []).map .int))) S := by
  simp [f__law_stood, mfOf_ev, m__law_stood, s__law_stood_1, s__law_stood_2, s__law_stood_3, s__law_stood_4] at h
  generalize hs : f__law_sorted _ _ = rs at h
  obtain ⟨ds, hup, hpm, e⟩ := sorted_h one hl hs
  have dl := hpm.length_eq
  simp [e] at h
  generalize hf : forE _ _ _ _ _ = rf at h
  obtain ⟨F', T', e2, rest, g, out, y3, he, hq, hgl, rfl, rfl⟩ := for_h hf (fun xs F T => ∃ (rest : List Ent) (g out : List Int) (y3 : Sim.S), xs = rest.map (E.p ∘ entD) ∧ out ++ st rest g = st ds.reverse [] ∧ (out.length + rest.length ≤ ds.length ∧ g.length + rest.length ≤ ds.length) ∧ F = [.e (.p (.lst (es.map entD))), .o (.lst (g.map .int)), .o (.lst (out.map .int)), y3] ∧ T = S)
    ⟨ds.reverse, [], [], .u, by simp, rfl, by simp, rfl, rfl⟩ (by
      rintro x xs F T ⟨rest, g, out, y3, he, hq, ⟨hl1, hl2⟩, rfl, rfl⟩
      cases rest with
      | nil => cases he
      | cons a q =>
        rw [List.map_cons] at he
        obtain ⟨rfl, rfl⟩ := List.cons.inj he
        refine ⟨_, rfl, fun r hr => ?_⟩
        rw [List.length_cons] at hl1 hl2
        have ni := fun n F T y h => ni_ints (F := F) (T := T) (y := y) (n := n) (xs := g) h
        rw [st_cons] at hq
        by_cases hg : a.n ∈ g
        · rw [if_pos hg] at hq
          simp [b__law_stood_1, ni a.n _ _ (.sl 1), hg] at hr
          exact ⟨_, _, .inl hr.symm, q, g, out, _, rfl, hq, ⟨by omega, by omega⟩, rfl, rfl⟩
        · rw [if_neg hg] at hq
          simp [b__law_stood_1, ni a.n _ _ (.sl 1), hg, show out.length < 16777216 by omega] at hr
          cases a with
          | v n m =>
            simp [Ent.word, Ent.n, entD, show g.length < 16777216 by omega] at hr
            exact ⟨_, _, .inl hr.symm, q, g ++ [m], out ++ [n], _, rfl, by simpa [Ent.gone, Ent.n] using hq, ⟨by simp; omega, by simp; omega⟩, (by simp <;> first | rfl | exact ⟨rfl, rfl⟩ | exact ⟨rfl, rfl, rfl⟩), rfl⟩
          | t n w d x =>
            have hw : ¬ wordW w = Str.ofString "void" := by cases w <;> simp [wordW]
            simp [Ent.word, Ent.n, hw] at hr
            exact ⟨_, _, .inl hr.symm, q, g, out ++ [n], _, rfl, by simpa [Ent.gone, Ent.n] using hq, ⟨by simp; omega, by omega⟩, (by simp <;> first | rfl | exact ⟨rfl, rfl⟩ | exact ⟨rfl, rfl, rfl⟩), rfl⟩)
  have : rest = [] := by simpa using he.symm
  subst this
  simp [st] at hq
  subst hq
  simp [e2] at h
  exact ⟨ds, hup, hpm, h.symm⟩
/-- a sheet's cell -/
def shC (ds : List Ent) : C := .ins "Sheet" [("by_number", .p (.dic (ds.map kvE)))]
def bt (n : Int) : Key × D := (.inl n, .bl true)
theorem standing_h {ds : List Ent} (hup : Up ds) (hl : ds.length ≤ 1000) {S : Sto} {i : Nat} (hi : S[i]? = some (shC ds)) {r : FR} (h : f_Sheet__standing_numbers [.loc i] S = r) : r = .ok (.fr (.dic ((st ds.reverse []).map bt))) S := by
  unfold shC at hi
  simp [f_Sheet__standing_numbers, mfOf_ev, m_Sheet__standing_numbers, s_Sheet__standing_numbers_1, s_Sheet__standing_numbers_2, s_Sheet__standing_numbers_3, s_Sheet__standing_numbers_4, hi, Function.comp_def, kvE, keyE] at h
  generalize hf : forE _ _ _ _ _ = rf at h
  obtain ⟨F', T', e2, rest, g, out, ws, y3, he, hq, hlen, hw, hdis, hsub, rfl, rfl⟩ := for_h hf (fun xs F T => ∃ (rest : List Ent) (g out : List Int) (ws : List (Key × D)) (y3 : Sim.S), xs = rest.map (fun e : Ent => E.p (D.int e.n)) ∧ out ++ st rest g = st ds.reverse [] ∧ (out.length + rest.length ≤ ds.length ∧ ws.length + rest.length ≤ ds.length) ∧ (∀ n : Int, (kget ws (.inl n)).isSome = decide (n ∈ g)) ∧ (∀ n ∈ out, ∀ e ∈ rest, e.n ≠ n) ∧ (∃ pre, pre ++ rest = ds.reverse) ∧ F = [.e (.loc i), .o (.dic ws), .o (.dic (out.map bt)), y3] ∧ T = S)
    ⟨ds.reverse, [], [], [], .u, by simp, rfl, by simp, by intro n; rfl, by simp, ⟨[], rfl⟩, rfl, rfl⟩ (by
      rintro x xs F T ⟨rest, g, out, ws, y3, he, hq, ⟨hl1, hl2⟩, hw, hdis, ⟨pre, hpre⟩, rfl, rfl⟩
      cases rest with
      | nil => cases he
      | cons a q =>
        rw [List.map_cons] at he
        obtain ⟨rfl, rfl⟩ := List.cons.inj he
        refine ⟨_, rfl, fun r hr => ?_⟩
        rw [List.length_cons] at hl1 hl2
        have ha : a ∈ ds := List.mem_reverse.mp (by rw [← hpre]; simp)
        have fd := find_n (ds := ds) (e := a) (fun c hc e => hup.inj hc ha e) ha
        have later : ∀ e ∈ q, e.n ≠ a.n := by
          have h2 : (pre ++ a :: q).Pairwise (fun x y : Ent => y.n < x.n) := by rw [hpre]; exact List.pairwise_reverse.mpr hup
          intro e he
          have := (List.pairwise_cons.mp (List.pairwise_append.mp h2).2.1).1 e he
          omega
        have hdis' : ∀ n ∈ out, ∀ e ∈ q, e.n ≠ n := fun n hn e he => hdis n hn e (List.mem_cons_of_mem _ he)
        rw [st_cons] at hq
        by_cases hg : a.n ∈ g
        · rw [if_pos hg] at hq
          simp [b_Sheet__standing_numbers_1, hw, hg] at hr
          exact ⟨_, _, .inl hr.symm, q, g, out, ws, _, rfl, hq, ⟨by omega, by omega⟩, hw, hdis', ⟨pre ++ [a], by simpa using hpre⟩, rfl, rfl⟩
        · rw [if_neg hg] at hq
          have kp : kput (out.map bt) (.inl a.n) (.bl true) = (out ++ [a.n]).map bt := by
            rw [kput_new (by
              intro p hp hpk
              obtain ⟨c, hc, rfl⟩ := List.mem_map.mp hp
              exact hdis c hc a List.mem_cons_self (Sum.inl.inj hpk).symm)]
            simp [bt]
          have hdis2 : ∀ n ∈ out ++ [a.n], ∀ e ∈ q, e.n ≠ n := fun n hn e he => by
            rcases List.mem_append.mp hn with hn | hn
            · exact hdis' n hn e he
            · rw [List.mem_singleton.mp hn]; exact later e he
          cases a with
          | v n m =>
            simp [b_Sheet__standing_numbers_1, hw, hg, show out.length < 16777216 by omega, hi, kp, kget_e, fd, Ent.word] at hr
            simp [entD, show ws.length < 16777216 by omega] at hr
            have hw2 : ∀ k : Int, (kget (kput ws (.inl m) (D.bl true)) (.inl k)).isSome = decide (k ∈ g ++ [m]) := by
              intro k
              rw [kget_put]
              by_cases hk : m = k
              · subst hk; simp
              · have hk' : ¬ k = m := fun z => hk z.symm
                simp [hk, hk', hw]
            have hwl : (kput ws (.inl m) (D.bl true)).length ≤ ws.length + 1 := by
              unfold kput
              split <;> simp
            exact ⟨_, _, .inl hr.symm, q, g ++ [m], out ++ [n], _, _, rfl, by simpa [Ent.gone, Ent.n] using hq, ⟨by simp; omega, by omega⟩, hw2, hdis2, ⟨pre ++ [.v n m], by simpa using hpre⟩, (by simp [Ent.n, bt] <;> first | rfl | exact ⟨rfl, rfl⟩), rfl⟩
          | t n w d x =>
            have hwd : ¬ wordW w = Str.ofString "void" := by cases w <;> simp [wordW]
            simp [b_Sheet__standing_numbers_1, hw, hg, show out.length < 16777216 by omega, hi, kp, kget_e, fd, Ent.word, hwd] at hr
            exact ⟨_, _, .inl hr.symm, q, g, out ++ [n], ws, _, rfl, by simpa [Ent.gone, Ent.n] using hq, ⟨by simp; omega, by omega⟩, hw, hdis2, ⟨pre ++ [.t n w d x], by simpa using hpre⟩, (by simp [Ent.n, bt] <;> first | rfl | exact ⟨rfl, rfl⟩), rfl⟩)
  have : rest = [] := by simpa using he.symm
  subst this
  simp [st] at hq
  subst hq
  simp [e2] at h
  exact h.symm
end Law

set_option linter.all false
set_option maxRecDepth 100000
set_option maxHeartbeats 4000000
namespace Law
open PySem L2 Sim
def xNE (n : Int) : Xc := ⟨"NoEntry", [("number", .int n)]⟩
def okL (ds : List Ent) : Prop := ∀ e ∈ ds, okEnt e
theorem okEnt_n {e : Ent} (h : okEnt e) : 1 ≤ e.n ∧ e.n ≤ 999 := by cases e <;> exact ⟨h.1, h.2.1⟩
theorem find_some {ds : List Ent} {n : Int} (h : n ∈ ds.map Ent.n) : (ds.find? fun a => decide (a.n = n)).isSome = true := by
  rw [List.find?_isSome]
  obtain ⟨e, he, rfl⟩ := List.mem_map.mp h
  exact ⟨e, he, by simp⟩
theorem find_none {ds : List Ent} {n : Int} (h : n ∉ ds.map Ent.n) : ds.find? (fun a => decide (a.n = n)) = none := find_no fun a ha e => h (List.mem_map.mpr ⟨a, ha, e⟩)
theorem stands_h {ds : List Ent} (hup : Up ds) (ok : okL ds) (hl : ds.length ≤ 1000) {S : Sto} {i : Nat} (hi : S[i]? = some (shC ds)) {n : Int} {r : FR} (h : f_Sheet__stands [.loc i, .p (.int n)] S = r) :
    r = if n ∈ ds.map Ent.n then .ok (.e (.p (.bl (decide (n ∈ st ds.reverse []))))) S else .exc (xNE n) S := by
  have hi' := hi
  unfold shC at hi'
  by_cases hn : n ∈ ds.map Ent.n
  · obtain ⟨e, he, rfl⟩ := List.mem_map.mp hn
    obtain ⟨h1, h2⟩ := okEnt_n (ok e he)
    have fs := find_some hn
    rw [if_pos hn]
    simp [f_Sheet__stands, mfOf_ev, m_Sheet__stands, s_Sheet__stands_1, s_Sheet__stands_2, is_number_eq, h1, h2, hi', kget_e, fs, mt_standing_numbers] at h
    generalize hc : f_Sheet__standing_numbers _ _ = rc at h
    rw [standing_h hup hl hi hc] at h
    have k1 := kget_one (n := e.n) (xs := st ds.reverse []) (g := fun _ => D.bl true)
    simp at h
    rw [show (st ds.reverse []).map bt = (st ds.reverse []).map fun x => ((Sum.inl x : Key), D.bl true) from rfl] at h
    simp [k1] at h
    exact h.symm
  · rw [if_neg hn]
    have fs := find_none hn
    by_cases h1 : 1 ≤ n
    · by_cases h2 : n ≤ 999
      · simp [f_Sheet__stands, mfOf_ev, m_Sheet__stands, s_Sheet__stands_1, s_Sheet__stands_2, is_number_eq, h1, h2, hi', kget_e, fs] at h
        exact h.symm
      · simp [f_Sheet__stands, mfOf_ev, m_Sheet__stands, s_Sheet__stands_1, s_Sheet__stands_2, is_number_eq, h1, h2, hi', kget_e, fs] at h
        exact h.symm
    · simp [f_Sheet__stands, mfOf_ev, m_Sheet__stands, s_Sheet__stands_1, s_Sheet__stands_2, is_number_eq, h1, hi', kget_e, fs] at h
      exact h.symm
def toldS (ds : List Ent) (n : Int) : Str := if n ∈ ds.map Ent.n then (if n ∈ st ds.reverse [] then "stands" else "gone") else "none"
theorem number_eq {n : Int} {S : Sto} : f__law_number [.p (.int n)] S = .ok (.e (.p (.bl true))) S := by
  simp [f__law_number, mfOf_ev, m__law_number, s__law_number_1, isiF, tagW, isB]
theorem told_eq {ds : List Ent} (hup : Up ds) (ok : okL ds) (hl : ds.length ≤ 1000) {S : Sto} {i : Nat} (hi : S[i]? = some (shC ds)) {n : Int} : f__law_told [.loc i, .p (.int n)] S = .ok (.e (.p (.str (toldS ds n)))) S := by
  generalize h : f__law_told _ _ = r
  have hi' := hi
  unfold shC at hi'
  simp [f__law_told, mfOf_ev, m__law_told, s__law_told_1, s__law_told_2, s__law_told_3, hi', mt_stands] at h
  generalize hc : f_Sheet__stands _ _ = rc at h
  rw [stands_h hup ok hl hi hc] at h
  unfold toldS
  by_cases hn : n ∈ ds.map Ent.n
  · by_cases hs : n ∈ st ds.reverse []
    · simp [hn, hs] at h
      simp [hn, hs, ← h]
    · simp [hn, hs] at h
      simp [hn, hs, ← h]
  · simp [hn, xNE, number_eq] at h
    simp [hn, ← h]
theorem due_eq {es : List Ent} (hl : es.length ≤ 1000) {xs : List Int} {n : Int} {S : Sto} : f__law_due [.p (.lst (es.map entD)), .p (.lst (xs.map .int)), .p (.int n)] S = .ok (.e (.p (.str (if n ∈ xs then "stands" else if n ∈ es.map Ent.n then "gone" else "none")))) S := by
  generalize h : f__law_due _ _ = r
  have i1 := fun F T y h => in_ints (F := F) (T := T) (y := y) (n := n) (xs := xs) h
  have i2 := fun F T y h => in_ints (F := F) (T := T) (y := y) (n := n) (xs := es.map Ent.n) h
  by_cases h1 : n ∈ xs
  · simp [f__law_due, mfOf_ev, m__law_due, s__law_due_1, s__law_due_2, i1 _ _ (.e (.p (.lst (xs.map .int)))), h1] at h
    rw [if_pos h1]
    exact h.symm
  · simp [f__law_due, mfOf_ev, m__law_due, s__law_due_1, s__law_due_2, i1 _ _ (.e (.p (.lst (xs.map .int)))), h1] at h
    generalize hc : lcE _ _ _ _ _ _ _ _ = rc at h
    have hc' := lca_h (f := E.p ∘ entD) (xs := es) hc (fun e => .int e.n) (by omega) (fun x _ => ⟨_, rfl, rfl, by simp [b__law_due_1], rfl⟩)
    rw [if_neg h1]
    simp [hc'] at h
    rw [show es.map (fun e => D.int e.n) = (es.map Ent.n).map D.int by simp] at h
    by_cases h2 : ∃ a, a ∈ es ∧ a.n = n
    · simp [i2 _ _ (.e (.p (.lst ((es.map Ent.n).map .int)))), -List.map_map, h2] at h
      rw [if_pos (List.mem_map.mpr h2)]
      exact h.symm
    · simp [i2 _ _ (.e (.p (.lst ((es.map Ent.n).map .int)))), -List.map_map, h2] at h
      rw [if_neg (fun z => h2 (List.mem_map.mp z))]
      exact h.symm
end Law

set_option linter.all false
set_option maxRecDepth 100000
set_option maxHeartbeats 4000000
namespace Law
open PySem L2 Sim
@[simp] theorem take_set' {S : Sto} {i : Nat} {c : C} : List.take (List.length S) (List.set S i c) = S.set i c := List.take_of_length_le (by simp)
theorem vals_kv {ds : List Ent} : List.map ((fun x : Key × D => x.snd) ∘ kvE) ds = ds.map entD := by simp [Function.comp_def, kvE]
def nmE (es : List Ent) : D := .lst (es.map entD)
def Cons (es : List Ent) : Prop := ∀ a ∈ es, ∀ b ∈ es, a.n = b.n → a = b
theorem init_h {es : List Ent} (ok : okL es) (nc : Cons es) (hl : es.length ≤ 1000) {S : Sto} {y : E} {i : Nat} (hi : S[i]? = some (.ins "Sheet" [])) (hy : y = .p (nmE es) ∨ ∃ n, y = .loc n ∧ S[n]? = some (.lst (es.map entD))) {r : FR} (h : f_Sheet____init__ [.loc i, y] S = r) :
    ∃ ds : List Ent, Up ds ∧ (∀ e, e ∈ ds ↔ e ∈ es) ∧ ds.length ≤ es.length ∧ r = .ok (.e (.p .non)) (S.set i (shC ds)) := by
  rcases hy with rfl | ⟨n, rfl, hn⟩
  · simp [f_Sheet____init__, mfOf_ev, m_Sheet____init__, s_Sheet____init___1, s_Sheet____init___2, nmE] at h
    generalize hf : forE _ _ _ _ _ = rf at h
    obtain ⟨F', T', e2, rest, y2, he, hs, rfl, rfl⟩ := for_h hf (fun xs F T => ∃ (rest : List Ent) (y2 : Sim.S), xs = rest.map (E.p ∘ entD) ∧ (∀ e ∈ rest, okEnt e) ∧ F = [.e (.loc i), .e (.p (.lst (es.map entD))), y2] ∧ T = S)
      ⟨es, .u, rfl, ok, rfl, rfl⟩ (by
      rintro x xs F T ⟨rest, y2, he, hok, rfl, rfl⟩
      cases rest with
      | nil => cases he
      | cons a q =>
        rw [List.map_cons] at he
        obtain ⟨rfl, rfl⟩ := List.cons.inj he
        refine ⟨_, rfl, fun r hr => ?_⟩
        simp [b_Sheet____init___1, is_entry_eq (hok a List.mem_cons_self)] at hr
        exact ⟨_, _, .inl hr.symm, q, _, rfl, fun e he => hok e (List.mem_cons_of_mem _ he), rfl, rfl⟩)
    simp [e2] at h
    generalize hc : f_numbered _ _ = rc at h
    obtain ⟨ds, h1, h2, h3, e3⟩ := numbered_h ok nc hl hc
    refine ⟨ds, h1, h2, h3, ?_⟩
    simp [e3, hi] at h
    exact h.symm
  · simp [f_Sheet____init__, mfOf_ev, m_Sheet____init__, s_Sheet____init___1, s_Sheet____init___2] at h
    generalize hf : forA _ _ _ _ _ = rf at h
    obtain ⟨F', T', e2, rest, y2, he, hs, rfl, rfl⟩ := forA_h hf (fun xs F T => ∃ (rest : List Ent) (y2 : Sim.S), xs = (rest.map entD).map E.p ∧ (∀ e ∈ rest, okEnt e) ∧ F = [.e (.loc i), .e (.loc n), y2] ∧ T = S)
      (by rintro es F T ⟨_, _, _, _, _, rfl⟩; exact hn) ⟨es, .u, rfl, ok, rfl, rfl⟩ (by
      rintro x xs F T ⟨rest, y2, he, hok, rfl, rfl⟩
      cases rest with
      | nil => cases he
      | cons a q =>
        rw [List.map_cons, List.map_cons] at he
        obtain ⟨rfl, rfl⟩ := List.cons.inj he
        refine ⟨_, rfl, fun r hr => ?_⟩
        simp [b_Sheet____init___1, is_entry_eq (hok a List.mem_cons_self)] at hr
        exact ⟨_, _, .inl hr.symm, q, _, rfl, fun e he => hok e (List.mem_cons_of_mem _ he), rfl, rfl⟩)
    simp [e2, hn] at h
    generalize hc : f_numbered _ _ = rc at h
    obtain ⟨ds, h1, h2, h3, e3⟩ := numbered_h ok nc hl hc
    refine ⟨ds, h1, h2, h3, ?_⟩
    simp [e3, hi] at h
    exact h.symm
def shD (ds : List Ent) : D := .ins "Sheet" [("by_number", .dic (ds.map kvE))]
theorem ior_h {ds1 ds2 : List Ent} (ok : okL (ds1 ++ ds2)) (nc : Cons (ds1 ++ ds2)) (hl : (ds1 ++ ds2).length ≤ 1000) {S : Sto} {i : Nat} (hi : S[i]? = some (shC ds1)) {r : FR} (h : f_Sheet____ior__ [.loc i, .p (shD ds2)] S = r) :
    ∃ ds : List Ent, Up ds ∧ (∀ e, e ∈ ds ↔ e ∈ ds1 ++ ds2) ∧ ds.length ≤ (ds1 ++ ds2).length ∧ r = .ok (.e (.loc i)) (S.set i (shC ds)) := by
  unfold shC at hi
  simp [f_Sheet____ior__, mfOf_ev, m_Sheet____ior__, s_Sheet____ior___1, s_Sheet____ior___2, shD, hi] at h
  have hl' := hl
  rw [List.length_append] at hl'
  simp [show ds1.length + ds2.length ≤ 16777216 by omega, vals_kv, ← List.map_append] at h
  generalize hc : f_numbered _ _ = rc at h
  obtain ⟨ds, h1, h2, h3, e3⟩ := numbered_h ok nc hl hc
  refine ⟨ds, h1, h2, h3, ?_⟩
  simp [e3, hi] at h
  rw [if_pos (List.getElem?_eq_some_iff.mp hi).1] at h
  exact h.symm
end Law

set_option linter.all false
set_option maxRecDepth 100000
set_option maxHeartbeats 4000000
namespace Law
open PySem L2 Sim
theorem choice_h {n m : Nat} {S : Sto} {c : C} {ns : List Str} (hS : S[n]? = some c) (b_c : isBag c) (hm : S[m]? = some (.lst (ns.map .str))) (ne : n ≠ m) (h0 : 0 < ns.length) (h1 : ns.length < 600) {r : FR} (h : f__law_choice [.loc n, .loc m] S = r) :
    ∃ x ∈ ns, ∃ c', isBag c' ∧ r = .ok (.e (.p (.str x))) (S.set n c') := by
  simp [f__law_choice, mfOf_ev, m__law_choice, s__law_choice_1, hm, show ns.length ≤ 16777216 by omega] at h
  generalize hp : f__law_pick _ _ = rp at h
  obtain ⟨w, c1, rfl, b1, w0, w1⟩ := pick_h hp hS b_c (by omega) (by omega)
  have hm2 := (set_other (S := S) (c := c1) ne).trans hm
  obtain ⟨x, hx, gx⟩ := lit_at (l := ns) w0 w1
  simp [hm2, w0, gx] at h
  exact ⟨x, hx, c1, b1, h.symm⟩
theorem okS_name {s : Str} (h : okS s) : nameB s = true := by
  obtain ⟨h1, h2, h3⟩ := h
  unfold nameB
  simp only [h1, h2, decide_true, Bool.true_and, List.all_eq_true]
  intro c hc
  simpa [letB] using h3 c hc
theorem rows_h {c : C} {R : Sto} {r : FR} {ns : List Int} {nms : List Str} (b_c : isBag c) (hl : ns.length ≤ 60) (up : ns.Pairwise (· < ·)) (hrg : ∀ n ∈ ns, 1 ≤ n ∧ n ≤ 840) (hn : okN nms) (n0 : 0 < nms.length) (n1 : nms.length < 600)
    (h : f__law_rows [.loc 0, .p (.lst (ns.map .int)), .loc 1] (c :: .lst (nms.map .str) :: R) = r) :
    ∃ (c' : C) (es : List Ent), isBag c' ∧ r = .ok (.fr (.lst (es.map entD))) (c' :: .lst (nms.map .str) :: R) ∧ es.map Ent.n = ns ∧ okL es := by
  simp [f__law_rows, mfOf_ev, m__law_rows, s__law_rows_1, s__law_rows_2, s__law_rows_3, s__law_rows_4] at h
  generalize hp_w : f__law_pick _ _ = rp_w at h
  obtain ⟨w, c1, hq_w, b_c1, w_0, w_1⟩ := pick_h hp_w rfl b_c (by omega) (by omega)
  rw [hq_w] at h
  clear hp_w hq_w
  simp [w_0] at h
  generalize decide (w = 0) = deep at h
  generalize hf : forE _ _ _ _ _ = rf at h
  obtain ⟨F', T', e2, c2, done, rest, es, y5, y6, y7, he, hd, b2, hes, hok, rfl, rfl⟩ := for_h hf (fun xs F T => ∃ (c2 : C) (done rest : List Int) (es : List Ent) (y5 y6 y7 : Sim.S), xs = enumE done.length (rest.map D.int) ∧ done ++ rest = ns ∧ isBag c2 ∧ es.map Ent.n = done ∧ okL es ∧ F = [.e (.loc 0), .e (.p (.lst (ns.map .int))), .e (.loc 1), .e (.p (.bl deep)), .o (.lst (es.map entD)), y5, y6, y7] ∧ T = c2 :: .lst (nms.map .str) :: R)
    ⟨c1, [], ns, [], .u, .u, .u, rfl, rfl, b_c1, rfl, (by unfold okL; simp), rfl, rfl⟩ (by
      rintro x xs F T ⟨c2, done, rest, es, y5, y6, y7, he, hd, b_c2, hes, hok, rfl, rfl⟩
      cases rest with
      | nil => cases he
      | cons a q =>
        obtain ⟨rfl, rfl⟩ := List.cons.inj he
        refine ⟨_, rfl, fun r hr => ?_⟩
        have ha : a ∈ ns := by rw [← hd]; simp
        have dl : es.length < 16777216 := by
          have := congrArg List.length hd
          have := congrArg List.length hes
          simp at *
          omega
        have a1 := hrg a ha
        simp [b__law_rows_1] at hr
        generalize hp_w : f__law_pick _ _ = rp_w at hr
        obtain ⟨w, c3, hq_w, b_c3, w_0, w_1⟩ := pick_h hp_w rfl b_c2 (by omega) (by omega)
        rw [hq_w] at hr
        clear hp_w hq_w
        have fin : ∀ (c' : C) (e : Ent) (y7 : Sim.S), isBag c' → e.n = a → okEnt e → r = .nx [.e (.loc 0), .e (.p (.lst (ns.map .int))), .e (.loc 1), .e (.p (.bl deep)), .o (.lst (es.map entD ++ [entD e])), .e (.p (.int done.length)), .e (.p (.int a)), y7] (c' :: .lst (nms.map .str) :: R) → ∃ F2 T2, (r = .nx F2 T2 ∨ r = .ct F2 T2) ∧ ∃ (c2 : C) (dn rest : List Int) (es : List Ent) (y5 y6 y7 : Sim.S), enumE (done.length + 1) (q.map D.int) = enumE dn.length (rest.map D.int) ∧ dn ++ rest = ns ∧ isBag c2 ∧ es.map Ent.n = dn ∧ okL es ∧ F2 = [.e (.loc 0), .e (.p (.lst (ns.map .int))), .e (.loc 1), .e (.p (.bl deep)), .o (.lst (es.map entD)), y5, y6, y7] ∧ T2 = c2 :: .lst (nms.map .str) :: R := by
          intro c' e y7 hb he oke hr
          refine ⟨_, _, .inl hr, c', done ++ [a], q, es ++ [e], _, _, _, by simp, by simpa using hd, hb, by simp [hes, he], fun x hx => ?_, by simp; exact ⟨rfl, rfl, rfl⟩, rfl⟩
          rcases List.mem_append.mp hx with hx | hx
          · exact hok x hx
          · rw [List.mem_singleton.mp hx]; exact oke
        have at_ : ∀ k : Int, 0 ≤ k → k < done.length → ∃ b : Int, atI (ns.map D.int) k = some (.int b) ∧ 1 ≤ b ∧ b < a := by
          intro k k0 k1
          obtain ⟨b, hb, gb⟩ := lit_at k0 k1
          refine ⟨b, ?_, ?_, ?_⟩
          · have g2 : ns[k.toNat]? = some b := by rw [← hd, List.getElem?_append_left (by omega), gb]
            simp [atI_nn k0, g2]
          · exact (hrg b (by rw [← hd]; exact List.mem_append_left _ hb)).1
          · rw [← hd] at up
            exact (List.pairwise_append.mp up).2.2 b hb a List.mem_cons_self
        have hdl : (done.length : Int) < 1073741824 := by
          have := congrArg List.length hd
          simp at this
          omega
        have w6 : w = 0 ∨ w = 1 ∨ w = 2 ∨ w = 3 ∨ w = 4 ∨ w = 5 := by omega
        clear hf he h
        rcases w6 with rfl | rfl | rfl | rfl | rfl | rfl <;> cases deep <;> by_cases p0 : 0 < done.length <;> by_cases pa : 1 < a <;> simp [p0, pa] at hr <;> first
          | (obtain ⟨b, gb, b1, b2⟩ := at_ (done.length - 1) (by omega) (by omega)
             simp [gb, dl] at hr
             exact fin c3 (.v a b) _ b_c3 rfl ⟨a1.1, by omega, b1, by omega⟩ hr.symm)
          | (generalize hp : f__law_pick _ _ = rp at hr
             obtain ⟨v, c4, rfl, b_c4, v_0, v_1⟩ := pick_h hp rfl b_c3 (by omega) (by omega)
             obtain ⟨b, gb, b1, b2⟩ := at_ v v_0 v_1
             simp [gb, dl] at hr
             exact fin c4 (.v a b) _ b_c4 rfl ⟨a1.1, by omega, b1, by omega⟩ hr.symm)
          | (generalize hp : f__law_pick _ _ = rp at hr
             obtain ⟨v, c4, rfl, b_c4, v_0, v_1⟩ := pick_h hp rfl b_c3 (by omega) (by omega)
             simp [dl] at hr
             exact fin c4 (.v a (1 + v)) _ b_c4 rfl ⟨a1.1, by omega, by omega, by omega⟩ hr.symm)
          | (generalize hp : f__law_pick _ _ = rp at hr
             obtain ⟨v, c4, rfl, b_c4, v_0, v_1⟩ := pick_h hp rfl b_c3 (by omega) (by omega)
             simp at hr
             generalize hc : f__law_choice _ _ = rc at hr
             obtain ⟨x, hx, c5, b5, rfl⟩ := choice_h (ns := nms) rfl b_c4 rfl (by decide) n0 n1 hc
             simp [dl] at hr
             first
             | exact fin c5 (.t a true v x) _ b5 rfl ⟨a1.1, by omega, v_0, by omega, okS_name (hn x hx)⟩ hr.symm
             | exact fin c5 (.t a false v x) _ b5 rfl ⟨a1.1, by omega, v_0, by omega, okS_name (hn x hx)⟩ hr.symm))
  have : rest = [] := by
    cases rest with
    | nil => rfl
    | cons a q => cases he
  subst this
  rw [List.append_nil] at hd
  subst hd
  simp [e2] at h
  exact ⟨c2, es, b2, h.symm, hes, hok⟩
end Law

set_option linter.all false
set_option maxRecDepth 100000
set_option maxHeartbeats 4000000
namespace Law
open PySem L2 Sim
theorem seqIx {w : Int} {n : Nat} (h0 : 0 ≤ w) (h1 : w < n) : seqIndex? w n = some w.toNat := by
  have h2 : ¬ w < 0 := by omega
  unfold seqIndex?
  simp [h2, h0, h1]
theorem ers_perm {α : Type} : ∀ {l : List α} {i : Nat} (h : i < l.length), (l[i] :: l.eraseIdx i).Perm l
  | x :: r, 0, _ => List.Perm.refl _
  | x :: r, i + 1, h => by
    have h' : i < r.length := by rw [List.length_cons] at h; omega
    have q := ers_perm h'
    exact (List.Perm.swap x r[i] (r.eraseIdx i)).trans (q.cons x)
theorem eraseIdx_map' {α β : Type} {f : α → β} {l : List α} {i : Nat} : (l.map f).eraseIdx i = (l.eraseIdx i).map f := by
  induction l generalizing i with
  | nil => rfl
  | cons x r ih => cases i with
    | zero => rfl
    | succ i => simp [ih]
theorem popAt_l {α : Type} {f : α → D} {l : List α} {w : Int} (h0 : 0 ≤ w) (h1 : w < l.length) (hl : l.length < 16777216) : mwPopAt (.lst (l.map f)) [.p (.int w)] = some (.lst ((l.eraseIdx w.toNat).map f), .p (f (l[w.toNat]'(by omega)))) := by
  have lt : w.toNat < l.length := by omega
  have sx := seqIx h0 h1
  unfold mwPopAt
  simp only [List.length_map]
  rw [if_pos (by omega), sx]
  have g : (l.map f)[w.toNat]? = some (f l[w.toNat]) := by simp [lt]
  simp only [g, eraseIdx_map']
theorem mingled_h {α : Type} {f : α → D} {es : List α} {c : C} {R : Sto} {r : FR} (b_c : isBag c) (hl : es.length ≤ 100000) (h : f__law_mingled [.loc 0, .p (.lst (es.map f))] (c :: R) = r) :
    ∃ (c' : C) (ds : List α), isBag c' ∧ ds.Perm es ∧ r = .ok (.fr (.lst (ds.map f))) (c' :: R) := by
  simp [f__law_mingled, mfOf_ev, m__law_mingled, s__law_mingled_1, s__law_mingled_2, s__law_mingled_3, s__law_mingled_4, show es.length ≤ 16777216 by omega, r1K_nat (show es.length ≤ 16777216 by omega)] at h
  generalize hf : forE _ _ _ _ _ = rf at h
  obtain ⟨F', T', e2, c2, left, out, y4, b2, hll, ho, hp, rfl, rfl⟩ := for_h hf (fun xs F T => ∃ (c2 : C) (left out : List α) (y4 : Sim.S), isBag c2 ∧ left.length = xs.length ∧ out.length + left.length = es.length ∧ (out ++ left).Perm es ∧ F = [.e (.loc 0), .e (.p (.lst (es.map f))), .o (.lst (left.map f)), .o (.lst (out.map f)), y4] ∧ T = c2 :: R)
    ⟨c, es, [], .u, b_c, by simp [rng_len], by simp, by simp, rfl, rfl⟩ (by
      rintro x xs F T ⟨c2, left, out, y4, b_c2, hll, ho, hp, rfl, rfl⟩
      refine ⟨_, rfl, fun r hr => ?_⟩
      rw [List.length_cons] at hll
      simp [b__law_mingled_1, show left.length ≤ 16777216 by omega] at hr
      generalize hp_w : f__law_pick _ _ = rp_w at hr
      obtain ⟨w, c3, hq_w, b_c3, w_0, w_1⟩ := pick_h hp_w rfl b_c2 (by omega) (by omega)
      rw [hq_w] at hr
      clear hp_w hq_w
      simp [popAt_l (f := f) w_0 w_1 (by omega), show out.length < 16777216 by omega] at hr
      have lt : w.toNat < left.length := by omega
      refine ⟨_, _, .inl hr.symm, c3, left.eraseIdx w.toNat, out ++ [left[w.toNat]], _, b_c3, by rw [List.length_eraseIdx_of_lt lt]; omega, ?_, ?_, (by simp <;> first | rfl | exact ⟨rfl, rfl⟩ | exact ⟨rfl, rfl, rfl⟩), rfl⟩
      · rw [List.length_eraseIdx_of_lt lt]; simp; omega
      · rw [List.append_assoc]
        exact ((ers_perm lt).append_left out).trans hp)
  obtain rfl : left = [] := List.length_eq_zero_iff.mp hll
  rw [List.append_nil] at hp
  simp [e2] at h
  exact ⟨c2, out, b2, hp, h.symm⟩
theorem asked_h {ns : List Int} (hl : ns.length ≤ 60) {S : Sto} {r : FR} (h : f__law_asked [.p (.lst (ns.map .int))] S = r) : ∃ ms : List Int, ms.length ≤ 100 ∧ r = .ok (.e (.p (.lst (ms.map .int)))) S := by
  simp [f__law_asked, mfOf_ev, m__law_asked, s__law_asked_1, s__law_asked_2, s__law_asked_3] at h
  simp [show ns.length ≤ 16777214 by omega] at h
  by_cases hs : ns.length < 10
  · simp [show (ns.length : Int) < 10 by omega, show ns.length ≤ 16777216 by omega] at h
    generalize hc : lcE _ _ _ _ _ _ _ _ = rc at h
    have h1 := lc_h (f := E.p ∘ D.int) (xs := ns) hc (fun n => decide (n > 1)) (fun n => .int (n - 1)) (by omega) (fun x _ => ⟨_, rfl, by simp [b__law_asked_1], fun _ => by simp [b__law_asked_2], rfl⟩)
    have fl : (ns.filter fun n => decide (1 < n)).length ≤ ns.length := List.length_filter_le _ _
    simp [h1, show ns.length + 2 + (ns.filter fun n => decide (1 < n)).length ≤ 16777216 by omega] at h
    generalize hd : lcE _ _ _ _ _ _ _ _ = rd at h
    have h2 := lca_h (f := E.p ∘ D.int) (xs := ns) hd (fun n => .int (n + 1)) (by omega) (fun x _ => ⟨_, rfl, rfl, by simp [b__law_asked_3], rfl⟩)
    simp [h2, show ns.length + ((ns.filter fun n => decide (1 < n)).length + 1 + 1) + ns.length ≤ 16777216 by omega] at h
    exact ⟨ns ++ [1, 999] ++ (ns.filter fun n => decide (1 < n)).map (· - 1) ++ ns.map (· + 1), by simp; omega, by simp [← h] <;> rfl⟩
  · simp [show ¬ (ns.length : Int) < 10 by omega, show ns.length ≤ 16777216 by omega] at h
    exact ⟨ns ++ [1, 999], by simp; omega, by simp [← h] <;> rfl⟩
end Law

set_option linter.all false
set_option maxRecDepth 100000
set_option maxHeartbeats 4000000
namespace Law
open PySem L2 Sim
/-! ### groups -/
def grp (xss : List (List Ent)) : List C := xss.map fun es => .lst (es.map entD)
theorem set_map' {α β : Type} {f : α → β} {l : List α} {i : Nat} {x : α} : (l.map f).set i (f x) = (l.set i x).map f := List.map_set.symm
theorem put_flat {α : Type} : ∀ {xss : List (List α)} {i : Nat} (h : i < xss.length) {a : α}, ((xss.set i (xss[i] ++ [a])).flatten).Perm (xss.flatten ++ [a])
  | x :: r, 0, _, a => by
    simp only [List.set_cons_zero, List.getElem_cons_zero, List.flatten_cons]
    rw [List.append_assoc, List.append_assoc]
    exact (List.perm_append_comm).append_left x
  | x :: r, i + 1, h, a => by
    have h' : i < r.length := by rw [List.length_cons] at h; omega
    simp only [List.set_cons_succ, List.getElem_cons_succ, List.flatten_cons]
    rw [List.append_assoc]
    exact (put_flat h').append_left x
theorem up_ext : ∀ {a b : List Ent}, Up a → Up b → (∀ e, e ∈ a ↔ e ∈ b) → a = b
  | [], [], _, _, _ => rfl
  | [], y :: r, _, _, h => absurd ((h y).mpr List.mem_cons_self) List.not_mem_nil
  | x :: r, [], _, _, h => absurd ((h x).mp List.mem_cons_self) List.not_mem_nil
  | x :: r, y :: s, h1, h2, h => by
    obtain ⟨a1, a2⟩ := List.pairwise_cons.mp h1
    obtain ⟨b1, b2⟩ := List.pairwise_cons.mp h2
    have e : x = y := by
      rcases List.mem_cons.mp ((h x).mp List.mem_cons_self) with e | e
      · exact e
      · rcases List.mem_cons.mp ((h y).mpr List.mem_cons_self) with f | f
        · exact f.symm
        · have := b1 x e
          have := a1 y f
          omega
    subst e
    rw [up_ext a2 b2 fun e => ?_]
    constructor
    · intro he
      rcases List.mem_cons.mp ((h e).mp (List.mem_cons_of_mem _ he)) with rfl | k
      · have := a1 _ he; omega
      · exact k
    · intro he
      rcases List.mem_cons.mp ((h e).mpr (List.mem_cons_of_mem _ he)) with rfl | k
      · have := b1 _ he; omega
      · exact k
theorem One.perm {a b : List Ent} (h : One a) (p : a.Perm b) : One b := p.pairwise h fun h e => h e.symm
theorem One.cons {ds : List Ent} (h : One ds) : Cons ds := by
  induction ds with
  | nil => intro a ha; cases ha
  | cons x r ih =>
    obtain ⟨h1, h2⟩ := List.pairwise_cons.mp h
    intro a ha b hb e
    rcases List.mem_cons.mp ha with rfl | ha' <;> rcases List.mem_cons.mp hb with rfl | hb'
    · rfl
    · exact absurd e (h1 _ hb')
    · exact absurd e.symm (h1 _ ha')
    · exact ih h2 a ha' b hb' e
theorem one_of {es : List Ent} {ns : List Int} (h : es.map Ent.n = ns) (up : ns.Pairwise (· < ·)) : One es := by
  subst h
  exact (List.pairwise_map.mp up).imp fun h => by omega
theorem due_told {read ds : List Ent} (up : Up ds) (hp : ds.Perm read) {n : Int} : (if n ∈ st ds.reverse [] then (Str.ofString "stands") else if n ∈ read.map Ent.n then Str.ofString "gone" else Str.ofString "none") = toldS ds n := by
  unfold toldS
  have hm : n ∈ read.map Ent.n ↔ n ∈ ds.map Ent.n := (hp.map Ent.n).symm.mem_iff
  by_cases h1 : n ∈ st ds.reverse []
  · have h2 : n ∈ ds.map Ent.n := by
      have := st_mem h1
      rw [List.map_reverse] at this
      exact List.mem_reverse.mp this
    simp only [h1, h2, if_true]
  · by_cases h2 : n ∈ ds.map Ent.n
    · simp only [h1, h2, hm.mpr h2, if_true, if_false]
    · rw [if_neg h1, if_neg h2, if_neg fun z => h2 (hm.mp z)]
end Law

set_option linter.all false
set_option maxRecDepth 100000
set_option maxHeartbeats 4000000
namespace Law
open PySem L2 Sim
theorem names_h {c : C} {a : Sim.S} {rs : List Sim.S} {r : RS} (b_c : isBag c) (h : forE (gN 3) b_law_1 (rngE 0 2) (a :: .e (.loc 0) :: .e (.loc 1) :: rs) [c, .lst []] = r) : ∃ (c' : C) (nms : List Str) (y : Sim.S), isBag c' ∧ okN nms ∧ nms.length = 2 ∧ r = .nx (a :: .e (.loc 0) :: .e (.loc 1) :: (rs.set 0 y)) [c', .lst (nms.map .str)] := by
  obtain ⟨F', T', e, c1, nms, y, b1, hn, hl, rfl, rfl⟩ := for_h h (fun xs F T => ∃ (c : C) (nms : List Str) (y : Sim.S), isBag c ∧ okN nms ∧ nms.length + xs.length = 2 ∧ F = (a :: .e (.loc 0) :: .e (.loc 1) :: (rs.set 0 y)) ∧ T = [c, .lst (nms.map .str)])
    ⟨c, [], rs.headD .u, b_c, (by unfold okN; simp), by simp [rng_len], by cases rs <;> rfl, rfl⟩ (by
      rintro x xs F T ⟨c, nms, y, b_c, hn, hl, rfl, rfl⟩
      refine ⟨_, rfl, fun r hr => ?_⟩
      rw [List.length_cons] at hl
      obtain ⟨t, c', ht, _, b', e⟩ := new_name_ok (S := [c, .lst (nms.map .str)]) (n := 0) (m := 1) rfl b_c rfl (by decide) hn (by omega)
      simp [b_law_1, e] at hr
      refine ⟨_, _, .inl hr.symm, c', nms ++ [t], .e x, b', fun s hs => ?_, by simp; omega, by simp [gN] <;> rfl, by simp⟩
      rcases List.mem_append.mp hs with hs | hs
      · exact hn s hs
      · rw [List.mem_singleton.mp hs]; exact ht)
  exact ⟨c1, nms, y, b1, hn, hl, e⟩
end Law

set_option linter.all false
set_option maxRecDepth 100000
set_option maxHeartbeats 4000000
namespace Law
open PySem L2 Sim
theorem set_same {α : Type} {S : List α} {n : Nat} {c : α} (h : S[n]? = some c) : S.set n c = S := by
  obtain ⟨h1, h2⟩ := List.getElem?_eq_some_iff.mp h
  rw [← h2]
  exact List.set_getElem_self h1
def locs (q : Nat) : List E := (List.range q).map fun i => .loc (2 + i)
theorem locs_at {q : Nat} {w : Int} (h0 : 0 ≤ w) (h1 : w < q) : atI (locs q) w = some (.loc (2 + w.toNat)) := by
  rw [atI_nn h0]
  unfold locs
  rw [List.getElem?_map, List.getElem?_range (by omega)]
  rfl
theorem locs_lst {q : Nat} (h : 1 ≤ q) : lstV (locs q) = .lse (locs q) := by
  obtain ⟨n, rfl⟩ : ∃ n, q = n + 1 := ⟨q - 1, by omega⟩
  unfold locs
  rw [List.range_succ_eq_map]
  rfl
theorem locs_sc {q n : Nat} (h : 2 + q ≤ n) : E.scL n (locs q) = true := by
  have key : ∀ l : List Nat, (∀ i ∈ l, 2 + i < n) → E.scL n (l.map fun i => E.loc (2 + i)) = true := by
    intro l
    induction l with
    | nil => intro _; rfl
    | cons x r ih =>
      intro h
      simp [h x List.mem_cons_self, ih fun i hi => h i (List.mem_cons_of_mem _ hi)]
  exact key _ fun i hi => by have := List.mem_range.mp hi; omega
theorem cells_h {F : Fr} {c n : C} {q : Nat} {r : Rs (List E)} (h3 : F[3]? = some .u) (h : lceE (gN 3) tT b_law_2 [3] (rngE 0 q) [] F [c, n] = r) (hq : q ≤ 4) : r = .ok (locs q) F (c :: n :: grp (List.replicate q [])) := by
  obtain ⟨ds, T', e, he, hk, rfl⟩ := lcex_h h (fun es acc T => acc = locs acc.length ∧ acc.length + es.length = q ∧ T = c :: n :: grp (List.replicate acc.length []))
    ⟨rfl, by simp [rng_len], rfl⟩ (by
      rintro x xs acc T ⟨he, hk, rfl⟩
      rw [List.length_cons] at hk
      have h3' : (F.set 3 (.e x)).set 3 .u = F := by rw [List.set_set]; exact set_same h3
      refine ⟨F.set 3 (.e x), ?_, h3', ?_⟩
      · have : 3 < F.length := (List.getElem?_eq_some_iff.mp h3).1
        simp [gN, this]
      rintro rt rfl
      refine ⟨true, _, rfl, (by intro z; cases z), fun _ re hre => ?_⟩
      simp [b_law_2] at hre
      refine ⟨.loc (grp (List.replicate acc.length [])).length.succ.succ, _, hre.symm, ⟨?_, by simp; omega, ?_⟩, by omega⟩
      · unfold grp locs
        rw [he]
        simp [locs, List.range_succ]
        omega
      · unfold grp
        simp [List.replicate_succ'])
  simp at hk
  rw [hk] at he e
  rw [e, he]
end Law

set_option linter.all false
set_option maxRecDepth 100000
set_option maxHeartbeats 4000000
namespace Law
open PySem L2 Sim
theorem grp_at {xss : List (List Ent)} {c n : C} {rs : List C} {w : Nat} (h : w < xss.length) : (c :: n :: (grp xss ++ rs))[2 + w]? = some (.lst (xss[w].map entD)) := by
  rw [show 2 + w = w + 1 + 1 by omega]
  simp only [List.getElem?_cons_succ]
  rw [List.getElem?_append_left (by simpa [grp] using h)]
  simp [grp, h]
theorem grp_set {xss : List (List Ent)} {c n : C} {w : Nat} {es : List Ent} : (c :: n :: grp xss).set (2 + w) (.lst (es.map entD)) = c :: n :: grp (xss.set w es) := by
  rw [show 2 + w = w + 1 + 1 by omega]
  simp only [List.set_cons_succ]
  unfold grp
  exact congrArg (fun l => c :: n :: l) (set_map' (f := fun es : List Ent => C.lst (es.map entD)))
theorem groups_h {a y3 f4 f5 f6 f7 y10 f11 f12 f13 f14 f15 f16 : Sim.S} {c n : C} {q : Nat} {ds : List Ent} {r : RS} (hq : q ≤ 4) (q1 : 1 ≤ q) (hl : ds.length ≤ 1000) (b_c : isBag c)
    (h : forE (gN 10) b_law_3 (ds.map (E.p ∘ entD)) [a, .e (.loc 0), .e (.loc 1), y3, f4, f5, f6, f7, .e (.p (.int q)), .o (.lse (locs q)), y10, f11, f12, f13, f14, f15, f16] (c :: n :: grp (List.replicate q [])) = r) :
    ∃ (d : C) (xss : List (List Ent)) (y : Sim.S), isBag d ∧ xss.length = q ∧ xss.flatten.Perm ds ∧ r = .nx [a, .e (.loc 0), .e (.loc 1), y3, f4, f5, f6, f7, .e (.p (.int q)), .o (.lse (locs q)), y, f11, f12, f13, f14, f15, f16] (d :: n :: grp xss) := by
  obtain ⟨F', T', e, d, xss, done, rest, y, b', hxl, he, hd, hp, rfl, rfl⟩ := for_h h (fun xs F T => ∃ (d : C) (xss : List (List Ent)) (done rest : List Ent) (y : Sim.S), isBag d ∧ xss.length = q ∧ xs = rest.map (E.p ∘ entD) ∧ done ++ rest = ds ∧ xss.flatten.Perm done ∧ F = [a, .e (.loc 0), .e (.loc 1), y3, f4, f5, f6, f7, .e (.p (.int q)), .o (.lse (locs q)), y, f11, f12, f13, f14, f15, f16] ∧ T = d :: n :: grp xss)
    ⟨c, _, [], ds, y10, b_c, by simp, rfl, rfl, by simp, rfl, rfl⟩ (by
      rintro x xs F T ⟨d, xss, done, rest, y, b_d, hxl, he, hd, hp, rfl, rfl⟩
      cases rest with
      | nil => cases he
      | cons e r =>
        rw [List.map_cons] at he
        obtain ⟨rfl, rfl⟩ := List.cons.inj he
        refine ⟨_, rfl, fun rr hr => ?_⟩
        simp [b_law_3] at hr
        generalize hp_w : f__law_pick _ _ = rp_w at hr
        obtain ⟨w, c1, hq_w, b_c1, w_0, w_1⟩ := pick_h hp_w rfl b_d (by omega) (by omega)
        rw [hq_w] at hr
        clear hp_w hq_w
        have wl : w.toNat < xss.length := by omega
        have g := grp_at (c := c1) (n := n) (rs := []) wl
        rw [List.append_nil] at g
        have gl : xss[w.toNat].length < 16777216 := by
          have h1 : xss[w.toNat].length ≤ xss.flatten.length := (List.sublist_flatten_of_mem (List.getElem_mem wl)).length_le
          have h2 := hp.length_eq
          have h3 := congrArg List.length hd
          simp at h3
          omega
        simp [locs_at w_0 (by omega : w < q), g, gl] at hr
        rw [show xss[w.toNat].map entD ++ [entD e] = (xss[w.toNat] ++ [e]).map entD by simp, grp_set] at hr
        exact ⟨_, _, .inl hr.symm, c1, xss.set w.toNat (xss[w.toNat] ++ [e]), done ++ [e], r, _, b_c1, by simp [hxl], rfl, by simpa using hd, (put_flat wl).trans (hp.append_right [e]), rfl, rfl⟩)
  have : rest = [] := by simpa using he.symm
  subst this
  rw [List.append_nil] at hd
  subst hd
  exact ⟨d, xss, y, b', hxl, hp, e⟩
end Law

set_option linter.all false
set_option maxRecDepth 100000
set_option maxHeartbeats 4000000
namespace Law
open PySem L2 Sim
theorem asks_h {a y3 f4 f5 f6 f8 f9 f10 y16 : Sim.S} {d1 d2 e1 e2 : List Ent} (u1 : Up d1) (k1 : okL d1) (l1 : d1.length ≤ 1000) (p1 : d1.Perm e1) (u2 : Up d2) (k2 : okL d2) (l2 : d2.length ≤ 1000) (p2 : d2.Perm e2) {i1 i2 : Nat} {T : Sto} (h1 : T[i1]? = some (shC d1)) (h2 : T[i2]? = some (shC d2)) {ms : List Int} {r : RS}
    (h : forE (gN 16) b_law_4 (ms.map (E.p ∘ D.int)) [a, .e (.loc 0), .e (.loc 1), y3, f4, f5, f6, .e (.p (.lst (e2.map entD))), f8, f9, f10, .e (.loc i2), .e (.p (.lst ((st d2.reverse []).map .int))), .e (.loc i1), .e (.p (.lst (e1.map entD))), .e (.p (.lst ((st d1.reverse []).map .int))), y16] T = r) :
    ∃ y, r = .nx [a, .e (.loc 0), .e (.loc 1), y3, f4, f5, f6, .e (.p (.lst (e2.map entD))), f8, f9, f10, .e (.loc i2), .e (.p (.lst ((st d2.reverse []).map .int))), .e (.loc i1), .e (.p (.lst (e1.map entD))), .e (.p (.lst ((st d1.reverse []).map .int))), y] T := by
  have n1 := p1.length_eq
  have n2 := p2.length_eq
  obtain ⟨F', T', e, rest, y, he, rfl, rfl⟩ := for_h h (fun xs F T' => ∃ (rest : List Int) (y : Sim.S), xs = rest.map (E.p ∘ D.int) ∧ F = [a, .e (.loc 0), .e (.loc 1), y3, f4, f5, f6, .e (.p (.lst (e2.map entD))), f8, f9, f10, .e (.loc i2), .e (.p (.lst ((st d2.reverse []).map .int))), .e (.loc i1), .e (.p (.lst (e1.map entD))), .e (.p (.lst ((st d1.reverse []).map .int))), y] ∧ T' = T)
    ⟨ms, y16, rfl, rfl, rfl⟩ (by
      rintro x xs F T' ⟨rest, y, he, rfl, rfl⟩
      cases rest with
      | nil => cases he
      | cons n q =>
        rw [List.map_cons] at he
        obtain ⟨rfl, rfl⟩ := List.cons.inj he
        refine ⟨_, rfl, fun r hr => ?_⟩
        have t1 := told_eq u1 k1 l1 h1 (n := n)
        have t2 := told_eq u2 k2 l2 h2 (n := n)
        have g1 := fun S => due_eq (es := e1) (by omega) (xs := st d1.reverse []) (n := n) (S := S)
        have g2 := fun S => due_eq (es := e2) (by omega) (xs := st d2.reverse []) (n := n) (S := S)
        rw [due_told u1 p1] at g1
        rw [due_told u2 p2] at g2
        simp [b_law_4, t1, t2, g1, g2] at hr
        exact ⟨_, _, .inl hr.symm, q, _, rfl, rfl, rfl⟩)
  exact ⟨y, e⟩
end Law

set_option linter.all false
set_option maxRecDepth 100000
set_option maxHeartbeats 4000000
namespace Law
open PySem L2 Sim
def stQ (c n : C) (xss : List (List Ent)) (d2 d1 : List Ent) : Sto := c :: n :: (grp xss ++ [shC d2, shC d1])
theorem stQ_1 {c n : C} {xss : List (List Ent)} {d2 d1 : List Ent} : (stQ c n xss d2 d1)[3 + xss.length]? = some (shC d1) := by
  unfold stQ
  rw [show 3 + xss.length = xss.length + 1 + 1 + 1 by omega]
  simp only [List.getElem?_cons_succ]
  rw [List.getElem?_append_right (by simp [grp])]
  simp [grp]
theorem stQ_2 {c n : C} {xss : List (List Ent)} {d2 d1 : List Ent} : (stQ c n xss d2 d1)[2 + xss.length]? = some (shC d2) := by
  unfold stQ
  rw [show 2 + xss.length = xss.length + 1 + 1 by omega]
  simp only [List.getElem?_cons_succ]
  rw [List.getElem?_append_right (by simp [grp])]
  simp [grp]
theorem stQ_set {c n : C} {xss : List (List Ent)} {d2 d1 d3 : List Ent} : (stQ c n xss d2 d1).set (3 + xss.length) (shC d3) = stQ c n xss d2 d3 := by
  unfold stQ
  rw [show 3 + xss.length = xss.length + 1 + 1 + 1 by omega]
  simp only [List.set_cons_succ]
  rw [List.set_append_right _ _ (by simp [grp])]
  simp [grp]
theorem stQ_g {c n : C} {xss : List (List Ent)} {d2 d1 : List Ent} {k : Nat} (h : k < xss.length) : (stQ c n xss d2 d1)[2 + k]? = some (.lst (xss[k].map entD)) := grp_at h
theorem set_end {S : Sto} {x y : C} : (S ++ [x]).set S.length y = S ++ [y] := by
  rw [List.set_append_right _ _ (by omega)]
  simp
theorem new_h {es : List Ent} (ok : okL es) (nc : Cons es) (hl : es.length ≤ 1000) {S : Sto} {y : E} (hy : y = .p (nmE es) ∨ ∃ n, y = .loc n ∧ S[n]? = some (.lst (es.map entD))) {r : FR} (h : f_Sheet____init__ [.loc S.length, y] (S ++ [.ins "Sheet" []]) = r) :
    ∃ ds : List Ent, Up ds ∧ (∀ e, e ∈ ds ↔ e ∈ es) ∧ ds.length ≤ es.length ∧ r = .ok (.e (.p .non)) (S ++ [shC ds]) := by
  obtain ⟨ds, h1, h2, h3, h4⟩ := init_h ok nc hl (S := S ++ [.ins "Sheet" []]) (i := S.length) (by simp) (by
    rcases hy with e | ⟨n, e, k⟩
    · exact .inl e
    · exact .inr ⟨n, e, by rw [List.getElem?_append_left (List.getElem?_eq_some_iff.mp k).1]; exact k⟩) h
  exact ⟨ds, h1, h2, h3, by rw [h4, set_end]⟩
theorem fz_shC {ds : List Ent} : (shC ds).fz = some (shD ds) := rfl
theorem locs_ix {q k : Nat} (h : k < q) : (locs q)[k]? = some (.loc (2 + k)) := by
  unfold locs
  rw [List.getElem?_map, List.getElem?_range h]
  rfl
theorem tail_h {a y3 f4 f6 f10 f8 f9 y15 y16 : Sim.S} {T : Sto} {i1 i2 : Nat} {d1 d2 e1 e2 : List Ent} {ns : List Int} (hns : ns.length ≤ 60) (ok : okL e1) (one : One e1) (hl : e1.length ≤ 60)
    (h1 : T[i1]? = some (shC d1)) (h2 : T[i2]? = some (shC d2)) (u1 : Up d1) (m1 : ∀ e, e ∈ d1 ↔ e ∈ e1) (u2 : Up d2) (k2 : okL d2) (l2 : d2.length ≤ 1000) (p2 : d2.Perm e2) {r : RS}
    (h : (sSeq (sAsg 15 (cFz (cFn 1 f__law_stood (cCons (cVar 14) cNil)))) (sForA (cFz (cFn 1 f__law_asked (cCons (cVar 5) cNil))) (gN 16) b_law_4)) [a, .e (.loc 0), .e (.loc 1), y3, f4, .e (.p (.lst (ns.map .int))), f6, .e (.p (.lst (e2.map entD))), f8, f9, f10, .e (.loc i2), .e (.p (.lst ((st d2.reverse []).map .int))), .e (.loc i1), .e (.p (.lst (e1.map entD))), y15, y16] T = r) :
    ∃ y15 y16, r = .nx [a, .e (.loc 0), .e (.loc 1), y3, f4, .e (.p (.lst (ns.map .int))), f6, .e (.p (.lst (e2.map entD))), f8, f9, f10, .e (.loc i2), .e (.p (.lst ((st d2.reverse []).map .int))), .e (.loc i1), .e (.p (.lst (e1.map entD))), y15, y16] T := by
  simp at h
  generalize hc : f__law_stood _ _ = rc at h
  obtain ⟨ds, up, pm, rfl⟩ := stood_h one (by omega) hc
  obtain rfl : ds = d1 := up_ext up u1 fun e => by rw [pm.mem_iff, m1]
  simp at h
  generalize hc2 : f__law_asked _ _ = rc2 at h
  obtain ⟨ms, ml, rfl⟩ := asked_h hns hc2
  simp at h
  have k1 : okL ds := fun e he => ok e ((m1 e).mp he)
  have l1 := pm.length_eq
  generalize hf : forE _ _ _ _ _ = rf at h
  obtain ⟨y, e⟩ := asks_h u1 k1 (by omega) pm u2 k2 l2 p2 h1 h2 hf
  exact ⟨_, y, by rw [← h, e]⟩
theorem turn_h {a f4 f6 f10 y15 y16 : Sim.S} {c nm : C} {xss : List (List Ent)} {d1 d2 e1 e2 : List Ent} {ns : List Int} {k : Nat} (hk : k < xss.length) (hns : ns.length ≤ 60) (ok : okL xss.flatten) (one : One xss.flatten) (hl : xss.flatten.length ≤ 60)
    (he1 : e1 = (xss.take (max 1 k)).flatten) (dl : d1.length ≤ e1.length) (u1 : Up d1) (m1 : ∀ e, e ∈ d1 ↔ e ∈ e1) (u2 : Up d2) (k2 : okL d2) (l2 : d2.length ≤ 1000) (p2 : d2.Perm e2) {r : RS}
    (h : b_law_5 [a, .e (.loc 0), .e (.loc 1), .e (.p (.int k)), f4, .e (.p (.lst (ns.map .int))), f6, .e (.p (.lst (e2.map entD))), .e (.p (.int xss.length)), .o (.lse (locs xss.length)), f10, .e (.loc (2 + xss.length)), .e (.p (.lst ((st d2.reverse []).map .int))), .e (.loc (3 + xss.length)), .e (.p (.lst (e1.map entD))), y15, y16] (stQ c nm xss d2 d1) = r) :
    ∃ d3 e3 y15 y16, e3 = (xss.take (k + 1)).flatten ∧ d3.length ≤ e3.length ∧ Up d3 ∧ (∀ e, e ∈ d3 ↔ e ∈ e3) ∧ r = .nx [a, .e (.loc 0), .e (.loc 1), .e (.p (.int k)), f4, .e (.p (.lst (ns.map .int))), f6, .e (.p (.lst (e2.map entD))), .e (.p (.int xss.length)), .o (.lse (locs xss.length)), f10, .e (.loc (2 + xss.length)), .e (.p (.lst ((st d2.reverse []).map .int))), .e (.loc (3 + xss.length)), .e (.p (.lst (e3.map entD))), y15, y16] (stQ c nm xss d2 d3) := by
  have sub : ∀ j, ((xss.take j).flatten).Sublist xss.flatten := fun j => by
    conv => rhs; rw [← List.take_append_drop j xss]
    rw [List.flatten_append]
    exact List.sublist_append_left _ _
  by_cases k0 : k = 0
  · subst k0
    have s1 := sub 1
    rw [show max 1 0 = 1 from rfl] at he1
    rw [← he1] at s1
    simp only [b_law_5, sSeq_ev] at h
    simp [-sSeq_ev] at h
    obtain ⟨y15, y16, e⟩ := tail_h hns (fun e he => ok e (s1.subset he)) (one.sublist s1) (by have := s1.length_le; omega) stQ_1 stQ_2 u1 m1 u2 k2 l2 p2 h
    exact ⟨d1, e1, y15, y16, by rw [he1], dl, u1, m1, e⟩
  · have k1 : 0 < k := by omega
    have mx : max 1 k = k := by omega
    rw [mx] at he1
    have s1 := sub (k + 1)
    have e3 : (xss.take (k + 1)).flatten = e1 ++ xss[k] := by
      rw [List.take_succ, List.getElem?_eq_getElem hk, List.flatten_append, ← he1]
      simp
    rw [e3] at s1
    simp [b_law_5, k1, locs_ix hk] at h
    have oks := fun e he => ok e (s1.subset he)
    have ones := one.sublist s1
    have ls := s1.length_le
    rw [List.length_append] at ls
    generalize hi : f_Sheet____init__ _ _ = ri at h
    obtain ⟨dk, uk, mk, lk, rfl⟩ := new_h (es := xss[k]) (fun e he => oks e (List.mem_append_right _ he)) (One.cons (ones.sublist (List.sublist_append_right _ _))) (by omega) (S := stQ c nm xss d2 d1) (.inr ⟨2 + k, rfl, stQ_g hk⟩) hi
    rw [mkR_ok rfl rfl] at h
    have hs : (stQ c nm xss d2 d1)[3 + xss.length]? = some (.ins "Sheet" [("by_number", .p (.dic (d1.map kvE)))]) := stQ_1
    have ow := fun F f y => ownI_loc (tab := ot_ior) (f := f) (F := F) (y := y) hs rfl
    simp [fz_shC, ow] at h
    generalize hj : f_Sheet____ior__ _ _ = rj at h
    have mem2 : ∀ e, e ∈ d1 ++ dk ↔ e ∈ e1 ++ xss[k] := fun e => by rw [List.mem_append, List.mem_append, m1, mk]
    obtain ⟨d3, u3, m3, l3, rfl⟩ := ior_h (fun e he => oks e ((mem2 e).mp he)) (fun x hx y hy e => One.cons ones x ((mem2 x).mp hx) y ((mem2 y).mp hy) e) (by rw [List.length_append]; omega) stQ_1 hj
    rw [List.length_append] at l3
    have g := fun d => stQ_g (c := c) (n := nm) (xss := xss) (d2 := d2) (d1 := d) hk
    simp [stQ_set, locs_ix hk, g, show e1.length + xss[k].length ≤ 16777216 by omega, ← List.map_append] at h
    have m3' : ∀ e, e ∈ d3 ↔ e ∈ e1 ++ xss[k] := fun e => (m3 e).trans (mem2 e)
    obtain ⟨y15, y16, e⟩ := tail_h hns oks ones (by rw [List.length_append]; omega) stQ_1 stQ_2 u3 m3' u2 k2 l2 p2 h
    exact ⟨d3, e1 ++ xss[k], y15, y16, e3.symm, by rw [List.length_append]; omega, u3, m3', e⟩
end Law

set_option linter.all false
set_option maxRecDepth 100000
set_option maxHeartbeats 4000000
namespace Law
open PySem L2 Sim
theorem locs_pure {q : Nat} (h : 1 ≤ q) : pureL (locs q) = none := by
  obtain ⟨n, rfl⟩ : ∃ n, q = n + 1 := ⟨q - 1, by omega⟩
  unfold locs
  rw [List.range_succ_eq_map]
  rfl
theorem law_r1 {a y3 : Sim.S} {c : C} {nms : List Str} {m : Nat} {r : FR} (hm : m ≤ 60) (b_c : isBag c) (hn : okN nms) (hnl : nms.length = 2)
    (h : rsOut 0 ((sSeq s_law_6 (sSeq s_law_7 (sSeq s_law_8 (sSeq s_law_9 (sSeq s_law_10 (sSeq s_law_11 (sSeq s_law_12 (sSeq s_law_13 (sSeq s_law_14 (sSeq s_law_15 (sSeq s_law_16 s_law_17))))))))))) [a, .e (.loc 0), .e (.loc 1), y3, .e (.p (.int m)), .u, .u, .u, .u, .u, .u, .u, .u, .u, .u, .u, .u] [c, .lst (nms.map .str)]) = r) : r = .ok (.e (.p (.bl true))) [] := by
  simp [s_law_6] at h
  generalize hc : f__law_numbers _ _ = rc at h
  obtain ⟨c1, ns, b_c1, rfl, nl, up, nr⟩ := numbers_h hm b_c hc
  simp [s_law_7] at h
  generalize hc1 : f__law_rows _ _ = rc1 at h
  obtain ⟨c2, es1, b_c2, rfl, ne1, ok1⟩ := rows_h b_c1 (by omega) up nr hn (by omega) (by omega) hc1
  simp [s_law_8] at h
  generalize hc2 : f__law_rows _ _ = rc2 at h
  obtain ⟨c3, es2, b_c3, rfl, ne2, ok2⟩ := rows_h b_c2 (by omega) up nr hn (by omega) (by omega) hc2
  simp [s_law_9] at h
  generalize hp_w : f__law_pick _ _ = rp_w at h
  obtain ⟨w, c4, hq_w, b_c4, w_0, w_1⟩ := pick_h hp_w rfl b_c3 (by omega) (by omega)
  rw [hq_w] at h
  clear hp_w hq_w
  clear hc hc1 hc2 b_c b_c1 b_c2
  have L1 : es1.length = m := by rw [← nl, ← ne1, List.length_map]
  have L2 : es2.length = m := by rw [← nl, ← ne2, List.length_map]
  have one1 := one_of ne1 up
  have one2 := one_of ne2 up
  obtain ⟨q, hq, q1, q4⟩ : ∃ q : Nat, 1 + w = q ∧ 1 ≤ q ∧ q ≤ 4 := ⟨(1 + w).toNat, by omega, by omega, by omega⟩
  simp [s_law_10, hq, r1K_nat (show q ≤ 16777216 by omega)] at h
  generalize hl : lceE _ _ _ _ _ _ _ _ = rl at h
  have hl2 := cells_h rfl hl q4
  simp [hl2, locs_pure q1, locs_sc (show 2 + q ≤ (grp (List.replicate q [])).length + 1 + 1 by simp [grp]; omega)] at h
  clear hl hl2
  simp [s_law_11] at h
  generalize hi : f__law_mingled _ _ = ri at h
  obtain ⟨c5, ds1, b_c5, p1, rfl⟩ := mingled_h b_c4 (by omega) hi
  have l1 := p1.length_eq
  simp at h
  generalize hg : forE _ _ _ _ _ = rg at h
  obtain ⟨c6, xss, y10, b_c6, xl, xp, rfl⟩ := groups_h (ds := ds1) q4 q1 (by omega) b_c5 hg
  clear hg hi
  have xpp := xp.trans p1
  simp [s_law_12] at h
  generalize hi : f__law_mingled _ _ = ri at h
  obtain ⟨c7, ds2, b_c7, p2, rfl⟩ := mingled_h b_c6 (by omega) hi
  clear hi b_c6
  have l2 := p2.length_eq
  simp at h
  generalize hi : f_Sheet____init__ _ _ = ri at h
  obtain ⟨d2, u2, m2, k2, rfl⟩ := new_h (es := ds2) (fun e he => ok2 e (p2.mem_iff.mp he)) (One.cons (one2.perm p2.symm)) (by omega) (S := c7 :: .lst (nms.map .str) :: grp xss) (.inl rfl) hi
  clear hi
  rw [mkR_ok rfl rfl] at h
  have sc2 : ∀ n, (shC d2).sc n = true := fun n => rfl
  simp [sc2] at h
  simp [s_law_13] at h
  generalize hs : f__law_stood _ _ = rs at h
  obtain ⟨ds, ud, pm, rfl⟩ := stood_h one2 (by omega) hs
  obtain rfl : ds = d2 := up_ext ud u2 fun e => by rw [m2, pm.mem_iff, p2.mem_iff]
  clear hs
  subst xl
  have gl : (grp xss).length = xss.length := by simp [grp]
  have x0 : 0 < xss.length := by omega
  have g2 : ∀ rs, (c7 :: .lst (nms.map .str) :: (grp xss ++ rs))[2]? = some (.lst (xss[0].map entD)) := fun rs => grp_at (w := 0) x0
  have lx : (locs xss.length)[0]? = some (.loc 2) := locs_ix (k := 0) (by omega)
  have e11 : xss.length + 1 + 1 = 2 + xss.length := by omega
  have e13 : xss.length + 1 + 1 + 1 = 3 + xss.length := by omega
  simp [s_law_14, lx] at h
  rw [gl, e13, e11] at h
  generalize hi : f_Sheet____init__ _ _ = ri at h
  have one3 : One xss.flatten := one1.perm xpp.symm
  have ok3 : okL xss.flatten := fun e he => ok1 e (xpp.mem_iff.mp he)
  have l3 := xpp.length_eq
  have s0 : xss[0].Sublist xss.flatten := List.sublist_flatten_of_mem (List.getElem_mem x0)
  have l0 := s0.length_le
  rw [show 3 + xss.length = List.length (c7 :: .lst (nms.map .str) :: (grp xss ++ [shC ds])) by simp [gl]; omega,
    show c7 :: C.lst (nms.map .str) :: (grp xss ++ [shC ds, .ins "Sheet" []]) = (c7 :: .lst (nms.map .str) :: (grp xss ++ [shC ds])) ++ [.ins "Sheet" []] by simp] at hi
  obtain ⟨d1, u1, m1, k1, rfl⟩ := new_h (es := xss[0]) (fun e he => ok3 e (s0.subset he)) (One.cons (one3.sublist s0)) (by omega) (.inr ⟨2, rfl, g2 _⟩) hi
  clear hi
  rw [mkR_ok rfl rfl] at h
  have sc1 : ∀ n, (shC d1).sc n = true := fun n => rfl
  simp [sc1, gl, e13] at h
  have lf : ∀ F rs, listF F (c7 :: .lst (nms.map .str) :: (grp xss ++ rs)) (.e (.loc 2)) = some (.fr (.lst (xss[0].map entD))) := fun F rs => list_loc (g2 rs)
  simp [s_law_15, lx, lf] at h
  have hx0 : xss[0] = (xss.take (max 1 0)).flatten := by
    rw [show max 1 0 = 1 from rfl]
    obtain ⟨x, r, rfl⟩ : ∃ x r, xss = x :: r := by
      cases xss with
      | nil => simp at x0
      | cons x r => exact ⟨x, r, rfl⟩
    simp
  simp [s_law_16, r1K_nat (show xss.length ≤ 16777216 by omega)] at h
  generalize hf : forE _ _ _ _ _ = rf at h
  obtain ⟨F', T', e, k, e1, d3, y3, y15, y16, he, h1, h2, h3, h4, h5, rfl, rfl⟩ := for_h hf (fun xs F T => ∃ (k : Nat) (e1 d3 : List Ent) (y3 y15 y16 : Sim.S), xs = (rngE 0 xss.length).drop k ∧ k ≤ xss.length ∧ e1 = (xss.take (max 1 k)).flatten ∧ d3.length ≤ e1.length ∧ Up d3 ∧ (∀ e, e ∈ d3 ↔ e ∈ e1) ∧ F = [a, .e (.loc 0), .e (.loc 1), y3, .e (.p (.int m)), .e (.p (.lst (ns.map .int))), .e (.p (.lst (es1.map entD))), .e (.p (.lst (es2.map entD))), .e (.p (.int xss.length)), .o (.lse (locs xss.length)), y10, .e (.loc (2 + xss.length)), .e (.p (.lst ((st ds.reverse []).map .int))), .e (.loc (3 + xss.length)), .e (.p (.lst (e1.map entD))), y15, y16] ∧ T = stQ c7 (.lst (nms.map .str)) xss ds d3)
    ⟨0, xss[0], d1, .u, .u, .u, rfl, by omega, hx0, k1, u1, m1, rfl, rfl⟩ (by
      rintro x xs F T ⟨k, e1, d3, y3, y15, y16, he, h1, h2, h3, h4, h5, rfl, rfl⟩
      obtain ⟨kl, rfl, rfl⟩ := rngE_drop he
      rw [Int.zero_add]
      refine ⟨_, rfl, fun r hr => ?_⟩
      obtain ⟨d4, e4, z15, z16, i1, i2, i3, i4, i5⟩ := turn_h kl (by omega) ok3 one3 (by omega) h2 h3 h4 h5 u2 (fun e he => ok2 e (pm.mem_iff.mp he)) (by omega) pm hr
      exact ⟨_, _, .inl i5, k + 1, e4, d4, _, z15, z16, rfl, by omega, by rw [i1, show max 1 (k + 1) = k + 1 by omega], i2, i3, i4, rfl, rfl⟩)
  simp [e, s_law_17] at h
  exact h.symm
theorem law_true : ∀ ns : List Int, ns.length ≤ 63 → f_law [.p (.rol (ns.map .int))] [] = .ok (.e (.p (.bl true))) [] := by
  intro is hi
  obtain ⟨seed, e1⟩ := bag_ok is hi []
  have b_c : isBag (bag is 0 0 0 seed) := ⟨is, 0, 0, 0, seed, rfl, by omega, by omega⟩
  generalize bag is 0 0 0 seed = c at e1 b_c
  generalize h : f_law _ _ = r
  simp [f_law, mfOf_ev, m_law, s_law_1, s_law_2, s_law_3, s_law_4, s_law_5, e1, r1K_ok (j := 2) (by decide) (by decide), show (2 : Int).toNat = 2 from rfl] at h
  generalize hf : forE _ _ _ _ _ = rf at h
  obtain ⟨c1, nms, y3, b_c1, hn, hnl, e2⟩ := names_h b_c hf
  simp [e2] at h
  clear hf e2 e1 b_c c
  generalize hp_w : f__law_pick _ _ = rp_w at h
  obtain ⟨w, c2, hq_w, b_c2, w_0, w_1⟩ := pick_h hp_w rfl b_c1 (by omega) (by omega)
  rw [hq_w] at h
  clear hp_w hq_w
  simp at h
  generalize hp_w2 : f__law_pick _ _ = rp_w2 at h
  obtain ⟨w2, c3, hq_w2, b_c3, w2_0, w2_1⟩ := pick_h hp_w2 rfl b_c2 (by omega) (by omega)
  rw [hq_w2] at h
  clear hp_w2 hq_w2
  simp at h
  by_cases k : w2 = 0
  · simp [k] at h
    generalize hp_w3 : f__law_pick _ _ = rp_w3 at h
    obtain ⟨w3, c4, hq_w3, b_c4, w3_0, w3_1⟩ := pick_h hp_w3 rfl b_c3 (by omega) (by omega)
    rw [hq_w3] at h
    clear hp_w3 hq_w3
    obtain ⟨m, hm⟩ : ∃ m : Nat, 30 + w3 = m := ⟨(30 + w3).toNat, by omega⟩
    simp [hm] at h
    exact law_r1 (by omega) b_c4 hn hnl h
  · obtain ⟨m, rfl⟩ : ∃ m : Nat, w = m := ⟨w.toNat, by omega⟩
    simp [k] at h
    exact law_r1 (by omega) b_c3 hn hnl h
end Law

set_option Elab.async false
set_option linter.all false
set_option maxRecDepth 100000
set_option maxHeartbeats 4000000
namespace Law
open PySem L2 Sim PySem.W
open PyProof.Rows (envOfC)
def Gof (l : List (String × Addr)) : String → Addr := fun c => ((l.find? fun x => x.1 == c).map (·.2)).getD 0
theorem kit_self {K : PySem.W.Frag} {C : Addr} : kitOne K (.ref C) (.ref C) = some true := by
  unfold kitOne
  rw [if_pos (beq_self_eq_true _)]
theorem kit_ne {K : PySem.W.Frag} {t c : Value} {b : Bool} (h : (t == c) = false) (k : kitCls K t c = some b) : kitOne K t c = some b := by
  unfold kitOne
  rw [h, if_neg Bool.false_ne_true]
  exact k
theorem all_mk {l : PySem.W.OpenLaw} {w : World} {K : PySem.W.Frag} {h : Heap} {mg : Str → Option Value} {fa : Addr} {f__law_bag : Addr} {od__law_bag an__law_bag : Option Addr} {sl__law_bag : Array (Option Value)} {oc__law_bag kV__law_bag dc__law_bag pm__law_bag cd__law_bag ct__law_bag : Value} {f__law_mixed : Addr} {od__law_mixed an__law_mixed : Option Addr} {sl__law_mixed : Array (Option Value)} {oc__law_mixed kV__law_mixed dc__law_mixed pm__law_mixed cd__law_mixed ct__law_mixed : Value} {f__law_pick : Addr} {od__law_pick an__law_pick : Option Addr} {sl__law_pick : Array (Option Value)} {oc__law_pick kV__law_pick dc__law_pick pm__law_pick cd__law_pick ct__law_pick : Value} {f__law_numbers : Addr} {od__law_numbers an__law_numbers : Option Addr} {sl__law_numbers : Array (Option Value)} {oc__law_numbers kV__law_numbers dc__law_numbers pm__law_numbers cd__law_numbers ct__law_numbers : Value} {f__law_choice : Addr} {od__law_choice an__law_choice : Option Addr} {sl__law_choice : Array (Option Value)} {oc__law_choice kV__law_choice dc__law_choice pm__law_choice cd__law_choice ct__law_choice : Value} {f__law_rows : Addr} {od__law_rows an__law_rows : Option Addr} {sl__law_rows : Array (Option Value)} {oc__law_rows kV__law_rows dc__law_rows pm__law_rows cd__law_rows ct__law_rows : Value} {f__law_mingled : Addr} {od__law_mingled an__law_mingled : Option Addr} {sl__law_mingled : Array (Option Value)} {oc__law_mingled kV__law_mingled dc__law_mingled pm__law_mingled cd__law_mingled ct__law_mingled : Value} {f_merged : Addr} {od_merged an_merged : Option Addr} {sl_merged : Array (Option Value)} {oc_merged kV_merged dc_merged pm_merged cd_merged ct_merged : Value} {f_ascending : Addr} {od_ascending an_ascending : Option Addr} {sl_ascending : Array (Option Value)} {oc_ascending kV_ascending dc_ascending pm_ascending cd_ascending ct_ascending : Value} {f_numbered : Addr} {od_numbered an_numbered : Option Addr} {sl_numbered : Array (Option Value)} {oc_numbered kV_numbered dc_numbered pm_numbered cd_numbered ct_numbered : Value} {f_is_number : Addr} {od_is_number an_is_number : Option Addr} {sl_is_number : Array (Option Value)} {oc_is_number kV_is_number dc_is_number pm_is_number cd_is_number ct_is_number : Value} {f_is_name : Addr} {od_is_name an_is_name : Option Addr} {sl_is_name : Array (Option Value)} {oc_is_name kV_is_name dc_is_name pm_is_name cd_is_name ct_is_name : Value} {f_is_entry : Addr} {od_is_entry an_is_entry : Option Addr} {sl_is_entry : Array (Option Value)} {oc_is_entry kV_is_entry dc_is_entry pm_is_entry cd_is_entry ct_is_entry : Value} {f_Sheet____init__ : Addr} {od_Sheet____init__ an_Sheet____init__ : Option Addr} {sl_Sheet____init__ : Array (Option Value)} {oc_Sheet____init__ kV_Sheet____init__ dc_Sheet____init__ pm_Sheet____init__ cd_Sheet____init__ ct_Sheet____init__ : Value} {T_Sheet____init__ : Addr} {oT_Sheet____init__ : Value} {odT_Sheet____init__ : Option Addr} {nT_Sheet____init__ : Nat} {slT_Sheet____init__ : Array (Option Value)} {dv0_Sheet____init__ : Value} {f__law_sorted : Addr} {od__law_sorted an__law_sorted : Option Addr} {sl__law_sorted : Array (Option Value)} {oc__law_sorted kV__law_sorted dc__law_sorted pm__law_sorted cd__law_sorted ct__law_sorted : Value} {f__law_stood : Addr} {od__law_stood an__law_stood : Option Addr} {sl__law_stood : Array (Option Value)} {oc__law_stood kV__law_stood dc__law_stood pm__law_stood cd__law_stood ct__law_stood : Value} {f__law_new_name : Addr} {od__law_new_name an__law_new_name : Option Addr} {sl__law_new_name : Array (Option Value)} {oc__law_new_name kV__law_new_name dc__law_new_name pm__law_new_name cd__law_new_name ct__law_new_name : Value} {f_Sheet____ior__ : Addr} {od_Sheet____ior__ an_Sheet____ior__ : Option Addr} {sl_Sheet____ior__ : Array (Option Value)} {oc_Sheet____ior__ kV_Sheet____ior__ dc_Sheet____ior__ pm_Sheet____ior__ cd_Sheet____ior__ ct_Sheet____ior__ : Value} {f__law_asked : Addr} {od__law_asked an__law_asked : Option Addr} {sl__law_asked : Array (Option Value)} {oc__law_asked kV__law_asked dc__law_asked pm__law_asked cd__law_asked ct__law_asked : Value} {f_Sheet__standing_numbers : Addr} {od_Sheet__standing_numbers an_Sheet__standing_numbers : Option Addr} {sl_Sheet__standing_numbers : Array (Option Value)} {oc_Sheet__standing_numbers kV_Sheet__standing_numbers dc_Sheet__standing_numbers pm_Sheet__standing_numbers cd_Sheet__standing_numbers ct_Sheet__standing_numbers : Value} {f_Sheet__stands : Addr} {od_Sheet__stands an_Sheet__stands : Option Addr} {sl_Sheet__stands : Array (Option Value)} {oc_Sheet__stands kV_Sheet__stands dc_Sheet__stands pm_Sheet__stands cd_Sheet__stands ct_Sheet__stands : Value} {f__law_number : Addr} {od__law_number an__law_number : Option Addr} {sl__law_number : Array (Option Value)} {oc__law_number kV__law_number dc__law_number pm__law_number cd__law_number ct__law_number : Value} {f__law_told : Addr} {od__law_told an__law_told : Option Addr} {sl__law_told : Array (Option Value)} {oc__law_told kV__law_told dc__law_told pm__law_told cd__law_told ct__law_told : Value} {f__law_due : Addr} {od__law_due an__law_due : Option Addr} {sl__law_due : Array (Option Value)} {oc__law_due kV__law_due dc__law_due pm__law_due cd__law_due ct__law_due : Value} {f_law : Addr} {od_law an_law : Option Addr} {sl_law : Array (Option Value)} {oc_law kV_law dc_law pm_law cd_law ct_law : Value} {C_Sheet : Addr} {C_BadEntry : Addr} {C_BadNumber : Addr} {C_Clash : Addr} {C_DueError : Addr} {C_NoEntry : Addr} {gk_LAST_DAY : Tok} {gk_LAST_NUMBER : Tok} {gk_LETTERS : Tok} {fI_Clash N_Clash : Addr} {nm_Clash q_Clash : Str} {bs_Clash sub_Clash : List Value} {sn_Clash : List Str} {ab_Clash : Bool} {col_Clash : Option Bool} {dd_Clash : Option Addr} {m0_Clash m1_Clash m2_Clash m3_Clash m5_Clash : Option Value} {odI_Clash anI_Clash : Option Addr} {slI_Clash : Array (Option Value)} {ocI_Clash kVI_Clash dcI_Clash pmI_Clash cdI_Clash ctI_Clash : Value} {fI_BadEntry N_BadEntry : Addr} {nm_BadEntry q_BadEntry : Str} {bs_BadEntry sub_BadEntry : List Value} {sn_BadEntry : List Str} {ab_BadEntry : Bool} {col_BadEntry : Option Bool} {dd_BadEntry : Option Addr} {m0_BadEntry m1_BadEntry m2_BadEntry m3_BadEntry m5_BadEntry : Option Value} {odI_BadEntry anI_BadEntry : Option Addr} {slI_BadEntry : Array (Option Value)} {ocI_BadEntry kVI_BadEntry dcI_BadEntry pmI_BadEntry cdI_BadEntry ctI_BadEntry : Value} {fI_NoEntry N_NoEntry : Addr} {nm_NoEntry q_NoEntry : Str} {bs_NoEntry sub_NoEntry : List Value} {sn_NoEntry : List Str} {ab_NoEntry : Bool} {col_NoEntry : Option Bool} {dd_NoEntry : Option Addr} {m0_NoEntry m1_NoEntry m2_NoEntry m3_NoEntry m5_NoEntry : Option Value} {odI_NoEntry anI_NoEntry : Option Addr} {slI_NoEntry : Array (Option Value)} {ocI_NoEntry kVI_NoEntry dcI_NoEntry pmI_NoEntry cdI_NoEntry ctI_NoEntry : Value} (X : K.In h) (Gn : h.Ns mainGlobals mg) (hfa : mg "law" = some (.ref fa))
    (z_ValueError : nsIn K mainGlobals "ValueError" = some none)
    (z_abs : nsIn K mainGlobals "abs" = some none)
    (z_bool : nsIn K mainGlobals "bool" = some none)
    (z_enumerate : nsIn K mainGlobals "enumerate" = some none)
    (z_int : nsIn K mainGlobals "int" = some none)
    (z_isinstance : nsIn K mainGlobals "isinstance" = some none)
    (z_len : nsIn K mainGlobals "len" = some none)
    (z_list : nsIn K mainGlobals "list" = some none)
    (z_range : nsIn K mainGlobals "range" = some none)
    (z_reversed : nsIn K mainGlobals "reversed" = some none)
    (z_str : nsIn K mainGlobals "str" = some none)
    (z_tuple : nsIn K mainGlobals "tuple" = some none)
    (a__law_bag : nsIn K mainGlobals "_law_bag" = some (some (.ref f__law_bag)))
    (l__law_bag : K.lookup f__law_bag = some ⟨oc__law_bag, od__law_bag, .func (fnOf "_law_bag" "_law_bag" (defArgs st__law_bag) (defBody st__law_bag) (defScope st__law_bag) .none kV__law_bag dc__law_bag pm__law_bag an__law_bag cd__law_bag ct__law_bag), sl__law_bag⟩)
    (c__law_bag : codeIn K cd__law_bag "_law_bag" = true)
    (k__law_bag : keepIn K (.ref f__law_bag) = true)
    (a__law_mixed : nsIn K mainGlobals "_law_mixed" = some (some (.ref f__law_mixed)))
    (l__law_mixed : K.lookup f__law_mixed = some ⟨oc__law_mixed, od__law_mixed, .func (fnOf "_law_mixed" "_law_mixed" (defArgs st__law_mixed) (defBody st__law_mixed) (defScope st__law_mixed) .none kV__law_mixed dc__law_mixed pm__law_mixed an__law_mixed cd__law_mixed ct__law_mixed), sl__law_mixed⟩)
    (c__law_mixed : codeIn K cd__law_mixed "_law_mixed" = true)
    (k__law_mixed : keepIn K (.ref f__law_mixed) = true)
    (a__law_pick : nsIn K mainGlobals "_law_pick" = some (some (.ref f__law_pick)))
    (l__law_pick : K.lookup f__law_pick = some ⟨oc__law_pick, od__law_pick, .func (fnOf "_law_pick" "_law_pick" (defArgs st__law_pick) (defBody st__law_pick) (defScope st__law_pick) .none kV__law_pick dc__law_pick pm__law_pick an__law_pick cd__law_pick ct__law_pick), sl__law_pick⟩)
    (c__law_pick : codeIn K cd__law_pick "_law_pick" = true)
    (k__law_pick : keepIn K (.ref f__law_pick) = true)
    (a__law_numbers : nsIn K mainGlobals "_law_numbers" = some (some (.ref f__law_numbers)))
    (l__law_numbers : K.lookup f__law_numbers = some ⟨oc__law_numbers, od__law_numbers, .func (fnOf "_law_numbers" "_law_numbers" (defArgs st__law_numbers) (defBody st__law_numbers) (defScope st__law_numbers) .none kV__law_numbers dc__law_numbers pm__law_numbers an__law_numbers cd__law_numbers ct__law_numbers), sl__law_numbers⟩)
    (c__law_numbers : codeIn K cd__law_numbers "_law_numbers" = true)
    (k__law_numbers : keepIn K (.ref f__law_numbers) = true)
    (a__law_choice : nsIn K mainGlobals "_law_choice" = some (some (.ref f__law_choice)))
    (l__law_choice : K.lookup f__law_choice = some ⟨oc__law_choice, od__law_choice, .func (fnOf "_law_choice" "_law_choice" (defArgs st__law_choice) (defBody st__law_choice) (defScope st__law_choice) .none kV__law_choice dc__law_choice pm__law_choice an__law_choice cd__law_choice ct__law_choice), sl__law_choice⟩)
    (c__law_choice : codeIn K cd__law_choice "_law_choice" = true)
    (k__law_choice : keepIn K (.ref f__law_choice) = true)
    (a__law_rows : nsIn K mainGlobals "_law_rows" = some (some (.ref f__law_rows)))
    (l__law_rows : K.lookup f__law_rows = some ⟨oc__law_rows, od__law_rows, .func (fnOf "_law_rows" "_law_rows" (defArgs st__law_rows) (defBody st__law_rows) (defScope st__law_rows) .none kV__law_rows dc__law_rows pm__law_rows an__law_rows cd__law_rows ct__law_rows), sl__law_rows⟩)
    (c__law_rows : codeIn K cd__law_rows "_law_rows" = true)
    (k__law_rows : keepIn K (.ref f__law_rows) = true)
    (a__law_mingled : nsIn K mainGlobals "_law_mingled" = some (some (.ref f__law_mingled)))
    (l__law_mingled : K.lookup f__law_mingled = some ⟨oc__law_mingled, od__law_mingled, .func (fnOf "_law_mingled" "_law_mingled" (defArgs st__law_mingled) (defBody st__law_mingled) (defScope st__law_mingled) .none kV__law_mingled dc__law_mingled pm__law_mingled an__law_mingled cd__law_mingled ct__law_mingled), sl__law_mingled⟩)
    (c__law_mingled : codeIn K cd__law_mingled "_law_mingled" = true)
    (k__law_mingled : keepIn K (.ref f__law_mingled) = true)
    (a_merged : nsIn K mainGlobals "merged" = some (some (.ref f_merged)))
    (l_merged : K.lookup f_merged = some ⟨oc_merged, od_merged, .func (fnOf "merged" "merged" (defArgs st_merged) (defBody st_merged) (defScope st_merged) .none kV_merged dc_merged pm_merged an_merged cd_merged ct_merged), sl_merged⟩)
    (c_merged : codeIn K cd_merged "merged" = true)
    (k_merged : keepIn K (.ref f_merged) = true)
    (a_ascending : nsIn K mainGlobals "ascending" = some (some (.ref f_ascending)))
    (l_ascending : K.lookup f_ascending = some ⟨oc_ascending, od_ascending, .func (fnOf "ascending" "ascending" (defArgs st_ascending) (defBody st_ascending) (defScope st_ascending) .none kV_ascending dc_ascending pm_ascending an_ascending cd_ascending ct_ascending), sl_ascending⟩)
    (c_ascending : codeIn K cd_ascending "ascending" = true)
    (k_ascending : keepIn K (.ref f_ascending) = true)
    (a_numbered : nsIn K mainGlobals "numbered" = some (some (.ref f_numbered)))
    (l_numbered : K.lookup f_numbered = some ⟨oc_numbered, od_numbered, .func (fnOf "numbered" "numbered" (defArgs st_numbered) (defBody st_numbered) (defScope st_numbered) .none kV_numbered dc_numbered pm_numbered an_numbered cd_numbered ct_numbered), sl_numbered⟩)
    (c_numbered : codeIn K cd_numbered "numbered" = true)
    (k_numbered : keepIn K (.ref f_numbered) = true)
    (a_is_number : nsIn K mainGlobals "is_number" = some (some (.ref f_is_number)))
    (l_is_number : K.lookup f_is_number = some ⟨oc_is_number, od_is_number, .func (fnOf "is_number" "is_number" (defArgs st_is_number) (defBody st_is_number) (defScope st_is_number) .none kV_is_number dc_is_number pm_is_number an_is_number cd_is_number ct_is_number), sl_is_number⟩)
    (c_is_number : codeIn K cd_is_number "is_number" = true)
    (k_is_number : keepIn K (.ref f_is_number) = true)
    (a_is_name : nsIn K mainGlobals "is_name" = some (some (.ref f_is_name)))
    (l_is_name : K.lookup f_is_name = some ⟨oc_is_name, od_is_name, .func (fnOf "is_name" "is_name" (defArgs st_is_name) (defBody st_is_name) (defScope st_is_name) .none kV_is_name dc_is_name pm_is_name an_is_name cd_is_name ct_is_name), sl_is_name⟩)
    (c_is_name : codeIn K cd_is_name "is_name" = true)
    (k_is_name : keepIn K (.ref f_is_name) = true)
    (a_is_entry : nsIn K mainGlobals "is_entry" = some (some (.ref f_is_entry)))
    (l_is_entry : K.lookup f_is_entry = some ⟨oc_is_entry, od_is_entry, .func (fnOf "is_entry" "is_entry" (defArgs st_is_entry) (defBody st_is_entry) (defScope st_is_entry) .none kV_is_entry dc_is_entry pm_is_entry an_is_entry cd_is_entry ct_is_entry), sl_is_entry⟩)
    (c_is_entry : codeIn K cd_is_entry "is_entry" = true)
    (k_is_entry : keepIn K (.ref f_is_entry) = true)
    (l_Sheet____init__ : K.lookup f_Sheet____init__ = some ⟨oc_Sheet____init__, od_Sheet____init__, .func (fnOf "__init__" "Sheet.__init__" (defArgs st_Sheet____init__) (defBody st_Sheet____init__) (defScope st_Sheet____init__) (.ref T_Sheet____init__) kV_Sheet____init__ dc_Sheet____init__ pm_Sheet____init__ an_Sheet____init__ cd_Sheet____init__ ct_Sheet____init__), sl_Sheet____init__⟩)
    (tl_Sheet____init__ : K.lookup T_Sheet____init__ = some ⟨oT_Sheet____init__, odT_Sheet____init__, .seq #[dv0_Sheet____init__] nT_Sheet____init__, slT_Sheet____init__⟩)
    (c_Sheet____init__ : codeIn K cd_Sheet____init__ "Sheet.__init__" = true)
    (k_Sheet____init__ : keepIn K (.ref f_Sheet____init__) = true)
    (fn_Sheet____init__ : typeIn K (.ref f_Sheet____init__) = some (.type "function"))
    (a__law_sorted : nsIn K mainGlobals "_law_sorted" = some (some (.ref f__law_sorted)))
    (l__law_sorted : K.lookup f__law_sorted = some ⟨oc__law_sorted, od__law_sorted, .func (fnOf "_law_sorted" "_law_sorted" (defArgs st__law_sorted) (defBody st__law_sorted) (defScope st__law_sorted) .none kV__law_sorted dc__law_sorted pm__law_sorted an__law_sorted cd__law_sorted ct__law_sorted), sl__law_sorted⟩)
    (c__law_sorted : codeIn K cd__law_sorted "_law_sorted" = true)
    (k__law_sorted : keepIn K (.ref f__law_sorted) = true)
    (a__law_stood : nsIn K mainGlobals "_law_stood" = some (some (.ref f__law_stood)))
    (l__law_stood : K.lookup f__law_stood = some ⟨oc__law_stood, od__law_stood, .func (fnOf "_law_stood" "_law_stood" (defArgs st__law_stood) (defBody st__law_stood) (defScope st__law_stood) .none kV__law_stood dc__law_stood pm__law_stood an__law_stood cd__law_stood ct__law_stood), sl__law_stood⟩)
    (c__law_stood : codeIn K cd__law_stood "_law_stood" = true)
    (k__law_stood : keepIn K (.ref f__law_stood) = true)
    (a__law_new_name : nsIn K mainGlobals "_law_new_name" = some (some (.ref f__law_new_name)))
    (l__law_new_name : K.lookup f__law_new_name = some ⟨oc__law_new_name, od__law_new_name, .func (fnOf "_law_new_name" "_law_new_name" (defArgs st__law_new_name) (defBody st__law_new_name) (defScope st__law_new_name) .none kV__law_new_name dc__law_new_name pm__law_new_name an__law_new_name cd__law_new_name ct__law_new_name), sl__law_new_name⟩)
    (c__law_new_name : codeIn K cd__law_new_name "_law_new_name" = true)
    (k__law_new_name : keepIn K (.ref f__law_new_name) = true)
    (l_Sheet____ior__ : K.lookup f_Sheet____ior__ = some ⟨oc_Sheet____ior__, od_Sheet____ior__, .func (fnOf "__ior__" "Sheet.__ior__" (defArgs st_Sheet____ior__) (defBody st_Sheet____ior__) (defScope st_Sheet____ior__) .none kV_Sheet____ior__ dc_Sheet____ior__ pm_Sheet____ior__ an_Sheet____ior__ cd_Sheet____ior__ ct_Sheet____ior__), sl_Sheet____ior__⟩)
    (c_Sheet____ior__ : codeIn K cd_Sheet____ior__ "Sheet.__ior__" = true)
    (k_Sheet____ior__ : keepIn K (.ref f_Sheet____ior__) = true)
    (fn_Sheet____ior__ : typeIn K (.ref f_Sheet____ior__) = some (.type "function"))
    (a__law_asked : nsIn K mainGlobals "_law_asked" = some (some (.ref f__law_asked)))
    (l__law_asked : K.lookup f__law_asked = some ⟨oc__law_asked, od__law_asked, .func (fnOf "_law_asked" "_law_asked" (defArgs st__law_asked) (defBody st__law_asked) (defScope st__law_asked) .none kV__law_asked dc__law_asked pm__law_asked an__law_asked cd__law_asked ct__law_asked), sl__law_asked⟩)
    (c__law_asked : codeIn K cd__law_asked "_law_asked" = true)
    (k__law_asked : keepIn K (.ref f__law_asked) = true)
    (l_Sheet__standing_numbers : K.lookup f_Sheet__standing_numbers = some ⟨oc_Sheet__standing_numbers, od_Sheet__standing_numbers, .func (fnOf "standing_numbers" "Sheet.standing_numbers" (defArgs st_Sheet__standing_numbers) (defBody st_Sheet__standing_numbers) (defScope st_Sheet__standing_numbers) .none kV_Sheet__standing_numbers dc_Sheet__standing_numbers pm_Sheet__standing_numbers an_Sheet__standing_numbers cd_Sheet__standing_numbers ct_Sheet__standing_numbers), sl_Sheet__standing_numbers⟩)
    (c_Sheet__standing_numbers : codeIn K cd_Sheet__standing_numbers "Sheet.standing_numbers" = true)
    (k_Sheet__standing_numbers : keepIn K (.ref f_Sheet__standing_numbers) = true)
    (fn_Sheet__standing_numbers : typeIn K (.ref f_Sheet__standing_numbers) = some (.type "function"))
    (l_Sheet__stands : K.lookup f_Sheet__stands = some ⟨oc_Sheet__stands, od_Sheet__stands, .func (fnOf "stands" "Sheet.stands" (defArgs st_Sheet__stands) (defBody st_Sheet__stands) (defScope st_Sheet__stands) .none kV_Sheet__stands dc_Sheet__stands pm_Sheet__stands an_Sheet__stands cd_Sheet__stands ct_Sheet__stands), sl_Sheet__stands⟩)
    (c_Sheet__stands : codeIn K cd_Sheet__stands "Sheet.stands" = true)
    (k_Sheet__stands : keepIn K (.ref f_Sheet__stands) = true)
    (fn_Sheet__stands : typeIn K (.ref f_Sheet__stands) = some (.type "function"))
    (a__law_number : nsIn K mainGlobals "_law_number" = some (some (.ref f__law_number)))
    (l__law_number : K.lookup f__law_number = some ⟨oc__law_number, od__law_number, .func (fnOf "_law_number" "_law_number" (defArgs st__law_number) (defBody st__law_number) (defScope st__law_number) .none kV__law_number dc__law_number pm__law_number an__law_number cd__law_number ct__law_number), sl__law_number⟩)
    (c__law_number : codeIn K cd__law_number "_law_number" = true)
    (k__law_number : keepIn K (.ref f__law_number) = true)
    (a__law_told : nsIn K mainGlobals "_law_told" = some (some (.ref f__law_told)))
    (l__law_told : K.lookup f__law_told = some ⟨oc__law_told, od__law_told, .func (fnOf "_law_told" "_law_told" (defArgs st__law_told) (defBody st__law_told) (defScope st__law_told) .none kV__law_told dc__law_told pm__law_told an__law_told cd__law_told ct__law_told), sl__law_told⟩)
    (c__law_told : codeIn K cd__law_told "_law_told" = true)
    (k__law_told : keepIn K (.ref f__law_told) = true)
    (a__law_due : nsIn K mainGlobals "_law_due" = some (some (.ref f__law_due)))
    (l__law_due : K.lookup f__law_due = some ⟨oc__law_due, od__law_due, .func (fnOf "_law_due" "_law_due" (defArgs st__law_due) (defBody st__law_due) (defScope st__law_due) .none kV__law_due dc__law_due pm__law_due an__law_due cd__law_due ct__law_due), sl__law_due⟩)
    (c__law_due : codeIn K cd__law_due "_law_due" = true)
    (k__law_due : keepIn K (.ref f__law_due) = true)
    (a_law : nsIn K mainGlobals "law" = some (some (.ref f_law)))
    (l_law : K.lookup f_law = some ⟨oc_law, od_law, .func (fnOf "law" "law" (defArgs st_law) (defBody st_law) (defScope st_law) .none kV_law dc_law pm_law an_law cd_law ct_law), sl_law⟩)
    (c_law : codeIn K cd_law "law" = true)
    (k_law : keepIn K (.ref f_law) = true)
    (a_Sheet : nsIn K mainGlobals "Sheet" = some (some (.ref C_Sheet)))
    (pg_Sheet : plainGet K C_Sheet Str.empty = true)
    (hd_Sheet : hasDictIn K C_Sheet = true)
    (po_Sheet : plainOver K C_Sheet = true)
    (sa_Sheet : findIn K (.ref C_Sheet) "__setattr__" = some (some (.builtin "object.__setattr__")))
    (a_BadEntry : nsIn K mainGlobals "BadEntry" = some (some (.ref C_BadEntry)))
    (a_BadNumber : nsIn K mainGlobals "BadNumber" = some (some (.ref C_BadNumber)))
    (a_Clash : nsIn K mainGlobals "Clash" = some (some (.ref C_Clash)))
    (a_DueError : nsIn K mainGlobals "DueError" = some (some (.ref C_DueError)))
    (a_NoEntry : nsIn K mainGlobals "NoEntry" = some (some (.ref C_NoEntry)))
    (rdB : readsIn K C_DueError (.type "type") = true)
    (gaB : specialIn K (.ref C_DueError) "__getattribute__" = some (some (.builtin "type.__getattribute__")))
    (fcB : findCls K (.ref C_DueError) (.type "type") "__init__" = some (.val (.builtin "ValueError.__init__")))
    (gv_LAST_DAY : nsIn K mainGlobals "LAST_DAY" = some (some (.int 59 gk_LAST_DAY)))
    (gv_LAST_NUMBER : nsIn K mainGlobals "LAST_NUMBER" = some (some (.int 999 gk_LAST_NUMBER)))
    (gv_LETTERS : nsIn K mainGlobals "LETTERS" = some (some (.str "abcdefghijklmnopqrstuvwxyz" gk_LETTERS)))
    (no_Sheet_by_number : findIn K (.ref C_Sheet) "by_number" = some none)
    (fi_Sheet_standing_numbers : findIn K (.ref C_Sheet) "standing_numbers" = some (some (.ref f_Sheet__standing_numbers)))
    (fi_Sheet_stands : findIn K (.ref C_Sheet) "stands" = some (some (.ref f_Sheet__stands)))
    (fi_Sheet___ior__ : findIn K (.ref C_Sheet) "__ior__" = some (some (.ref f_Sheet____ior__)))
    (sf_Sheet : selfFirst K C_Sheet = true)
    (fi_Sheet___init__ : findIn K (.ref C_Sheet) "__init__" = some (some (.ref f_Sheet____init__)))
    (mi_Sheet : makesIn K C_Sheet = true)
    (ki_Sheet : keepIn K (.ref C_Sheet) = true)
    (x_Clash : K.lookup C_Clash = some (excClassObj nm_Clash q_Clash C_Clash N_Clash bs_Clash [.ref C_DueError, .type "ValueError", .type "Exception", .type "BaseException", .type "object"] true sn_Clash sub_Clash ab_Clash col_Clash dd_Clash m0_Clash m1_Clash m2_Clash m3_Clash m5_Clash "ValueError.__new__"))
    (sa_Clash : findIn K (.ref C_Clash) "__setattr__" = some (some (.builtin "object.__setattr__")))
    (ga_Clash : findIn K (.ref C_Clash) "__getattribute__" = some (some (.builtin "BaseException.__getattribute__")))
    (gg_Clash : findIn K (.ref C_Clash) "__getattr__" = some none)
    (sb_Clash : subIn K (.ref C_Clash) (.type "BaseException") = some true)
    (ty_Clash : typeIn K (.ref C_Clash) = some (.type "type"))
    (ke_Clash : keepIn K (.ref C_Clash) = true)
    (hd_Clash : hasDictIn K C_Clash = true)
    (ha_Clash : findIn K (.ref C_Clash) "__class__" = some (some (.builtin "object.__class__")))
    (mo_Clash : mroIn K C_Clash (.type "object") = some true)
    (fi_Clash : findIn K (.ref C_Clash) "__init__" = some (some (.ref fI_Clash)))
    (tf_Clash : typeIn K (.ref fI_Clash) = some (.type "function"))
    (li_Clash : K.lookup fI_Clash = some ⟨ocI_Clash, odI_Clash, .func (fnOf "__init__" "Clash.__init__" (defArgs st_Clash) (defBody st_Clash) (defScope st_Clash) .none kVI_Clash dcI_Clash pmI_Clash anI_Clash cdI_Clash ctI_Clash), slI_Clash⟩)
    (ci_Clash : codeIn K cdI_Clash "Clash.__init__" = true)
    (ki_Clash : keepIn K (.ref fI_Clash) = true)
    (no_Clash_number : findIn K (.ref C_Clash) "number" = some none)
    (x_BadEntry : K.lookup C_BadEntry = some (excClassObj nm_BadEntry q_BadEntry C_BadEntry N_BadEntry bs_BadEntry [.ref C_DueError, .type "ValueError", .type "Exception", .type "BaseException", .type "object"] true sn_BadEntry sub_BadEntry ab_BadEntry col_BadEntry dd_BadEntry m0_BadEntry m1_BadEntry m2_BadEntry m3_BadEntry m5_BadEntry "ValueError.__new__"))
    (sa_BadEntry : findIn K (.ref C_BadEntry) "__setattr__" = some (some (.builtin "object.__setattr__")))
    (ga_BadEntry : findIn K (.ref C_BadEntry) "__getattribute__" = some (some (.builtin "BaseException.__getattribute__")))
    (gg_BadEntry : findIn K (.ref C_BadEntry) "__getattr__" = some none)
    (sb_BadEntry : subIn K (.ref C_BadEntry) (.type "BaseException") = some true)
    (ty_BadEntry : typeIn K (.ref C_BadEntry) = some (.type "type"))
    (ke_BadEntry : keepIn K (.ref C_BadEntry) = true)
    (hd_BadEntry : hasDictIn K C_BadEntry = true)
    (ha_BadEntry : findIn K (.ref C_BadEntry) "__class__" = some (some (.builtin "object.__class__")))
    (mo_BadEntry : mroIn K C_BadEntry (.type "object") = some true)
    (fi_BadEntry : findIn K (.ref C_BadEntry) "__init__" = some (some (.ref fI_BadEntry)))
    (tf_BadEntry : typeIn K (.ref fI_BadEntry) = some (.type "function"))
    (li_BadEntry : K.lookup fI_BadEntry = some ⟨ocI_BadEntry, odI_BadEntry, .func (fnOf "__init__" "BadEntry.__init__" (defArgs st_BadEntry) (defBody st_BadEntry) (defScope st_BadEntry) .none kVI_BadEntry dcI_BadEntry pmI_BadEntry anI_BadEntry cdI_BadEntry ctI_BadEntry), slI_BadEntry⟩)
    (ci_BadEntry : codeIn K cdI_BadEntry "BadEntry.__init__" = true)
    (ki_BadEntry : keepIn K (.ref fI_BadEntry) = true)
    (no_BadEntry_entry : findIn K (.ref C_BadEntry) "entry" = some none)
    (x_NoEntry : K.lookup C_NoEntry = some (excClassObj nm_NoEntry q_NoEntry C_NoEntry N_NoEntry bs_NoEntry [.ref C_DueError, .type "ValueError", .type "Exception", .type "BaseException", .type "object"] true sn_NoEntry sub_NoEntry ab_NoEntry col_NoEntry dd_NoEntry m0_NoEntry m1_NoEntry m2_NoEntry m3_NoEntry m5_NoEntry "ValueError.__new__"))
    (sa_NoEntry : findIn K (.ref C_NoEntry) "__setattr__" = some (some (.builtin "object.__setattr__")))
    (ga_NoEntry : findIn K (.ref C_NoEntry) "__getattribute__" = some (some (.builtin "BaseException.__getattribute__")))
    (gg_NoEntry : findIn K (.ref C_NoEntry) "__getattr__" = some none)
    (sb_NoEntry : subIn K (.ref C_NoEntry) (.type "BaseException") = some true)
    (ty_NoEntry : typeIn K (.ref C_NoEntry) = some (.type "type"))
    (ke_NoEntry : keepIn K (.ref C_NoEntry) = true)
    (hd_NoEntry : hasDictIn K C_NoEntry = true)
    (ha_NoEntry : findIn K (.ref C_NoEntry) "__class__" = some (some (.builtin "object.__class__")))
    (mo_NoEntry : mroIn K C_NoEntry (.type "object") = some true)
    (fi_NoEntry : findIn K (.ref C_NoEntry) "__init__" = some (some (.ref fI_NoEntry)))
    (tf_NoEntry : typeIn K (.ref fI_NoEntry) = some (.type "function"))
    (li_NoEntry : K.lookup fI_NoEntry = some ⟨ocI_NoEntry, odI_NoEntry, .func (fnOf "__init__" "NoEntry.__init__" (defArgs st_NoEntry) (defBody st_NoEntry) (defScope st_NoEntry) .none kVI_NoEntry dcI_NoEntry pmI_NoEntry anI_NoEntry cdI_NoEntry ctI_NoEntry), slI_NoEntry⟩)
    (ci_NoEntry : codeIn K cdI_NoEntry "NoEntry.__init__" = true)
    (ki_NoEntry : keepIn K (.ref fI_NoEntry) = true)
    (no_NoEntry_number : findIn K (.ref C_NoEntry) "number" = some none)
    (hnC : specialIn K (.builtin "object.__class__") "__get__" = some (some (.builtin "getset_descriptor.__get__")))
    (htC : takesIn K (.builtin "object.__class__") = some true)
    (kv_BadEntry : kitCls K (.ref C_BadEntry) (.type "ValueError") = some true)
    (kv_Clash : kitCls K (.ref C_Clash) (.type "ValueError") = some true)
    (kv_NoEntry : kitCls K (.ref C_NoEntry) (.type "ValueError") = some true)
    (kt_BadEntry_BadNumber : kitCls K (.ref C_BadEntry) (.ref C_BadNumber) = some false)
    (ke_BadEntry_BadNumber : (Value.ref C_BadEntry == Value.ref C_BadNumber) = false)
    (kt_BadEntry_Clash : kitCls K (.ref C_BadEntry) (.ref C_Clash) = some false)
    (ke_BadEntry_Clash : (Value.ref C_BadEntry == Value.ref C_Clash) = false)
    (kt_BadEntry_NoEntry : kitCls K (.ref C_BadEntry) (.ref C_NoEntry) = some false)
    (ke_BadEntry_NoEntry : (Value.ref C_BadEntry == Value.ref C_NoEntry) = false)
    (kt_Clash_BadEntry : kitCls K (.ref C_Clash) (.ref C_BadEntry) = some false)
    (ke_Clash_BadEntry : (Value.ref C_Clash == Value.ref C_BadEntry) = false)
    (kt_Clash_BadNumber : kitCls K (.ref C_Clash) (.ref C_BadNumber) = some false)
    (ke_Clash_BadNumber : (Value.ref C_Clash == Value.ref C_BadNumber) = false)
    (kt_Clash_NoEntry : kitCls K (.ref C_Clash) (.ref C_NoEntry) = some false)
    (ke_Clash_NoEntry : (Value.ref C_Clash == Value.ref C_NoEntry) = false)
    (kt_NoEntry_BadEntry : kitCls K (.ref C_NoEntry) (.ref C_BadEntry) = some false)
    (ke_NoEntry_BadEntry : (Value.ref C_NoEntry == Value.ref C_BadEntry) = false)
    (kt_NoEntry_BadNumber : kitCls K (.ref C_NoEntry) (.ref C_BadNumber) = some false)
    (ke_NoEntry_BadNumber : (Value.ref C_NoEntry == Value.ref C_BadNumber) = false)
    (kt_NoEntry_Clash : kitCls K (.ref C_NoEntry) (.ref C_Clash) = some false)
    (ke_NoEntry_Clash : (Value.ref C_NoEntry == Value.ref C_Clash) = false)
    (sx_BadEntry_DueError : subIn K (.ref C_BadEntry) (.ref C_DueError) = some true)
    (sb_DueError : subIn K (.ref C_DueError) (.type "BaseException") = some true)
    (hd_DueError : hasDictIn K C_DueError = true)
    (ty_DueError : typeIn K (.ref C_DueError) = some (.type "type"))
    (sx_Clash_DueError : subIn K (.ref C_Clash) (.ref C_DueError) = some true)
    (sx_NoEntry_DueError : subIn K (.ref C_NoEntry) (.ref C_DueError) = some true) :
    ∃ fd : FuncData, (∀ (s : Shared) (v : Value), BindsTo s fd ⟨[v], []⟩ [("script", v)]) ∧ ∀ base : Heap, K.In base → base.Ns mainGlobals mg → FnG l.prog w K mg base 6 fa fd ["script"] (spTrue K) := by
  have e := hfa.symm.trans (mg_of X Gn a_law)
  cases e
  have Z : Fx K mg (Gof [("BadEntry", C_BadEntry), ("BadNumber", C_BadNumber), ("Clash", C_Clash), ("DueError", C_DueError), ("NoEntry", C_NoEntry), ("Sheet", C_Sheet)]) := {
    b_ValueError := mg_none_of X Gn z_ValueError
    b_abs := mg_none_of X Gn z_abs
    b_bool := mg_none_of X Gn z_bool
    b_enumerate := mg_none_of X Gn z_enumerate
    b_int := mg_none_of X Gn z_int
    b_isinstance := mg_none_of X Gn z_isinstance
    b_len := mg_none_of X Gn z_len
    b_list := mg_none_of X Gn z_list
    b_range := mg_none_of X Gn z_range
    b_reversed := mg_none_of X Gn z_reversed
    b_str := mg_none_of X Gn z_str
    b_tuple := mg_none_of X Gn z_tuple
    d__law_bag := ⟨f__law_bag, _, fun_mk (st := st__law_bag) l__law_bag c__law_bag k__law_bag, mg_of X Gn a__law_bag, k__law_bag, (fun_mk (st := st__law_bag) l__law_bag c__law_bag k__law_bag).binds (ps := ["script"]) fun _ _ _ _ _ _ us hl => match us, hl with | [_], _ => rfl⟩
    d__law_mixed := ⟨f__law_mixed, _, fun_mk (st := st__law_mixed) l__law_mixed c__law_mixed k__law_mixed, mg_of X Gn a__law_mixed, k__law_mixed, (fun_mk (st := st__law_mixed) l__law_mixed c__law_mixed k__law_mixed).binds (ps := ["number", "turn"]) fun _ _ _ _ _ _ us hl => match us, hl with | [_, _], _ => rfl⟩
    d__law_pick := ⟨f__law_pick, _, fun_mk (st := st__law_pick) l__law_pick c__law_pick k__law_pick, mg_of X Gn a__law_pick, k__law_pick, (fun_mk (st := st__law_pick) l__law_pick c__law_pick k__law_pick).binds (ps := ["bag", "many"]) fun _ _ _ _ _ _ us hl => match us, hl with | [_, _], _ => rfl⟩
    d__law_numbers := ⟨f__law_numbers, _, fun_mk (st := st__law_numbers) l__law_numbers c__law_numbers k__law_numbers, mg_of X Gn a__law_numbers, k__law_numbers, (fun_mk (st := st__law_numbers) l__law_numbers c__law_numbers k__law_numbers).binds (ps := ["bag", "many"]) fun _ _ _ _ _ _ us hl => match us, hl with | [_, _], _ => rfl⟩
    d__law_choice := ⟨f__law_choice, _, fun_mk (st := st__law_choice) l__law_choice c__law_choice k__law_choice, mg_of X Gn a__law_choice, k__law_choice, (fun_mk (st := st__law_choice) l__law_choice c__law_choice k__law_choice).binds (ps := ["bag", "things"]) fun _ _ _ _ _ _ us hl => match us, hl with | [_, _], _ => rfl⟩
    d__law_rows := ⟨f__law_rows, _, fun_mk (st := st__law_rows) l__law_rows c__law_rows k__law_rows, mg_of X Gn a__law_rows, k__law_rows, (fun_mk (st := st__law_rows) l__law_rows c__law_rows k__law_rows).binds (ps := ["bag", "numbers", "names"]) fun _ _ _ _ _ _ us hl => match us, hl with | [_, _, _], _ => rfl⟩
    d__law_mingled := ⟨f__law_mingled, _, fun_mk (st := st__law_mingled) l__law_mingled c__law_mingled k__law_mingled, mg_of X Gn a__law_mingled, k__law_mingled, (fun_mk (st := st__law_mingled) l__law_mingled c__law_mingled k__law_mingled).binds (ps := ["bag", "things"]) fun _ _ _ _ _ _ us hl => match us, hl with | [_, _], _ => rfl⟩
    d_merged := ⟨f_merged, _, fun_mk (st := st_merged) l_merged c_merged k_merged, mg_of X Gn a_merged, k_merged, (fun_mk (st := st_merged) l_merged c_merged k_merged).binds (ps := ["left", "right"]) fun _ _ _ _ _ _ us hl => match us, hl with | [_, _], _ => rfl⟩
    d_ascending := ⟨f_ascending, _, fun_mk (st := st_ascending) l_ascending c_ascending k_ascending, mg_of X Gn a_ascending, k_ascending, (fun_mk (st := st_ascending) l_ascending c_ascending k_ascending).binds (ps := ["things"]) fun _ _ _ _ _ _ us hl => match us, hl with | [_], _ => rfl⟩
    d_numbered := ⟨f_numbered, _, fun_mk (st := st_numbered) l_numbered c_numbered k_numbered, mg_of X Gn a_numbered, k_numbered, (fun_mk (st := st_numbered) l_numbered c_numbered k_numbered).binds (ps := ["things"]) fun _ _ _ _ _ _ us hl => match us, hl with | [_], _ => rfl⟩
    d_is_number := ⟨f_is_number, _, fun_mk (st := st_is_number) l_is_number c_is_number k_is_number, mg_of X Gn a_is_number, k_is_number, (fun_mk (st := st_is_number) l_is_number c_is_number k_is_number).binds (ps := ["thing", "low", "high"]) fun _ _ _ _ _ _ us hl => match us, hl with | [_, _, _], _ => rfl⟩
    d_is_name := ⟨f_is_name, _, fun_mk (st := st_is_name) l_is_name c_is_name k_is_name, mg_of X Gn a_is_name, k_is_name, (fun_mk (st := st_is_name) l_is_name c_is_name k_is_name).binds (ps := ["thing"]) fun _ _ _ _ _ _ us hl => match us, hl with | [_], _ => rfl⟩
    d_is_entry := ⟨f_is_entry, _, fun_mk (st := st_is_entry) l_is_entry c_is_entry k_is_entry, mg_of X Gn a_is_entry, k_is_entry, (fun_mk (st := st_is_entry) l_is_entry c_is_entry k_is_entry).binds (ps := ["thing"]) fun _ _ _ _ _ _ us hl => match us, hl with | [_], _ => rfl⟩
    d__law_sorted := ⟨f__law_sorted, _, fun_mk (st := st__law_sorted) l__law_sorted c__law_sorted k__law_sorted, mg_of X Gn a__law_sorted, k__law_sorted, (fun_mk (st := st__law_sorted) l__law_sorted c__law_sorted k__law_sorted).binds (ps := ["things"]) fun _ _ _ _ _ _ us hl => match us, hl with | [_], _ => rfl⟩
    d__law_stood := ⟨f__law_stood, _, fun_mk (st := st__law_stood) l__law_stood c__law_stood k__law_stood, mg_of X Gn a__law_stood, k__law_stood, (fun_mk (st := st__law_stood) l__law_stood c__law_stood k__law_stood).binds (ps := ["read"]) fun _ _ _ _ _ _ us hl => match us, hl with | [_], _ => rfl⟩
    d__law_new_name := ⟨f__law_new_name, _, fun_mk (st := st__law_new_name) l__law_new_name c__law_new_name k__law_new_name, mg_of X Gn a__law_new_name, k__law_new_name, (fun_mk (st := st__law_new_name) l__law_new_name c__law_new_name k__law_new_name).binds (ps := ["bag", "used"]) fun _ _ _ _ _ _ us hl => match us, hl with | [_, _], _ => rfl⟩
    d__law_asked := ⟨f__law_asked, _, fun_mk (st := st__law_asked) l__law_asked c__law_asked k__law_asked, mg_of X Gn a__law_asked, k__law_asked, (fun_mk (st := st__law_asked) l__law_asked c__law_asked k__law_asked).binds (ps := ["numbers"]) fun _ _ _ _ _ _ us hl => match us, hl with | [_], _ => rfl⟩
    d__law_number := ⟨f__law_number, _, fun_mk (st := st__law_number) l__law_number c__law_number k__law_number, mg_of X Gn a__law_number, k__law_number, (fun_mk (st := st__law_number) l__law_number c__law_number k__law_number).binds (ps := ["thing"]) fun _ _ _ _ _ _ us hl => match us, hl with | [_], _ => rfl⟩
    d__law_told := ⟨f__law_told, _, fun_mk (st := st__law_told) l__law_told c__law_told k__law_told, mg_of X Gn a__law_told, k__law_told, (fun_mk (st := st__law_told) l__law_told c__law_told k__law_told).binds (ps := ["sheet", "number"]) fun _ _ _ _ _ _ us hl => match us, hl with | [_, _], _ => rfl⟩
    d__law_due := ⟨f__law_due, _, fun_mk (st := st__law_due) l__law_due c__law_due k__law_due, mg_of X Gn a__law_due, k__law_due, (fun_mk (st := st__law_due) l__law_due c__law_due k__law_due).binds (ps := ["read", "stood", "number"]) fun _ _ _ _ _ _ us hl => match us, hl with | [_, _, _], _ => rfl⟩
    gv_LAST_DAY := ⟨_, mg_of X Gn gv_LAST_DAY, ⟨_, rfl⟩⟩
    gv_LAST_NUMBER := ⟨_, mg_of X Gn gv_LAST_NUMBER, ⟨_, rfl⟩⟩
    gv_LETTERS := ⟨_, mg_of X Gn gv_LETTERS, ⟨_, rfl⟩⟩
    fl_by_number := fun c hc => by
      rw [List.mem_singleton] at hc
      subst hc
      exact ⟨⟨pg_Sheet, hd_Sheet, po_Sheet, sa_Sheet⟩, no_Sheet_by_number⟩
    me_Sheet_standing_numbers := ⟨f_Sheet__standing_numbers, _, ⟨pg_Sheet, hd_Sheet, po_Sheet, sa_Sheet⟩, ⟨fi_Sheet_standing_numbers, beq_iff_eq.mpr fn_Sheet__standing_numbers, k_Sheet__standing_numbers⟩, fun_mk (st := st_Sheet__standing_numbers) l_Sheet__standing_numbers c_Sheet__standing_numbers k_Sheet__standing_numbers, (fun_mk (st := st_Sheet__standing_numbers) l_Sheet__standing_numbers c_Sheet__standing_numbers k_Sheet__standing_numbers).binds (ps := ["self"]) fun _ _ _ _ _ _ us hl => match us, hl with | [_], _ => rfl⟩
    me_Sheet_stands := ⟨f_Sheet__stands, _, ⟨pg_Sheet, hd_Sheet, po_Sheet, sa_Sheet⟩, ⟨fi_Sheet_stands, beq_iff_eq.mpr fn_Sheet__stands, k_Sheet__stands⟩, fun_mk (st := st_Sheet__stands) l_Sheet__stands c_Sheet__stands k_Sheet__stands, (fun_mk (st := st_Sheet__stands) l_Sheet__stands c_Sheet__stands k_Sheet__stands).binds (ps := ["self", "number"]) fun _ _ _ _ _ _ us hl => match us, hl with | [_, _], _ => rfl⟩
    so_Sheet_ior := ⟨f_Sheet____ior__, _, fi_Sheet___ior__, beq_iff_eq.mpr fn_Sheet____ior__, sf_Sheet, fun_mk (st := st_Sheet____ior__) l_Sheet____ior__ c_Sheet____ior__ k_Sheet____ior__, (fun_mk (st := st_Sheet____ior__) l_Sheet____ior__ c_Sheet____ior__ k_Sheet____ior__).binds (ps := ["self", "other"]) fun _ _ _ _ _ _ us hl => match us, hl with | [_, _], _ => rfl⟩
    nn_Sheet := ⟨f_Sheet____init__, _, ⟨mi_Sheet, fi_Sheet___init__, beq_iff_eq.mpr fn_Sheet____init__, ki_Sheet⟩, mg_of X Gn a_Sheet, funV_mk (st := st_Sheet____init__) l_Sheet____init__ c_Sheet____init__, fun s us ws hin h1 h2 => by
      match ws, h2 with
      | [], _ =>
        have h3 : us.length = 2 := by simpa using h1
        match us, h3 with
        | [_, _], _ => exact bind_dflt hin tl_Sheet____init__ rfl rfl rfl⟩
    g_BadEntry := mg_of X Gn a_BadEntry
    g_BadNumber := mg_of X Gn a_BadNumber
    g_Clash := mg_of X Gn a_Clash
    g_DueError := mg_of X Gn a_DueError
    g_NoEntry := mg_of X Gn a_NoEntry
    bB := ⟨mg_of X Gn a_DueError, ⟨rdB, gaB⟩, fcB⟩
    t_Clash := ⟨⟨nm_Clash, q_Clash, N_Clash, bs_Clash, _, sn_Clash, sub_Clash, ab_Clash, col_Clash, dd_Clash, m0_Clash, m1_Clash, m2_Clash, m3_Clash, m5_Clash, x_Clash, by first | rfl | decide +kernel⟩, sa_Clash, sb_Clash, ty_Clash, ke_Clash⟩
    i_Clash := ⟨fI_Clash, _, fi_Clash, tf_Clash, fun_mk (st := st_Clash) li_Clash ci_Clash ki_Clash, (fun_mk (st := st_Clash) li_Clash ci_Clash ki_Clash).binds (ps := ["self", "number"]) fun _ _ _ _ _ _ us hl => match us, hl with | [_, _], _ => rfl⟩
    xc_Clash := ⟨ga_Clash, gg_Clash, sb_Clash, hd_Clash, ha_Clash, hnC, htC, mo_Clash⟩
    xf_Clash := ⟨ga_Clash, gg_Clash, sb_Clash, hd_Clash⟩
    no_Clash_number := no_Clash_number
    t_BadEntry := ⟨⟨nm_BadEntry, q_BadEntry, N_BadEntry, bs_BadEntry, _, sn_BadEntry, sub_BadEntry, ab_BadEntry, col_BadEntry, dd_BadEntry, m0_BadEntry, m1_BadEntry, m2_BadEntry, m3_BadEntry, m5_BadEntry, x_BadEntry, by first | rfl | decide +kernel⟩, sa_BadEntry, sb_BadEntry, ty_BadEntry, ke_BadEntry⟩
    i_BadEntry := ⟨fI_BadEntry, _, fi_BadEntry, tf_BadEntry, fun_mk (st := st_BadEntry) li_BadEntry ci_BadEntry ki_BadEntry, (fun_mk (st := st_BadEntry) li_BadEntry ci_BadEntry ki_BadEntry).binds (ps := ["self", "entry"]) fun _ _ _ _ _ _ us hl => match us, hl with | [_, _], _ => rfl⟩
    xc_BadEntry := ⟨ga_BadEntry, gg_BadEntry, sb_BadEntry, hd_BadEntry, ha_BadEntry, hnC, htC, mo_BadEntry⟩
    xf_BadEntry := ⟨ga_BadEntry, gg_BadEntry, sb_BadEntry, hd_BadEntry⟩
    no_BadEntry_entry := no_BadEntry_entry
    t_NoEntry := ⟨⟨nm_NoEntry, q_NoEntry, N_NoEntry, bs_NoEntry, _, sn_NoEntry, sub_NoEntry, ab_NoEntry, col_NoEntry, dd_NoEntry, m0_NoEntry, m1_NoEntry, m2_NoEntry, m3_NoEntry, m5_NoEntry, x_NoEntry, by first | rfl | decide +kernel⟩, sa_NoEntry, sb_NoEntry, ty_NoEntry, ke_NoEntry⟩
    i_NoEntry := ⟨fI_NoEntry, _, fi_NoEntry, tf_NoEntry, fun_mk (st := st_NoEntry) li_NoEntry ci_NoEntry ki_NoEntry, (fun_mk (st := st_NoEntry) li_NoEntry ci_NoEntry ki_NoEntry).binds (ps := ["self", "number"]) fun _ _ _ _ _ _ us hl => match us, hl with | [_, _], _ => rfl⟩
    xc_NoEntry := ⟨ga_NoEntry, gg_NoEntry, sb_NoEntry, hd_NoEntry, ha_NoEntry, hnC, htC, mo_NoEntry⟩
    xf_NoEntry := ⟨ga_NoEntry, gg_NoEntry, sb_NoEntry, hd_NoEntry⟩
    no_NoEntry_number := no_NoEntry_number
    kv_BadEntry := kit_ne rfl kv_BadEntry
    kv_Clash := kit_ne rfl kv_Clash
    kv_NoEntry := kit_ne rfl kv_NoEntry
    kt_BadEntry_BadEntry := kit_self
    kt_BadEntry_BadNumber := kit_ne ke_BadEntry_BadNumber kt_BadEntry_BadNumber
    kt_BadEntry_Clash := kit_ne ke_BadEntry_Clash kt_BadEntry_Clash
    kt_BadEntry_NoEntry := kit_ne ke_BadEntry_NoEntry kt_BadEntry_NoEntry
    kt_Clash_BadEntry := kit_ne ke_Clash_BadEntry kt_Clash_BadEntry
    kt_Clash_BadNumber := kit_ne ke_Clash_BadNumber kt_Clash_BadNumber
    kt_Clash_Clash := kit_self
    kt_Clash_NoEntry := kit_ne ke_Clash_NoEntry kt_Clash_NoEntry
    kt_NoEntry_BadEntry := kit_ne ke_NoEntry_BadEntry kt_NoEntry_BadEntry
    kt_NoEntry_BadNumber := kit_ne ke_NoEntry_BadNumber kt_NoEntry_BadNumber
    kt_NoEntry_Clash := kit_ne ke_NoEntry_Clash kt_NoEntry_Clash
    kt_NoEntry_NoEntry := kit_self
    xm_BadEntry_DueError := exm_ref sb_DueError hd_DueError ty_DueError sx_BadEntry_DueError
    xm_Clash_DueError := exm_ref sb_DueError hd_DueError ty_DueError sx_Clash_DueError
    xm_NoEntry_DueError := exm_ref sb_DueError hd_DueError ty_DueError sx_NoEntry_DueError }
  exact ⟨_, fun s v => .of_eq rfl, fun base _ _ => (w_law (P := l.prog) (w := w) (base := base) Z (fun_mk (st := st_law) l_law c_law k_law)).imp (law_end law_true)⟩
end Law
open PySem PySem.W PyProof.Rows
set_option maxHeartbeats 0 in
theorem PySem.Challenge.cw_duehouse_k02_who_stands_holds : PySem.Challenge.rw_duehouse_k02_who_stands.Holds := by
  w_on; o_law; k_head; (case hw => w_witness2)
  k_fill
  refine Sim.walk_G (l := PySem.Challenge.rw_duehouse_k02_who_stands) (n := 63) (k := 6) (x := "script") rfl (by decide) rfl ⟨rfl, by decide, by decide⟩ (fun w h Y => PySem.W.kIn_of Y) ?F
  case F =>
    intro w mg fa h KX G hmg
    refine' Law.all_mk KX G hmg ?z_ValueError ?z_abs ?z_bool ?z_enumerate ?z_int ?z_isinstance ?z_len ?z_list ?z_range ?z_reversed ?z_str ?z_tuple ?a__law_bag ?l__law_bag ?c__law_bag ?k__law_bag ?a__law_mixed ?l__law_mixed ?c__law_mixed ?k__law_mixed ?a__law_pick ?l__law_pick ?c__law_pick ?k__law_pick ?a__law_numbers ?l__law_numbers ?c__law_numbers ?k__law_numbers ?a__law_choice ?l__law_choice ?c__law_choice ?k__law_choice ?a__law_rows ?l__law_rows ?c__law_rows ?k__law_rows ?a__law_mingled ?l__law_mingled ?c__law_mingled ?k__law_mingled ?a_merged ?l_merged ?c_merged ?k_merged ?a_ascending ?l_ascending ?c_ascending ?k_ascending ?a_numbered ?l_numbered ?c_numbered ?k_numbered ?a_is_number ?l_is_number ?c_is_number ?k_is_number ?a_is_name ?l_is_name ?c_is_name ?k_is_name ?a_is_entry ?l_is_entry ?c_is_entry ?k_is_entry ?l_Sheet____init__ ?tl_Sheet____init__ ?c_Sheet____init__ ?k_Sheet____init__ ?fn_Sheet____init__ ?a__law_sorted ?l__law_sorted ?c__law_sorted ?k__law_sorted ?a__law_stood ?l__law_stood ?c__law_stood ?k__law_stood ?a__law_new_name ?l__law_new_name ?c__law_new_name ?k__law_new_name ?l_Sheet____ior__ ?c_Sheet____ior__ ?k_Sheet____ior__ ?fn_Sheet____ior__ ?a__law_asked ?l__law_asked ?c__law_asked ?k__law_asked ?l_Sheet__standing_numbers ?c_Sheet__standing_numbers ?k_Sheet__standing_numbers ?fn_Sheet__standing_numbers ?l_Sheet__stands ?c_Sheet__stands ?k_Sheet__stands ?fn_Sheet__stands ?a__law_number ?l__law_number ?c__law_number ?k__law_number ?a__law_told ?l__law_told ?c__law_told ?k__law_told ?a__law_due ?l__law_due ?c__law_due ?k__law_due ?a_law ?l_law ?c_law ?k_law ?a_Sheet ?pg_Sheet ?hd_Sheet ?po_Sheet ?sa_Sheet ?a_BadEntry ?a_BadNumber ?a_Clash ?a_DueError ?a_NoEntry ?rdB ?gaB ?fcB ?gv_LAST_DAY ?gv_LAST_NUMBER ?gv_LETTERS ?no_Sheet_by_number ?fi_Sheet_standing_numbers ?fi_Sheet_stands ?fi_Sheet___ior__ ?sf_Sheet ?fi_Sheet___init__ ?mi_Sheet ?ki_Sheet ?x_Clash ?sa_Clash ?ga_Clash ?gg_Clash ?sb_Clash ?ty_Clash ?ke_Clash ?hd_Clash ?ha_Clash ?mo_Clash ?fi_Clash ?tf_Clash ?li_Clash ?ci_Clash ?ki_Clash ?no_Clash_number ?x_BadEntry ?sa_BadEntry ?ga_BadEntry ?gg_BadEntry ?sb_BadEntry ?ty_BadEntry ?ke_BadEntry ?hd_BadEntry ?ha_BadEntry ?mo_BadEntry ?fi_BadEntry ?tf_BadEntry ?li_BadEntry ?ci_BadEntry ?ki_BadEntry ?no_BadEntry_entry ?x_NoEntry ?sa_NoEntry ?ga_NoEntry ?gg_NoEntry ?sb_NoEntry ?ty_NoEntry ?ke_NoEntry ?hd_NoEntry ?ha_NoEntry ?mo_NoEntry ?fi_NoEntry ?tf_NoEntry ?li_NoEntry ?ci_NoEntry ?ki_NoEntry ?no_NoEntry_number ?hnC ?htC ?kv_BadEntry ?kv_Clash ?kv_NoEntry ?kt_BadEntry_BadNumber ?ke_BadEntry_BadNumber ?kt_BadEntry_Clash ?ke_BadEntry_Clash ?kt_BadEntry_NoEntry ?ke_BadEntry_NoEntry ?kt_Clash_BadEntry ?ke_Clash_BadEntry ?kt_Clash_BadNumber ?ke_Clash_BadNumber ?kt_Clash_NoEntry ?ke_Clash_NoEntry ?kt_NoEntry_BadEntry ?ke_NoEntry_BadEntry ?kt_NoEntry_BadNumber ?ke_NoEntry_BadNumber ?kt_NoEntry_Clash ?ke_NoEntry_Clash ?sx_BadEntry_DueError ?sb_DueError ?hd_DueError ?ty_DueError ?sx_Clash_DueError ?sx_NoEntry_DueError
    (case z_ValueError => first | k_is | rfl)
    (case z_abs => first | k_is | rfl)
    (case z_bool => first | k_is | rfl)
    (case z_enumerate => first | k_is | rfl)
    (case z_int => first | k_is | rfl)
    (case z_isinstance => first | k_is | rfl)
    (case z_len => first | k_is | rfl)
    (case z_list => first | k_is | rfl)
    (case z_range => first | k_is | rfl)
    (case z_reversed => first | k_is | rfl)
    (case z_str => first | k_is | rfl)
    (case z_tuple => first | k_is | rfl)
    (case a__law_bag => first | k_is | rfl)
    (case l__law_bag => first | k_is | rfl)
    (case c__law_bag => first | k_is | rfl)
    (case k__law_bag => first | k_is | rfl)
    (case a__law_mixed => first | k_is | rfl)
    (case l__law_mixed => first | k_is | rfl)
    (case c__law_mixed => first | k_is | rfl)
    (case k__law_mixed => first | k_is | rfl)
    (case a__law_pick => first | k_is | rfl)
    (case l__law_pick => first | k_is | rfl)
    (case c__law_pick => first | k_is | rfl)
    (case k__law_pick => first | k_is | rfl)
    (case a__law_numbers => first | k_is | rfl)
    (case l__law_numbers => first | k_is | rfl)
    (case c__law_numbers => first | k_is | rfl)
    (case k__law_numbers => first | k_is | rfl)
    (case a__law_choice => first | k_is | rfl)
    (case l__law_choice => first | k_is | rfl)
    (case c__law_choice => first | k_is | rfl)
    (case k__law_choice => first | k_is | rfl)
    (case a__law_rows => first | k_is | rfl)
    (case l__law_rows => first | k_is | rfl)
    (case c__law_rows => first | k_is | rfl)
    (case k__law_rows => first | k_is | rfl)
    (case a__law_mingled => first | k_is | rfl)
    (case l__law_mingled => first | k_is | rfl)
    (case c__law_mingled => first | k_is | rfl)
    (case k__law_mingled => first | k_is | rfl)
    (case a_merged => first | k_is | rfl)
    (case l_merged => first | k_is | rfl)
    (case c_merged => first | k_is | rfl)
    (case k_merged => first | k_is | rfl)
    (case a_ascending => first | k_is | rfl)
    (case l_ascending => first | k_is | rfl)
    (case c_ascending => first | k_is | rfl)
    (case k_ascending => first | k_is | rfl)
    (case a_numbered => first | k_is | rfl)
    (case l_numbered => first | k_is | rfl)
    (case c_numbered => first | k_is | rfl)
    (case k_numbered => first | k_is | rfl)
    (case a_is_number => first | k_is | rfl)
    (case l_is_number => first | k_is | rfl)
    (case c_is_number => first | k_is | rfl)
    (case k_is_number => first | k_is | rfl)
    (case a_is_name => first | k_is | rfl)
    (case l_is_name => first | k_is | rfl)
    (case c_is_name => first | k_is | rfl)
    (case k_is_name => first | k_is | rfl)
    (case a_is_entry => first | k_is | rfl)
    (case l_is_entry => first | k_is | rfl)
    (case c_is_entry => first | k_is | rfl)
    (case k_is_entry => first | k_is | rfl)
    (case a__law_sorted => first | k_is | rfl)
    (case l__law_sorted => first | k_is | rfl)
    (case c__law_sorted => first | k_is | rfl)
    (case k__law_sorted => first | k_is | rfl)
    (case a__law_stood => first | k_is | rfl)
    (case l__law_stood => first | k_is | rfl)
    (case c__law_stood => first | k_is | rfl)
    (case k__law_stood => first | k_is | rfl)
    (case a__law_new_name => first | k_is | rfl)
    (case l__law_new_name => first | k_is | rfl)
    (case c__law_new_name => first | k_is | rfl)
    (case k__law_new_name => first | k_is | rfl)
    (case a__law_asked => first | k_is | rfl)
    (case l__law_asked => first | k_is | rfl)
    (case c__law_asked => first | k_is | rfl)
    (case k__law_asked => first | k_is | rfl)
    (case a__law_number => first | k_is | rfl)
    (case l__law_number => first | k_is | rfl)
    (case c__law_number => first | k_is | rfl)
    (case k__law_number => first | k_is | rfl)
    (case a__law_told => first | k_is | rfl)
    (case l__law_told => first | k_is | rfl)
    (case c__law_told => first | k_is | rfl)
    (case k__law_told => first | k_is | rfl)
    (case a__law_due => first | k_is | rfl)
    (case l__law_due => first | k_is | rfl)
    (case c__law_due => first | k_is | rfl)
    (case k__law_due => first | k_is | rfl)
    (case a_law => first | k_is | rfl)
    (case l_law => first | k_is | rfl)
    (case c_law => first | k_is | rfl)
    (case k_law => first | k_is | rfl)
    (case a_Sheet => first | k_is | rfl)
    (case pg_Sheet => first | k_is | rfl)
    (case hd_Sheet => first | k_is | rfl)
    (case po_Sheet => first | k_is | rfl)
    (case sa_Sheet => first | k_is | rfl)
    (case a_BadEntry => first | k_is | rfl)
    (case a_BadNumber => first | k_is | rfl)
    (case a_Clash => first | k_is | rfl)
    (case a_DueError => first | k_is | rfl)
    (case a_NoEntry => first | k_is | rfl)
    (case rdB => first | k_is | rfl)
    (case gaB => first | k_is | rfl)
    (case fcB => first | k_is | rfl)
    (case gv_LAST_DAY => first | k_is | rfl)
    (case gv_LAST_NUMBER => first | k_is | rfl)
    (case gv_LETTERS => first | k_is | rfl)
    (case no_Sheet_by_number => first | k_is | rfl)
    (case fi_Sheet_standing_numbers => first | k_is | rfl)
    (case fi_Sheet_stands => first | k_is | rfl)
    (case fi_Sheet___ior__ => first | k_is | rfl)
    (case sf_Sheet => first | k_is | rfl)
    (case fi_Sheet___init__ => first | k_is | rfl)
    (case mi_Sheet => first | k_is | rfl)
    (case ki_Sheet => first | k_is | rfl)
    (case x_Clash => first | k_is | rfl)
    (case sa_Clash => first | k_is | rfl)
    (case ga_Clash => first | k_is | rfl)
    (case gg_Clash => first | k_is | rfl)
    (case sb_Clash => first | k_is | rfl)
    (case ty_Clash => first | k_is | rfl)
    (case ke_Clash => first | k_is | rfl)
    (case hd_Clash => first | k_is | rfl)
    (case ha_Clash => first | k_is | rfl)
    (case mo_Clash => first | k_is | rfl)
    (case fi_Clash => first | k_is | rfl)
    (case tf_Clash => first | k_is | rfl)
    (case li_Clash => first | k_is | rfl)
    (case ci_Clash => first | k_is | rfl)
    (case ki_Clash => first | k_is | rfl)
    (case no_Clash_number => first | k_is | rfl)
    (case x_BadEntry => first | k_is | rfl)
    (case sa_BadEntry => first | k_is | rfl)
    (case ga_BadEntry => first | k_is | rfl)
    (case gg_BadEntry => first | k_is | rfl)
    (case sb_BadEntry => first | k_is | rfl)
    (case ty_BadEntry => first | k_is | rfl)
    (case ke_BadEntry => first | k_is | rfl)
    (case hd_BadEntry => first | k_is | rfl)
    (case ha_BadEntry => first | k_is | rfl)
    (case mo_BadEntry => first | k_is | rfl)
    (case fi_BadEntry => first | k_is | rfl)
    (case tf_BadEntry => first | k_is | rfl)
    (case li_BadEntry => first | k_is | rfl)
    (case ci_BadEntry => first | k_is | rfl)
    (case ki_BadEntry => first | k_is | rfl)
    (case no_BadEntry_entry => first | k_is | rfl)
    (case x_NoEntry => first | k_is | rfl)
    (case sa_NoEntry => first | k_is | rfl)
    (case ga_NoEntry => first | k_is | rfl)
    (case gg_NoEntry => first | k_is | rfl)
    (case sb_NoEntry => first | k_is | rfl)
    (case ty_NoEntry => first | k_is | rfl)
    (case ke_NoEntry => first | k_is | rfl)
    (case hd_NoEntry => first | k_is | rfl)
    (case ha_NoEntry => first | k_is | rfl)
    (case mo_NoEntry => first | k_is | rfl)
    (case fi_NoEntry => first | k_is | rfl)
    (case tf_NoEntry => first | k_is | rfl)
    (case li_NoEntry => first | k_is | rfl)
    (case ci_NoEntry => first | k_is | rfl)
    (case ki_NoEntry => first | k_is | rfl)
    (case no_NoEntry_number => first | k_is | rfl)
    (case hnC => first | k_is | rfl)
    (case htC => first | k_is | rfl)
    (case kv_BadEntry => first | k_is | rfl)
    (case kv_Clash => first | k_is | rfl)
    (case kv_NoEntry => first | k_is | rfl)
    (case kt_BadEntry_BadNumber => first | k_is | rfl)
    (case ke_BadEntry_BadNumber => first | k_is | rfl)
    (case kt_BadEntry_Clash => first | k_is | rfl)
    (case ke_BadEntry_Clash => first | k_is | rfl)
    (case kt_BadEntry_NoEntry => first | k_is | rfl)
    (case ke_BadEntry_NoEntry => first | k_is | rfl)
    (case kt_Clash_BadEntry => first | k_is | rfl)
    (case ke_Clash_BadEntry => first | k_is | rfl)
    (case kt_Clash_BadNumber => first | k_is | rfl)
    (case ke_Clash_BadNumber => first | k_is | rfl)
    (case kt_Clash_NoEntry => first | k_is | rfl)
    (case ke_Clash_NoEntry => first | k_is | rfl)
    (case kt_NoEntry_BadEntry => first | k_is | rfl)
    (case ke_NoEntry_BadEntry => first | k_is | rfl)
    (case kt_NoEntry_BadNumber => first | k_is | rfl)
    (case ke_NoEntry_BadNumber => first | k_is | rfl)
    (case kt_NoEntry_Clash => first | k_is | rfl)
    (case ke_NoEntry_Clash => first | k_is | rfl)
    (case sx_BadEntry_DueError => first | k_is | rfl)
    (case sb_DueError => first | k_is | rfl)
    (case hd_DueError => first | k_is | rfl)
    (case ty_DueError => first | k_is | rfl)
    (case sx_Clash_DueError => first | k_is | rfl)
    (case sx_NoEntry_DueError => first | k_is | rfl)
    (case l_Sheet____init__ => first | k_is | rfl)
    (case tl_Sheet____init__ => first | k_is | rfl)
    (case c_Sheet____init__ => first | k_is | rfl)
    (case k_Sheet____init__ => first | k_is | rfl)
    (case fn_Sheet____init__ => first | k_is | rfl)
    (case l_Sheet____ior__ => first | k_is | rfl)
    (case c_Sheet____ior__ => first | k_is | rfl)
    (case k_Sheet____ior__ => first | k_is | rfl)
    (case fn_Sheet____ior__ => first | k_is | rfl)
    (case l_Sheet__standing_numbers => first | k_is | rfl)
    (case c_Sheet__standing_numbers => first | k_is | rfl)
    (case k_Sheet__standing_numbers => first | k_is | rfl)
    (case fn_Sheet__standing_numbers => first | k_is | rfl)
    (case l_Sheet__stands => first | k_is | rfl)
    (case c_Sheet__stands => first | k_is | rfl)
    (case k_Sheet__stands => first | k_is | rfl)
    (case fn_Sheet__stands => first | k_is | rfl)
