import PyProof.Rows.All
import Wide.All
import OpenK.AllK
import Wide.FinOn
import HandS.ForMost
import HandS.ForExc
import HandS.Wide
import HandS.TryOnly
import HandS.TupAny
import HandS.Conv
import KE.SortData
import KE.DataCmp
import HandS.IsInst
import HandS.Zip
import HandS.CallSlots
import HandS.Defaults
import HandS.ExcInit
import HandS.ExcIs
import HandS.ExcField
import KE.KExcIs
import HandS.SortKw
import HandS.Style
import HandS.Codes
import HandS.Flow
import HandS.ExcValue
import KE.DataEq
import KE.DataFind
import KE.DataMinMax
import KE.KUnpackStar
import KE.RegKIsAll
import PyProof.NoPylong
import PySem.Challenge.RW_sumfold_k15_rows_looked_at
set_option Elab.async false
set_option linter.all false
set_option maxRecDepth 100000
set_option maxHeartbeats 2000000
namespace Dn
open PySem PySem.Spec PyProof.Rows L2
abbrev St := L2.St
/-- the written part and the module's names -/
structure Bk where
  K : PySem.W.Frag
  mg : Str → Option Value
abbrev bk (X : Cx) : Bk := ⟨X.K, X.mg⟩
/-- what a value is, as data -/
inductive D where
  | non | bl (b : Bool) | int (i : Int) | str (x : Str) | tup (xs : List D) | lst (xs : List D) | dct (kvs : List (D × D)) | obj (c : Str) (fs : List (Str × D)) | ty (n : String) | cls (c : Str)
  | scr (xs : List Int)
  | exn (a : Addr) (C : Value) (d : Option Addr) (c : Str) (ns : List Str) (ds : List D)
/-- a value in a frame: data, or a local object by its number -/
inductive LV where
  | v (d : D) | r (k : Nat)
/-- a local object -/
inductive GO where
  | dead | lst (xs : List D) | dct (kvs : List (D × D)) | obj (c : Str) (fs : List (Str × LV))
structure GH where
  n : Nat
  get : Nat → GO
def GH.nil : GH := ⟨0, fun _ => .dead⟩
def GH.new (g : GH) (o : GO) : GH := ⟨g.n + 1, fun i => if i = g.n then o else g.get i⟩
def GH.set (g : GH) (k : Nat) (o : GO) : GH := ⟨g.n, fun i => if i = k then o else g.get i⟩
/-- an error: its class's name, its fields -/
structure Ex where
  c : Str
  ns : List Str
  ds : List D
inductive Res where
  | ok (x : LV) (g : GH) | exc (e : Ex) (g : GH) | bad
inductive ARes where
  | ok (xs : List LV) (g : GH) | exc (e : Ex) (g : GH) | bad
abbrev Fr := List (Option LV)
inductive SRes where
  | nx (fr : Fr) (g : GH) | rt (x : LV) (g : GH) | bk (fr : Fr) (g : GH) | ct (fr : Fr) (g : GH) | exc (e : Ex) (fr : Fr) (g : GH) | bad
/-- what a pure def tells -/
inductive R where
  | ok (d : D) | exc (e : Ex) | bad
abbrev DE := Fr → GH → Res
abbrev DA := Fr → GH → ARes
abbrev DS := Fr → GH → SRes
section
variable (K : Bk) (P : Hp)
mutual
/-- the value v bears the data, read in P -/
inductive RV : D → V → Prop
  | non : RV .non .non
  | bl {b : Bool} : RV (.bl b) (.bl b)
  | int {i : Int} : RV (.int i) (.int i)
  | str {x : Str} : RV (.str x) (.str x)
  | ty {n : String} : RV (.ty n) (.ty n)
  | cls {c : Str} {C : Addr} : K.mg c = some (.ref C) → RV (.cls c) (.ref C)
  | tup {ds : List D} {a : Addr} {vs : List V} : SqT K.K P a vs → RVs ds vs → RV (.tup ds) (.ref a)
  | lst {ds : List D} {a : Addr} {vs : List V} : Rd P a (.lst vs) → RVs ds vs → RV (.lst ds) (.ref a)
  | exn {a : Addr} {C : Value} {d : Addr} {c : Str} {ns : List Str} {ds : List D} {vs : List V} : K.mg c = some C → P d = some (.xd (ns.zip vs)) → RVs ds vs → RV (.exn a C (some d) c ns ds) (.ref a)
  | scr {xs : List Int} {a : Addr} : SqL K.K P a (xs.map V.int) → RV (.scr xs) (.ref a)
  | exn0 {a : Addr} {C : Value} {c : Str} : K.mg c = some C → RV (.exn a C none c [] []) (.ref a)
inductive RVs : List D → List V → Prop
  | nil : RVs [] []
  | cons {d : D} {v : V} {ds : List D} {vs : List V} : RV d v → RVs ds vs → RVs (d :: ds) (v :: vs)
end
end
section
variable {K : Bk} {P P' H : Hp}
theorem Same.seqT {K : PySem.W.Frag} {H H' : Hp} {a : Addr} {xs : List V} (e : Same H H') (h : SqT K H a xs) : SqT K H' a xs := by
  rcases h with (h | ⟨o, h⟩) | h
  · exact .inl (.inl (e _ _ h))
  · exact .inl (.inr ⟨o, e _ _ h⟩)
  · exact .inr h
theorem Same.rd {H H' : Hp} {a : Addr} {u : HO} (e : Same H H') (h : Rd H a u) : Rd H' a u := h.elim (fun z => .inl (e _ _ z)) fun ⟨o, z⟩ => .inr ⟨o, e _ _ z⟩
mutual
theorem RV.mono (s : Same P P') : ∀ {d : D} {v : V}, RV K P d v → RV K P' d v
  | _, _, .non => .non
  | _, _, .bl => .bl
  | _, _, .int => .int
  | _, _, .str => .str
  | _, _, .ty => .ty
  | _, _, .cls h => .cls h
  | _, _, .tup h r => .tup (Same.seqT s h) (RVs.mono s r)
  | _, _, .lst h r => .lst (Same.rd s h) (RVs.mono s r)
  | _, _, .exn m h r => .exn m (s _ _ h) (RVs.mono s r)
  | _, _, .exn0 m => .exn0 m
  | _, _, .scr h => .scr (Same.seq s h)
theorem RVs.mono (s : Same P P') : ∀ {ds : List D} {vs : List V}, RVs K P ds vs → RVs K P' ds vs
  | _, _, .nil => .nil
  | _, _, .cons r t => .cons (RV.mono s r) (RVs.mono s t)
end
theorem RVs.length : ∀ {ds : List D} {vs : List V}, RVs K P ds vs → ds.length = vs.length
  | _, _, .nil => rfl
  | _, _, .cons _ t => congrArg (· + 1) (RVs.length t)
theorem RVs.get : ∀ {ds : List D} {vs : List V} {i : Nat} {d : D}, RVs K P ds vs → ds[i]? = some d → ∃ v, vs[i]? = some v ∧ RV K P d v
  | _, _, 0, _, .cons r _, e => by simp at e; subst e; exact ⟨_, rfl, r⟩
  | _, _, i + 1, _, .cons _ t, e => by
    obtain ⟨v, h1, h2⟩ := RVs.get (i := i) t (by simpa using e)
    exact ⟨v, by simpa using h1, h2⟩
theorem RVs.get' : ∀ {ds : List D} {vs : List V} {i : Nat} {v : V}, RVs K P ds vs → vs[i]? = some v → ∃ d, ds[i]? = some d ∧ RV K P d v
  | _, _, 0, _, .cons r _, e => by simp at e; subst e; exact ⟨_, rfl, r⟩
  | _, _, i + 1, _, .cons _ t, e => by
    obtain ⟨v, h1, h2⟩ := RVs.get' (i := i) t (by simpa using e)
    exact ⟨v, by simpa using h1, h2⟩
theorem RVs.append : ∀ {ds es : List D} {vs us : List V}, RVs K P ds vs → RVs K P es us → RVs K P (ds ++ es) (vs ++ us)
  | _, _, _, _, .nil, q => q
  | _, _, _, _, .cons r t, q => .cons r (RVs.append t q)
theorem RVs.drop : ∀ (n : Nat) {ds : List D} {vs : List V}, RVs K P ds vs → RVs K P (ds.drop n) (vs.drop n)
  | 0, _, _, h => h
  | _ + 1, _, _, .nil => .nil
  | n + 1, _, _, .cons _ t => RVs.drop n t
theorem RVs.take : ∀ (n : Nat) {ds : List D} {vs : List V}, RVs K P ds vs → RVs K P (ds.take n) (vs.take n)
  | 0, _, _, _ => .nil
  | _ + 1, _, _, .nil => .nil
  | n + 1, _, _, .cons r t => .cons r (RVs.take n t)
theorem RVs.set {d : D} {v : V} (r : RV K P d v) : ∀ {ds : List D} {vs : List V} (i : Nat), RVs K P ds vs → RVs K P (ds.set i d) (vs.set i v)
  | _, _, _, .nil => .nil
  | _, _, 0, .cons _ t => .cons r t
  | _, _, i + 1, .cons q t => .cons q (RVs.set r i t)
theorem RVs.reverse {ds : List D} {vs : List V} (h : RVs K P ds vs) : RVs K P ds.reverse vs.reverse := by
  induction ds generalizing vs with
  | nil => cases h; exact .nil
  | cons d ds ih =>
    cases h with
    | cons r t => rw [List.reverse_cons, List.reverse_cons]; exact (ih t).append (.cons r .nil)
/-- an object's content in P; o is what stands there -/
def GOk (K : Bk) (P : Hp) (M : Nat → Addr) : GO → Option HO → Prop
  | .dead, _ => True
  | .lst ds, o => ∃ vs, o = some (.lst vs) ∧ RVs K P ds vs
  | .dct _, _ => False
  | .obj _ _, _ => False
def GO.live : GO → Bool
  | .dead => false
  | _ => true
/-- a world: where the local objects stand, what they are, what lasts, what is tracked -/
structure Wd where
  M : Nat → Addr
  g : GH
  P : Hp
  H : Hp
def Sub (P H : Hp) : Prop := ∀ a o, P a = some o → H a = some o
structure Wd.Ok (K : Bk) (w : Wd) : Prop where
  sub : Sub w.P w.H
  off : ∀ k, k < w.g.n → (w.g.get k).live = true → w.P (w.M k) = none
  inj : ∀ i j, i < w.g.n → j < w.g.n → (w.g.get i).live = true → (w.g.get j).live = true → w.M i = w.M j → i = j
  own : ∀ k, k < w.g.n → (w.g.get k).live = true → (∃ o, w.H (w.M k) = some o) ∧ GOk K w.P w.M (w.g.get k) (w.H (w.M k))
structure Wd.Ext (w w' : Wd) : Prop where
  le : w.g.n ≤ w'.g.n
  M : ∀ k, k < w.g.n → w'.M k = w.M k
  P : Same w.P w'.P
  new : ∀ a o, w'.P a = some o → w.P a = some o ∨ w.H a = none ∨ ∃ k, k < w.g.n ∧ (w.g.get k).live = true ∧ w.M k = a
  out : ∀ a o, w.H a = some o → (∀ k, k < w.g.n → (w.g.get k).live = true → w.M k ≠ a) → w'.H a = some o
  dead : ∀ k, k < w.g.n → (w.g.get k).live = false → (w'.g.get k).live = false
  fresh : ∀ k, w.g.n ≤ k → k < w'.g.n → (w'.g.get k).live = true → w.H (w'.M k) = none
  dom : ∀ a, w'.H a = none → w.H a = none
theorem Wd.Ext.refl (w : Wd) : w.Ext w := ⟨Nat.le_refl _, fun _ _ => rfl, Same.refl _, fun _ _ h => .inl h, fun _ _ h _ => h, fun _ _ h => h, fun k h1 h2 => absurd h2 (Nat.not_lt.mpr h1), fun _ h => h⟩
theorem Wd.Ok.there {w : Wd} (k : w.Ok K) {i : Nat} (h : i < w.g.n) (l : (w.g.get i).live = true) : ∃ o, w.H (w.M i) = some o := (k.own i h l).1
theorem Wd.Ext.live {w w' : Wd} (e : w.Ext w') {k : Nat} (h : k < w.g.n) (l : (w'.g.get k).live = true) : (w.g.get k).live = true := by
  cases q : (w.g.get k).live with
  | true => rfl
  | false => rw [e.dead k h q] at l; cases l
theorem Wd.Ext.trans {w w1 w2 : Wd} (a : w.Ext w1) (b : w1.Ext w2) : w.Ext w2 := by
  refine ⟨Nat.le_trans a.le b.le, fun k h => (b.M k (Nat.lt_of_lt_of_le h a.le)).trans (a.M k h), a.P.trans b.P, fun x u h => ?_, fun x u h hn => ?_, fun k h l => b.dead k (Nat.lt_of_lt_of_le h a.le) (a.dead k h l), fun k h1 h2 l => ?_, fun x h => a.dom x (b.dom x h)⟩
  · rcases b.new x u h with h | h | ⟨k, hk, hl, rfl⟩
    · exact a.new x u h
    · exact .inr (.inl (a.dom x h))
    · by_cases hkn : k < w.g.n
      · exact .inr (.inr ⟨k, hkn, a.live hkn hl, (a.M k hkn).symm⟩)
      · exact .inr (.inl (a.fresh k (Nat.le_of_not_lt hkn) hk hl))
  · refine b.out x u (a.out x u h hn) fun k hk hl hm => ?_
    by_cases hkn : k < w.g.n
    · exact hn k hkn (a.live hkn hl) ((a.M k hkn).symm.trans hm)
    · have z := a.fresh k (Nat.le_of_not_lt hkn) hk hl
      rw [hm, h] at z
      cases z
  · by_cases hk : k < w1.g.n
    · rw [b.M k hk]
      exact a.fresh k h1 hk (b.live hk l)
    · exact a.dom _ (b.fresh k (Nat.le_of_not_lt hk) h2 l)
/-- a value of a frame -/
def RL (K : Bk) (w : Wd) : LV → V → Prop
  | .v d, x => RV K w.P d x
  | .r k, x => k < w.g.n ∧ x = .ref (w.M k)
theorem RL.mono {w w' : Wd} (e : w.Ext w') {x : LV} {v : V} (h : RL K w x v) : RL K w' x v := by
  cases x with
  | v d => exact RV.mono e.P h
  | r k => exact ⟨Nat.lt_of_lt_of_le h.1 e.le, by rw [e.M k h.1]; exact h.2⟩
inductive RLs (K : Bk) (w : Wd) : List LV → List V → Prop
  | nil : RLs K w [] []
  | cons {x : LV} {v : V} {xs : List LV} {vs : List V} : RL K w x v → RLs K w xs vs → RLs K w (x :: xs) (v :: vs)
theorem RLs.mono {w w' : Wd} (e : w.Ext w') {xs : List LV} {vs : List V} (h : RLs K w xs vs) : RLs K w' xs vs := by
  induction h with
  | nil => exact .nil
  | cons r _ ih => exact .cons (r.mono e) ih
structure FrOk (K : Bk) (w : Wd) (fr : Fr) (σ : St) : Prop where
  len : fr.length = σ.length
  get : ∀ (i : Nat) x, fr[i]? = some (some x) → ∃ v, σ[i]? = some (some v) ∧ RL K w x v
theorem FrOk.mono {w w' : Wd} (e : w.Ext w') {fr : Fr} {σ : St} (h : FrOk K w fr σ) : FrOk K w' fr σ :=
  ⟨h.len, fun i x q => let ⟨v, h1, h2⟩ := h.get i x q; ⟨v, h1, h2.mono e⟩⟩
theorem FrOk.set {w : Wd} {fr : Fr} {σ : St} (h : FrOk K w fr σ) {x : LV} {v : V} (r : RL K w x v) (i : Nat) : FrOk K w (fr.set i (some x)) (σ.set i (some v)) := by
  refine ⟨by simp [h.len], fun j y q => ?_⟩
  by_cases e : i = j
  · subst e
    by_cases hi : i < fr.length
    · rw [List.getElem?_set_self hi] at q
      cases q
      exact ⟨v, List.getElem?_set_self (by rw [← h.len]; exact hi), r⟩
    · rw [List.getElem?_eq_none (by simpa using hi)] at q
      cases q
  · rw [List.getElem?_set_ne e] at q
    obtain ⟨u, h1, h2⟩ := h.get j y q
    exact ⟨u, by rw [List.getElem?_set_ne e]; exact h1, h2⟩
/-- an error's class and dict in a world -/
def EOk (K : Bk) (B : Hp) (w : Wd) (e : Ex) (C : Value) (dd : Option Addr) : Prop :=
  K.mg e.c = some C ∧ ((e.ns = [] ∧ e.ds = [] ∧ dd = none) ∨ ∃ d vs, dd = some d ∧ B d = none ∧ w.H d = some (.xd (e.ns.zip vs)) ∧ RVs K w.P e.ds vs)
theorem EOk.base {K : Bk} {B B' : Hp} {w : Wd} {e : Ex} {C : Value} {dd : Option Addr} (h : EOk K B w e C dd) (n : ∀ a, B a = none → B' a = none) : EOk K B' w e C dd := by
  obtain ⟨m, h | ⟨d, vs, h1, h2, h3, h4⟩⟩ := h
  · exact ⟨m, .inl h⟩
  · exact ⟨m, .inr ⟨d, vs, h1, n d h2, h3, h4⟩⟩
def Fin (K : Bk) (W : WX) (w : Wd) (σ : St) (r : Res) (Q : VK) : Prop := match r with
  | .ok x g => ∀ w', w'.g = g → w.Ext w' → w'.Ok K → ∀ v, RL K w' x v → Q v w'.H
  | .exc e g => ∀ w', w'.g = g → w.Ext w' → w'.Ok K → ∀ C dd, EOk K w.H w' e C dd → W C dd σ w'.H
  | .bad => False
def FinA (K : Bk) (W : WX) (w : Wd) (σ : St) (r : ARes) (Q : List V → Hp → Prop) : Prop := match r with
  | .ok xs g => ∀ w', w'.g = g → w.Ext w' → w'.Ok K → ∀ vs, RLs K w' xs vs → Q vs w'.H
  | .exc e g => ∀ w', w'.g = g → w.Ext w' → w'.Ok K → ∀ C dd, EOk K w.H w' e C dd → W C dd σ w'.H
  | .bad => False
def Res.bind (r : Res) (k : LV → GH → Res) : Res := match r with
  | .ok x g => k x g
  | .exc e g => .exc e g
  | .bad => .bad
def Res.bindA (r : Res) (k : LV → GH → ARes) : ARes := match r with
  | .ok x g => k x g
  | .exc e g => .exc e g
  | .bad => .bad
def ARes.bind (r : ARes) (k : List LV → GH → Res) : Res := match r with
  | .ok x g => k x g
  | .exc e g => .exc e g
  | .bad => .bad
def ARes.bindA (r : ARes) (k : List LV → GH → ARes) : ARes := match r with
  | .ok x g => k x g
  | .exc e g => .exc e g
  | .bad => .bad
theorem Fin.shift {W : WX} {w w1 : Wd} (e : w.Ext w1) {σ : St} {r : Res} {Q : VK} (h : Fin K W w σ r Q) : Fin K W w1 σ r Q := by
  cases r with
  | ok x g => exact fun w' eg x' o => h w' eg (e.trans x') o
  | exc y g => exact fun w' eg x' o C dd z => h w' eg (e.trans x') o C dd (z.base e.dom)
  | bad => exact h
theorem FinA.shift {W : WX} {w w1 : Wd} (e : w.Ext w1) {σ : St} {r : ARes} {Q : List V → Hp → Prop} (h : FinA K W w σ r Q) : FinA K W w1 σ r Q := by
  cases r with
  | ok x g => exact fun w' eg x' o => h w' eg (e.trans x') o
  | exc y g => exact fun w' eg x' o C dd z => h w' eg (e.trans x') o C dd (z.base e.dom)
  | bad => exact h
theorem Fin.bind {W : WX} {w : Wd} {σ : St} {r : Res} {k : LV → GH → Res} {Q R : VK} (h : Fin K W w σ (r.bind k) Q)
    (hk : ∀ x w1 v, w.Ext w1 → w1.Ok K → RL K w1 x v → Fin K W w1 σ (k x w1.g) Q → R v w1.H) : Fin K W w σ r R := by
  cases r with
  | ok x g =>
    intro w1 eg e o v rv
    subst eg
    exact hk x w1 v e o rv (Fin.shift e h)
  | exc y g => exact h
  | bad => exact h
theorem Fin.bindA {W : WX} {w : Wd} {σ : St} {r : Res} {k : LV → GH → ARes} {Q : List V → Hp → Prop} {R : VK} (h : FinA K W w σ (r.bindA k) Q)
    (hk : ∀ x w1 v, w.Ext w1 → w1.Ok K → RL K w1 x v → FinA K W w1 σ (k x w1.g) Q → R v w1.H) : Fin K W w σ r R := by
  cases r with
  | ok x g =>
    intro w1 eg e o v rv
    subst eg
    exact hk x w1 v e o rv (FinA.shift e h)
  | exc y g => exact h
  | bad => exact h
theorem FinA.bind {W : WX} {w : Wd} {σ : St} {r : ARes} {k : List LV → GH → Res} {Q : VK} {R : List V → Hp → Prop} (h : Fin K W w σ (r.bind k) Q)
    (hk : ∀ xs w1 vs, w.Ext w1 → w1.Ok K → RLs K w1 xs vs → Fin K W w1 σ (k xs w1.g) Q → R vs w1.H) : FinA K W w σ r R := by
  cases r with
  | ok x g =>
    intro w1 eg e o v rv
    subst eg
    exact hk x w1 v e o rv (Fin.shift e h)
  | exc y g => exact h
  | bad => exact h
theorem FinA.bindA {W : WX} {w : Wd} {σ : St} {r : ARes} {k : List LV → GH → ARes} {Q R : List V → Hp → Prop} (h : FinA K W w σ (r.bindA k) Q)
    (hk : ∀ xs w1 vs, w.Ext w1 → w1.Ok K → RLs K w1 xs vs → FinA K W w1 σ (k xs w1.g) Q → R vs w1.H) : FinA K W w σ r R := by
  cases r with
  | ok x g =>
    intro w1 eg e o v rv
    subst eg
    exact hk x w1 v e o rv (FinA.shift e h)
  | exc y g => exact h
  | bad => exact h
def T (K : Bk) (W : WX) (m : DE) : TE := fun σ H Q => ∃ (w : Wd) (fr : Fr), w.H = H ∧ w.Ok K ∧ FrOk K w fr σ ∧ Fin K W w σ (m fr w.g) Q
def TA' (K : Bk) (W : WX) (m : DA) : TA := fun σ H Q => ∃ (w : Wd) (fr : Fr), w.H = H ∧ w.Ok K ∧ FrOk K w fr σ ∧ FinA K W w σ (m fr w.g) Q
def TB (K : Bk) (W : WX) (m : DE) : TT := fun σ H Q => T K W m σ H fun x H1 => ∃ b, x = .bl b ∧ Q b H1
theorem PE.imp {X : Cx} {e : Expr} {t t' : TE} (h : PE X e t) (i : ∀ σ H Q, t' σ H Q → t σ H Q) : PE X e t' := ⟨fun pins s σ H Q I q => h.run pins s σ H Q I (i _ _ _ q)⟩
theorem PT.imp {X : Cx} {e : Expr} {t t' : TT} (h : PT X e t) (i : ∀ σ H Q, t' σ H Q → t σ H Q) : PT X e t' := ⟨fun pins s σ H Q I q => h.run pins s σ H Q I (i _ _ _ q)⟩
theorem PA.imp {X : Cx} {e : List Expr} {t t' : TA} (h : PA X e t) (i : ∀ σ H Q, t' σ H Q → t σ H Q) : PA X e t' := ⟨fun pos pins s σ H Q I q => h.run pos pins s σ H Q I (i _ _ _ q)⟩
theorem PS.imp {X : Cx} {e : Stmt} {t t' : TS} (h : PS X e t) (i : ∀ D σ H, t' D σ H → t D σ H) : PS X e t' := ⟨fun pins s σ H D I q => h.run pins s σ H D I (i _ _ _ q)⟩
theorem PSs.imp {X : Cx} {e : List Stmt} {t t' : TS} (h : PSs X e t) (i : ∀ D σ H, t' D σ H → t D σ H) : PSs X e t' := ⟨fun pins s σ H D I q => h.run pins s σ H D I (i _ _ _ q)⟩
end
end Dn
namespace Dn
open PySem PySem.Spec PyProof.Rows L2
def asD (g : GH) : LV → Option D
  | .v d => some d
  | .r k => if k < g.n then (match g.get k with | .lst xs => some (.lst xs) | _ => none) else none
def ofO (o : Option D) (g : GH) : Res := match o with | some d => .ok (.v d) g | none => .bad
def asDs (g : GH) : List LV → Option (List D)
  | [] => some []
  | x :: xs => (asD g x).bind fun d => (asDs g xs).bind fun ds => some (d :: ds)
section
variable {K : Bk} {W : WX}
theorem Wd.Ok.ext_ok {w : Wd} (h : w.Ok K) : w.Ok K := h
/-- a value as it is read now: a list may be a local one, its items last -/
def SV (K : Bk) (P H : Hp) : D → V → Prop
  | .lst ds, v => ∃ a vs, v = .ref a ∧ Rd H a (.lst vs) ∧ RVs K P ds vs
  | d, v => RV K P d v
theorem RV.sv {P H : Hp} (sub : Sub P H) {d : D} {v : V} (h : RV K P d v) : SV K P H d v := by
  cases h with
  | lst h r => exact ⟨_, _, rfl, Same.rd sub h, r⟩
  | non => exact .non
  | bl => exact .bl
  | int => exact .int
  | str => exact .str
  | tup h r => exact .tup h r
  | ty => exact .ty
  | cls h => exact .cls h
  | exn m h r => exact .exn m h r
  | exn0 m => exact .exn0 m
  | scr h => exact .scr h
theorem RL.sv {w : Wd} (ok : w.Ok K) {x : LV} {v : V} (r : RL K w x v) {d : D} (e : asD w.g x = some d) : SV K w.P w.H d v := by
  cases x with
  | v d' => cases e; exact RV.sv ok.sub r
  | r k =>
    obtain ⟨hk, rfl⟩ := r
    simp only [asD, if_pos hk] at e
    cases q : w.g.get k with
    | lst xs =>
      rw [q] at e
      cases e
      obtain ⟨_, o⟩ := ok.own k hk (by rw [q]; rfl)
      rw [q] at o
      obtain ⟨vs, h, r⟩ := o
      exact ⟨_, vs, rfl, .inl h, r⟩
    | dead => rw [q] at e; cases e
    | dct _ => rw [q] at e; cases e
    | obj _ _ => rw [q] at e; cases e
inductive SVs (K : Bk) (P H : Hp) : List D → List V → Prop
  | nil : SVs K P H [] []
  | cons {d : D} {v : V} {ds : List D} {vs : List V} : SV K P H d v → SVs K P H ds vs → SVs K P H (d :: ds) (v :: vs)
theorem RLs.sv {w : Wd} (ok : w.Ok K) {xs : List LV} {vs : List V} (r : RLs K w xs vs) : ∀ {ds : List D}, asDs w.g xs = some ds → SVs K w.P w.H ds vs := by
  induction r with
  | nil => intro ds e; cases e; exact .nil
  | @cons x v xs vs r t ih =>
    intro ds e
    simp only [asDs] at e
    cases q : asD w.g x with
    | none => rw [q] at e; cases e
    | some d =>
      rw [q, Option.bind_some] at e
      cases q2 : asDs w.g xs with
      | none => rw [q2] at e; cases e
      | some ds' =>
        rw [q2, Option.bind_some] at e
        cases e
        exact .cons (r.sv ok q) (ih q2)
/-- nothing local has changed; new things may stand -/
structure PExt (P H P' H' : Hp) : Prop where
  sH : Same H H'
  sP : Same P P'
  sub : Sub P' H'
  new : ∀ a o, P' a = some o → P a = some o ∨ H a = none
theorem PExt.refl {P H : Hp} (s : Sub P H) : PExt P H P H := ⟨Same.refl _, Same.refl _, s, fun _ _ h => .inl h⟩
theorem PExt.trans {P H P1 H1 P2 H2 : Hp} (a : PExt P H P1 H1) (b : PExt P1 H1 P2 H2) : PExt P H P2 H2 :=
  ⟨a.sH.trans b.sH, a.sP.trans b.sP, b.sub, fun x o h => (b.new x o h).elim (fun z => a.new x o z) fun z => .inr (a.sH.free z)⟩
/-- a new lasting thing -/
theorem PExt.new1 {P H : Hp} (s : Sub P H) {p : Addr} {o : HO} (hp : H p = none) : PExt P H (upd P p o) (upd H p o) := by
  have hP : P p = none := by
    cases q : P p with
    | none => rfl
    | some u => rw [s _ _ q] at hp; cases hp
  refine ⟨fun b u e => ?_, fun b u e => ?_, fun b u e => ?_, fun b u e => ?_⟩
  · rw [upd_ne (ne_of_none e hp)]; exact e
  · rw [upd_ne (ne_of_none e hP)]; exact e
  · by_cases hb : b = p
    · subst hb; rw [upd_same] at e ⊢; exact e
    · rw [upd_ne hb] at e ⊢; exact s _ _ e
  · by_cases hb : b = p
    · subst hb; exact .inr hp
    · rw [upd_ne hb] at e; exact .inl e
/-- a new thing that does not matter -/
theorem PExt.junk {P H : Hp} (s : Sub P H) {p : Addr} {o : HO} (hp : H p = none) : PExt P H P (upd H p o) :=
  ⟨fun b u e => by rw [upd_ne (ne_of_none e hp)]; exact e, Same.refl _, fun b u e => by rw [upd_ne (ne_of_none (s _ _ e) hp)]; exact s _ _ e, fun _ _ h => .inl h⟩
theorem GOk.mono {P P' : Hp} (s : Same P P') {M : Nat → Addr} {x : GO} {o : Option HO} (h : GOk K P M x o) : GOk K P' M x o := by
  cases x with
  | dead => trivial
  | lst ds => obtain ⟨vs, e, r⟩ := h; exact ⟨vs, e, RVs.mono s r⟩
  | dct _ => exact h
  | obj _ _ => exact h
theorem Wd.pext {w : Wd} (ok : w.Ok K) {P' H' : Hp} (e : PExt w.P w.H P' H') : w.Ext ⟨w.M, w.g, P', H'⟩ ∧ (⟨w.M, w.g, P', H'⟩ : Wd).Ok K := by
  refine ⟨⟨Nat.le_refl _, fun _ _ => rfl, e.sP, fun a o h => (e.new a o h).imp_right .inl, fun a o h _ => e.sH a o h, fun _ _ h => h, fun k h1 h2 => absurd h2 (Nat.not_lt.mpr h1), fun a h => e.sH.free h⟩, ⟨e.sub, fun k hk hl => ?_, ok.inj, fun k hk hl => ?_⟩⟩
  · show P' (w.M k) = none
    cases q : P' (w.M k) with
    | none => rfl
    | some o =>
      rcases e.new _ _ q with z | z
      · rw [ok.off k hk hl] at z; cases z
      · obtain ⟨u, hu⟩ := ok.there hk hl
        rw [hu] at z; cases z
  · obtain ⟨⟨o, ho⟩, g⟩ := ok.own k hk hl
    have ho' : H' (w.M k) = some o := e.sH _ _ ho
    refine ⟨⟨o, ho'⟩, ?_⟩
    show GOk K P' w.M (w.g.get k) (H' (w.M k))
    rw [ho', ← ho]
    exact g.mono e.sP
/-- an end with data -/
theorem Fin.data {w : Wd} {σ : St} {d : D} {Q : VK} (ok : w.Ok K) (h : Fin K W w σ (.ok (.v d) w.g) Q) {P' H' : Hp} {v : V} (e : PExt w.P w.H P' H') (r : RV K P' d v) : Q v H' :=
  h ⟨w.M, w.g, P', H'⟩ rfl (w.pext ok e).1 (w.pext ok e).2 v r
def mV (i : Nat) : DE := fun fr g => match fr[i]? with | some (some x) => .ok x g | _ => .bad
def mC (d : D) : DE := fun _ g => .ok (.v d) g
variable {X : Cx}
theorem T.start {m : DE} {σ : St} {H : Hp} {Q : VK} (w : Wd) (fr : Fr) (h : w.H = H) (ok : w.Ok K) (f : FrOk K w fr σ) (q : Fin K W w σ (m fr w.g) Q) : T K W m σ H Q := ⟨w, fr, h, ok, f, q⟩
theorem de_v (i : Nat) {x : Str} {pos : Pos} (hN : X.N[i]? = some x := by rfl) (hv : Vis X.env.scope x := by first | exact Or.inl rfl | exact Or.inr (Or.inl rfl) | exact Or.inr (Or.inr rfl)) (hd : (x == ("__debug__" : Str)) = false := by decide)
    (hcd : (x == ("__classdict__" : Str)) = false := by decide) : PE X (.Name x pos) (T K W (mV i)) := by
  refine PE.imp (pe_var hN hv hd hcd) fun σ H Q ⟨w, fr, e, ok, f, h⟩ => ?_
  subst e
  unfold mV at h
  cases q : fr[i]? with
  | none => simp only [q] at h; exact h.elim
  | some o =>
    cases o with
    | none => simp only [q] at h; exact h.elim
    | some x =>
      simp only [q] at h
      obtain ⟨v, hv, r⟩ := f.get i x q
      exact ⟨v, hv, h w rfl (.refl w) ok v r⟩
theorem de_c {e : Expr} {v : V} {d : D} (h : PE X e (tC v)) (r : ∀ P, RV K P d v) : PE X e (T K W (mC d)) := by
  refine PE.imp h fun σ H Q ⟨w, fr, e, ok, f, h⟩ => ?_
  subst e
  exact h w rfl (.refl w) ok v (r _)
theorem de_int {i : Int} {j pos} : PE X (.Constant (.int i) j pos) (T K W (mC (.int i))) := de_c pe_int fun _ => .int
theorem de_str {i : Str} {j pos} : PE X (.Constant (.str i) j pos) (T K W (mC (.str i))) := de_c pe_str fun _ => .str
theorem de_bl {i : Bool} {j pos} : PE X (.Constant (.bool i) j pos) (T K W (mC (.bl i))) := de_c pe_bl fun _ => .bl
theorem de_non {j pos} : PE X (.Constant .none j pos) (T K W (mC .non)) := de_c pe_non fun _ => .non
/-- a module's constant -/
def Gc (K : Bk) (x : Str) (d : D) : Prop := ∃ v u, K.mg x = some u ∧ RelV v u ∧ ∀ P, RV K P d v
theorem de_g {x : Str} {d : D} {pos : Pos} (G : Gc (bk X) x d) (hg : Gl X x := by rfl) (hd : (x == ("__debug__" : Str)) = false := by decide) : PE X (.Name x pos) (T (bk X) W (mC d)) := by
  obtain ⟨v, u, h1, h2, h3⟩ := G
  exact de_c (pe_glob hg h1 h2 hd) h3
/-- two values in, one out: op tells the data -/
def rD (K : Bk) (op : D → D → Option D) : R2 := fun x y H Q => ∃ (P : Hp) (dx dy d : D), Sub P H ∧ SV K P H dx x ∧ SV K P H dy y ∧ op dx dy = some d ∧ ∀ P' H' v, PExt P H P' H' → RV K P' d v → Q v H'
def rDs (K : Bk) (op : List D → Option D) : List V → Hp → VK → Prop := fun xs H Q => ∃ (P : Hp) (ds : List D) (d : D), Sub P H ∧ SVs K P H ds xs ∧ op ds = some d ∧ ∀ P' H' v, PExt P H P' H' → RV K P' d v → Q v H'
def mOp (op : D → D → Option D) (a b : DE) : DE := fun fr g => (a fr g).bind fun x g1 => (b fr g1).bind fun y g2 => ofO ((asD g2 x).bind fun p => (asD g2 y).bind fun q => op p q) g2
theorem Fin.op2 {op : D → D → Option D} {w : Wd} {σ : St} {x y : LV} {v u : V} {Q : VK} (ok : w.Ok K) (r1 : RL K w x v) (r2 : RL K w y u)
    (h : Fin K W w σ (ofO ((asD w.g x).bind fun p => (asD w.g y).bind fun q => op p q) w.g) Q) : rD K op v u w.H Q := by
  cases q1 : asD w.g x with
  | none => rw [q1] at h; exact h.elim
  | some dx =>
    cases q2 : asD w.g y with
    | none => rw [q1, q2] at h; exact h.elim
    | some dy =>
      rw [q1, q2, Option.bind_some, Option.bind_some] at h
      cases q3 : op dx dy with
      | none => rw [q3] at h; exact h.elim
      | some d =>
        rw [q3] at h
        exact ⟨w.P, dx, dy, d, ok.sub, r1.sv ok q1, r2.sv ok q2, q3, fun P' H' v' e r => h.data ok e r⟩
theorem T.op2 {op : D → D → Option D} {ma mb : DE} {σ : St} {H : Hp} {Q : VK} (h : T K W (mOp op ma mb) σ H Q) : tOp (rD K op) (T K W ma) (T K W mb) σ H Q := by
  obtain ⟨w, fr, rfl, ok, f, h⟩ := h
  exact ⟨w, fr, rfl, ok, f, h.bind fun x w1 v e1 o1 r1 h1 => ⟨w1, fr, rfl, o1, f.mono e1, h1.bind fun y w2 u e2 o2 r2 h2 => Fin.op2 o2 (r1.mono e2) r2 h2⟩⟩
theorem de_bin {op : Operator} {o : D → D → Option D} {a b : Expr} {ma mb : DE} {pos : Pos} (ho : OpR X (binaryOp op) (rD K o)) (ha : PE X a (T K W ma)) (hb : PE X b (T K W mb)) : PE X (.BinOp a op b pos) (T K W (mOp o ma mb)) :=
  PE.imp (pe_op ho ha hb) fun _ _ _ h => h.op2
theorem de_cmp {op : CmpOp} {o : D → D → Option D} {a b : Expr} {ma mb : DE} {pos : Pos} (ho : OpR X (compareOp op) (rD K o)) (ha : PE X a (T K W ma)) (hb : PE X b (T K W mb)) (hm : behindInMarks op b = false := by first | rfl | exact nomark _) : PE X (.Compare a [op] [b] pos) (T K W (mOp o ma mb)) :=
  PE.imp (pe_cmpR ho ha hb hm) fun _ _ _ h => h.op2
theorem dt_cmp {op : CmpOp} {o : D → D → Option D} {a b : Expr} {ma mb : DE} {pos : Pos} (ho : OpR X (compareOp op) (rD K o)) (ha : PE X a (T K W ma)) (hb : PE X b (T K W mb)) (hm : behindInMarks op b = false := by first | rfl | exact nomark _) : PT X (.Compare a [op] [b] pos) (TB K W (mOp o ma mb)) :=
  PT.imp (pt_cmpR ho ha hb hm) fun _ _ _ h => T.op2 h
theorem de_ix {o : D → D → Option D} {a b : Expr} {ma mb : DE} {pos : Pos} (ho : IxR X (rD K o)) (ha : PE X a (T K W ma)) (hb : PE X b (T K W mb)) (hs : PlainIx b := by exact fun _ _ => rfl) : PE X (.Subscript a b pos) (T K W (mOp o ma mb)) :=
  PE.imp (pe_ix ho ha hb hs) fun _ _ _ h => h.op2
/-- one value in -/
def rD1 (K : Bk) (op : D → Option D) : V → Hp → VK → Prop := fun x H Q => ∃ (P : Hp) (dx d : D), Sub P H ∧ SV K P H dx x ∧ op dx = some d ∧ ∀ P' H' v, PExt P H P' H' → RV K P' d v → Q v H'
def mOp1 (op : D → Option D) (a : DE) : DE := fun fr g => (a fr g).bind fun x g1 => ofO ((asD g1 x).bind op) g1
theorem T.op1 {op : D → Option D} {ma : DE} {σ : St} {H : Hp} {Q : VK} (h : T K W (mOp1 op ma) σ H Q) : T K W ma σ H fun x H1 => rD1 K op x H1 Q := by
  obtain ⟨w, fr, rfl, ok, f, h⟩ := h
  refine ⟨w, fr, rfl, ok, f, h.bind fun x w1 v e1 o1 r1 h1 => ?_⟩
  cases q1 : asD w1.g x with
  | none => rw [q1] at h1; exact h1.elim
  | some dx =>
    rw [q1, Option.bind_some] at h1
    cases q3 : op dx with
    | none => rw [q3] at h1; exact h1.elim
    | some d =>
      rw [q3] at h1
      exact ⟨w1.P, dx, d, o1.sub, r1.sv o1 q1, q3, fun P' H' v' e r => h1.data o1 e r⟩
theorem de_un {op : UnaryOp} {o : D → Option D} {a : Expr} {ma : DE} {pos : Pos} (ho : UnR X (unaryOp op) (rD1 K o)) (ha : PE X a (T K W ma)) : PE X (.UnaryOp op a pos) (T K W (mOp1 o ma)) :=
  PE.imp (pe_un ho ha) fun _ _ _ h => h.op1
def aNil : DA := fun _ g => .ok [] g
def aCons (a : DE) (b : DA) : DA := fun fr g => (a fr g).bindA fun x g1 => (b fr g1).bindA fun xs g2 => .ok (x :: xs) g2
theorem da_nil : PA X [] (TA' K W aNil) := PA.imp pa_nil fun σ H Q ⟨w, fr, e, ok, f, h⟩ => by
  subst e
  exact h w rfl (.refl w) ok [] .nil
theorem da_cons {e : Expr} {es : List Expr} {ma : DE} {mb : DA} (ha : PE X e (T K W ma)) (hr : PA X es (TA' K W mb)) (hs : starEach (e :: es) X.env = (false, eval e X.env) :: starEach es X.env := by rfl) : PA X (e :: es) (TA' K W (aCons ma mb)) := by
  refine PA.imp (pa_cons ha hr hs) fun σ H Q ⟨w, fr, e, ok, f, h⟩ => ?_
  subst e
  exact ⟨w, fr, rfl, ok, f, Fin.bindA h fun x w1 v e1 o1 r1 h1 => ⟨w1, fr, rfl, o1, f.mono e1, FinA.bindA h1 fun xs w2 vs e2 o2 r2 h2 => h2 w2 rfl (.refl w2) o2 (v :: vs) (.cons (r1.mono e2) r2)⟩⟩
/-- a call of a built-in by data -/
def mFn (op : List D → Option D) (a : DA) : DE := fun fr g => (a fr g).bind fun xs g1 => ofO ((asDs g1 xs).bind op) g1
theorem T.fn {op : List D → Option D} {ma : DA} {σ : St} {H : Hp} {Q : VK} (h : T K W (mFn op ma) σ H Q) : TA' K W ma σ H fun xs H1 => rDs K op xs H1 Q := by
  obtain ⟨w, fr, rfl, ok, f, h⟩ := h
  refine ⟨w, fr, rfl, ok, f, FinA.bind h fun xs w1 vs e1 o1 r1 h1 => ?_⟩
  cases q1 : asDs w1.g xs with
  | none => rw [q1] at h1; exact h1.elim
  | some ds =>
    rw [q1, Option.bind_some] at h1
    cases q3 : op ds with
    | none => rw [q3] at h1; exact h1.elim
    | some d =>
      rw [q3] at h1
      exact ⟨w1.P, ds, d, o1.sub, r1.sv o1 q1, q3, fun P' H' v' e r => h1.data o1 e r⟩
theorem de_fn {op : List D → Option D} {id : String} {x : Str} {p pos : Pos} {e : Expr} {es : List Expr} {ma : DA} (hc : CallR X (.builtin id) (rDs K op)) (hm : X.mg x = none) (hv : bootBuiltins x = some (.builtin id)) (ha : PA X (e :: es) (TA' K W ma)) (hg : Gl X x := by rfl) (hn : x ≠ "__name__" := by decide) (hdb : (x == ("__debug__" : Str)) = false := by decide)
    (he : starEach (e :: es) X.env = (false, eval e X.env) :: starEach es X.env := by rfl) (hpl : (backTo pos (starEach es X.env)).any (·.1) = false := by rfl) : PE X (.Call (.Name x p) (e :: es) [] pos) (T K W (mFn op ma)) :=
  PE.imp (pe_callB hc hg hm hv ha hn hdb he hpl) fun _ _ _ h => h.fn
theorem de_ty {op : List D → Option D} {id : String} {x : Str} {p pos : Pos} {e : Expr} {es : List Expr} {ma : DA} (hc : CallR X (.type id) (rDs K op)) (hm : X.mg x = none) (hv : bootBuiltins x = some (.type id)) (ha : PA X (e :: es) (TA' K W ma)) (hg : Gl X x := by rfl) (hn : x ≠ "__name__" := by decide) (hdb : (x == ("__debug__" : Str)) = false := by decide)
    (he : starEach (e :: es) X.env = (false, eval e X.env) :: starEach es X.env := by rfl) (hpl : (backTo pos (starEach es X.env)).any (·.1) = false := by rfl) : PE X (.Call (.Name x p) (e :: es) [] pos) (T K W (mFn op ma)) :=
  PE.imp (pe_callTy hc hg hm hv ha hn hdb he hpl) fun _ _ _ h => h.fn
def GH.kill (g : GH) (k : Nat) : GH := g.set k .dead
def take1 (g : GH) : LV → Option (D × GH)
  | .v d => some (d, g)
  | .r k => (asD g (.r k)).bind fun d => some (d, g.kill k)
def takes (g : GH) : List LV → Option (List D × GH)
  | [] => some ([], g)
  | x :: xs => (take1 g x).bind fun p => (takes p.2 xs).bind fun q => some (p.1 :: q.1, q.2)
theorem Wd.kill {w : Wd} (ok : w.Ok K) {k : Nat} {xs : List D} (hk : k < w.g.n) (q : w.g.get k = .lst xs) :
    ∃ w' : Wd, w'.g = w.g.kill k ∧ w'.H = w.H ∧ w.Ext w' ∧ w'.Ok K ∧ RV K w'.P (.lst xs) (.ref (w.M k)) := by
  have lv : (w.g.get k).live = true := by rw [q]; rfl
  obtain ⟨⟨o, ho⟩, gk⟩ := ok.own k hk lv
  rw [q] at gk
  obtain ⟨vs, hH, rv⟩ := gk
  have off := ok.off k hk lv
  have sm : Same w.P (upd w.P (w.M k) (.lst vs)) := fun b u e => by rw [upd_ne (ne_of_none e off)]; exact e
  have getk : ∀ i, ((w.g.kill k).get i) = if i = k then .dead else w.g.get i := fun _ => rfl
  have lv' : ∀ i, ((w.g.kill k).get i).live = true → i ≠ k ∧ (w.g.get i).live = true := fun i h => by
    rw [getk] at h
    by_cases hi : i = k
    · rw [if_pos hi] at h; cases h
    · rw [if_neg hi] at h; exact ⟨hi, h⟩
  refine ⟨⟨w.M, w.g.kill k, upd w.P (w.M k) (.lst vs), w.H⟩, rfl, rfl, ⟨Nat.le_refl _, fun _ _ => rfl, sm, fun a u e => ?_, fun a u h _ => h, fun i hi hl => ?_, fun i h1 h2 => absurd h2 (Nat.not_lt.mpr h1), fun _ h => h⟩, ⟨fun a u e => ?_, fun i hi hl => ?_, fun i j hi hj li lj e => ok.inj i j hi hj (lv' i li).2 (lv' j lj).2 e, fun i hi hl => ?_⟩, ?_⟩
  · have e : upd w.P (w.M k) (.lst vs) a = some u := e
    by_cases ha : a = w.M k
    · exact .inr (.inr ⟨k, hk, lv, ha.symm⟩)
    · exact .inl (by rw [upd_ne ha] at e; exact e)
  · show ((w.g.kill k).get i).live = false
    rw [getk]
    by_cases hik : i = k
    · rw [if_pos hik]; rfl
    · rw [if_neg hik]; exact hl
  · have e : upd w.P (w.M k) (.lst vs) a = some u := e
    by_cases ha : a = w.M k
    · subst ha; rw [upd_same] at e; exact hH.trans e
    · exact ok.sub a u (by rw [upd_ne ha] at e; exact e)
  · obtain ⟨h1, h2⟩ := lv' i hl
    show upd w.P (w.M k) (.lst vs) (w.M i) = none
    rw [upd_ne (fun e => h1 (ok.inj i k hi hk h2 lv e))]
    exact ok.off i hi h2
  · obtain ⟨h1, h2⟩ := lv' i hl
    obtain ⟨z1, z2⟩ := ok.own i hi h2
    refine ⟨z1, ?_⟩
    show GOk K _ _ ((w.g.kill k).get i) _
    rw [getk, if_neg h1]
    exact z2.mono sm
  · exact .lst (.inl upd_same) (RVs.mono sm rv)
theorem Wd.take1 {w : Wd} (ok : w.Ok K) {x : LV} {v : V} (r : RL K w x v) {d : D} {g : GH} (e : Dn.take1 w.g x = some (d, g)) : ∃ w' : Wd, w'.g = g ∧ w'.H = w.H ∧ w.Ext w' ∧ w'.Ok K ∧ RV K w'.P d v := by
  cases x with
  | v d' => cases e; exact ⟨w, rfl, rfl, .refl w, ok, r⟩
  | r k =>
    obtain ⟨hk, rfl⟩ := r
    simp only [Dn.take1, asD, if_pos hk] at e
    cases q : w.g.get k with
    | lst xs =>
      rw [q] at e
      cases e
      exact w.kill ok hk q
    | dead => rw [q] at e; cases e
    | dct _ => rw [q] at e; cases e
    | obj _ _ => rw [q] at e; cases e
theorem Wd.takes {xs : List LV} : ∀ {w : Wd} (ok : w.Ok K) {vs : List V} (r : RLs K w xs vs) {ds : List D} {g : GH} (e : Dn.takes w.g xs = some (ds, g)), ∃ w' : Wd, w'.g = g ∧ w'.H = w.H ∧ w.Ext w' ∧ w'.Ok K ∧ RVs K w'.P ds vs := by
  induction xs with
  | nil => intro w ok vs r ds g e; cases r; cases e; exact ⟨w, rfl, rfl, .refl w, ok, .nil⟩
  | cons x xs ih =>
    intro w ok vs r ds g e
    cases r with
    | cons r t =>
      simp only [Dn.takes] at e
      cases q : Dn.take1 w.g x with
      | none => rw [q] at e; cases e
      | some p =>
        obtain ⟨d, g1⟩ := p
        rw [q, Option.bind_some] at e
        obtain ⟨w1, e1, h1, x1, o1, r1⟩ := Wd.take1 ok r q
        subst e1
        cases q2 : Dn.takes w1.g xs with
        | none => simp only [q2] at e; cases e
        | some p2 =>
          obtain ⟨ds2, g2⟩ := p2
          simp only [q2, Option.bind_some] at e
          cases e
          obtain ⟨w2, e2, h2, x2, o2, r2⟩ := ih o1 (t.mono x1) q2
          exact ⟨w2, e2, h2.trans h1, x1.trans x2, o2, .cons (RV.mono x2.P r1) r2⟩
def mTup (a : DA) : DE := fun fr g => (a fr g).bind fun xs g1 => match takes g1 xs with | some (ds, g2) => if ds.length ≤ sizeLine then .ok (.v (.tup ds)) g2 else .bad | none => .bad
def mLst (a : DA) : DE := fun fr g => (a fr g).bind fun xs g1 => match takes g1 xs with | some (ds, g2) => if ds.length ≤ sizeLine then .ok (.v (.lst ds)) g2 else .bad | none => .bad
/-- a list display that is to be changed -/
def mLstR (a : DA) : DE := fun fr g => (a fr g).bind fun xs g1 => match takes g1 xs with | some (ds, g2) => if ds.length ≤ sizeLine then .ok (.r g2.n) (g2.new (.lst ds)) else .bad | none => .bad
theorem de_tup {es : List Expr} {x1} {pos : Pos} {ma : DA} (ha : PA X es (TA' K W ma)) : PE X (.Tuple es x1 pos) (T K W (mTup ma)) := by
  refine PE.imp (pe_tup ha) fun σ H Q ⟨w, fr, e, ok, f, h⟩ => ?_
  subst e
  refine ⟨w, fr, rfl, ok, f, FinA.bind h fun xs w1 vs e1 o1 r1 h1 => ?_⟩
  cases q : takes w1.g xs with
  | none => rw [q] at h1; exact h1.elim
  | some p =>
    obtain ⟨ds, g2⟩ := p
    simp only [q] at h1
    obtain ⟨w2, e2, h2, x2, o2, r2⟩ := Wd.takes o1 r1 q
    by_cases hz : ds.length ≤ sizeLine
    · rw [if_pos hz] at h1
      refine ⟨by rw [← r2.length]; exact hz, fun p hp => ?_⟩
      subst e2
      rw [← h2] at hp ⊢
      exact (h1.shift x2).data o2 (.new1 o2.sub hp) (.tup (SqT.of upd_same) (RVs.mono (PExt.new1 o2.sub hp).sP r2))
    · rw [if_neg hz] at h1; exact h1.elim
theorem de_lst {es : List Expr} {pos : Pos} {ma : DA} (ha : PA X es (TA' K W ma)) : PE X (.List es pos) (T K W (mLst ma)) := by
  refine PE.imp (pe_lst ha) fun σ H Q ⟨w, fr, e, ok, f, h⟩ => ?_
  subst e
  refine ⟨w, fr, rfl, ok, f, FinA.bind h fun xs w1 vs e1 o1 r1 h1 => ?_⟩
  cases q : takes w1.g xs with
  | none => rw [q] at h1; exact h1.elim
  | some p =>
    obtain ⟨ds, g2⟩ := p
    simp only [q] at h1
    obtain ⟨w2, e2, h2, x2, o2, r2⟩ := Wd.takes o1 r1 q
    by_cases hz : ds.length ≤ sizeLine
    · rw [if_pos hz] at h1
      refine ⟨by rw [← r2.length]; exact hz, fun p hp => ?_⟩
      subst e2
      rw [← h2] at hp ⊢
      exact (h1.shift x2).data o2 (.new1 o2.sub hp) (.lst (.inl upd_same) (RVs.mono (PExt.new1 o2.sub hp).sP r2))
    · rw [if_neg hz] at h1; exact h1.elim
/-- a new local list -/
theorem Wd.fresh {w : Wd} (ok : w.Ok K) {ds : List D} {vs : List V} (r : RVs K w.P ds vs) {p : Addr} (hp : w.H p = none) :
    ∃ w' : Wd, w'.g = w.g.new (.lst ds) ∧ w'.H = upd w.H p (.lst vs) ∧ w.Ext w' ∧ w'.Ok K ∧ RL K w' (.r w.g.n) (.ref p) := by
  have M' : ∀ k, k < w.g.n → (fun i => if i = w.g.n then p else w.M i) k = w.M k := fun k h => if_neg (Nat.ne_of_lt h)
  have g' : ∀ k, k < w.g.n → (w.g.new (.lst ds)).get k = w.g.get k := fun k h => if_neg (Nat.ne_of_lt h)
  have gn : (w.g.new (.lst ds)).get w.g.n = .lst ds := if_pos rfl
  have hP : w.P p = none := by
    cases q : w.P p with
    | none => rfl
    | some u => rw [ok.sub _ _ q] at hp; cases hp
  have sH : Same w.H (upd w.H p (.lst vs)) := fun b u e => by rw [upd_ne (ne_of_none e hp)]; exact e
  have cs : ∀ k, k < (w.g.new (.lst ds)).n → k < w.g.n ∨ k = w.g.n := fun k h => by
    have h' : k < w.g.n + 1 := h
    omega
  have mp : ∀ k, k < w.g.n → (w.g.get k).live = true → w.M k ≠ p := fun k hk hl e => by
    obtain ⟨o, ho⟩ := ok.there hk hl
    rw [e, hp] at ho; cases ho
  refine ⟨⟨fun i => if i = w.g.n then p else w.M i, w.g.new (.lst ds), w.P, upd w.H p (.lst vs)⟩, rfl, rfl, ⟨Nat.le_succ _, M', Same.refl _, fun _ _ h => .inl h, fun a u h _ => sH a u h, fun k h l => by show ((w.g.new (.lst ds)).get k).live = false; rw [g' k h]; exact l, fun k h1 h2 _ => ?_, fun a h => sH.free h⟩, ⟨fun a u e => sH a u (ok.sub a u e), fun k hk hl => ?_, fun i j hi hj li lj e => ?_, fun k hk hl => ?_⟩, ⟨Nat.lt_succ_self _, ?_⟩⟩
  · have e : k = w.g.n := by rcases cs k h2 with z | z <;> omega
    subst e
    show w.H (if w.g.n = w.g.n then p else w.M w.g.n) = none
    rw [if_pos rfl]; exact hp
  · show w.P (if k = w.g.n then p else w.M k) = none
    rcases cs k hk with z | z
    · rw [if_neg (Nat.ne_of_lt z)]
      exact ok.off k z (by rw [← g' k z]; exact hl)
    · rw [if_pos z]; exact hP
  · have e' : (if i = w.g.n then p else w.M i) = (if j = w.g.n then p else w.M j) := e
    rcases cs i hi with zi | zi <;> rcases cs j hj with zj | zj
    · rw [if_neg (Nat.ne_of_lt zi), if_neg (Nat.ne_of_lt zj)] at e'
      exact ok.inj i j zi zj (by rw [← g' i zi]; exact li) (by rw [← g' j zj]; exact lj) e'
    · rw [if_neg (Nat.ne_of_lt zi), if_pos zj] at e'
      exact (mp i zi (by rw [← g' i zi]; exact li) e').elim
    · rw [if_pos zi, if_neg (Nat.ne_of_lt zj)] at e'
      exact (mp j zj (by rw [← g' j zj]; exact lj) e'.symm).elim
    · rw [zi, zj]
  · show (∃ o, upd w.H p (.lst vs) (if k = w.g.n then p else w.M k) = some o) ∧ GOk K w.P _ ((w.g.new (.lst ds)).get k) (upd w.H p (.lst vs) (if k = w.g.n then p else w.M k))
    rcases cs k hk with z | z
    · rw [if_neg (Nat.ne_of_lt z), g' k z]
      have l' : (w.g.get k).live = true := by rw [← g' k z]; exact hl
      obtain ⟨⟨o, ho⟩, gg⟩ := ok.own k z l'
      rw [upd_ne (mp k z l')]
      exact ⟨⟨o, ho⟩, by cases q : w.g.get k <;> rw [q] at gg <;> exact gg⟩
    · subst z
      rw [if_pos rfl, gn, upd_same]
      exact ⟨⟨_, rfl⟩, vs, rfl, r⟩
  · show V.ref p = .ref (if w.g.n = w.g.n then p else w.M w.g.n)
    rw [if_pos rfl]
theorem de_lstR {es : List Expr} {pos : Pos} {ma : DA} (ha : PA X es (TA' K W ma)) : PE X (.List es pos) (T K W (mLstR ma)) := by
  refine PE.imp (pe_lst ha) fun σ H Q ⟨w, fr, e, ok, f, h⟩ => ?_
  subst e
  refine ⟨w, fr, rfl, ok, f, FinA.bind h fun xs w1 vs e1 o1 r1 h1 => ?_⟩
  cases q : takes w1.g xs with
  | none => rw [q] at h1; exact h1.elim
  | some p =>
    obtain ⟨ds, g2⟩ := p
    simp only [q] at h1
    obtain ⟨w2, e2, h2, x2, o2, r2⟩ := Wd.takes o1 r1 q
    by_cases hz : ds.length ≤ sizeLine
    · rw [if_pos hz] at h1
      refine ⟨by rw [← r2.length]; exact hz, fun p hp => ?_⟩
      subst e2
      rw [← h2] at hp ⊢
      obtain ⟨w3, e3, h3, x3, o3, r3⟩ := Wd.fresh o2 r2 hp
      rw [← h3]
      exact (h1.shift x2) w3 e3 x3 o3 _ r3
    · rw [if_neg hz] at h1; exact h1.elim
def onB (x : LV) (f : Bool → Res) : Res := match x with | .v (.bl b) => f b | _ => .bad
def mNot (a : DE) : DE := fun fr g => (a fr g).bind fun x g1 => onB x fun c => .ok (.v (.bl (!c))) g1
def mAnd (a b : DE) : DE := fun fr g => (a fr g).bind fun x g1 => onB x fun c => if c = true then b fr g1 else .ok (.v (.bl false)) g1
def mOr (a b : DE) : DE := fun fr g => (a fr g).bind fun x g1 => onB x fun c => if c = true then .ok (.v (.bl true)) g1 else b fr g1
def mIf (c a b : DE) : DE := fun fr g => (c fr g).bind fun x g1 => onB x fun c => if c = true then a fr g1 else b fr g1
theorem RL.is_bl {w : Wd} {b : Bool} {v : V} (r : RL K w (.v (.bl b)) v) : v = .bl b := by
  have r' : RV K w.P (.bl b) v := r
  cases r'; rfl
/-- split by a truth -/
theorem Fin.truth {w : Wd} {σ : St} {x : LV} {f : Bool → Res} {Q : VK} {v : V} (r : RL K w x v) (h : Fin K W w σ (onB x f) Q) : ∃ b, v = .bl b ∧ x = .v (.bl b) ∧ Fin K W w σ (f b) Q := by
  cases x with
  | r k => exact h.elim
  | v d =>
    cases d with
    | bl b => exact ⟨b, r.is_bl, rfl, h⟩
    | _ => exact h.elim
theorem T.mono {m : DE} {σ : St} {H : Hp} {Q Q' : VK} (h : T K W m σ H Q) (i : ∀ v H, Q v H → Q' v H) : T K W m σ H Q' := by
  obtain ⟨w, fr, e, ok, f, h⟩ := h
  refine ⟨w, fr, e, ok, f, ?_⟩
  cases q : m fr w.g with
  | ok x g => rw [q] at h; exact fun w' a b c v r => i _ _ (h w' a b c v r)
  | exc y g => rw [q] at h; exact h
  | bad => rw [q] at h; exact h
theorem T.and {ma mb : DE} {σ : St} {H : Hp} {Q : VK} (h : T K W (mAnd ma mb) σ H Q) : T K W ma σ H fun x H1 => ∃ c, x = .bl c ∧ if c = true then T K W mb σ H1 Q else Q (.bl false) H1 := by
  obtain ⟨w, fr, rfl, ok, f, h⟩ := h
  refine ⟨w, fr, rfl, ok, f, h.bind fun x w1 v e1 o1 r1 h1 => ?_⟩
  obtain ⟨c, rfl, _, h1⟩ := h1.truth r1
  refine ⟨c, rfl, ?_⟩
  cases c with
  | true => rw [if_pos rfl] at h1 ⊢; exact ⟨w1, fr, rfl, o1, f.mono e1, h1⟩
  | false => rw [if_neg Bool.false_ne_true] at h1 ⊢; exact h1 w1 rfl (.refl _) o1 _ RV.bl
theorem T.or {ma mb : DE} {σ : St} {H : Hp} {Q : VK} (h : T K W (mOr ma mb) σ H Q) : T K W ma σ H fun x H1 => ∃ c, x = .bl c ∧ if c = true then Q (.bl true) H1 else T K W mb σ H1 Q := by
  obtain ⟨w, fr, rfl, ok, f, h⟩ := h
  refine ⟨w, fr, rfl, ok, f, h.bind fun x w1 v e1 o1 r1 h1 => ?_⟩
  obtain ⟨c, rfl, _, h1⟩ := h1.truth r1
  refine ⟨c, rfl, ?_⟩
  cases c with
  | true => rw [if_pos rfl] at h1 ⊢; exact h1 w1 rfl (.refl _) o1 _ RV.bl
  | false => rw [if_neg Bool.false_ne_true] at h1 ⊢; exact ⟨w1, fr, rfl, o1, f.mono e1, h1⟩
theorem T.not {ma : DE} {σ : St} {H : Hp} {Q : VK} (h : T K W (mNot ma) σ H Q) : T K W ma σ H fun x H1 => ∃ c, x = .bl c ∧ Q (.bl (!c)) H1 := by
  obtain ⟨w, fr, rfl, ok, f, h⟩ := h
  refine ⟨w, fr, rfl, ok, f, Fin.bind h fun x w1 v e1 o1 r1 h1 => ?_⟩
  obtain ⟨c, rfl, rfl, h1⟩ := Fin.truth r1 h1
  exact ⟨c, rfl, h1 w1 rfl (.refl _) o1 _ RV.bl⟩
variable {a b : Expr} {rest : List Expr} {ma mb mc : DE} {pos : Pos}
theorem de_and (ha : PE X a (T K W ma)) (hb : PE X (.BoolOp .And (b :: rest) pos) (T K W mb)) : PE X (.BoolOp .And (a :: b :: rest) pos) (T K W (mAnd ma mb)) := PE.imp (pe_and ha hb) fun _ _ _ h => h.and
theorem de_or (ha : PE X a (T K W ma)) (hb : PE X (.BoolOp .Or (b :: rest) pos) (T K W mb)) : PE X (.BoolOp .Or (a :: b :: rest) pos) (T K W (mOr ma mb)) := PE.imp (pe_or ha hb) fun _ _ _ h => h.or
theorem de_one {op} (ha : PE X a (T K W ma)) : PE X (.BoolOp op [a] pos) (T K W ma) := pe_one ha
theorem de_not (ha : PE X a (T K W ma)) : PE X (.UnaryOp .Not a pos) (T K W (mNot ma)) := PE.imp (pe_not ha) fun _ _ _ h => h.not
theorem dt_val {e : Expr} (h : PE X e (T K W ma)) (he : ∀ whole, isTrue e X.env whole = (do let v ← whole; standAt e.pos; holding [v] (truthy v)) := by intro _; rfl) : PT X e (TB K W ma) := pt_val h he
theorem dt_not (h : PT X a (TB K W ma)) : PT X (.UnaryOp .Not a pos) (TB K W (mNot ma)) := by
  refine PT.imp (pt_not h) fun σ H Q q => ?_
  exact (T.not q).mono fun v H1 ⟨c, e, d, e2, q⟩ => ⟨c, e, by cases e2; exact q⟩
theorem PW.imp {X : Cx} {e : Expr} {t t' : TT} (h : PW X e t) (i : ∀ σ H Q, t' σ H Q → t σ H Q) : PW X e t' := ⟨fun wh pins s σ H Q I q => h.run wh pins s σ H Q I (i _ _ _ q)⟩
theorem dw_and (ha : PT X a (TB K W ma)) (hb : PW X (.BoolOp .And (b :: rest) pos) (TB K W mb)) : PW X (.BoolOp .And (a :: b :: rest) pos) (TB K W (mAnd ma mb)) := by
  refine PW.imp (pw_and ha hb) fun σ H Q q => ?_
  exact (T.and q).mono fun v H1 ⟨c, e, q⟩ => ⟨c, e, by
    cases c with
    | true => rw [if_pos rfl] at q ⊢; exact q
    | false => rw [if_neg Bool.false_ne_true] at q ⊢; obtain ⟨d, e2, q⟩ := q; cases e2; exact q⟩
theorem dw_or (ha : PT X a (TB K W ma)) (hb : PW X (.BoolOp .Or (b :: rest) pos) (TB K W mb)) : PW X (.BoolOp .Or (a :: b :: rest) pos) (TB K W (mOr ma mb)) := by
  refine PW.imp (pw_or ha hb) fun σ H Q q => ?_
  exact (T.or q).mono fun v H1 ⟨c, e, q⟩ => ⟨c, e, by
    cases c with
    | true => rw [if_pos rfl] at q ⊢; obtain ⟨d, e2, q⟩ := q; cases e2; exact q
    | false => rw [if_neg Bool.false_ne_true] at q ⊢; exact q⟩
theorem dw_and1 (ha : PT X a (TB K W ma)) : PW X (.BoolOp .And [a] pos) (TB K W ma) := pw_and1 ha
theorem dw_or1 (ha : PT X a (TB K W ma)) : PW X (.BoolOp .Or [a] pos) (TB K W ma) := pw_or1 ha
theorem T.if {σ : St} {H : Hp} {Q : VK} (h : T K W (mIf mc ma mb) σ H Q) : T K W mc σ H fun x H1 => ∃ c, x = .bl c ∧ if c = true then T K W ma σ H1 Q else T K W mb σ H1 Q := by
  obtain ⟨w, fr, rfl, ok, f, h⟩ := h
  refine ⟨w, fr, rfl, ok, f, h.bind fun x w1 v e1 o1 r1 h1 => ?_⟩
  obtain ⟨c, rfl, _, h1⟩ := h1.truth r1
  refine ⟨c, rfl, ?_⟩
  cases c with
  | true => rw [if_pos rfl] at h1 ⊢; exact ⟨w1, fr, rfl, o1, f.mono e1, h1⟩
  | false => rw [if_neg Bool.false_ne_true] at h1 ⊢; exact ⟨w1, fr, rfl, o1, f.mono e1, h1⟩
theorem de_if {c : Expr} (hc : PT X c (TB K W mc)) (ha : PE X a (T K W ma)) (hb : PE X b (T K W mb)) : PE X (.IfExp c a b pos) (T K W (mIf mc ma mb)) := PE.imp (pe_ifExp hc ha hb) fun _ _ _ h => T.if h
end
end Dn
namespace Dn
open PySem PySem.Spec PyProof.Rows L2
def Res.toS (r : Res) (fr : Fr) (k : LV → GH → SRes) : SRes := match r with
  | .ok x g => k x g
  | .exc e g => .exc e fr g
  | .bad => .bad
def ARes.toS (r : ARes) (fr : Fr) (k : List LV → GH → SRes) : SRes := match r with
  | .ok x g => k x g
  | .exc e g => .exc e fr g
  | .bad => .bad
def SRes.seq (r : SRes) (t : DS) : SRes := match r with
  | .nx fr g => t fr g
  | r => r
def onBS (x : LV) (f : Bool → SRes) : SRes := match x with | .v (.bl b) => f b | _ => .bad
def sNil : DS := fun fr g => .nx fr g
def sSeq (s t : DS) : DS := fun fr g => (s fr g).seq t
def sSet (i : Nat) (m : DE) : DS := fun fr g => (m fr g).toS fr fun x g1 => .nx (fr.set i (some x)) g1
def sExpr (m : DE) : DS := fun fr g => (m fr g).toS fr fun _ g1 => .nx fr g1
def sRet (m : DE) : DS := fun fr g => (m fr g).toS fr fun x g1 => .rt x g1
def sRetN : DS := fun _ g => .rt (.v .non) g
def sIf (c : DE) (s t : DS) : DS := fun fr g => (c fr g).toS fr fun x g1 => onBS x fun b => if b = true then s fr g1 else t fr g1
def sPar (i j : Nat) (a : DA) : DS := fun fr g => (a fr g).toS fr fun xs g1 => match xs with | [x, y] => .nx ((fr.set i (some x)).set j (some y)) g1 | _ => .bad
/-- a target -/
abbrev DG := D → Fr → Option Fr
abbrev DGs := List D → Fr → Option Fr
def gN (i : Nat) : DG := fun d fr => some (fr.set i (some (.v d)))
def gsNil : DGs := fun ds fr => match ds with | [] => some fr | _ => none
def gsCons (t : DG) (u : DGs) : DGs := fun ds fr => match ds with | d :: r => (t d fr).bind fun fr' => u r fr' | [] => none
def gT (u : DGs) : DG := fun d fr => match d with | .tup ds => u ds fr | .lst ds => u ds fr | _ => none
def sAsg (m : DE) (t : DG) : DS := fun fr g => (m fr g).toS fr fun x g1 => match take1 g1 x with
  | some (d, g2) => (match t d fr with | some fr' => .nx fr' g2 | none => .bad)
  | none => .bad
/-- what is walked: the items; a local list that must stay -/
inductive IRes where
  | ok (items : List D) (gd : Option Nat) (g : GH) | exc (e : Ex) (g : GH) | bad
abbrev DI := Fr → GH → IRes
def gdOk (gd : Option Nat) (items : List D) (g : GH) : Prop := ∀ k, gd = some k → k < g.n ∧ g.get k = .lst items
def IRes.toS (r : IRes) (fr : Fr) (k : List D → Option Nat → GH → SRes) : SRes := match r with
  | .ok x gd g => k x gd g
  | .exc e g => .exc e fr g
  | .bad => .bad
open Classical in
noncomputable def forGo (gd : Option Nat) (items : List D) (t : DG) (s : DS) : List D → DS
  | [], fr, g => if gdOk gd items g then .nx fr g else .bad
  | d :: ds, fr, g => if gdOk gd items g then (match t d fr with
      | some fr1 => (match s fr1 g with
          | .nx fr2 g2 => forGo gd items t s ds fr2 g2
          | .ct fr2 g2 => forGo gd items t s ds fr2 g2
          | .bk fr2 g2 => .nx fr2 g2
          | r => r)
      | none => .bad) else .bad
noncomputable def sFor (m : DI) (t : DG) (s : DS) : DS := fun fr g => (m fr g).toS fr fun items gd g1 => forGo gd items t s items fr g1
def whileN (c : DE) (s : DS) : Nat → DS
  | 0, _, _ => .bad
  | n + 1, fr, g => (c fr g).toS fr fun x g1 => onBS x fun b => if b = true then (match s fr g1 with
      | .nx fr2 g2 => whileN c s n fr2 g2
      | .ct fr2 g2 => whileN c s n fr2 g2
      | .bk fr2 g2 => .nx fr2 g2
      | r => r) else .nx fr g1
theorem whileN_mono (c : DE) (s : DS) : ∀ (n : Nat) (fr : Fr) (g : GH), whileN c s n fr g ≠ .bad → whileN c s (n + 1) fr g = whileN c s n fr g
  | 0, _, _, h => (h rfl).elim
  | n + 1, fr, g, h => by
    unfold whileN at h ⊢
    cases q : c fr g with
    | bad => rfl
    | exc e g1 => rfl
    | ok x g1 =>
      rw [q] at h
      show onBS x _ = onBS x _
      have h : onBS x _ ≠ .bad := h
      unfold onBS at h ⊢
      cases x with
      | r k => rfl
      | v d =>
        cases d with
        | bl b =>
          cases b with
          | false => rfl
          | true =>
            simp only [if_true] at h ⊢
            cases q2 : s fr g1 with
            | nx fr2 g2 => rw [q2] at h; exact whileN_mono c s n fr2 g2 h
            | ct fr2 g2 => rw [q2] at h; exact whileN_mono c s n fr2 g2 h
            | bk fr2 g2 => rfl
            | rt x g => rfl
            | exc e fr g => rfl
            | bad => rfl
        | _ => rfl
theorem whileN_le (c : DE) (s : DS) {n m : Nat} (h : n ≤ m) (fr : Fr) (g : GH) (hb : whileN c s n fr g ≠ .bad) : whileN c s m fr g = whileN c s n fr g := by
  obtain ⟨k, rfl⟩ := Nat.exists_eq_add_of_le h
  induction k with
  | zero => rfl
  | succ k ih =>
    have ih := ih (Nat.le_add_right _ _)
    rw [← Nat.add_assoc, whileN_mono c s (n + k) fr g (by rw [ih]; exact hb), ih]
open Classical in
noncomputable def sWhile (c : DE) (s : DS) : DS := fun fr g => if h : ∃ n, whileN c s n fr g ≠ .bad then whileN c s (Classical.choose h) fr g else .bad
theorem sWhile_eq {c : DE} {s : DS} {fr : Fr} {g : GH} {n : Nat} {r : SRes} (h : whileN c s n fr g = r) (hb : r ≠ .bad) : sWhile c s fr g = r := by
  have hx : ∃ n, whileN c s n fr g ≠ .bad := ⟨n, by rw [h]; exact hb⟩
  unfold sWhile
  rw [dif_pos hx]
  have z := Classical.choose_spec hx
  rcases Nat.le_total n (Classical.choose hx) with q | q
  · rw [whileN_le c s q fr g (by rw [h]; exact hb), h]
  · rw [← whileN_le c s q fr g z, h]
section
variable {K : Bk} {W : WX} {X : Cx}
def FinS (K : Bk) (W : WX) (w : Wd) (r : SRes) (D : Ends) : Prop := match r with
  | .nx fr g => ∀ w', w'.g = g → w.Ext w' → w'.Ok K → ∀ σ, FrOk K w' fr σ → D.nx σ w'.H
  | .ct fr g => ∀ w', w'.g = g → w.Ext w' → w'.Ok K → ∀ σ, FrOk K w' fr σ → D.ct σ w'.H
  | .bk fr g => ∀ w', w'.g = g → w.Ext w' → w'.Ok K → ∀ σ, FrOk K w' fr σ → D.bk σ w'.H
  | .rt x g => ∀ w', w'.g = g → w.Ext w' → w'.Ok K → ∀ v, RL K w' x v → D.rt v w'.H
  | .exc e fr g => ∀ w', w'.g = g → w.Ext w' → w'.Ok K → ∀ σ, FrOk K w' fr σ → ∀ C dd, EOk K w.H w' e C dd → W C dd σ w'.H
  | .bad => False
theorem FinS.shift {w w1 : Wd} (e : w.Ext w1) {r : SRes} {D : Ends} (h : FinS K W w r D) : FinS K W w1 r D := by
  cases r with
  | nx fr g => exact fun w' eg x' o => h w' eg (e.trans x') o
  | ct fr g => exact fun w' eg x' o => h w' eg (e.trans x') o
  | bk fr g => exact fun w' eg x' o => h w' eg (e.trans x') o
  | rt x g => exact fun w' eg x' o => h w' eg (e.trans x') o
  | exc y fr g => exact fun w' eg x' o σ f C dd z => h w' eg (e.trans x') o σ f C dd (z.base e.dom)
  | bad => exact h
def TD (K : Bk) (W : WX) (s : DS) : TS := fun D σ H => ∃ (w : Wd) (fr : Fr), w.H = H ∧ w.Ok K ∧ FrOk K w fr σ ∧ FinS K W w (s fr w.g) D
theorem FinS.toS {w : Wd} {fr : Fr} {σ : St} {r : Res} {k : LV → GH → SRes} {D : Ends} {R : VK} (f : FrOk K w fr σ) (h : FinS K W w (r.toS fr k) D)
    (hk : ∀ x w1 v, w.Ext w1 → w1.Ok K → FrOk K w1 fr σ → RL K w1 x v → FinS K W w1 (k x w1.g) D → R v w1.H) : Fin K W w σ r R := by
  cases r with
  | ok x g =>
    intro w1 eg e o v rv
    subst eg
    exact hk x w1 v e o (f.mono e) rv (FinS.shift e h)
  | exc y g => exact fun w1 eg e o C dd q => h w1 eg e o σ (f.mono e) C dd q
  | bad => exact h
theorem FinS.toSA {w : Wd} {fr : Fr} {σ : St} {r : ARes} {k : List LV → GH → SRes} {D : Ends} {R : List V → Hp → Prop} (f : FrOk K w fr σ) (h : FinS K W w (r.toS fr k) D)
    (hk : ∀ x w1 v, w.Ext w1 → w1.Ok K → FrOk K w1 fr σ → RLs K w1 x v → FinS K W w1 (k x w1.g) D → R v w1.H) : FinA K W w σ r R := by
  cases r with
  | ok x g =>
    intro w1 eg e o v rv
    subst eg
    exact hk x w1 v e o (f.mono e) rv (FinS.shift e h)
  | exc y g => exact fun w1 eg e o C dd q => h w1 eg e o σ (f.mono e) C dd q
  | bad => exact h
theorem FinS.truth {w : Wd} {x : LV} {f : Bool → SRes} {D : Ends} {v : V} (r : RL K w x v) (h : FinS K W w (onBS x f) D) : ∃ b, v = .bl b ∧ FinS K W w (f b) D := by
  cases x with
  | r k => exact h.elim
  | v d =>
    cases d with
    | bl b => exact ⟨b, r.is_bl, h⟩
    | _ => exact h.elim
/-- the ends of a first part -/
theorem FinS.seq {w : Wd} {r : SRes} {t : DS} {D : Ends} (h : FinS K W w (r.seq t) D) : FinS K W w r { D with nx := TD K W t D } := by
  cases r with
  | nx fr g =>
    intro w1 eg e o σ f
    subst eg
    exact ⟨w1, fr, rfl, o, f, FinS.shift e h⟩
  | ct fr g => exact h
  | bk fr g => exact h
  | rt x g => exact h
  | exc y fr g => exact h
  | bad => exact h
theorem dss_nil : PSs X [] (TD K W sNil) := PSs.imp pss_nil fun D σ H ⟨w, fr, e, ok, f, h⟩ => by
  subst e
  exact h w rfl (.refl w) ok σ f
theorem dss_cons {st : Stmt} {rest : List Stmt} {s t : DS} (h1 : PS X st (TD K W s)) (h2 : PSs X rest (TD K W t)) : PSs X (st :: rest) (TD K W (sSeq s t)) :=
  PSs.imp (pss_cons h1 h2) fun D σ H ⟨w, fr, e, ok, f, h⟩ => ⟨w, fr, e, ok, f, h.seq⟩
theorem dss_one {st : Stmt} {s : DS} (h1 : PS X st (TD K W s)) : PSs X [st] (TD K W s) := pss_one h1
variable {e : Expr} {m : DE} {pos : Pos}
theorem ds_set (i : Nat) {x : Str} {pos' : Pos} (hN : X.N.Nodup) (he : PE X e (T K W m)) (hi : X.N[i]? = some x := by rfl) (hx : Loc X.env.scope x := by first | exact Or.inl rfl | exact Or.inr rfl) (hs : swapsWith e (some (.Name x pos')) pos.line X.env = pure false := by rfl) (hf : X.fn x = true ∨ X.env.scope.names.lookup x = some .local := by first | exact .inl rfl | exact .inr rfl | assumption) :
    PS X (.Assign [.Name x pos'] e pos) (TD K W (sSet i m)) := by
  refine PS.imp (ps_set hN hi hx he hs hf) fun D σ H ⟨w, fr, eH, ok, f, h⟩ => ?_
  subst eH
  exact ⟨w, fr, rfl, ok, f, FinS.toS f h fun x w1 v e1 o1 f1 r1 h1 => h1 w1 rfl (.refl _) o1 _ (f1.set r1 i)⟩
theorem ds_expr (he : PE X e (T K W m)) (hs : swapsWith e none pos.line X.env = pure false := by rfl) : PS X (.Expr e pos) (TD K W (sExpr m)) := by
  refine PS.imp (ps_expr he hs) fun D σ H ⟨w, fr, eH, ok, f, h⟩ => ?_
  subst eH
  exact ⟨w, fr, rfl, ok, f, FinS.toS f h fun x w1 v e1 o1 f1 r1 h1 => h1 w1 rfl (.refl _) o1 _ f1⟩
theorem ds_ret (he : PE X e (T K W m)) : PS X (.Return (some e) pos) (TD K W (sRet m)) := by
  refine PS.imp (ps_ret he) fun D σ H ⟨w, fr, eH, ok, f, h⟩ => ?_
  subst eH
  exact ⟨w, fr, rfl, ok, f, FinS.toS f h fun x w1 v e1 o1 f1 r1 h1 => h1 w1 rfl (.refl _) o1 _ r1⟩
theorem ds_retN : PS X (.Return none pos) (TD K W sRetN) := by
  refine PS.imp ps_retN fun D σ H ⟨w, fr, eH, ok, f, h⟩ => ?_
  subst eH
  exact h w rfl (.refl w) ok _ RV.non
theorem ds_pass : PS X (.Pass pos) (TD K W sNil) := PS.imp ps_pass fun D σ H ⟨w, fr, e, ok, f, h⟩ => by
  subst e
  exact h w rfl (.refl w) ok σ f
theorem ds_if {c : Expr} {a b : List Stmt} {mc : DE} {s t : DS} (hc : PT X c (TB K W mc)) (ha : PSs X a (TD K W s)) (hb : PSs X b (TD K W t)) : PS X (.If c a b pos) (TD K W (sIf mc s t)) := by
  refine PS.imp (ps_if hc ha hb) fun D σ H ⟨w, fr, eH, ok, f, h⟩ => ?_
  subst eH
  refine ⟨w, fr, rfl, ok, f, FinS.toS f h fun x w1 v e1 o1 f1 r1 h1 => ?_⟩
  obtain ⟨b, rfl, h1⟩ := h1.truth r1
  refine ⟨b, rfl, ?_⟩
  cases b with
  | true => rw [if_pos rfl] at h1 ⊢; exact ⟨w1, fr, rfl, o1, f1, h1⟩
  | false => rw [if_neg Bool.false_ne_true] at h1 ⊢; exact ⟨w1, fr, rfl, o1, f1, h1⟩
theorem RLs.two {w : Wd} {x y : LV} {vs : List V} (h : RLs K w [x, y] vs) : ∃ v u, vs = [v, u] ∧ RL K w x v ∧ RL K w y u := by
  cases h with
  | cons r t =>
    cases t with
    | cons r' t' =>
      cases t'
      exact ⟨_, _, rfl, r, r'⟩
theorem ds_par (i j : Nat) {x y : Str} {a b : Expr} {ma : DA} {px py pt : Pos} {kt k2 pt2} (hN : X.N.Nodup) (ha : PA X [a, b] (TA' K W ma)) (hc : X.calm = true := by rfl) (hi : X.N[i]? = some x := by rfl) (hj : X.N[j]? = some y := by rfl) (hij : i ≠ j := by decide)
    (hx : X.env.scope.names.lookup x = some .local := by rfl) (hy : X.env.scope.names.lookup y = some .local := by rfl)
    (hw : swappedStores [.Tuple [.Name x px, .Name y py] kt pt] (.Tuple [a, b] k2 pt2) X.env = pure (some [x, y]) := by rfl)
    (hs : swapsWithSole [.Tuple [.Name x px, .Name y py] kt pt] (.Tuple [a, b] k2 pt2) pos.line X.env = pure false := by rfl) :
    PS X (.Assign [.Tuple [.Name x px, .Name y py] kt pt] (.Tuple [a, b] k2 pt2) pos) (TD K W (sPar i j ma)) := by
  refine PS.imp (ps_par hc hN hi hj hij hx hy ha hw hs) fun D σ H ⟨w, fr, eH, ok, f, h⟩ => ?_
  subst eH
  refine ⟨w, fr, rfl, ok, f, FinS.toSA f h fun xs w1 vs e1 o1 f1 r1 h1 => ?_⟩
  match xs, r1, h1 with
  | [], _, h1 => exact h1.elim
  | [_], _, h1 => exact h1.elim
  | _ :: _ :: _ :: _, _, h1 => exact h1.elim
  | [x, y], r1, h1 =>
    obtain ⟨v, u, rfl, rv, ru⟩ := r1.two
    exact ⟨v, u, rfl, h1 w1 rfl (.refl _) o1 _ ((f1.set rv i).set ru j)⟩
def SameBut (sl : List Nat) (σ σ' : L2.St) : Prop := σ'.length = σ.length ∧ ∀ j, j ∉ sl → σ'[j]? = σ[j]?
theorem SameBut.refl (sl : List Nat) (σ : L2.St) : SameBut sl σ σ := ⟨rfl, fun _ _ => rfl⟩
theorem SameBut.trans {sl sl' : List Nat} {σ σ1 σ2 : L2.St} (a : SameBut sl σ σ1) (b : SameBut sl' σ1 σ2) : SameBut (sl ++ sl') σ σ2 :=
  ⟨b.1.trans a.1, fun j hj => by rw [List.mem_append, not_or] at hj; exact (b.2 j hj.2).trans (a.2 j hj.1)⟩
theorem SameBut.set (i : Nat) (σ : L2.St) (v : Option V) : SameBut [i] σ (σ.set i v) := ⟨List.length_set, fun j hj => List.getElem?_set_ne fun e => hj (by simp [e])⟩
theorem SameBut.wipe {sl : List Nat} {σ σ' : L2.St} (h : SameBut sl σ σ') {vs : List Nat} (hs : ∀ j, j ∈ sl → j ∈ vs) : L2.wipe σ' vs = L2.wipe σ vs := by
  refine List.ext_getElem? fun j => ?_
  by_cases hj : j ∈ vs
  · have one : ∀ τ : L2.St, (L2.wipe τ vs)[j]? = if j < τ.length then some none else none := fun τ => by
      cases q : (L2.wipe τ vs)[j]? with
      | none =>
        have := List.getElem?_eq_none_iff.mp q
        rw [wipe_length] at this
        rw [if_neg (Nat.not_lt.mpr this)]
      | some o =>
        have hl := (List.getElem?_eq_some_iff.mp q).1
        rw [wipe_length] at hl
        rw [if_pos hl]
        cases o with
        | none => rfl
        | some x => exact absurd hj (wipe_some q).2
    rw [one, one, h.1]
  · rw [wipe_out hj, wipe_out hj]
    exact h.2 j fun z => hj (hs j z)
def TGd (K : Bk) (t : DG) (sl : List Nat) : TG := fun v σ H Q => ∃ (w : Wd) (fr fr' : Fr) (d : D), w.H = H ∧ w.Ok K ∧ FrOk K w fr σ ∧ RV K w.P d v ∧ t d fr = some fr' ∧ ∀ (w' : Wd) σ', w'.g = w.g → w.Ext w' → w'.Ok K → FrOk K w' fr' σ' → SameBut sl σ σ' → Q σ' w'.H
def TGds (K : Bk) (t : DGs) (sl : List Nat) : TGs := fun vs σ H Q => ∃ (w : Wd) (fr fr' : Fr) (ds : List D), w.H = H ∧ w.Ok K ∧ FrOk K w fr σ ∧ RVs K w.P ds vs ∧ t ds fr = some fr' ∧ ∀ (w' : Wd) σ', w'.g = w.g → w.Ext w' → w'.Ok K → FrOk K w' fr' σ' → SameBut sl σ σ' → Q σ' w'.H
theorem PG.imp {e : Expr} {t t' : TG} (h : PG X e t) (i : ∀ v σ H Q, t' v σ H Q → t v σ H Q) : PG X e t' := ⟨fun pins s σ H v u Q I r q => h.run pins s σ H v u Q I r (i _ _ _ _ q)⟩
theorem PGs.imp {e : List Expr} {t t' : TGs} (h : PGs X e t) (i : ∀ v σ H Q, t' v σ H Q → t v σ H Q) : PGs X e t' := ⟨fun pins s σ H v u Q I r q => h.run pins s σ H v u Q I r (i _ _ _ _ q)⟩
theorem dg_n (i : Nat) {x : Str} (hN : X.N.Nodup) (hi : X.N[i]? = some x := by rfl) (hx : Loc X.env.scope x := by first | exact Or.inl rfl | exact Or.inr rfl) (hf : X.fn x = true ∨ X.env.scope.names.lookup x = some .local := by first | exact .inl rfl | exact .inr rfl | assumption) : PG X (.Name x pos) (TGd K (gN i) [i]) := by
  refine PG.imp (pg_name hN hi hx hf) fun v σ H Q ⟨w, fr, fr', d, e, ok, f, r, h, q⟩ => ?_
  cases h
  subst e
  exact q w _ rfl (.refl w) ok (f.set (x := .v d) r i) (.set i σ _)
theorem dgs_nil : PGs X [] (TGds K gsNil []) := PGs.imp pgs_nil fun vs σ H Q ⟨w, fr, fr', ds, e, ok, f, r, h, q⟩ => by
  cases r with
  | nil => cases h; subst e; exact ⟨rfl, q w σ rfl (.refl w) ok f (.refl _ _)⟩
  | cons r t => cases h
theorem dgs_cons {es : List Expr} {t : DG} {u : DGs} {sl sl' : List Nat} (h1 : PG X e (TGd K t sl)) (h2 : PGs X es (TGds K u sl'))
    (hs : (assignEach (e :: es) X.env).map (·.2) = assign e X.env :: (assignEach es X.env).map (·.2) := by rfl) : PGs X (e :: es) (TGds K (gsCons t u) (sl ++ sl')) := by
  refine PGs.imp (pgs_cons h1 h2 hs) fun vs σ H Q ⟨w, fr, fr', ds, e, ok, f, r, h, q⟩ => ?_
  cases r with
  | nil => cases h
  | @cons d v ds vs r tr =>
    have h : (t d fr).bind (fun fr' => u ds fr') = some fr' := h
    cases q1 : t d fr with
    | none => rw [q1] at h; cases h
    | some fr1 =>
      rw [q1, Option.bind_some] at h
      exact ⟨v, vs, rfl, w, fr, fr1, d, e, ok, f, r, q1, fun w1 σ1 g1 x1 o1 f1 s1 => ⟨w1, fr1, fr', ds, rfl, o1, f1, RVs.mono x1.P tr, h, fun w2 σ2 g2 x2 o2 f2 s2 => q w2 σ2 (g2.trans g1) (x1.trans x2) o2 f2 (s1.trans s2)⟩⟩
theorem gsNil_len {ds : List D} {fr : Fr} (h : (gsNil ds fr).isSome = true) : ds.length = 0 := by
  cases ds with
  | nil => rfl
  | cons => cases h
theorem gsCons_len {t : DG} {u : DGs} {n : Nat} (hu : ∀ ds fr, (u ds fr).isSome = true → ds.length = n) (ds : List D) (fr : Fr) (h : (gsCons t u ds fr).isSome = true) : ds.length = n + 1 := by
  cases ds with
  | nil => cases h
  | cons d r =>
    have h : ((t d fr).bind fun fr' => u r fr').isSome = true := h
    cases q : t d fr with
    | none => rw [q] at h; cases h
    | some fr1 =>
      rw [q, Option.bind_some] at h
      rw [List.length_cons, hu r fr1 h]
theorem dg_tup {es : List Expr} {k : Nat} {u : DGs} {sl : List Nat} {n : Nat} (h : PGs X es (TGds (bk X) u sl)) (hl : ∀ ds fr, (u ds fr).isSome = true → ds.length = n) (hc : X.calm = true := by rfl)
    (hn : (assignEach es X.env).length = n := by rfl) (hst : (assignEach es X.env).findIdx? (·.1) = none := by rfl) : PG X (.Tuple es k pos) (TGd (bk X) (gT u) sl) := by
  refine ⟨fun pins s σ H v uv Q I r ⟨w, fr, fr', d, e, ok, f, rv, hu, q⟩ => ?_⟩
  cases rv with
  | tup sq rs =>
    have hu : u _ fr = some fr' := hu
    have l := hl _ _ (by rw [hu]; rfl)
    exact (pg_tup hc h hn hst).run pins s σ H _ uv Q I r ⟨_, _, rfl, by rw [← e]; exact Same.seqT ok.sub sq, by rw [← rs.length]; exact l, w, fr, fr', _, e, ok, f, rs, hu, q⟩
  | lst sq rs =>
    have hu : u _ fr = some fr' := hu
    have l := hl _ _ (by rw [hu]; rfl)
    exact (pg_lst hc h hn hst).run pins s σ H _ uv Q I r ⟨_, _, rfl, by rw [← e]; exact .inl (Same.rd ok.sub sq), by rw [← rs.length]; exact l, w, fr, fr', _, e, ok, f, rs, hu, q⟩
  | _ => cases hu
theorem ds_asg {tg : Expr} {t : DG} {sl : List Nat} (he : PE X e (T K W m)) (hg : PG X tg (TGd K t sl)) (hs : swapsWithSole [tg] e pos.line X.env = pure false := by rfl) (hw : swappedStores [tg] e X.env = pure none := by rfl)
    (h1 : (assignEach [tg] X.env).map (·.2) = [assign tg X.env] := by rfl) : PS X (.Assign [tg] e pos) (TD K W (sAsg m t)) := by
  refine PS.imp (ps_asg he hg hs hw h1) fun D σ H ⟨w, fr, eH, ok, f, h⟩ => ?_
  subst eH
  refine ⟨w, fr, rfl, ok, f, FinS.toS f h fun x w1 v e1 o1 f1 r1 h1 => ?_⟩
  cases q : take1 w1.g x with
  | none => rw [q] at h1; exact h1.elim
  | some p =>
    obtain ⟨d, g2⟩ := p
    simp only [q] at h1
    obtain ⟨w2, e2, h2, x2, o2, r2⟩ := Wd.take1 o1 r1 q
    cases q2 : t d fr with
    | none => simp only [q2] at h1; exact h1.elim
    | some fr' =>
      simp only [q2] at h1
      exact ⟨w2, fr, fr', d, h2, o2, f1.mono x2, r2, q2, fun w3 σ' g3 x3 o3 f' _ => h1 w3 (g3.trans e2) (x2.trans x3) o3 σ' f'⟩
def ItOk (K : Bk) (J : It) (w : Wd) (items : List D) (gd : Option Nat) : Prop := ∀ w1 : Wd, w.Ext w1 → w1.Ok K → gdOk gd items w1.g →
  (∀ i d, items[i]? = some d → J.go i w1.H ∧ ∀ x H', J.yld i w1.H x H' → ∃ w2 : Wd, w2.H = H' ∧ w2.g = w1.g ∧ w1.Ext w2 ∧ w2.Ok K ∧ RV K w2.P d x) ∧ J.stop items.length w1.H
def FinI (K : Bk) (W : WX) (w : Wd) (σ : St) (r : IRes) (Q : It → Hp → Prop) : Prop := match r with
  | .ok items gd g => ∀ w', w'.g = g → w.Ext w' → w'.Ok K → ∀ J, ItOk K J w' items gd → Q J w'.H
  | .exc e g => ∀ w', w'.g = g → w.Ext w' → w'.Ok K → ∀ C dd, EOk K w.H w' e C dd → W C dd σ w'.H
  | .bad => False
def TIt (K : Bk) (W : WX) (m : DI) : TI := fun σ H R => ∃ (w : Wd) (fr : Fr), w.H = H ∧ w.Ok K ∧ FrOk K w fr σ ∧ FinI K W w σ (m fr w.g) R
theorem PI.imp {tg iter : Expr} {t t' : TI} (h : PI X tg iter t) (i : ∀ σ H Q, t' σ H Q → t σ H Q) : PI X tg iter t' := ⟨fun pins s σ H Q I q => h.run pins s σ H Q I (i _ _ _ q)⟩
theorem FinS.toSI {w : Wd} {fr : Fr} {σ : St} {r : IRes} {k : List D → Option Nat → GH → SRes} {D : Ends} {R : It → Hp → Prop} (f : FrOk K w fr σ) (h : FinS K W w (r.toS fr k) D)
    (hk : ∀ items gd J w1, w.Ext w1 → w1.Ok K → FrOk K w1 fr σ → ItOk K J w1 items gd → FinS K W w1 (k items gd w1.g) D → R J w1.H) : FinI K W w σ r R := by
  cases r with
  | ok x gd g =>
    intro w1 eg e o J j
    subst eg
    exact hk x gd J w1 e o (f.mono e) j (FinS.shift e h)
  | exc y g => exact fun w1 eg e o C dd q => h w1 eg e o σ (f.mono e) C dd q
  | bad => exact h
theorem FinS.loop {w : Wd} {r : SRes} {k : DS} {D : Ends} (h : FinS K W w (match r with | .nx fr2 g2 => k fr2 g2 | .ct fr2 g2 => k fr2 g2 | .bk fr2 g2 => .nx fr2 g2 | r => r) D)
    {N : L2.St → Hp → Prop} (hN : ∀ fr2 w1, w.Ext w1 → w1.Ok K → ∀ σ, FrOk K w1 fr2 σ → FinS K W w1 (k fr2 w1.g) D → N σ w1.H) : FinS K W w r { D with nx := N, ct := N, bk := D.nx } := by
  cases r with
  | nx fr g =>
    intro w1 eg e o σ f
    subst eg
    exact hN fr w1 e o σ f (FinS.shift e h)
  | ct fr g =>
    intro w1 eg e o σ f
    subst eg
    exact hN fr w1 e o σ f (FinS.shift e h)
  | bk fr g => exact h
  | rt x g => exact h
  | exc y fr g => exact h
  | bad => exact h
theorem ds_for {tg iter : Expr} {body : List Stmt} {mi : DI} {t : DG} {sl : List Nat} {s : DS} (hp : PassesOwn (model X.prog X.w) X.A X.env X.xe) (hi : PI X tg iter (TIt K W mi)) (hg : PG X tg (TGd K t sl)) (hb : PSs X body (TD K W s)) (hc : X.calm = true := by rfl)
    (hs : ∀ x, foldedSetIterable iter X.env x = pure x := by intro _; rfl) : PS X (.For tg iter body [] pos) (TD K W (sFor mi t s)) := by
  refine PS.imp (ps_for hp hc hi hg hb hs) fun D σ H ⟨w, fr, eH, ok, f, h⟩ => ?_
  subst eH
  refine ⟨w, fr, rfl, ok, f, FinS.toSI f h fun items gd J w1 e1 o1 f1 hJ h1 => ?_⟩
  refine ⟨fun i m σ H => ∃ (w2 : Wd) (fr2 : Fr), w2.H = H ∧ w1.Ext w2 ∧ w2.Ok K ∧ FrOk K w2 fr2 σ ∧ m = items.length - i ∧ i ≤ items.length ∧ FinS K W w2 (forGo gd items t s (items.drop i) fr2 w2.g) D, ⟨items.length, w1, fr, rfl, .refl _, o1, f1, rfl, Nat.zero_le _, h1⟩, ?_⟩
  rintro i m σ2 H2 ⟨w2, fr2, rfl, e2, o2, f2, rfl, hil, h2⟩
  by_cases hlt : i < items.length
  · right
    rw [List.drop_eq_getElem_cons hlt] at h2
    unfold forGo at h2
    by_cases hgd : gdOk gd items w2.g
    · rw [if_pos hgd] at h2
      have hd : items[i]? = some items[i] := List.getElem?_eq_getElem hlt
      obtain ⟨go, yl⟩ := (hJ w2 e2 o2 hgd).1 i items[i] hd
      cases q : t items[i] fr2 with
      | none => rw [q] at h2; exact h2.elim
      | some fr3 =>
        simp only [q] at h2
        refine ⟨go, fun σ' H' => ∃ m', m' < items.length - i ∧ ∃ (w3 : Wd) (fr4 : Fr), w3.H = H' ∧ w1.Ext w3 ∧ w3.Ok K ∧ FrOk K w3 fr4 σ' ∧ m' = items.length - (i + 1) ∧ i + 1 ≤ items.length ∧ FinS K W w3 (forGo gd items t s (items.drop (i + 1)) fr4 w3.g) D, fun σ' H' z => z, fun x H' y => ?_⟩
        obtain ⟨w3, rfl, g3, e3, o3, r3⟩ := yl x H' y
        refine ⟨w3, fr2, fr3, _, rfl, o3, f2.mono e3, r3, q, fun w4 σ' g4 e4 o4 f' _ => ⟨w4, fr3, rfl, o4, f', ?_⟩⟩
        rw [g4, g3]
        exact FinS.loop (FinS.shift (e3.trans e4) h2) fun fr5 w5 e5 o5 σ5 f5 h5 => ⟨_, by omega, w5, fr5, rfl, (e2.trans (e3.trans e4)).trans e5, o5, f5, rfl, hlt, h5⟩
    · rw [if_neg hgd] at h2; exact h2.elim
  · left
    have hie : i = items.length := by omega
    subst hie
    rw [List.drop_length] at h2
    unfold forGo at h2
    by_cases hgd : gdOk gd items w2.g
    · rw [if_pos hgd] at h2
      exact ⟨(hJ w2 e2 o2 hgd).2, h2 w2 rfl (.refl _) o2 σ2 f2⟩
    · rw [if_neg hgd] at h2; exact h2.elim
theorem ds_while {c : Expr} {body : List Stmt} {mc : DE} {s : DS} (hp : PassesOwn (model X.prog X.w) X.A X.env X.xe) (hc : PT X c (TB K W mc)) (hb : PSs X body (TD K W s)) : PS X (.While c body [] pos) (TD K W (sWhile mc s)) := by
  refine PS.imp (ps_while hp hc hb) fun D σ H ⟨w, fr, eH, ok, f, h⟩ => ?_
  subst eH
  unfold sWhile at h
  by_cases hx : ∃ n, whileN mc s n fr w.g ≠ .bad
  · rw [dif_pos hx] at h
    refine ⟨fun m σ H => ∃ (w2 : Wd) (fr2 : Fr), w2.H = H ∧ w2.Ok K ∧ FrOk K w2 fr2 σ ∧ FinS K W w2 (whileN mc s m fr2 w2.g) D, ⟨_, w, fr, rfl, ok, f, h⟩, ?_⟩
    rintro m σ2 H2 ⟨w2, fr2, rfl, o2, f2, h2⟩
    cases m with
    | zero => exact h2.elim
    | succ m =>
      unfold whileN at h2
      refine ⟨w2, fr2, rfl, o2, f2, FinS.toS f2 h2 fun x w3 v e3 o3 f3 r3 h3 => ?_⟩
      obtain ⟨b, rfl, h3⟩ := h3.truth r3
      refine ⟨b, rfl, ?_⟩
      cases b with
      | false => rw [if_neg Bool.false_ne_true] at h3 ⊢; exact h3 w3 rfl (.refl _) o3 σ2 f3
      | true =>
        rw [if_pos rfl] at h3 ⊢
        exact ⟨fun σ' H' => ∃ m', m' < m + 1 ∧ ∃ (w2 : Wd) (fr2 : Fr), w2.H = H' ∧ w2.Ok K ∧ FrOk K w2 fr2 σ' ∧ FinS K W w2 (whileN mc s m' fr2 w2.g) D, fun σ' H' z => z, w3, fr2, rfl, o3, f3,
          FinS.loop h3 fun fr5 w5 e5 o5 σ5 f5 h5 => ⟨m, Nat.lt_succ_self m, w5, fr5, rfl, o5, f5, h5⟩⟩
  · rw [dif_neg hx] at h; exact h.elim
/-- a pure def by its body -/
def runP (n : Nat) (s : DS) : List D → R := fun ds => match s (ds.map (fun d => some (.v d)) ++ List.replicate (n - ds.length) none) GH.nil with
  | .rt x g => (match asD g x with | some d => .ok d | none => .bad)
  | .nx _ _ => .ok .non
  | .exc e _ _ => .exc e
  | _ => .bad
/-- what is promised of it -/
def spD (K : Bk) (n : Nat) (den : List D → R) : Sp := fun vs H Q E => vs.length = n ∧ ∃ (P : Hp) (ds : List D), Sub P H ∧ RVs K P ds vs ∧ (match den ds with
  | .ok d => ∀ P' H' v, PExt P H P' H' → RV K P' d v → Q v H'
  | .exc e => ∀ P' H' C dd, PExt P H P' H' → EOk K H ⟨fun _ => 0, GH.nil, P', H'⟩ e C dd → E C dd H'
  | .bad => False)
theorem RVs.frame {P : Hp} {w : Wd} (hP : w.P = P) {n : Nat} {ds : List D} {vs : List V} (r : RVs K P ds vs) : FrOk K w (ds.map (fun d => some (.v d)) ++ List.replicate (n - ds.length) none) (vs.map some ++ List.replicate (n - vs.length) none) := by
  have hl := r.length
  refine ⟨by simp [hl], fun i x q => ?_⟩
  by_cases hi : i < ds.length
  · rw [List.getElem?_append_left (by simpa using hi), List.getElem?_map] at q
    cases e : ds[i]? with
    | none => rw [e] at q; cases q
    | some d =>
      rw [e] at q
      cases q
      obtain ⟨v, hv, rv⟩ := r.get e
      refine ⟨v, ?_, by show RV K w.P d v; rw [hP]; exact rv⟩
      rw [List.getElem?_append_left (by rw [List.length_map, ← hl]; exact hi), List.getElem?_map, hv]
      rfl
  · rw [List.getElem?_append_right (by simpa using Nat.le_of_not_lt hi), List.getElem?_replicate] at q
    split at q <;> cases q
theorem EOk.to {B : Hp} {w w' : Wd} {e : Ex} {C : Value} {dd : Option Addr} (hP : w.P = w'.P) (hH : w.H = w'.H) (h : EOk K B w e C dd) : EOk K B w' e C dd := by
  unfold EOk at h ⊢
  rw [← hP, ← hH]
  exact h
/-- the local world of a pure def comes to its end -/
theorem Wd.close {P H : Hp} {w' : Wd} (e : (⟨fun _ => 0, GH.nil, P, H⟩ : Wd).Ext w') (o : w'.Ok K) : PExt P H w'.P w'.H :=
  ⟨fun a u h => e.out a u h fun k hk => absurd hk (Nat.not_lt_zero k), e.P, o.sub, fun a u h => (e.new a u h).imp_right fun z => z.elim id fun ⟨k, hk, _⟩ => absurd hk (Nat.not_lt_zero k)⟩
theorem Wd.nilOk {P H : Hp} (s : Sub P H) : (⟨fun _ => 0, GH.nil, P, H⟩ : Wd).Ok K := ⟨s, fun k hk => absurd hk (Nat.not_lt_zero k), fun i _ hi => absurd hi (Nat.not_lt_zero i), fun k hk => absurd hk (Nat.not_lt_zero k)⟩
theorem fn_pure {P : Program} {w : World} {base : Heap} {x qual : Str} {st : Stmt} {f : Addr} {fd : FuncData} {N ps : List Str} {k : Nat} {s : DS} (F : Fun K.K x qual st f fd) (S : FnScope N ps (defScope st))
    (hbody : ∀ (cdv : Value) (A : Around) (outer : List Env) (s0 : Shared) (H : Hp) (E : XK), Room k (A.deeper (envOfC qual (defScope st) s0.heap.objs.size f cdv)) →
      PSs (cxOf (L2.CX P w) P w K.K K.mg base N qual (defScope st) f cdv A outer s0 H E) (defBody st) (TD K (fun C dd _ H => E C dd H) s)) :
    FnOk P w K.K K.mg base (L2.CX P w) (k + 1) f fd ps (spD K ps.length (runP N.length s)) := by
  refine F.okX S (fun vs H Q E h => h.1) fun cdv A outer s0 H vs Q E hr ⟨hl, P0, ds, sub, rv, h⟩ => ⟨_, hbody cdv A outer s0 H E hr, ?_⟩
  refine ⟨⟨fun _ => 0, GH.nil, P0, H⟩, _, rfl, Wd.nilOk sub, RVs.frame (n := N.length) rfl rv, ?_⟩
  unfold runP at h
  cases q : s (ds.map (fun d => some (.v d)) ++ List.replicate (N.length - ds.length) none) GH.nil with
  | nx fr g =>
    rw [q] at h
    intro w1 eg e o σ f
    exact h w1.P w1.H .non (Wd.close e o) .non
  | rt y g =>
    rw [q] at h
    intro w1 eg e o v r
    subst eg
    cases q2 : take1 w1.g y with
    | none =>
      cases y with
      | v d => cases q2
      | r k =>
        exfalso
        have h' : (match asD w1.g (.r k) with | some d => R.ok d | none => R.bad) = R.bad := by
          cases q3 : asD w1.g (.r k) with
          | none => rfl
          | some d => simp only [take1, q3, Option.bind_some] at q2; cases q2
        simp only [h'] at h
    | some p =>
      obtain ⟨d, g2⟩ := p
      have hd : asD w1.g y = some d := by
        cases y with
        | v d' => cases q2; rfl
        | r k =>
          cases q3 : asD w1.g (.r k) with
          | none => simp only [take1, q3] at q2; cases q2
          | some d' => simp only [take1, q3, Option.bind_some] at q2; cases q2; rfl
      simp only [hd] at h
      obtain ⟨w2, e2, h2, x2, o2, r2⟩ := Wd.take1 o r q2
      rw [← h2]
      exact h w2.P w2.H v (Wd.close (e.trans x2) o2) r2
  | exc y fr g =>
    rw [q] at h
    intro w1 eg e o σ f C dd z
    exact h w1.P w1.H C dd (Wd.close e o) (z.to rfl rfl)
  | bk fr g => rw [q] at h; exact h.elim
  | ct fr g => rw [q] at h; exact h.elim
  | bad => rw [q] at h; exact h.elim
/-- a def as others call it -/
def Df (P : Program) (w : World) (K : Bk) (base : Heap) (k : Nat) (x : Str) (ps : List Str) (sp : Sp) : Prop :=
  ∃ (f : Addr) (fd : FuncData), K.mg x = some (.ref f) ∧ PySem.W.keepIn K.K (.ref f) = true ∧ Binds K.K fd ps [] ∧ FnOk P w K.K K.mg base (L2.CX P w) k f fd ps sp
def ofR (r : R) (g : GH) : Res := match r with | .ok d => .ok (.v d) g | .exc e => .exc e g | .bad => .bad
theorem RLs.length {w : Wd} {xs : List LV} {vs : List V} (h : RLs K w xs vs) : xs.length = vs.length := by
  induction h with
  | nil => rfl
  | cons _ _ ih => exact congrArg (· + 1) ih
/-- a call of a pure def of n parameters; local objects among the arguments are shut -/
def mCall (n : Nat) (den : List D → R) (a : DA) : DE := fun fr g => (a fr g).bind fun xs g1 => if xs.length = n then (match takes g1 xs with | some (ds, g2) => ofR (den ds) g2 | none => .bad) else .bad
theorem T.call {n : Nat} {den : List D → R} {ma : DA} {σ : St} {H : Hp} {Q : VK} (h : T K W (mCall n den ma) σ H Q) : TA' K W ma σ H fun vs H1 => spD K n den vs H1 Q (WE W σ) := by
  obtain ⟨w, fr, rfl, ok, f, h⟩ := h
  refine ⟨w, fr, rfl, ok, f, FinA.bind h fun xs w1 vs e1 o1 r1 h => ?_⟩
  by_cases hn : xs.length = n
  · rw [if_pos hn] at h
    cases q : takes w1.g xs with
    | none => simp only [q] at h; exact h.elim
    | some p =>
      obtain ⟨ds, g2⟩ := p
      simp only [q] at h
      obtain ⟨w2, e2, h2, x2, o2, r2⟩ := Wd.takes o1 r1 q
      subst e2
      rw [← h2]
      refine ⟨by rw [← r1.length]; exact hn, w2.P, ds, o2.sub, r2, ?_⟩
      have h : Fin K W w2 σ (ofR (den ds) w2.g) Q := h.shift x2
      cases q3 : den ds with
      | ok d => rw [q3] at h; exact fun P' H' v pe r => h.data o2 pe r
      | exc e => rw [q3] at h; exact fun P' H' C dd pe z => h ⟨w2.M, w2.g, P', H'⟩ rfl (w2.pext o2 pe).1 (w2.pext o2 pe).2 C dd (z.to rfl rfl)
      | bad => rw [q3] at h; exact h.elim
  · rw [if_neg hn] at h; exact h.elim
theorem de_call {k n : Nat} {x : Str} {ps : List Str} {den : List D → R} {p pos : Pos} {e : Expr} {es : List Expr} {ma : DA} (G : Df X.prog X.w K X.base k x ps (spD K n den)) (hr : Room k X.A) (tk : Takes X W) (hK : bk X = K)
    (ha : PA X (e :: es) (TA' K W ma)) (hg : Gl X x := by rfl) (hdb : (x == ("__debug__" : Str)) = false := by decide) (he : starEach (e :: es) X.env = (false, eval e X.env) :: starEach es X.env := by rfl) (hpl : (backTo pos (starEach es X.env)).any (·.1) = false := by rfl) :
    PE X (.Call (.Name x p) (e :: es) [] pos) (T K W (mCall n den ma)) := by
  subst hK
  obtain ⟨f, fd, hm, hk, hb, F⟩ := G
  exact PE.imp (pe_callS F hr hg hm hk hb (fun σ => passAt tk σ) ha hdb he hpl) fun σ H Q h => T.call h
end
end Dn
namespace Dn
open PySem PySem.Spec PyProof.Rows L2
mutual
def D.py : D → PyData
  | .non => .none
  | .bl b => .bool b
  | .int i => .int i
  | .str x => .str x
  | .tup xs => .tuple (pys xs)
  | .lst xs => .list (pys xs)
  | _ => .none
def pys : List D → List PyData
  | [] => []
  | x :: xs => x.py :: pys xs
end
mutual
def D.plain : D → Bool
  | .tup xs => plains xs
  | .lst xs => plains xs
  | .dct _ => false
  | .obj _ _ => false
  | .ty _ => false
  | .cls _ => false
  | .exn _ _ _ _ _ _ => false
  | .scr _ => false
  | .str x => PyData.strOk x
  | _ => true
def plains : List D → Bool
  | [] => true
  | x :: xs => x.plain && plains xs
end
mutual
def D.dep : D → Nat
  | .tup xs => deps xs + 1
  | .lst xs => deps xs + 1
  | _ => 0
def deps : List D → Nat
  | [] => 0
  | x :: xs => max x.dep (deps xs)
end
mutual
theorem dep_py : ∀ d : D, d.plain = true → d.py.depth = d.dep
  | .non, _ => rfl
  | .bl _, _ => rfl
  | .int _, _ => rfl
  | .str _, _ => rfl
  | .tup xs, h => by simp only [D.py, D.dep, PyData.depth]; rw [deps_py xs (by simpa [D.plain] using h)]
  | .lst xs, h => by simp only [D.py, D.dep, PyData.depth]; rw [deps_py xs (by simpa [D.plain] using h)]
theorem deps_py : ∀ ds : List D, plains ds = true → PyData.depthAll (pys ds) = deps ds
  | [], _ => rfl
  | x :: xs, h => by
    simp only [plains, Bool.and_eq_true] at h
    simp only [pys, deps, PyData.depthAll]
    rw [dep_py x h.1, deps_py xs h.2]
end
mutual
theorem lay_py : ∀ d : D, d.plain = true → d.py.canLay0 = true
  | .non, _ => rfl
  | .bl _, _ => rfl
  | .int _, _ => rfl
  | .str x, h => by simpa [D.py, PyData.canLay0, D.plain] using h
  | .tup xs, h => by simp only [D.py, PyData.canLay0]; exact lays_py xs (by simpa [D.plain] using h)
  | .lst xs, h => by simp only [D.py, PyData.canLay0]; exact lays_py xs (by simpa [D.plain] using h)
theorem lays_py : ∀ ds : List D, plains ds = true → PyData.canLayAll0 (pys ds) = true
  | [], _ => rfl
  | x :: xs, h => by
    simp only [plains, Bool.and_eq_true] at h
    simp only [pys, PyData.canLayAll0]
    rw [lay_py x h.1, lays_py xs h.2]
    rfl
end
section
variable {X : Cx} {pins : List (Addr × Obj)} {σ : St} {H P : Hp} {s : Shared}
theorem Inv.rdL (I : Inv X pins σ H s) {a : Addr} {vs : List V} (h : Rd H a (.lst vs)) : vs.length ≤ sizeLine ∧ ∃ (its : List Value) (n : Nat), Vals vs its ∧ s.heap.get? a = some { cls := .type "list", data := .seq its.toArray n } := by
  obtain ⟨z, its, n, r, e⟩ := h.ok I.hok
  exact ⟨z, its, n, r, e⟩
mutual
theorem RV.reads (I : Inv X pins σ H s) (sub : Sub P H) : ∀ {d : D} {x : V} {v : Value}, RV (bk X) P d x → d.plain = true → RelV x v → ∃ as, Reads s.heap v d.py as
  | _, _, _, .non, _, r => by cases r; exact ⟨_, .none⟩
  | _, _, _, .bl, _, r => by cases r; exact ⟨_, .bool _⟩
  | _, _, _, .int, _, r => by obtain ⟨t, rfl⟩ := r; exact ⟨_, .int _ _⟩
  | _, _, _, .str, _, r => by obtain ⟨t, rfl⟩ := r; exact ⟨_, .str _ _⟩
  | _, _, _, .ty, p, _ => by cases p
  | _, _, _, .cls _, p, _ => by cases p
  | _, _, _, .exn _ _ _, p, _ => by cases p
  | _, _, _, .exn0 _, p, _ => by cases p
  | _, _, _, .scr _, p, _ => by cases p
  | _, _, _, .tup h rs, p, r => by
    cases r
    obtain ⟨its, rv, ⟨o, e, c, n, d⟩, _⟩ := I.tuple (Same.seqT sub h)
    obtain ⟨as, q⟩ := RVs.reads I sub rs (by simpa [D.plain] using p) rv
    exact ⟨as, .tuple e c d q⟩
  | _, _, _, .lst h rs, p, r => by
    cases r
    obtain ⟨_, its, n, rv, e⟩ := Inv.rdL I (Same.rd sub h)
    obtain ⟨as, q⟩ := RVs.reads I sub rs (by simpa [D.plain] using p) rv
    exact ⟨_, .list e rfl rfl q⟩
theorem RVs.reads (I : Inv X pins σ H s) (sub : Sub P H) : ∀ {ds : List D} {xs : List V} {vs : List Value}, RVs (bk X) P ds xs → plains ds = true → Vals xs vs → ∃ as, ReadsAll s.heap vs (pys ds) as
  | _, _, _, .nil, _, r => by cases r; exact ⟨_, .nil⟩
  | _, _, _, .cons h t, p, r => by
    simp only [plains, Bool.and_eq_true] at p
    cases r with
    | cons r rr =>
      obtain ⟨as, q⟩ := RV.reads I sub h p.1 r
      obtain ⟨bs, qs⟩ := RVs.reads I sub t p.2 rr
      exact ⟨_, .cons q qs⟩
end
theorem SV.reads (I : Inv X pins σ H s) (sub : Sub P H) {d : D} {x : V} {v : Value} (h : SV (bk X) P H d x) (p : d.plain = true) (r : RelV x v) : ∃ as, Reads s.heap v d.py as := by
  cases d with
  | lst ds =>
    obtain ⟨a, vs, rfl, hr, rs⟩ := h
    cases r
    obtain ⟨_, its, n, rv, e⟩ := Inv.rdL I hr
    obtain ⟨as, q⟩ := RVs.reads I sub rs (by simpa [D.plain] using p) rv
    exact ⟨_, .list e rfl rfl q⟩
  | _ => exact RV.reads I sub h p r
end
theorem room200 {A : Around} {k : Nat} (hr : Room k A) : A.units + 200 < cLine := by have := hr.un; omega
/-- Python's == of data -/
def deq (x y : D) : Bool := PyData.eqv x.py y.py
def eqOk (x y : D) : Bool := x.plain && (y.plain && decide (min x.dep y.dep ≤ 150))
def oEq (x y : D) : Option D := if eqOk x y = true then some (.bl (deq x y)) else none
def oNe (x y : D) : Option D := if eqOk x y = true then some (.bl (!deq x y)) else none
section
variable {X : Cx} {k : Nat}
theorem rel_bl {b : Bool} {v : V} {K : Bk} {P : Hp} (h : RV K P (.bl b) v) : v = .bl b := by cases h; rfl
theorem op_deq (hr : Room k X.A) : OpR X (compareOp .Eq) (rD (bk X) oEq) := by
  intro pins s σ H x y v u Q I rx ry ⟨P, dx, dy, d, sub, sx, sy, e, q⟩
  unfold oEq eqOk at e
  split at e
  · rename_i h
    cases e
    simp only [Bool.and_eq_true, decide_eq_true_eq] at h
    obtain ⟨as, r1⟩ := sx.reads I sub h.1 rx
    obtain ⟨bs, r2⟩ := sy.reads I sub h.2.1 ry
    refine SeqAt.compareEq_reads r1 r2 (lay_py _ h.1) (lay_py _ h.2.1) ?_ ⟨.bl _, H, I, rfl, q P H _ (.refl sub) .bl⟩
    rw [dep_py _ h.1, dep_py _ h.2.1]
    have := room200 hr
    omega
  · cases e
theorem op_dne (hr : Room k X.A) : OpR X (compareOp .NotEq) (rD (bk X) oNe) := by
  intro pins s σ H x y v u Q I rx ry ⟨P, dx, dy, d, sub, sx, sy, e, q⟩
  unfold oNe eqOk at e
  split at e
  · rename_i h
    cases e
    simp only [Bool.and_eq_true, decide_eq_true_eq] at h
    obtain ⟨as, r1⟩ := sx.reads I sub h.1 rx
    obtain ⟨bs, r2⟩ := sy.reads I sub h.2.1 ry
    refine SeqAt.compareNe_reads r1 r2 (lay_py _ h.1) (lay_py _ h.2.1) ?_ ⟨.bl _, H, I, rfl, q P H _ (.refl sub) .bl⟩
    rw [dep_py _ h.1, dep_py _ h.2.1]
    have := room200 hr
    omega
  · cases e
mutual
def alk : D → D → Bool
  | .bl _, .bl _ => true
  | .int _, .int _ => true
  | .str _, .str _ => true
  | .tup xs, .tup ys => alks xs ys
  | .lst xs, .lst ys => alks xs ys
  | _, _ => false
def alks : List D → List D → Bool
  | x :: xs, y :: ys => alk x y && alks xs ys
  | [], _ => true
  | _ :: _, [] => true
end
mutual
theorem alk_py : ∀ x y : D, alk x y = true → PySem.W.alike x.py y.py = true
  | .bl _, .bl _, _ => rfl
  | .int _, .int _, _ => rfl
  | .str _, .str _, _ => rfl
  | .tup xs, .tup ys, h => by
    simp only [D.py, PySem.W.alike]
    exact alks_py xs ys (by simpa [alk] using h)
  | .lst xs, .lst ys, h => by
    simp only [D.py, PySem.W.alike]
    exact alks_py xs ys (by simpa [alk] using h)
theorem alks_py : ∀ xs ys : List D, alks xs ys = true → PySem.W.alikeAll (pys xs) (pys ys) = true
  | x :: xs, y :: ys, h => by
    simp only [alks, Bool.and_eq_true] at h
    simp only [pys, PySem.W.alikeAll, Bool.and_eq_true]
    exact ⟨alk_py x y h.1, alks_py xs ys h.2⟩
  | [], _, _ => by simp [pys, PySem.W.alikeAll]
  | _ :: _, [], _ => by simp [pys, PySem.W.alikeAll]
end
theorem alk_ne : ∀ {x y : D}, alk x y = true → x.py ≠ .none := by
  intro x y h e
  cases x <;> first | (cases e; done) | (cases y <;> cases h)
def dlt (x y : D) : Bool := PySem.W.dataLt x.py y.py
def ltOk (x y : D) : Bool := alk x y && (x.plain && (y.plain && decide (min x.dep y.dep ≤ 150)))
def oLt (x y : D) : Option D := match x, y with
  | .int i, .int j => some (.bl (decide (i < j)))
  | x, y => if ltOk x y = true then some (.bl (dlt x y)) else none
def oCmp (p : Int → Int → Bool) (x y : D) : Option D := match x, y with
  | .int i, .int j => some (.bl (p i j))
  | _, _ => none
def oLe : D → D → Option D := oCmp fun i j => decide (i ≤ j)
def oGt : D → D → Option D := oCmp fun i j => decide (j < i)
def oGe : D → D → Option D := oCmp fun i j => decide (j ≤ i)
theorem SV.int {K : Bk} {P H : Hp} {i : Int} {x : V} (h : SV K P H (.int i) x) : x = .int i := by cases h; rfl
theorem SV.is_bl {K : Bk} {P H : Hp} {i : Bool} {x : V} (h : SV K P H (.bl i) x) : x = .bl i := by cases h; rfl
theorem SV.str {K : Bk} {P H : Hp} {i : Str} {x : V} (h : SV K P H (.str i) x) : x = .str i := by cases h; rfl
theorem SV.tup {K : Bk} {P H : Hp} {ds : List D} {x : V} (sub : Sub P H) (h : SV K P H (.tup ds) x) : ∃ a vs, x = .ref a ∧ SqT K.K P a vs ∧ RVs K P ds vs := by
  cases h with
  | tup h r => exact ⟨_, _, rfl, h, r⟩
theorem op_dlt (hr : Room k X.A) : OpR X (compareOp .Lt) (rD (bk X) oLt) := by
  intro pins s σ H x y v u Q I rx ry ⟨P, dx, dy, d, sub, sx, sy, e, q⟩
  have gen : ltOk dx dy = true → d = .bl (dlt dx dy) → wpAny (model X.prog X.w) X.A (compareOp .Lt v u) (EP X pins σ Q) X.xe s := fun h e => by
    subst e
    simp only [ltOk, Bool.and_eq_true, decide_eq_true_eq] at h
    obtain ⟨as, r1⟩ := sx.reads I sub h.2.1 rx
    obtain ⟨bs, r2⟩ := sy.reads I sub h.2.2.1 ry
    refine PySem.W.lt_data r1 r2 (alk_py _ _ h.1) (alk_ne h.1) ?_ ⟨.bl _, H, I, rfl, q P H _ (.refl sub) .bl⟩
    rw [dep_py _ h.2.1, dep_py _ h.2.2.1]
    have := room200 hr
    omega
  unfold oLt at e
  split at e
  · cases e
    cases sx.int; cases sy.int
    exact op_lt pins s σ H _ _ v u Q I rx ry ⟨_, _, rfl, rfl, q P H _ (.refl sub) .bl⟩
  · split at e
    · rename_i h
      cases e
      exact gen h rfl
    · cases e
theorem op_int {f : Value → Value → Sem Value} {p : Int → Int → Bool} (h : OpR X f (rI0 fun i j => .bl (p i j))) : OpR X f (rD (bk X) (oCmp p)) := by
  intro pins s σ H x y v u Q I rx ry ⟨P, dx, dy, d, sub, sx, sy, e, q⟩
  unfold oCmp at e
  split at e
  · cases e
    cases sx.int; cases sy.int
    exact h pins s σ H _ _ v u Q I rx ry ⟨_, _, rfl, rfl, q P H _ (.refl sub) .bl⟩
  · cases e
theorem op_dle : OpR X (compareOp .LtE) (rD (bk X) oLe) := op_int op_le
theorem op_dgt : OpR X (compareOp .Gt) (rD (bk X) oGt) := op_int op_gt
theorem op_dge : OpR X (compareOp .GtE) (rD (bk X) oGe) := op_int op_ge
def oIsN (x y : D) : Option D := match y with | .non => (match x with | .non => some (.bl true) | _ => some (.bl false)) | _ => none
def oNotN (x y : D) : Option D := match y with | .non => (match x with | .non => some (.bl false) | _ => some (.bl true)) | _ => none
theorem SV.non_iff {K : Bk} {P H : Hp} {d : D} {x : V} (h : SV K P H d x) : (d = .non) ↔ x = .non := by
  cases d with
  | non => cases h; simp
  | bl b => cases h; simp
  | int b => cases h; simp
  | str b => cases h; simp
  | tup b => cases h; simp
  | lst b => obtain ⟨a, vs, rfl, _⟩ := h; simp
  | dct b => cases h
  | obj c b => cases h
  | ty b => cases h; simp
  | cls b => cases h; simp
  | exn _ _ _ _ _ _ => cases h <;> simp
  | scr _ => cases h; simp
theorem op_disN : OpR X (compareOp .Is) (rD (bk X) oIsN) := by
  intro pins s σ H x y v u Q I rx ry ⟨P, dx, dy, d, sub, sx, sy, e, q⟩
  unfold oIsN at e
  split at e
  · have hy : y = .non := (SV.non_iff sy).1 rfl
    subst hy
    refine op_isN pins s σ H _ _ v u Q I rx ry ⟨rfl, ?_⟩
    have hx := SV.non_iff sx
    split at e
    · cases e
      rw [hx.1 rfl]
      exact q P H _ (.refl sub) .bl
    · rename_i hn
      cases e
      rw [decide_eq_false (fun z => hn (hx.2 z))]
      exact q P H _ (.refl sub) .bl
  · cases e
theorem op_dnotN : OpR X (compareOp .IsNot) (rD (bk X) oNotN) := by
  intro pins s σ H x y v u Q I rx ry ⟨P, dx, dy, d, sub, sx, sy, e, q⟩
  unfold oNotN at e
  split at e
  · have hy : y = .non := (SV.non_iff sy).1 rfl
    subst hy
    refine op_notN pins s σ H _ _ v u Q I rx ry ⟨rfl, ?_⟩
    have hx := SV.non_iff sx
    split at e
    · cases e
      rw [hx.1 rfl]
      exact q P H _ (.refl sub) .bl
    · rename_i hn
      cases e
      rw [decide_eq_false (fun z => hn (hx.2 z))]
      exact q P H _ (.refl sub) .bl
  · cases e
def oAdd (x y : D) : Option D := match x, y with
  | .int i, .int j => some (.int (i + j))
  | .str a, .str b => if a.length + b.length ≤ sizeLine then some (.str (a ++ b)) else none
  | .tup xs, .tup ys => if xs.length + ys.length ≤ sizeLine then some (.tup (xs ++ ys)) else none
  | .lst xs, .lst ys => if xs.length + ys.length ≤ sizeLine then some (.lst (xs ++ ys)) else none
  | _, _ => none
theorem op_dadd : OpR X (binaryOp .Add) (rD (bk X) oAdd) := by
  intro pins s σ H x y v u Q I rx ry ⟨P, dx, dy, d, sub, sx, sy, e, q⟩
  unfold oAdd at e
  split at e
  · cases e
    cases sx.int; cases sy.int
    exact op_add pins s σ H _ _ v u Q I rx ry ⟨_, _, rfl, rfl, q P H _ (.refl sub) .int⟩
  · split at e
    · rename_i h
      cases e
      cases sx.str; cases sy.str
      exact op_add_str pins s σ H _ _ v u Q I rx ry ⟨_, _, rfl, rfl, h, q P H _ (.refl sub) .str⟩
    · cases e
  · split at e
    · rename_i xs ys h
      cases e
      obtain ⟨a, vs, rfl, ha, ra⟩ := sx.tup sub
      obtain ⟨b, us, rfl, hb, rb⟩ := sy.tup sub
      refine op_catA pins s σ H _ _ v u Q I rx ry ⟨a, b, vs, us, rfl, rfl, Same.seqT sub ha, Same.seqT sub hb, by rw [← ra.length, ← rb.length]; exact h, fun e => ?_, fun _ e => ?_, fun _ _ p hp => ?_⟩
      · subst e
        cases ra
        exact q P H _ (.refl sub) (.tup hb rb)
      · subst e
        cases rb
        rw [List.append_nil]  at q
        exact q P H _ (.refl sub) (.tup ha ra)
      · exact q _ _ _ (.new1 sub hp) (.tup (SqT.of upd_same) (RVs.mono (PExt.new1 sub hp).sP (ra.append rb)))
    · cases e
  · split at e
    · rename_i xs ys h
      cases e
      obtain ⟨a, vs, rfl, ha, ra⟩ := sx
      obtain ⟨b, us, rfl, hb, rb⟩ := sy
      cases rx
      cases ry
      obtain ⟨z, its, n, r, e⟩ := Inv.rdL I ha
      obtain ⟨z2, its2, n2, r2, e2⟩ := Inv.rdL I hb
      have hz : vs.length + us.length ≤ sizeLine := by rw [← ra.length, ← rb.length]; exact h
      refine PySem.P.add_list e e2 ?_ (by rw [List.size_toArray, List.size_toArray, ← r.length, ← r2.length]; exact hz)
      have ea : its.toArray ++ its2.toArray = (its ++ its2).toArray := by simp
      rw [ea]
      have hp : H s.heap.objs.size = none := I.fresh
      exact ⟨.ref _, _, I.lnew (t' := s.toks) (r.append r2) (by rw [List.length_append]; omega), rfl, q _ _ _ (.new1 sub hp) (.lst (.inl upd_same) (RVs.mono (PExt.new1 sub hp).sP (ra.append rb)))⟩
    · cases e
  · cases e
def oSub (x y : D) : Option D := match x, y with
  | .int i, .int j => some (.int (i - j))
  | _, _ => none
theorem op_dsub : OpR X (binaryOp .Sub) (rD (bk X) oSub) := by
  intro pins s σ H x y v u Q I rx ry ⟨P, dx, dy, d, sub, sx, sy, e, q⟩
  unfold oSub at e
  split at e
  · cases e
    cases sx.int; cases sy.int
    exact op_sub pins s σ H _ _ v u Q I rx ry ⟨_, _, rfl, rfl, q P H _ (.refl sub) .int⟩
  · cases e
/-- a product that is not too big -/
def mulOk (i j : Int) : Bool := decide (i.natAbs < 2 ^ 64) || (decide (j.natAbs < 2 ^ 64) || decide (i.natAbs.log2 + j.natAbs.log2 < 134000000))
theorem mulOk_ok {i j : Int} (h : mulOk i j = true) : IntMulOk i j := by
  unfold mulOk at h
  simp only [Bool.or_eq_true, decide_eq_true_eq] at h
  rcases h with h | h | h
  · exact .of_left (intBits_le_64 (by omega) (by omega))
  · exact .of_right (intBits_le_64 (by omega) (by omega))
  · have b : ∀ x : Int, Builtin.Int.intBits x ≤ x.natAbs.log2 + 1 := fun x => by
      unfold Builtin.Int.intBits
      split <;> omega
    have h1 := b i
    have h2 := b j
    unfold IntMulOk
    intro z
    rw [Bool.and_eq_true] at z
    have z2 := z.2
    unfold Builtin.Int.intTooBig at z2
    have z3 := of_decide_eq_true z2
    rw [bitsLine_eq] at z3
    omega
def oMul (x y : D) : Option D := match x, y with
  | .int i, .int j => if mulOk i j = true then some (.int (i * j)) else none
  | .lst xs, .int j => if j.natAbs < 2 ^ 63 ∧ xs.length * j.toNat ≤ sizeLine then some (.lst (List.replicate j.toNat xs).flatten) else none
  | _, _ => none
theorem RVs.rep {K : Bk} {P : Hp} {ds : List D} {vs : List V} (h : RVs K P ds vs) : ∀ k : Nat, RVs K P (List.replicate k ds).flatten (List.replicate k vs).flatten
  | 0 => .nil
  | k + 1 => by
    rw [List.replicate_succ, List.replicate_succ, List.flatten_cons, List.flatten_cons]
    exact h.append (RVs.rep h k)
theorem op_dmul : OpR X (binaryOp .Mult) (rD (bk X) oMul) := by
  intro pins s σ H x y v u Q I rx ry ⟨P, dx, dy, d, sub, sx, sy, e, q⟩
  unfold oMul at e
  split at e
  · split at e
    · rename_i h
      cases e
      cases sx.int; cases sy.int
      obtain ⟨t, rfl⟩ := rx
      obtain ⟨t', rfl⟩ := ry
      exact mul_int ⟨.int _, H, I.tok _, ⟨_, rfl⟩, q P H _ (.refl sub) .int⟩ (mulOk_ok h)
    · cases e
  · split at e
    · rename_i xs k h
      cases e
      obtain ⟨a, vs, rfl, ha, ra⟩ := sx
      cases sy.int
      cases rx
      obtain ⟨t, rfl⟩ := ry
      obtain ⟨z, its, n, r, e⟩ := Inv.rdL I ha
      obtain ⟨hk, hl⟩ := h
      have h1 : -(2 ^ 63) ≤ k := by omega
      have h2 : k < 2 ^ 63 := by omega
      have hz : vs.length * k.toNat ≤ sizeLine := by rw [← ra.length]; exact hl
      have hlen : its.toArray.size * k.toNat ≤ sizeLine := by rw [List.size_toArray, ← r.length]; exact hz
      have hcap : ¬ its.toArray.size * k.toNat > (2 ^ 63 - 1) / 8 := by
        have : (sizeLine : Nat) ≤ (2 ^ 63 - 1) / 8 := by decide
        omega
      have hfit : ¬ (!Builtin.List.listFitsIndex k) = true := by
        rw [fitsIndex_both h1 h2]
        exact Bool.false_ne_true
      have hlong : ¬ Builtin.List.listTooLong (its.toArray.size * k.toNat) = true := by
        rw [notLongL hlen]
        exact Bool.false_ne_true
      have hnew : List.foldl (fun x1 x2 => x1 ++ x2) #[] (List.replicate (if its.toArray.isEmpty = true then 0 else k.toNat) its.toArray) = (List.replicate k.toNat its).flatten.toArray := by
        have f0 : ∀ m : Nat, List.foldl (fun x1 x2 => x1 ++ x2) #[] (List.replicate m its.toArray) = (List.replicate m its).flatten.toArray := fun m => by
          have := foldl_rep its m []
          rw [List.nil_append] at this
          exact this
        rw [f0]
        cases its with
        | nil => simp
        | cons a r' => rw [if_neg (by simp)]
      have hp : H s.heap.objs.size = none := I.fresh
      refine wpAny_binaryOp_repeat_ref (T := "list") (U := "int") (by decide) ⟨_, e, rfl⟩ (fun s' => typeIs_int s' k t) noFill_list_mul F.fills_int_mul F.slot_int_rmul repeat_list F.slot_int_index.lookup
        (call_meets F.slot_int_rmul (typeIs_int s k t) F.entry_int_rmul (F.args_int_rmul_2 _ _) (int___rmul___int_list k t a its.toArray n)
          ⟨e, rfl, ⟨_, e, rfl⟩, call_meets F.slot_list_mul ⟨_, e, rfl⟩ F.entry_list_mul (F.args_list_mul_2 _ _) (AutoListH.list___mul___list_int_3 a its.toArray n k t hfit hcap hlong) ⟨e, ?_⟩⟩)
      rw [hnew]
      exact ⟨.ref _, _, I.lnew (t' := s.toks) (r.rep k.toNat) (by rw [PyProof.Rows.lm_len_rep_flat, Nat.mul_comm]; exact hz), rfl, q _ _ _ (.new1 sub hp) (.lst (.inl upd_same) (RVs.mono (PExt.new1 sub hp).sP (ra.rep _)))⟩
    · cases e
  · cases e
def oFdiv (x y : D) : Option D := match x, y with
  | .int i, .int j => if j ≠ 0 ∧ Builtin.divisionGoesByPylong i j = false then some (.int (i.fdiv j)) else none
  | _, _ => none
theorem op_dfdiv : OpR X (binaryOp .FloorDiv) (rD (bk X) oFdiv) := by
  intro pins s σ H x y v u Q I rx ry ⟨P, dx, dy, d, sub, sx, sy, e, q⟩
  unfold oFdiv at e
  split at e
  · split at e
    · rename_i h
      cases e
      cases sx.int; cases sy.int
      obtain ⟨t, rfl⟩ := rx
      obtain ⟨t', rfl⟩ := ry
      exact floordiv_int h.1 ⟨.int _, H, I.tok _, ⟨_, rfl⟩, q P H _ (.refl sub) .int⟩ (.inl h.2)
    · cases e
  · cases e
def oMod (x y : D) : Option D := match x, y with
  | .int i, .int j => if j ≠ 0 then some (.int (i.fmod j)) else none
  | _, _ => none
theorem op_dmod : OpR X (binaryOp .Mod) (rD (bk X) oMod) := by
  intro pins s σ H x y v u Q I rx ry ⟨P, dx, dy, d, sub, sx, sy, e, q⟩
  unfold oMod at e
  split at e
  · split at e
    · rename_i h
      cases e
      cases sx.int; cases sy.int
      exact op_modN pins s σ H _ _ v u Q I rx ry ⟨_, _, rfl, rfl, h, q P H _ (.refl sub) .int⟩
    · cases e
  · cases e
def oPow (x y : D) : Option D := match x, y with
  | .int i, .int j => if (0 ≤ j ∧ j ≤ 1000000) ∧ i.natAbs < 2 ^ 64 then some (.int (i ^ j.toNat)) else none
  | _, _ => none
theorem op_dpow : OpR X (binaryOp .Pow) (rD (bk X) oPow) := by
  intro pins s σ H x y v u Q I rx ry ⟨P, dx, dy, d, sub, sx, sy, e, q⟩
  unfold oPow at e
  split at e
  · split at e
    · rename_i h
      cases e
      cases sx.int; cases sy.int
      exact op_pow pins s σ H _ _ v u Q I rx ry ⟨_, _, rfl, rfl, ⟨h.1.1, h.1.2, h.2⟩, q P H _ (.refl sub) .int⟩
    · cases e
  · cases e
def oNeg : D → Option D
  | .int i => some (.int (-i))
  | _ => none
theorem un_dneg : UnR X (unaryOp .USub) (rD1 (bk X) oNeg) := by
  intro pins s σ H x v Q I rx ⟨P, dx, d, sub, sx, e, q⟩
  unfold oNeg at e
  split at e
  · cases e
    cases sx.int
    exact un_neg pins s σ H _ v Q I rx ⟨_, rfl, q P H _ (.refl sub) .int⟩
  · cases e
def oIx (x y : D) : Option D := match x, y with
  | .tup xs, .int i => atI xs i
  | .lst xs, .int i => atI xs i
  | .scr xs, .int i => (atI xs i).map .int
  | .str z, .int i => if z.length ≤ sizeLine then (atI z.cps.toList i).map fun c => .str ⟨#[c]⟩ else none
  | _, _ => none
theorem RVs.atI {K : Bk} {P : Hp} {ds : List D} {vs : List V} (h : RVs K P ds vs) {i : Int} {d : D} (e : L2.atI ds i = some d) : ∃ v, L2.atI vs i = some v ∧ RV K P d v := by
  unfold L2.atI at e ⊢
  rw [← h.length]
  cases q : ixN ds.length i with
  | none => rw [q] at e; cases e
  | some j =>
    rw [q, Option.bind_some] at e
    rw [Option.bind_some]
    exact h.get e
theorem ix_d : IxR X (rD (bk X) oIx) := by
  intro vl sl pins s σ H x y v u Q I rx ry ⟨P, dx, dy, d, sub, sx, sy, e, q⟩ hs
  unfold oIx at e
  split at e
  · obtain ⟨a, vs, rfl, ha, ra⟩ := sx.tup sub
    cases sy.int
    obtain ⟨z, hz, rz⟩ := ra.atI e
    exact ix_tup vl sl pins s σ H _ _ v u Q I rx ry ⟨a, vs, _, z, rfl, rfl, Same.seqT sub ha, hz, q P H _ (.refl sub) rz⟩ hs
  · obtain ⟨a, vs, rfl, ha, ra⟩ := sx
    cases sy.int
    obtain ⟨z, hz, rz⟩ := ra.atI e
    exact ix_list vl sl pins s σ H _ _ v u Q I rx ry ⟨a, vs, _, z, rfl, rfl, .inl ha, hz, q P H _ (.refl sub) rz⟩ hs
  · rename_i xs i
    cases q1 : L2.atI xs i with
    | none => rw [q1] at e; cases e
    | some j =>
      rw [q1] at e
      cases e
      cases sx with
      | scr ha =>
        cases sy.int
        refine ix_list vl sl pins s σ H _ _ v u Q I rx ry ⟨_, xs.map V.int, i, .int j, rfl, rfl, Same.seq sub ha, ?_, q P H _ (.refl sub) .int⟩ hs
        unfold L2.atI at q1 ⊢
        rw [List.length_map]
        cases q2 : ixN xs.length i with
        | none => rw [q2] at q1; cases q1
        | some n =>
          rw [q2, Option.bind_some] at q1
          rw [Option.bind_some, List.getElem?_map, q1]
          rfl
  · split at e
    · rename_i hz
      cases sx.str; cases sy.int
      cases q2 : L2.atI _ _ with
      | none => rw [q2] at e; cases e
      | some c =>
        rw [q2] at e
        cases e
        exact ix_str vl sl pins s σ H _ _ v u Q I rx ry ⟨_, _, c, rfl, rfl, hz, q2, q P H _ (.refl sub) .str⟩ hs
    · cases e
  · cases e
end
end Dn
namespace Dn
open PySem PySem.Spec PyProof.Rows L2
section
variable {X : Cx} {K : Bk} {W : WX}
theorem SVs.one {P H : Hp} {d : D} {xs : List V} (h : SVs K P H [d] xs) : ∃ x, xs = [x] ∧ SV K P H d x := by
  cases h with
  | cons a t => cases t; exact ⟨_, rfl, a⟩
theorem SVs.two {P H : Hp} {d e : D} {xs : List V} (h : SVs K P H [d, e] xs) : ∃ x y, xs = [x, y] ∧ SV K P H d x ∧ SV K P H e y := by
  cases h with
  | cons a t => cases t with
    | cons b t => cases t; exact ⟨_, _, rfl, a, b⟩
def oLen (ds : List D) : Option D := match ds with
  | [.tup xs] => some (.int xs.length)
  | [.lst xs] => some (.int xs.length)
  | [.scr xs] => some (.int xs.length)
  | [.str z] => if z.length ≤ sizeLine then some (.int z.length) else none
  | _ => none
theorem c_len : CallR X (.builtin "len") (rDs (bk X) oLen) := by
  intro pins s σ H xs us Q I r ⟨P, ds, d, sub, sv, e, q⟩
  unfold oLen at e
  split at e
  · cases e
    obtain ⟨x, rfl, h⟩ := sv.one
    obtain ⟨a, vs, rfl, ha, ra⟩ := h.tup sub
    exact call_len_seq pins s σ H _ us Q I r ⟨a, vs, rfl, .inr (Same.seqT sub ha), by rw [← ra.length]; exact q P H _ (.refl sub) .int⟩
  · cases e
    obtain ⟨x, rfl, h⟩ := sv.one
    obtain ⟨a, vs, rfl, ha, ra⟩ := h
    exact call_len_seq pins s σ H _ us Q I r ⟨a, vs, rfl, .inl (.inl ha), by rw [← ra.length]; exact q P H _ (.refl sub) .int⟩
  · cases e
    obtain ⟨x, rfl, h⟩ := sv.one
    cases h with
    | scr ha => exact call_len_seq pins s σ H _ us Q I r ⟨_, _, rfl, .inl (Same.seq sub ha), by rw [List.length_map]; exact q P H _ (.refl sub) .int⟩
  · split at e
    · rename_i hz
      cases e
      obtain ⟨x, rfl, h⟩ := sv.one
      cases h.str
      exact call_len_str pins s σ H _ us Q I r ⟨_, rfl, hz, q P H _ (.refl sub) .int⟩
    · cases e
  · cases e
def oAbs (ds : List D) : Option D := match ds with
  | [.int i] => some (.int (if i < 0 then -i else i))
  | _ => none
theorem c_abs : CallR X (.builtin "abs") (rDs (bk X) oAbs) := by
  intro pins s σ H xs us Q I r ⟨P, ds, d, sub, sv, e, q⟩
  unfold oAbs at e
  split at e
  · cases e
    obtain ⟨x, rfl, h⟩ := sv.one
    cases h.int
    exact call_abs pins s σ H _ us Q I r ⟨_, rfl, q P H _ (.refl sub) .int⟩
  · cases e
def oMax2 (ds : List D) : Option D := match ds with
  | [.int i, .int j] => some (.int (if j > i then j else i))
  | _ => none
theorem c_max2 (hc : X.calm = true) : CallR X (.builtin "max") (rDs (bk X) oMax2) := by
  intro pins s σ H xs us Q I r ⟨P, ds, d, sub, sv, e, q⟩
  unfold oMax2 at e
  split at e
  · cases e
    obtain ⟨x, y, rfl, h1, h2⟩ := sv.two
    cases h1.int; cases h2.int
    exact call_max2 hc pins s σ H _ us Q I r ⟨_, _, rfl, q P H _ (.refl sub) .int⟩
  · cases e
def oMin2 (ds : List D) : Option D := match ds with
  | [.int i, .int j] => some (.int (if j < i then j else i))
  | _ => none
theorem c_min2 (hc : X.calm = true) : CallR X (.builtin "min") (rDs (bk X) oMin2) := by
  intro pins s σ H xs us Q I r ⟨P, ds, d, sub, sv, e, q⟩
  unfold oMin2 at e
  split at e
  · cases e
    obtain ⟨x, y, rfl, h1, h2⟩ := sv.two
    cases h1.int; cases h2.int
    exact call_min2 hc pins s σ H _ us Q I r ⟨_, _, rfl, q P H _ (.refl sub) .int⟩
  · cases e
def oInt (ds : List D) : Option D := match ds with
  | [.int i] => some (.int i)
  | [.bl k] => some (.int (if k then 1 else 0))
  | _ => none
theorem c_int : CallR X (.type "int") (rDs (bk X) oInt) := by
  intro pins s σ H xs us Q I r ⟨P, ds, d, sub, sv, e, q⟩
  unfold oInt at e
  split at e
  · cases e
    obtain ⟨x, rfl, h⟩ := sv.one
    cases h.int
    exact call_int1 pins s σ H _ us Q I r (.inl ⟨_, rfl, q P H _ (.refl sub) .int⟩)
  · cases e
    obtain ⟨x, rfl, h⟩ := sv.one
    cases h.is_bl
    exact call_int1 pins s σ H _ us Q I r (.inr ⟨_, rfl, q P H _ (.refl sub) .int⟩)
  · cases e
def oTuple (ds : List D) : Option D := match ds with
  | [.tup xs] => some (.tup xs)
  | [.lst xs] => some (.tup xs)
  | _ => none
theorem c_tuple : CallR X (.type "tuple") (rDs (bk X) oTuple) := by
  intro pins s σ H xs us Q I r ⟨P, ds, d, sub, sv, e, q⟩
  unfold oTuple at e
  split at e
  · cases e
    obtain ⟨x, rfl, h⟩ := sv.one
    obtain ⟨a, vs, rfl, ha, ra⟩ := h.tup sub
    exact call_tuple_of pins s σ H _ us Q I r ⟨a, vs, rfl, .inr ⟨Same.seqT sub ha, q P H _ (.refl sub) (.tup ha ra)⟩⟩
  · cases e
    obtain ⟨x, rfl, h⟩ := sv.one
    obtain ⟨a, vs, rfl, ha, ra⟩ := h
    exact call_tuple_of pins s σ H _ us Q I r ⟨a, vs, rfl, .inl ⟨.inl ha, fun p hp => q _ _ _ (.new1 sub hp) (.tup (SqT.of upd_same) (RVs.mono (PExt.new1 sub hp).sP ra))⟩⟩
  · cases e
def oList (ds : List D) : Option D := match ds with
  | [.tup xs] => some (.lst xs)
  | [.lst xs] => some (.lst xs)
  | _ => none
theorem c_list : CallR X (.type "list") (rDs (bk X) oList) := by
  intro pins s σ H xs us Q I r ⟨P, ds, d, sub, sv, e, q⟩
  unfold oList at e
  split at e
  · cases e
    obtain ⟨x, rfl, h⟩ := sv.one
    obtain ⟨a, vs, rfl, ha, ra⟩ := h.tup sub
    exact call_list_of pins s σ H _ us Q I r ⟨a, vs, rfl, .inr (Same.seqT sub ha), fun p hp => q _ _ _ (.new1 sub hp) (.lst (.inl upd_same) (RVs.mono (PExt.new1 sub hp).sP ra))⟩
  · cases e
    obtain ⟨x, rfl, h⟩ := sv.one
    obtain ⟨a, vs, rfl, ha, ra⟩ := h
    exact call_list_of pins s σ H _ us Q I r ⟨a, vs, rfl, .inl (.inl ha), fun p hp => q _ _ _ (.new1 sub hp) (.lst (.inl upd_same) (RVs.mono (PExt.new1 sub hp).sP ra))⟩
  · cases e
def blOf : D → Option Bool
  | .bl b => some b
  | _ => none
def bls : List D → Option (List Bool)
  | [] => some []
  | d :: ds => (blOf d).bind fun b => (bls ds).bind fun bs => some (b :: bs)
theorem RVs.bls {P : Hp} : ∀ {ds : List D} {vs : List V} {bs : List Bool}, RVs K P ds vs → Dn.bls ds = some bs → vs = bs.map V.bl
  | [], _, _, h, e => by cases h; cases e; rfl
  | d :: ds, _, bs, h, e => by
    cases h with
    | cons r t =>
      simp only [Dn.bls] at e
      cases q : blOf d with
      | none => rw [q] at e; cases e
      | some b =>
        rw [q, Option.bind_some] at e
        cases q2 : Dn.bls ds with
        | none => rw [q2] at e; cases e
        | some bs' =>
          rw [q2, Option.bind_some] at e
          cases e
          have hd : d = .bl b := by cases d <;> first | (cases q; rfl) | cases q
          subst hd
          cases r
          rw [RVs.bls t q2]
          rfl
def oAll (ds : List D) : Option D := match ds with
  | [.lst xs] => (bls xs).map fun bs => .bl (bs.all id)
  | _ => none
def oAny (ds : List D) : Option D := match ds with
  | [.lst xs] => (bls xs).map fun bs => .bl (bs.any id)
  | _ => none
theorem c_all (hc : X.calm = true) : CallR X (.builtin "all") (rDs (bk X) oAll) := by
  intro pins s σ H xs us Q I r ⟨P, ds, d, sub, sv, e, q⟩
  unfold oAll at e
  split at e
  · rename_i xs'
    cases q2 : bls xs' with
    | none => rw [q2] at e; cases e
    | some bs =>
      rw [q2] at e
      cases e
      obtain ⟨x, rfl, h⟩ := sv.one
      obtain ⟨a, vs, rfl, ha, ra⟩ := h
      exact cr_all hc pins s σ H _ us Q I r ⟨a, bs, rfl, by rw [← ra.bls q2]; exact .inl ha, q P H _ (.refl sub) .bl⟩
  · cases e
theorem c_any (hc : X.calm = true) : CallR X (.builtin "any") (rDs (bk X) oAny) := by
  intro pins s σ H xs us Q I r ⟨P, ds, d, sub, sv, e, q⟩
  unfold oAny at e
  split at e
  · rename_i xs'
    cases q2 : bls xs' with
    | none => rw [q2] at e; cases e
    | some bs =>
      rw [q2] at e
      cases e
      obtain ⟨x, rfl, h⟩ := sv.one
      obtain ⟨a, vs, rfl, ha, ra⟩ := h
      exact cr_any hc pins s σ H _ us Q I r ⟨a, bs, rfl, by rw [← ra.bls q2]; exact .inl ha, q P H _ (.refl sub) .bl⟩
  · cases e
/-- the types that the programs ask for -/
def askedTy (n : String) : Bool := n == "tuple" || (n == "list" || (n == "dict" || (n == "bool" || (n == "str" || n == "int"))))
def D.isa : D → String → Option Bool
  | .tup _, n => if askedTy n = true then some (n == "tuple") else none
  | .lst _, n => if askedTy n = true then some (n == "list") else none
  | .bl _, n => if askedTy n = true then some (n == "bool" || n == "int") else none
  | .int _, n => if askedTy n = true then some (n == "int") else none
  | .str _, n => if askedTy n = true then some (n == "str") else none
  | .non, n => if askedTy n = true then some false else none
  | _, _ => none
theorem askedTy_cases {n : String} (h : askedTy n = true) : n = "tuple" ∨ n = "list" ∨ n = "dict" ∨ n = "bool" ∨ n = "str" ∨ n = "int" := by
  simpa [askedTy] using h
def tyNames : List D → Option (List String)
  | [] => some []
  | .ty n :: ds => (tyNames ds).map fun l => n :: l
  | _ :: _ => none
def D.isaAny (d : D) : List String → Option Bool
  | [] => some false
  | n :: l => (d.isa n).bind fun b => if b = true then some true else d.isaAny l
def oIsi (ds : List D) : Option D := match ds with
  | [x, .ty n] => (x.isa n).map .bl
  | [x, .tup (t :: ts)] => (tyNames (t :: ts)).bind fun l => (x.isaAny l).map .bl
  | _ => none
theorem SqT.tyX {K : PySem.W.Frag} {H : Hp} {a : Addr} {vs : List V} (h : SqT K H a vs) : TyX K H (.ref a) (.type "tuple") := by
  rcases h with (h | ⟨o, h⟩) | ⟨o, its, n, h, c, _⟩
  · exact .base (.tup h)
  · exact .fTuple h
  · exact .kTuple h c
theorem Rd.tyX {K : PySem.W.Frag} {H : Hp} {a : Addr} {vs : List V} (h : Rd H a (.lst vs)) : TyX K H (.ref a) (.type "list") := by
  rcases h with h | ⟨o, h⟩
  · exact .base (.lst h)
  · exact .base (.frz h)
theorem SV.isa {P H : Hp} (sub : Sub P H) {d : D} {x : V} (h : SV K P H d x) (e0 : ∃ n b, d.isa n = some b) : ∃ t, TyX K.K H x t ∧ ∀ n b, d.isa n = some b → PySem.W.kitOne K.K t (.type n) = some b := by
  have fin : ∀ {n : String} {b : Bool} {f : Bool} {ty : String}, (if askedTy n = true then some f else none) = some b → (askedTy n = true → kitB ty n = some f) → PySem.W.kitOne K.K (.type ty) (.type n) = some b := fun {n b f ty} e hk => by
    split at e
    · rename_i ha
      cases e
      exact kit_ty (hk ha)
    · cases e
  cases d with
  | tup ds =>
    obtain ⟨a, vs, rfl, hs, _⟩ := h.tup sub
    exact ⟨_, SqT.tyX (Same.seqT sub hs), fun n b e => fin e fun ha => by rcases askedTy_cases ha with rfl | rfl | rfl | rfl | rfl | rfl <;> decide +kernel⟩
  | lst ds =>
    obtain ⟨a, vs, rfl, hs, _⟩ := h
    exact ⟨_, Rd.tyX hs, fun n b e => fin e fun ha => by rcases askedTy_cases ha with rfl | rfl | rfl | rfl | rfl | rfl <;> decide +kernel⟩
  | bl c =>
    cases h.is_bl
    exact ⟨_, .base (.bl _), fun n b e => fin e fun ha => by rcases askedTy_cases ha with rfl | rfl | rfl | rfl | rfl | rfl <;> decide +kernel⟩
  | int c =>
    cases h.int
    exact ⟨_, .base (.int _), fun n b e => fin e fun ha => by rcases askedTy_cases ha with rfl | rfl | rfl | rfl | rfl | rfl <;> decide +kernel⟩
  | str c =>
    cases h.str
    exact ⟨_, .base (.str _), fun n b e => fin e fun ha => by rcases askedTy_cases ha with rfl | rfl | rfl | rfl | rfl | rfl <;> decide +kernel⟩
  | non =>
    have hx := (SV.non_iff h).1 rfl
    subst hx
    exact ⟨_, .base .non, fun n b e => fin e fun ha => by rcases askedTy_cases ha with rfl | rfl | rfl | rfl | rfl | rfl <;> decide +kernel⟩
  | dct _ => obtain ⟨_, _, e⟩ := e0; cases e
  | obj _ _ => obtain ⟨_, _, e⟩ := e0; cases e
  | ty _ => obtain ⟨_, _, e⟩ := e0; cases e
  | cls _ => obtain ⟨_, _, e⟩ := e0; cases e
  | exn _ _ _ _ _ _ => obtain ⟨_, _, e⟩ := e0; cases e
  | scr _ => obtain ⟨_, _, e⟩ := e0; cases e
theorem RVs.tys {P : Hp} : ∀ {ds : List D} {vs : List V} {l : List String}, RVs K P ds vs → tyNames ds = some l → vs = l.map V.ty
  | [], _, _, h, e => by cases h; cases e; rfl
  | d :: ds, _, l, h, e => by
    cases h with
    | cons r t =>
      cases d with
      | ty n =>
        simp only [tyNames] at e
        cases q : tyNames ds with
        | none => rw [q] at e; cases e
        | some l' =>
          rw [q] at e
          cases e
          cases r
          rw [RVs.tys t q]
          rfl
      | _ => cases e
theorem clsV_tys : ∀ l : List String, Paired ClsV (l.map V.ty) (l.map Value.type)
  | [] => .nil
  | n :: l => .cons (.ty n) (clsV_tys l)
theorem isaAny_kit {d : D} {t : Value} (hk : ∀ n b, d.isa n = some b → PySem.W.kitOne K.K t (.type n) = some b) : ∀ {l : List String} {b : Bool}, d.isaAny l = some b → PySem.W.kitAny K.K t (l.map Value.type) = some b
  | [], b, e => by cases e; exact kitAny_nil
  | n :: l, b, e => by
    simp only [D.isaAny] at e
    cases q : d.isa n with
    | none => rw [q] at e; cases e
    | some c =>
      rw [q, Option.bind_some] at e
      cases c with
      | true => rw [if_pos rfl] at e; cases e; exact kitAny_cons (hk n _ q) (fun z => nomatch z) fun _ => rfl
      | false => rw [if_neg Bool.false_ne_true] at e; exact kitAny_cons (hk n _ q) (fun _ => isaAny_kit hk e) fun z => nomatch z
theorem c_isi : CallR X (.builtin "isinstance") (rDs (bk X) oIsi) := by
  intro pins s σ H xs us Q I r ⟨P, ds, d, sub, sv, e, q⟩
  unfold oIsi at e
  split at e
  · rename_i x n
    obtain ⟨v, y, rfl, h1, h2⟩ := sv.two
    cases q2 : x.isa n with
    | none => rw [q2] at e; cases e
    | some b =>
      rw [q2] at e
      cases e
      obtain ⟨t, ht, hk⟩ := SV.isa sub h1 ⟨n, b, q2⟩
      have hy : y = .ty n := by cases h2; rfl
      subst hy
      exact call_isi pins s σ H _ us Q I r ⟨v, .ty n, t, .type n, b, rfl, .ty n, ht, hk n b q2, q P H _ (.refl sub) .bl⟩
  · rename_i x ty0 ts
    obtain ⟨v, y, rfl, h1, h2⟩ := sv.two
    cases q1 : tyNames (ty0 :: ts) with
    | none => rw [q1] at e; cases e
    | some l =>
      rw [q1, Option.bind_some] at e
      cases q2 : x.isaAny l with
      | none => rw [q2] at e; cases e
      | some b =>
        rw [q2] at e
        cases e
        have e0 : ∃ n b, x.isa n = some b ∨ l = [] := by
          cases l with
          | nil => exact ⟨"", true, .inr rfl⟩
          | cons n l =>
            simp only [D.isaAny] at q2
            cases q3 : x.isa n with
            | none => rw [q3] at q2; cases q2
            | some c => exact ⟨n, c, .inl q3⟩
        obtain ⟨n0, b0, e0⟩ := e0
        rcases e0 with e0 | e0
        · obtain ⟨t, ht, hk⟩ := SV.isa sub h1 ⟨n0, b0, e0⟩
          obtain ⟨a, vs, rfl, ha, ra⟩ := h2.tup sub
          have hvs := ra.tys q1
          subst hvs
          obtain ⟨u1, u2, rfl, r1, r2⟩ := vals2 r
          cases (show u2 = Value.ref a from r2)
          obtain ⟨Pp, Z, p, hx⟩ := kit_of I r1 ht
          obtain ⟨its, rv, ⟨o, h1', h2', n, h3'⟩, _⟩ := I.tuple (Same.seqT sub ha)
          have e3 := ClsV.all (clsV_tys l) rv
          subst e3
          obtain ⟨oc, od, dt, sl⟩ := o
          simp only at h2' h3'
          subst h2' h3'
          exact PySem.W.kia_tup Z I.kIn p h1' (isaAny_kit hk q2) hx fun tk => ⟨.bl b, H, I.tok tk, rfl, q P H _ (.refl sub) .bl⟩
        · subst e0
          cases ty0 <;> first | (cases q1; done) | skip
          simp only [tyNames] at q1
          cases q4 : tyNames ts with
          | none => rw [q4] at q1; cases q1
          | some l' => rw [q4] at q1; cases q1
  · cases e
/-- a list or a tuple: data, or a local list that stays -/
def iSeq (m : DE) : DI := fun fr g => match m fr g with
  | .ok (.v (.tup xs)) g1 => .ok xs none g1
  | .ok (.v (.lst xs)) g1 => .ok xs none g1
  | .ok (.r k) g1 => if k < g1.n then (match g1.get k with | .lst xs => .ok xs (some k) g1 | _ => .bad) else .bad
  | .exc e g1 => .exc e g1
  | _ => .bad
def iSq (K : PySem.W.Frag) (tl : TE) : TI := fun σ H R => tl σ H fun x H1 => ∃ a, x = .ref a ∧ ((∃ xs, SqL K H1 a xs ∧ R (Itl K a) H1) ∨ (∃ xs, SqT K H1 a xs ∧ R (Itt K a) H1))
theorem pi_sq {tg l : Expr} {tl : TE} (hl : PE X l tl) : PI X tg l (iSq X.K tl) := by
  refine ⟨fun pins s σ H R I h => ?_⟩
  refine thn (hl.run pins s σ H _ I h) fun v s1 ⟨x, H1, I1, r1, q1⟩ => ?_
  obtain ⟨a, e, q⟩ := q1
  subst e
  cases r1
  rcases q with ⟨xs, hq, q⟩ | ⟨xs, hq, q⟩
  · obtain ⟨its, rv, p, hz⟩ := I1.list hq
    refine wpAny_pyIter_list p.isList ?_
    refine ⟨s1.heap.objs.size, [s1.heap.objs.size], _, _, H1, rfl, I1.kept (t' := s1.toks) fun b o e => Heap.get?_push_of_some _ e, turn_list a _, ⟨_, Heap.get?_push_size _ rfl, rfl, rfl⟩, fun b hb => ?_, q⟩
    have e : b = s1.heap.objs.size := by simpa using hb
    subst e
    exact I1.fpOk (Nat.le_refl _) (I1.hok.fresh (Nat.le_refl _))
  · obtain ⟨its, rv, p, hz⟩ := I1.tuple hq
    refine wpAny_pyIter_tuple (show s1.heap.IsTuple a its.toArray from p) ?_
    refine ⟨s1.heap.objs.size, [s1.heap.objs.size], _, _, H1, rfl, I1.kept (t' := s1.toks) fun b o e => Heap.get?_push_of_some _ e, turn_tuple a _, ⟨_, Heap.get?_push_size _ rfl, rfl, rfl⟩, fun b hb => ?_, q⟩
    have e : b = s1.heap.objs.size := by simpa using hb
    subst e
    exact I1.fpOk (Nat.le_refl _) (I1.hok.fresh (Nat.le_refl _))
/-- what is known of a list at each later world -/
theorem ItOk.lists {w : Wd} {a : Addr} {items : List D} {gd : Option Nat} (h : ∀ w1 : Wd, w.Ext w1 → w1.Ok K → gdOk gd items w1.g → ∃ vs, SqL K.K w1.H a vs ∧ RVs K w1.P items vs)
    (inj : ∀ (w1 : Wd) vs us, w1.Ok K → SqL K.K w1.H a vs → SqL K.K w1.H a us → vs = us) : ItOk K (Itl K.K a) w items gd := by
  intro w1 e1 o1 hg
  obtain ⟨vs, hs, rs⟩ := h w1 e1 o1 hg
  refine ⟨fun i d hd => ?_, ⟨vs, hs, by rw [rs.length]; exact Nat.le_refl _⟩⟩
  obtain ⟨v, hv, rv⟩ := rs.get hd
  refine ⟨⟨vs, v, hs, hv⟩, fun x H' ⟨eH, y⟩ => ?_⟩
  have hx := y vs hs
  rw [hv] at hx
  cases hx
  exact ⟨w1, eH.symm, rfl, .refl _, o1, rv⟩
theorem ItOk.list {w : Wd} {a : Addr} {items : List D} {gd : Option Nat} (h : ∀ w1 : Wd, w.Ext w1 → w1.Ok K → gdOk gd items w1.g → ∃ vs, SqL K.K w1.H a vs ∧ RVs K w1.P items vs) : ItOk K (Itl K.K a) w items gd := by
  intro w1 e1 o1 hg
  obtain ⟨vs, hs, rs⟩ := h w1 e1 o1 hg
  refine ⟨fun i d hd => ?_, ⟨vs, hs, by rw [rs.length]; exact Nat.le_refl _⟩⟩
  obtain ⟨v, hv, rv⟩ := rs.get hd
  refine ⟨⟨vs, v, hs, hv⟩, fun x H' ⟨eH, y⟩ => ?_⟩
  have hx := y vs hs
  rw [hv] at hx
  cases hx
  exact ⟨w1, eH.symm, rfl, .refl _, o1, rv⟩
theorem ItOk.tup {w : Wd} {a : Addr} {items : List D} {vs : List V} (hs : SqT K.K w.P a vs) (rs : RVs K w.P items vs) : ItOk K (Itt K.K a) w items none := by
  intro w1 e1 o1 hg
  have hs1 : SqT K.K w1.H a vs := Same.seqT o1.sub (Same.seqT e1.P hs)
  have rs1 := RVs.mono e1.P rs
  refine ⟨fun i d hd => ?_, ⟨vs, hs1, by rw [rs1.length]; exact Nat.le_refl _⟩⟩
  obtain ⟨v, hv, rv⟩ := rs1.get hd
  refine ⟨⟨vs, v, hs1, hv⟩, fun x H' ⟨eH, y⟩ => ?_⟩
  have hx := y vs hs1
  rw [hv] at hx
  cases hx
  exact ⟨w1, eH.symm, rfl, .refl _, o1, rv⟩
theorem di_seq {tg l : Expr} {m : DE} (hl : PE X l (T (bk X) W m)) : PI X tg l (TIt (bk X) W (iSeq m)) := by
  refine PI.imp (pi_sq hl) fun σ H R ⟨w, fr, eH, ok, f, h⟩ => ?_
  subst eH
  refine ⟨w, fr, rfl, ok, f, ?_⟩
  unfold iSeq at h
  cases q : m fr w.g with
  | bad => rw [q] at h; exact h.elim
  | exc e g => rw [q] at h; exact h
  | ok x g =>
    rw [q] at h
    intro w1 eg e1 o1 v r
    subst eg
    cases x with
    | v d =>
      cases d with
      | tup xs =>
        have r' : RV (bk X) w1.P (.tup xs) v := r
        cases r' with
        | tup hs rs => exact ⟨_, rfl, .inr ⟨_, Same.seqT o1.sub hs, h w1 rfl e1 o1 _ (.tup hs rs)⟩⟩
      | lst xs =>
        have r' : RV (bk X) w1.P (.lst xs) v := r
        cases r' with
        | lst hs rs => exact ⟨_, rfl, .inl ⟨_, .inl (Same.rd o1.sub hs), h w1 rfl e1 o1 _ (.list fun w2 e2 o2 _ => ⟨_, .inl (Same.rd o2.sub (Same.rd e2.P hs)), RVs.mono e2.P rs⟩)⟩⟩
      | _ => exact h.elim
    | r k =>
      obtain ⟨hk, rfl⟩ := r
      simp only [if_pos hk] at h
      cases q2 : w1.g.get k with
      | lst xs =>
        simp only [q2] at h
        obtain ⟨_, hg⟩ := o1.own k hk (by rw [q2]; rfl)
        rw [q2] at hg
        obtain ⟨vs, hH, rs⟩ := hg
        refine ⟨_, rfl, .inl ⟨_, SqL.of hH, h w1 rfl e1 o1 _ (.list fun w2 e2 o2 hg => ?_)⟩⟩
        obtain ⟨hk2, hg2⟩ := hg k rfl
        obtain ⟨_, hg3⟩ := o2.own k hk2 (by rw [hg2]; rfl)
        rw [hg2] at hg3
        obtain ⟨vs2, hH2, rs2⟩ := hg3
        rw [e2.M k hk] at hH2
        exact ⟨vs2, SqL.of hH2, rs2⟩
      | dead => simp only [q2] at h; exact h.elim
      | dct _ => simp only [q2] at h; exact h.elim
      | obj _ _ => simp only [q2] at h; exact h.elim
/-- range(j), range(i, j) -/
def rangeD (lo hi : Int) : List D := (List.range (hi - lo).toNat).map fun i => .int (lo + (i : Nat))
def smallR (i : Int) : Prop := -(2 ^ 62) ≤ i ∧ i < 2 ^ 62
instance (i : Int) : Decidable (smallR i) := inferInstanceAs (Decidable (_ ∧ _))
def iRange1 (a : DA) : DI := fun fr g => match a fr g with
  | .ok [.v (.int j)] g1 => if smallR j then .ok (rangeD 0 j) none g1 else .bad
  | .exc e g1 => .exc e g1
  | _ => .bad
def iRange2 (a : DA) : DI := fun fr g => match a fr g with
  | .ok [.v (.int i), .v (.int j)] g1 => if smallR i ∧ smallR j then .ok (rangeD i j) none g1 else .bad
  | .exc e g1 => .exc e g1
  | _ => .bad
theorem ItOk.range {w : Wd} {lo hi : Int} : ItOk K (Itr lo (hi - lo).toNat) w (rangeD lo hi) none := by
  intro w1 e1 o1 _
  refine ⟨fun i d hd => ?_, by show _ ≤ (rangeD lo hi).length; unfold rangeD; rw [List.length_map, List.length_range]; exact Nat.le_refl _⟩
  unfold rangeD at hd
  rw [List.getElem?_map] at hd
  have hi' : i < (hi - lo).toNat := by
    cases q : (List.range (hi - lo).toNat)[i]? with
    | none => rw [q] at hd; cases hd
    | some j =>
      have := (List.getElem?_eq_some_iff.mp q).1
      simpa using this
  rw [List.getElem?_range hi'] at hd
  cases hd
  exact ⟨hi', fun x H' ⟨eH, y⟩ => ⟨w1, eH.symm, rfl, .refl _, o1, by rw [y]; exact .int⟩⟩
theorem RLs.ints1 {w : Wd} {j : Int} {vs : List V} (h : RLs K w [.v (.int j)] vs) : vs = [.int j] := by
  cases h with
  | cons r t =>
    cases t
    have r' : RV K w.P (.int j) _ := r
    cases r'
    rfl
theorem RLs.ints2 {w : Wd} {i j : Int} {vs : List V} (h : RLs K w [.v (.int i), .v (.int j)] vs) : vs = [.int i, .int j] := by
  cases h with
  | cons r t =>
    cases RLs.ints1 t
    have r' : RV K w.P (.int i) _ := r
    cases r'
    rfl
theorem di_range1 {tg a : Expr} {ma : DA} {p pos : Pos} (hm : X.mg "range" = none) (ha : PA X [a] (TA' K W ma)) (hg : Gl X "range" := by rfl) (hs : starEach [a] X.env = [(false, eval a X.env)] := by rfl) : PI X tg (.Call (.Name "range" p) [a] [] pos) (TIt K W (iRange1 ma)) := by
  refine PI.imp (pi_range1 hg hm ha hs) fun σ H R ⟨w, fr, eH, ok, f, h⟩ => ?_
  subst eH
  refine ⟨w, fr, rfl, ok, f, ?_⟩
  unfold iRange1 at h
  cases q : ma fr w.g with
  | bad => rw [q] at h; exact h.elim
  | exc e g => rw [q] at h; exact h
  | ok xs g =>
    rw [q] at h
    intro w1 eg e1 o1 vs r
    subst eg
    split at h
    · rename_i j g1 e
      cases e
      split at h
      · rename_i hj
        have z : (j - 0).toNat = j.toNat := by simp
        exact ⟨j, r.ints1, hj.1, hj.2, h w1 rfl e1 o1 _ (by rw [← z]; exact .range)⟩
      · exact h.elim
    · rename_i e; cases e
    · exact h.elim
theorem di_range2 {tg a b : Expr} {ma : DA} {p pos : Pos} (hm : X.mg "range" = none) (ha : PA X [a, b] (TA' K W ma)) (hg : Gl X "range" := by rfl) (hs : starEach [a, b] X.env = [(false, eval a X.env), (false, eval b X.env)] := by rfl) (hs2 : starEach [b] X.env = [(false, eval b X.env)] := by rfl) : PI X tg (.Call (.Name "range" p) [a, b] [] pos) (TIt K W (iRange2 ma)) := by
  refine PI.imp (pi_range2 hg hm ha hs hs2) fun σ H R ⟨w, fr, eH, ok, f, h⟩ => ?_
  subst eH
  refine ⟨w, fr, rfl, ok, f, ?_⟩
  unfold iRange2 at h
  cases q : ma fr w.g with
  | bad => rw [q] at h; exact h.elim
  | exc e g => rw [q] at h; exact h
  | ok xs g =>
    rw [q] at h
    intro w1 eg e1 o1 vs r
    subst eg
    split at h
    · rename_i i j g1 e
      cases e
      split at h
      · rename_i hj
        exact ⟨i, j, r.ints2, ⟨hj.1.1, hj.1.2, hj.2.1, hj.2.2⟩, h w1 rfl e1 o1 _ .range⟩
      · exact h.elim
    · rename_i e; cases e
    · exact h.elim
/-- enumerate of a list -/
def enumD (xs : List D) : List D := (List.range xs.length).map fun i => .tup [.int (i : Nat), xs.getD i .non]
def iEnumL (m : DE) : DI := fun fr g => match m fr g with
  | .ok (.v (.lst xs)) g1 => .ok (enumD xs) none g1
  | .exc e g1 => .exc e g1
  | _ => .bad
theorem enumD_get {xs : List D} {i : Nat} {d : D} (h : (enumD xs)[i]? = some d) : ∃ x, xs[i]? = some x ∧ d = .tup [.int (i : Nat), x] := by
  unfold enumD at h
  rw [List.getElem?_map] at h
  cases q : (List.range xs.length)[i]? with
  | none => rw [q] at h; cases h
  | some j =>
    have hj := List.getElem?_eq_some_iff.mp q
    have hi : i < xs.length := by simpa using hj.1
    rw [List.getElem?_range hi] at h
    cases h
    exact ⟨xs[i], List.getElem?_eq_getElem hi, by show D.tup [.int (i : Nat), xs.getD i .non] = _; rw [List.getD_eq_getElem?_getD, List.getElem?_eq_getElem hi]; rfl⟩
theorem enumD_len (xs : List D) : (enumD xs).length = xs.length := by unfold enumD; rw [List.length_map, List.length_range]
/-- a tuple just made -/
theorem Wd.newTup {w : Wd} (ok : w.Ok K) {T : Addr} (hT : w.H T = none) {ds : List D} {vs : List V} (r : RVs K w.P ds vs) :
    ∃ w2 : Wd, w2.H = upd w.H T (.tup vs) ∧ w2.g = w.g ∧ w.Ext w2 ∧ w2.Ok K ∧ RV K w2.P (.tup ds) (.ref T) :=
  ⟨⟨w.M, w.g, upd w.P T (.tup vs), upd w.H T (.tup vs)⟩, rfl, rfl, (w.pext ok (.new1 ok.sub hT)).1, (w.pext ok (.new1 ok.sub hT)).2, .tup (SqT.of upd_same) (RVs.mono (PExt.new1 ok.sub hT).sP r)⟩
theorem di_enumL {elts : List Expr} {kk : Nat} {tpos : Pos} {l : Expr} {m : DE} {p pos : Pos} (hm : X.mg "enumerate" = none) (hl : PE X l (T (bk X) W m)) (hg : Gl X "enumerate" := by rfl) (hs : starEach [l] X.env = [(false, eval l X.env)] := by rfl) :
    PI X (.Tuple elts kk tpos) (.Call (.Name "enumerate" p) [l] [] pos) (TIt (bk X) W (iEnumL m)) := by
  refine PI.imp (pi_enum hg hm (pa_cons hl pa_nil hs) hs) fun σ H R ⟨w, fr, eH, ok, f, h⟩ => ?_
  subst eH
  refine ⟨w, fr, rfl, ok, f, ?_⟩
  unfold iEnumL at h
  cases q : m fr w.g with
  | bad => rw [q] at h; exact h.elim
  | exc e g => rw [q] at h; exact h
  | ok x g =>
    rw [q] at h
    intro w1 eg e1 o1 v r
    subst eg
    split at h
    · rename_i xs g1 e
      cases e
      have r' : RV (bk X) w1.P (.lst xs) v := r
      cases r' with
      | lst hs rs =>
        refine ⟨_, _, rfl, .inl (Same.rd o1.sub hs), h w1 rfl e1 o1 _ fun w2 e2 o2 _ => ⟨fun i d hd => ?_, ?_⟩⟩
        · obtain ⟨y, hy, rfl⟩ := enumD_get hd
          have rs2 := RVs.mono e2.P rs
          have hs2 := Same.rd o2.sub (Same.rd e2.P hs)
          obtain ⟨u, hu, ru⟩ := rs2.get hy
          refine ⟨⟨_, u, .inl hs2, hu⟩, fun z H' ⟨T, y', ez, hT, eH, hy'⟩ => ?_⟩
          have hyu := hy' _ (.inl hs2)
          rw [hu] at hyu
          cases hyu
          obtain ⟨w3, h3, g3, x3, o3, r3⟩ := w2.newTup o2 hT (.cons .int (.cons ru .nil))
          exact ⟨w3, h3.trans eH.symm, g3, x3, o3, by rw [ez]; exact r3⟩
        · exact ⟨_, .inl (Same.rd o2.sub (Same.rd e2.P hs)), by rw [enumD_len, rs.length]; exact Nat.le_refl _⟩
    · rename_i e; cases e
    · exact h.elim
/-- zip of two lists, or of two tuples -/
def zipD (xs ys : List D) : List D := (List.range (min xs.length ys.length)).map fun i => .tup [xs.getD i .non, ys.getD i .non]
theorem zipD_get {xs ys : List D} {i : Nat} {d : D} (h : (zipD xs ys)[i]? = some d) : ∃ x y, xs[i]? = some x ∧ ys[i]? = some y ∧ d = .tup [x, y] := by
  unfold zipD at h
  rw [List.getElem?_map] at h
  cases q : (List.range (min xs.length ys.length))[i]? with
  | none => rw [q] at h; cases h
  | some j =>
    have hj := List.getElem?_eq_some_iff.mp q
    have hi : i < min xs.length ys.length := by simpa using hj.1
    rw [List.getElem?_range hi] at h
    cases h
    have h1 : i < xs.length := by omega
    have h2 : i < ys.length := by omega
    exact ⟨xs[i], ys[i], List.getElem?_eq_getElem h1, List.getElem?_eq_getElem h2, by show D.tup [xs.getD i .non, ys.getD i .non] = _; rw [List.getD_eq_getElem?_getD, List.getElem?_eq_getElem h1, List.getD_eq_getElem?_getD, List.getElem?_eq_getElem h2]; rfl⟩
theorem zipD_len (xs ys : List D) : (zipD xs ys).length = min xs.length ys.length := by unfold zipD; rw [List.length_map, List.length_range]
def iZip (a : DA) : DI := fun fr g => match a fr g with
  | .ok [.v (.lst xs), .v (.lst ys)] g1 => .ok (zipD xs ys) none g1
  | .ok [.v (.tup xs), .v (.tup ys)] g1 => .ok (zipD xs ys) none g1
  | .exc e g1 => .exc e g1
  | _ => .bad
theorem RLs.two' {w : Wd} {x y : LV} {vs : List V} (h : RLs K w [x, y] vs) : ∃ v u, vs = [v, u] ∧ RL K w x v ∧ RL K w y u := h.two
theorem di_zip {elts : List Expr} {kk : Nat} {tpos : Pos} {e e2 : Expr} {ma : DA} {p pos : Pos} (hm : X.mg "zip" = none) (ha : PA X [e, e2] (TA' (bk X) W ma)) (hg : Gl X "zip" := by rfl)
    (hs : starEach [e, e2] X.env = (false, eval e X.env) :: starEach [e2] X.env := by rfl) (hpl : (backTo pos (starEach [e2] X.env)).any (·.1) = false := by rfl) :
    PI X (.Tuple elts kk tpos) (.Call (.Name "zip" p) [e, e2] [] pos) (TIt (bk X) W (iZip ma)) := by
  refine PI.imp (RZ.pi_zipA hg hm ha hs hpl) fun σ H R ⟨w, fr, eH, ok, f, h⟩ => ?_
  subst eH
  refine ⟨w, fr, rfl, ok, f, ?_⟩
  unfold iZip at h
  cases q : ma fr w.g with
  | bad => rw [q] at h; exact h.elim
  | exc e g => rw [q] at h; exact h
  | ok xs g =>
    rw [q] at h
    intro w1 eg e1 o1 vs r
    subst eg
    split at h
    · rename_i xs ys g1 e
      cases e
      obtain ⟨v, u, rfl, rv, ru⟩ := r.two
      have rv' : RV (bk X) w1.P (.lst xs) v := rv
      have ru' : RV (bk X) w1.P (.lst ys) u := ru
      cases rv' with
      | lst hs1 rs1 => cases ru' with
        | lst hs2 rs2 =>
          refine ⟨_, _, _, _, rfl, .inl ⟨.inl (Same.rd o1.sub hs1), .inl (Same.rd o1.sub hs2), h w1 rfl e1 o1 _ fun w2 e2 o2 _ => ⟨fun i d hd => ?_, ?_⟩⟩⟩
          · obtain ⟨x, y, hx, hy, rfl⟩ := zipD_get hd
            obtain ⟨a, ha, ra⟩ := (RVs.mono e2.P rs1).get hx
            obtain ⟨b, hb, rb⟩ := (RVs.mono e2.P rs2).get hy
            have q1 := Same.rd o2.sub (Same.rd e2.P hs1)
            have q2 := Same.rd o2.sub (Same.rd e2.P hs2)
            refine ⟨⟨_, _, a, b, .inl q1, .inl q2, ha, hb⟩, fun z H' ⟨T, x', y', ez, hT, eH, hx', hy'⟩ => ?_⟩
            have z1 := hx' _ (.inl q1)
            have z2 := hy' _ (.inl q2)
            rw [ha] at z1
            rw [hb] at z2
            cases z1
            cases z2
            obtain ⟨w3, h3, g3, x3, o3, r3⟩ := w2.newTup o2 hT (.cons ra (.cons rb .nil))
            exact ⟨w3, h3.trans eH.symm, g3, x3, o3, by rw [ez]; exact r3⟩
          · refine ⟨_, _, .inl (Same.rd o2.sub (Same.rd e2.P hs1)), .inl (Same.rd o2.sub (Same.rd e2.P hs2)), ?_⟩
            rw [zipD_len, rs1.length, rs2.length]
            omega
    · rename_i xs ys g1 e
      cases e
      obtain ⟨v, u, rfl, rv, ru⟩ := r.two
      have rv' : RV (bk X) w1.P (.tup xs) v := rv
      have ru' : RV (bk X) w1.P (.tup ys) u := ru
      cases rv' with
      | tup hs1 rs1 => cases ru' with
        | tup hs2 rs2 =>
          refine ⟨_, _, _, _, rfl, .inr ⟨Same.seqT o1.sub hs1, Same.seqT o1.sub hs2, h w1 rfl e1 o1 _ fun w2 e2 o2 _ => ⟨fun i d hd => ?_, ?_⟩⟩⟩
          · obtain ⟨x, y, hx, hy, rfl⟩ := zipD_get hd
            obtain ⟨a, ha, ra⟩ := (RVs.mono e2.P rs1).get hx
            obtain ⟨b, hb, rb⟩ := (RVs.mono e2.P rs2).get hy
            have q1 := Same.seqT o2.sub (Same.seqT e2.P hs1)
            have q2 := Same.seqT o2.sub (Same.seqT e2.P hs2)
            refine ⟨⟨_, _, a, b, q1, q2, ha, hb⟩, fun z H' ⟨T, x', y', ez, hT, eH, hx', hy'⟩ => ?_⟩
            have z1 := hx' _ q1
            have z2 := hy' _ q2
            rw [ha] at z1
            rw [hb] at z2
            cases z1
            cases z2
            obtain ⟨w3, h3, g3, x3, o3, r3⟩ := w2.newTup o2 hT (.cons ra (.cons rb .nil))
            exact ⟨w3, h3.trans eH.symm, g3, x3, o3, by rw [ez]; exact r3⟩
          · refine ⟨_, _, Same.seqT o2.sub (Same.seqT e2.P hs1), Same.seqT o2.sub (Same.seqT e2.P hs2), ?_⟩
            rw [zipD_len, rs1.length, rs2.length]
            omega
    · rename_i e; cases e
    · exact h.elim
abbrev WF : WX := fun _ _ _ _ => False
def wipeF (fr : Fr) : List Nat → Fr
  | [] => fr
  | v :: vs => (wipeF fr vs).set v none
theorem FrOk.unset {w : Wd} {fr : Fr} {σ : L2.St} (h : FrOk K w fr σ) (i : Nat) : FrOk K w (fr.set i none) (σ.set i none) := by
  refine ⟨by simp [h.len], fun j y q => ?_⟩
  by_cases e : i = j
  · subst e
    by_cases hi : i < fr.length
    · rw [List.getElem?_set_self hi] at q; cases q
    · rw [List.getElem?_eq_none (by simpa using hi)] at q; cases q
  · rw [List.getElem?_set_ne e] at q
    obtain ⟨u, h1, h2⟩ := h.get j y q
    exact ⟨u, by rw [List.getElem?_set_ne e]; exact h1, h2⟩
theorem FrOk.wipe {w : Wd} {fr : Fr} {σ : L2.St} (h : FrOk K w fr σ) : ∀ vs : List Nat, FrOk K w (wipeF fr vs) (L2.wipe σ vs)
  | [] => h
  | v :: vs => (FrOk.wipe h vs).unset v
inductive LRes where
  | ok (xs : List D) (g : GH) | bad
def LRes.cons (d : D) : LRes → LRes
  | .ok xs g => .ok (d :: xs) g
  | .bad => .bad
open Classical in
noncomputable def lcGo (gd : Option Nat) (items : List D) (t : DG) (c m : DE) (fr : Fr) : List D → GH → LRes
  | [], g => if gdOk gd items g then .ok [] g else .bad
  | d :: ds, g => if gdOk gd items g then (match t d fr with
      | some fr1 => (match c fr1 g with
          | .ok (.v (.bl b)) g1 => if b = true then (match m fr1 g1 with
              | .ok x g2 => (match take1 g2 x with
                  | some (d', g3) => (lcGo gd items t c m fr ds g3).cons d'
                  | none => .bad)
              | _ => .bad) else lcGo gd items t c m fr ds g1
          | _ => .bad)
      | none => .bad) else .bad
noncomputable def mLC (it : DI) (vs : List Nat) (t : DG) (c m : DE) : DE := fun fr g => match it fr g with
  | .ok items gd g1 => (match lcGo gd items t c m (wipeF fr vs) items g1 with
      | .ok xs g2 => if xs.length ≤ sizeLine then .ok (.v (.lst xs)) g2 else .bad
      | .bad => .bad)
  | .exc e g1 => .exc e g1
  | .bad => .bad
theorem PTs.imp {X : Cx} {e : List Expr} {t t' : TT} (h : PTs X e t) (i : ∀ σ H Q, t' σ H Q → t σ H Q) : PTs X e t' := ⟨fun pins s σ H Q I q => h.run pins s σ H Q I (i _ _ _ q)⟩
theorem dts_nil : PTs X [] (TB K W (mC (.bl true))) := PTs.imp pts_nil fun σ H Q ⟨w, fr, e, ok, f, h⟩ => by
  subst e
  obtain ⟨b, e, q⟩ := h w rfl (.refl w) ok (.bl true) RV.bl
  cases e
  exact q
theorem dts_one {c : Expr} {mc : DE} (h : PT X c (TB K W mc)) : PTs X [c] (TB K W mc) := pts_one h
/-- a world beside which a thing at D stands that is no one's -/
structure Aside (w : Wd) (D : Addr) (o : HO) : Prop where
  at_ : w.H D = some o
  noP : w.P D = none
  noM : ∀ k, k < w.g.n → (w.g.get k).live = true → w.M k ≠ D
theorem Aside.ext {w w' : Wd} {D : Addr} {o : HO} (a : Aside w D o) (e : w.Ext w') : Aside w' D o := by
  refine ⟨e.out D o a.at_ a.noM, ?_, fun k hk hl z => ?_⟩
  · cases q : w'.P D with
    | none => rfl
    | some u =>
      rcases e.new D u q with z | z | ⟨k, hk, hl, hm⟩
      · rw [a.noP] at z; cases z
      · rw [a.at_] at z; cases z
      · exact absurd hm (a.noM k hk hl)
  · by_cases hkn : k < w.g.n
    · exact a.noM k hkn (e.live hkn hl) ((e.M k hkn).symm.trans z)
    · have q := e.fresh k (Nat.le_of_not_lt hkn) hk hl
      rw [z, a.at_] at q
      cases q
/-- .. is written -/
theorem Aside.put {w0 w : Wd} {D : Addr} {o o' : HO} (a : Aside w D o) (ok : w.Ok K) (e : w0.Ext w) (h0 : w0.H D = none) :
    (⟨w.M, w.g, w.P, upd w.H D o'⟩ : Wd).Ok K ∧ w0.Ext ⟨w.M, w.g, w.P, upd w.H D o'⟩ ∧ Aside ⟨w.M, w.g, w.P, upd w.H D o'⟩ D o' := by
  have neP : ∀ b u, w.P b = some u → b ≠ D := fun b u q z => by rw [z, a.noP] at q; cases q
  refine ⟨⟨fun b u q => ?_, ok.off, ok.inj, fun k hk hl => ?_⟩, ⟨e.le, e.M, e.P, e.new, fun b u q hn => ?_, e.dead, e.fresh, fun b q => ?_⟩, ⟨upd_same, a.noP, a.noM⟩⟩
  · show upd w.H D o' b = some u
    rw [upd_ne (neP b u q)]
    exact ok.sub b u q
  · show (∃ o, upd w.H D o' (w.M k) = some o) ∧ GOk K w.P w.M (w.g.get k) (upd w.H D o' (w.M k))
    rw [upd_ne (a.noM k hk hl)]
    exact ok.own k hk hl
  · show upd w.H D o' b = some u
    rw [upd_ne (fun z => by rw [z, h0] at q; cases q)]
    exact e.out b u q hn
  · have q : upd w.H D o' b = none := q
    by_cases hb : b = D
    · subst hb; exact h0
    · rw [upd_ne hb] at q; exact e.dom b q
/-- .. becomes lasting -/
theorem Aside.last {w0 w : Wd} {D : Addr} {o : HO} (a : Aside w D o) (ok : w.Ok K) (e : w0.Ext w) (h0 : w0.H D = none) :
    (⟨w.M, w.g, upd w.P D o, w.H⟩ : Wd).Ok K ∧ w0.Ext ⟨w.M, w.g, upd w.P D o, w.H⟩ ∧ Same w.P (upd w.P D o) := by
  have sP : Same w.P (upd w.P D o) := fun b u q => by rw [upd_ne (ne_of_none q a.noP)]; exact q
  refine ⟨⟨fun b u q => ?_, fun k hk hl => ?_, ok.inj, fun k hk hl => ⟨(ok.own k hk hl).1, (ok.own k hk hl).2.mono sP⟩⟩, ⟨e.le, e.M, e.P.trans sP, fun b u q => ?_, e.out, e.dead, e.fresh, e.dom⟩, sP⟩
  · have q : upd w.P D o b = some u := q
    by_cases hb : b = D
    · subst hb; rw [upd_same] at q; cases q; exact a.at_
    · rw [upd_ne hb] at q; exact ok.sub b u q
  · show upd w.P D o (w.M k) = none
    rw [upd_ne (a.noM k hk hl)]
    exact ok.off k hk hl
  · have q : upd w.P D o b = some u := q
    by_cases hb : b = D
    · subst hb; exact .inr (.inl h0)
    · rw [upd_ne hb] at q; exact e.new b u q
theorem SameBut.of_wipe (σ : L2.St) (vs : List Nat) : SameBut vs σ (L2.wipe σ vs) := ⟨wipe_length σ vs, fun _ hj => wipe_out hj⟩
theorem T.lc {vs : List Nat} {mi : DI} {t : DG} {sl : List Nat} {mc me : DE} (hsl : ∀ j, j ∈ sl → j ∈ vs) {σ : L2.St} {H : Hp} {Q : VK} (h : T K W (mLC mi vs t mc me) σ H Q) : tLc (TIt K W mi) (TGd K t sl) (TB K WF mc) (T K WF me) vs σ H Q := by
  obtain ⟨w, fr, eH, okw, f, h⟩ := h
  subst eH
  refine ⟨w, fr, rfl, okw, f, ?_⟩
  unfold mLC at h
  cases q0 : mi fr w.g with
  | bad => rw [q0] at h; exact h.elim
  | exc e g => rw [q0] at h; exact h
  | ok items gd g =>
    rw [q0] at h
    intro w1 eg e1 o1 J hJ Dd hD
    subst eg
    have f1 := (f.mono e1).wipe vs
    have h : Fin K W w σ (match lcGo gd items t mc me (wipeF fr vs) items w1.g with | .ok xs g2 => if xs.length ≤ sizeLine then .ok (.v (.lst xs)) g2 else .bad | .bad => .bad) Q := h
    cases q1 : lcGo gd items t mc me (wipeF fr vs) items w1.g with
    | bad => rw [q1] at h; exact h.elim
    | ok xs gE =>
      rw [q1] at h
      by_cases hz : xs.length ≤ sizeLine
      · simp only [if_pos hz] at h
        have hP1 : w1.P Dd = none := by
          cases q : w1.P Dd with
          | none => rfl
          | some u => rw [o1.sub _ _ q] at hD; cases hD
        have pe := PExt.junk (o := HO.lst []) o1.sub hD
        refine ⟨fun i m H => ∃ (w2 : Wd) (acc rest : List D) (va : List V), w2.H = H ∧ w1.Ext w2 ∧ w2.Ok K ∧ Aside w2 Dd (.lst va) ∧ RVs K w2.P acc va ∧ m = items.length - i ∧ i ≤ items.length ∧ lcGo gd items t mc me (wipeF fr vs) (items.drop i) w2.g = .ok rest gE ∧ xs = acc ++ rest,
          ⟨items.length, ⟨w1.M, w1.g, w1.P, upd w1.H Dd (.lst [])⟩, [], xs, [], rfl, (w1.pext o1 pe).1, (w1.pext o1 pe).2, ⟨upd_same, hP1, fun k hk hl z => ?_⟩, .nil, rfl, Nat.zero_le _, q1, rfl⟩, ?_⟩
        · obtain ⟨u, hu⟩ := o1.there hk hl
          have z : w1.M k = Dd := z
          rw [z, hD] at hu
          cases hu
        · rintro i m H2 ⟨w2, acc, rest, va, rfl, e2, o2, a2, ra, rfl, hil, h2, hx⟩
          by_cases hlt : i < items.length
          · right
            rw [List.drop_eq_getElem_cons hlt] at h2
            unfold lcGo at h2
            by_cases hgd : gdOk gd items w2.g
            · rw [if_pos hgd] at h2
              obtain ⟨go, yl⟩ := (hJ w2 e2 o2 hgd).1 i items[i] (List.getElem?_eq_getElem hlt)
              cases q2 : t items[i] (wipeF fr vs) with
              | none => rw [q2] at h2; cases h2
              | some fr1 =>
                simp only [q2] at h2
                refine ⟨go, fun H' => ∃ m', m' < items.length - i ∧ ∃ (w2 : Wd) (acc rest : List D) (va : List V), w2.H = H' ∧ w1.Ext w2 ∧ w2.Ok K ∧ Aside w2 Dd (.lst va) ∧ RVs K w2.P acc va ∧ m' = items.length - (i + 1) ∧ i + 1 ≤ items.length ∧ lcGo gd items t mc me (wipeF fr vs) (items.drop (i + 1)) w2.g = .ok rest gE ∧ xs = acc ++ rest, fun H' z => z, fun x H' y => ?_⟩
                obtain ⟨w3, rfl, g3, e3, o3, r3⟩ := yl x H' y
                have f3 := ((f.mono e1).mono (e2.trans e3)).wipe vs
                refine ⟨w3, _, fr1, _, rfl, o3, f3, r3, q2, fun w3' σ' g3' e3' o3' f' sb => ⟨(sb.wipe hsl).trans ((SameBut.of_wipe σ vs).wipe fun _ z => z), ?_⟩⟩
                have g3 : w3'.g = w2.g := g3'.trans g3
                have e3 : w2.Ext w3' := e3.trans e3'
                have a3 := a2.ext e3
                rw [← g3] at h2
                refine ⟨w3', fr1, rfl, o3', f', ?_⟩
                cases q3 : mc fr1 w3'.g with
                | bad => rw [q3] at h2; cases h2
                | exc e g => rw [q3] at h2; cases h2
                | ok x g4 =>
                  rw [q3] at h2
                  intro w4 eg4 e4 o4 v4 r4
                  subst eg4
                  cases x with
                  | r k => cases h2
                  | v d =>
                    cases d with
                    | bl b =>
                      refine ⟨b, r4.is_bl, ?_⟩
                      have a4 := a3.ext e4
                      have x4 := (e2.trans e3).trans e4
                      cases b with
                      | false =>
                        simp only [Bool.false_eq_true, if_false] at h2 ⊢
                        exact ⟨_, by omega, w4, acc, rest, va, rfl, x4, o4, a4, RVs.mono e4.P (RVs.mono e3.P ra), rfl, hlt, h2, hx⟩
                      | true =>
                        simp only [if_true] at h2 ⊢
                        refine ⟨w4, fr1, rfl, o4, f'.mono e4, ?_⟩
                        cases q5 : me fr1 w4.g with
                        | bad => rw [q5] at h2; cases h2
                        | exc e g => rw [q5] at h2; cases h2
                        | ok y5 g5 =>
                          rw [q5] at h2
                          intro w5 eg5 e5 o5 v5 r5
                          subst eg5
                          cases q6 : take1 w5.g y5 with
                          | none => simp only [q6] at h2; cases h2
                          | some p =>
                            obtain ⟨d', g6⟩ := p
                            simp only [q6] at h2
                            obtain ⟨w6, eg6, h6, e6, o6, r6⟩ := Wd.take1 o5 r5 q6
                            subst eg6
                            have x6 := (x4.trans e5).trans e6
                            have a6 := (a4.ext e5).ext e6
                            have ra6 : RVs K w6.P acc va := RVs.mono e6.P (RVs.mono e5.P (RVs.mono e4.P (RVs.mono e3.P ra)))
                            cases q7 : lcGo gd items t mc me (wipeF fr vs) (items.drop (i + 1)) w6.g with
                            | bad => rw [q7] at h2; cases h2
                            | ok rest' g7 =>
                              rw [q7] at h2
                              cases h2
                              have hlen : va.length < sizeLine := by
                                rw [← ra6.length]
                                have := congrArg List.length hx
                                rw [List.length_append, List.length_cons] at this
                                omega
                              obtain ⟨p1, p2, p3⟩ := Aside.put (o' := .lst (va ++ [v5])) a6 o6 x6 hD
                              rw [← h6]
                              exact ⟨va, a6.at_, hlen, _, by omega, _, acc ++ [d'], rest', va ++ [v5], rfl, p2, p1, p3, ra6.append (.cons r6 .nil), rfl, hlt, q7, by rw [hx, List.append_assoc]; rfl⟩
                    | _ => cases h2
            · rw [if_neg hgd] at h2; cases h2
          · left
            have hie : i = items.length := by omega
            subst hie
            rw [List.drop_length] at h2
            unfold lcGo at h2
            by_cases hgd : gdOk gd items w2.g
            · rw [if_pos hgd] at h2
              cases h2
              rw [List.append_nil] at hx
              subst hx
              obtain ⟨p1, p2, p3⟩ := a2.last o2 e2 hD
              exact ⟨(hJ w2 e2 o2 hgd).2, h ⟨w2.M, w2.g, upd w2.P Dd (.lst va), w2.H⟩ rfl (e1.trans p2) p1 _ (.lst (.inl upd_same) (RVs.mono p3 ra))⟩
            · rw [if_neg hgd] at h2; cases h2
      · simp only [if_neg hz] at h; exact h.elim
theorem de_lc {elt tg iter : Expr} {ifs : List Expr} {scope : Scope} {own : List (Str × Nat)} {pos : Pos} {mi : DI} {t : DG} {sl : List Nat} {mc me : DE} (hN : X.N.Nodup) (hi : PI X tg iter (TIt K W mi)) (ok : BlkOk X.N X.env.scope scope own)
    (hg : ∀ (s : Shared) (H : Hp) (C : Addr) (cl : List (Str × Addr)) (fp : List Addr), PG (X.blk s H scope (compEnvC scope cl C X.env) fp) tg (TGd K t sl)) (ht : ∀ (s : Shared) (H : Hp) (C : Addr) (cl : List (Str × Addr)) (fp : List Addr), PTs (X.blk s H scope (compEnvC scope cl C X.env) fp) ifs (TB K WF mc))
    (he : ∀ (s : Shared) (H : Hp) (C : Addr) (cl : List (Str × Addr)) (fp : List Addr), PE (X.blk s H scope (compEnvC scope cl C X.env) fp) elt (T K WF me)) (hsl : ∀ j, j ∈ sl → j ∈ own.map (·.2) := by decide) (hc : X.calm = true := by rfl) (hs : ∀ x, foldedSetIterable iter X.env x = pure x := by intro _; rfl) :
    PE X (.ListComp elt [⟨tg, iter, ifs, 0⟩] scope pos) (T K W (mLC mi (own.map (·.2)) t mc me)) :=
  PE.imp (pe_lc hc hN hi ok hg ht he hs) fun σ H Q h => T.lc hsl h
theorem ds_setLc {elt tg iter : Expr} {ifs : List Expr} {scope : Scope} {own : List (Str × Nat)} {pos : Pos} {mi : DI} {t : DG} {sl : List Nat} {mc me : DE} {y : Str} {py spos : Pos} (i : Nat) (hN : X.N.Nodup) (hi : PI X tg iter (TIt K W mi)) (ok : BlkOk X.N X.env.scope scope own)
    (hg : ∀ (s : Shared) (H : Hp) (C : Addr) (cl : List (Str × Addr)) (fp : List Addr), PG (X.blk s H scope (compEnvC scope cl C X.env) fp) tg (TGd K t sl)) (ht : ∀ (s : Shared) (H : Hp) (C : Addr) (cl : List (Str × Addr)) (fp : List Addr), PTs (X.blk s H scope (compEnvC scope cl C X.env) fp) ifs (TB K WF mc))
    (he : ∀ (s : Shared) (H : Hp) (C : Addr) (cl : List (Str × Addr)) (fp : List Addr), PE (X.blk s H scope (compEnvC scope cl C X.env) fp) elt (T K WF me)) (hsl : ∀ j, j ∈ sl → j ∈ own.map (·.2) := by decide) (hc : X.calm = true := by rfl) (hs : ∀ x, foldedSetIterable iter X.env x = pure x := by intro _; rfl)  (hy : X.N[i]? = some y := by rfl) (hyl : X.env.scope.names.lookup y = some .local := by rfl) (hk : X.env.scope.kind = .function := by rfl) (hl : (py.line == pos.line) = true := by rfl)
    (hna : (scope.names.any fun (n, k) => n == y && (k == .local || k == .cell)) = false := by decide +kernel) :
    PS X (.Assign [.Name y py] (.ListComp elt [⟨tg, iter, ifs, 0⟩] scope pos) spos) (TD K W (sSet i (mLC mi (own.map (·.2)) t mc me))) := by
  refine PS.imp (ps_setLc hc hN hy hyl (sw_true hk hyl hl hna) hi ok hg ht he hs) fun D σ H ⟨w, fr, eH, ok, f, h⟩ => ?_
  subst eH
  exact T.lc hsl ⟨w, fr, rfl, ok, f, FinS.toS f h fun x w1 v e1 o1 f1 r1 h1 => h1 w1 rfl (.refl _) o1 _ (f1.set r1 i)⟩
end
end Dn
namespace Dn
open PySem PySem.Spec PyProof.Rows L2
abbrev Den := List LV → GH → Res
section
variable {K : Bk} {W : WX} {X : Cx}
theorem RLs.frame {w : Wd} {n : Nat} {xs : List LV} {vs : List V} (r : RLs K w xs vs) : FrOk K w (xs.map some ++ List.replicate (n - xs.length) none) (vs.map some ++ List.replicate (n - vs.length) none) := by
  have hl := r.length
  have get : ∀ (xs : List LV) (vs : List V), RLs K w xs vs → ∀ (i : Nat) (x : LV), xs[i]? = some x → ∃ v, vs[i]? = some v ∧ RL K w x v := by
    intro xs vs r
    induction r with
    | nil => intro i x e; simp at e
    | cons r t ih =>
      intro i x e
      cases i with
      | zero => simp at e; subst e; exact ⟨_, rfl, r⟩
      | succ i =>
        obtain ⟨v, h1, h2⟩ := ih i x (by simpa using e)
        exact ⟨v, by simpa using h1, h2⟩
  refine ⟨by simp [hl], fun i x q => ?_⟩
  by_cases hi : i < xs.length
  · rw [List.getElem?_append_left (by simpa using hi), List.getElem?_map] at q
    cases e : xs[i]? with
    | none => rw [e] at q; cases q
    | some d =>
      rw [e] at q
      cases q
      obtain ⟨v, hv, rv⟩ := get xs vs r i _ e
      refine ⟨v, ?_, rv⟩
      rw [List.getElem?_append_left (by rw [List.length_map, ← hl]; exact hi), List.getElem?_map, hv]
      rfl
  · rw [List.getElem?_append_right (by simpa using Nat.le_of_not_lt hi), List.getElem?_replicate] at q
    split at q <;> cases q
/-- a def by its body, over the objects that stand -/
def runI (n : Nat) (s : DS) : Den := fun xs g => match s (xs.map some ++ List.replicate (n - xs.length) none) g with
  | .rt x g => .ok x g
  | .nx _ g => .ok (.v .non) g
  | .exc e _ g => .exc e g
  | _ => .bad
def spI (K : Bk) (n : Nat) (den : Den) : Sp := fun vs H Q E => vs.length = n ∧ ∃ (w : Wd) (xs : List LV), w.H = H ∧ w.Ok K ∧ RLs K w xs vs ∧ (match den xs w.g with
  | .ok x g => ∀ w', w'.g = g → w.Ext w' → w'.Ok K → ∀ v, RL K w' x v → Q v w'.H
  | .exc e g => ∀ w', w'.g = g → w.Ext w' → w'.Ok K → ∀ C dd, EOk K w.H w' e C dd → E C dd w'.H
  | .bad => False)
theorem fn_imp {P : Program} {w : World} {base : Heap} {x qual : Str} {st : Stmt} {f : Addr} {fd : FuncData} {N ps : List Str} {k : Nat} {s : DS} (F : Fun K.K x qual st f fd) (S : FnScope N ps (defScope st))
    (hbody : ∀ (cdv : Value) (A : Around) (outer : List Env) (s0 : Shared) (H : Hp) (E : XK), Room k (A.deeper (envOfC qual (defScope st) s0.heap.objs.size f cdv)) →
      PSs (cxOf (L2.CX P w) P w K.K K.mg base N qual (defScope st) f cdv A outer s0 H E) (defBody st) (TD K (fun C dd _ H => E C dd H) s)) :
    FnOk P w K.K K.mg base (L2.CX P w) (k + 1) f fd ps (spI K ps.length (runI N.length s)) := by
  refine F.okX S (fun vs H Q E h => h.1) fun cdv A outer s0 H vs Q E hr ⟨hl, w0, xs, eH, ok, rv, h⟩ => ⟨_, hbody cdv A outer s0 H E hr, ?_⟩
  refine ⟨w0, _, eH, ok, RLs.frame (n := N.length) rv, ?_⟩
  unfold runI at h
  cases q : s (xs.map some ++ List.replicate (N.length - xs.length) none) w0.g with
  | nx fr g => rw [q] at h; exact fun w1 eg e o σ f => h w1 eg e o .non RV.non
  | rt y g => rw [q] at h; exact fun w1 eg e o v r => h w1 eg e o v r
  | exc y fr g => rw [q] at h; exact fun w1 eg e o σ f C dd z => h w1 eg e o C dd z
  | bk fr g => rw [q] at h; exact h.elim
  | ct fr g => rw [q] at h; exact h.elim
  | bad => rw [q] at h; exact h.elim
def mCallI (n : Nat) (den : Den) (a : DA) : DE := fun fr g => (a fr g).bind fun xs g1 => if xs.length = n then den xs g1 else .bad
theorem T.callI {n : Nat} {den : Den} {ma : DA} {σ : L2.St} {H : Hp} {Q : VK} (h : T K W (mCallI n den ma) σ H Q) : TA' K W ma σ H fun vs H1 => spI K n den vs H1 Q (WE W σ) := by
  obtain ⟨w, fr, rfl, ok, f, h⟩ := h
  refine ⟨w, fr, rfl, ok, f, FinA.bind h fun xs w1 vs e1 o1 r1 h => ?_⟩
  by_cases hn : xs.length = n
  · rw [if_pos hn] at h
    refine ⟨by rw [← r1.length]; exact hn, w1, xs, rfl, o1, r1, ?_⟩
    cases q : den xs w1.g with
    | ok x g => rw [q] at h; exact h
    | exc e g => rw [q] at h; exact h
    | bad => rw [q] at h; exact h
  · rw [if_neg hn] at h; exact h.elim
theorem de_callI {k n : Nat} {x : Str} {ps : List Str} {den : Den} {p pos : Pos} {e : Expr} {es : List Expr} {ma : DA} (G : Df X.prog X.w K X.base k x ps (spI K n den)) (hr : Room k X.A) (tk : Takes X W) (hK : bk X = K)
    (ha : PA X (e :: es) (TA' K W ma)) (hg : Gl X x := by rfl) (hdb : (x == ("__debug__" : Str)) = false := by decide) (he : starEach (e :: es) X.env = (false, eval e X.env) :: starEach es X.env := by rfl) (hpl : (backTo pos (starEach es X.env)).any (·.1) = false := by rfl) :
    PE X (.Call (.Name x p) (e :: es) [] pos) (T K W (mCallI n den ma)) := by
  subst hK
  obtain ⟨f, fd, hm, hk, hb, F⟩ := G
  exact PE.imp (pe_callS F hr hg hm hk hb (fun σ => passAt tk σ) ha hdb he hpl) fun σ H Q h => T.callI h
def DfK (P : Program) (w : World) (K : Bk) (base : Heap) (k n : Nat) (ks : List Str) (x : Str) (ps : List Str) (sp : Sp) : Prop :=
  ∃ (f : Addr) (fd : FuncData), K.mg x = some (.ref f) ∧ PySem.W.keepIn K.K (.ref f) = true ∧ KBn K.K fd ps n ks (fun us ws => us ++ ws) (fun us ws => us ++ ws) ∧ FnOk P w K.K K.mg base (L2.CX P w) k f fd ps sp
theorem PK.imp {kws : List Keyword} {t t' : TA} (h : PK X kws t) (i : ∀ σ H Q, t' σ H Q → t σ H Q) : PK X kws t' := ⟨fun pos pins s σ H Q I q => h.run pos pins s σ H Q I (i _ _ _ q)⟩
theorem dk_nil : PK X [] (TA' K W aNil) := PK.imp pk_nil fun σ H Q ⟨w, fr, e, ok, f, h⟩ => by
  subst e
  exact h w rfl (.refl w) ok [] .nil
theorem dk_cons {e : Expr} {nm : Option Str} {kpos : Pos} {kws : List Keyword} {ma : DE} {mb : DA} (ha : PE X e (T K W ma)) (hr : PK X kws (TA' K W mb)) : PK X (⟨nm, e, kpos⟩ :: kws) (TA' K W (aCons ma mb)) := by
  refine PK.imp (pk_cons ha hr) fun σ H Q ⟨w, fr, e, ok, f, h⟩ => ?_
  subst e
  exact ⟨w, fr, rfl, ok, f, Fin.bindA h fun x w1 v e1 o1 r1 h1 => ⟨w1, fr, rfl, o1, f.mono e1, FinA.bindA h1 fun xs w2 vs e2 o2 r2 h2 => h2 w2 rfl (.refl w2) o2 (v :: vs) (.cons (r1.mono e2) r2)⟩⟩
def tCallKS (n m : Nat) (sp : Sp) (E : L2.St → XK) (t tk : TA) : TE := fun σ H Q => t σ H fun vs H1 => tk σ H1 fun zs H2 => vs.length = n ∧ zs.length = m ∧ sp (vs ++ zs) H2 Q (E σ)
theorem pe_callKS {CX : CXT} {k n : Nat} {f : Addr} {fd : FuncData} {ps ks : List Str} {sp : Sp} {E : L2.St → XK} {x : Str} {p pos : Pos} {e : Expr} {es : List Expr} {kws : List Keyword} {t tk : TA} (F : FnOk X.prog X.w X.K X.mg X.base CX k f fd ps sp) (hr : Room k X.A) (hg : Gl X x) (hm : X.mg x = some (.ref f)) (hk : PySem.W.keepIn X.K (.ref f) = true)
    (hb : KBn X.K fd ps n ks (fun us ws => us ++ ws) (fun us ws => us ++ ws)) (hx : ∀ σ, PassesAt CX X σ (E σ)) (ha : PA X (e :: es) t) (hkw : PK X kws tk) (hall : (backToKw pos (keywordEach kws X.env)).all (·.1.isSome) = true) (hks : (backToKw pos (keywordEach kws X.env)).filterMap (·.1) = ks)
    (hdb : (x == ("__debug__" : Str)) = false) (he : starEach (e :: es) X.env = (false, eval e X.env) :: starEach es X.env)
    (hpl : ((backTo pos (starEach (e :: es) X.env)).any (·.1) || (backToKw pos (keywordEach kws X.env)).any (·.1.isNone)) = false) :
    PE X (.Call (.Name x p) (e :: es) kws pos) (tCallKS n ks.length sp E t tk) := by
  refine ⟨fun pins s σ H Q I h => wpAny_Call_Name_kw (ld_glob I hg hm ?_ hdb)⟩
  refine PySem.W.callWith_KW (h₀ := X.base) I.ok.mod.kin hk hall (thn (ha.run pos pins s σ H _ I h) fun us s1 ⟨vs, H1, I1, r, q⟩ => ?_) hpl he
  refine thn (hkw.run pos pins s1 σ H1 _ I1 q) fun ws s2 ⟨zs, H2, I2, rz, hl1, hl2, q2⟩ => ⟨I2.kIn, ?_⟩
  rw [hks]
  refine wpAny_call (codeAny_mono (F.run X.A X.stack s2 H2 ⟨us, ks.zip ws⟩ (us ++ ws) (vs ++ zs) Q (E σ) hr I2.env0 (hb.to s2 us ws I2.kIn (by rw [← r.length]; exact hl1) (by rw [← rz.length]; exact hl2)) (r.append rz) q2) fun res s' hq => ?_)
  cases res with
  | error er => exact hx σ pins H2 s2 er s' I2 hq
  | ok fl =>
    cases fl with
    | ret u => exact I2.after hq
    | next => exact False.elim hq
    | brk => exact False.elim hq
    | cont => exact False.elim hq
def aApp (a b : DA) : DA := fun fr g => (a fr g).bindA fun xs g1 => (b fr g1).bindA fun ys g2 => .ok (xs ++ ys) g2
/-- a pure def called with keywords: n by place, m by name -/
def mCallK (n m : Nat) (den : List D → R) (a b : DA) : DE := fun fr g => (a fr g).bind fun xs g1 => (b fr g1).bind fun ys g2 => if xs.length = n ∧ ys.length = m then (match takes g2 (xs ++ ys) with | some (ds, g3) => ofR (den ds) g3 | none => .bad) else .bad
theorem RLs.append {w : Wd} {xs ys : List LV} {vs us : List V} (h : RLs K w xs vs) (q : RLs K w ys us) : RLs K w (xs ++ ys) (vs ++ us) := by
  induction h with
  | nil => exact q
  | cons r _ ih => exact .cons r ih
/-- the end of a call of a pure def -/
theorem Fin.pure {w1 : Wd} {σ : L2.St} {n : Nat} {den : List D → R} {xs : List LV} {vs : List V} {Q : VK} (o1 : w1.Ok K) (r1 : RLs K w1 xs vs) (hn : vs.length = n) (h : Fin K W w1 σ (match takes w1.g xs with | some (ds, g2) => ofR (den ds) g2 | none => .bad) Q) : spD K n den vs w1.H Q (WE W σ) := by
  cases q : takes w1.g xs with
  | none => simp only [q] at h; exact h.elim
  | some p =>
    obtain ⟨ds, g2⟩ := p
    simp only [q] at h
    obtain ⟨w2, e2, h2, x2, o2, r2⟩ := Wd.takes o1 r1 q
    subst e2
    rw [← h2]
    refine ⟨hn, w2.P, ds, o2.sub, r2, ?_⟩
    have h : Fin K W w2 σ (ofR (den ds) w2.g) Q := h.shift x2
    cases q3 : den ds with
    | ok d => rw [q3] at h; exact fun P' H' v pe r => h.data o2 pe r
    | exc e => rw [q3] at h; exact fun P' H' C dd pe z => h ⟨w2.M, w2.g, P', H'⟩ rfl (w2.pext o2 pe).1 (w2.pext o2 pe).2 C dd (z.to rfl rfl)
    | bad => rw [q3] at h; exact h.elim
theorem de_callK {k n : Nat} {ks : List Str} {x : Str} {ps : List Str} {den : List D → R} {p pos : Pos} {e : Expr} {es : List Expr} {kws : List Keyword} {ma mb : DA} (G : DfK X.prog X.w K X.base k n ks x ps (spD K (n + ks.length) den)) (hr : Room k X.A) (tk : Takes X W) (hK : bk X = K)
    (ha : PA X (e :: es) (TA' K W ma)) (hkw : PK X kws (TA' K W mb)) (hall : (backToKw pos (keywordEach kws X.env)).all (·.1.isSome) = true := by rfl) (hks : (backToKw pos (keywordEach kws X.env)).filterMap (·.1) = ks := by rfl) (hg : Gl X x := by rfl)
    (hdb : (x == ("__debug__" : Str)) = false := by decide) (he : starEach (e :: es) X.env = (false, eval e X.env) :: starEach es X.env := by rfl)
    (hpl : ((backTo pos (starEach (e :: es) X.env)).any (·.1) || (backToKw pos (keywordEach kws X.env)).any (·.1.isNone)) = false := by rfl) :
    PE X (.Call (.Name x p) (e :: es) kws pos) (T K W (mCallK n ks.length den ma mb)) := by
  subst hK
  obtain ⟨f, fd, hm, hk, hb, F⟩ := G
  refine PE.imp (pe_callKS F hr hg hm hk hb (fun σ => passAt tk σ) ha hkw hall hks hdb he hpl) fun σ H Q ⟨w, fr, eH, ok, f, h⟩ => ?_
  subst eH
  refine ⟨w, fr, rfl, ok, f, FinA.bind h fun xs w1 vs e1 o1 r1 h => ⟨w1, fr, rfl, o1, f.mono e1, FinA.bind h fun ys w2 us e2 o2 r2 h => ?_⟩⟩
  by_cases hn : xs.length = n ∧ ys.length = ks.length
  · rw [if_pos hn] at h
    have l1 := r1.length
    have l2 := r2.length
    exact ⟨by omega, by omega, Fin.pure o2 ((r1.mono e2).append r2) (by rw [List.length_append]; omega) h⟩
  · rw [if_neg hn] at h; exact h.elim
def DfD (P : Program) (w : World) (K : Bk) (base : Heap) (k : Nat) (dds : List D) (x : Str) (ps : List Str) (sp : Sp) : Prop :=
  ∃ (f : Addr) (fd : FuncData) (dvs : List V) (ds : List Value), K.mg x = some (.ref f) ∧ PySem.W.keepIn K.K (.ref f) = true ∧ (∀ P, RVs K P dds dvs) ∧ Vals dvs ds ∧ Binds K.K fd ps ds ∧ FnOk P w K.K K.mg base (L2.CX P w) k f fd ps sp
def mCallD (n : Nat) (den : List D → R) (a : DA) (dds : List D) : DE := fun fr g => (a fr g).bind fun xs g1 => if xs.length + dds.length = n then (match takes g1 xs with | some (ds, g2) => ofR (den (ds ++ dds)) g2 | none => .bad) else .bad
theorem de_callD {k n : Nat} {dds : List D} {x : Str} {ps : List Str} {den : List D → R} {p pos : Pos} {e : Expr} {es : List Expr} {ma : DA} (G : DfD X.prog X.w K X.base k dds x ps (spD K n den)) (hr : Room k X.A) (tk : Takes X W) (hK : bk X = K)
    (ha : PA X (e :: es) (TA' K W ma)) (hg : Gl X x := by rfl) (hdb : (x == ("__debug__" : Str)) = false := by decide) (he : starEach (e :: es) X.env = (false, eval e X.env) :: starEach es X.env := by rfl) (hpl : (backTo pos (starEach es X.env)).any (·.1) = false := by rfl) :
    PE X (.Call (.Name x p) (e :: es) [] pos) (T K W (mCallD n den ma dds)) := by
  subst hK
  obtain ⟨f, fd, dvs, ds, hm, hk, hdd, hv, hb, F⟩ := G
  refine PE.imp (pe_callSD F hr hg hm hk hb hv (fun σ => passAt tk σ) ha hdb he hpl) fun σ H Q ⟨w, fr, eH, ok, f, h⟩ => ?_
  subst eH
  refine ⟨w, fr, rfl, ok, f, FinA.bind h fun xs w1 vs e1 o1 r1 h => ?_⟩
  by_cases hn : xs.length + dds.length = n
  · rw [if_pos hn] at h
    cases q : takes w1.g xs with
    | none => simp only [q] at h; exact h.elim
    | some p =>
      obtain ⟨ds, g2⟩ := p
      simp only [q] at h
      obtain ⟨w2, e2, h2, x2, o2, r2⟩ := Wd.takes o1 r1 q
      subst e2
      show spD (bk X) n den (vs ++ dvs) w1.H Q (WE W σ)
      rw [← h2]
      have rd := hdd w2.P
      refine ⟨by rw [List.length_append, ← r1.length, ← rd.length]; exact hn, w2.P, _, o2.sub, r2.append rd, ?_⟩
      have h : Fin (bk X) W w2 σ (ofR (den (ds ++ dds)) w2.g) Q := h.shift x2
      cases q3 : den (ds ++ dds) with
      | ok d => rw [q3] at h; exact fun P' H' v pe r => h.data o2 pe r
      | exc e => rw [q3] at h; exact fun P' H' C dd pe z => h ⟨w2.M, w2.g, P', H'⟩ rfl (w2.pext o2 pe).1 (w2.pext o2 pe).2 C dd (z.to rfl rfl)
      | bad => rw [q3] at h; exact h.elim
  · rw [if_neg hn] at h; exact h.elim
theorem Wd.putL {w : Wd} (ok : w.Ok K) {k : Nat} {xs ds : List D} {vs : List V} (hk : k < w.g.n) (q : w.g.get k = .lst xs) (r : RVs K w.P ds vs) :
    ∃ w' : Wd, w'.g = w.g.set k (.lst ds) ∧ w'.H = upd w.H (w.M k) (.lst vs) ∧ w.Ext w' ∧ w'.Ok K := by
  have lv : (w.g.get k).live = true := by rw [q]; rfl
  have off := ok.off k hk lv
  have gs : ∀ i, (w.g.set k (.lst ds)).get i = if i = k then .lst ds else w.g.get i := fun _ => rfl
  have lvs : ∀ i, ((w.g.set k (.lst ds)).get i).live = (w.g.get i).live := fun i => by
    rw [gs]
    by_cases hi : i = k
    · rw [if_pos hi, hi, lv]; rfl
    · rw [if_neg hi]
  have neP : ∀ b u, w.P b = some u → b ≠ w.M k := fun b u e z => by rw [z, off] at e; cases e
  refine ⟨⟨w.M, w.g.set k (.lst ds), w.P, upd w.H (w.M k) (.lst vs)⟩, rfl, rfl, ⟨Nat.le_refl _, fun _ _ => rfl, Same.refl _, fun _ _ h => .inl h, fun a u h hn => ?_, fun i hi hl => ?_, fun i h1 h2 => absurd h2 (Nat.not_lt.mpr h1), fun a h => ?_⟩, ⟨fun a u e => ?_, fun i hi hl => ?_, fun i j hi hj li lj e => ?_, fun i hi hl => ?_⟩⟩
  · show upd w.H (w.M k) (.lst vs) a = some u
    rw [upd_ne (fun z => hn k hk lv z.symm)]
    exact h
  · show ((w.g.set k (.lst ds)).get i).live = false
    rw [lvs]; exact hl
  · have h : upd w.H (w.M k) (.lst vs) a = none := h
    by_cases ha : a = w.M k
    · subst ha; rw [upd_same] at h; cases h
    · rw [upd_ne ha] at h; exact h
  · show upd w.H (w.M k) (.lst vs) a = some u
    rw [upd_ne (neP a u e)]
    exact ok.sub a u e
  · exact ok.off i hi (by rw [← lvs]; exact hl)
  · exact ok.inj i j hi hj (by rw [← lvs]; exact li) (by rw [← lvs]; exact lj) e
  · show (∃ o, upd w.H (w.M k) (.lst vs) (w.M i) = some o) ∧ GOk K w.P w.M ((w.g.set k (.lst ds)).get i) (upd w.H (w.M k) (.lst vs) (w.M i))
    rw [gs]
    by_cases hik : i = k
    · subst hik
      rw [if_pos rfl, upd_same]
      exact ⟨⟨_, rfl⟩, vs, rfl, r⟩
    · rw [if_neg hik, upd_ne (fun z => hik (ok.inj i k hi hk (by rw [← lvs]; exact hl) lv z))]
      exact ok.own i hi (by rw [← lvs]; exact hl)
/-- a local list is met -/
theorem RL.lst {w : Wd} (ok : w.Ok K) {k : Nat} {v : V} (r : RL K w (.r k) v) {xs : List D} (q : w.g.get k = .lst xs) : ∃ vs, v = .ref (w.M k) ∧ k < w.g.n ∧ w.H (w.M k) = some (.lst vs) ∧ RVs K w.P xs vs := by
  obtain ⟨hk, rfl⟩ := r
  obtain ⟨_, h⟩ := ok.own k hk (by rw [q]; rfl)
  rw [q] at h
  obtain ⟨vs, h1, h2⟩ := h
  exact ⟨vs, rfl, hk, h1, h2⟩
def lstAt (g : GH) : LV → Option (Nat × List D)
  | .r k => if k < g.n then (match g.get k with | .lst xs => some (k, xs) | _ => none) else none
  | _ => none
theorem lstAt_some {g : GH} {x : LV} {k : Nat} {xs : List D} (h : lstAt g x = some (k, xs)) : x = .r k ∧ k < g.n ∧ g.get k = .lst xs := by
  cases x with
  | v d => cases h
  | r j =>
    simp only [lstAt] at h
    split at h
    · rename_i hj
      split at h
      · rename_i ys q
        cases h
        exact ⟨rfl, hj, q⟩
      · cases h
    · cases h
/-- xs.append(e) -/
def mAppend (o : DE) (a : DE) : DE := fun fr g => (o fr g).bind fun x g1 => if (lstAt g1 x).isSome = true then (a fr g1).bind fun y g2 => match take1 g2 y with
  | some (d, g3) => (match lstAt g3 x with
      | some (k, xs) => if xs.length < sizeLine then .ok (.v .non) (g3.set k (.lst (xs ++ [d]))) else .bad
      | none => .bad)
  | none => .bad else .bad
theorem de_append {o e : Expr} {apos cpos : Pos} {mo ma : DE} (ho : PE X o (T (bk X) W mo)) (ha : PE X e (T (bk X) W ma))
    (hbase : attributeBase o "append" X.env (eval o X.env) = eval o X.env := by rfl)
    (hfew : ((backTo cpos (starEach [e] X.env)).all (fun x => !x.1) && (backToKw cpos (keywordEach [] X.env)).all (fun x => x.1.isSome)
      && decide ([e].length + ([] : List Keyword).length + (if ([] : List Keyword).isEmpty then 0 else 1) < 30)) = true := by rfl)
    (hline : (apos.endLine == cpos.line) = true := by rfl) (hs : starEach [e] X.env = (false, eval e X.env) :: starEach [] X.env := by rfl) (hplain : (backTo cpos (starEach [] X.env)).any (·.1) = false := by rfl) :
    PE X (.Call (.Attribute o "append" apos) [e] [] cpos) (T (bk X) W (mAppend mo ma)) := by
  refine PE.imp (pe_bm PySem.F.plainAttrs_list PySem.F.slot_list_append PySem.F.type_list_append mt_append ho (pa_cons ha pa_nil hs) hbase hfew hline hs hplain) fun σ H Q ⟨w, fr, eH, ok, f, h⟩ => ?_
  subst eH
  refine ⟨w, fr, rfl, ok, f, Fin.bind h fun x w1 v e1 o1 r1 h => ?_⟩
  cases q0 : lstAt w1.g x with
  | none => rw [q0] at h; exact h.elim
  | some p0 =>
    obtain ⟨k0, xs0⟩ := p0
    obtain ⟨rfl, hk0, hg0⟩ := lstAt_some q0
    rw [q0] at h
    obtain ⟨vs0, rfl, _, hH0, _⟩ := r1.lst o1 hg0
    refine ⟨.inl ⟨rfl, _, SqL.of hH0⟩, w1, fr, rfl, o1, f.mono e1, Fin.bind h fun y w2 u e2 o2 r2 h => ?_⟩
    cases q : take1 w2.g y with
    | none => simp only [q] at h; exact h.elim
    | some p =>
      obtain ⟨d, g3⟩ := p
      simp only [q] at h
      obtain ⟨w3, e3, h3, x3, o3, r3⟩ := Wd.take1 o2 r2 q
      subst e3
      have h := h.shift x3
      cases q1 : lstAt w3.g (.r k0) with
      | none => simp only [q1] at h; exact h.elim
      | some p1 =>
        obtain ⟨k, xs⟩ := p1
        obtain ⟨ek, hk, hg⟩ := lstAt_some q1
        cases ek
        simp only [q1] at h
        by_cases hz : xs.length < sizeLine
        · rw [if_pos hz] at h
          have rk : RL (bk X) w3 (.r k0) (.ref (w1.M k0)) := (RL.mono x3 (RL.mono e2 r1))
          obtain ⟨vs, ev, _, hH, rs⟩ := rk.lst o3 hg
          have ev : V.ref (w1.M k0) = V.ref (w3.M k0) := ev
          obtain ⟨w4, g4, h4, x4, o4⟩ := w3.putL (ds := xs ++ [d]) (vs := vs ++ [u]) o3 hk hg (rs.append (.cons r3 .nil))
          refine ⟨_, _, _, rfl, rfl, by rw [← h3, V.ref.inj ev]; exact hH, by rw [← rs.length]; exact hz, ?_⟩
          rw [V.ref.inj ev, ← h3, ← h4]
          exact h w4 g4 x4 o4 .non RV.non
        · rw [if_neg hz] at h; exact h.elim
/-- xs[i] = e -/
def sStore (m o i : DE) : DS := fun fr g => (m fr g).toS fr fun y g1 => (o fr g1).toS fr fun x g2 => (i fr g2).toS fr fun z g3 => match take1 g3 y with
  | some (d, g4) => (match lstAt g4 x, z with
      | some (k, xs), .v (.int n) => (match ixN xs.length n with | some j => .nx fr (g4.set k (.lst (xs.set j d))) | none => .bad)
      | _, _ => .bad)
  | none => .bad
theorem ds_store {e o i : Expr} {m mo mi : DE} {pos spos : Pos} (he : PE X e (T K W m)) (ho : PE X o (T K W mo)) (hi : PE X i (T K W mi))
    (ha : ∀ v, assign (.Subscript o i spos) X.env v = (do
      let ov ← holding [v] (eval o X.env)
      let iv ← holding [v, ov] (eval i X.env)
      standAt spos
      holding [v, ov, iv] (setItem ov iv v)
      release [v, ov, iv] []) := by intro _; rfl) (hs : swapsWithSole [.Subscript o i spos] e pos.line X.env = pure false := by rfl) (hw : swappedStores [.Subscript o i spos] e X.env = pure none := by rfl)
    (h1 : (assignEach [.Subscript o i spos] X.env).map (·.2) = [assign (.Subscript o i spos) X.env] := by rfl) : PS X (.Assign [.Subscript o i spos] e pos) (TD K W (sStore m mo mi)) := by
  refine PS.imp (ps_asg he (pg_sub ho hi set_list ha) hs hw h1) fun D σ H ⟨w, fr, eH, ok, f, h⟩ => ?_
  subst eH
  refine ⟨w, fr, rfl, ok, f, FinS.toS f h fun y w1 v e1 o1 f1 r1 h => ⟨w1, fr, rfl, o1, f1, FinS.toS f1 h fun x w2 u e2 o2 f2 r2 h => ⟨w2, fr, rfl, o2, f2, FinS.toS f2 h fun z w3 t e3 o3 f3 r3 h => ?_⟩⟩⟩
  cases q : take1 w3.g y with
  | none => simp only [q] at h; exact h.elim
  | some p =>
    obtain ⟨d, g4⟩ := p
    simp only [q] at h
    obtain ⟨w4, e4, h4, x4, o4, r4⟩ := Wd.take1 o3 ((r1.mono e2).mono e3) q
    subst e4
    have h := FinS.shift x4 h
    cases q1 : lstAt w4.g x with
    | none => simp only [q1] at h; exact h.elim
    | some p1 =>
      obtain ⟨k, xs⟩ := p1
      obtain ⟨rfl, hk, hg⟩ := lstAt_some q1
      simp only [q1] at h
      cases z with
      | r _ => exact h.elim
      | v dz =>
        cases dz with
        | int n =>
          simp only at h
          cases q2 : ixN xs.length n with
          | none => simp only [q2] at h; exact h.elim
          | some j =>
            simp only [q2] at h
            have r3' : RV K w3.P (.int n) t := r3
            cases r3'
            obtain ⟨vs, ev, _, hH, rs⟩ := RL.lst o4 ((r2.mono e3).mono x4) hg
            obtain ⟨w5, g5, h5, x5, o5⟩ := w4.putL (ds := xs.set j d) (vs := vs.set j v) o4 hk hg (RVs.set r4 j rs)
            rw [ev]
            refine ⟨_, vs, n, j, rfl, rfl, by rw [← h4]; exact hH, by rw [← rs.length]; exact q2, ?_⟩
            rw [← h4, ← h5]
            exact h w5 g5 x5 o5 σ ((f3.mono x4).mono x5)
        | _ => exact h.elim
/-- n op= e of ints -/
def sAug (i : Nat) (f : Int → Int → Int) (m : DE) : DS := fun fr g => match fr[i]? with
  | some (some (.v (.int a))) => (m fr g).toS fr fun y g1 => match y with
      | .v (.int b) => .nx (fr.set i (some (.v (.int (f a b))))) g1
      | _ => .bad
  | _ => .bad
theorem ds_aug {i : Nat} {x : Str} {e : Expr} {m : DE} {op : Operator} {f : Int → Int → Int} {pos pos' : Pos} (hp : PIp X op (ipI f)) (hN : X.N.Nodup) (he : PE X e (T K W m)) (hi : X.N[i]? = some x := by rfl) (hx : Loc X.env.scope x := by first | exact Or.inl rfl | exact Or.inr rfl) (hf : X.fn x = true ∨ X.env.scope.names.lookup x = some .local := by first | exact .inl rfl | exact .inr rfl | assumption) :
    PS X (.AugAssign (.Name x pos') op e pos) (TD K W (sAug i f m)) := by
  refine PS.imp (ps_aug hN hi hx he hp hf) fun D σ H ⟨w, fr, eH, ok, fo, h⟩ => ?_
  subst eH
  unfold sAug at h
  split at h
  · rename_i a q
    obtain ⟨v, hv, r⟩ := fo.get i _ q
    have r' : RV K w.P (.int a) v := r
    cases r'
    refine ⟨_, hv, w, fr, rfl, ok, fo, FinS.toS fo h fun y w1 u e1 o1 f1 r1 h => ?_⟩
    split at h
    · rename_i b
      have r1' : RV K w1.P (.int b) u := r1
      cases r1'
      exact ⟨a, b, rfl, rfl, h w1 rfl (.refl _) o1 _ (f1.set (x := .v (.int (f a b))) RV.int i)⟩
    · exact h.elim
  · exact h.elim
/-- what is never reached -/
def sBad : DS := fun _ _ => .bad
def mBad : DE := fun _ _ => .bad
theorem ds_bad {st : Stmt} : PS X st (TD K W sBad) := ⟨fun pins s σ H D I ⟨w, fr, e, ok, f, h⟩ => h.elim⟩
theorem de_bad {e : Expr} : PE X e (T K W mBad) := ⟨fun pins s σ H Q I ⟨w, fr, e, ok, f, h⟩ => h.elim⟩
end
end Dn
namespace Dn
open PySem PySem.Spec PyProof.Rows L2
section
variable {K : Bk} {W : WX} {X : Cx}
/-- Base.__init__(self, ..), Base an own class over ValueError that has no __init__ of its own -/
theorem pe_obinit {B : Str} {S : Addr} {e : Expr} {es : List Expr} {p1 p2 pos : Pos} {ta : TA} {pl : Sem Bool} (hg : Gl X B) (hm : X.mg B = some (.ref S)) (rd : PySem.W.readsIn X.K S (.type "type") = true) (ga : PySem.W.specialIn X.K (.ref S) "__getattribute__" = some (some (.builtin "type.__getattribute__")))
    (vV : PySem.W.findCls X.K (.ref S) (.type "type") "__init__" = some (.val (.builtin "ValueError.__init__"))) (ha : PA X (e :: es) ta) (hdb : (B == ("__debug__" : Str)) = false := by decide)
    (hc : eval (.Call (.Attribute (.Name B p1) "__init__" p2) (e :: es) [] pos) X.env = (do
      let ov ← eval (.Name B p1) X.env
      standAt p2.atName
      let (f, first) ← holding [ov] (getMethod ov "__init__" pl)
      callWith pos f first (backTo pos (starEach (e :: es) X.env)) (backToKw pos (keywordEach [] X.env))) := by rfl)
    (he : starEach (e :: es) X.env = (false, eval e X.env) :: starEach es X.env := by rfl) (hpl : (backTo pos (starEach es X.env)).any (·.1) = false := by rfl) :
    PE X (.Call (.Attribute (.Name B p1) "__init__" p2) (e :: es) [] pos) (tVeI X.K ta) := by
  refine ⟨fun pins s σ H Q I h => ?_⟩
  refine PySem.W.methodCall_KW (ld_glob I hg hm ?_ hdb) hc
  refine PySem.W.method_cls I.kIn ga (PySem.W.cls_value I.kIn rd vV (by decide +kernel) ?_)
  show wpAny _ _ (callWith pos (Value.builtin "ValueError.__init__") [] (backTo pos (starEach (e :: es) X.env)) []) _ _ _
  refine PyProof.Rows.callWith_method1 (thn (ha.run pos pins _ σ H _ (I.tok _) h) fun us s1 hh => ?_) he hpl
  obtain ⟨vs, H1, I1, r1, a, C, ws, ev, hl, Tc, ea, q⟩ := hh
  subst ev
  cases r1 with
  | @cons _ u0 _ ur ra rw' =>
    obtain rfl : u0 = Value.ref a := ra
    exact oinit_ok Tc I1 ea (by rw [← Paired.length rw', sizeLine_eq]; omega) fun s' J => ⟨.non, H1, J, rfl, q⟩
/-- what the __init__ of an own error class leaves: its fields -/
def spX (K : Bk) (C : Addr) (ns : List Str) : Sp := fun vs H Q E => ∃ (a : Addr) (us : List V), vs = .ref a :: us ∧ us.length = ns.length ∧ H a = some (exo a C none) ∧
  ∀ (H' : Hp) (d : Addr), H d = none → d ≠ a → H' a = some (exo a C (some d)) → H' d = some (exd d (ns.zip us)) → (∀ b, b ≠ a → b ≠ d → H' b = H b) → Q .non H'
/-- an own error class as others make it -/
def Er (P : Program) (w : World) (K : Bk) (base : Heap) (k : Nat) (c : Str) (ns : List Str) : Prop :=
  ∃ (C fI : Addr) (fd : FuncData) (ps : List Str), K.mg c = some (.ref C) ∧ OexC K.K C ∧ PySem.W.findIn K.K (.ref C) "__init__" = some (some (.ref fI)) ∧ PySem.W.typeIn K.K (.ref fI) = some (.type "function") ∧ Binds K.K fd ps [] ∧ FnOk P w K.K K.mg base CX0 k fI fd ps (spX K C ns)
def sRaise (c : Str) (ns : List Str) (a : DA) : DS := fun fr g => (a fr g).toS fr fun xs g1 => match takes g1 xs with
  | some (ds, g2) => if ds.length = ns.length ∧ ds.length ≤ 900 then .exc ⟨c, ns, ds⟩ fr g2 else .bad
  | none => .bad
theorem ds_raise {k : Nat} {c : Str} {ns : List Str} {e : Expr} {es : List Expr} {p pos pos' : Pos} {ma : DA} (G : Er X.prog X.w K X.base k c ns) (hr : Room (k + 1) X.A) (tk : Takes X W) (hK : bk X = K) (ha : PA X (e :: es) (TA' K W ma)) (hc : X.calm = true := by rfl) (hg : Gl X c := by rfl)
    (hdb : (c == ("__debug__" : Str)) = false := by decide) (he : starEach (e :: es) X.env = (false, eval e X.env) :: starEach es X.env := by rfl) (hpl : (backTo pos (starEach es X.env)).any (·.1) = false := by rfl) :
    PS X (.Raise (some (.Call (.Name c p) (e :: es) [] pos)) none pos') (TD K W (sRaise c ns ma)) := by
  subst hK
  obtain ⟨C, fI, fd, ps, hm, T, iC, tI, hb, F⟩ := G
  refine PS.imp (ps_raise hc tk (pmk_oex T iC tI F hr hb .nil pass0 hg hm ha hdb he hpl)) fun D σ H ⟨w, fr, eH, ok, f, h⟩ => ?_
  subst eH
  refine ⟨w, fr, rfl, ok, f, FinS.toSA f h fun xs w1 vs e1 o1 f1 r1 h1 => ?_⟩
  cases q : takes w1.g xs with
  | none => simp only [q] at h1; exact h1.elim
  | some pr =>
    obtain ⟨ds, g2⟩ := pr
    simp only [q] at h1
    by_cases hn : ds.length = ns.length ∧ ds.length ≤ 900
    · rw [if_pos hn] at h1
      obtain ⟨w2, e2, h2, x2, o2, r2⟩ := Wd.takes o1 r1 q
      subst e2
      have hl := r2.length
      refine ⟨by omega, fun a ha => ⟨a, vs, by simp, by omega, upd_same, fun H' d hd hda hA hD hO => ⟨rfl, d, ns.zip vs, hA, hD, by rw [upd_ne hda] at hd; exact hd, ?_⟩⟩⟩
      rw [upd_ne hda] at hd
      have eq : upd (del H' a) d (.xd (ns.zip vs)) = upd w1.H d (.xd (ns.zip vs)) := by
        funext b
        by_cases hb : b = d
        · rw [hb, upd_same, upd_same]
        · rw [upd_ne hb, upd_ne hb]
          by_cases hba : b = a
          · rw [hba, del_same, ha]
          · rw [del_ne hba, hO b hba hb, upd_ne hba]
      show W (.ref C) (some d) σ (upd (del H' a) d (.xd (ns.zip vs)))
      rw [eq, ← h2]
      have pe := PExt.junk (o := HO.xd (ns.zip vs)) o2.sub (by rw [h2]; exact hd)
      exact (FinS.shift x2 h1) ⟨w2.M, w2.g, w2.P, upd w2.H d (.xd (ns.zip vs))⟩ rfl (w2.pext o2 pe).1 (w2.pext o2 pe).2 σ ((f1.mono x2).mono (w2.pext o2 pe).1) _ _ ⟨hm, .inr ⟨d, vs, rfl, by rw [h2]; exact hd, upd_same, r2⟩⟩
    · rw [if_neg hn] at h1; exact h1.elim
theorem FrOk.to {w w' : Wd} (hM : w'.M = w.M) (hg : w'.g = w.g) (hP : Same w.P w'.P) {fr : Fr} {σ : L2.St} (h : FrOk K w fr σ) : FrOk K w' fr σ :=
  ⟨h.len, fun i x q => let ⟨v, h1, h2⟩ := h.get i x q; ⟨v, h1, by
    cases x with
    | v d => exact RV.mono hP h2
    | r k => exact ⟨by rw [hg]; exact h2.1, by rw [hM]; exact h2.2⟩⟩⟩
/-- the name of the error goes -/
def unS (i : Nat) : SRes → SRes
  | .nx fr g => .nx (fr.set i none) g
  | .ct fr g => .ct (fr.set i none) g
  | .bk fr g => .bk (fr.set i none) g
  | .rt x g => .rt x g
  | _ => .bad
abbrev Sui := Addr → Value → Option Addr → DS
def suiteAt (i : Nat) (su : Sui) (e : Ex) (fr : Fr) (g : GH) (a : Addr) (C : Value) (d : Option Addr) : SRes := unS i (su a C d (fr.set i (some (.v (.exn a C d e.c e.ns e.ds)))) g)
open Classical in
noncomputable def sTry (i : Nat) (sub : Str → Option Bool) (s : DS) (su : Sui) : DS := fun fr g => match s fr g with
  | .exc e fr1 g1 => (match sub e.c with
      | some true => if h : ∃ r, ∀ a C d, suiteAt i su e fr1 g1 a C d = r then choose h else .bad
      | some false => .exc e fr1 g1
      | none => .bad)
  | r => r
open Classical in
theorem sTry_exc {i : Nat} {sub : Str → Option Bool} {s : DS} {su : Sui} {fr fr1 : Fr} {g g1 : GH} {e : Ex} {r : SRes} (h : s fr g = .exc e fr1 g1) (hs : sub e.c = some true) (hr : ∀ a C d, suiteAt i su e fr1 g1 a C d = r) : sTry i sub s su fr g = r := by
  have hx : ∃ r, ∀ a C d, suiteAt i su e fr1 g1 a C d = r := ⟨r, hr⟩
  unfold sTry
  rw [h]
  simp only [hs]
  rw [dif_pos hx, ← Classical.choose_spec hx 0 .none none, hr]
theorem ds_try {i : Nat} {x n : Str} {c : Value} {body suite : List Stmt} {b₀ : Stmt} {np pos pos' : Pos} {sub : Str → Option Bool} {s : DS} {su : Sui} (hsub : ∀ m b, sub m = some b → ∀ C, K.mg m = some C → PySem.W.exmOne X.K C c = some b)
    (hc : Names X x c) (tk : Takes X W)
    (hb : ∀ (W : WX) (pn : List (Addr × Obj)) (xe : Value → Shared → Prop), Takes (X.tr pn xe) W → PassesOwn (model X.prog X.w) X.A X.env xe → PSs (X.tr pn xe) body (TD K W s))
    (hsu : ∀ (a : Addr) (oe : Obj) (cls : Value) (d : Option Addr) (pn : List (Addr × Obj)), Zc cls d oe → (∃ vs, oe.data = .fields vs) → PSs (X.suite a ((a, oe) :: pn)) (b₀ :: suite) (TD K WF (su a cls d)))
    (hN : X.N.Nodup) (hs : X.stack = X.env :: X.outer := by rfl) (hf : X.env.frame = some X.env.locals := by rfl) (hi : X.N[i]? = some n := by rfl) (hln : X.env.kindOf n = some .local := by rfl) :
    PS X (.Try body [.ExceptHandler (some (.Name x np)) (some n) (b₀ :: suite) pos'] [] [] pos) (TD K W (sTry i sub s su)) := by
  refine PS.imp (ps_try_as (i := i) hs hf hN hi hln hc tk hb hsu) fun D σ H ⟨w, fr, eH, ok, f, h⟩ => ?_
  subst eH
  refine ⟨w, fr, rfl, ok, f, ?_⟩
  unfold sTry at h
  cases q : s fr w.g with
  | nx fr1 g1 => rw [q] at h; exact h
  | ct fr1 g1 => rw [q] at h; exact h
  | bk fr1 g1 => rw [q] at h; exact h
  | rt x g1 => rw [q] at h; exact h
  | bad => rw [q] at h; exact h.elim
  | exc e fr1 g1 =>
    rw [q] at h
    intro w1 eg e1 o1 σ1 f1 C dd z
    subst eg
    cases hs1 : sub e.c with
    | none => simp only [hs1] at h; exact h.elim
    | some b =>
      refine ⟨b, hsub _ _ hs1 _ z.1, fun hb => ?_, fun hb => ?_⟩
      · subst hb
        simp only [hs1] at h
        intro a ha
        by_cases hx : ∃ r, ∀ a C d, suiteAt i su e fr1 w1.g a C d = r
        · rw [dif_pos hx] at h
          rw [← Classical.choose_spec hx a C dd] at h
          -- the world in which the error's dict lasts
          have : ∃ w2 : Wd, w2.H = w1.H ∧ w2.g = w1.g ∧ w.Ext w2 ∧ w2.M = w1.M ∧ Same w1.P w2.P ∧ w2.Ok K ∧ RV K w2.P (.exn a C dd e.c e.ns e.ds) (.ref a) := by
            obtain ⟨hm, z | ⟨d, vs, hd, hB, hD, hv⟩⟩ := z
            · obtain ⟨z1, z2, z3⟩ := z
              rw [z1, z2, z3]
              exact ⟨w1, rfl, rfl, e1, rfl, .refl _, o1, .exn0 hm⟩
            · subst hd
              have sP : Same w1.P (upd w1.P d (.xd (e.ns.zip vs))) := fun b u qq => by
                by_cases hbd : b = d
                · subst hbd
                  rw [upd_same]
                  have y := o1.sub _ _ qq
                  rw [hD] at y
                  exact y
                · rw [upd_ne hbd]; exact qq
              have nm : ∀ k, k < w1.g.n → (w1.g.get k).live = true → w1.M k ≠ d := fun k hk hl zz => by
                obtain ⟨_, go⟩ := o1.own k hk hl
                rw [zz, hD] at go
                cases qg : w1.g.get k with
                | lst xs => rw [qg] at go; obtain ⟨_, y, _⟩ := go; cases y
                | dead => rw [qg] at hl; cases hl
                | dct _ => rw [qg] at go; exact go
                | obj _ _ => rw [qg] at go; exact go
              refine ⟨⟨w1.M, w1.g, upd w1.P d (.xd (e.ns.zip vs)), w1.H⟩, rfl, rfl, ⟨e1.le, e1.M, e1.P.trans sP, fun b u qq => ?_, e1.out, e1.dead, e1.fresh, e1.dom⟩, rfl, sP, ⟨fun b u qq => ?_, fun k hk hl => ?_, o1.inj, fun k hk hl => ⟨(o1.own k hk hl).1, (o1.own k hk hl).2.mono sP⟩⟩, .exn hm upd_same (RVs.mono sP hv)⟩
              · have qq : upd w1.P d (.xd (e.ns.zip vs)) b = some u := qq
                by_cases hbd : b = d
                · subst hbd; exact .inr (.inl hB)
                · rw [upd_ne hbd] at qq; exact e1.new b u qq
              · have qq : upd w1.P d (.xd (e.ns.zip vs)) b = some u := qq
                by_cases hbd : b = d
                · subst hbd; rw [upd_same] at qq; cases qq; exact hD
                · rw [upd_ne hbd] at qq; exact o1.sub b u qq
              · show upd w1.P d (.xd (e.ns.zip vs)) (w1.M k) = none
                rw [upd_ne (nm k hk hl)]
                exact o1.off k hk hl
          obtain ⟨w2, h2, g2, x2, M2, s2, o2, rv⟩ := this
          refine ⟨w2, fr1.set i (some (.v (.exn a C dd e.c e.ns e.ds))), h2, o2, ?_, ?_⟩
          · exact (f1.to M2 g2 s2).set (x := .v (.exn a C dd e.c e.ns e.ds)) rv i
          · unfold suiteAt at h
            rw [← g2] at h
            have h := FinS.shift x2 h
            cases q2 : su a C dd (fr1.set i (some (.v (.exn a C dd e.c e.ns e.ds)))) w2.g with
            | nx fr3 g3 => rw [q2] at h; exact fun w3 eg e3 o3 σ3 f3 => h w3 eg e3 o3 _ (f3.unset i)
            | ct fr3 g3 => rw [q2] at h; exact fun w3 eg e3 o3 σ3 f3 => h w3 eg e3 o3 _ (f3.unset i)
            | bk fr3 g3 => rw [q2] at h; exact fun w3 eg e3 o3 σ3 f3 => h w3 eg e3 o3 _ (f3.unset i)
            | rt x g3 => rw [q2] at h; exact h
            | exc e fr3 g3 => rw [q2] at h; exact h.elim
            | bad => rw [q2] at h; exact h.elim
        · rw [dif_neg hx] at h; exact h.elim
      · subst hb
        simp only [hs1] at h
        exact h w1 rfl e1 o1 σ1 f1 C dd z
/-- what is known of the classes: does an error of class c belong to t -/
def Kin (K : Bk) (tab : Str → Str → Option Bool) : Prop := ∀ c t b, tab c t = some b → ∃ C U, K.mg c = some (.ref C) ∧ ExcC K.K C ∧ K.mg t = some (.ref U) ∧ PySem.W.kitOne K.K (.ref C) (.ref U) = some b
def KinT (K : Bk) (tab : Str → String → Option Bool) : Prop := ∀ c t b, tab c t = some b → ∃ C, K.mg c = some (.ref C) ∧ ExcC K.K C ∧ PySem.W.kitOne K.K (.ref C) (.type t) = some b
def clsNames : List D → Option (List Str)
  | [] => some []
  | .cls c :: ds => (clsNames ds).map fun l => c :: l
  | _ :: _ => none
def tabAny (tab : Str → Str → Option Bool) (c : Str) : List Str → Option Bool
  | [] => some false
  | t :: l => (tab c t).bind fun b => if b = true then some true else tabAny tab c l
open Classical in
noncomputable def oIsE (a : Addr) (C : Value) (d : Option Addr) (tab : Str → Str → Option Bool) (tabT : Str → String → Option Bool) : List D → Option D
  | [.exn a' C' d' c _ _, .cls t] => if a' = a ∧ C' = C ∧ d' = d then (tab c t).map .bl else none
  | [.exn a' C' d' c _ _, .ty t] => if a' = a ∧ C' = C ∧ d' = d then (tabT c t).map .bl else none
  | [.exn a' C' d' c _ _, .tup (t :: ts)] => if a' = a ∧ C' = C ∧ d' = d then (clsNames (t :: ts)).bind fun l => (tabAny tab c l).map .bl else none
  | _ => none
theorem RVs.clss {P : Hp} : ∀ {ds : List D} {vs : List V} {l : List Str}, RVs K P ds vs → clsNames ds = some l → ∃ As : List Addr, vs = As.map V.ref ∧ Paired (fun c A => K.mg c = some (.ref A)) l As
  | [], _, _, h, e => by cases h; cases e; exact ⟨[], rfl, .nil⟩
  | d :: ds, _, l, h, e => by
    cases h with
    | cons r t =>
      cases d with
      | cls n =>
        simp only [clsNames] at e
        cases q : clsNames ds with
        | none => rw [q] at e; cases e
        | some l' =>
          rw [q] at e
          cases e
          obtain ⟨As, rfl, fa⟩ := RVs.clss t q
          cases r with
          | cls hm => exact ⟨_ :: As, rfl, .cons hm fa⟩
      | _ => cases e
theorem refs_vals : ∀ {As : List Addr} {us : List Value}, Vals (As.map V.ref) us → us = As.map Value.ref
  | [], _, h => by cases h; rfl
  | a :: as, _, h => by
    cases h with
    | cons r t =>
      cases r
      rw [refs_vals t]
      rfl
theorem RV.exn_inv {P : Hp} {a : Addr} {C : Value} {d : Option Addr} {c : Str} {ns : List Str} {ds : List D} {v : V} (h : RV K P (.exn a C d c ns ds) v) : v = .ref a ∧ K.mg c = some C := by
  cases h with
  | exn m _ _ => exact ⟨rfl, m⟩
  | exn0 m => exact ⟨rfl, m⟩
theorem tabAny_kit {tab : Str → Str → Option Bool} (kin : Kin K tab) {c : Str} {C : Addr} (hm : K.mg c = some (.ref C)) : ∀ {l : List Str} {As : List Addr} {b : Bool}, Paired (fun c A => K.mg c = some (.ref A)) l As → tabAny tab c l = some b → PySem.W.kitAny K.K (.ref C) (As.map Value.ref) = some b
  | [], _, b, h, e => by cases h; cases e; exact kitAny_nil
  | t :: l, _, b, h, e => by
    cases h with
    | cons hA h =>
      simp only [tabAny] at e
      cases q : tab c t with
      | none => rw [q] at e; cases e
      | some b1 =>
        rw [q, Option.bind_some] at e
        obtain ⟨C', U, m1, _, m2, k⟩ := kin c t b1 q
        rw [hm] at m1
        cases m1
        rw [hA] at m2
        cases m2
        cases b1 with
        | true => rw [if_pos rfl] at e; cases e; exact kitAny_cons k (fun z => nomatch z) fun _ => rfl
        | false => rw [if_neg Bool.false_ne_true] at e; exact kitAny_cons k (fun _ => tabAny_kit kin hm h e) fun z => nomatch z
theorem RV.exn_dict {P : Hp} {a : Addr} {C : Value} {d : Option Addr} {c : Str} {ns : List Str} {ds : List D} {v : V} (h : RV K P (.exn a C d c ns ds) v) : d = none ∨ ∃ dd kv, d = some dd ∧ P dd = some (.xd kv) := by
  cases h with
  | exn m z _ => exact .inr ⟨_, _, rfl, z⟩
  | exn0 m => exact .inl rfl
theorem c_isE {a : Addr} {oe : Obj} {cls : Value} {d : Option Addr} {pn : List (Addr × Obj)} {tab : Str → Str → Option Bool} {tabT : Str → String → Option Bool} (kin : Kin (bk X) tab) (kinT : KinT (bk X) tabT) (hz : Zc cls d oe) (hf : ∃ vs, oe.data = .fields vs) :
    CallR (X.suite a ((a, oe) :: pn)) (.builtin "isinstance") (rDs (bk X) (oIsE a cls d tab tabT)) := by
  intro pins s σ H xs us Q I r ⟨P, ds, dd, sub, sv, e, q⟩
  obtain ⟨hget, _⟩ := I.pin (a, oe) (List.mem_append.mpr (.inl List.mem_cons_self))
  have inst : ∀ {C : Addr} {c : Str} {ns : List Str} {es : List D} {v : V}, cls = .ref C → RV (bk X) P (.exn a cls d c ns es) v → ∃ od, PySem.W.InstAt s.heap a oe C od := fun {C c ns es v} ec rv => by
    obtain ⟨vs, hv⟩ := hf
    obtain ⟨oc, od, oda, osl⟩ := oe
    obtain ⟨h1, h2⟩ := hz
    dsimp only at h1 h2 hv
    subst h1 h2 hv ec
    rcases rv.exn_dict with z | ⟨d2, kv, z, hP⟩
    · subst z
      exact ⟨none, hget, rfl, rfl, trivial⟩
    · subst z
      have hx : ObjOk X.prog X.w H s.heap d2 (.xd kv) := I.hok d2 _ (sub _ _ hP)
      obtain ⟨mA, ⟨o, _, _, ho, _⟩, _⟩ := hx
      exact ⟨some o, hget, rfl, rfl, ho⟩
  unfold oIsE at e
  split at e
  · rename_i a' C' d' c ns es t
    split at e
    · rename_i hh
      obtain ⟨rfl, rfl, rfl⟩ := hh
      obtain ⟨x, y, rfl, h1, h2⟩ := sv.two
      have h1 : RV (bk X) P (.exn a' C' d' c ns es) x := h1
      have h2 : RV (bk X) P (.cls t) y := h2
      cases q0 : tab c t with
      | none => rw [q0] at e; cases e
      | some b =>
        rw [q0] at e
        cases e
        obtain ⟨C, U, m1, ex, m2, k⟩ := kin c t b q0
        obtain ⟨rfl, m3⟩ := h1.exn_inv
        rw [m1] at m3
        cases m3
        cases h2 with
        | cls m4 =>
          rw [m2] at m4
          cases m4
          obtain ⟨od, J⟩ := inst rfl h1
          obtain ⟨u1, u2, rfl, r1, r2⟩ := vals2 r
          cases (show u1 = Value.ref a' from r1)
          cases (show u2 = Value.ref U from r2)
          exact PySem.W.kia_one (PySem.W.kitx_exc (by obtain ⟨cd, hc, _⟩ := PySem.W.any_some ex.hd; rw [hc]; rfl) ex.hg ex.hk ex.hs ex.ha ex.hn ex.ht ex.hm) I.kIn J k (fun z => nomatch z) fun tk => ⟨.bl b, H, I.kept (t' := tk) fun _ _ z => z, rfl, q P H _ (.refl sub) .bl⟩
    · cases e
  · rename_i a' C' d' c ns es t
    split at e
    · rename_i hh
      obtain ⟨rfl, rfl, rfl⟩ := hh
      obtain ⟨x, y, rfl, h1, h2⟩ := sv.two
      have h1 : RV (bk X) P (.exn a' C' d' c ns es) x := h1
      have h2 : RV (bk X) P (.ty t) y := h2
      cases q0 : tabT c t with
      | none => rw [q0] at e; cases e
      | some b =>
        rw [q0] at e
        cases e
        obtain ⟨C, m1, ex, k⟩ := kinT c t b q0
        obtain ⟨rfl, m3⟩ := h1.exn_inv
        rw [m1] at m3
        cases m3
        cases h2
        obtain ⟨od, J⟩ := inst rfl h1
        obtain ⟨u1, u2, rfl, r1, r2⟩ := vals2 r
        cases (show u1 = Value.ref a' from r1)
        cases (show u2 = Value.type t from r2)
        exact PySem.W.kia_one (PySem.W.kitx_exc (by obtain ⟨cd, hc, _⟩ := PySem.W.any_some ex.hd; rw [hc]; rfl) ex.hg ex.hk ex.hs ex.ha ex.hn ex.ht ex.hm) I.kIn J k (fun z => nomatch z) fun tk => ⟨.bl b, H, I.kept (t' := tk) fun _ _ z => z, rfl, q P H _ (.refl sub) .bl⟩
    · cases e
  · rename_i a' C' d' c ns es t ts
    split at e
    · rename_i hh
      obtain ⟨rfl, rfl, rfl⟩ := hh
      obtain ⟨x, y, rfl, h1, h2⟩ := sv.two
      have h1 : RV (bk X) P (.exn a' C' d' c ns es) x := h1
      cases q1 : clsNames (t :: ts) with
      | none => rw [q1] at e; cases e
      | some l =>
        rw [q1, Option.bind_some] at e
        cases q2 : tabAny tab c l with
        | none => rw [q2] at e; cases e
        | some b =>
          rw [q2] at e
          cases e
          obtain ⟨t0, l', rfl⟩ : ∃ t0 l', l = t0 :: l' := by
            cases t <;> first | (cases q1; done) | skip
            rename_i cn
            simp only [clsNames] at q1
            cases q4 : clsNames ts with
            | none => rw [q4] at q1; cases q1
            | some l' => rw [q4] at q1; cases q1; exact ⟨_, _, rfl⟩
          have hex : ∃ C b0, (bk X).mg c = some (.ref C) ∧ ExcC X.K C ∧ tab c t0 = some b0 := by
            simp only [tabAny] at q2
            cases q5 : tab c t0 with
            | none => rw [q5] at q2; cases q2
            | some b0 =>
              obtain ⟨C, U, m1, ex, m2, k⟩ := kin c t0 b0 q5
              exact ⟨C, b0, m1, ex, rfl⟩
          obtain ⟨C, b0, m1, ex, _⟩ := hex
          obtain ⟨rfl, m3⟩ := h1.exn_inv
          rw [m1] at m3
          cases m3
          obtain ⟨A2, vs, rfl, ha, ra⟩ := h2.tup sub
          obtain ⟨As, rfl, fa⟩ := RVs.clss ra q1
          have kk := tabAny_kit kin m1 fa q2
          obtain ⟨od, J⟩ := inst rfl h1
          obtain ⟨u1, u2, rfl, r1, r2⟩ := vals2 r
          cases (show u1 = Value.ref a' from r1)
          cases (show u2 = Value.ref A2 from r2)
          obtain ⟨its, rv, ⟨o, g1, g2, n, g3⟩, _⟩ := I.tuple (Same.seqT sub ha)
          have e3 := refs_vals rv
          subst e3
          obtain ⟨oc, od', dt, sl⟩ := o
          simp only at g2 g3
          subst g2 g3
          exact PySem.W.kia_tup (PySem.W.kitx_exc (by obtain ⟨cd, hc, _⟩ := PySem.W.any_some ex.hd; rw [hc]; rfl) ex.hg ex.hk ex.hs ex.ha ex.hn ex.ht ex.hm) I.kIn J g1 kk (fun z => nomatch z) fun tk => ⟨.bl b, H, I.kept (t' := tk) fun _ _ z => z, rfl, q P H _ (.refl sub) .bl⟩
    · cases e
  · cases e
open Classical in
noncomputable def mXf (a : Addr) (C : Value) (d : Option Addr) (c f : Str) (m : DE) : DE := fun fr g => (m fr g).bind fun x g1 => match x with
  | .v (.exn a' C' d' c' ns ds) => if a' = a ∧ C' = C ∧ d' = d ∧ c' = c then (match (ns.zip ds).lookup f with | some x => .ok (.v x) g1 | none => .bad) else .bad
  | _ => .bad
theorem RVs.lookup {P : Hp} {f : Str} : ∀ {ns : List Str} {ds : List D} {vs : List V} {x : D}, RVs K P ds vs → (ns.zip ds).lookup f = some x → ∃ v, (ns.zip vs).lookup f = some v ∧ RV K P x v
  | [], _, _, _, _, e => by cases e
  | n :: ns, [], _, _, h, e => by cases e
  | n :: ns, d :: ds, _, x, h, e => by
    cases h with
    | cons r t =>
      simp only [List.zip_cons_cons, List.lookup] at e ⊢
      cases q : (f == n) with
      | true => rw [q] at e; cases e; exact ⟨_, rfl, r⟩
      | false => rw [q] at e; exact RVs.lookup t e
theorem de_xf {a C : Addr} {oe : Obj} {cls : Value} {d : Option Addr} {pn : List (Addr × Obj)} {c n : Str} {e : Expr} {pos : Pos} {m : DE} (hm : X.mg c = some (.ref C)) (Tx : XfC X.K C) (hno : PySem.W.findIn X.K (.ref C) n = some none) (hz : Zc cls d oe) (hf : ∃ vs, oe.data = .fields vs)
    (he : PE (X.suite a ((a, oe) :: pn)) e (T (bk X) W m)) (hb : attributeBase e n X.env (eval e X.env) = eval e X.env := by rfl) : PE (X.suite a ((a, oe) :: pn)) (.Attribute e n pos) (T (bk X) W (mXf a cls d c n m)) := by
  refine PE.imp (pe_xf Tx hno hz hf he hb) fun σ H Q ⟨w, fr, eH, ok, f, h⟩ => ?_
  subst eH
  refine ⟨w, fr, rfl, ok, f, Fin.bind h fun x w1 v e1 o1 r1 h1 => ?_⟩
  split at h1
  · rename_i a' C' d' c' ns ds
    split at h1
    · rename_i hh
      obtain ⟨rfl, rfl, rfl, rfl⟩ := hh
      have r1' : RV (bk X) w1.P (.exn a' C' d' c' ns ds) v := r1
      cases q : (ns.zip ds).lookup n with
      | none => rw [q] at h1; exact h1.elim
      | some y =>
        rw [q] at h1
        cases r1' with
        | exn m3 hP rs =>
          have m3 : X.mg c' = some C' := m3
          rw [hm] at m3
          cases m3
          obtain ⟨u, hu, ru⟩ := RVs.lookup rs q
          exact ⟨rfl, rfl, _, _, u, rfl, o1.sub _ _ hP, hu, h1 w1 rfl (.refl _) o1 u ru⟩
        | exn0 m3 => cases q
    · exact h1.elim
  · exact h1.elim
end
end Dn
namespace Dn
open PySem PySem.Spec PyProof.Rows L2
section
open PySem.W PySem.Calls
variable {prog : Program} {w : World} {A : Around} {E : Value → Shared → Prop} {s : Shared} {env : Env} {elts : List Expr} {k : Nat} {pos : Pos}
theorem starred_tup {t : Addr} {its : Array Value} {n i : Nat} {Q : List Value → Shared → Prop} (ht : IsTup s.heap t its) (hA : A.handled = none) (hin : i < n) (hle : n ≤ its.size + 1) (hsm : its.size ≤ 16384)
    (fin : ∀ (D : Addr) h' tk, s.heap.get? D = none → (∀ b o, s.heap.get? b = some o → h'.get? b = some o) → h'.get? D = some { cls := .type "list", data := .seq ((its.toList.drop i).take (its.size + 1 - n)).toArray } →
      Q (its.toList.take i ++ [.ref D] ++ (its.toList.drop i).drop (its.size + 1 - n)) { s with heap := h', toks := tk }) : wpAny (model prog w) A (unpackItems (.ref t) n (some i)) Q E s := by
  have ne : t ≠ s.heap.objs.size := ht.elim fun o ho => Nat.ne_of_lt (Heap.lt_size ho.1)
  unfold unpackItems notIterableAtAll
  apply wpAny_bind
  apply wpAny_bind
  apply wpAny_specialOf ht.typeIs slot_tuple_iter.lookup
  apply wpAny_pure
  rw [if_neg (by simp)]
  apply wpAny_bind
  apply wpAny_holding
  apply iter_tuple ht
  apply wpAny_bind
  apply wpAny_holding
  apply draw_tuple ne i 0 _ _ ⟨_, Heap.get?_push_size _ rfl, rfl, rfl⟩ (ht.push _) (by omega)
  intro g1 at1 but1
  have tg : IsTup g1 t its := (ht.push _).extBut but1.extBut ne
  rw [Nat.zero_add] at at1
  obtain ⟨oi, hoi, _⟩ := id at1
  obtain ⟨ol, hol, _⟩ := id tg
  rw [List.drop_zero]
  have l1 : (its.toList.take i).length = i := by rw [List.length_take, Array.length_toList]; omega
  have l2 : (its.toList.drop i).length = its.size - i := by rw [List.length_drop, Array.length_toList]
  have l3 : (its.toList.drop i).length - (n - 1 - i) = its.size + 1 - n := by omega
  rw [if_neg (by omega)]
  apply wpAny_bind
  apply wpAny_holding
  refine kun_collect (s := { s with heap := g1 }) (T := "tuple_iterator") (by simp) (Walks.tuple (A := A.in1) hA _ t ne its) (fun j u st => st.1.typeIs) (by omega) ⟨at1, tg⟩ (Heap.lt_size hoi) (Heap.lt_size hol) (fun g2 tk keep => ?_) (by rw [sizeLine_eq]; omega)
  show wpAny _ _ (if (its.toList.drop i).length < n - 1 - i then _ else _) _ _ _
  rw [if_neg (by omega)]
  have ke : ∀ b o, s.heap.get? b = some o → g2.get? b = some o := fun b o e => by
    have nb : b ≠ s.heap.objs.size := Nat.ne_of_lt (Heap.lt_size e)
    exact keep b o nb (but1.extBut b o nb (Heap.get?_push_of_some _ e))
  have big : s.heap.get? g2.objs.size = none := by
    cases z : s.heap.get? g2.objs.size with
    | none => rfl
    | some o => exact absurd (Heap.lt_size (ke _ o z)) (Nat.lt_irrefl _)
  show wpAny _ _ (newList ((its.toList.drop i).take ((its.toList.drop i).length - (n - 1 - i))) >>= fun d => pure (its.toList.take i ++ [d] ++ (its.toList.drop i).drop ((its.toList.drop i).length - (n - 1 - i)))) _ _ _
  rw [l3]
  apply wpAny_bind
  refine wpAny_newList (wpAny_pure (fin g2.objs.size (g2.push _) tk big (fun b o e => Heap.get?_push_of_some _ (ke b o e)) (Heap.get?_push_size _ rfl))) (by rw [List.length_take, l2, sizeLine_eq]; omega)
end
theorem obj_there {P : Program} {w : World} {H : Hp} {h : Heap} {a : Addr} {o : HO} (x : ObjOk P w H h a o) : ∃ u, h.get? a = some u := by
  cases o with
  | lst _ => exact x.2.elim fun _ z => z.elim fun _ z => ⟨_, z.2⟩
  | tup _ => exact x.2.elim fun _ z => z.2.elim fun _ z => ⟨_, z.1⟩
  | dK _ => obtain ⟨_, _, _, _, u, _, _, z, _⟩ := x; exact ⟨u, z⟩
  | dT _ => obtain ⟨_, _, _, _, u, _, _, z, _⟩ := x; exact ⟨u, z⟩
  | set _ _ => obtain ⟨u, _, _, _, z, _⟩ := x; exact ⟨u, z⟩
  | ins _ _ _ => exact ⟨_, x.2.2.2.1⟩
  | own _ => exact x
  | xd _ => obtain ⟨_, ⟨u, _, _, z, _⟩, _⟩ := x; exact ⟨u, z⟩
  | rng _ _ => obtain ⟨_, _, _, z⟩ := x; exact ⟨_, z⟩
  | frz _ _ => exact ⟨_, x.1⟩
  | tbl _ => exact ⟨_, x⟩
  | met _ _ => exact ⟨_, x⟩
  | ext _ => exact x.2.1
section
variable {K : Bk} {W : WX} {X : Cx}
/-- a, *r = t -/
def gT1 (t : DG) (u : DG) : DG := fun d fr => match d with
  | .tup (x :: xs) => if xs.length < 16384 then (t x fr).bind fun fr1 => u (.lst xs) fr1 else none
  | _ => none
theorem dg_star {a b : Expr} {p2 pos : Pos} {kk : Nat} {t u : DG} {sl sl2 : List Nat} (ha : PG X a (TGd (bk X) t sl)) (hb : PG X b (TGd (bk X) u sl2)) (hc : X.calm = true := by rfl) (hstar : (assignEach [a, .Starred b p2] X.env).findIdx? (·.1) = some 1 := by rfl)
    (h1 : (assignEach [a, .Starred b p2] X.env).map (·.2) = [assign a X.env, assign b X.env] := by rfl) : PG X (.Tuple [a, .Starred b p2] kk pos) (TGd (bk X) (gT1 t u) (sl ++ sl2)) := by
  refine ⟨fun pins s σ H v uv Q I r ⟨w, fr, fr', d, e, ok, f, rv, h, q⟩ => ?_⟩
  unfold gT1 at h
  split at h
  · rename_i x xs
    split at h
    · rename_i hlen
      cases q1 : t x fr with
      | none => rw [q1] at h; cases h
      | some fr1 =>
        rw [q1, Option.bind_some] at h
        cases rv with
        | tup sq rs =>
          cases rs with
          | @cons _ v0 _ vs r0 rt =>
            subst e
            cases r
            obtain ⟨its, ri, ht, hz⟩ := I.tuple (Same.seqT ok.sub sq)
            cases ri with
            | @cons _ u0 _ us q0 qt =>
              have hsz : (u0 :: us).toArray.size = us.length + 1 := by simp
              have hl2 := qt.length
              have hl3 := rt.length
              rw [assign_Tuple]
              refine wpAny_bind (wpAny_standAt ?_)
              have hlen2 : (assignEach [a, .Starred b p2] X.env).length = 2 := by rw [← List.length_map (f := (·.2)), h1]; rfl
              unfold unpack
              rw [hlen2, hstar]
              refine wpAny_bind (wpAny_holding (starred_tup ht (I.ok.hd hc) (by decide) (by rw [hsz]; omega) (by rw [hsz]; omega) fun D h' tk hD hk hDo => ?_))
              rw [h1]
              have em : ((u0 :: us).toArray.toList.drop 1).take ((u0 :: us).toArray.size + 1 - 2) = us := by rw [hsz]; simp
              have em2 : ((u0 :: us).toArray.toList.drop 1).drop ((u0 :: us).toArray.size + 1 - 2) = [] := by rw [hsz]; simp
              rw [em] at hDo
              rw [em2]
              have hHD : w.H D = none := by
                cases z : w.H D with
                | none => rfl
                | some o =>
                  obtain ⟨o', ho'⟩ := obj_there (I.hok D o z)
                  rw [hD] at ho'
                  cases ho'
              have I1 : Inv X pins σ (upd w.H D (.lst vs)) { s with heap := h', toks := tk } := Inv.laidN I hk hD hHD ⟨by rw [← hl3, sizeLine_eq]; omega, us, _, qt, hDo⟩
              have pe := PExt.new1 (o := HO.lst vs) ok.sub hHD
              have wx := w.pext ok pe
              show wpAny _ _ (assignInOrder [assign a X.env, assign b X.env] [u0, .ref D]) _ _ _
              refine assignInOrder_cons (thn (ha.run pins _ σ _ _ _ (fun σ1 H1 => ∃ w1 : Wd, w1.H = H1 ∧ w1.g = w.g ∧ (⟨w.M, w.g, upd w.P D (.lst vs), upd w.H D (.lst vs)⟩ : Wd).Ext w1 ∧ w1.Ok (bk X) ∧ FrOk (bk X) w1 fr1 σ1 ∧ SameBut sl σ σ1) I1 q0
                ⟨⟨w.M, w.g, upd w.P D (.lst vs), upd w.H D (.lst vs)⟩, fr, fr1, x, rfl, wx.2, f.mono wx.1, RV.mono pe.sP r0, q1, fun w1 σ1 g1 x1 o1 f1 sb1 => ⟨w1, rfl, g1, x1, o1, f1, sb1⟩⟩) fun _ s1 ⟨σ1, H1, J1, w1, eH, g1, x1, o1, f1, sb1⟩ => ?_)
              subst eH
              refine assignInOrder_cons (thn (hb.run pins s1 σ1 _ (.ref D) (.ref D) Q J1 rfl ⟨w1, fr1, fr', .lst xs, rfl, o1, f1, .lst (.inl (x1.P _ _ upd_same)) (RVs.mono x1.P (RVs.mono pe.sP rt)), h, fun w2 σ2 g2 x2 o2 f2 sb2 => q w2 σ2 (g2.trans g1) (wx.1.trans (x1.trans x2)) o2 f2 (sb1.trans sb2)⟩) fun _ s2 hh => ?_)
              exact assignInOrder_nil hh
    · cases h
  · cases h
def oIn (x y : D) : Option D := match y with
  | .tup ys => if plains ys && (x.plain && decide (min (deps ys) x.dep ≤ 150)) then some (.bl (ys.any fun z => deq z x)) else none
  | .lst ys => if plains ys && (x.plain && decide (min (deps ys) x.dep ≤ 150)) then some (.bl (ys.any fun z => deq z x)) else none
  | _ => none
def oNin (x y : D) : Option D := match oIn x y with | some (.bl b) => some (.bl (!b)) | _ => none
theorem pys_any (ys : List D) (x : D) : ((pys ys).any fun z => PyData.eqv z x.py) = ys.any fun z => deq z x := by
  induction ys with
  | nil => rfl
  | cons y ys ih => simp only [pys, List.any_cons, ih]; rfl
mutual
theorem plain_py : ∀ d : D, d.plain = true → d.py.plain = true
  | .non, _ => rfl
  | .bl _, _ => rfl
  | .int _, _ => rfl
  | .str _, _ => rfl
  | .tup xs, h => by simp only [D.plain] at h; simp only [D.py, PyData.plain]; exact plains_py xs h
  | .lst xs, h => by simp only [D.plain] at h; simp only [D.py, PyData.plain]; exact plains_py xs h
  | .dct _, h => by cases h
  | .obj _ _, h => by cases h
  | .ty _, h => by cases h
  | .cls _, h => by cases h
  | .exn _ _ _ _ _ _, h => by cases h
  | .scr _, h => by cases h
theorem plains_py : ∀ ds : List D, plains ds = true → PyData.plainAll (pys ds) = true
  | [], _ => rfl
  | d :: ds, h => by
    simp only [plains, Bool.and_eq_true] at h
    simp only [pys, PyData.plainAll, plain_py d h.1, plains_py ds h.2, Bool.and_self]
end
theorem SV.reads_in {X : Cx} {pins : List (Addr × Obj)} {σ : L2.St} {H P : Hp} {s : Shared} (I : Inv X pins σ H s) (sub : Sub P H) {ys : List D} {y : V} {u : Value} (h : SV (bk X) P H (.lst ys) y) (p : plains ys = true) (r : RelV y u) : ∃ as, Reads s.heap u (.list (pys ys)) as :=
  SV.reads I sub (d := .lst ys) h (by simpa [D.plain] using p) r
theorem op_din {k : Nat} (hr : Room k X.A) : OpR X (compareOp .In) (rD (bk X) oIn) := by
  intro pins s σ H x y v u Q I rx ry ⟨P, dx, dy, d, sub, sx, sy, e, q⟩
  have hu := room200 hr
  unfold oIn at e
  split at e
  · split at e
    · rename_i ys hh
      cases e
      simp only [Bool.and_eq_true, decide_eq_true_eq] at hh
      obtain ⟨as, r1⟩ := sx.reads I sub hh.2.1 rx
      obtain ⟨bs, r2⟩ := SV.reads I sub (d := .tup ys) sy (by simpa [D.plain] using hh.1) ry
      refine SeqAt.in_tuple_data r2 r1 (plains_py _ hh.1) (plain_py _ hh.2.1) ?_ ⟨.bl _, H, I, rfl, ?_⟩
      · rw [deps_py _ hh.1, dep_py _ hh.2.1]; omega
      · rw [pys_any]; exact q P H _ (.refl sub) .bl
    · cases e
  · split at e
    · rename_i ys hh
      cases e
      simp only [Bool.and_eq_true, decide_eq_true_eq] at hh
      obtain ⟨as, r1⟩ := sx.reads I sub hh.2.1 rx
      obtain ⟨bs, r2⟩ := SV.reads I sub (d := .lst ys) sy (by simpa [D.plain] using hh.1) ry
      refine SeqAt.in_list_data r2 r1 (plains_py _ hh.1) (plain_py _ hh.2.1) ?_ ⟨.bl _, H, I, rfl, ?_⟩
      · rw [deps_py _ hh.1, dep_py _ hh.2.1]; omega
      · rw [pys_any]; exact q P H _ (.refl sub) .bl
    · cases e
  · cases e
theorem op_dnin {k : Nat} (hr : Room k X.A) : OpR X (compareOp .NotIn) (rD (bk X) oNin) := by
  intro pins s σ H x y v u Q I rx ry ⟨P, dx, dy, d, sub, sx, sy, e, q⟩
  have hu := room200 hr
  unfold oNin oIn at e
  split at e
  · rename_i b e1
    split at e1
    · split at e1
      · rename_i ys hh
        cases e1
        cases e
        simp only [Bool.and_eq_true, decide_eq_true_eq] at hh
        obtain ⟨as, r1⟩ := sx.reads I sub hh.2.1 rx
        obtain ⟨bs, r2⟩ := SV.reads I sub (d := .tup ys) sy (by simpa [D.plain] using hh.1) ry
        refine SeqAt.notIn_tuple_data r2 r1 (plains_py _ hh.1) (plain_py _ hh.2.1) ?_ ⟨.bl _, H, I, rfl, ?_⟩
        · rw [deps_py _ hh.1, dep_py _ hh.2.1]; omega
        · rw [pys_any]; exact q P H _ (.refl sub) .bl
      · cases e1
    · split at e1
      · rename_i ys hh
        cases e1
        cases e
        simp only [Bool.and_eq_true, decide_eq_true_eq] at hh
        obtain ⟨as, r1⟩ := sx.reads I sub hh.2.1 rx
        obtain ⟨bs, r2⟩ := SV.reads I sub (d := .lst ys) sy (by simpa [D.plain] using hh.1) ry
        refine SeqAt.notIn_list_data r2 r1 (plains_py _ hh.1) (plain_py _ hh.2.1) ?_ ⟨.bl _, H, I, rfl, ?_⟩
        · rw [deps_py _ hh.1, dep_py _ hh.2.1]; omega
        · rw [pys_any]; exact q P H _ (.refl sub) .bl
      · cases e1
    · cases e1
  · cases e
def cut {α : Type} (xs : List α) (lo hi : Option Int) : List α := (xs.drop (HT.sIx xs.length 0 lo)).take (HT.sIx xs.length xs.length hi - HT.sIx xs.length 0 lo)
def oSl (d : D) (lo hi : Option Int) : Option D := match d with
  | .tup xs => some (.tup (cut xs lo hi))
  | .lst xs => some (.lst (cut xs lo hi))
  | .str z => if z.length ≤ sizeLine then some (.str (Txt.slice z lo hi)) else none
  | _ => none
theorem RVs.cut {P : Hp} {ds : List D} {vs : List V} (h : RVs K P ds vs) (lo hi : Option Int) : RVs K P (Dn.cut ds lo hi) (cutV vs lo hi) := by
  unfold Dn.cut cutV
  rw [h.length]
  exact (h.drop _).take _
def rSl (K : Bk) : V → Option Int → Option Int → Hp → VK → Prop := fun x lo hi H Q => ∃ (P : Hp) (dx d : D), Sub P H ∧ SV K P H dx x ∧ oSl dx lo hi = some d ∧ ∀ P' H' v, PExt P H P' H' → RV K P' d v → Q v H'
theorem sl_d : SlR X (rSl (bk X)) := by
  intro pins s σ H x v vl vu lo hi sl Q I rx hs pl pu ⟨P, dx, d, sub, sv, e, q⟩
  unfold oSl at e
  split at e
  · cases e
    obtain ⟨a, vs, rfl, ha, ra⟩ := sv.tup sub
    refine sl_tupA pins s σ H _ v vl vu lo hi sl Q I rx hs pl pu ⟨a, vs, rfl, Same.seqT sub ha, fun hw => ?_, fun hw p hp => q _ _ _ (.new1 sub hp) (.tup (SqT.of upd_same) ((RVs.mono (PExt.new1 sub hp).sP ra).cut lo hi))⟩
    refine q P H _ (.refl sub) (.tup ha ?_)
    have e1 : ∀ ys : List D, ys.length = vs.length → cut ys lo hi = ys := fun ys hl => by
      unfold cut
      rw [hl, hw.1, hw.2]
      simp [← hl]
    rw [e1 _ ra.length]
    exact ra
  · cases e
    obtain ⟨a, vs, rfl, ha, ra⟩ := sv
    exact sl_list pins s σ H _ v vl vu lo hi sl Q I rx hs pl pu ⟨a, vs, rfl, .inl ha, fun p hp => q _ _ _ (.new1 sub hp) (.lst (.inl upd_same) ((RVs.mono (PExt.new1 sub hp).sP ra).cut lo hi))⟩
  · split at e
    · rename_i hz
      cases e
      cases sv.str
      exact C8.sl_txt pins s σ H _ v vl vu lo hi sl Q I rx hs pl pu ⟨_, rfl, hz, q P H _ (.refl sub) .str⟩
    · cases e
  · cases e
def mPart (m : Option DE) (fr : Fr) (g : GH) (k : Option Int → GH → Res) : Res := match m with
  | none => k none g
  | some m => (m fr g).bind fun x g1 => match x with | .v (.int i) => k (some i) g1 | _ => .bad
def mSl (ml mh : Option DE) (m : DE) : DE := fun fr g => (m fr g).bind fun x g1 => mPart ml fr g1 fun l g2 => mPart mh fr g2 fun u g3 => ofO ((asD g3 x).bind fun d => oSl d l u) g3
def TPo (K : Bk) (W : WX) (m : Option DE) : TO := match m with
  | none => tNoPart
  | some m => tPart (T K W m)
theorem dpo_none : PO X none (TPo K W none) := po_none
theorem dpo_some {e : Expr} {m : DE} (h : PE X e (T K W m)) : PO X (some e) (TPo K W (some m)) := po_some h
theorem TPo.go {m : Option DE} {w : Wd} {fr : Fr} {σ : L2.St} {k : Option Int → GH → Res} {Q : VK} {R : Option Int → Hp → Prop} (ok : w.Ok K) (f : FrOk K w fr σ) (h : Fin K W w σ (mPart m fr w.g k) Q)
    (hk : ∀ o w1, w.Ext w1 → w1.Ok K → Fin K W w1 σ (k o w1.g) Q → R o w1.H) : TPo K W m σ w.H R := by
  cases m with
  | none => exact hk none w (.refl w) ok h
  | some m =>
    refine ⟨w, fr, rfl, ok, f, Fin.bind h fun x w1 v e1 o1 r1 h1 => ?_⟩
    cases x with
    | r _ => exact h1.elim
    | v d =>
      cases d with
      | int i =>
        have r1' : RV K w1.P (.int i) v := r1
        cases r1'
        exact ⟨i, rfl, hk (some i) w1 e1 o1 h1⟩
      | _ => exact h1.elim
theorem de_sl {e : Expr} {lo hi : Option Expr} {m : DE} {ml mh : Option DE} {p2 pos : Pos} (he : PE X e (T (bk X) W m)) (hl : PO X lo (TPo (bk X) W ml)) (hh : PO X hi (TPo (bk X) W mh)) : PE X (.Subscript e (.Slice lo hi none p2) pos) (T (bk X) W (mSl ml mh m)) := by
  refine PE.imp (pe_slice sl_d he hl hh) fun σ H Q ⟨w, fr, eH, ok, f, h⟩ => ?_
  subst eH
  refine ⟨w, fr, rfl, ok, f, Fin.bind h fun x w1 v e1 o1 r1 h1 => TPo.go o1 (f.mono e1) h1 fun l w2 e2 o2 h2 => TPo.go o2 ((f.mono e1).mono e2) h2 fun u w3 e3 o3 h3 => ?_⟩
  cases q : asD w3.g x with
  | none => rw [q] at h3; exact h3.elim
  | some d =>
    rw [q, Option.bind_some] at h3
    cases q2 : oSl d l u with
    | none => rw [q2] at h3; exact h3.elim
    | some d' =>
      rw [q2] at h3
      exact ⟨w3.P, d, d', o3.sub, RL.sv o3 ((r1.mono e2).mono e3) q, q2, fun P' H' v pe r => Fin.data o3 h3 pe r⟩
def rM (K : Bk) (op : D → List D → Option D) : V → List V → Hp → VK → Prop := fun x vs H Q => ∃ (P : Hp) (dx : D) (ds : List D) (d : D), Sub P H ∧ SV K P H dx x ∧ SVs K P H ds vs ∧ op dx ds = some d ∧ ∀ P' H' v, PExt P H P' H' → RV K P' d v → Q v H'
/-- the type that a method is looked up in -/
def tyOf (ty : String) : D → Bool
  | .str _ => ty == "str"
  | .lst _ => ty == "list"
  | _ => false
def mM (ty : String) (op : D → List D → Option D) (o : DE) (a : DA) : DE := fun fr g => (o fr g).bind fun x g1 => match asD g1 x with
  | some d0 => if tyOf ty d0 = true then (a fr g1).bind fun ys g2 => ofO ((asD g2 x).bind fun d => (asDs g2 ys).bind fun ds => op d ds) g2 else .bad
  | none => .bad
theorem SV.tyv {P H : Hp} {ty : String} {d : D} {x : V} (h : SV K P H d x) (t : tyOf ty d = true) : tyV K.K ty x H := by
  cases d with
  | str z => cases h.str; exact eq_of_beq t
  | lst xs => obtain ⟨a, vs, rfl, ha, _⟩ := h; exact .inl ⟨eq_of_beq t, vs, .inl ha⟩
  | _ => cases t
theorem Fin.mth {ty : String} {op : D → List D → Option D} {w w1 : Wd} {fr : Fr} {σ : L2.St} {x : LV} {v : V} {ys : List LV} {vs : List V} {Q : VK} (ok : w.Ok K) (rx : RL K w x v) (rs : RLs K w ys vs)
    (h : Fin K W w σ (ofO ((asD w.g x).bind fun d => (asDs w.g ys).bind fun ds => op d ds) w.g) Q) : rM K op v vs w.H Q := by
  cases q1 : asD w.g x with
  | none => rw [q1] at h; exact h.elim
  | some d =>
    cases q2 : asDs w.g ys with
    | none => rw [q1, q2] at h; exact h.elim
    | some ds =>
      rw [q1, q2, Option.bind_some, Option.bind_some] at h
      cases q3 : op d ds with
      | none => rw [q3] at h; exact h.elim
      | some d' =>
        rw [q3] at h
        exact ⟨w.P, d, ds, d', ok.sub, rx.sv ok q1, rs.sv ok q2, q3, fun P' H' v' e r => Fin.data ok h e r⟩
theorem de_mth {ty : String} {name : Str} {id : String} {op : D → List D → Option D} {o e : Expr} {es : List Expr} {apos cpos : Pos} {mo : DE} {ma : DA} (pa : PlainAttrs ty) (slot : Slot ty name id) (hty : typeOf (.builtin id) = pure (.type "method_descriptor")) (hm : MtR X id (rM (bk X) op)) (ho : PE X o (T (bk X) W mo)) (ha : PA X (e :: es) (TA' (bk X) W ma))
    (hbase : attributeBase o name X.env (eval o X.env) = eval o X.env := by rfl)
    (hfew : ((backTo cpos (starEach (e :: es) X.env)).all (fun x => !x.1) && (backToKw cpos (keywordEach [] X.env)).all (fun x => x.1.isSome)
      && decide ((e :: es).length + ([] : List Keyword).length + (if ([] : List Keyword).isEmpty then 0 else 1) < 30)) = true := by rfl)
    (hline : (apos.endLine == cpos.line) = true := by rfl) (hs : starEach (e :: es) X.env = (false, eval e X.env) :: starEach es X.env := by rfl) (hplain : (backTo cpos (starEach es X.env)).any (·.1) = false := by rfl) :
    PE X (.Call (.Attribute o name apos) (e :: es) [] cpos) (T (bk X) W (mM ty op mo ma)) := by
  refine PE.imp (pe_bm pa slot hty hm ho ha hbase hfew hline hs hplain) fun σ H Q ⟨w, fr, eH, ok, f, h⟩ => ?_
  subst eH
  refine ⟨w, fr, rfl, ok, f, Fin.bind h fun x w1 v e1 o1 r1 h => ?_⟩
  cases q0 : asD w1.g x with
  | none => rw [q0] at h; exact h.elim
  | some d0 =>
    rw [q0] at h
    by_cases ht : tyOf ty d0 = true
    · simp only [if_pos ht] at h
      exact ⟨(r1.sv o1 q0).tyv ht, w1, fr, rfl, o1, f.mono e1, FinA.bind h fun ys w2 us e2 o2 r2 h => Fin.mth (w1 := w1) (ty := ty) (fr := fr) o2 (r1.mono e2) r2 h⟩
    · simp only [if_neg ht] at h; exact h.elim
/-- .. without arguments -/
def mM0 (ty : String) (op : D → List D → Option D) (o : DE) : DE := fun fr g => (o fr g).bind fun x g1 => match asD g1 x with
  | some d0 => if tyOf ty d0 = true then ofO (op d0 []) g1 else .bad
  | none => .bad
theorem de_mth0 {ty : String} {name : Str} {id : String} {op : D → List D → Option D} {o : Expr} {apos cpos : Pos} {mo : DE} (pa : PlainAttrs ty) (slot : Slot ty name id) (hty : typeOf (.builtin id) = pure (.type "method_descriptor")) (hm : MtR X id (rM (bk X) op)) (ho : PE X o (T (bk X) W mo))
    (hbase : attributeBase o name X.env (eval o X.env) = eval o X.env := by rfl) (hline : (apos.endLine == cpos.line) = true := by rfl) :
    PE X (.Call (.Attribute o name apos) [] [] cpos) (T (bk X) W (mM0 ty op mo)) := by
  refine PE.imp (pe_bm0 pa slot hty hm ho hbase hline) fun σ H Q ⟨w, fr, eH, ok, f, h⟩ => ?_
  subst eH
  refine ⟨w, fr, rfl, ok, f, Fin.bind h fun x w1 v e1 o1 r1 h => ?_⟩
  cases q0 : asD w1.g x with
  | none => rw [q0] at h; exact h.elim
  | some d0 =>
    rw [q0] at h
    by_cases ht : tyOf ty d0 = true
    · simp only [if_pos ht] at h
      cases q3 : op d0 [] with
      | none => rw [q3] at h; exact h.elim
      | some d' =>
        rw [q3] at h
        exact ⟨(r1.sv o1 q0).tyv ht, w1.P, d0, [], d', o1.sub, r1.sv o1 q0, .nil, q3, fun P' H' v' e r => Fin.data o1 h e r⟩
    · simp only [if_neg ht] at h; exact h.elim
def oCount (d : D) (ds : List D) : Option D := match d, ds with
  | .lst ys, [x] => if plains ys && (x.plain && decide (min (deps ys) x.dep ≤ 150)) then some (.int ((ys.countP fun z => deq z x : Nat) : Int)) else none
  | _, _ => none
theorem pys_count (ys : List D) (x : D) : ((pys ys).countP fun z => PyData.eqv z x.py) = ys.countP fun z => deq z x := by
  induction ys with
  | nil => rfl
  | cons y ys ih => simp only [pys, List.countP_cons, ih]; rfl
theorem mt_dcount {k : Nat} (hr : Room k X.A) : MtR X "list.count" (rM (bk X) oCount) := by
  intro pins s σ H x xs v us Q I rx rs ⟨P, dx, ds, d, sub, sx, sv, e, q⟩
  have hu := room200 hr
  unfold oCount at e
  split at e
  · rename_i ys z
    split at e
    · rename_i hh
      cases e
      simp only [Bool.and_eq_true, decide_eq_true_eq] at hh
      obtain ⟨y, rfl, sy⟩ := sv.one
      obtain ⟨u, rfl, ru⟩ := rs.one
      obtain ⟨as, r1⟩ := sy.reads I sub hh.2.1 ru
      obtain ⟨bs, r2⟩ := SV.reads I sub (d := .lst ys) sx (by simpa [D.plain] using hh.1) rx
      cases r2 with
      | list h1 h2 h3 h4 =>
        refine SeqAt.count_list_data (A := X.A) ⟨_, h1, h2, _, h3⟩ h4 r1 (plains_py _ hh.1) (plain_py _ hh.2.1) ?_ ⟨.int _, H, I.tok _, ⟨_, rfl⟩, ?_⟩
        · rw [deps_py _ hh.1, dep_py _ hh.2.1]; omega
        · rw [pys_count]; exact q P H _ (.refl sub) .int
    · cases e
  · cases e
/-- op: the items, the arguments; the items then, what is told -/
abbrev OpM := List D → List D → Option (List D × D)
def rMu (K : Bk) (op : OpM) : V → List V → Hp → VK → Prop := fun x vs H Q => ∃ (l : Addr) (P : Hp) (xs ds xs' : List D) (us : List V) (d : D), x = .ref l ∧ Sub P H ∧ H l = some (.lst us) ∧ RVs K P xs us ∧ RVs K P ds vs ∧ op xs ds = some (xs', d) ∧
  ∀ us' v, RVs K P xs' us' → RV K P d v → Q v (upd H l (.lst us'))
def mMut (op : OpM) (o : DE) (a : DA) : DE := fun fr g => (o fr g).bind fun x g1 => if (lstAt g1 x).isSome = true then (a fr g1).bind fun ys g2 => match takes g2 ys with
  | some (ds, g3) => (match lstAt g3 x with
      | some (k, xs) => (match op xs ds with | some (xs', d) => .ok (.v d) (g3.set k (.lst xs')) | none => .bad)
      | none => .bad)
  | none => .bad else .bad
theorem Fin.mut {op : OpM} {w : Wd} {σ : L2.St} {x : LV} {v : V} {ys : List LV} {vs : List V} {Q : VK} (ok : w.Ok K) (rx : RL K w x v) (rs : RLs K w ys vs)
    (h : Fin K W w σ (match takes w.g ys with
      | some (ds, g3) => (match lstAt g3 x with
          | some (k, xs) => (match op xs ds with | some (xs', d) => .ok (.v d) (g3.set k (.lst xs')) | none => .bad)
          | none => .bad)
      | none => .bad) Q) : rMu K op v vs w.H Q := by
  cases q : takes w.g ys with
  | none => simp only [q] at h; exact h.elim
  | some p =>
    obtain ⟨ds, g3⟩ := p
    simp only [q] at h
    obtain ⟨w3, e3, h3, x3, o3, r3⟩ := Wd.takes ok rs q
    subst e3
    have h := h.shift x3
    cases q1 : lstAt w3.g x with
    | none => simp only [q1] at h; exact h.elim
    | some p1 =>
      obtain ⟨k, xs⟩ := p1
      obtain ⟨rfl, hk, hg⟩ := lstAt_some q1
      simp only [q1] at h
      obtain ⟨us, ev, _, hH, ru⟩ := RL.lst o3 (RL.mono x3 rx) hg
      cases q2 : op xs ds with
      | none => simp only [q2] at h; exact h.elim
      | some p2 =>
        obtain ⟨xs', d⟩ := p2
        simp only [q2] at h
        refine ⟨w3.M k, w3.P, xs, ds, xs', us, d, ev, by rw [← h3]; exact o3.sub, by rw [← h3]; exact hH, ru, r3, q2, fun us' v' ru' rd => ?_⟩
        obtain ⟨w4, g4, h4, x4, o4⟩ := w3.putL o3 hk hg ru'
        rw [← h3, ← h4]
        exact h w4 g4 x4 o4 v' (RV.mono x4.P rd)
theorem de_mut {name : Str} {id : String} {op : OpM} {o e : Expr} {es : List Expr} {apos cpos : Pos} {mo : DE} {ma : DA} (slot : Slot "list" name id) (hty : typeOf (.builtin id) = pure (.type "method_descriptor")) (hm : MtM X id (rMu (bk X) op)) (ho : PE X o (T (bk X) W mo)) (ha : PA X (e :: es) (TA' (bk X) W ma))
    (hbase : attributeBase o name X.env (eval o X.env) = eval o X.env := by rfl)
    (hfew : ((backTo cpos (starEach (e :: es) X.env)).all (fun x => !x.1) && (backToKw cpos (keywordEach [] X.env)).all (fun x => x.1.isSome)
      && decide ((e :: es).length + ([] : List Keyword).length + (if ([] : List Keyword).isEmpty then 0 else 1) < 30)) = true := by rfl)
    (hline : (apos.endLine == cpos.line) = true := by rfl) (hs : starEach (e :: es) X.env = (false, eval e X.env) :: starEach es X.env := by rfl) (hplain : (backTo cpos (starEach es X.env)).any (·.1) = false := by rfl) :
    PE X (.Call (.Attribute o name apos) (e :: es) [] cpos) (T (bk X) W (mMut op mo ma)) := by
  refine PE.imp (pe_bm PySem.F.plainAttrs_list slot hty hm ho ha hbase hfew hline hs hplain) fun σ H Q ⟨w, fr, eH, ok, f, h⟩ => ?_
  subst eH
  refine ⟨w, fr, rfl, ok, f, Fin.bind h fun x w1 v e1 o1 r1 h => ?_⟩
  cases q0 : lstAt w1.g x with
  | none => rw [q0] at h; exact h.elim
  | some p0 =>
    obtain ⟨k0, xs0⟩ := p0
    obtain ⟨rfl, hk0, hg0⟩ := lstAt_some q0
    rw [q0] at h
    obtain ⟨vs0, rfl, _, hH0, _⟩ := RL.lst o1 r1 hg0
    exact ⟨.inl ⟨rfl, _, SqL.of hH0⟩, w1, fr, rfl, o1, f.mono e1, FinA.bind h fun ys w2 us e2 o2 r2 h => Fin.mut o2 (RL.mono e2 r1) r2 h⟩
def mMut0 (op : OpM) (o : DE) : DE := fun fr g => (o fr g).bind fun x g1 => match lstAt g1 x with
  | some (k, xs) => (match op xs [] with | some (xs', d) => .ok (.v d) (g1.set k (.lst xs')) | none => .bad)
  | none => .bad
theorem de_mut0 {name : Str} {id : String} {op : OpM} {o : Expr} {apos cpos : Pos} {mo : DE} (slot : Slot "list" name id) (hty : typeOf (.builtin id) = pure (.type "method_descriptor")) (hm : MtM X id (rMu (bk X) op)) (ho : PE X o (T (bk X) W mo))
    (hbase : attributeBase o name X.env (eval o X.env) = eval o X.env := by rfl) (hline : (apos.endLine == cpos.line) = true := by rfl) :
    PE X (.Call (.Attribute o name apos) [] [] cpos) (T (bk X) W (mMut0 op mo)) := by
  refine PE.imp (pe_bm0 PySem.F.plainAttrs_list slot hty hm ho hbase hline) fun σ H Q ⟨w, fr, eH, ok, f, h⟩ => ?_
  subst eH
  refine ⟨w, fr, rfl, ok, f, Fin.bind h fun x w1 v e1 o1 r1 h => ?_⟩
  cases q0 : lstAt w1.g x with
  | none => rw [q0] at h; exact h.elim
  | some p0 =>
    obtain ⟨k0, xs0⟩ := p0
    rw [q0] at h
    obtain ⟨rfl, hk0, hg0⟩ := lstAt_some q0
    obtain ⟨vs0, ev, _, hH0, ru⟩ := RL.lst o1 r1 hg0
    subst ev
    refine ⟨.inl ⟨rfl, _, SqL.of hH0⟩, ?_⟩
    simp only at h
    cases q2 : op xs0 [] with
    | none => simp only [q2] at h; exact h.elim
    | some p2 =>
      obtain ⟨xs', d⟩ := p2
      simp only [q2] at h
      refine ⟨_, w1.P, xs0, [], xs', vs0, d, rfl, o1.sub, hH0, ru, .nil, q2, fun us' v' ru' rd => ?_⟩
      obtain ⟨w4, g4, h4, x4, o4⟩ := w1.putL o1 hk0 hg0 ru'
      rw [← h4]
      exact h w4 g4 x4 o4 v' (RV.mono x4.P rd)
theorem RVs.one {P : Hp} {d : D} {vs : List V} (h : RVs K P [d] vs) : ∃ v, vs = [v] ∧ RV K P d v := by
  cases h with
  | cons r t => cases t; exact ⟨_, rfl, r⟩
def uExtend : OpM := fun xs ds => match ds with
  | [.lst ys] => if xs.length + ys.length ≤ sizeLine then some (xs ++ ys, .non) else none
  | _ => none
theorem mt_dextend : MtM X "list.extend" (rMu (bk X) uExtend) := by
  intro pins s σ H x xs v us Q I rx rs ⟨l, P, ls, ds, ls', ws, d, ex, sub, hH, ru, rd, e, q⟩
  unfold uExtend at e
  split at e
  · split at e
    · rename_i ys hz
      cases e
      obtain ⟨y, rfl, ry⟩ := rd.one
      obtain ⟨u, rfl, r2⟩ := rs.one
      subst ex
      cases rx
      cases ry with
      | @lst _ b zs hb rb =>
        cases r2
        obtain ⟨z, its, n, r, hl, ee⟩ := I.lstM hH
        obtain ⟨z2, its2, n2, r3, e2⟩ := Inv.rdL I (Same.rd sub hb)
        have l1 := ru.length
        have l2 := rb.length
        have l3 := r3.length
        have l4 := r.length
        have hsz : its.toArray.size + its2.toArray.size ≤ sizeLine := by rw [List.size_toArray, List.size_toArray]; omega
        have hlong : ¬ (!its.toArray.isEmpty && Builtin.List.listTooLong (its.toArray.size + its2.toArray.size)) = true := by
          rw [notLongL hsz, Bool.and_false]
          exact Bool.false_ne_true
        refine call_meets F.slot_list_extend ⟨_, ee, rfl⟩ F.entry_list_extend (F.args_list_extend_2 _ _) (AutoSeq1.list_extend_list_list_0 l its.toArray n b its2.toArray n2 hlong (by rw [List.size_toArray]; omega) (by omega)) ⟨ee, e2, ?_⟩
        refine ⟨.non, _, I.lset (its' := its ++ its2) hH ee (by simp) (r.append r3) ?_, rfl, q (ws ++ zs) .non (ru.append rb) .non⟩
        rw [List.length_append]
        rw [List.size_toArray, List.size_toArray] at hsz
        omega
    · cases e
  · cases e
def uPop : OpM := fun xs ds => match ds with
  | [] => (xs[xs.length - 1]?).map fun y => (xs.dropLast, y)
  | _ => none
theorem RVs.dropLast {P : Hp} {ds : List D} {vs : List V} (h : RVs K P ds vs) : RVs K P ds.dropLast vs.dropLast := by
  rw [List.dropLast_eq_take, List.dropLast_eq_take, h.length]
  exact h.take _
theorem mt_dpop : MtM X "list.pop" (rMu (bk X) uPop) := by
  intro pins s σ H x xs v us Q I rx rs ⟨l, P, ls, ds, ls', ws, d, ex, sub, hH, ru, rd, e, q⟩
  unfold uPop at e
  split at e
  · cases q2 : ls[ls.length - 1]? with
    | none => rw [q2] at e; cases e
    | some y =>
      rw [q2] at e
      cases e
      cases rd
      obtain ⟨u, hu, ruu⟩ := ru.get q2
      rw [ru.length] at hu
      exact mt_pop pins s σ H x [] v us Q I rx rs ⟨l, ws, u, ex, rfl, hH, hu, q ws.dropLast u ru.dropLast ruu⟩
  · cases e
def uClear : OpM := fun xs ds => match ds with
  | [] => some ([], .non)
  | _ => none
theorem mt_dclear : MtM X "list.clear" (rMu (bk X) uClear) := by
  intro pins s σ H x xs v us Q I rx rs ⟨l, P, ls, ds, ls', ws, d, ex, sub, hH, ru, rd, e, q⟩
  unfold uClear at e
  split at e
  · cases e
    cases rd
    exact mt_clear pins s σ H x [] v us Q I rx rs ⟨l, ws, ex, rfl, hH, q [] .non .nil .non⟩
  · cases e
end
end Dn
namespace Dn
open PySem PySem.Spec PyProof.Rows L2
section
variable {K : Bk} {W : WX} {X : Cx}
def intOf : D → Option Int
  | .int i => some i
  | _ => none
def numsD : List D → Option (List Int)
  | [] => some []
  | d :: ds => (intOf d).bind fun i => (numsD ds).map fun l => i :: l
theorem ints_eq : ∀ {ds : List D} {l : List Int}, numsD ds = some l → ds = l.map .int
  | [], l, e => by cases e; rfl
  | d :: ds, l, e => by
    simp only [numsD] at e
    cases d with
    | int i =>
      simp only [intOf, Option.bind_some] at e
      cases q : numsD ds with
      | none => rw [q] at e; cases e
      | some l' => rw [q] at e; cases e; rw [ints_eq q]; rfl
    | _ => cases e
theorem ints_map : ∀ l : List Int, numsD (l.map .int) = some l
  | [] => rfl
  | i :: l => by simp only [List.map_cons, numsD, intOf, Option.bind_some, ints_map l, Option.map_some]
theorem RVs.nums {P : Hp} : ∀ {l : List Int} {vs : List V}, RVs K P (l.map .int) vs → vs = l.map V.int
  | [], _, h => by cases h; rfl
  | i :: l, _, h => by
    cases h with
    | cons r t => cases r; rw [RVs.nums t]; rfl
def oSum (ds : List D) : Option D := match ds with
  | [.lst xs] => (numsD xs).map fun l => .int l.sum
  | _ => none
theorem c_sum (hc : X.calm = true) : CallR X (.builtin "sum") (rDs (bk X) oSum) := by
  intro pins s σ H xs us Q I r ⟨P, ds, d, sub, sv, e, q⟩
  unfold oSum at e
  split at e
  · rename_i ys
    cases q1 : numsD ys with
    | none => rw [q1] at e; cases e
    | some l =>
      rw [q1] at e
      cases e
      have := ints_eq q1
      subst this
      obtain ⟨x, rfl, h⟩ := sv.one
      obtain ⟨a, vs, rfl, ha, ra⟩ := h
      rw [ra.nums] at ha
      exact cr_sum hc pins s σ H _ us Q I r ⟨a, l, rfl, .inl ha, q P H _ (.refl sub) .int⟩
  · cases e
def lmax : List Int → Int
  | [] => 0
  | i :: l => l.foldl max i
def lmin : List Int → Int
  | [] => 0
  | i :: l => l.foldl min i
theorem foldl_max_le : ∀ (l : List Int) (i : Int), i ≤ l.foldl max i
  | [], i => Int.le_refl i
  | j :: l, i => Int.le_trans (Int.le_max_left i j) (foldl_max_le l (max i j))
theorem foldl_max_mem : ∀ (l : List Int) (i : Int), l.foldl max i = i ∨ l.foldl max i ∈ l
  | [], i => .inl rfl
  | j :: l, i => by
    rcases foldl_max_mem l (max i j) with h | h
    · rw [List.foldl_cons, h]
      rcases Int.le_total i j with z | z
      · rw [Int.max_eq_right z]; exact .inr (List.mem_cons_self ..)
      · rw [Int.max_eq_left z]; exact .inl rfl
    · exact .inr (List.mem_cons_of_mem _ h)
theorem foldl_max_all : ∀ (l : List Int) (i y : Int), y ∈ l → y ≤ l.foldl max i
  | [], i, y, h => by cases h
  | j :: l, i, y, h => by
    rw [List.foldl_cons]
    rcases List.mem_cons.mp h with h | h
    · subst h; exact Int.le_trans (Int.le_max_right i y) (foldl_max_le l _)
    · exact foldl_max_all l _ y h
theorem lmax_mem {l : List Int} (h : 0 < l.length) : lmax l ∈ l := by
  cases l with
  | nil => cases h
  | cons i l => rcases foldl_max_mem l i with z | z; · show l.foldl max i ∈ _; rw [z]; exact List.mem_cons_self ..
                · exact List.mem_cons_of_mem _ z
theorem lmax_all {l : List Int} {y : Int} (h : y ∈ l) : y ≤ lmax l := by
  cases l with
  | nil => cases h
  | cons i l =>
    rcases List.mem_cons.mp h with h | h
    · subst h; exact foldl_max_le l y
    · exact foldl_max_all l i y h
theorem foldl_min_neg : ∀ (l : List Int) (i : Int), l.foldl min i = -(l.map fun x => -x).foldl max (-i)
  | [], i => by simp
  | j :: l, i => by
    rw [List.foldl_cons, List.map_cons, List.foldl_cons, foldl_min_neg l]
    congr 2
    omega
theorem lmin_neg (l : List Int) : lmin l = -lmax (l.map fun x => -x) := by
  cases l with
  | nil => rfl
  | cons i l => exact foldl_min_neg l i
theorem lmin_mem {l : List Int} (h : 0 < l.length) : lmin l ∈ l := by
  rw [lmin_neg]
  have := lmax_mem (l := l.map fun x => -x) (by simpa using h)
  rw [List.mem_map] at this
  obtain ⟨a, ha, e⟩ := this
  rw [← e]
  simpa using ha
theorem lmin_all {l : List Int} {y : Int} (h : y ∈ l) : lmin l ≤ y := by
  rw [lmin_neg]
  have := lmax_all (l := l.map fun x => -x) (y := -y) (List.mem_map.mpr ⟨y, h, rfl⟩)
  omega
/-- max, min: of two numbers, of a list of numbers -/
def oMaxP (x y : D) : Option D := match x, y with
  | .int i, .int j => some (.int (if j > i then j else i))
  | _, _ => none
def oMaxL (x : D) : Option D := match x with
  | .lst xs => (numsD xs).bind fun l => if 0 < l.length then some (.int (lmax l)) else none
  | _ => none
def oMax (ds : List D) : Option D := match ds with
  | [x] => oMaxL x
  | [x, y] => oMaxP x y
  | _ => none
def oMinP (x y : D) : Option D := match x, y with
  | .int i, .int j => some (.int (if j < i then j else i))
  | _, _ => none
def oMinL (x : D) : Option D := match x with
  | .lst xs => (numsD xs).bind fun l => if 0 < l.length then some (.int (lmin l)) else none
  | _ => none
def oMin (ds : List D) : Option D := match ds with
  | [x] => oMinL x
  | [x, y] => oMinP x y
  | _ => none
theorem c_max (hc : X.calm = true) : CallR X (.builtin "max") (rDs (bk X) oMax) := by
  intro pins s σ H xs us Q I r ⟨P, ds, d, sub, sv, e, q⟩
  unfold oMax at e
  split at e
  rotate_left
  · unfold oMaxP at e
    split at e
    · exact c_max2 hc pins s σ H xs us Q I r ⟨P, _, d, sub, sv, e, q⟩
    · cases e
  · cases e
  unfold oMaxL at e
  split at e
  · rename_i ys
    cases q1 : numsD ys with
    | none => rw [q1] at e; cases e
    | some l =>
      rw [q1, Option.bind_some] at e
      split at e
      · rename_i hl
        cases e
        have := ints_eq q1
        subst this
        obtain ⟨x, rfl, h⟩ := sv.one
        obtain ⟨a, vs, rfl, ha, ra⟩ := h
        rw [ra.nums] at ha
        refine cr_max hc pins s σ H _ us Q I r ⟨a, l, rfl, .inl ha, hl, fun m hm hall => ?_⟩
        have : m = lmax l := Int.le_antisymm (lmax_all hm) (hall _ (lmax_mem hl))
        rw [this]
        exact q P H _ (.refl sub) .int
      · cases e
  · cases e
theorem c_min (hc : X.calm = true) : CallR X (.builtin "min") (rDs (bk X) oMin) := by
  intro pins s σ H xs us Q I r ⟨P, ds, d, sub, sv, e, q⟩
  unfold oMin at e
  split at e
  rotate_left
  · unfold oMinP at e
    split at e
    · exact c_min2 hc pins s σ H xs us Q I r ⟨P, _, d, sub, sv, e, q⟩
    · cases e
  · cases e
  unfold oMinL at e
  split at e
  · rename_i ys
    cases q1 : numsD ys with
    | none => rw [q1] at e; cases e
    | some l =>
      rw [q1, Option.bind_some] at e
      split at e
      · rename_i hl
        cases e
        have := ints_eq q1
        subst this
        obtain ⟨x, rfl, h⟩ := sv.one
        obtain ⟨a, vs, rfl, ha, ra⟩ := h
        rw [ra.nums] at ha
        refine cr_min hc pins s σ H _ us Q I r ⟨a, l, rfl, .inl ha, hl, fun m hm hall => ?_⟩
        have : m = lmin l := Int.le_antisymm (hall _ (lmin_mem hl)) (lmin_all hm)
        rw [this]
        exact q P H _ (.refl sub) .int
      · cases e
  · cases e
def rDK (K : Bk) (op : List D → List D → Option D) : List V → List V → Hp → VK → Prop := fun xs zs H Q => ∃ (P : Hp) (ds es : List D) (d : D), Sub P H ∧ SVs K P H ds xs ∧ RVs K P es zs ∧ op ds es = some d ∧ ∀ P' H' v, PExt P H P' H' → RV K P' d v → Q v H'
def mFnK (op : List D → List D → Option D) (a b : DA) : DE := fun fr g => (a fr g).bind fun xs g1 => (b fr g1).bind fun ys g2 => match takes g2 ys with
  | some (es, g3) => ofO ((asDs g3 xs).bind fun ds => op ds es) g3
  | none => .bad
theorem de_fnK {op : List D → List D → Option D} {ks : List Str} {id : String} {x : Str} {p pos : Pos} {e : Expr} {es : List Expr} {kws : List Keyword} {ma mb : DA} (hc : CallRK X (.builtin id) ks (rDK K op)) (hm : X.mg x = none) (hv : bootBuiltins x = some (.builtin id)) (ha : PA X (e :: es) (TA' K W ma)) (hk : PK X kws (TA' K W mb))
    (hks : (backToKw pos (keywordEach kws X.env)).filterMap (·.1) = ks := by rfl) (hg : Gl X x := by rfl) (hn : x ≠ "__name__" := by decide) (hdb : (x == ("__debug__" : Str)) = false := by decide)
    (he : backTo pos (starEach (e :: es) X.env) = (false, eval e X.env) :: backTo pos (starEach es X.env) := by rfl) (hpl : (backTo pos (starEach (e :: es) X.env)).any (·.1) = false := by rfl)
    (hall : (backToKw pos (keywordEach kws X.env)).all (·.1.isSome) = true := by rfl) (hnone : (backToKw pos (keywordEach kws X.env)).any (·.1.isNone) = false := by rfl) : PE X (.Call (.Name x p) (e :: es) kws pos) (T K W (mFnK op ma mb)) := by
  refine PE.imp (pe_callBK hc hg hm hv ha hk hn hdb he hpl hall hnone hks) fun σ H Q ⟨w, fr, eH, ok, f, h⟩ => ?_
  subst eH
  refine ⟨w, fr, rfl, ok, f, FinA.bind h fun xs w1 vs e1 o1 r1 h => ⟨w1, fr, rfl, o1, f.mono e1, FinA.bind h fun ys w2 us e2 o2 r2 h => ?_⟩⟩
  cases q : takes w2.g ys with
  | none => simp only [q] at h; exact h.elim
  | some p =>
    obtain ⟨es', g3⟩ := p
    simp only [q] at h
    obtain ⟨w3, e3, h3, x3, o3, r3⟩ := Wd.takes o2 r2 q
    subst e3
    have h := h.shift x3
    cases q1 : asDs w3.g xs with
    | none => rw [q1] at h; exact h.elim
    | some ds =>
      rw [q1, Option.bind_some] at h
      cases q3 : op ds es' with
      | none => rw [q3] at h; exact h.elim
      | some d =>
        rw [q3] at h
        rw [← h3]
        exact ⟨w3.P, ds, es', d, o3.sub, ((r1.mono e2).mono x3).sv o3 q1, r3, q3, fun P' H' v' e r => Fin.data o3 h e r⟩
theorem plains_int : ∀ l : List Int, plains (l.map D.int) = true
  | [] => rfl
  | i :: l => by simp only [List.map_cons, plains, D.plain, plains_int l, Bool.and_self]
theorem pys_int : ∀ l : List Int, pys (l.map D.int) = l.map PyData.int
  | [] => rfl
  | i :: l => by simp only [List.map_cons, pys, D.py, pys_int l]
theorem deps_int : ∀ l : List Int, deps (l.map D.int) ≤ 1
  | [] => by simp [deps]
  | i :: l => by
    have := deps_int l
    simp only [List.map_cons, deps, D.dep]
    omega
/-- max(xs, default=d) -/
def oMaxD (ds es : List D) : Option D := match ds, es with
  | [.lst xs], [d] => (numsD xs).map fun l => if l.isEmpty = true then d else .int (lmax l)
  | _, _ => none
theorem c_maxD {k : Nat} (hr : Room k X.A) (hc : X.calm = true) : CallRK X (.builtin "max") [("default" : Str)] (rDK (bk X) oMaxD) := by
  intro pins s σ H xs zs us ws Q I r rz ⟨P, ds, es, d, sub, sv, re, e, q⟩
  have hu := room200 hr
  unfold oMaxD at e
  split at e
  · rename_i ys d0
    cases q1 : numsD ys with
    | none => rw [q1] at e; cases e
    | some l =>
      rw [q1] at e
      cases e
      have := ints_eq q1
      subst this
      obtain ⟨x, rfl, h⟩ := sv.one
      obtain ⟨y, rfl, ry⟩ := re.one
      obtain ⟨a, vs, rfl, ha, ra⟩ := h
      obtain ⟨u, rfl, ru⟩ := r.one
      obtain ⟨z, rfl, rz1⟩ := rz.one
      cases ru
      obtain ⟨_, its, n, rv, ho⟩ := Inv.rdL I ha
      have hp := plains_int l
      have hpy := pys_int l
      obtain ⟨as, rr⟩ := RVs.reads I sub ra hp rv
      rw [hpy] at rr
      have hdep : PyData.depthAll (l.map PyData.int) ≤ 1 := by
        rw [← hpy, deps_py _ hp]
        exact deps_int l
      refine PySem.W.max_list_default (A := X.A) (I.ok.hd hc) ⟨_, ho, rfl, _, rfl⟩ rr ?_ (by omega) (fun hz h' tk hk => ?_) fun w0 ws0 i v h' tk bs hz hv hrd hk => ?_
      · refine ⟨fun x hx y hy => ?_, fun x hx => ?_⟩
        · rw [List.mem_map] at hx hy
          obtain ⟨_, _, rfl⟩ := hx
          obtain ⟨_, _, rfl⟩ := hy
          rfl
        · rw [List.mem_map] at hx
          obtain ⟨_, _, rfl⟩ := hx
          exact fun z => nomatch z
      · have : l = [] := by simpa using hz
        subst this
        exact ⟨y, H, I.kept hk, rz1, q P H y (.refl sub) ry⟩
      · cases l with
        | nil => cases hz
        | cons i l =>
          cases hz
          rw [PySem.W.maxD_ints] at hrd
          cases hrd
          exact ⟨.int _, H, I.kept hk, ⟨_, rfl⟩, q P H _ (.refl sub) .int⟩
  · cases e
def oIsB (x y : D) : Option D := match x, y with
  | .bl a, .bl b => some (.bl (decide (a = b)))
  | _, _ => none
def oNotB (x y : D) : Option D := match x, y with
  | .bl a, .bl b => some (.bl (!decide (a = b)))
  | _, _ => none
theorem op_disB : OpR X (compareOp .Is) (rD (bk X) oIsB) := by
  intro pins s σ H x y v u Q I rx ry ⟨P, dx, dy, d, sub, sx, sy, e, q⟩
  unfold oIsB at e
  split at e
  · cases e
    cases sx.is_bl
    cases sy.is_bl
    exact op_isBl pins s σ H _ _ v u Q I rx ry ⟨_, _, rfl, rfl, q P H _ (.refl sub) .bl⟩
  · cases e
theorem op_dnotB : OpR X (compareOp .IsNot) (rD (bk X) oNotB) := by
  intro pins s σ H x y v u Q I rx ry ⟨P, dx, dy, d, sub, sx, sy, e, q⟩
  unfold oNotB at e
  split at e
  · cases e
    cases sx.is_bl
    cases sy.is_bl
    exact op_notBl pins s σ H _ _ v u Q I rx ry ⟨_, _, rfl, rfl, q P H _ (.refl sub) .bl⟩
  · cases e
end
end Dn
namespace Dn
open PySem PySem.Spec PyProof.Rows L2
section
variable {K : Bk} {W : WX} {X : Cx}
theorem lvl {a b n : Nat} (h : a ≤ b) : a ≤ b + n := Nat.le_trans h (Nat.le_add_right b n)
theorem dss_bad {b : List Stmt} : PSs X b (TD K W sBad) := ⟨fun pins s σ H D I ⟨w, fr, e, ok, f, h⟩ => h.elim⟩
/-- a built-in class by its name -/
theorem de_gt {x : Str} {n : String} {pos : Pos} (hm : X.mg x = none) (hv : bootBuiltins x = some (.type n)) (hg : Gl X x := by rfl) (hn : x ≠ "__name__" := by decide) (hd : (x == ("__debug__" : Str)) = false := by decide) : PE X (.Name x pos) (T K W (mC (.ty n))) :=
  de_c (pe_bltn (v := .ty n) hg hm hv rfl hn hd) fun _ => .ty
/-- a def of the text -/
def Dc (K : Bk) (x : Str) (st : Stmt) (ps : List Str) : Prop := ∃ (f : Addr) (fd : FuncData), K.mg x = some (.ref f) ∧ PySem.W.keepIn K.K (.ref f) = true ∧ Binds K.K fd ps [] ∧ Fun K.K x x st f fd
def DcK (K : Bk) (n : Nat) (ks : List Str) (x : Str) (st : Stmt) (ps : List Str) : Prop := ∃ (f : Addr) (fd : FuncData), K.mg x = some (.ref f) ∧ PySem.W.keepIn K.K (.ref f) = true ∧ KBn K.K fd ps n ks (fun us ws => us ++ ws) (fun us ws => us ++ ws) ∧ Fun K.K x x st f fd
/-- an own error class of the text, its base own, too -/
structure Xc (K : Bk) (c B qual : Str) (st : Stmt) (ps : List Str) (C S : Addr) : Prop where
  m : K.mg c = some (.ref C)
  ox : OexC K.K C
  mB : K.mg B = some (.ref S)
  rd : PySem.W.readsIn K.K S (.type "type") = true
  gaS : PySem.W.specialIn K.K (.ref S) "__getattribute__" = some (some (.builtin "type.__getattribute__"))
  vV : PySem.W.findCls K.K (.ref S) (.type "type") "__init__" = some (.val (.builtin "ValueError.__init__"))
  fn : ∃ (fI : Addr) (fd : FuncData), PySem.W.findIn K.K (.ref C) "__init__" = some (some (.ref fI)) ∧ PySem.W.typeIn K.K (.ref fI) = some (.type "function") ∧ Binds K.K fd ps [] ∧ Fun K.K "__init__" qual st fI fd
theorem spX_len {C : Addr} {ns : List Str} {vs : List V} {H : Hp} {Q : VK} {E : XK} (h : spX K C ns vs H Q E) : vs.length = ns.length + 1 := by
  obtain ⟨a, us, rfl, hl, _⟩ := h
  rw [List.length_cons, hl]
theorem exd_eq {d : Addr} {l l' : List (Str × V)} (h : ∀ f, l.lookup f = l'.lookup f) : exd d l = exd d l' := by
  unfold exd
  have : (fun f => l.lookup f) = fun f => l'.lookup f := funext h
  simp only [h]
theorem spX1 {C : Addr} {f1 m : Str} {N : List Str} {vs : List V} {H : Hp} {Q : VK} {E : XK} (T : OexC K.K C) (n1 : PySem.W.findIn K.K (.ref C) f1 = some none) (h : spX K C [f1] vs H Q E) :
    tSeq (tDrop (tVeI K.K (tCons (tVar 0) (tCons (tC (.str m)) tNil)))) (tOst K.K f1 (tVar 0) (tVar 1)) { nx := fun _ H' => Q .non H', rt := Q } (L2.start N vs) H := by
  obtain ⟨a, us, rfl, hl, ha, k⟩ := h
  match us, hl with
  | [u1], _ =>
    refine ⟨_, rfl, a, C, [.str m], rfl, Nat.succ_le_succ (Nat.zero_le _), T, ha, ?_⟩
    refine ⟨_, rfl, _, rfl, a, C, rfl, T, n1, .inl ⟨ha, fun dx hd hda => ?_⟩⟩
    exact k _ dx hd hda upd_same (by rw [upd_ne hda]; exact upd_same) fun b hb hbd => by rw [upd_ne hb, upd_ne hbd]
theorem spX2 {C : Addr} {f1 f2 m : Str} {N : List Str} {vs : List V} {H : Hp} {Q : VK} {E : XK} (T : OexC K.K C) (n1 : PySem.W.findIn K.K (.ref C) f1 = some none) (n2 : PySem.W.findIn K.K (.ref C) f2 = some none) (h : spX K C [f1, f2] vs H Q E) (hne : (f2 == f1) = false := by decide) :
    tSeq (tDrop (tVeI K.K (tCons (tVar 0) (tCons (tC (.str m)) tNil)))) (tSeq (tOst K.K f1 (tVar 0) (tVar 1)) (tOst K.K f2 (tVar 0) (tVar 2))) { nx := fun _ H' => Q .non H', rt := Q } (L2.start N vs) H := by
  obtain ⟨a, us, rfl, hl, ha, k⟩ := h
  match us, hl with
  | [u1, u2], _ =>
    refine ⟨_, rfl, a, C, [.str m], rfl, Nat.succ_le_succ (Nat.zero_le _), T, ha, ?_⟩
    refine ⟨_, rfl, _, rfl, a, C, rfl, T, n1, .inl ⟨ha, fun dx hd hda => ?_⟩⟩
    refine ⟨_, rfl, _, rfl, a, C, rfl, T, n2, .inr ⟨dx, [(f1, u1)], upd_same, by rw [upd_ne hda]; exact upd_same, Nat.succ_le_succ (Nat.zero_le _), ?_⟩⟩
    refine k _ dx hd hda (by rw [upd_ne (Ne.symm hda)]; exact upd_same) ?_ fun b hb hbd => by rw [upd_ne hbd, upd_ne hb, upd_ne hbd]
    rw [upd_same]
    refine congrArg some (exd_eq fun f => ?_)
    simp only [List.zip_cons_cons, List.zip_nil_right, List.lookup]
    cases q1 : (f == f1) with
    | true =>
      have : (f == f2) = false := by
        have e : f = f1 := eq_of_beq q1
        subst e
        have z : ¬ (f2 = f) := ne_of_beq_false hne
        exact beq_false_of_ne fun y => z y.symm
      rw [this]
    | false => rfl
def tabOf : List (Str × Str × Bool) → Str → Str → Option Bool
  | [], _, _ => none
  | (c, t, b) :: L, c', t' => if c' = c ∧ t' = t then some b else tabOf L c' t'
def tabTOf : List (Str × String × Bool) → Str → String → Option Bool
  | [], _, _ => none
  | (c, t, b) :: L, c', t' => if c' = c ∧ t' = t then some b else tabTOf L c' t'
def subOf : List (Str × Bool) → Str → Option Bool
  | [], _ => none
  | (c, b) :: L, c' => if c' = c then some b else subOf L c'
theorem kin_nil : Kin K (tabOf []) := fun _ _ _ e => nomatch e
theorem kin_cons {c t : Str} {b : Bool} {L : List (Str × Str × Bool)} {C U : Addr} (m1 : K.mg c = some (.ref C)) (e : ExcC K.K C) (m2 : K.mg t = some (.ref U)) (k : PySem.W.kitOne K.K (.ref C) (.ref U) = some b) (h : Kin K (tabOf L)) : Kin K (tabOf ((c, t, b) :: L)) := by
  intro c' t' b' e'
  simp only [tabOf] at e'
  split at e'
  · rename_i hh
    obtain ⟨rfl, rfl⟩ := hh
    cases e'
    exact ⟨C, U, m1, e, m2, k⟩
  · exact h c' t' b' e'
theorem kinT_nil : KinT K (tabTOf []) := fun _ _ _ e => nomatch e
theorem kinT_cons {c : Str} {t : String} {b : Bool} {L : List (Str × String × Bool)} {C : Addr} (m1 : K.mg c = some (.ref C)) (e : ExcC K.K C) (k : PySem.W.kitOne K.K (.ref C) (.type t) = some b) (h : KinT K (tabTOf L)) : KinT K (tabTOf ((c, t, b) :: L)) := by
  intro c' t' b' e'
  simp only [tabTOf] at e'
  split at e'
  · rename_i hh
    obtain ⟨rfl, rfl⟩ := hh
    cases e'
    exact ⟨C, m1, e, k⟩
  · exact h c' t' b' e'
theorem sub_nil {c : Value} : ∀ m b, subOf [] m = some b → ∀ C, K.mg m = some C → PySem.W.exmOne K.K C c = some b := fun _ _ e => nomatch e
theorem sub_cons {n : Str} {b : Bool} {L : List (Str × Bool)} {C : Addr} {c : Value} (m1 : K.mg n = some (.ref C)) (k : PySem.W.exmOne K.K (.ref C) c = some b) (h : ∀ m b, subOf L m = some b → ∀ C, K.mg m = some C → PySem.W.exmOne K.K C c = some b) :
    ∀ m b', subOf ((n, b) :: L) m = some b' → ∀ C, K.mg m = some C → PySem.W.exmOne K.K C c = some b' := by
  intro m b' e D hD
  simp only [subOf] at e
  split at e
  · rename_i hh
    subst hh
    cases e
    rw [m1] at hD
    cases hD
    exact k
  · exact h m b' e D hD
end
end Dn
namespace Dn
open PySem PySem.Spec PyProof.Rows L2
/-- a def as the top leaves it -/
def Dk (K : PySem.W.Frag) (x : Str) (st : Stmt) : Prop := ∃ (f : Addr), PySem.W.nsIn K mainGlobals x = some (some (.ref f)) ∧
  (∃ (oc : Value) (od : Option Addr) (kV dc pm : Value) (an : Option Addr) (cd ct : Value) (sl : Array (Option Value)), K.lookup f = some ⟨oc, od, .func (PySem.W.fnOf x x (defArgs st) (defBody st) (defScope st) .none kV dc pm an cd ct), sl⟩ ∧ PySem.W.codeIn K cd x = true) ∧ PySem.W.keepIn K (.ref f) = true
section
variable {K : PySem.W.Frag} {h : Heap} {mg : Str → Option Value}
theorem Dk.dc {x : Str} {st : Stmt} {ps : List Str} (d : Dk K x st) (X : K.In h) (G : h.Ns mainGlobals mg)
    (hb : ∀ (kV doc pm : Value) (an : Option Addr) (cdv ct : Value) (us : List Value), us.length = ps.length → bindArgs (PySem.W.fnOf x x (defArgs st) (defBody st) (defScope st) .none kV doc pm an cdv ct) ⟨us, []⟩ = pure (ps.zip us)) : Dc ⟨K, mg⟩ x st ps := by
  obtain ⟨f, a, ⟨oc, od, kV, dc, pm, an, cd, ct, sl, l, c⟩, k⟩ := d
  have F := fun_mk l c k
  exact ⟨f, _, PySem.W.mg_of X G a, k, F.binds hb, F⟩
/-- an own class's method __init__ -/
def Ik (K : PySem.W.Frag) (C : Addr) (qual : Str) (st : Stmt) : Prop := ∃ (f : Addr), PySem.W.findIn K (.ref C) "__init__" = some (some (.ref f)) ∧ PySem.W.typeIn K (.ref f) = some (.type "function") ∧
  (∃ (oc : Value) (od : Option Addr) (kV dc pm : Value) (an : Option Addr) (cd ct : Value) (sl : Array (Option Value)), K.lookup f = some ⟨oc, od, .func (PySem.W.fnOf "__init__" qual (defArgs st) (defBody st) (defScope st) .none kV dc pm an cd ct), sl⟩ ∧ PySem.W.codeIn K cd qual = true) ∧ PySem.W.keepIn K (.ref f) = true
/-- an own error class's object -/
def Ok (K : PySem.W.Frag) (C : Addr) : Prop := ∃ nm q N bs bm sn sub ab col dd k0 k1 k2 k3 k5, K.lookup C = some (excClassObj nm q C N bs bm true sn sub ab col dd k0 k1 k2 k3 k5 "ValueError.__new__") ∧ PySem.HandSPX.refsVE bm = true
theorem Ik.xc {C S : Addr} {c B qual : Str} {st : Stmt} {ps : List Str} (i : Ik K C qual st) (X : K.In h) (G : h.Ns mainGlobals mg) (aC : PySem.W.nsIn K mainGlobals c = some (some (.ref C))) (aS : PySem.W.nsIn K mainGlobals B = some (some (.ref S)))
    (o : Ok K C) (sa : PySem.W.findIn K (.ref C) "__setattr__" = some (some (.builtin "object.__setattr__"))) (ex : PySem.W.subIn K (.ref C) (.type "BaseException") = some true) (ty : PySem.W.typeIn K (.ref C) = some (.type "type")) (kC : PySem.W.keepIn K (.ref C) = true)
    (rd : PySem.W.readsIn K S (.type "type") = true) (ga : PySem.W.specialIn K (.ref S) "__getattribute__" = some (some (.builtin "type.__getattribute__"))) (vV : PySem.W.findCls K (.ref S) (.type "type") "__init__" = some (.val (.builtin "ValueError.__init__")))
    (hb : ∀ (kV doc pm : Value) (an : Option Addr) (cdv ct : Value) (us : List Value), us.length = ps.length → bindArgs (PySem.W.fnOf "__init__" qual (defArgs st) (defBody st) (defScope st) .none kV doc pm an cdv ct) ⟨us, []⟩ = pure (ps.zip us)) : Xc ⟨K, mg⟩ c B qual st ps C S := by
  obtain ⟨f, a, t, ⟨oc, od, kV, dc, pm, an, cd, ct, sl, l, c⟩, k⟩ := i
  have F := fun_mk l c k
  exact ⟨PySem.W.mg_of X G aC, ⟨o, sa, ex, ty, kC⟩, PySem.W.mg_of X G aS, rd, ga, vV, f, _, a, t, F.binds hb, F⟩
theorem gc_cls {x : Str} {C : Addr} (X : K.In h) (G : h.Ns mainGlobals mg) (a : PySem.W.nsIn K mainGlobals x = some (some (.ref C))) : Gc ⟨K, mg⟩ x (.cls x) :=
  ⟨.ref C, .ref C, PySem.W.mg_of X G a, rfl, fun P => .cls (PySem.W.mg_of X G a)⟩
theorem Dk.mk' {K : PySem.W.Frag} {x : Str} {st : Stmt} {f : Addr} {oc : Value} {od : Option Addr} {kV dc pm : Value} {an : Option Addr} {cd ct : Value} {sl : Array (Option Value)} (a : PySem.W.nsIn K mainGlobals x = some (some (.ref f)))
    (l : K.lookup f = some ⟨oc, od, .func (PySem.W.fnOf x x (defArgs st) (defBody st) (defScope st) .none kV dc pm an cd ct), sl⟩) (c : PySem.W.codeIn K cd x = true) (k : PySem.W.keepIn K (.ref f) = true) : Dk K x st := ⟨f, a, ⟨oc, od, kV, dc, pm, an, cd, ct, sl, l, c⟩, k⟩
theorem Ik.mk' {K : PySem.W.Frag} {C : Addr} {qual : Str} {st : Stmt} {f : Addr} {oc : Value} {od : Option Addr} {kV dc pm : Value} {an : Option Addr} {cd ct : Value} {sl : Array (Option Value)} (a : PySem.W.findIn K (.ref C) "__init__" = some (some (.ref f))) (t : PySem.W.typeIn K (.ref f) = some (.type "function"))
    (l : K.lookup f = some ⟨oc, od, .func (PySem.W.fnOf "__init__" qual (defArgs st) (defBody st) (defScope st) .none kV dc pm an cd ct), sl⟩) (c : PySem.W.codeIn K cd qual = true) (k : PySem.W.keepIn K (.ref f) = true) : Ik K C qual st := ⟨f, a, t, ⟨oc, od, kV, dc, pm, an, cd, ct, sl, l, c⟩, k⟩
theorem Ok.mk' {K : PySem.W.Frag} {C : Addr} {nm q N bs bm sn sub ab col dd k0 k1 k2 k3 k5} (l : K.lookup C = some (excClassObj nm q C N bs bm true sn sub ab col dd k0 k1 k2 k3 k5 "ValueError.__new__")) (r : PySem.HandSPX.refsVE bm = true) : Ok K C := ⟨nm, q, N, bs, bm, sn, sub, ab, col, dd, k0, k1, k2, k3, k5, l, r⟩
/-- the law's promise -/
def spLaw (K : PySem.W.Frag) : Sp := fun vs H Q _ => ∃ (a : Addr) (ns : List Int), vs = [.ref a] ∧ SqL K H a (ns.map V.int) ∧ ns.length ≤ 63 ∧ ∀ H', Q (.bl true) H'
theorem spLaw_of {den : List D → R} (hlaw : ∀ ns : List Int, ns.length ≤ 63 → den [.scr ns] = .ok (.bl true)) (vs : List V) (H : Hp) (Q : VK) (E : XK) (z : spLaw K vs H Q E) : spD ⟨K, mg⟩ 1 den vs H Q E := by
  obtain ⟨a, ns, rfl, hs, hl, q⟩ := z
  refine ⟨rfl, H, [.scr ns], fun _ _ e => e, .cons (.scr hs) .nil, ?_⟩
  rw [hlaw ns hl]
  intro P' H' v _ r
  cases r
  exact q H'
theorem law_fn {l : PySem.W.OpenLaw} {w : World} {fa : Addr} {st : Stmt} {k : Nat} {x : Str} {den : List D → R} (X : K.In h) (G : h.Ns mainGlobals mg) (hfa : mg "law" = some (.ref fa)) (d : Dk K "law" st)
    (hb : ∀ (kV doc pm : Value) (an : Option Addr) (cdv ct : Value) (us : List Value), us.length = [x].length → bindArgs (PySem.W.fnOf "law" "law" (defArgs st) (defBody st) (defScope st) .none kV doc pm an cdv ct) ⟨us, []⟩ = pure ([x].zip us))
    (ok : ∀ (base : Heap) (fd : FuncData), Fun K "law" "law" st fa fd → FnOk l.prog w K mg base (L2.CX l.prog w) k fa fd [x] (spD ⟨K, mg⟩ 1 den)) (hlaw : ∀ ns : List Int, ns.length ≤ 63 → den [.scr ns] = .ok (.bl true)) :
    ∃ fd : FuncData, (∀ (s : Shared) (v : Value), BindsTo s fd ⟨[v], []⟩ [(x, v)]) ∧ ∀ base : Heap, K.In base → base.Ns mainGlobals mg → FnOk l.prog w K mg base (L2.CX l.prog w) k fa fd [x] (spLaw K) := by
  obtain ⟨f, a, ⟨oc, od, kV, dc, pm, an, cd, ct, sl, lk, c⟩, kp⟩ := d
  have e := hfa.symm.trans (PySem.W.mg_of X G a)
  cases e
  exact ⟨_, fun s v => .of_eq (hb kV dc pm an cd ct [v] rfl), fun base _ _ => (ok base _ (fun_mk lk c kp)).imp (spLaw_of hlaw)⟩
end
theorem dwalk {l : PySem.W.OpenLaw} {q : Program} {loose : List Str} {XP : (Str → Option Value) → Heap → Prop} {YP : World → Heap → Prop} {d : DefRec} {K : Params → PySem.W.Frag} {x : Str} {k : Nat} (hn : l.most = some 63) (hdf : d.params.defaults = []) (hr : Room k callerA)
    (hY : ∀ (w : World) (h : Heap), YP w h → (K w.params).In h)
    (F : ∀ (w : World) (mg : Str → Option Value) (fa : Addr) (h : Heap), (K w.params).In h → h.Ns mainGlobals mg → mg d.name = some (.ref fa) →
      ∃ fd : FuncData, (∀ (s : Shared) (u : Value), BindsTo s fd ⟨[u], []⟩ [(x, u)]) ∧ ∀ base : Heap, (K w.params).In base → base.Ns mainGlobals mg → FnOk l.prog w (K w.params) mg base (L2.CX l.prog w) k fa fd [x] (spLaw (K w.params))) :
    PySem.W.WalkO q loose XP YP l.row.toRowW d [] (fun f vs => PySem.call f vs) :=
  L2.walk_of (n := 63) (k := k) (x := x) (CX := fun w => L2.CX l.prog w) (sp := fun w => spLaw (K w.params)) hn (by decide) hdf hr hY F (fun _ _ a ns hl _ hS => ⟨a, ns, rfl, hS, hl, fun _ => rfl⟩) fun _ _ _ _ _ z => by
    obtain ⟨_, _, _, _, _, _, _, _, _, _, _, _, z⟩ := z
    exact z
end Dn
namespace Dn
open PySem PySem.Spec PyProof.Rows L2
section
variable {x : LV} {d e : D} {xs ys : List D} {g g1 : GH} {fr fr1 : Fr} {ex : Ex} {i j : Int} {n k : Nat}
theorem r_bind {f : LV → GH → Res} : (Res.ok x g).bind f = f x g := rfl
theorem r_bindX {f : LV → GH → Res} : (Res.exc ex g).bind f = .exc ex g := rfl
theorem r_bindA {f : LV → GH → ARes} : (Res.ok x g).bindA f = f x g := rfl
theorem r_bindAX {f : LV → GH → ARes} : (Res.exc ex g).bindA f = .exc ex g := rfl
theorem a_bind {l : List LV} {f : List LV → GH → Res} : (ARes.ok l g).bind f = f l g := rfl
theorem a_bindX {f : List LV → GH → Res} : (ARes.exc ex g).bind f = .exc ex g := rfl
theorem a_bindA {l : List LV} {f : List LV → GH → ARes} : (ARes.ok l g).bindA f = f l g := rfl
theorem a_bindAX {f : List LV → GH → ARes} : (ARes.exc ex g).bindA f = .exc ex g := rfl
theorem r_toS {f : LV → GH → SRes} : (Res.ok x g).toS fr f = f x g := rfl
theorem r_toSX {f : LV → GH → SRes} : (Res.exc ex g).toS fr f = .exc ex fr g := rfl
theorem a_toS {l : List LV} {f : List LV → GH → SRes} : (ARes.ok l g).toS fr f = f l g := rfl
theorem a_toSX {f : List LV → GH → SRes} : (ARes.exc ex g).toS fr f = .exc ex fr g := rfl
theorem i_toS {l : List D} {o : Option Nat} {f : List D → Option Nat → GH → SRes} : (IRes.ok l o g).toS fr f = f l o g := rfl
theorem i_toSX {f : List D → Option Nat → GH → SRes} : (IRes.exc ex g).toS fr f = .exc ex fr g := rfl
theorem s_nx {t : DS} : (SRes.nx fr g).seq t = t fr g := rfl
theorem s_rt {t : DS} : (SRes.rt x g).seq t = .rt x g := rfl
theorem s_bk {t : DS} : (SRes.bk fr g).seq t = .bk fr g := rfl
theorem s_ct {t : DS} : (SRes.ct fr g).seq t = .ct fr g := rfl
theorem s_exc {t : DS} : (SRes.exc ex fr g).seq t = .exc ex fr g := rfl
theorem onB_bl {b : Bool} {f : Bool → Res} : onB (.v (.bl b)) f = f b := rfl
theorem onBS_bl {b : Bool} {f : Bool → SRes} : onBS (.v (.bl b)) f = f b := rfl
theorem ofO_some : ofO (some d) g = .ok (.v d) g := rfl
theorem asD_v : asD g (.v d) = some d := rfl
theorem asD_r (hk : k < g.n) (h : g.get k = .lst xs) : asD g (.r k) = some (.lst xs) := by simp only [asD, if_pos hk, h]
theorem asDs_nil : asDs g [] = some [] := rfl
def dsK (p : Option D) (q : Option (List D)) : Option (List D) := p.bind fun d => q.bind fun ds => some (d :: ds)
theorem asDs_cons {l : List LV} : asDs g (x :: l) = dsK (asD g x) (asDs g l) := rfl
theorem ds_v : dsK (some d) (some xs) = some (d :: xs) := rfl
theorem take1_v : take1 g (.v d) = some (d, g) := rfl
theorem take1_r (hk : k < g.n) (h : g.get k = .lst xs) : take1 g (.r k) = some (.lst xs, g.kill k) := by simp only [take1, asD_r hk h, Option.bind_some]
theorem takes_nil : takes g [] = some ([], g) := rfl
def tkK (d : D) (q : Option (List D × GH)) : Option (List D × GH) := q.bind fun q => some (d :: q.1, q.2)
theorem takes_v {l : List LV} : takes g (.v d :: l) = tkK d (takes g l) := rfl
theorem tk_v : tkK d (some (xs, g)) = some (d :: xs, g) := rfl
theorem takes_r {l : List LV} (hk : k < g.n) (h : g.get k = .lst xs) : takes g (.r k :: l) = tkK (.lst xs) (takes (g.kill k) l) := by simp only [takes, take1_r hk h, Option.bind_some]; rfl
theorem lstAt_r (hk : k < g.n) (h : g.get k = .lst xs) : lstAt g (.r k) = some (k, xs) := by simp only [lstAt, if_pos hk, h]
theorem e_v (h : fr[n]? = some (some x)) : mV n fr g = .ok x g := by unfold mV; rw [h]
theorem e_c : mC d fr g = .ok (.v d) g := rfl
def opV (op : D → D → Option D) (p q : Option D) : Option D := p.bind fun p => q.bind fun q => op p q
theorem op_v {op : D → D → Option D} {p q : D} : opV op (some p) (some q) = op p q := rfl
def opL (op : D → D → Option D) (x : LV) (r : Res) : Res := r.bind fun y g2 => ofO (opV op (asD g2 x) (asD g2 y)) g2
def opK (op : D → D → Option D) (b : DE) (fr : Fr) (r : Res) : Res := r.bind fun x g1 => opL op x (b fr g1)
theorem e_op {op : D → D → Option D} {a b : DE} : mOp op a b fr g = opK op b fr (a fr g) := rfl
theorem op_1 {op : D → D → Option D} {b : DE} : opK op b fr (.ok x g) = opL op x (b fr g) := rfl
theorem op_1x {op : D → D → Option D} {b : DE} : opK op b fr (.exc ex g) = .exc ex g := rfl
theorem op_2 {op : D → D → Option D} {y : LV} : opL op x (.ok y g) = ofO (opV op (asD g x) (asD g y)) g := rfl
theorem op_2x {op : D → D → Option D} : opL op x (.exc ex g) = .exc ex g := rfl
def o1V (op : D → Option D) (p : Option D) : Option D := p.bind op
theorem o1_v {op : D → Option D} : o1V op (some d) = op d := rfl
def o1K (op : D → Option D) (r : Res) : Res := r.bind fun x g1 => ofO (o1V op (asD g1 x)) g1
theorem e_op1 {op : D → Option D} {a : DE} : mOp1 op a fr g = o1K op (a fr g) := rfl
theorem o1_1 {op : D → Option D} : o1K op (.ok x g) = ofO (o1V op (asD g x)) g := rfl
theorem e_nil : aNil fr g = .ok [] g := rfl
def consL (x : LV) (r : ARes) : ARes := r.bindA fun xs g2 => .ok (x :: xs) g2
def consK (b : DA) (fr : Fr) (r : Res) : ARes := r.bindA fun x g1 => consL x (b fr g1)
theorem e_cons {a : DE} {b : DA} : aCons a b fr g = consK b fr (a fr g) := rfl
theorem cons_1 {b : DA} : consK b fr (.ok x g) = consL x (b fr g) := rfl
theorem cons_1x {b : DA} : consK b fr (.exc ex g) = .exc ex g := rfl
theorem cons_2 {l : List LV} : consL x (.ok l g) = .ok (x :: l) g := rfl
theorem cons_2x : consL x (.exc ex g) = .exc ex g := rfl
def fnV (op : List D → Option D) (o : Option (List D)) : Option D := o.bind op
theorem fn_v {op : List D → Option D} : fnV op (some xs) = op xs := rfl
def fnK (op : List D → Option D) (r : ARes) : Res := r.bind fun xs g1 => ofO (fnV op (asDs g1 xs)) g1
theorem e_fn {op : List D → Option D} {a : DA} : mFn op a fr g = fnK op (a fr g) := rfl
theorem fn_1 {op : List D → Option D} {l : List LV} : fnK op (.ok l g) = ofO (fnV op (asDs g l)) g := rfl
theorem fn_1x {op : List D → Option D} : fnK op (.exc ex g) = .exc ex g := rfl
def notK (r : Res) : Res := r.bind fun x g1 => onB x fun c => .ok (.v (.bl (!c))) g1
theorem e_not {a : DE} : mNot a fr g = notK (a fr g) := rfl
theorem not_1 {c : Bool} : notK (.ok (.v (.bl c)) g) = .ok (.v (.bl (!c))) g := rfl
def andK (b : DE) (fr : Fr) (r : Res) : Res := r.bind fun x g1 => onB x fun c => if c = true then b fr g1 else .ok (.v (.bl false)) g1
theorem e_and {a b : DE} : mAnd a b fr g = andK b fr (a fr g) := rfl
theorem and_t {b : DE} : andK b fr (.ok (.v (.bl true)) g) = b fr g := rfl
theorem and_f {b : DE} : andK b fr (.ok (.v (.bl false)) g) = .ok (.v (.bl false)) g := rfl
def orK (b : DE) (fr : Fr) (r : Res) : Res := r.bind fun x g1 => onB x fun c => if c = true then .ok (.v (.bl true)) g1 else b fr g1
theorem e_or {a b : DE} : mOr a b fr g = orK b fr (a fr g) := rfl
theorem or_t {b : DE} : orK b fr (.ok (.v (.bl true)) g) = .ok (.v (.bl true)) g := rfl
theorem or_f {b : DE} : orK b fr (.ok (.v (.bl false)) g) = b fr g := rfl
def iteK (a b : DE) (fr : Fr) (r : Res) : Res := r.bind fun x g1 => onB x fun c => if c = true then a fr g1 else b fr g1
theorem e_if {c a b : DE} : mIf c a b fr g = iteK a b fr (c fr g) := rfl
theorem ite_t {a b : DE} : iteK a b fr (.ok (.v (.bl true)) g) = a fr g := rfl
theorem ite_f {a b : DE} : iteK a b fr (.ok (.v (.bl false)) g) = b fr g := rfl
def tupR (g1 : GH) (xs : List LV) : Res := match takes g1 xs with | some (ds, g2) => if ds.length ≤ sizeLine then .ok (.v (.tup ds)) g2 else .bad | none => .bad
def lstR (g1 : GH) (xs : List LV) : Res := match takes g1 xs with | some (ds, g2) => if ds.length ≤ sizeLine then .ok (.v (.lst ds)) g2 else .bad | none => .bad
def lstRR (g1 : GH) (xs : List LV) : Res := match takes g1 xs with | some (ds, g2) => if ds.length ≤ sizeLine then .ok (.r g2.n) (g2.new (.lst ds)) else .bad | none => .bad
def tupQK (r : ARes) : Res := r.bind fun xs g1 => tupR g1 xs
theorem e_tup {a : DA} : mTup a fr g = tupQK (a fr g) := rfl
theorem tupQ_1 {l : List LV} : tupQK (.ok l g) = tupR g l := rfl
def lstQK (r : ARes) : Res := r.bind fun xs g1 => lstR g1 xs
theorem e_lst {a : DA} : mLst a fr g = lstQK (a fr g) := rfl
theorem lstQ_1 {l : List LV} : lstQK (.ok l g) = lstR g l := rfl
def lstRQK (r : ARes) : Res := r.bind fun xs g1 => lstRR g1 xs
theorem e_lstR {a : DA} : mLstR a fr g = lstRQK (a fr g) := rfl
theorem lstRQ_1 {l : List LV} : lstRQK (.ok l g) = lstRR g l := rfl
theorem sl100 {m : Nat} (h : m ≤ 1000000) : m ≤ sizeLine := by rw [sizeLine_eq]; omega
theorem tupR_ok {l : List LV} {ds : List D} (h : takes g l = some (ds, g1)) (hl : ds.length ≤ 1000000) : tupR g l = .ok (.v (.tup ds)) g1 := by unfold tupR; simp only [h, if_pos (sl100 hl)]
theorem lstR_ok {l : List LV} {ds : List D} (h : takes g l = some (ds, g1)) (hl : ds.length ≤ 1000000) : lstR g l = .ok (.v (.lst ds)) g1 := by unfold lstR; simp only [h, if_pos (sl100 hl)]
theorem lstRR_ok {l : List LV} {ds : List D} (h : takes g l = some (ds, g1)) (hl : ds.length ≤ 1000000) : lstRR g l = .ok (.r g1.n) (g1.new (.lst ds)) := by unfold lstRR; simp only [h, if_pos (sl100 hl)]
theorem allv {ds : List D} : takes g (ds.map .v) = some (ds, g) := by
  induction ds with
  | nil => rfl
  | cons d ds ih => simp only [List.map_cons, takes_v, ih, tk_v]
theorem tup0 : tupR g [] = .ok (.v (.tup [])) g := tupR_ok (ds := []) rfl (by decide)
theorem tup1 {a : D} : tupR g [.v a] = .ok (.v (.tup [a])) g := tupR_ok (ds := [a]) rfl (by simp)
theorem tup2 {a b : D} : tupR g [.v a, .v b] = .ok (.v (.tup [a, b])) g := tupR_ok (ds := [a, b]) rfl (by simp)
theorem tup3 {a b c : D} : tupR g [.v a, .v b, .v c] = .ok (.v (.tup [a, b, c])) g := tupR_ok (ds := [a, b, c]) rfl (by simp)
theorem tup4 {a b c d : D} : tupR g [.v a, .v b, .v c, .v d] = .ok (.v (.tup [a, b, c, d])) g := tupR_ok (ds := [a, b, c, d]) rfl (by simp)
theorem tup5 {a b c d e : D} : tupR g [.v a, .v b, .v c, .v d, .v e] = .ok (.v (.tup [a, b, c, d, e])) g := tupR_ok (ds := [a, b, c, d, e]) rfl (by simp)
theorem tup6 {a b c d e f : D} : tupR g [.v a, .v b, .v c, .v d, .v e, .v f] = .ok (.v (.tup [a, b, c, d, e, f])) g := tupR_ok (ds := [a, b, c, d, e, f]) rfl (by simp)
theorem tup7 {a b c d e f h : D} : tupR g [.v a, .v b, .v c, .v d, .v e, .v f, .v h] = .ok (.v (.tup [a, b, c, d, e, f, h])) g := tupR_ok (ds := [a, b, c, d, e, f, h]) rfl (by simp)
theorem lst0 : lstR g [] = .ok (.v (.lst [])) g := lstR_ok (ds := []) rfl (by decide)
theorem lst1 {a : D} : lstR g [.v a] = .ok (.v (.lst [a])) g := lstR_ok (ds := [a]) rfl (by simp)
theorem lst2 {a b : D} : lstR g [.v a, .v b] = .ok (.v (.lst [a, b])) g := lstR_ok (ds := [a, b]) rfl (by simp)
theorem lst3 {a b c : D} : lstR g [.v a, .v b, .v c] = .ok (.v (.lst [a, b, c])) g := lstR_ok (ds := [a, b, c]) rfl (by simp)
theorem lst4 {a b c d : D} : lstR g [.v a, .v b, .v c, .v d] = .ok (.v (.lst [a, b, c, d])) g := lstR_ok (ds := [a, b, c, d]) rfl (by simp)
theorem lst5 {a b c d e : D} : lstR g [.v a, .v b, .v c, .v d, .v e] = .ok (.v (.lst [a, b, c, d, e])) g := lstR_ok (ds := [a, b, c, d, e]) rfl (by simp)
theorem lst6 {a b c d e f : D} : lstR g [.v a, .v b, .v c, .v d, .v e, .v f] = .ok (.v (.lst [a, b, c, d, e, f])) g := lstR_ok (ds := [a, b, c, d, e, f]) rfl (by simp)
theorem lsR0 : lstRR g [] = .ok (.r g.n) (g.new (.lst [])) := lstRR_ok (ds := []) rfl (by decide)
theorem lsR1 {a : D} : lstRR g [.v a] = .ok (.r g.n) (g.new (.lst [a])) := lstRR_ok (ds := [a]) rfl (by simp)
theorem lsR2 {a b : D} : lstRR g [.v a, .v b] = .ok (.r g.n) (g.new (.lst [a, b])) := lstRR_ok (ds := [a, b]) rfl (by simp)
theorem lsR3 {a b c : D} : lstRR g [.v a, .v b, .v c] = .ok (.r g.n) (g.new (.lst [a, b, c])) := lstRR_ok (ds := [a, b, c]) rfl (by simp)
def callR (den : List D → R) (g1 : GH) (xs : List LV) : Res := match takes g1 xs with | some (ds, g2) => ofR (den ds) g2 | none => .bad
def callK (n : Nat) (den : List D → R) (r : ARes) : Res := r.bind fun xs g1 => if xs.length = n then callR den g1 xs else .bad
theorem e_call {den : List D → R} {a : DA} : mCall n den a fr g = callK n den (a fr g) := rfl
theorem call_1 {den : List D → R} {l : List LV} : callK n den (.ok l g) = if l.length = n then callR den g l else .bad := rfl
theorem call_1x {den : List D → R} : callK n den (.exc ex g) = .exc ex g := rfl
theorem callR_v {den : List D → R} {ds : List D} : callR den g (ds.map .v) = ofR (den ds) g := by unfold callR; simp only [allv]
theorem call1 {den : List D → R} {a : D} : callR den g [.v a] = ofR (den [a]) g := rfl
theorem call2 {den : List D → R} {a b : D} : callR den g [.v a, .v b] = ofR (den [a, b]) g := rfl
theorem call3 {den : List D → R} {a b c : D} : callR den g [.v a, .v b, .v c] = ofR (den [a, b, c]) g := rfl
theorem call4 {den : List D → R} {a b c d : D} : callR den g [.v a, .v b, .v c, .v d] = ofR (den [a, b, c, d]) g := rfl
theorem call5 {den : List D → R} {a b c d e : D} : callR den g [.v a, .v b, .v c, .v d, .v e] = ofR (den [a, b, c, d, e]) g := rfl
def callIK (n : Nat) (den : Den) (r : ARes) : Res := r.bind fun xs g1 => if xs.length = n then den xs g1 else .bad
theorem e_callI {den : Den} {a : DA} : mCallI n den a fr g = callIK n den (a fr g) := rfl
theorem callI_1 {den : Den} {l : List LV} : callIK n den (.ok l g) = if l.length = n then den l g else .bad := rfl
theorem callI_1x {den : Den} : callIK n den (.exc ex g) = .exc ex g := rfl
theorem ofR_ok : ofR (.ok d) g = .ok (.v d) g := rfl
theorem ofR_exc : ofR (.exc ex) g = .exc ex g := rfl
theorem q_seq {s t : DS} : sSeq s t fr g = (s fr g).seq t := rfl
theorem q_nil : sNil fr g = .nx fr g := rfl
def setK (n : Nat) (fr : Fr) (r : Res) : SRes := r.toS fr fun x g1 => .nx (fr.set n (some x)) g1
theorem q_set {m : DE} : sSet n m fr g = setK n fr (m fr g) := rfl
theorem set_1 : setK n fr (.ok x g) = .nx (fr.set n (some x)) g := rfl
theorem set_1x : setK n fr (.exc ex g) = .exc ex fr g := rfl
def exprK (fr : Fr) (r : Res) : SRes := r.toS fr fun _ g1 => .nx fr g1
theorem q_expr {m : DE} : sExpr m fr g = exprK fr (m fr g) := rfl
theorem expr_1 : exprK fr (.ok x g) = .nx fr g := rfl
theorem expr_1x : exprK fr (.exc ex g) = .exc ex fr g := rfl
def retK (fr : Fr) (r : Res) : SRes := r.toS fr fun x g1 => .rt x g1
theorem q_ret {m : DE} : sRet m fr g = retK fr (m fr g) := rfl
theorem ret_1 : retK fr (.ok x g) = .rt x g := rfl
theorem ret_1x : retK fr (.exc ex g) = .exc ex fr g := rfl
theorem q_retN : sRetN fr g = .rt (.v .non) g := rfl
def ifsK (s t : DS) (fr : Fr) (r : Res) : SRes := r.toS fr fun x g1 => onBS x fun b => if b = true then s fr g1 else t fr g1
theorem q_if {c : DE} {s t : DS} : sIf c s t fr g = ifsK s t fr (c fr g) := rfl
theorem ifs_t {s t : DS} : ifsK s t fr (.ok (.v (.bl true)) g) = s fr g := rfl
theorem ifs_f {s t : DS} : ifsK s t fr (.ok (.v (.bl false)) g) = t fr g := rfl
theorem ifs_x {s t : DS} : ifsK s t fr (.exc ex g) = .exc ex fr g := rfl
def parR (i j : Nat) (fr : Fr) (xs : List LV) (g1 : GH) : SRes := match xs with | [x, y] => .nx ((fr.set i (some x)).set j (some y)) g1 | _ => .bad
def parK (i j : Nat) (fr : Fr) (r : ARes) : SRes := r.toS fr fun xs g1 => parR i j fr xs g1
theorem q_par {i j : Nat} {a : DA} : sPar i j a fr g = parK i j fr (a fr g) := rfl
theorem par_1 {i j : Nat} {l : List LV} : parK i j fr (.ok l g) = parR i j fr l g := rfl
theorem par_1x {i j : Nat} : parK i j fr (.exc ex g) = .exc ex fr g := rfl
theorem par2 {i j : Nat} {x y : LV} : parR i j fr [x, y] g = .nx ((fr.set i (some x)).set j (some y)) g := rfl
def asgR (t : DG) (fr : Fr) (x : LV) (g1 : GH) : SRes := match take1 g1 x with
  | some (d, g2) => (match t d fr with | some fr' => .nx fr' g2 | none => .bad)
  | none => .bad
def asgK (t : DG) (fr : Fr) (r : Res) : SRes := r.toS fr fun x g1 => asgR t fr x g1
theorem q_asg {m : DE} {t : DG} : sAsg m t fr g = asgK t fr (m fr g) := rfl
theorem asg_1 {t : DG} : asgK t fr (.ok x g) = asgR t fr x g := rfl
theorem asg_1x {t : DG} : asgK t fr (.exc ex g) = .exc ex fr g := rfl
theorem asg_v {t : DG} (h : t d fr = some fr1) : asgR t fr (.v d) g = .nx fr1 g := by unfold asgR; simp only [take1_v, h]
theorem g_n : gN n d fr = some (fr.set n (some (.v d))) := rfl
theorem g_tup {u : DGs} : gT u (.tup xs) fr = u xs fr := rfl
theorem g_lst {u : DGs} : gT u (.lst xs) fr = u xs fr := rfl
theorem g_nil : gsNil [] fr = some fr := rfl
theorem g_cons {t : DG} {u : DGs} : gsCons t u (d :: xs) fr = (t d fr).bind fun fr' => u xs fr' := rfl
def stoR (fr : Fr) (y x z : LV) (g3 : GH) : SRes := match take1 g3 y with
  | some (d, g4) => (match lstAt g4 x, z with
      | some (k, xs), .v (.int n) => (match ixN xs.length n with | some j => .nx fr (g4.set k (.lst (xs.set j d))) | none => .bad)
      | _, _ => .bad)
  | none => .bad
def stoM (fr : Fr) (y x : LV) (r : Res) : SRes := r.toS fr fun z g3 => stoR fr y x z g3
def stoL (i : DE) (fr : Fr) (y : LV) (r : Res) : SRes := r.toS fr fun x g2 => stoM fr y x (i fr g2)
def stoK (o i : DE) (fr : Fr) (r : Res) : SRes := r.toS fr fun y g1 => stoL i fr y (o fr g1)
theorem q_store {m o i : DE} : sStore m o i fr g = stoK o i fr (m fr g) := rfl
theorem sto_a {o i : DE} : stoK o i fr (.ok x g) = stoL i fr x (o fr g) := rfl
theorem sto_b {i : DE} {y : LV} : stoL i fr y (.ok x g) = stoM fr y x (i fr g) := rfl
theorem sto_c {y z : LV} : stoM fr y x (.ok z g) = stoR fr y x z g := rfl
theorem sto_v {j : Nat} (hk : k < g.n) (h : g.get k = .lst xs) (hj : ixN xs.length i = some j) : stoR fr (.v d) (.r k) (.v (.int i)) g = .nx fr (g.set k (.lst (xs.set j d))) := by
  unfold stoR
  simp only [take1_v, lstAt_r hk h, hj]
theorem o_add : oAdd (.int i) (.int j) = some (.int (i + j)) := rfl
theorem o_sub : oSub (.int i) (.int j) = some (.int (i - j)) := rfl
theorem o_neg : oNeg (.int i) = some (.int (-i)) := rfl
theorem o_lt : oLt (.int i) (.int j) = some (.bl (decide (i < j))) := rfl
theorem o_le : oLe (.int i) (.int j) = some (.bl (decide (i ≤ j))) := rfl
theorem o_gt : oGt (.int i) (.int j) = some (.bl (decide (j < i))) := rfl
theorem o_ge : oGe (.int i) (.int j) = some (.bl (decide (j ≤ i))) := rfl
theorem o_ixT : oIx (.tup xs) (.int i) = atI xs i := rfl
theorem o_ixL : oIx (.lst xs) (.int i) = atI xs i := rfl
theorem o_ixS {l : List Int} : oIx (.scr l) (.int i) = (atI l i).map .int := rfl
theorem o_lenT : oLen [.tup xs] = some (.int xs.length) := rfl
theorem o_lenL : oLen [.lst xs] = some (.int xs.length) := rfl
theorem o_lenS {l : List Int} : oLen [.scr l] = some (.int l.length) := rfl
theorem o_abs : oAbs [.int i] = some (.int (if i < 0 then -i else i)) := rfl
theorem o_max : oMax [.int i, .int j] = some (.int (if j > i then j else i)) := rfl
theorem o_min : oMin [.int i, .int j] = some (.int (if j < i then j else i)) := rfl
theorem o_intI : oInt [.int i] = some (.int i) := rfl
theorem o_intB {b : Bool} : oInt [.bl b] = some (.int (if b then 1 else 0)) := rfl
theorem o_catT : oAdd (.tup xs) (.tup ys) = if xs.length + ys.length ≤ sizeLine then some (.tup (xs ++ ys)) else none := rfl
theorem mulOk_s {i j : Int} (h : i.natAbs < 2 ^ 64) : mulOk i j = true := by unfold mulOk; rw [decide_eq_true h]; rfl
theorem mulOk_r {i j : Int} (h : j.natAbs < 2 ^ 64) : mulOk i j = true := by unfold mulOk; rw [decide_eq_true h]; simp
theorem o_mul (h : mulOk i j = true) : oMul (.int i) (.int j) = some (.int (i * j)) := by simp only [oMul, if_pos h]
theorem o_mod (h : j ≠ 0) : oMod (.int i) (.int j) = some (.int (Int.fmod i j)) := by simp only [oMod, if_pos h]
theorem o_modP (h : 0 < j) : oMod (.int i) (.int j) = some (.int (i % j)) := by
  rw [o_mod (by omega), Int.fmod_eq_emod_of_nonneg _ (by omega)]
theorem o_fdivP (h : 0 < j) (hs : j < 1073741824) : oFdiv (.int i) (.int j) = some (.int (i / j)) := by
  have h1 : j ≠ 0 ∧ Builtin.divisionGoesByPylong i j = false := ⟨by omega, PyProof.noPylong_small (by omega)⟩
  simp only [oFdiv, if_pos h1, Int.fdiv_eq_ediv_of_nonneg _ (Int.le_of_lt h)]
theorem o_pow (h : (0 ≤ j ∧ j ≤ 1000000) ∧ i.natAbs < 2 ^ 64) : oPow (.int i) (.int j) = some (.int (i ^ j.toNat)) := by simp only [oPow, if_pos h]
theorem atI_nat {α : Type} {l : List α} {a : α} {m : Nat} {i : Int} (hi : i = (m : Int)) (h : l[m]? = some a) : atI l i = some a := by
  subst hi
  have hl : m < l.length := (List.getElem?_eq_some_iff.mp h).1
  unfold atI ixN
  rw [if_pos (Int.natCast_nonneg m), if_pos (by omega), Option.bind_some, Int.toNat_natCast, h]
theorem atI_0 {α : Type} {a : α} {l : List α} : atI (a :: l) 0 = some a := atI_nat (m := 0) rfl rfl
theorem atI_1 {α : Type} {a b : α} {l : List α} : atI (a :: b :: l) 1 = some b := atI_nat (m := 1) rfl rfl
theorem atI_2 {α : Type} {a b c : α} {l : List α} : atI (a :: b :: c :: l) 2 = some c := atI_nat (m := 2) rfl rfl
theorem atI_3 {α : Type} {a b c d : α} {l : List α} : atI (a :: b :: c :: d :: l) 3 = some d := atI_nat (m := 3) rfl rfl
theorem atI_4 {α : Type} {a b c d e : α} {l : List α} : atI (a :: b :: c :: d :: e :: l) 4 = some e := atI_nat (m := 4) rfl rfl
theorem atI_5 {α : Type} {a b c d e f : α} {l : List α} : atI (a :: b :: c :: d :: e :: f :: l) 5 = some f := atI_nat (m := 5) rfl rfl
theorem atI_6 {α : Type} {a b c d e f h : α} {l : List α} : atI (a :: b :: c :: d :: e :: f :: h :: l) 6 = some h := atI_nat (m := 6) rfl rfl
theorem ixN_0 {n : Nat} : ixN (n + 1) 0 = some 0 := by unfold ixN; rw [if_pos (by omega), if_pos (by omega)]; rfl
theorem set_n {o : GO} : (g.set k o).n = g.n := rfl
theorem set_get {o : GO} : (g.set k o).get k = o := if_pos rfl
theorem set_ne {o : GO} {m : Nat} (h : m ≠ k) : (g.set k o).get m = g.get m := if_neg h
theorem set_set {o p : GO} : (g.set k o).set k p = g.set k p := by
  unfold GH.set
  congr 1
  funext i
  by_cases h : i = k
  · simp only [if_pos h]
  · simp only [if_neg h]
theorem new_n {o : GO} : (g.new o).n = g.n + 1 := rfl
theorem new_get {o : GO} : (g.new o).get g.n = o := if_pos rfl
theorem new_ne {o : GO} {m : Nat} (h : m < g.n) : (g.new o).get m = g.get m := if_neg (Nat.ne_of_lt h)
theorem kill_n : (g.kill k).n = g.n := rfl
theorem kill_ne {m : Nat} (h : m ≠ k) : (g.kill k).get m = g.get m := if_neg h
theorem runI_eq {s : DS} {l : List LV} : runI n s l g = match s (l.map some ++ List.replicate (n - l.length) none) g with
  | .rt x g => .ok x g
  | .nx _ g => .ok (.v .non) g
  | .exc e _ g => .exc e g
  | _ => .bad := rfl
theorem runI_rt {s : DS} {l : List LV} (h : s (l.map some ++ List.replicate (n - l.length) none) g = .rt x g1) : runI n s l g = .ok x g1 := by unfold runI; rw [h]
theorem runI_nx {s : DS} {l : List LV} (h : s (l.map some ++ List.replicate (n - l.length) none) g = .nx fr g1) : runI n s l g = .ok (.v .non) g1 := by unfold runI; rw [h]
theorem runP_rt {s : DS} (h : s (xs.map (fun d => some (.v d)) ++ List.replicate (n - xs.length) none) GH.nil = .rt (.v d) g1) : runP n s xs = .ok d := by unfold runP; rw [h]; rfl
theorem runP_rtr {s : DS} (h : s (xs.map (fun d => some (.v d)) ++ List.replicate (n - xs.length) none) GH.nil = .rt (.r k) g1) (hk : k < g1.n) (hg : g1.get k = .lst ys) : runP n s xs = .ok (.lst ys) := by unfold runP; rw [h]; simp only [asD_r hk hg]
theorem runP_nx {s : DS} (h : s (xs.map (fun d => some (.v d)) ++ List.replicate (n - xs.length) none) GH.nil = .nx fr g1) : runP n s xs = .ok .non := by unfold runP; rw [h]
theorem runP_exc {s : DS} (h : s (xs.map (fun d => some (.v d)) ++ List.replicate (n - xs.length) none) GH.nil = .exc ex fr g1) : runP n s xs = .exc ex := by unfold runP; rw [h]
end
end Dn
namespace Dn
open PySem PySem.Spec PyProof.Rows L2
section
variable {g g1 g2 : GH} {fr fr1 : Fr} {n k : Nat}
theorem ofS_inj {a b : String} : (Str.ofString a = Str.ofString b) ↔ a = b := by
  constructor
  · intro h
    rw [Str.ofString_eq_byList] at h
    simp only [Str.ofStringByList, Str.mk.injEq] at h
    have h2 := Array.toList_inj.mpr h
    simp only [List.toList_toArray] at h2
    have inj : ∀ (l m : List Char), l.map Char.toNat = m.map Char.toNat → l = m := by
      intro l
      induction l with
      | nil => intro m e; cases m with | nil => rfl | cons _ _ => cases e
      | cons c l ih =>
        intro m e
        cases m with
        | nil => cases e
        | cons d m =>
          simp only [List.map_cons, List.cons.injEq] at e
          rw [ih m e.2, Char.toNat_inj.mp e.1]
    exact String.ext (inj _ _ h2)
  · intro h; rw [h]
theorem ofS_ok {s : String} : PyData.strOk (Str.ofString s) = true := by
  rw [Str.ofString_eq_byList]
  simp only [PyData.strOk, Str.ofStringByList]
  rw [List.all_toArray, List.all_eq_true]
  intro n hn
  rw [List.mem_map] at hn
  obtain ⟨c, _, rfl⟩ := hn
  have h := c.valid
  have h2 : c.toNat.isValidChar := h
  rcases h2 with h2 | h2
  · exact decide_eq_true (by omega)
  · exact decide_eq_true (by omega)
theorem o_eqI {i j : Int} : oEq (.int i) (.int j) = some (.bl (decide (i = j))) := by
  have h : eqOk (.int i) (.int j) = true := by simp [eqOk, D.plain, D.dep]
  unfold oEq
  rw [if_pos h]
  simp only [deq, D.py, PyData.eqv]
  congr 2
theorem o_neI {i j : Int} : oNe (.int i) (.int j) = some (.bl (decide (i ≠ j))) := by
  have h : eqOk (.int i) (.int j) = true := by simp [eqOk, D.plain, D.dep]
  unfold oNe
  rw [if_pos h]
  simp only [deq, D.py, PyData.eqv]
  congr 2
  by_cases e : i = j <;> simp [e]
theorem o_eqS {a b : Str} (ha : PyData.strOk a = true) (hb : PyData.strOk b = true) : oEq (.str a) (.str b) = some (.bl (decide (a = b))) := by
  have h : eqOk (.str a) (.str b) = true := by simp [eqOk, D.plain, D.dep, ha, hb]
  unfold oEq
  rw [if_pos h]
  simp only [deq, D.py, PyData.eqv]
  congr 2
theorem o_neS {a b : Str} (ha : PyData.strOk a = true) (hb : PyData.strOk b = true) : oNe (.str a) (.str b) = some (.bl (decide (a ≠ b))) := by
  have h : eqOk (.str a) (.str b) = true := by simp [eqOk, D.plain, D.dep, ha, hb]
  unfold oNe
  rw [if_pos h]
  simp only [deq, D.py, PyData.eqv]
  congr 2
  by_cases e : a = b <;> simp [e]
mutual
theorem deq_refl : ∀ d : D, d.plain = true → deq d d = true
  | .non, _ => by simp [deq, D.py, PyData.eqv]
  | .bl b, _ => by simp [deq, D.py, PyData.eqv]
  | .int i, _ => by simp [deq, D.py, PyData.eqv]
  | .str x, _ => by simp [deq, D.py, PyData.eqv]
  | .tup xs, h => by
    simp only [D.plain] at h
    have := deqs_refl xs h
    simpa [deq, D.py, PyData.eqv] using this
  | .lst xs, h => by
    simp only [D.plain] at h
    have := deqs_refl xs h
    simpa [deq, D.py, PyData.eqv] using this
  | .dct _, h => by cases h
  | .obj _ _, h => by cases h
  | .ty _, h => by cases h
  | .cls _, h => by cases h
  | .exn _ _ _ _ _ _, h => by cases h
  | .scr _, h => by cases h
theorem deqs_refl : ∀ ds : List D, plains ds = true → PyData.eqvAll (pys ds) (pys ds) = true
  | [], _ => by simp [pys, PyData.eqvAll]
  | d :: ds, h => by
    simp only [plains, Bool.and_eq_true] at h
    have h1 := deq_refl d h.1
    unfold deq at h1
    simp [pys, PyData.eqvAll, h1, deqs_refl ds h.2]
end
theorem o_eq_refl {d : D} (p : d.plain = true) (h : d.dep ≤ 150) : oEq d d = some (.bl true) := by
  unfold oEq eqOk
  rw [if_pos (by simp [p]; omega), deq_refl d p]
theorem o_ne_refl {d : D} (p : d.plain = true) (h : d.dep ≤ 150) : oNe d d = some (.bl false) := by
  unfold oNe eqOk
  rw [if_pos (by simp [p]; omega), deq_refl d p]
  rfl
/-- what a for loop comes to: an invariant by the turn; a way out -/
theorem for_post {gd : Option Nat} {items : List D} {t : DG} {s : DS} {fr : Fr} {g : GH} (I : Nat → Fr → GH → Prop) (Post : SRes → Prop) (hgd : ∀ i fr g, I i fr g → gdOk gd items g) (h0 : I 0 fr g)
    (step : ∀ i d fr g, items[i]? = some d → I i fr g → ∃ fr1, t d fr = some fr1 ∧ ((∃ fr2 g2, s fr1 g = .nx fr2 g2 ∧ I (i + 1) fr2 g2) ∨ (∃ fr2 g2, s fr1 g = .ct fr2 g2 ∧ I (i + 1) fr2 g2) ∨ (∃ fr2 g2, s fr1 g = .bk fr2 g2 ∧ Post (.nx fr2 g2)) ∨
      (∃ x g2, s fr1 g = .rt x g2 ∧ Post (.rt x g2)) ∨ (∃ e fr2 g2, s fr1 g = .exc e fr2 g2 ∧ Post (.exc e fr2 g2))))
    (hend : ∀ fr g, I items.length fr g → Post (.nx fr g)) : Post (forGo gd items t s items fr g) := by
  have key : ∀ (m i : Nat) (fr : Fr) (g : GH), m + i = items.length → I i fr g → Post (forGo gd items t s (items.drop i) fr g) := by
    intro m
    induction m with
    | zero =>
      intro i fr g hm hi
      have hi' : i = items.length := by omega
      subst hi'
      rw [List.drop_length]
      unfold forGo
      rw [if_pos (hgd _ _ _ hi)]
      exact hend fr g hi
    | succ m ih =>
      intro i fr g hm hi
      have hlt : i < items.length := by omega
      rw [List.drop_eq_getElem_cons hlt]
      unfold forGo
      rw [if_pos (hgd _ _ _ hi)]
      obtain ⟨fr1, h1, h2⟩ := step i items[i] fr g (List.getElem?_eq_getElem hlt) hi
      simp only [h1]
      rcases h2 with ⟨fr2, g2, e, h⟩ | ⟨fr2, g2, e, h⟩ | ⟨fr2, g2, e, h⟩ | ⟨x, g2, e, h⟩ | ⟨x, fr2, g2, e, h⟩
      · simp only [e]; exact ih (i + 1) fr2 g2 (by omega) h
      · simp only [e]; exact ih (i + 1) fr2 g2 (by omega) h
      · simp only [e]; exact h
      · simp only [e]; exact h
      · simp only [e]; exact h
  exact key items.length 0 fr g rfl h0
theorem gd_none {items : List D} : gdOk none items g := fun _ h => nomatch h
noncomputable def forK (t : DG) (s : DS) (fr : Fr) (r : IRes) : SRes := r.toS fr fun items gd g1 => forGo gd items t s items fr g1
theorem q_for {m : DI} {t : DG} {s : DS} : sFor m t s fr g = forK t s fr (m fr g) := rfl
theorem for_1 {items : List D} {gd : Option Nat} {t : DG} {s : DS} : forK t s fr (.ok items gd g) = forGo gd items t s items fr g := rfl
theorem for_1x {e : Ex} {t : DG} {s : DS} : forK t s fr (.exc e g) = .exc e fr g := rfl
theorem while_nx {c : DE} {s : DS} {m : Nat} {r : SRes} (h : whileN c s m fr g = r) (hb : r ≠ .bad) : sWhile c s fr g = r := sWhile_eq h hb
/-- while other > 0: one, other = other, one % other -/
theorem gcd_go {c : DE} {i j : Nat} {a : DA} (hij : i ≠ j) (hc : ∀ (fr : Fr) (y : Int), fr[j]? = some (some (.v (.int y))) → c fr g = .ok (.v (.bl (decide (0 < y)))) g)
    (ha : ∀ (fr : Fr) (x y : Int), 0 < y → fr[i]? = some (some (.v (.int x))) → fr[j]? = some (some (.v (.int y))) → a fr g = .ok [.v (.int y), .v (.int (x % y))] g) :
    ∀ (y x : Nat) (fr : Fr), fr[i]? = some (some (.v (.int x))) → fr[j]? = some (some (.v (.int y))) → whileN c (sPar i j a) (y + 1) fr g = .nx ((fr.set i (some (.v (.int (Nat.gcd x y))))).set j (some (.v (.int 0)))) g := by
  intro y
  induction y using Nat.strongRecOn with
  | _ y ih =>
    intro x fr hx hy
    have hi : i < fr.length := (List.getElem?_eq_some_iff.mp hx).1
    have hj : j < fr.length := (List.getElem?_eq_some_iff.mp hy).1
    unfold whileN
    rw [hc fr y hy, r_toS, onBS_bl]
    by_cases hy0 : y = 0
    · subst hy0
      rw [if_neg (by simp)]
      congr 1
      refine List.ext_getElem? fun m => ?_
      by_cases hmj : m = j
      · subst hmj
        rw [List.getElem?_set_self (by simpa using hj), hy]
        rfl
      · rw [List.getElem?_set_ne (Ne.symm hmj)]
        by_cases hmi : m = i
        · subst hmi
          rw [List.getElem?_set_self hi, hx, Nat.gcd_zero_right]
        · rw [List.getElem?_set_ne (Ne.symm hmi)]
    · have hpos : (0 : Int) < y := by omega
      rw [if_pos (by simpa using hpos), q_par, ha fr x y hpos hx hy, par_1, par2]
      have hlt : x % y < y := Nat.mod_lt _ (by omega)
      have key := ih (x % y) hlt y ((fr.set i (some (.v (.int y)))).set j (some (.v (.int ((x % y : Nat) : Int))))) (by rw [List.getElem?_set_ne (Ne.symm hij), List.getElem?_set_self hi]) (by rw [List.getElem?_set_self (by simpa using hj)])
      have em : ((x : Int) % (y : Int)) = ((x % y : Nat) : Int) := by omega
      rw [em]
      simp only
      rw [whileN_le c (sPar i j a) (n := x % y + 1) (m := y) (by omega) _ _ (by rw [key]; exact fun z => nomatch z), key]
      have eg : Nat.gcd y (x % y) = Nat.gcd x y := by rw [Nat.gcd_comm y (x % y), ← Nat.gcd_rec, Nat.gcd_comm]
      rw [eg]
      congr 1
      refine List.ext_getElem? fun m => ?_
      by_cases hmj : m = j
      · subst hmj
        rw [List.getElem?_set_self (by simpa using hj), List.getElem?_set_self (by simpa using hj)]
      · rw [List.getElem?_set_ne (Ne.symm hmj), List.getElem?_set_ne (Ne.symm hmj)]
        by_cases hmi : m = i
        · subst hmi
          rw [List.getElem?_set_self (by simpa using hi), List.getElem?_set_self hi]
        · rw [List.getElem?_set_ne (Ne.symm hmi), List.getElem?_set_ne (Ne.symm hmj), List.getElem?_set_ne (Ne.symm hmi), List.getElem?_set_ne (Ne.symm hmi)]
def BoxAt (g : GH) (k : Nat) : Prop := k < g.n ∧ ∃ c s t : Int, 0 ≤ c ∧ g.get k = .lst [.int c, .int s, .int t]
/-- only the box at k has changed -/
structure Bx (k : Nat) (g g1 : GH) : Prop where
  n : g1.n = g.n
  ne : ∀ i, i ≠ k → g1.get i = g.get i
  at_ : BoxAt g1 k
theorem Bx.trans (a : Bx k g g1) (b : Bx k g1 g2) : Bx k g g2 := ⟨b.n.trans a.n, fun i h => (b.ne i h).trans (a.ne i h), b.at_⟩
theorem Bx.refl (h : BoxAt g k) : Bx k g g := ⟨rfl, fun _ _ => rfl, h⟩
theorem Bx.set {c s t : Int} (hk : k < g.n) (hc : 0 ≤ c) : Bx k g (g.set k (.lst [.int c, .int s, .int t])) := ⟨rfl, fun i h => set_ne h, hk, c, s, t, hc, set_get⟩
theorem lc_pure {gd : Option Nat} {items : List D} {t : DG} {c m : DE} {fr : Fr} {g : GH} (f : D → Option D) (hgd : gdOk gd items g) : ∀ l : List D, (∀ d ∈ l, ∃ fr1, t d fr = some fr1 ∧ ((f d = none ∧ c fr1 g = .ok (.v (.bl false)) g) ∨ ∃ d', f d = some d' ∧ c fr1 g = .ok (.v (.bl true)) g ∧ m fr1 g = .ok (.v d') g)) →
    lcGo gd items t c m fr l g = .ok (l.filterMap f) g
  | [], _ => by unfold lcGo; rw [if_pos hgd]; rfl
  | d :: l, h => by
    obtain ⟨fr1, h1, h2⟩ := h d (List.mem_cons_self ..)
    have ih := lc_pure f hgd l fun e he => h e (List.mem_cons_of_mem _ he)
    unfold lcGo
    rw [if_pos hgd]
    simp only [h1]
    rcases h2 with ⟨hf, hc⟩ | ⟨d', hf, hc, hm⟩
    · simp only [hc, Bool.false_eq_true, if_false, ih, List.filterMap_cons, hf]
    · simp only [hc, if_true, hm, take1_v, ih, LRes.cons, List.filterMap_cons, hf]
theorem lc_map {it : DI} {vs : List Nat} {items : List D} {gd : Option Nat} {t : DG} {m : DE} (f : D → D) (hi : it fr g = .ok items gd g) (hgd : gdOk gd items g) (hl : items.length ≤ 1000000)
    (h : ∀ d ∈ items, ∃ fr1, t d (wipeF fr vs) = some fr1 ∧ m fr1 g = .ok (.v (f d)) g) : mLC it vs t (mC (.bl true)) m fr g = .ok (.v (.lst (items.map f))) g := by
  unfold mLC
  have e := lc_pure (gd := gd) (items := items) (c := mC (.bl true)) (fr := wipeF fr vs) (g := g) (t := t) (m := m) (fun d => some (f d)) hgd items fun d hd => by
    obtain ⟨fr1, h1, h2⟩ := h d hd
    exact ⟨fr1, h1, .inr ⟨f d, rfl, rfl, h2⟩⟩
  have e2 : items.filterMap (fun d => some (f d)) = items.map f := by simp [List.filterMap_eq_map]
  rw [e2] at e
  simp only [hi, e, List.length_map, if_pos (sl100 hl)]
theorem lc_filter {it : DI} {vs : List Nat} {items : List D} {gd : Option Nat} {t : DG} {c m : DE} (f : D → Option D) (hi : it fr g = .ok items gd g) (hgd : gdOk gd items g) (hl : items.length ≤ 1000000)
    (h : ∀ d ∈ items, ∃ fr1, t d (wipeF fr vs) = some fr1 ∧ ((f d = none ∧ c fr1 g = .ok (.v (.bl false)) g) ∨ ∃ d', f d = some d' ∧ c fr1 g = .ok (.v (.bl true)) g ∧ m fr1 g = .ok (.v d') g)) : mLC it vs t c m fr g = .ok (.v (.lst (items.filterMap f))) g := by
  unfold mLC
  have e := lc_pure (gd := gd) (items := items) (c := c) (fr := wipeF fr vs) (g := g) (t := t) (m := m) f hgd items h
  have hl2 : (items.filterMap f).length ≤ 1000000 := Nat.le_trans (List.length_filterMap_le ..) hl
  simp only [hi, e, if_pos (sl100 hl2)]
theorem i_seqL {m : DE} {xs : List D} (h : m fr g = .ok (.v (.lst xs)) g1) : iSeq m fr g = .ok xs none g1 := by unfold iSeq; rw [h]
theorem i_seqT {m : DE} {xs : List D} (h : m fr g = .ok (.v (.tup xs)) g1) : iSeq m fr g = .ok xs none g1 := by unfold iSeq; rw [h]
theorem i_seqR {m : DE} {xs : List D} (h : m fr g = .ok (.r k) g1) (hk : k < g1.n) (hg : g1.get k = .lst xs) : iSeq m fr g = .ok xs (some k) g1 := by unfold iSeq; rw [h]; simp only [if_pos hk, hg]
end
end Dn
namespace Ck15
open PySem PySem.Spec PyProof.Rows L2 Dn
def top (i : Nat) : Stmt := PySem.Challenge.pw_sumfold_k15_rows_looked_at.main.body.getD i (.Pass ⟨0, 0, 0, 0⟩)
abbrev tabE : Str → Str → Option Bool := tabOf [("NoRow", "SumError", true), ("NoRow", "NoBack", false), ("NoRow", "NoBook", false), ("NoRow", "NoDeed", false), ("NoRow", "NoTower", false), ("NoRow", "NoText", false), ("NoRow", "TooHigh", false)]
abbrev tabT : Str → String → Option Bool := tabTOf [("NoRow", "ValueError", true)]
abbrev subE_NoRow : Str → Option Bool := subOf [("NoRow", true)]
structure Ad where
  NoRow : Addr
structure Tx (K : Bk) (A : Ad) : Prop where
  n_ValueError : K.mg "ValueError" = none
  n_abs : K.mg "abs" = none
  n_bool : K.mg "bool" = none
  n_enumerate : K.mg "enumerate" = none
  n_int : K.mg "int" = none
  n_isinstance : K.mg "isinstance" = none
  n_len : K.mg "len" = none
  n_max : K.mg "max" = none
  n_min : K.mg "min" = none
  n_range : K.mg "range" = none
  n_sum : K.mg "sum" = none
  g_NoBack : Gc K "NoBack" (.cls "NoBack")
  g_NoBook : Gc K "NoBook" (.cls "NoBook")
  g_NoDeed : Gc K "NoDeed" (.cls "NoDeed")
  g_NoText : Gc K "NoText" (.cls "NoText")
  g_NoTower : Gc K "NoTower" (.cls "NoTower")
  g_SumError : Gc K "SumError" (.cls "SumError")
  g_TooHigh : Gc K "TooHigh" (.cls "TooHigh")
  kin : Kin K tabE
  kinT : KinT K tabT
  m_NoRow : K.mg "NoRow" = some (.ref A.NoRow)
  xf_NoRow : XfC K.K A.NoRow
  sub_NoRow : ∀ m b, subE_NoRow m = some b → ∀ C, K.mg m = some C → PySem.W.exmOne K.K C (.ref A.NoRow) = some b
  no_NoRow_at : PySem.W.findIn K.K (.ref A.NoRow) "at" = some none
  no_NoRow_word : PySem.W.findIn K.K (.ref A.NoRow) "word" = some none
section
variable {P : Program} {w : World} {K : Bk} {base : Heap} {A : Ad}
abbrev s_NoRow : Stmt := inClass (top 3) 0
theorem sc_NoRow : FnScope ["self", "word", "at"] ["self", "word", "at"] (defScope s_NoRow) := ⟨rfl, rfl, rfl, by decide +kernel, rfl, by decide +kernel, by decide +kernel⟩
theorem er_NoRow {C S : Addr} (c : Xc K "NoRow" "SumError" "NoRow.__init__" s_NoRow ["self", "word", "at"] C S) (n0 : PySem.W.findIn K.K (.ref C) "word" = some none) (n1 : PySem.W.findIn K.K (.ref C) "at" = some none) : Er P w K base 1 "NoRow" ["word", "at"] := by
  obtain ⟨fI, fd, iC, tI, bi, F⟩ := c.fn
  exact ⟨C, fI, fd, _, c.m, c.ox, iC, tI, bi, F.ok sc_NoRow (fun vs H Q E h => spX_len h) fun cdv A outer s0 H vs Q E hr h =>
    ⟨_, pss_cons (ps_expr (pe_obinit rfl c.mB c.rd c.gaS c.vV (pa_cons (pv 0) (pa_cons pe_str pa_nil)))) (pss_cons (ps_ost (pv 0) (pv 1)) (pss_one (ps_ost (pv 0) (pv 2)))), spX2 c.ox n0 n1 h⟩⟩
abbrev s_Lbox : Stmt := top 15
abbrev N_Lbox : List Str := ["_law_script", "_law_k", "_law_cell", "_law_seed"]
theorem sc_Lbox : FnScope N_Lbox ["_law_script", "_law_k"] (defScope s_Lbox) := ⟨rfl, rfl, rfl, by decide +kernel, rfl, by decide +kernel, by decide +kernel⟩
noncomputable def b_Lbox : DS :=
  (sSeq (sSet 2 (mOp oAdd (mOp oMul (mC (.int 6151)) (mV 1)) (mC (.int 29))))
  (sSeq (sIf (mOp oLt (mV 1) (mFn oLen (aCons (mV 0) aNil)))
  (sSet 2 (mFn oMax (aCons (mOp oIx (mV 0) (mV 1)) (aCons (mOp oSub (mC (.int 0)) (mOp oIx (mV 0) (mV 1))) aNil))))
  (sIf (mOp oGt (mFn oLen (aCons (mV 0) aNil)) (mC (.int 0)))
  (sSet 2 (mOp oAdd (mV 2) (mOp oMul (mOp oMod (mOp oIx (mV 0) (mOp oMod (mV 1) (mFn oLen (aCons (mV 0) aNil)))) (mC (.int 2147483629))) (mC (.int 69623)))))
  sNil))
  (sSeq (sSet 3 (mOp oAdd (mOp oMod (mOp oAdd (mOp oAdd (mOp oMul (mOp oMod (mV 2) (mC (.int 2147483629))) (mC (.int 48271))) (mOp oMul (mC (.int 40692)) (mV 1))) (mC (.int 7))) (mC (.int 2147483629))) (mC (.int 1))))
  (sRet (mLstR (aCons (mOp oIx (mLst (aCons (mC (.int 0)) (aCons (mV 2) aNil))) (mFn oInt (aCons (mOp oGe (mV 2) (mOp oPow (mC (.int 10)) (mC (.int 18)))) aNil))) (aCons (mV 3) (aCons (mC (.int 0)) aNil))))))))
noncomputable def d_Lbox : Den := runI 4 b_Lbox
theorem ok_Lbox (t : Tx K A) (c : Dc K "_law_box" s_Lbox ["_law_script", "_law_k"]) : Df P w K base 1 "_law_box" ["_law_script", "_law_k"] (spI K 2 d_Lbox) := by
  obtain ⟨a, fd, m, kp, bi, F⟩ := c
  have nd := sc_Lbox.nd
  exact ⟨a, fd, m, kp, bi, fn_imp F sc_Lbox fun cdv A outer s0 H E hr =>
  (dss_cons (ds_set 2 nd (de_bin op_dadd (de_bin op_dmul de_int (de_v 1)) de_int))
  (dss_cons (ds_if (dt_cmp (op_dlt hr) (de_v 1) (de_fn c_len t.n_len (by decide +kernel) (da_cons (de_v 0) da_nil))) (dss_one (ds_set 2 nd (de_fn (c_max rfl) t.n_max (by decide +kernel) (da_cons (de_ix ix_d (de_v 0) (de_v 1)) (da_cons (de_bin op_dsub de_int (de_ix ix_d (de_v 0) (de_v 1))) da_nil))))) (dss_one (ds_if (dt_cmp op_dgt (de_fn c_len t.n_len (by decide +kernel) (da_cons (de_v 0) da_nil)) de_int) (dss_one (ds_set 2 nd (de_bin op_dadd (de_v 2) (de_bin op_dmul (de_bin op_dmod (de_ix ix_d (de_v 0) (de_bin op_dmod (de_v 1) (de_fn c_len t.n_len (by decide +kernel) (da_cons (de_v 0) da_nil)))) de_int) de_int)))) dss_nil)))
  (dss_cons (ds_set 3 nd (de_bin op_dadd (de_bin op_dmod (de_bin op_dadd (de_bin op_dadd (de_bin op_dmul (de_bin op_dmod (de_v 2) de_int) de_int) (de_bin op_dmul de_int (de_v 1))) de_int) de_int) de_int))
  (dss_one (ds_ret (de_lstR (da_cons (de_ix ix_d (de_lst (da_cons de_int (da_cons (de_v 2) da_nil))) (de_ty c_int t.n_int (by decide +kernel) (da_cons (de_cmp op_dge (de_v 2) (de_bin op_dpow de_int de_int)) da_nil))) (da_cons (de_v 3) (da_cons de_int da_nil)))))))))⟩
abbrev s_Ltake : Stmt := top 16
abbrev N_Ltake : List Str := ["_law_box_here", "_law_many", "_law_digit", "_law_one"]
theorem sc_Ltake : FnScope N_Ltake ["_law_box_here", "_law_many"] (defScope s_Ltake) := ⟨rfl, rfl, rfl, by decide +kernel, rfl, by decide +kernel, by decide +kernel⟩
noncomputable def b_Ltake : DS :=
  (sSeq (sIf (mOp oGt (mOp oIx (mV 0) (mC (.int 0))) (mC (.int 0)))
  (sSeq (sSet 2 (mOp oMod (mOp oIx (mV 0) (mC (.int 0))) (mV 1)))
  (sSeq (sStore (mOp oFdiv (mOp oIx (mV 0) (mC (.int 0))) (mV 1)) (mV 0) (mC (.int 0)))
  (sRet (mV 2))))
  sNil)
  (sSeq (sStore (mOp oAdd (mOp oIx (mV 0) (mC (.int 2))) (mC (.int 1))) (mV 0) (mC (.int 2)))
  (sSeq (sSet 3 (mOp oMod (mOp oMul (mOp oAdd (mOp oIx (mV 0) (mC (.int 1))) (mOp oMul (mC (.int 104729)) (mOp oIx (mV 0) (mC (.int 2))))) (mC (.int 69623))) (mC (.int 2147483647))))
  (sSeq (sStore (mOp oAdd (mOp oMod (mOp oAdd (mOp oMul (mV 3) (mC (.int 48271))) (mC (.int 30103))) (mC (.int 2147483629))) (mC (.int 1))) (mV 0) (mC (.int 1)))
  (sRet (mOp oMod (mOp oFdiv (mOp oAdd (mOp oMul (mV 3) (mC (.int 2147483647))) (mOp oIx (mV 0) (mC (.int 1)))) (mC (.int 8191))) (mV 1)))))))
noncomputable def d_Ltake : Den := runI 4 b_Ltake
theorem ok_Ltake (t : Tx K A) (c : Dc K "_law_take" s_Ltake ["_law_box_here", "_law_many"]) : Df P w K base 1 "_law_take" ["_law_box_here", "_law_many"] (spI K 2 d_Ltake) := by
  obtain ⟨a, fd, m, kp, bi, F⟩ := c
  have nd := sc_Ltake.nd
  exact ⟨a, fd, m, kp, bi, fn_imp F sc_Ltake fun cdv A outer s0 H E hr =>
  (dss_cons (ds_if (dt_cmp op_dgt (de_ix ix_d (de_v 0) de_int) de_int) (dss_cons (ds_set 2 nd (de_bin op_dmod (de_ix ix_d (de_v 0) de_int) (de_v 1)))
  (dss_cons (ds_store (de_bin (op_dfdiv) (de_ix ix_d (de_v 0) de_int) (de_v 1)) (de_v 0) de_int)
  (dss_one (ds_ret (de_v 2))))) dss_nil)
  (dss_cons (ds_store (de_bin op_dadd (de_ix ix_d (de_v 0) de_int) de_int) (de_v 0) de_int)
  (dss_cons (ds_set 3 nd (de_bin op_dmod (de_bin op_dmul (de_bin op_dadd (de_ix ix_d (de_v 0) de_int) (de_bin op_dmul de_int (de_ix ix_d (de_v 0) de_int))) de_int) de_int))
  (dss_cons (ds_store (de_bin op_dadd (de_bin op_dmod (de_bin op_dadd (de_bin op_dmul (de_v 3) de_int) de_int) de_int) de_int) (de_v 0) de_int)
  (dss_one (ds_ret (de_bin op_dmod (de_bin (op_dfdiv) (de_bin op_dadd (de_bin op_dmul (de_v 3) de_int) (de_ix ix_d (de_v 0) de_int)) de_int) (de_v 1))))))))⟩
abbrev s_Llow : Stmt := top 17
abbrev N_Llow : List Str := ["_law_upper", "_law_lower", "_law_one", "_law_other", "_law_sign"]
theorem sc_Llow : FnScope N_Llow ["_law_upper", "_law_lower"] (defScope s_Llow) := ⟨rfl, rfl, rfl, by decide +kernel, rfl, by decide +kernel, by decide +kernel⟩
noncomputable def b_Llow : DS :=
  (sSeq (sPar 2 3 (aCons (mFn oAbs (aCons (mV 0) aNil)) (aCons (mFn oAbs (aCons (mV 1) aNil)) aNil)))
  (sSeq (sWhile (mOp oGt (mV 3) (mC (.int 0)))
  (sPar 2 3 (aCons (mV 3) (aCons (mOp oMod (mV 2) (mV 3)) aNil))))
  (sSeq (sSet 4 (mOp oSub (mC (.int 1)) (mOp oMul (mC (.int 2)) (mFn oInt (aCons (mOp oLt (mV 1) (mC (.int 0))) aNil)))))
  (sRet (mTup (aCons (mOp oFdiv (mOp oMul (mV 4) (mV 0)) (mV 2)) (aCons (mOp oFdiv (mOp oMul (mV 4) (mV 1)) (mV 2)) aNil)))))))
noncomputable def d_Llow : List D → R := runP 5 b_Llow
theorem ok_Llow (t : Tx K A) (c : Dc K "_law_low" s_Llow ["_law_upper", "_law_lower"]) : Df P w K base 1 "_law_low" ["_law_upper", "_law_lower"] (spD K 2 d_Llow) := by
  obtain ⟨a, fd, m, kp, bi, F⟩ := c
  have nd := sc_Llow.nd
  exact ⟨a, fd, m, kp, bi, fn_pure F sc_Llow fun cdv A outer s0 H E hr =>
  (dss_cons (ds_par 2 3 nd (da_cons (de_fn c_abs t.n_abs (by decide +kernel) (da_cons (de_v 0) da_nil)) (da_cons (de_fn c_abs t.n_abs (by decide +kernel) (da_cons (de_v 1) da_nil)) da_nil)))
  (dss_cons (ds_while (passes_of rfl) (dt_cmp op_dgt (de_v 3) de_int) (dss_one (ds_par 2 3 nd (da_cons (de_v 3) (da_cons (de_bin op_dmod (de_v 2) (de_v 3)) da_nil)))))
  (dss_cons (ds_set 4 nd (de_bin op_dsub de_int (de_bin op_dmul de_int (de_ty c_int t.n_int (by decide +kernel) (da_cons (de_cmp (op_dlt hr) (de_v 1) de_int) da_nil)))))
  (dss_one (ds_ret (de_tup (da_cons (de_bin (op_dfdiv) (de_bin op_dmul (de_v 4) (de_v 0)) (de_v 2)) (da_cons (de_bin (op_dfdiv) (de_bin op_dmul (de_v 4) (de_v 1)) (de_v 2)) da_nil))))))))⟩
abbrev s_Lnumber : Stmt := top 18
abbrev N_Lnumber : List Str := ["_law_box_here", "_law_form", "_law_upper", "_law_lower"]
theorem sc_Lnumber : FnScope N_Lnumber ["_law_box_here"] (defScope s_Lnumber) := ⟨rfl, rfl, rfl, by decide +kernel, rfl, by decide +kernel, by decide +kernel⟩
noncomputable def b_Lnumber : DS :=
  (sSeq (sSet 1 (mCallI 2 (d_Ltake) (aCons (mV 0) (aCons (mC (.int 6)) aNil))))
  (sSeq (sPar 2 3 (aCons (mOp oSub (mCallI 2 (d_Ltake) (aCons (mV 0) (aCons (mC (.int 7)) aNil))) (mC (.int 3))) (aCons (mC (.int 1)) aNil)))
  (sSeq (sIf (mOp oEq (mV 1) (mC (.int 4)))
  (sPar 2 3 (aCons (mOp oSub (mCallI 2 (d_Ltake) (aCons (mV 0) (aCons (mC (.int 13)) aNil))) (mC (.int 6))) (aCons (mOp oAdd (mC (.int 1)) (mCallI 2 (d_Ltake) (aCons (mV 0) (aCons (mC (.int 4)) aNil)))) aNil)))
  sNil)
  (sSeq (sIf (mOp oEq (mV 1) (mC (.int 5)))
  (sPar 2 3 (aCons (mOp oSub (mCallI 2 (d_Ltake) (aCons (mV 0) (aCons (mC (.int 1999999)) aNil))) (mC (.int 999999))) (aCons (mOp oAdd (mC (.int 1)) (mCallI 2 (d_Ltake) (aCons (mV 0) (aCons (mC (.int 999999)) aNil)))) aNil)))
  sNil)
  (sRet (mCall 2 (d_Llow) (aCons (mV 2) (aCons (mV 3) aNil))))))))
noncomputable def d_Lnumber : Den := runI 4 b_Lnumber
theorem ok_Lnumber (t : Tx K A) (c : Dc K "_law_number" s_Lnumber ["_law_box_here"]) (h_Ltake : Df P w K base 1 "_law_take" ["_law_box_here", "_law_many"] (spI K 2 d_Ltake)) (h_Llow : Df P w K base 1 "_law_low" ["_law_upper", "_law_lower"] (spD K 2 d_Llow)) : Df P w K base 2 "_law_number" ["_law_box_here"] (spI K 1 d_Lnumber) := by
  obtain ⟨a, fd, m, kp, bi, F⟩ := c
  have nd := sc_Lnumber.nd
  exact ⟨a, fd, m, kp, bi, fn_imp F sc_Lnumber fun cdv A outer s0 H E hr =>
  (dss_cons (ds_set 1 nd (de_callI h_Ltake (hr.mono (by decide)) (takes_of rfl rfl rfl rfl) rfl (da_cons (de_v 0) (da_cons de_int da_nil))))
  (dss_cons (ds_par 2 3 nd (da_cons (de_bin op_dsub (de_callI h_Ltake (hr.mono (by decide)) (takes_of rfl rfl rfl rfl) rfl (da_cons (de_v 0) (da_cons de_int da_nil))) de_int) (da_cons de_int da_nil)))
  (dss_cons (ds_if (dt_cmp (op_deq hr) (de_v 1) de_int) (dss_one (ds_par 2 3 nd (da_cons (de_bin op_dsub (de_callI h_Ltake (hr.mono (by decide)) (takes_of rfl rfl rfl rfl) rfl (da_cons (de_v 0) (da_cons de_int da_nil))) de_int) (da_cons (de_bin op_dadd de_int (de_callI h_Ltake (hr.mono (by decide)) (takes_of rfl rfl rfl rfl) rfl (da_cons (de_v 0) (da_cons de_int da_nil)))) da_nil)))) dss_nil)
  (dss_cons (ds_if (dt_cmp (op_deq hr) (de_v 1) de_int) (dss_one (ds_par 2 3 nd (da_cons (de_bin op_dsub (de_callI h_Ltake (hr.mono (by decide)) (takes_of rfl rfl rfl rfl) rfl (da_cons (de_v 0) (da_cons de_int da_nil))) de_int) (da_cons (de_bin op_dadd de_int (de_callI h_Ltake (hr.mono (by decide)) (takes_of rfl rfl rfl rfl) rfl (da_cons (de_v 0) (da_cons de_int da_nil)))) da_nil)))) dss_nil)
  (dss_one (ds_ret (de_call h_Llow (hr.mono (by decide)) (takes_of rfl rfl rfl rfl) rfl (da_cons (de_v 2) (da_cons (de_v 3) da_nil)))))))))⟩
abbrev s_Lpace : Stmt := top 19
abbrev N_Lpace : List Str := ["_law_box_here", "_law_form", "_law_upper", "_law_lower"]
theorem sc_Lpace : FnScope N_Lpace ["_law_box_here"] (defScope s_Lpace) := ⟨rfl, rfl, rfl, by decide +kernel, rfl, by decide +kernel, by decide +kernel⟩
noncomputable def b_Lpace : DS :=
  (sSeq (sSet 1 (mCallI 2 (d_Ltake) (aCons (mV 0) (aCons (mC (.int 6)) aNil))))
  (sSeq (sIf (mOp oLt (mV 1) (mC (.int 4)))
  (sRet (mOp oIx (mLst (aCons (mTup (aCons (mC (.int 1)) (aCons (mC (.int 1)) aNil))) (aCons (mTup (aCons (mOp oSub (mC (.int 0)) (mC (.int 1))) (aCons (mC (.int 1)) aNil))) (aCons (mTup (aCons (mC (.int 2)) (aCons (mC (.int 1)) aNil))) (aCons (mTup (aCons (mC (.int 1)) (aCons (mC (.int 2)) aNil))) aNil))))) (mV 1)))
  sNil)
  (sSeq (sPar 2 3 (aCons (mOp oAdd (mC (.int 1)) (mCallI 2 (d_Ltake) (aCons (mV 0) (aCons (mOp oIx (mLst (aCons (mC (.int 4)) (aCons (mC (.int 99)) aNil))) (mOp oSub (mV 1) (mC (.int 4)))) aNil)))) (aCons (mOp oAdd (mC (.int 1)) (mCallI 2 (d_Ltake) (aCons (mV 0) (aCons (mOp oIx (mLst (aCons (mC (.int 4)) (aCons (mC (.int 99)) aNil))) (mOp oSub (mV 1) (mC (.int 4)))) aNil)))) aNil)))
  (sRet (mCall 2 (d_Llow) (aCons (mOp oMul (mOp oIx (mLst (aCons (mC (.int 1)) (aCons (mOp oSub (mC (.int 0)) (mC (.int 1))) aNil))) (mCallI 2 (d_Ltake) (aCons (mV 0) (aCons (mC (.int 2)) aNil)))) (mV 2)) (aCons (mV 3) aNil)))))))
noncomputable def d_Lpace : Den := runI 4 b_Lpace
theorem ok_Lpace (t : Tx K A) (c : Dc K "_law_pace" s_Lpace ["_law_box_here"]) (h_Ltake : Df P w K base 1 "_law_take" ["_law_box_here", "_law_many"] (spI K 2 d_Ltake)) (h_Llow : Df P w K base 1 "_law_low" ["_law_upper", "_law_lower"] (spD K 2 d_Llow)) : Df P w K base 2 "_law_pace" ["_law_box_here"] (spI K 1 d_Lpace) := by
  obtain ⟨a, fd, m, kp, bi, F⟩ := c
  have nd := sc_Lpace.nd
  exact ⟨a, fd, m, kp, bi, fn_imp F sc_Lpace fun cdv A outer s0 H E hr =>
  (dss_cons (ds_set 1 nd (de_callI h_Ltake (hr.mono (by decide)) (takes_of rfl rfl rfl rfl) rfl (da_cons (de_v 0) (da_cons de_int da_nil))))
  (dss_cons (ds_if (dt_cmp (op_dlt hr) (de_v 1) de_int) (dss_one (ds_ret (de_ix ix_d (de_lst (da_cons (de_tup (da_cons de_int (da_cons de_int da_nil))) (da_cons (de_tup (da_cons (de_bin op_dsub de_int de_int) (da_cons de_int da_nil))) (da_cons (de_tup (da_cons de_int (da_cons de_int da_nil))) (da_cons (de_tup (da_cons de_int (da_cons de_int da_nil))) da_nil))))) (de_v 1)))) dss_nil)
  (dss_cons (ds_par 2 3 nd (da_cons (de_bin op_dadd de_int (de_callI h_Ltake (hr.mono (by decide)) (takes_of rfl rfl rfl rfl) rfl (da_cons (de_v 0) (da_cons (de_ix ix_d (de_lst (da_cons de_int (da_cons de_int da_nil))) (de_bin op_dsub (de_v 1) de_int)) da_nil)))) (da_cons (de_bin op_dadd de_int (de_callI h_Ltake (hr.mono (by decide)) (takes_of rfl rfl rfl rfl) rfl (da_cons (de_v 0) (da_cons (de_ix ix_d (de_lst (da_cons de_int (da_cons de_int da_nil))) (de_bin op_dsub (de_v 1) de_int)) da_nil)))) da_nil)))
  (dss_one (ds_ret (de_call h_Llow (hr.mono (by decide)) (takes_of rfl rfl rfl rfl) rfl (da_cons (de_bin op_dmul (de_ix ix_d (de_lst (da_cons de_int (da_cons (de_bin op_dsub de_int de_int) da_nil))) (de_callI h_Ltake (hr.mono (by decide)) (takes_of rfl rfl rfl rfl) rfl (da_cons (de_v 0) (da_cons de_int da_nil)))) (de_v 2)) (da_cons (de_v 3) da_nil))))))))⟩
abbrev s_Lleaf : Stmt := top 21
abbrev N_Lleaf : List Str := ["_law_box_here", "_law_load_here", "_law_form"]
theorem sc_Lleaf : FnScope N_Lleaf ["_law_box_here", "_law_load_here"] (defScope s_Lleaf) := ⟨rfl, rfl, rfl, by decide +kernel, rfl, by decide +kernel, by decide +kernel⟩
noncomputable def b_Lleaf : DS :=
  (sSeq (sSet 2 (mCallI 2 (d_Ltake) (aCons (mV 0) (aCons (mC (.int 4)) aNil))))
  (sSeq (sIf (mOr (mOp oEq (mV 2) (mC (.int 0))) (mAnd (mOp oEq (mV 2) (mC (.int 1))) (mOp oLt (mV 1) (mC (.int 1)))))
  (sRet (mTup (aCons (mC (.str "num")) (aCons (mCallI 1 (d_Lnumber) (aCons (mV 0) aNil)) aNil))))
  sNil)
  (sSeq (sIf (mOp oEq (mV 2) (mC (.int 2)))
  (sRet (mTup (aCons (mC (.str "pace")) (aCons (mCallI 1 (d_Lpace) (aCons (mV 0) aNil)) aNil))))
  sNil)
  (sSeq (sIf (mOr (mOp oEq (mV 2) (mC (.int 1))) (mAnd (mOp oGt (mV 1) (mC (.int 0))) (mOp oEq (mCallI 2 (d_Ltake) (aCons (mV 0) (aCons (mC (.int 2)) aNil))) (mC (.int 0)))))
  (sRet (mTup (aCons (mC (.str "place")) aNil)))
  sNil)
  (sRet (mTup (aCons (mC (.str "num")) (aCons (mCall 2 (d_Llow) (aCons (mOp oAdd (mC (.int 1)) (mCallI 2 (d_Ltake) (aCons (mV 0) (aCons (mC (.int 3)) aNil)))) (aCons (mC (.int 1)) aNil))) aNil))))))))
noncomputable def d_Lleaf : Den := runI 3 b_Lleaf
theorem ok_Lleaf (t : Tx K A) (c : Dc K "_law_leaf" s_Lleaf ["_law_box_here", "_law_load_here"]) (h_Ltake : Df P w K base 1 "_law_take" ["_law_box_here", "_law_many"] (spI K 2 d_Ltake)) (h_Lnumber : Df P w K base 2 "_law_number" ["_law_box_here"] (spI K 1 d_Lnumber)) (h_Lpace : Df P w K base 2 "_law_pace" ["_law_box_here"] (spI K 1 d_Lpace)) (h_Llow : Df P w K base 1 "_law_low" ["_law_upper", "_law_lower"] (spD K 2 d_Llow)) : Df P w K base 3 "_law_leaf" ["_law_box_here", "_law_load_here"] (spI K 2 d_Lleaf) := by
  obtain ⟨a, fd, m, kp, bi, F⟩ := c
  have nd := sc_Lleaf.nd
  exact ⟨a, fd, m, kp, bi, fn_imp F sc_Lleaf fun cdv A outer s0 H E hr =>
  (dss_cons (ds_set 2 nd (de_callI h_Ltake (hr.mono (by decide)) (takes_of rfl rfl rfl rfl) rfl (da_cons (de_v 0) (da_cons de_int da_nil))))
  (dss_cons (ds_if (PW.pt (dw_or (dt_cmp (op_deq hr) (de_v 2) de_int) (dw_or1 (PW.pt (dw_and (dt_cmp (op_deq hr) (de_v 2) de_int) (dw_and1 (dt_cmp (op_dlt hr) (de_v 1) de_int))))))) (dss_one (ds_ret (de_tup (da_cons de_str (da_cons (de_callI h_Lnumber (hr.mono (by decide)) (takes_of rfl rfl rfl rfl) rfl (da_cons (de_v 0) da_nil)) da_nil))))) dss_nil)
  (dss_cons (ds_if (dt_cmp (op_deq hr) (de_v 2) de_int) (dss_one (ds_ret (de_tup (da_cons de_str (da_cons (de_callI h_Lpace (hr.mono (by decide)) (takes_of rfl rfl rfl rfl) rfl (da_cons (de_v 0) da_nil)) da_nil))))) dss_nil)
  (dss_cons (ds_if (PW.pt (dw_or (dt_cmp (op_deq hr) (de_v 2) de_int) (dw_or1 (PW.pt (dw_and (dt_cmp op_dgt (de_v 1) de_int) (dw_and1 (dt_cmp (op_deq hr) (de_callI h_Ltake (hr.mono (by decide)) (takes_of rfl rfl rfl rfl) rfl (da_cons (de_v 0) (da_cons de_int da_nil))) de_int))))))) (dss_one (ds_ret (de_tup (da_cons de_str da_nil)))) dss_nil)
  (dss_one (ds_ret (de_tup (da_cons de_str (da_cons (de_call h_Llow (hr.mono (by decide)) (takes_of rfl rfl rfl rfl) rfl (da_cons (de_bin op_dadd de_int (de_callI h_Ltake (hr.mono (by decide)) (takes_of rfl rfl rfl rfl) rfl (da_cons (de_v 0) (da_cons de_int da_nil)))) (da_cons de_int da_nil))) da_nil)))))))))⟩
abbrev s_Lline : Stmt := top 20
abbrev N_Lline : List Str := ["_law_box_here", "_law_p", "_law_q"]
theorem sc_Lline : FnScope N_Lline ["_law_box_here"] (defScope s_Lline) := ⟨rfl, rfl, rfl, by decide +kernel, rfl, by decide +kernel, by decide +kernel⟩
noncomputable def b_Lline : DS :=
  (sSeq (sPar 1 2 (aCons (mOp oAdd (mC (.int 1)) (mCallI 2 (d_Ltake) (aCons (mV 0) (aCons (mC (.int 3)) aNil)))) (aCons (mOp oIx (mLst (aCons (mCallI 2 (d_Ltake) (aCons (mV 0) (aCons (mC (.int 3)) aNil))) (aCons (mOp oSub (mCallI 2 (d_Ltake) (aCons (mV 0) (aCons (mC (.int 13)) aNil))) (mC (.int 6))) aNil))) (mCallI 2 (d_Ltake) (aCons (mV 0) (aCons (mC (.int 2)) aNil)))) aNil)))
  (sSeq (sIf (mAnd (mOp oLt (mV 2) (mC (.int 0))) (mOp oEq (mOp oMod (mV 2) (mV 1)) (mC (.int 0))))
  (sSet 2 (mOp oSub (mC (.int 0)) (mV 2)))
  sNil)
  (sRet (mTup (aCons (mV 1) (aCons (mV 2) aNil))))))
noncomputable def d_Lline : Den := runI 3 b_Lline
theorem ok_Lline (t : Tx K A) (c : Dc K "_law_line" s_Lline ["_law_box_here"]) (h_Ltake : Df P w K base 1 "_law_take" ["_law_box_here", "_law_many"] (spI K 2 d_Ltake)) : Df P w K base 2 "_law_line" ["_law_box_here"] (spI K 1 d_Lline) := by
  obtain ⟨a, fd, m, kp, bi, F⟩ := c
  have nd := sc_Lline.nd
  exact ⟨a, fd, m, kp, bi, fn_imp F sc_Lline fun cdv A outer s0 H E hr =>
  (dss_cons (ds_par 1 2 nd (da_cons (de_bin op_dadd de_int (de_callI h_Ltake (hr.mono (by decide)) (takes_of rfl rfl rfl rfl) rfl (da_cons (de_v 0) (da_cons de_int da_nil)))) (da_cons (de_ix ix_d (de_lst (da_cons (de_callI h_Ltake (hr.mono (by decide)) (takes_of rfl rfl rfl rfl) rfl (da_cons (de_v 0) (da_cons de_int da_nil))) (da_cons (de_bin op_dsub (de_callI h_Ltake (hr.mono (by decide)) (takes_of rfl rfl rfl rfl) rfl (da_cons (de_v 0) (da_cons de_int da_nil))) de_int) da_nil))) (de_callI h_Ltake (hr.mono (by decide)) (takes_of rfl rfl rfl rfl) rfl (da_cons (de_v 0) (da_cons de_int da_nil)))) da_nil)))
  (dss_cons (ds_if (PW.pt (dw_and (dt_cmp (op_dlt hr) (de_v 2) de_int) (dw_and1 (dt_cmp (op_deq hr) (de_bin op_dmod (de_v 2) (de_v 1)) de_int)))) (dss_one (ds_set 2 nd (de_bin op_dsub de_int (de_v 2)))) dss_nil)
  (dss_one (ds_ret (de_tup (da_cons (de_v 1) (da_cons (de_v 2) da_nil)))))))⟩
abbrev s_Lrow : Stmt := top 22
abbrev N_Lrow : List Str := ["_law_box_here", "_law_room", "_law_deep_here", "_law_load_here", "_law_form", "_law_p", "_law_q", "_law_half", "_law_part", "_law_one"]
theorem sc_Lrow : FnScope N_Lrow ["_law_box_here", "_law_room", "_law_deep_here", "_law_load_here"] (defScope s_Lrow) := ⟨rfl, rfl, rfl, by decide +kernel, rfl, by decide +kernel, by decide +kernel⟩
noncomputable def b_Lrow (self : Den) : DS :=
  (sSeq (sSet 4 (mCallI 2 (d_Ltake) (aCons (mV 0) (aCons (mC (.int 10)) aNil))))
  (sSeq (sIf (mOr (mOp oLt (mV 1) (mC (.int 2))) (mOp oEq (mV 4) (mC (.int 0))))
  (sRet (mCallI 2 (d_Lleaf) (aCons (mV 0) (aCons (mV 3) aNil))))
  sNil)
  (sSeq (sIf (mAnd (mOp oLt (mV 4) (mC (.int 4))) (mOp oGt (mV 3) (mC (.int 0))))
  (sSeq (sAsg (mCallI 1 (d_Lline) (aCons (mV 0) aNil)) (gT (gsCons (gN 5) (gsCons (gN 6) gsNil))))
  (sRet (mTup (aCons (mC (.str "over")) (aCons (mCallI 4 (self) (aCons (mV 0) (aCons (mOp oSub (mV 1) (mC (.int 1))) (aCons (mV 2) (aCons (mOp oSub (mV 3) (mC (.int 1))) aNil))))) (aCons (mV 5) (aCons (mV 6) aNil)))))))
  sNil)
  (sSeq (sIf (mAnd (mOp oLt (mV 4) (mC (.int 7))) (mAnd (mOp oGt (mV 3) (mC (.int 0))) (mOp oGt (mV 2) (mC (.int 0)))))
  (sRet (mTup (aCons (mC (.str "heap")) (aCons (mCallI 4 (self) (aCons (mV 0) (aCons (mOp oSub (mV 1) (mC (.int 1))) (aCons (mOp oSub (mV 2) (mC (.int 1))) (aCons (mOp oSub (mV 3) (mC (.int 1))) aNil))))) aNil))))
  sNil)
  (sSeq (sIf (mOp oEq (mV 4) (mC (.int 7)))
  (sRet (mTup (aCons (mC (.str "on")) (aCons (mCallI 4 (self) (aCons (mV 0) (aCons (mOp oSub (mV 1) (mC (.int 1))) (aCons (mV 2) (aCons (mV 3) aNil))))) aNil))))
  sNil)
  (sSeq (sIf (mOp oLt (mV 1) (mC (.int 3)))
  (sRet (mCallI 2 (d_Lleaf) (aCons (mV 0) (aCons (mV 3) aNil))))
  sNil)
  (sSeq (sSet 7 (mOp oAdd (mC (.int 1)) (mCallI 2 (d_Ltake) (aCons (mV 0) (aCons (mOp oSub (mV 1) (mC (.int 2))) aNil)))))
  (sSeq (sIf (mOp oEq (mV 4) (mC (.int 8)))
  (sSeq (sSet 8 (mCallI 2 (d_Ltake) (aCons (mV 0) (aCons (mOp oAdd (mV 3) (mC (.int 1))) aNil))))
  (sSeq (sSet 9 (mCallI 4 (self) (aCons (mV 0) (aCons (mV 7) (aCons (mV 2) (aCons (mV 8) aNil))))))
  (sRet (mTup (aCons (mC (.str "times")) (aCons (mV 9) (aCons (mCallI 4 (self) (aCons (mV 0) (aCons (mOp oSub (mOp oSub (mV 1) (mC (.int 1))) (mV 7)) (aCons (mV 2) (aCons (mOp oSub (mV 3) (mV 8)) aNil))))) aNil)))))))
  sNil)
  (sSeq (sSet 9 (mCallI 4 (self) (aCons (mV 0) (aCons (mV 7) (aCons (mV 2) (aCons (mV 3) aNil))))))
  (sRet (mTup (aCons (mOp oIx (mLst (aCons (mC (.str "sum")) (aCons (mC (.str "less")) aNil))) (mCallI 2 (d_Ltake) (aCons (mV 0) (aCons (mC (.int 2)) aNil)))) (aCons (mV 9) (aCons (mCallI 4 (self) (aCons (mV 0) (aCons (mOp oSub (mOp oSub (mV 1) (mC (.int 1))) (mV 7)) (aCons (mV 2) (aCons (mV 3) aNil))))) aNil))))))))))))))
noncomputable def d_Lrow : Nat → Den
  | 0 => fun _ _ => .bad
  | k + 1 => runI 10 (b_Lrow (d_Lrow k))
theorem ok_Lrow (t : Tx K A) (c : Dc K "_law_row" s_Lrow ["_law_box_here", "_law_room", "_law_deep_here", "_law_load_here"]) (h_Ltake : Df P w K base 1 "_law_take" ["_law_box_here", "_law_many"] (spI K 2 d_Ltake)) (h_Lleaf : Df P w K base 3 "_law_leaf" ["_law_box_here", "_law_load_here"] (spI K 2 d_Lleaf)) (h_Lline : Df P w K base 2 "_law_line" ["_law_box_here"] (spI K 1 d_Lline)) : ∀ n : Nat, Df P w K base (4 + n) "_law_row" ["_law_box_here", "_law_room", "_law_deep_here", "_law_load_here"] (spI K 4 (d_Lrow n)) := by
  obtain ⟨a, fd, m, kp, bi, F⟩ := c
  have nd := sc_Lrow.nd
  intro n
  induction n with
  | zero => exact ⟨a, fd, m, kp, bi, fn_imp F sc_Lrow fun cdv A outer s0 H E hr => dss_bad⟩
  | succ n ih => exact ⟨a, fd, m, kp, bi, fn_imp F sc_Lrow fun cdv A outer s0 H E hr =>
  (dss_cons (ds_set 4 nd (de_callI h_Ltake (hr.mono (lvl (by decide))) (takes_of rfl rfl rfl rfl) rfl (da_cons (de_v 0) (da_cons de_int da_nil))))
  (dss_cons (ds_if (PW.pt (dw_or (dt_cmp (op_dlt hr) (de_v 1) de_int) (dw_or1 (dt_cmp (op_deq hr) (de_v 4) de_int)))) (dss_one (ds_ret (de_callI h_Lleaf (hr.mono (lvl (by decide))) (takes_of rfl rfl rfl rfl) rfl (da_cons (de_v 0) (da_cons (de_v 3) da_nil))))) dss_nil)
  (dss_cons (ds_if (PW.pt (dw_and (dt_cmp (op_dlt hr) (de_v 4) de_int) (dw_and1 (dt_cmp op_dgt (de_v 3) de_int)))) (dss_cons (ds_asg (de_callI h_Lline (hr.mono (lvl (by decide))) (takes_of rfl rfl rfl rfl) rfl (da_cons (de_v 0) da_nil)) (dg_tup (dgs_cons (dg_n 5 nd) (dgs_cons (dg_n 6 nd) dgs_nil)) (gsCons_len (gsCons_len (fun _ _ => gsNil_len)))))
  (dss_one (ds_ret (de_tup (da_cons de_str (da_cons (de_callI ih hr (takes_of rfl rfl rfl rfl) rfl (da_cons (de_v 0) (da_cons (de_bin op_dsub (de_v 1) de_int) (da_cons (de_v 2) (da_cons (de_bin op_dsub (de_v 3) de_int) da_nil))))) (da_cons (de_v 5) (da_cons (de_v 6) da_nil)))))))) dss_nil)
  (dss_cons (ds_if (PW.pt (dw_and (dt_cmp (op_dlt hr) (de_v 4) de_int) (dw_and (dt_cmp op_dgt (de_v 3) de_int) (dw_and1 (dt_cmp op_dgt (de_v 2) de_int))))) (dss_one (ds_ret (de_tup (da_cons de_str (da_cons (de_callI ih hr (takes_of rfl rfl rfl rfl) rfl (da_cons (de_v 0) (da_cons (de_bin op_dsub (de_v 1) de_int) (da_cons (de_bin op_dsub (de_v 2) de_int) (da_cons (de_bin op_dsub (de_v 3) de_int) da_nil))))) da_nil))))) dss_nil)
  (dss_cons (ds_if (dt_cmp (op_deq hr) (de_v 4) de_int) (dss_one (ds_ret (de_tup (da_cons de_str (da_cons (de_callI ih hr (takes_of rfl rfl rfl rfl) rfl (da_cons (de_v 0) (da_cons (de_bin op_dsub (de_v 1) de_int) (da_cons (de_v 2) (da_cons (de_v 3) da_nil))))) da_nil))))) dss_nil)
  (dss_cons (ds_if (dt_cmp (op_dlt hr) (de_v 1) de_int) (dss_one (ds_ret (de_callI h_Lleaf (hr.mono (lvl (by decide))) (takes_of rfl rfl rfl rfl) rfl (da_cons (de_v 0) (da_cons (de_v 3) da_nil))))) dss_nil)
  (dss_cons (ds_set 7 nd (de_bin op_dadd de_int (de_callI h_Ltake (hr.mono (lvl (by decide))) (takes_of rfl rfl rfl rfl) rfl (da_cons (de_v 0) (da_cons (de_bin op_dsub (de_v 1) de_int) da_nil)))))
  (dss_cons (ds_if (dt_cmp (op_deq hr) (de_v 4) de_int) (dss_cons (ds_set 8 nd (de_callI h_Ltake (hr.mono (lvl (by decide))) (takes_of rfl rfl rfl rfl) rfl (da_cons (de_v 0) (da_cons (de_bin op_dadd (de_v 3) de_int) da_nil))))
  (dss_cons (ds_set 9 nd (de_callI ih hr (takes_of rfl rfl rfl rfl) rfl (da_cons (de_v 0) (da_cons (de_v 7) (da_cons (de_v 2) (da_cons (de_v 8) da_nil))))))
  (dss_one (ds_ret (de_tup (da_cons de_str (da_cons (de_v 9) (da_cons (de_callI ih hr (takes_of rfl rfl rfl rfl) rfl (da_cons (de_v 0) (da_cons (de_bin op_dsub (de_bin op_dsub (de_v 1) de_int) (de_v 7)) (da_cons (de_v 2) (da_cons (de_bin op_dsub (de_v 3) (de_v 8)) da_nil))))) da_nil)))))))) dss_nil)
  (dss_cons (ds_set 9 nd (de_callI ih hr (takes_of rfl rfl rfl rfl) rfl (da_cons (de_v 0) (da_cons (de_v 7) (da_cons (de_v 2) (da_cons (de_v 3) da_nil))))))
  (dss_one (ds_ret (de_tup (da_cons (de_ix ix_d (de_lst (da_cons de_str (da_cons de_str da_nil))) (de_callI h_Ltake (hr.mono (lvl (by decide))) (takes_of rfl rfl rfl rfl) rfl (da_cons (de_v 0) (da_cons de_int da_nil)))) (da_cons (de_v 9) (da_cons (de_callI ih hr (takes_of rfl rfl rfl rfl) rfl (da_cons (de_v 0) (da_cons (de_bin op_dsub (de_bin op_dsub (de_v 1) de_int) (de_v 7)) (da_cons (de_v 2) (da_cons (de_v 3) da_nil))))) da_nil)))))))))))))))⟩
abbrev s_Linner : Stmt := top 23
abbrev N_Linner : List Str := ["_law_row_here"]
theorem sc_Linner : FnScope N_Linner ["_law_row_here"] (defScope s_Linner) := ⟨rfl, rfl, rfl, by decide +kernel, rfl, by decide +kernel, by decide +kernel⟩
noncomputable def b_Linner : DS :=
  (sSeq (sIf (mOp oIn (mOp oIx (mV 0) (mC (.int 0))) (mTup (aCons (mC (.str "num")) (aCons (mC (.str "place")) (aCons (mC (.str "pace")) aNil)))))
  (sRet (mLst aNil))
  sNil)
  (sSeq (sIf (mOp oIn (mOp oIx (mV 0) (mC (.int 0))) (mTup (aCons (mC (.str "sum")) (aCons (mC (.str "less")) (aCons (mC (.str "times")) aNil)))))
  (sRet (mLst (aCons (mOp oIx (mV 0) (mC (.int 1))) (aCons (mOp oIx (mV 0) (mC (.int 2))) aNil))))
  sNil)
  (sRet (mLst (aCons (mOp oIx (mV 0) (mC (.int 1))) aNil)))))
noncomputable def d_Linner : List D → R := runP 1 b_Linner
theorem ok_Linner (t : Tx K A) (c : Dc K "_law_inner" s_Linner ["_law_row_here"]) : Df P w K base 1 "_law_inner" ["_law_row_here"] (spD K 1 d_Linner) := by
  obtain ⟨a, fd, m, kp, bi, F⟩ := c
  have nd := sc_Linner.nd
  exact ⟨a, fd, m, kp, bi, fn_pure F sc_Linner fun cdv A outer s0 H E hr =>
  (dss_cons (ds_if (dt_cmp (op_din hr) (de_ix ix_d (de_v 0) de_int) (de_tup (da_cons de_str (da_cons de_str (da_cons de_str da_nil))))) (dss_one (ds_ret (de_lst da_nil))) dss_nil)
  (dss_cons (ds_if (dt_cmp (op_din hr) (de_ix ix_d (de_v 0) de_int) (de_tup (da_cons de_str (da_cons de_str (da_cons de_str da_nil))))) (dss_one (ds_ret (de_lst (da_cons (de_ix ix_d (de_v 0) de_int) (da_cons (de_ix ix_d (de_v 0) de_int) da_nil))))) dss_nil)
  (dss_one (ds_ret (de_lst (da_cons (de_ix ix_d (de_v 0) de_int) da_nil))))))⟩
abbrev s_Lthings : Stmt := top 24
abbrev N_Lthings : List Str := ["_law_row_here", "_law_found", "_law_part"]
theorem sc_Lthings : FnScope N_Lthings ["_law_row_here"] (defScope s_Lthings) := ⟨rfl, rfl, rfl, by decide +kernel, rfl, by decide +kernel, by decide +kernel⟩
noncomputable def b_Lthings (self : List D → R) : DS :=
  (sSeq (sSet 1 (mLstR (aCons (mV 0) aNil)))
  (sSeq (sFor (iSeq (mCall 1 (d_Linner) (aCons (mV 0) aNil))) (gN 2)
  (sExpr (mMut uExtend (mV 1) (aCons (mCall 1 (self) (aCons (mV 2) aNil)) aNil))))
  (sRet (mV 1))))
noncomputable def d_Lthings : Nat → List D → R
  | 0 => fun _ => .bad
  | k + 1 => runP 3 (b_Lthings (d_Lthings k))
theorem ok_Lthings (t : Tx K A) (c : Dc K "_law_things" s_Lthings ["_law_row_here"]) (h_Linner : Df P w K base 1 "_law_inner" ["_law_row_here"] (spD K 1 d_Linner)) : ∀ n : Nat, Df P w K base (2 + n) "_law_things" ["_law_row_here"] (spD K 1 (d_Lthings n)) := by
  obtain ⟨a, fd, m, kp, bi, F⟩ := c
  have nd := sc_Lthings.nd
  intro n
  induction n with
  | zero => exact ⟨a, fd, m, kp, bi, fn_pure F sc_Lthings fun cdv A outer s0 H E hr => dss_bad⟩
  | succ n ih => exact ⟨a, fd, m, kp, bi, fn_pure F sc_Lthings fun cdv A outer s0 H E hr =>
  (dss_cons (ds_set 1 nd (de_lstR (da_cons (de_v 0) da_nil)))
  (dss_cons (ds_for (passes_of rfl) (di_seq (de_call h_Linner (hr.mono (lvl (by decide))) (takes_of rfl rfl rfl rfl) rfl (da_cons (de_v 0) da_nil))) (dg_n 2 nd) (dss_one (ds_expr (de_mut PySem.F.slot_list_extend PySem.F.type_list_extend mt_dextend (de_v 1) (da_cons (de_call ih hr (takes_of rfl rfl rfl rfl) rfl (da_cons (de_v 2) da_nil)) da_nil)))))
  (dss_one (ds_ret (de_v 1)))))⟩
abbrev s_Lload : Stmt := top 25
abbrev N_Lload : List Str := ["_law_row_here", "_law_some_here", "_law_part"]
theorem sc_Lload : FnScope N_Lload ["_law_row_here"] (defScope s_Lload) := ⟨rfl, rfl, rfl, by decide +kernel, rfl, by decide +kernel, by decide +kernel⟩
noncomputable def b_Lload (self : List D → R) : DS :=
  (sSeq (sSet 1 (mLC (iSeq (mCall 1 (d_Linner) (aCons (mV 0) aNil))) [2] (gN 2) (mC (.bl true)) (mCall 1 (self) (aCons (mV 2) aNil))))
  (sSeq (sIf (mOp oEq (mOp oIx (mV 0) (mC (.int 0))) (mC (.str "times")))
  (sRet (mFn oSum (aCons (mV 1) aNil)))
  sNil)
  (sSeq (sIf (mOp oIn (mOp oIx (mV 0) (mC (.int 0))) (mTup (aCons (mC (.str "place")) (aCons (mC (.str "over")) (aCons (mC (.str "heap")) aNil)))))
  (sRet (mOp oAdd (mC (.int 1)) (mFnK oMaxD (aCons (mV 1) aNil) (aCons (mC (.int 0)) aNil))))
  sNil)
  (sRet (mFnK oMaxD (aCons (mV 1) aNil) (aCons (mC (.int 0)) aNil))))))
noncomputable def d_Lload : Nat → List D → R
  | 0 => fun _ => .bad
  | k + 1 => runP 3 (b_Lload (d_Lload k))
theorem ok_Lload (t : Tx K A) (c : Dc K "_law_load" s_Lload ["_law_row_here"]) (h_Linner : Df P w K base 1 "_law_inner" ["_law_row_here"] (spD K 1 d_Linner)) : ∀ n : Nat, Df P w K base (2 + n) "_law_load" ["_law_row_here"] (spD K 1 (d_Lload n)) := by
  obtain ⟨a, fd, m, kp, bi, F⟩ := c
  have nd := sc_Lload.nd
  intro n
  induction n with
  | zero => exact ⟨a, fd, m, kp, bi, fn_pure F sc_Lload fun cdv A outer s0 H E hr => dss_bad⟩
  | succ n ih => exact ⟨a, fd, m, kp, bi, fn_pure F sc_Lload fun cdv A outer s0 H E hr =>
  (dss_cons (ds_setLc (i := 1) (own := [("_law_part", 2)]) nd (di_seq (de_call h_Linner (hr.mono (lvl (by decide))) (takes_of rfl rfl rfl rfl) rfl (da_cons (de_v 0) da_nil))) (blkOk_by (N := N_Lload) (sc := defScope s_Lload) (by decide +kernel)) (fun _ _ _ _ _ => (dg_n 2 nd)) (fun _ _ _ _ _ => dts_nil) (fun _ _ _ _ _ => (de_call ih hr takes0 rfl (da_cons (de_v 2) da_nil))))
  (dss_cons (ds_if (dt_cmp (op_deq hr) (de_ix ix_d (de_v 0) de_int) de_str) (dss_one (ds_ret (de_fn (c_sum rfl) t.n_sum (by decide +kernel) (da_cons (de_v 1) da_nil)))) dss_nil)
  (dss_cons (ds_if (dt_cmp (op_din hr) (de_ix ix_d (de_v 0) de_int) (de_tup (da_cons de_str (da_cons de_str (da_cons de_str da_nil))))) (dss_one (ds_ret (de_bin op_dadd de_int (de_fnK (c_maxD hr rfl) t.n_max (by decide +kernel) (da_cons (de_v 1) da_nil) (dk_cons de_int dk_nil))))) dss_nil)
  (dss_one (ds_ret (de_fnK (c_maxD hr rfl) t.n_max (by decide +kernel) (da_cons (de_v 1) da_nil) (dk_cons de_int dk_nil)))))))⟩
abbrev s_Ldeep : Stmt := top 26
abbrev N_Ldeep : List Str := ["_law_row_here", "_law_part"]
theorem sc_Ldeep : FnScope N_Ldeep ["_law_row_here"] (defScope s_Ldeep) := ⟨rfl, rfl, rfl, by decide +kernel, rfl, by decide +kernel, by decide +kernel⟩
noncomputable def b_Ldeep (self : List D → R) : DS :=
  (sRet (mOp oAdd (mFnK oMaxD (aCons (mLC (iSeq (mCall 1 (d_Linner) (aCons (mV 0) aNil))) [1] (gN 1) (mC (.bl true)) (mCall 1 (self) (aCons (mV 1) aNil))) aNil) (aCons (mC (.int 0)) aNil)) (mFn oInt (aCons (mOp oEq (mOp oIx (mV 0) (mC (.int 0))) (mC (.str "heap"))) aNil))))
noncomputable def d_Ldeep : Nat → List D → R
  | 0 => fun _ => .bad
  | k + 1 => runP 2 (b_Ldeep (d_Ldeep k))
theorem ok_Ldeep (t : Tx K A) (c : Dc K "_law_deep" s_Ldeep ["_law_row_here"]) (h_Linner : Df P w K base 1 "_law_inner" ["_law_row_here"] (spD K 1 d_Linner)) : ∀ n : Nat, Df P w K base (2 + n) "_law_deep" ["_law_row_here"] (spD K 1 (d_Ldeep n)) := by
  obtain ⟨a, fd, m, kp, bi, F⟩ := c
  have nd := sc_Ldeep.nd
  intro n
  induction n with
  | zero => exact ⟨a, fd, m, kp, bi, fn_pure F sc_Ldeep fun cdv A outer s0 H E hr => dss_bad⟩
  | succ n ih => exact ⟨a, fd, m, kp, bi, fn_pure F sc_Ldeep fun cdv A outer s0 H E hr =>
  (dss_one (ds_ret (de_bin op_dadd (de_fnK (c_maxD hr rfl) t.n_max (by decide +kernel) (da_cons (de_lc (own := [("_law_part", 1)]) nd (di_seq (de_call h_Linner (hr.mono (lvl (by decide))) (takes_of rfl rfl rfl rfl) rfl (da_cons (de_v 0) da_nil))) (blkOk_by (N := N_Ldeep) (sc := defScope s_Ldeep) (by decide +kernel)) (fun _ _ _ _ _ => (dg_n 1 nd)) (fun _ _ _ _ _ => dts_nil) (fun _ _ _ _ _ => (de_call ih hr takes0 rfl (da_cons (de_v 1) da_nil)))) da_nil) (dk_cons de_int dk_nil)) (de_ty c_int t.n_int (by decide +kernel) (da_cons (de_cmp (op_deq hr) (de_ix ix_d (de_v 0) de_int) de_str) da_nil)))))⟩
abbrev s_Lis_small : Stmt := top 27
abbrev N_Lis_small : List Str := ["_law_row_here", "_law_heavy", "_law_words", "_law_thing"]
theorem sc_Lis_small : FnScope N_Lis_small ["_law_row_here", "_law_heavy"] (defScope s_Lis_small) := ⟨rfl, rfl, rfl, by decide +kernel, rfl, by decide +kernel, by decide +kernel⟩
noncomputable def b_Lis_small : DS :=
  (sSeq (sSet 2 (mLC (iSeq (mCall 1 (d_Lthings 70) (aCons (mV 0) aNil))) [3] (gN 3) (mC (.bl true)) (mOp oIx (mV 3) (mC (.int 0)))))
  (sSeq (sIf (mOr (mOp oGt (mFn oLen (aCons (mV 2) aNil)) (mC (.int 40))) (mOr (mOp oGt (mM "list" oCount (mV 2) (aCons (mC (.str "heap")) aNil)) (mC (.int 6))) (mOp oGt (mM "list" oCount (mV 2) (aCons (mC (.str "pace")) aNil)) (mC (.int 4)))))
  (sRet (mC (.bl false)))
  sNil)
  (sRet (mAnd (mOp oLe (mCall 1 (d_Lload 24) (aCons (mV 0) aNil)) (mV 1)) (mOp oLt (mCall 1 (d_Ldeep 24) (aCons (mV 0) aNil)) (mC (.int 4)))))))
noncomputable def d_Lis_small : List D → R := runP 4 b_Lis_small
theorem ok_Lis_small (t : Tx K A) (c : Dc K "_law_is_small" s_Lis_small ["_law_row_here", "_law_heavy"]) (h_Lthings : Df P w K base 72 "_law_things" ["_law_row_here"] (spD K 1 (d_Lthings 70))) (h_Lload : Df P w K base 26 "_law_load" ["_law_row_here"] (spD K 1 (d_Lload 24))) (h_Ldeep : Df P w K base 26 "_law_deep" ["_law_row_here"] (spD K 1 (d_Ldeep 24))) : Df P w K base 73 "_law_is_small" ["_law_row_here", "_law_heavy"] (spD K 2 d_Lis_small) := by
  obtain ⟨a, fd, m, kp, bi, F⟩ := c
  have nd := sc_Lis_small.nd
  exact ⟨a, fd, m, kp, bi, fn_pure F sc_Lis_small fun cdv A outer s0 H E hr =>
  (dss_cons (ds_setLc (i := 2) (own := [("_law_thing", 3)]) nd (di_seq (de_call h_Lthings (hr.mono (by decide)) (takes_of rfl rfl rfl rfl) rfl (da_cons (de_v 0) da_nil))) (blkOk_by (N := N_Lis_small) (sc := defScope s_Lis_small) (by decide +kernel)) (fun _ _ _ _ _ => (dg_n 3 nd)) (fun _ _ _ _ _ => dts_nil) (fun _ _ _ _ _ => (de_ix ix_d (de_v 3) de_int)))
  (dss_cons (ds_if (PW.pt (dw_or (dt_cmp op_dgt (de_fn c_len t.n_len (by decide +kernel) (da_cons (de_v 2) da_nil)) de_int) (dw_or (dt_cmp op_dgt (de_mth PySem.F.plainAttrs_list PySem.F.slot_list_count PySem.F.type_list_count (mt_dcount hr) (de_v 2) (da_cons de_str da_nil)) de_int) (dw_or1 (dt_cmp op_dgt (de_mth PySem.F.plainAttrs_list PySem.F.slot_list_count PySem.F.type_list_count (mt_dcount hr) (de_v 2) (da_cons de_str da_nil)) de_int))))) (dss_one (ds_ret de_bl)) dss_nil)
  (dss_one (ds_ret (de_and (de_cmp op_dle (de_call h_Lload (hr.mono (by decide)) (takes_of rfl rfl rfl rfl) rfl (da_cons (de_v 0) da_nil)) (de_v 1)) (de_one (de_cmp (op_dlt hr) (de_call h_Ldeep (hr.mono (by decide)) (takes_of rfl rfl rfl rfl) rfl (da_cons (de_v 0) da_nil)) de_int)))))))⟩
abbrev s_Lsome : Stmt := top 28
abbrev N_Lsome : List Str := ["_law_box_here", "_law_heavy", "_law_row_here"]
theorem sc_Lsome : FnScope N_Lsome ["_law_box_here", "_law_heavy"] (defScope s_Lsome) := ⟨rfl, rfl, rfl, by decide +kernel, rfl, by decide +kernel, by decide +kernel⟩
noncomputable def b_Lsome : DS :=
  (sSeq (sSet 2 (mCallI 4 (d_Lrow 20) (aCons (mV 0) (aCons (mOp oAdd (mC (.int 2)) (mCallI 2 (d_Ltake) (aCons (mV 0) (aCons (mOp oIx (mLst (aCons (mC (.int 6)) (aCons (mC (.int 14)) aNil))) (mCallI 2 (d_Ltake) (aCons (mV 0) (aCons (mC (.int 2)) aNil)))) aNil)))) (aCons (mC (.int 3)) (aCons (mV 1) aNil))))))
  (sRet (mOp oIx (mLst (aCons (mTup (aCons (mC (.str "place")) aNil)) (aCons (mV 2) aNil))) (mFn oInt (aCons (mCall 2 (d_Lis_small) (aCons (mV 2) (aCons (mV 1) aNil))) aNil)))))
noncomputable def d_Lsome : Den := runI 3 b_Lsome
theorem ok_Lsome (t : Tx K A) (c : Dc K "_law_some" s_Lsome ["_law_box_here", "_law_heavy"]) (h_Ltake : Df P w K base 1 "_law_take" ["_law_box_here", "_law_many"] (spI K 2 d_Ltake)) (h_Lrow : Df P w K base 24 "_law_row" ["_law_box_here", "_law_room", "_law_deep_here", "_law_load_here"] (spI K 4 (d_Lrow 20))) (h_Lis_small : Df P w K base 73 "_law_is_small" ["_law_row_here", "_law_heavy"] (spD K 2 d_Lis_small)) : Df P w K base 74 "_law_some" ["_law_box_here", "_law_heavy"] (spI K 2 d_Lsome) := by
  obtain ⟨a, fd, m, kp, bi, F⟩ := c
  have nd := sc_Lsome.nd
  exact ⟨a, fd, m, kp, bi, fn_imp F sc_Lsome fun cdv A outer s0 H E hr =>
  (dss_cons (ds_set 2 nd (de_callI h_Lrow (hr.mono (by decide)) (takes_of rfl rfl rfl rfl) rfl (da_cons (de_v 0) (da_cons (de_bin op_dadd de_int (de_callI h_Ltake (hr.mono (by decide)) (takes_of rfl rfl rfl rfl) rfl (da_cons (de_v 0) (da_cons (de_ix ix_d (de_lst (da_cons de_int (da_cons de_int da_nil))) (de_callI h_Ltake (hr.mono (by decide)) (takes_of rfl rfl rfl rfl) rfl (da_cons (de_v 0) (da_cons de_int da_nil)))) da_nil)))) (da_cons de_int (da_cons (de_v 1) da_nil))))))
  (dss_one (ds_ret (de_ix ix_d (de_lst (da_cons (de_tup (da_cons de_str da_nil)) (da_cons (de_v 2) da_nil))) (de_ty c_int t.n_int (by decide +kernel) (da_cons (de_call h_Lis_small (hr.mono (by decide)) (takes_of rfl rfl rfl rfl) rfl (da_cons (de_v 2) (da_cons (de_v 1) da_nil))) da_nil))))))⟩
abbrev s_Lturned : Stmt := top 30
abbrev N_Lturned : List Str := ["_law_box_here", "_law_row_here", "_law_left", "_law_word", "_law_one", "_law_p", "_law_q", "_law_late", "_law_some_here"]
theorem sc_Lturned : FnScope N_Lturned ["_law_box_here", "_law_row_here", "_law_left"] (defScope s_Lturned) := ⟨rfl, rfl, rfl, by decide +kernel, rfl, by decide +kernel, by decide +kernel⟩
noncomputable def b_Lturned (self : Den) : DS :=
  (sSeq (sSet 3 (mOp oIx (mV 1) (mC (.int 0))))
  (sSeq (sIf (mAnd (mOp oEq (mV 3) (mC (.str "pace"))) (mAnd (mOp oGt (mOp oIx (mV 2) (mC (.int 0))) (mC (.int 0))) (mOp oEq (mCallI 2 (d_Ltake) (aCons (mV 0) (aCons (mC (.int 2)) aNil))) (mC (.int 0)))))
  (sSeq (sStore (mOp oSub (mOp oIx (mV 2) (mC (.int 0))) (mC (.int 1))) (mV 2) (mC (.int 0)))
  (sRet (mTup (aCons (mC (.str "pace")) (aCons (mTup (aCons (mC (.int 0)) (aCons (mC (.int 1)) aNil))) aNil)))))
  sNil)
  (sSeq (sIf (mOp oIn (mV 3) (mTup (aCons (mC (.str "sum")) (aCons (mC (.str "less")) (aCons (mC (.str "times")) aNil)))))
  (sSeq (sSet 4 (mCallI 3 (self) (aCons (mV 0) (aCons (mOp oIx (mV 1) (mC (.int 1))) (aCons (mV 2) aNil)))))
  (sRet (mTup (aCons (mV 3) (aCons (mV 4) (aCons (mCallI 3 (self) (aCons (mV 0) (aCons (mOp oIx (mV 1) (mC (.int 2))) (aCons (mV 2) aNil)))) aNil))))))
  sNil)
  (sSeq (sIf (mOp oIn (mV 3) (mTup (aCons (mC (.str "heap")) (aCons (mC (.str "on")) aNil))))
  (sRet (mTup (aCons (mV 3) (aCons (mCallI 3 (self) (aCons (mV 0) (aCons (mOp oIx (mV 1) (mC (.int 1))) (aCons (mV 2) aNil)))) aNil))))
  sNil)
  (sSeq (sIf (mOp oEq (mV 3) (mC (.str "over")))
  (sSeq (sAsg (mSl (some (mC (.int 2))) none (mV 1)) (gT (gsCons (gN 5) (gsCons (gN 6) gsNil))))
  (sSeq (sIf (mAnd (mOp oGt (mOp oIx (mV 2) (mC (.int 0))) (mC (.int 0))) (mOp oEq (mCallI 2 (d_Ltake) (aCons (mV 0) (aCons (mC (.int 2)) aNil))) (mC (.int 0))))
  (sSeq (sStore (mOp oSub (mOp oIx (mV 2) (mC (.int 0))) (mC (.int 1))) (mV 2) (mC (.int 0)))
  (sSeq (sSet 5 (mOp oAdd (mC (.int 1)) (mCallI 2 (d_Ltake) (aCons (mV 0) (aCons (mOp oIx (mLst (aCons (mC (.int 3)) (aCons (mC (.int 12)) aNil))) (mCallI 2 (d_Ltake) (aCons (mV 0) (aCons (mC (.int 2)) aNil)))) aNil)))))
  (sSeq (sSet 7 (mOp oAdd (mC (.int 1)) (mCallI 2 (d_Ltake) (aCons (mV 0) (aCons (mOp oIx (mLst (aCons (mC (.int 6)) (aCons (mC (.int 60)) aNil))) (mCallI 2 (d_Ltake) (aCons (mV 0) (aCons (mC (.int 2)) aNil)))) aNil)))))
  (sSeq (sSet 8 (mLst (aCons (mTup (aCons (mC (.int 0)) (aCons (mC (.int 1)) aNil))) (aCons (mTup (aCons (mOp oSub (mC (.int 0)) (mV 5)) (aCons (mC (.int 5)) aNil))) (aCons (mTup (aCons (mV 5) (aCons (mOp oSub (mC (.int 0)) (mOp oMul (mV 5) (mV 7))) aNil))) (aCons (mTup (aCons (mV 5) (aCons (mC (.int 0)) aNil))) (aCons (mTup (aCons (mC (.int 3)) (aCons (mOp oSub (mC (.int 0)) (mC (.int 5))) aNil))) (aCons (mTup (aCons (mOp oSub (mC (.int 0)) (mC (.int 1))) (aCons (mOp oSub (mC (.int 0)) (mC (.int 1))) aNil))) aNil))))))))
  (sAsg (mOp oIx (mV 8) (mCallI 2 (d_Ltake) (aCons (mV 0) (aCons (mC (.int 6)) aNil)))) (gT (gsCons (gN 5) (gsCons (gN 6) gsNil))))))))
  sNil)
  (sRet (mTup (aCons (mC (.str "over")) (aCons (mCallI 3 (self) (aCons (mV 0) (aCons (mOp oIx (mV 1) (mC (.int 1))) (aCons (mV 2) aNil)))) (aCons (mV 5) (aCons (mV 6) aNil))))))))
  sNil)
  (sRet (mV 1)))))))
noncomputable def d_Lturned : Nat → Den
  | 0 => fun _ _ => .bad
  | k + 1 => runI 9 (b_Lturned (d_Lturned k))
theorem ok_Lturned (t : Tx K A) (c : Dc K "_law_turned" s_Lturned ["_law_box_here", "_law_row_here", "_law_left"]) (h_Ltake : Df P w K base 1 "_law_take" ["_law_box_here", "_law_many"] (spI K 2 d_Ltake)) : ∀ n : Nat, Df P w K base (2 + n) "_law_turned" ["_law_box_here", "_law_row_here", "_law_left"] (spI K 3 (d_Lturned n)) := by
  obtain ⟨a, fd, m, kp, bi, F⟩ := c
  have nd := sc_Lturned.nd
  intro n
  induction n with
  | zero => exact ⟨a, fd, m, kp, bi, fn_imp F sc_Lturned fun cdv A outer s0 H E hr => dss_bad⟩
  | succ n ih => exact ⟨a, fd, m, kp, bi, fn_imp F sc_Lturned fun cdv A outer s0 H E hr =>
  (dss_cons (ds_set 3 nd (de_ix ix_d (de_v 1) de_int))
  (dss_cons (ds_if (PW.pt (dw_and (dt_cmp (op_deq hr) (de_v 3) de_str) (dw_and (dt_cmp op_dgt (de_ix ix_d (de_v 2) de_int) de_int) (dw_and1 (dt_cmp (op_deq hr) (de_callI h_Ltake (hr.mono (lvl (by decide))) (takes_of rfl rfl rfl rfl) rfl (da_cons (de_v 0) (da_cons de_int da_nil))) de_int))))) (dss_cons (ds_store (de_bin op_dsub (de_ix ix_d (de_v 2) de_int) de_int) (de_v 2) de_int)
  (dss_one (ds_ret (de_tup (da_cons de_str (da_cons (de_tup (da_cons de_int (da_cons de_int da_nil))) da_nil)))))) dss_nil)
  (dss_cons (ds_if (dt_cmp (op_din hr) (de_v 3) (de_tup (da_cons de_str (da_cons de_str (da_cons de_str da_nil))))) (dss_cons (ds_set 4 nd (de_callI ih hr (takes_of rfl rfl rfl rfl) rfl (da_cons (de_v 0) (da_cons (de_ix ix_d (de_v 1) de_int) (da_cons (de_v 2) da_nil)))))
  (dss_one (ds_ret (de_tup (da_cons (de_v 3) (da_cons (de_v 4) (da_cons (de_callI ih hr (takes_of rfl rfl rfl rfl) rfl (da_cons (de_v 0) (da_cons (de_ix ix_d (de_v 1) de_int) (da_cons (de_v 2) da_nil)))) da_nil))))))) dss_nil)
  (dss_cons (ds_if (dt_cmp (op_din hr) (de_v 3) (de_tup (da_cons de_str (da_cons de_str da_nil)))) (dss_one (ds_ret (de_tup (da_cons (de_v 3) (da_cons (de_callI ih hr (takes_of rfl rfl rfl rfl) rfl (da_cons (de_v 0) (da_cons (de_ix ix_d (de_v 1) de_int) (da_cons (de_v 2) da_nil)))) da_nil))))) dss_nil)
  (dss_cons (ds_if (dt_cmp (op_deq hr) (de_v 3) de_str) (dss_cons (ds_asg (de_sl (de_v 1) (dpo_some de_int) dpo_none) (dg_tup (dgs_cons (dg_n 5 nd) (dgs_cons (dg_n 6 nd) dgs_nil)) (gsCons_len (gsCons_len (fun _ _ => gsNil_len)))))
  (dss_cons (ds_if (PW.pt (dw_and (dt_cmp op_dgt (de_ix ix_d (de_v 2) de_int) de_int) (dw_and1 (dt_cmp (op_deq hr) (de_callI h_Ltake (hr.mono (lvl (by decide))) (takes_of rfl rfl rfl rfl) rfl (da_cons (de_v 0) (da_cons de_int da_nil))) de_int)))) (dss_cons (ds_store (de_bin op_dsub (de_ix ix_d (de_v 2) de_int) de_int) (de_v 2) de_int)
  (dss_cons (ds_set 5 nd (de_bin op_dadd de_int (de_callI h_Ltake (hr.mono (lvl (by decide))) (takes_of rfl rfl rfl rfl) rfl (da_cons (de_v 0) (da_cons (de_ix ix_d (de_lst (da_cons de_int (da_cons de_int da_nil))) (de_callI h_Ltake (hr.mono (lvl (by decide))) (takes_of rfl rfl rfl rfl) rfl (da_cons (de_v 0) (da_cons de_int da_nil)))) da_nil)))))
  (dss_cons (ds_set 7 nd (de_bin op_dadd de_int (de_callI h_Ltake (hr.mono (lvl (by decide))) (takes_of rfl rfl rfl rfl) rfl (da_cons (de_v 0) (da_cons (de_ix ix_d (de_lst (da_cons de_int (da_cons de_int da_nil))) (de_callI h_Ltake (hr.mono (lvl (by decide))) (takes_of rfl rfl rfl rfl) rfl (da_cons (de_v 0) (da_cons de_int da_nil)))) da_nil)))))
  (dss_cons (ds_set 8 nd (de_lst (da_cons (de_tup (da_cons de_int (da_cons de_int da_nil))) (da_cons (de_tup (da_cons (de_bin op_dsub de_int (de_v 5)) (da_cons de_int da_nil))) (da_cons (de_tup (da_cons (de_v 5) (da_cons (de_bin op_dsub de_int (de_bin op_dmul (de_v 5) (de_v 7))) da_nil))) (da_cons (de_tup (da_cons (de_v 5) (da_cons de_int da_nil))) (da_cons (de_tup (da_cons de_int (da_cons (de_bin op_dsub de_int de_int) da_nil))) (da_cons (de_tup (da_cons (de_bin op_dsub de_int de_int) (da_cons (de_bin op_dsub de_int de_int) da_nil))) da_nil))))))))
  (dss_one (ds_asg (de_ix ix_d (de_v 8) (de_callI h_Ltake (hr.mono (lvl (by decide))) (takes_of rfl rfl rfl rfl) rfl (da_cons (de_v 0) (da_cons de_int da_nil)))) (dg_tup (dgs_cons (dg_n 5 nd) (dgs_cons (dg_n 6 nd) dgs_nil)) (gsCons_len (gsCons_len (fun _ _ => gsNil_len)))))))))) dss_nil)
  (dss_one (ds_ret (de_tup (da_cons de_str (da_cons (de_callI ih hr (takes_of rfl rfl rfl rfl) rfl (da_cons (de_v 0) (da_cons (de_ix ix_d (de_v 1) de_int) (da_cons (de_v 2) da_nil)))) (da_cons (de_v 5) (da_cons (de_v 6) da_nil))))))))) dss_nil)
  (dss_one (ds_ret (de_v 1))))))))⟩
abbrev s_parts_of : Stmt := top 10
abbrev N_parts_of : List Str := ["row"]
theorem sc_parts_of : FnScope N_parts_of ["row"] (defScope s_parts_of) := ⟨rfl, rfl, rfl, by decide +kernel, rfl, by decide +kernel, by decide +kernel⟩
noncomputable def b_parts_of : DS :=
  (sSeq (sIf (mOp oIn (mOp oIx (mV 0) (mC (.int 0))) (mTup (aCons (mC (.str "num")) (aCons (mC (.str "place")) (aCons (mC (.str "pace")) aNil)))))
  (sRet (mLst aNil))
  sNil)
  (sSeq (sIf (mOp oIn (mOp oIx (mV 0) (mC (.int 0))) (mTup (aCons (mC (.str "sum")) (aCons (mC (.str "less")) (aCons (mC (.str "times")) aNil)))))
  (sRet (mLst (aCons (mOp oIx (mV 0) (mC (.int 1))) (aCons (mOp oIx (mV 0) (mC (.int 2))) aNil))))
  sNil)
  (sRet (mLst (aCons (mOp oIx (mV 0) (mC (.int 1))) aNil)))))
noncomputable def d_parts_of : List D → R := runP 1 b_parts_of
theorem ok_parts_of (t : Tx K A) (c : Dc K "parts_of" s_parts_of ["row"]) : Df P w K base 1 "parts_of" ["row"] (spD K 1 d_parts_of) := by
  obtain ⟨a, fd, m, kp, bi, F⟩ := c
  have nd := sc_parts_of.nd
  exact ⟨a, fd, m, kp, bi, fn_pure F sc_parts_of fun cdv A outer s0 H E hr =>
  (dss_cons (ds_if (dt_cmp (op_din hr) (de_ix ix_d (de_v 0) de_int) (de_tup (da_cons de_str (da_cons de_str (da_cons de_str da_nil))))) (dss_one (ds_ret (de_lst da_nil))) dss_nil)
  (dss_cons (ds_if (dt_cmp (op_din hr) (de_ix ix_d (de_v 0) de_int) (de_tup (da_cons de_str (da_cons de_str (da_cons de_str da_nil))))) (dss_one (ds_ret (de_lst (da_cons (de_ix ix_d (de_v 0) de_int) (da_cons (de_ix ix_d (de_v 0) de_int) da_nil))))) dss_nil)
  (dss_one (ds_ret (de_lst (da_cons (de_ix ix_d (de_v 0) de_int) da_nil))))))⟩
abbrev s_things_in : Stmt := top 11
abbrev N_things_in : List Str := ["row", "found", "part"]
theorem sc_things_in : FnScope N_things_in ["row"] (defScope s_things_in) := ⟨rfl, rfl, rfl, by decide +kernel, rfl, by decide +kernel, by decide +kernel⟩
noncomputable def b_things_in (self : List D → R) : DS :=
  (sSeq (sSet 1 (mLstR (aCons (mV 0) aNil)))
  (sSeq (sFor (iSeq (mCall 1 (d_parts_of) (aCons (mV 0) aNil))) (gN 2)
  (sExpr (mMut uExtend (mV 1) (aCons (mCall 1 (self) (aCons (mV 2) aNil)) aNil))))
  (sRet (mV 1))))
noncomputable def d_things_in : Nat → List D → R
  | 0 => fun _ => .bad
  | k + 1 => runP 3 (b_things_in (d_things_in k))
theorem ok_things_in (t : Tx K A) (c : Dc K "things_in" s_things_in ["row"]) (h_parts_of : Df P w K base 1 "parts_of" ["row"] (spD K 1 d_parts_of)) : ∀ n : Nat, Df P w K base (2 + n) "things_in" ["row"] (spD K 1 (d_things_in n)) := by
  obtain ⟨a, fd, m, kp, bi, F⟩ := c
  have nd := sc_things_in.nd
  intro n
  induction n with
  | zero => exact ⟨a, fd, m, kp, bi, fn_pure F sc_things_in fun cdv A outer s0 H E hr => dss_bad⟩
  | succ n ih => exact ⟨a, fd, m, kp, bi, fn_pure F sc_things_in fun cdv A outer s0 H E hr =>
  (dss_cons (ds_set 1 nd (de_lstR (da_cons (de_v 0) da_nil)))
  (dss_cons (ds_for (passes_of rfl) (di_seq (de_call h_parts_of (hr.mono (lvl (by decide))) (takes_of rfl rfl rfl rfl) rfl (da_cons (de_v 0) da_nil))) (dg_n 2 nd) (dss_one (ds_expr (de_mut PySem.F.slot_list_extend PySem.F.type_list_extend mt_dextend (de_v 1) (da_cons (de_call ih hr (takes_of rfl rfl rfl rfl) rfl (da_cons (de_v 2) da_nil)) da_nil)))))
  (dss_one (ds_ret (de_v 1)))))⟩
abbrev s_wrong_with : Stmt := top 12
abbrev N_wrong_with : List Str := ["thing", "word", "more", "slope", "start"]
theorem sc_wrong_with : FnScope N_wrong_with ["thing"] (defScope s_wrong_with) := ⟨rfl, rfl, rfl, by decide +kernel, rfl, by decide +kernel, by decide +kernel⟩
noncomputable def b_wrong_with : DS :=
  (sSeq (sAsg (mV 0) (gT1 (gN 1) (gN 2)))
  (sSeq (sIf (mAnd (mOp oEq (mV 1) (mC (.str "pace"))) (mOp oEq (mOp oIx (mOp oIx (mV 2) (mC (.int 0))) (mC (.int 0))) (mC (.int 0))))
  (sRet (mC (.str "pace")))
  sNil)
  (sSeq (sIf (mOp oNe (mV 1) (mC (.str "over")))
  (sRet (mC .non))
  sNil)
  (sSeq (sAsg (mSl (some (mC (.int 1))) none (mV 2)) (gT (gsCons (gN 3) (gsCons (gN 4) gsNil))))
  (sSeq (sIf (mOp oLt (mV 3) (mC (.int 1)))
  (sRet (mC (.str "line")))
  sNil)
  (sSeq (sIf (mAnd (mOp oLt (mV 4) (mC (.int 0))) (mOp oEq (mOp oMod (mOp1 oNeg (mV 4)) (mV 3)) (mC (.int 0))))
  (sRet (mC (.str "nought")))
  sNil)
  (sRet (mC .non))))))))
noncomputable def d_wrong_with : List D → R := runP 5 b_wrong_with
theorem ok_wrong_with (t : Tx K A) (c : Dc K "wrong_with" s_wrong_with ["thing"]) : Df P w K base 1 "wrong_with" ["thing"] (spD K 1 d_wrong_with) := by
  obtain ⟨a, fd, m, kp, bi, F⟩ := c
  have nd := sc_wrong_with.nd
  exact ⟨a, fd, m, kp, bi, fn_pure F sc_wrong_with fun cdv A outer s0 H E hr =>
  (dss_cons (ds_asg (de_v 0) (dg_star (dg_n 1 nd) (dg_n 2 nd)))
  (dss_cons (ds_if (PW.pt (dw_and (dt_cmp (op_deq hr) (de_v 1) de_str) (dw_and1 (dt_cmp (op_deq hr) (de_ix ix_d (de_ix ix_d (de_v 2) de_int) de_int) de_int)))) (dss_one (ds_ret de_str)) dss_nil)
  (dss_cons (ds_if (dt_cmp (op_dne hr) (de_v 1) de_str) (dss_one (ds_ret de_non)) dss_nil)
  (dss_cons (ds_asg (de_sl (de_v 2) (dpo_some de_int) dpo_none) (dg_tup (dgs_cons (dg_n 3 nd) (dgs_cons (dg_n 4 nd) dgs_nil)) (gsCons_len (gsCons_len (fun _ _ => gsNil_len)))))
  (dss_cons (ds_if (dt_cmp (op_dlt hr) (de_v 3) de_int) (dss_one (ds_ret de_str)) dss_nil)
  (dss_cons (ds_if (PW.pt (dw_and (dt_cmp (op_dlt hr) (de_v 4) de_int) (dw_and1 (dt_cmp (op_deq hr) (de_bin op_dmod (de_un un_dneg (de_v 4)) (de_v 3)) de_int)))) (dss_one (ds_ret de_str)) dss_nil)
  (dss_one (ds_ret de_non))))))))⟩
abbrev s_look : Stmt := top 13
abbrev N_look : List Str := ["row", "at", "thing", "word"]
theorem sc_look : FnScope N_look ["row"] (defScope s_look) := ⟨rfl, rfl, rfl, by decide +kernel, rfl, by decide +kernel, by decide +kernel⟩
noncomputable def b_look : DS :=
  (sSeq (sFor (iEnumL (mCall 1 (d_things_in 70) (aCons (mV 0) aNil))) (gT (gsCons (gN 1) (gsCons (gN 2) gsNil)))
  (sSeq (sSet 3 (mCall 1 (d_wrong_with) (aCons (mV 2) aNil)))
  (sIf (mOp oNotN (mV 3) (mC .non))
  (sRaise "NoRow" ["word", "at"] (aCons (mV 3) (aCons (mV 1) aNil)))
  sNil)))
  (sRet (mC (.bl true))))
noncomputable def d_look : List D → R := runP 4 b_look
theorem ok_look (t : Tx K A) (c : Dc K "look" s_look ["row"]) (h_things_in : Df P w K base 72 "things_in" ["row"] (spD K 1 (d_things_in 70))) (h_wrong_with : Df P w K base 1 "wrong_with" ["thing"] (spD K 1 d_wrong_with)) (e_NoRow : Er P w K base 1 "NoRow" ["word", "at"]) : Df P w K base 73 "look" ["row"] (spD K 1 d_look) := by
  obtain ⟨a, fd, m, kp, bi, F⟩ := c
  have nd := sc_look.nd
  exact ⟨a, fd, m, kp, bi, fn_pure F sc_look fun cdv A outer s0 H E hr =>
  (dss_cons (ds_for (passes_of rfl) (di_enumL t.n_enumerate (de_call h_things_in (hr.mono (by decide)) (takes_of rfl rfl rfl rfl) rfl (da_cons (de_v 0) da_nil))) (dg_tup (dgs_cons (dg_n 1 nd) (dgs_cons (dg_n 2 nd) dgs_nil)) (gsCons_len (gsCons_len (fun _ _ => gsNil_len)))) (dss_cons (ds_set 3 nd (de_call h_wrong_with (hr.mono (by decide)) (takes_of rfl rfl rfl rfl) rfl (da_cons (de_v 2) da_nil)))
  (dss_one (ds_if (dt_cmp op_dnotN (de_v 3) de_non) (dss_one (ds_raise e_NoRow (hr.mono (by decide)) (takes_of rfl rfl rfl rfl) rfl (da_cons (de_v 3) (da_cons (de_v 1) da_nil)))) dss_nil))))
  (dss_one (ds_ret de_bl)))⟩
abbrev s_Lmet : Stmt := top 32
abbrev N_Lmet : List Str := ["_law_row_here", "_law_found", "e", "_law_other"]
theorem sc_Lmet : FnScope N_Lmet ["_law_row_here"] (defScope s_Lmet) := ⟨rfl, rfl, rfl, by decide +kernel, rfl, by decide +kernel, by decide +kernel⟩
noncomputable def b_Lmet : DS :=
  (sSeq (sSet 1 (mC (.str "other")))
  (sSeq (sTry 2 subE_NoRow
  (sSet 1 (mCall 1 (d_look) (aCons (mV 0) aNil)))
  fun a_ C_ d_ => (sSeq (sSet 3 (mFn (oIsE a_ C_ d_ tabE tabT) (aCons (mV 2) (aCons (mTup (aCons (mC (.cls "NoBack")) (aCons (mC (.cls "NoBook")) (aCons (mC (.cls "NoDeed")) (aCons (mC (.cls "NoTower")) (aCons (mC (.cls "NoText")) (aCons (mC (.cls "TooHigh")) aNil))))))) aNil))))
  (sIf (mAnd (mFn (oIsE a_ C_ d_ tabE tabT) (aCons (mV 2) (aCons (mC (.cls "SumError")) aNil))) (mAnd (mFn (oIsE a_ C_ d_ tabE tabT) (aCons (mV 2) (aCons (mC (.ty "ValueError")) aNil))) (mAnd (mNot (mV 3)) (mNot (mFn oIsi (aCons (mXf a_ C_ d_ "NoRow" "at" (mV 2)) (aCons (mC (.ty "bool")) aNil)))))))
  (sSet 1 (mTup (aCons (mXf a_ C_ d_ "NoRow" "word" (mV 2)) (aCons (mXf a_ C_ d_ "NoRow" "at" (mV 2)) aNil))))
  sNil)))
  (sRet (mV 1))))
noncomputable def d_Lmet : List D → R := runP 4 b_Lmet
theorem ok_Lmet (t : Tx K A) (c : Dc K "_law_met" s_Lmet ["_law_row_here"]) (h_look : Df P w K base 73 "look" ["row"] (spD K 1 d_look)) : Df P w K base 74 "_law_met" ["_law_row_here"] (spD K 1 d_Lmet) := by
  obtain ⟨a, fd, m, kp, bi, F⟩ := c
  have nd := sc_Lmet.nd
  exact ⟨a, fd, m, kp, bi, fn_pure F sc_Lmet fun cdv A outer s0 H E hr =>
  (dss_cons (ds_set 1 nd de_str)
  (dss_cons (ds_try (i := 2) t.sub_NoRow ⟨rfl, by decide, .inl t.m_NoRow⟩ (takes_of rfl rfl rfl rfl) (fun W_ pn_ xe_ tk_ hp_ => (dss_one (ds_set 1 nd (de_call h_look (hr.mono (by decide)) tk_ rfl (da_cons (de_v 0) da_nil))))) (fun a_ oe_ C_ d_ pn_ hz_ hf_ => (dss_cons (ds_set 3 nd (de_fn (c_isE t.kin t.kinT hz_ hf_) t.n_isinstance (by decide +kernel) (da_cons (de_v 2) (da_cons (de_tup (da_cons (de_g t.g_NoBack) (da_cons (de_g t.g_NoBook) (da_cons (de_g t.g_NoDeed) (da_cons (de_g t.g_NoTower) (da_cons (de_g t.g_NoText) (da_cons (de_g t.g_TooHigh) da_nil))))))) da_nil))))
  (dss_one (ds_if (PW.pt (dw_and (dt_val (de_fn (c_isE t.kin t.kinT hz_ hf_) t.n_isinstance (by decide +kernel) (da_cons (de_v 2) (da_cons (de_g t.g_SumError) da_nil)))) (dw_and (dt_val (de_fn (c_isE t.kin t.kinT hz_ hf_) t.n_isinstance (by decide +kernel) (da_cons (de_v 2) (da_cons (de_gt t.n_ValueError (by decide +kernel)) da_nil)))) (dw_and (dt_not (dt_val (de_v 3))) (dw_and1 (dt_not (dt_val (de_fn c_isi t.n_isinstance (by decide +kernel) (da_cons (de_xf t.m_NoRow t.xf_NoRow t.no_NoRow_at hz_ hf_ (de_v 2)) (da_cons (de_gt t.n_bool (by decide +kernel)) da_nil)))))))))) (dss_one (ds_set 1 nd (de_tup (da_cons (de_xf t.m_NoRow t.xf_NoRow t.no_NoRow_word hz_ hf_ (de_v 2)) (da_cons (de_xf t.m_NoRow t.xf_NoRow t.no_NoRow_at hz_ hf_ (de_v 2)) da_nil))))) dss_nil)))) nd)
  (dss_one (ds_ret (de_v 1)))))⟩
abbrev s_Lamiss : Stmt := top 29
abbrev N_Lamiss : List Str := ["_law_thing"]
theorem sc_Lamiss : FnScope N_Lamiss ["_law_thing"] (defScope s_Lamiss) := ⟨rfl, rfl, rfl, by decide +kernel, rfl, by decide +kernel, by decide +kernel⟩
noncomputable def b_Lamiss : DS :=
  (sSeq (sIf (mAnd (mOp oEq (mOp oIx (mV 0) (mC (.int 0))) (mC (.str "pace"))) (mOp oEq (mOp oIx (mOp oIx (mV 0) (mC (.int 1))) (mC (.int 0))) (mC (.int 0))))
  (sRet (mC (.str "pace")))
  sNil)
  (sSeq (sIf (mAnd (mOp oEq (mOp oIx (mV 0) (mC (.int 0))) (mC (.str "over"))) (mOp oLt (mOp oIx (mV 0) (mC (.int 2))) (mC (.int 1))))
  (sRet (mC (.str "line")))
  sNil)
  (sSeq (sIf (mAnd (mOp oEq (mOp oIx (mV 0) (mC (.int 0))) (mC (.str "over"))) (mAnd (mOp oLt (mOp oIx (mV 0) (mC (.int 3))) (mC (.int 0))) (mOp oEq (mOp oMod (mOp oSub (mC (.int 0)) (mOp oIx (mV 0) (mC (.int 3)))) (mOp oIx (mV 0) (mC (.int 2)))) (mC (.int 0)))))
  (sRet (mC (.str "nought")))
  sNil)
  (sRet (mC .non)))))
noncomputable def d_Lamiss : List D → R := runP 1 b_Lamiss
theorem ok_Lamiss (t : Tx K A) (c : Dc K "_law_amiss" s_Lamiss ["_law_thing"]) : Df P w K base 1 "_law_amiss" ["_law_thing"] (spD K 1 d_Lamiss) := by
  obtain ⟨a, fd, m, kp, bi, F⟩ := c
  have nd := sc_Lamiss.nd
  exact ⟨a, fd, m, kp, bi, fn_pure F sc_Lamiss fun cdv A outer s0 H E hr =>
  (dss_cons (ds_if (PW.pt (dw_and (dt_cmp (op_deq hr) (de_ix ix_d (de_v 0) de_int) de_str) (dw_and1 (dt_cmp (op_deq hr) (de_ix ix_d (de_ix ix_d (de_v 0) de_int) de_int) de_int)))) (dss_one (ds_ret de_str)) dss_nil)
  (dss_cons (ds_if (PW.pt (dw_and (dt_cmp (op_deq hr) (de_ix ix_d (de_v 0) de_int) de_str) (dw_and1 (dt_cmp (op_dlt hr) (de_ix ix_d (de_v 0) de_int) de_int)))) (dss_one (ds_ret de_str)) dss_nil)
  (dss_cons (ds_if (PW.pt (dw_and (dt_cmp (op_deq hr) (de_ix ix_d (de_v 0) de_int) de_str) (dw_and (dt_cmp (op_dlt hr) (de_ix ix_d (de_v 0) de_int) de_int) (dw_and1 (dt_cmp (op_deq hr) (de_bin op_dmod (de_bin op_dsub de_int (de_ix ix_d (de_v 0) de_int)) (de_ix ix_d (de_v 0) de_int)) de_int))))) (dss_one (ds_ret de_str)) dss_nil)
  (dss_one (ds_ret de_non)))))⟩
abbrev s_Ldue : Stmt := top 31
abbrev N_Ldue : List Str := ["_law_row_here", "_law_at", "_law_thing"]
theorem sc_Ldue : FnScope N_Ldue ["_law_row_here"] (defScope s_Ldue) := ⟨rfl, rfl, rfl, by decide +kernel, rfl, by decide +kernel, by decide +kernel⟩
noncomputable def b_Ldue : DS :=
  (sSeq (sFor (iEnumL (mCall 1 (d_Lthings 70) (aCons (mV 0) aNil))) (gT (gsCons (gN 1) (gsCons (gN 2) gsNil)))
  (sIf (mOp oNotN (mCall 1 (d_Lamiss) (aCons (mV 2) aNil)) (mC .non))
  (sRet (mTup (aCons (mCall 1 (d_Lamiss) (aCons (mV 2) aNil)) (aCons (mV 1) aNil))))
  sNil))
  (sRet (mC (.bl true))))
noncomputable def d_Ldue : List D → R := runP 3 b_Ldue
theorem ok_Ldue (t : Tx K A) (c : Dc K "_law_due" s_Ldue ["_law_row_here"]) (h_Lthings : Df P w K base 72 "_law_things" ["_law_row_here"] (spD K 1 (d_Lthings 70))) (h_Lamiss : Df P w K base 1 "_law_amiss" ["_law_thing"] (spD K 1 d_Lamiss)) : Df P w K base 73 "_law_due" ["_law_row_here"] (spD K 1 d_Ldue) := by
  obtain ⟨a, fd, m, kp, bi, F⟩ := c
  have nd := sc_Ldue.nd
  exact ⟨a, fd, m, kp, bi, fn_pure F sc_Ldue fun cdv A outer s0 H E hr =>
  (dss_cons (ds_for (passes_of rfl) (di_enumL t.n_enumerate (de_call h_Lthings (hr.mono (by decide)) (takes_of rfl rfl rfl rfl) rfl (da_cons (de_v 0) da_nil))) (dg_tup (dgs_cons (dg_n 1 nd) (dgs_cons (dg_n 2 nd) dgs_nil)) (gsCons_len (gsCons_len (fun _ _ => gsNil_len)))) (dss_one (ds_if (dt_cmp op_dnotN (de_call h_Lamiss (hr.mono (by decide)) (takes_of rfl rfl rfl rfl) rfl (da_cons (de_v 2) da_nil)) de_non) (dss_one (ds_ret (de_tup (da_cons (de_call h_Lamiss (hr.mono (by decide)) (takes_of rfl rfl rfl rfl) rfl (da_cons (de_v 2) da_nil)) (da_cons (de_v 1) da_nil))))) dss_nil)))
  (dss_one (ds_ret de_bl)))⟩
abbrev s_law : Stmt := top 33
abbrev N_law : List Str := ["_law_script", "_law_k", "_law_box_here", "_law_row_here", "_law_left", "_law_bad", "_law_turn"]
theorem sc_law : FnScope N_law ["_law_script"] (defScope s_law) := ⟨rfl, rfl, rfl, by decide +kernel, rfl, by decide +kernel, by decide +kernel⟩
noncomputable def b_law : DS :=
  (sSeq (sFor (iRange1 (aCons (mFn oMax (aCons (mC (.int 5)) (aCons (mFn oMin (aCons (mC (.int 16)) (aCons (mFn oLen (aCons (mV 0) aNil)) aNil))) aNil))) aNil)) (gN 1)
  (sSeq (sSet 2 (mCallI 2 (d_Lbox) (aCons (mV 0) (aCons (mV 1) aNil))))
  (sSeq (sPar 3 4 (aCons (mCallI 2 (d_Lsome) (aCons (mV 2) (aCons (mC (.int 4)) aNil))) (aCons (mLstR (aCons (mCallI 2 (d_Ltake) (aCons (mV 2) (aCons (mC (.int 4)) aNil))) aNil)) aNil)))
  (sSeq (sSet 5 (mCallI 3 (d_Lturned 24) (aCons (mV 2) (aCons (mTup (aCons (mC (.str "sum")) (aCons (mV 3) (aCons (mTup (aCons (mC (.str "over")) (aCons (mTup (aCons (mC (.str "pace")) (aCons (mTup (aCons (mC (.int 2)) (aCons (mC (.int 1)) aNil))) aNil))) (aCons (mC (.int 1)) (aCons (mC (.int 0)) aNil))))) aNil)))) (aCons (mV 4) aNil)))))
  (sSeq (sFor (iRange1 (aCons (mOp oMul (mC (.int 40)) (mFn oInt (aCons (mOp oEq (mCallI 2 (d_Ltake) (aCons (mV 2) (aCons (mC (.int 6)) aNil))) (mC (.int 0))) aNil))) aNil)) (gN 6)
  (sSet 5 (mTup (aCons (mC (.str "sum")) (aCons (mTup (aCons (mC (.str "place")) aNil)) (aCons (mV 5) aNil))))))
  (sIf (mOr (mOp oNe (mCall 1 (d_Lmet) (aCons (mV 5) aNil)) (mCall 1 (d_Ldue) (aCons (mV 5) aNil))) (mOr (mOp oNotB (mCall 1 (d_Lmet) (aCons (mV 3) aNil)) (mC (.bl true))) (mOp oNe (mCall 1 (d_Lmet) (aCons (mV 5) aNil)) (mCall 1 (d_Ldue) (aCons (mV 5) aNil)))))
  (sRet (mC (.bl false)))
  sNil))))))
  (sRet (mC (.bl true))))
noncomputable def d_law : List D → R := runP 7 b_law
theorem fn_law (t : Tx K A) {fa : Addr} {fd : FuncData} (F : Fun K.K "law" "law" s_law fa fd) (h_Lbox : Df P w K base 1 "_law_box" ["_law_script", "_law_k"] (spI K 2 d_Lbox)) (h_Lsome : Df P w K base 74 "_law_some" ["_law_box_here", "_law_heavy"] (spI K 2 d_Lsome)) (h_Ltake : Df P w K base 1 "_law_take" ["_law_box_here", "_law_many"] (spI K 2 d_Ltake)) (h_Lturned : Df P w K base 26 "_law_turned" ["_law_box_here", "_law_row_here", "_law_left"] (spI K 3 (d_Lturned 24))) (h_Lmet : Df P w K base 74 "_law_met" ["_law_row_here"] (spD K 1 d_Lmet)) (h_Ldue : Df P w K base 73 "_law_due" ["_law_row_here"] (spD K 1 d_Ldue)) : FnOk P w K.K K.mg base (L2.CX P w) 75 fa fd ["_law_script"] (spD K 1 d_law) := by
  have nd := sc_law.nd
  exact fn_pure F sc_law fun cdv A outer s0 H E hr =>
  (dss_cons (ds_for (passes_of rfl) (di_range1 t.n_range (da_cons (de_fn (c_max rfl) t.n_max (by decide +kernel) (da_cons de_int (da_cons (de_fn (c_min rfl) t.n_min (by decide +kernel) (da_cons de_int (da_cons (de_fn c_len t.n_len (by decide +kernel) (da_cons (de_v 0) da_nil)) da_nil))) da_nil))) da_nil)) (dg_n 1 nd) (dss_cons (ds_set 2 nd (de_callI h_Lbox (hr.mono (by decide)) (takes_of rfl rfl rfl rfl) rfl (da_cons (de_v 0) (da_cons (de_v 1) da_nil))))
  (dss_cons (ds_par 3 4 nd (da_cons (de_callI h_Lsome (hr.mono (by decide)) (takes_of rfl rfl rfl rfl) rfl (da_cons (de_v 2) (da_cons de_int da_nil))) (da_cons (de_lstR (da_cons (de_callI h_Ltake (hr.mono (by decide)) (takes_of rfl rfl rfl rfl) rfl (da_cons (de_v 2) (da_cons de_int da_nil))) da_nil)) da_nil)))
  (dss_cons (ds_set 5 nd (de_callI h_Lturned (hr.mono (by decide)) (takes_of rfl rfl rfl rfl) rfl (da_cons (de_v 2) (da_cons (de_tup (da_cons de_str (da_cons (de_v 3) (da_cons (de_tup (da_cons de_str (da_cons (de_tup (da_cons de_str (da_cons (de_tup (da_cons de_int (da_cons de_int da_nil))) da_nil))) (da_cons de_int (da_cons de_int da_nil))))) da_nil)))) (da_cons (de_v 4) da_nil)))))
  (dss_cons (ds_for (passes_of rfl) (di_range1 t.n_range (da_cons (de_bin op_dmul de_int (de_ty c_int t.n_int (by decide +kernel) (da_cons (de_cmp (op_deq hr) (de_callI h_Ltake (hr.mono (by decide)) (takes_of rfl rfl rfl rfl) rfl (da_cons (de_v 2) (da_cons de_int da_nil))) de_int) da_nil))) da_nil)) (dg_n 6 nd) (dss_one (ds_set 5 nd (de_tup (da_cons de_str (da_cons (de_tup (da_cons de_str da_nil)) (da_cons (de_v 5) da_nil)))))))
  (dss_one (ds_if (PW.pt (dw_or (dt_cmp (op_dne hr) (de_call h_Lmet (hr.mono (by decide)) (takes_of rfl rfl rfl rfl) rfl (da_cons (de_v 5) da_nil)) (de_call h_Ldue (hr.mono (by decide)) (takes_of rfl rfl rfl rfl) rfl (da_cons (de_v 5) da_nil))) (dw_or (dt_cmp op_dnotB (de_call h_Lmet (hr.mono (by decide)) (takes_of rfl rfl rfl rfl) rfl (da_cons (de_v 3) da_nil)) de_bl) (dw_or1 (dt_cmp (op_dne hr) (de_call h_Lmet (hr.mono (by decide)) (takes_of rfl rfl rfl rfl) rfl (da_cons (de_v 5) da_nil)) (de_call h_Ldue (hr.mono (by decide)) (takes_of rfl rfl rfl rfl) rfl (da_cons (de_v 5) da_nil))))))) (dss_one (ds_ret de_bl)) dss_nil)))))))
  (dss_one (ds_ret de_bl)))
end
end Ck15
namespace Ck15
open PySem PySem.Spec PyProof.Rows L2 Dn
theorem mulL {n : Nat} (j : Int) (h : n < 2 ^ 64) : oMul (.int n) (.int j) = some (.int (n * j)) := o_mul (mulOk_s (by omega))
theorem mulR {n : Nat} (i : Int) (h : n < 2 ^ 64) : oMul (.int i) (.int n) = some (.int (i * n)) := o_mul (mulOk_r (by omega))
theorem m_6151 (j : Int) : oMul (.int 6151) (.int j) = some (.int (6151 * j)) := mulL (n := 6151) j (by decide)
theorem m_40692 (j : Int) : oMul (.int 40692) (.int j) = some (.int (40692 * j)) := mulL (n := 40692) j (by decide)
theorem m_104729 (j : Int) : oMul (.int 104729) (.int j) = some (.int (104729 * j)) := mulL (n := 104729) j (by decide)
theorem m_69623 (j : Int) : oMul (.int j) (.int 69623) = some (.int (j * 69623)) := mulR (n := 69623) j (by decide)
theorem m_48271 (j : Int) : oMul (.int j) (.int 48271) = some (.int (j * 48271)) := mulR (n := 48271) j (by decide)
theorem m_2147483647 (j : Int) : oMul (.int j) (.int 2147483647) = some (.int (j * 2147483647)) := mulR (n := 2147483647) j (by decide)
theorem atI_ok {α : Type} {l : List α} {i : Int} (h0 : 0 ≤ i) (h1 : i < l.length) : ∃ a, atI l i = some a := by
  obtain ⟨m, rfl⟩ := Int.eq_ofNat_of_zero_le h0
  have hm : m < l.length := by omega
  exact ⟨l[m], atI_nat (m := m) rfl (List.getElem?_eq_getElem hm)⟩
theorem sto_3 {g : GH} {k j : Nat} {fr : Fr} {d a b c : D} {i : Int} (hk : k < g.n) (h : g.get k = .lst [a, b, c]) (hj : ixN 3 i = some j) : stoR fr (.v d) (.r k) (.v (.int i)) g = .nx fr (g.set k (.lst ([a, b, c].set j d))) := sto_v hk h hj
theorem box_ok (ns : List Int) (k : Int) (g : GH) (hk : 0 ≤ k) : ∃ c s t : Int, 0 ≤ c ∧ d_Lbox [.v (.scr ns), .v (.int k)] g = .ok (.r g.n) (g.new (.lst [.int c, .int s, .int t])) := by
  have pw : oPow (.int 10) (.int 18) = some (.int (10 ^ 18)) := o_pow (by decide)
  have hm : (0 : Int) < 2147483629 := by decide
  have fin : ∀ cell : Int, ∃ c s t : Int, 0 ≤ c ∧ (sSeq (sSet 3 (mOp oAdd (mOp oMod (mOp oAdd (mOp oAdd (mOp oMul (mOp oMod (mV 2) (mC (.int 2147483629))) (mC (.int 48271))) (mOp oMul (mC (.int 40692)) (mV 1))) (mC (.int 7))) (mC (.int 2147483629))) (mC (.int 1))))
      (sRet (mLstR (aCons (mOp oIx (mLst (aCons (mC (.int 0)) (aCons (mV 2) aNil))) (mFn oInt (aCons (mOp oGe (mV 2) (mOp oPow (mC (.int 10)) (mC (.int 18)))) aNil))) (aCons (mV 3) (aCons (mC (.int 0)) aNil)))))) [some (.v (.scr ns)), some (.v (.int k)), some (.v (.int cell)), none] g = .rt (.r g.n) (g.new (.lst [.int c, .int s, .int t])) := by
    intro cell
    by_cases hc : (10 : Int) ^ 18 ≤ cell
    · refine ⟨cell, (cell % 2147483629 * 48271 + 40692 * k + 7) % 2147483629 + 1, 0, Int.le_trans (by decide) hc, ?_⟩
      simp only [r_bind, r_bindX, r_bindA, r_bindAX, a_bind, a_bindX, a_bindA, a_bindAX, r_toS, r_toSX, a_toS, a_toSX, i_toS, i_toSX, s_nx, s_rt, s_bk, s_ct, s_exc, onB_bl, onBS_bl, ofO_some, asD_v, asDs_nil, asDs_cons, take1_v, takes_nil, takes_v, e_c, e_op, e_op1, e_nil, e_cons, e_fn, e_not, e_and, e_or, e_if, e_tup, e_lst, e_lstR, tup0, tup1, tup2, tup3, tup4, tup5, tup6, tup7, lst0, lst1, lst2, lst3, lst4, lst5, lst6, lsR0, lsR1, lsR2, lsR3, e_call, call1, call2, call3, call4, call5, e_callI, ofR_ok, ofR_exc, q_seq, q_nil, q_set, q_expr, q_ret, q_retN, q_if, q_par, par2, q_asg, g_n, g_tup, g_lst, g_nil, g_cons, q_store, o_add, o_sub, o_neg, o_lt, o_le, o_gt, o_ge, o_ixT, o_ixL, o_ixS, o_lenT, o_lenL, o_lenS, o_abs, o_max, o_min, o_intI, o_intB, atI_0, atI_1, atI_2, atI_3, atI_4, atI_5, atI_6, set_n, set_get, set_set, new_n, new_get, mV, List.map_cons, List.map_nil, List.length_cons, List.length_nil, List.replicate, List.cons_append, List.nil_append, List.append_nil, Option.bind_some, Option.map_some, List.getElem?_cons_zero, List.getElem?_cons_succ, List.set_cons_zero, List.set_cons_succ, if_true, if_false, Nat.reduceSub, Nat.reduceAdd, decide_true, decide_false, Bool.not_true, Bool.not_false, reduceIte, Bool.false_eq_true, eq_self, ne_eq, not_true, not_false_iff, Bool.and_true, Bool.true_and, Int.reduceEq, Int.reduceLT, Int.reduceLE, Int.reduceNe, Int.reduceAdd, Int.reduceSub, Int.reduceMul, Int.reduceNeg, String.reduceEq, Nat.reduceLT, Nat.reduceLeDiff, Nat.reduceEqDiff, ofS_inj, ofS_ok, op_v, op_1, op_1x, op_2, op_2x, o1_v, o1_1, cons_1, cons_1x, cons_2, cons_2x, fn_v, fn_1, fn_1x, not_1, and_t, and_f, or_t, or_f, ite_t, ite_f, tupQ_1, lstQ_1, lstRQ_1, call_1, call_1x, callI_1, callI_1x, set_1, set_1x, expr_1, expr_1x, ret_1, ret_1x, ifs_t, ifs_f, ifs_x, par_1, par_1x, asg_1, asg_1x, sto_a, sto_b, sto_c, ds_v, tk_v, for_1, for_1x, m_48271, m_40692, o_modP hm, pw, hc]
    · refine ⟨0, (cell % 2147483629 * 48271 + 40692 * k + 7) % 2147483629 + 1, 0, Int.le_refl _, ?_⟩
      simp only [r_bind, r_bindX, r_bindA, r_bindAX, a_bind, a_bindX, a_bindA, a_bindAX, r_toS, r_toSX, a_toS, a_toSX, i_toS, i_toSX, s_nx, s_rt, s_bk, s_ct, s_exc, onB_bl, onBS_bl, ofO_some, asD_v, asDs_nil, asDs_cons, take1_v, takes_nil, takes_v, e_c, e_op, e_op1, e_nil, e_cons, e_fn, e_not, e_and, e_or, e_if, e_tup, e_lst, e_lstR, tup0, tup1, tup2, tup3, tup4, tup5, tup6, tup7, lst0, lst1, lst2, lst3, lst4, lst5, lst6, lsR0, lsR1, lsR2, lsR3, e_call, call1, call2, call3, call4, call5, e_callI, ofR_ok, ofR_exc, q_seq, q_nil, q_set, q_expr, q_ret, q_retN, q_if, q_par, par2, q_asg, g_n, g_tup, g_lst, g_nil, g_cons, q_store, o_add, o_sub, o_neg, o_lt, o_le, o_gt, o_ge, o_ixT, o_ixL, o_ixS, o_lenT, o_lenL, o_lenS, o_abs, o_max, o_min, o_intI, o_intB, atI_0, atI_1, atI_2, atI_3, atI_4, atI_5, atI_6, set_n, set_get, set_set, new_n, new_get, mV, List.map_cons, List.map_nil, List.length_cons, List.length_nil, List.replicate, List.cons_append, List.nil_append, List.append_nil, Option.bind_some, Option.map_some, List.getElem?_cons_zero, List.getElem?_cons_succ, List.set_cons_zero, List.set_cons_succ, if_true, if_false, Nat.reduceSub, Nat.reduceAdd, decide_true, decide_false, Bool.not_true, Bool.not_false, reduceIte, Bool.false_eq_true, eq_self, ne_eq, not_true, not_false_iff, Bool.and_true, Bool.true_and, Int.reduceEq, Int.reduceLT, Int.reduceLE, Int.reduceNe, Int.reduceAdd, Int.reduceSub, Int.reduceMul, Int.reduceNeg, String.reduceEq, Nat.reduceLT, Nat.reduceLeDiff, Nat.reduceEqDiff, ofS_inj, ofS_ok, op_v, op_1, op_1x, op_2, op_2x, o1_v, o1_1, cons_1, cons_1x, cons_2, cons_2x, fn_v, fn_1, fn_1x, not_1, and_t, and_f, or_t, or_f, ite_t, ite_f, tupQ_1, lstQ_1, lstRQ_1, call_1, call_1x, callI_1, callI_1x, set_1, set_1x, expr_1, expr_1x, ret_1, ret_1x, ifs_t, ifs_f, ifs_x, par_1, par_1x, asg_1, asg_1x, sto_a, sto_b, sto_c, ds_v, tk_v, for_1, for_1x, m_48271, m_40692, o_modP hm, pw, hc]
  unfold d_Lbox b_Lbox
  by_cases h1 : k < ns.length
  · obtain ⟨a, ha⟩ := atI_ok hk h1
    obtain ⟨c, s, t, hc, e⟩ := fin (if 0 - a > a then 0 - a else a)
    refine ⟨c, s, t, hc, runI_rt ?_⟩
    rw [← e]
    simp only [r_bind, r_bindX, r_bindA, r_bindAX, a_bind, a_bindX, a_bindA, a_bindAX, r_toS, r_toSX, a_toS, a_toSX, i_toS, i_toSX, s_nx, s_rt, s_bk, s_ct, s_exc, onB_bl, onBS_bl, ofO_some, asD_v, asDs_nil, asDs_cons, take1_v, takes_nil, takes_v, e_c, e_op, e_op1, e_nil, e_cons, e_fn, e_not, e_and, e_or, e_if, e_tup, e_lst, e_lstR, tup0, tup1, tup2, tup3, tup4, tup5, tup6, tup7, lst0, lst1, lst2, lst3, lst4, lst5, lst6, lsR0, lsR1, lsR2, lsR3, e_call, call1, call2, call3, call4, call5, e_callI, ofR_ok, ofR_exc, q_seq, q_nil, q_set, q_expr, q_ret, q_retN, q_if, q_par, par2, q_asg, g_n, g_tup, g_lst, g_nil, g_cons, q_store, o_add, o_sub, o_neg, o_lt, o_le, o_gt, o_ge, o_ixT, o_ixL, o_ixS, o_lenT, o_lenL, o_lenS, o_abs, o_max, o_min, o_intI, o_intB, atI_0, atI_1, atI_2, atI_3, atI_4, atI_5, atI_6, set_n, set_get, set_set, new_n, new_get, mV, List.map_cons, List.map_nil, List.length_cons, List.length_nil, List.replicate, List.cons_append, List.nil_append, List.append_nil, Option.bind_some, Option.map_some, List.getElem?_cons_zero, List.getElem?_cons_succ, List.set_cons_zero, List.set_cons_succ, if_true, if_false, Nat.reduceSub, Nat.reduceAdd, decide_true, decide_false, Bool.not_true, Bool.not_false, reduceIte, Bool.false_eq_true, eq_self, ne_eq, not_true, not_false_iff, Bool.and_true, Bool.true_and, Int.reduceEq, Int.reduceLT, Int.reduceLE, Int.reduceNe, Int.reduceAdd, Int.reduceSub, Int.reduceMul, Int.reduceNeg, String.reduceEq, Nat.reduceLT, Nat.reduceLeDiff, Nat.reduceEqDiff, ofS_inj, ofS_ok, op_v, op_1, op_1x, op_2, op_2x, o1_v, o1_1, cons_1, cons_1x, cons_2, cons_2x, fn_v, fn_1, fn_1x, not_1, and_t, and_f, or_t, or_f, ite_t, ite_f, tupQ_1, lstQ_1, lstRQ_1, call_1, call_1x, callI_1, callI_1x, set_1, set_1x, expr_1, expr_1x, ret_1, ret_1x, ifs_t, ifs_f, ifs_x, par_1, par_1x, asg_1, asg_1x, sto_a, sto_b, sto_c, ds_v, tk_v, for_1, for_1x, m_6151, h1, ha]
  · by_cases h2 : (0 : Int) < ns.length
    · obtain ⟨a, ha⟩ := atI_ok (l := ns) (i := k % ns.length) (Int.emod_nonneg _ (by omega)) (Int.emod_lt_of_pos _ h2)
      obtain ⟨c, s, t, hc, e⟩ := fin (6151 * k + 29 + a % 2147483629 * 69623)
      refine ⟨c, s, t, hc, runI_rt ?_⟩
      rw [← e]
      simp only [r_bind, r_bindX, r_bindA, r_bindAX, a_bind, a_bindX, a_bindA, a_bindAX, r_toS, r_toSX, a_toS, a_toSX, i_toS, i_toSX, s_nx, s_rt, s_bk, s_ct, s_exc, onB_bl, onBS_bl, ofO_some, asD_v, asDs_nil, asDs_cons, take1_v, takes_nil, takes_v, e_c, e_op, e_op1, e_nil, e_cons, e_fn, e_not, e_and, e_or, e_if, e_tup, e_lst, e_lstR, tup0, tup1, tup2, tup3, tup4, tup5, tup6, tup7, lst0, lst1, lst2, lst3, lst4, lst5, lst6, lsR0, lsR1, lsR2, lsR3, e_call, call1, call2, call3, call4, call5, e_callI, ofR_ok, ofR_exc, q_seq, q_nil, q_set, q_expr, q_ret, q_retN, q_if, q_par, par2, q_asg, g_n, g_tup, g_lst, g_nil, g_cons, q_store, o_add, o_sub, o_neg, o_lt, o_le, o_gt, o_ge, o_ixT, o_ixL, o_ixS, o_lenT, o_lenL, o_lenS, o_abs, o_max, o_min, o_intI, o_intB, atI_0, atI_1, atI_2, atI_3, atI_4, atI_5, atI_6, set_n, set_get, set_set, new_n, new_get, mV, List.map_cons, List.map_nil, List.length_cons, List.length_nil, List.replicate, List.cons_append, List.nil_append, List.append_nil, Option.bind_some, Option.map_some, List.getElem?_cons_zero, List.getElem?_cons_succ, List.set_cons_zero, List.set_cons_succ, if_true, if_false, Nat.reduceSub, Nat.reduceAdd, decide_true, decide_false, Bool.not_true, Bool.not_false, reduceIte, Bool.false_eq_true, eq_self, ne_eq, not_true, not_false_iff, Bool.and_true, Bool.true_and, Int.reduceEq, Int.reduceLT, Int.reduceLE, Int.reduceNe, Int.reduceAdd, Int.reduceSub, Int.reduceMul, Int.reduceNeg, String.reduceEq, Nat.reduceLT, Nat.reduceLeDiff, Nat.reduceEqDiff, ofS_inj, ofS_ok, op_v, op_1, op_1x, op_2, op_2x, o1_v, o1_1, cons_1, cons_1x, cons_2, cons_2x, fn_v, fn_1, fn_1x, not_1, and_t, and_f, or_t, or_f, ite_t, ite_f, tupQ_1, lstQ_1, lstRQ_1, call_1, call_1x, callI_1, callI_1x, set_1, set_1x, expr_1, expr_1x, ret_1, ret_1x, ifs_t, ifs_f, ifs_x, par_1, par_1x, asg_1, asg_1x, sto_a, sto_b, sto_c, ds_v, tk_v, for_1, for_1x, m_6151, h1, h2, o_modP h2, o_modP hm, ha, m_69623]
    · obtain ⟨c, s, t, hc, e⟩ := fin (6151 * k + 29)
      refine ⟨c, s, t, hc, runI_rt ?_⟩
      rw [← e]
      simp only [r_bind, r_bindX, r_bindA, r_bindAX, a_bind, a_bindX, a_bindA, a_bindAX, r_toS, r_toSX, a_toS, a_toSX, i_toS, i_toSX, s_nx, s_rt, s_bk, s_ct, s_exc, onB_bl, onBS_bl, ofO_some, asD_v, asDs_nil, asDs_cons, take1_v, takes_nil, takes_v, e_c, e_op, e_op1, e_nil, e_cons, e_fn, e_not, e_and, e_or, e_if, e_tup, e_lst, e_lstR, tup0, tup1, tup2, tup3, tup4, tup5, tup6, tup7, lst0, lst1, lst2, lst3, lst4, lst5, lst6, lsR0, lsR1, lsR2, lsR3, e_call, call1, call2, call3, call4, call5, e_callI, ofR_ok, ofR_exc, q_seq, q_nil, q_set, q_expr, q_ret, q_retN, q_if, q_par, par2, q_asg, g_n, g_tup, g_lst, g_nil, g_cons, q_store, o_add, o_sub, o_neg, o_lt, o_le, o_gt, o_ge, o_ixT, o_ixL, o_ixS, o_lenT, o_lenL, o_lenS, o_abs, o_max, o_min, o_intI, o_intB, atI_0, atI_1, atI_2, atI_3, atI_4, atI_5, atI_6, set_n, set_get, set_set, new_n, new_get, mV, List.map_cons, List.map_nil, List.length_cons, List.length_nil, List.replicate, List.cons_append, List.nil_append, List.append_nil, Option.bind_some, Option.map_some, List.getElem?_cons_zero, List.getElem?_cons_succ, List.set_cons_zero, List.set_cons_succ, if_true, if_false, Nat.reduceSub, Nat.reduceAdd, decide_true, decide_false, Bool.not_true, Bool.not_false, reduceIte, Bool.false_eq_true, eq_self, ne_eq, not_true, not_false_iff, Bool.and_true, Bool.true_and, Int.reduceEq, Int.reduceLT, Int.reduceLE, Int.reduceNe, Int.reduceAdd, Int.reduceSub, Int.reduceMul, Int.reduceNeg, String.reduceEq, Nat.reduceLT, Nat.reduceLeDiff, Nat.reduceEqDiff, ofS_inj, ofS_ok, op_v, op_1, op_1x, op_2, op_2x, o1_v, o1_1, cons_1, cons_1x, cons_2, cons_2x, fn_v, fn_1, fn_1x, not_1, and_t, and_f, or_t, or_f, ite_t, ite_f, tupQ_1, lstQ_1, lstRQ_1, call_1, call_1x, callI_1, callI_1x, set_1, set_1x, expr_1, expr_1x, ret_1, ret_1x, ifs_t, ifs_f, ifs_x, par_1, par_1x, asg_1, asg_1x, sto_a, sto_b, sto_c, ds_v, tk_v, for_1, for_1x, m_6151, h1, h2]
theorem take_ok {g : GH} {k : Nat} (h : BoxAt g k) (m : Int) (hm : 0 < m) (hm2 : m < 1073741824) : ∃ (x : Int) (g1 : GH), 0 ≤ x ∧ x < m ∧ d_Ltake [.r k, .v (.int m)] g = .ok (.v (.int x)) g1 ∧ Bx k g g1 := by
  obtain ⟨hk, c, s, t, hc, hg⟩ := h
  have p1 : (0 : Int) < 2147483629 := by decide
  have p2 : (0 : Int) < 2147483647 := by decide
  by_cases h0 : 0 < c
  · refine ⟨c % m, g.set k (.lst [.int (c / m), .int s, .int t]), Int.emod_nonneg _ (by omega), Int.emod_lt_of_pos _ hm, ?_, Bx.set hk (Int.ediv_nonneg hc (by omega))⟩
    unfold d_Ltake b_Ltake
    simp only [runI_eq, r_bind, r_bindX, r_bindA, r_bindAX, a_bind, a_bindX, a_bindA, a_bindAX, r_toS, r_toSX, a_toS, a_toSX, i_toS, i_toSX, s_nx, s_rt, s_bk, s_ct, s_exc, onB_bl, onBS_bl, ofO_some, asD_v, asDs_nil, asDs_cons, take1_v, takes_nil, takes_v, e_c, e_op, e_op1, e_nil, e_cons, e_fn, e_not, e_and, e_or, e_if, e_tup, e_lst, e_lstR, tup0, tup1, tup2, tup3, tup4, tup5, tup6, tup7, lst0, lst1, lst2, lst3, lst4, lst5, lst6, lsR0, lsR1, lsR2, lsR3, e_call, call1, call2, call3, call4, call5, e_callI, ofR_ok, ofR_exc, q_seq, q_nil, q_set, q_expr, q_ret, q_retN, q_if, q_par, par2, q_asg, g_n, g_tup, g_lst, g_nil, g_cons, q_store, o_add, o_sub, o_neg, o_lt, o_le, o_gt, o_ge, o_ixT, o_ixL, o_ixS, o_lenT, o_lenL, o_lenS, o_abs, o_max, o_min, o_intI, o_intB, atI_0, atI_1, atI_2, atI_3, atI_4, atI_5, atI_6, set_n, set_get, set_set, new_n, new_get, mV, List.map_cons, List.map_nil, List.length_cons, List.length_nil, List.replicate, List.cons_append, List.nil_append, List.append_nil, Option.bind_some, Option.map_some, List.getElem?_cons_zero, List.getElem?_cons_succ, List.set_cons_zero, List.set_cons_succ, if_true, if_false, Nat.reduceSub, Nat.reduceAdd, decide_true, decide_false, Bool.not_true, Bool.not_false, reduceIte, Bool.false_eq_true, eq_self, ne_eq, not_true, not_false_iff, Bool.and_true, Bool.true_and, Int.reduceEq, Int.reduceLT, Int.reduceLE, Int.reduceNe, Int.reduceAdd, Int.reduceSub, Int.reduceMul, Int.reduceNeg, String.reduceEq, Nat.reduceLT, Nat.reduceLeDiff, Nat.reduceEqDiff, ofS_inj, ofS_ok, op_v, op_1, op_1x, op_2, op_2x, o1_v, o1_1, cons_1, cons_1x, cons_2, cons_2x, fn_v, fn_1, fn_1x, not_1, and_t, and_f, or_t, or_f, ite_t, ite_f, tupQ_1, lstQ_1, lstRQ_1, call_1, call_1x, callI_1, callI_1x, set_1, set_1x, expr_1, expr_1x, ret_1, ret_1x, ifs_t, ifs_f, ifs_x, par_1, par_1x, asg_1, asg_1x, sto_a, sto_b, sto_c, ds_v, tk_v, for_1, for_1x, asD_r hk hg, h0, o_modP hm, o_fdivP hm hm2, sto_v hk hg ixN_0]
  · have hk1 : ∀ o, k < (g.set k o).n := fun o => hk
    generalize h1 : (s + 104729 * (t + 1)) * 69623 % 2147483647 = one
    generalize h2 : (one * 48271 + 30103) % 2147483629 + 1 = s2
    refine ⟨(one * 2147483647 + s2) / 8191 % m, g.set k (.lst [.int c, .int s2, .int (t + 1)]), Int.emod_nonneg _ (by omega), Int.emod_lt_of_pos _ hm, ?_, Bx.set hk hc⟩
    subst h2 h1
    unfold d_Ltake b_Ltake
    simp only [runI_eq, r_bind, r_bindX, r_bindA, r_bindAX, a_bind, a_bindX, a_bindA, a_bindAX, r_toS, r_toSX, a_toS, a_toSX, i_toS, i_toSX, s_nx, s_rt, s_bk, s_ct, s_exc, onB_bl, onBS_bl, ofO_some, asD_v, asDs_nil, asDs_cons, take1_v, takes_nil, takes_v, e_c, e_op, e_op1, e_nil, e_cons, e_fn, e_not, e_and, e_or, e_if, e_tup, e_lst, e_lstR, tup0, tup1, tup2, tup3, tup4, tup5, tup6, tup7, lst0, lst1, lst2, lst3, lst4, lst5, lst6, lsR0, lsR1, lsR2, lsR3, e_call, call1, call2, call3, call4, call5, e_callI, ofR_ok, ofR_exc, q_seq, q_nil, q_set, q_expr, q_ret, q_retN, q_if, q_par, par2, q_asg, g_n, g_tup, g_lst, g_nil, g_cons, q_store, o_add, o_sub, o_neg, o_lt, o_le, o_gt, o_ge, o_ixT, o_ixL, o_ixS, o_lenT, o_lenL, o_lenS, o_abs, o_max, o_min, o_intI, o_intB, atI_0, atI_1, atI_2, atI_3, atI_4, atI_5, atI_6, set_n, set_get, set_set, new_n, new_get, mV, List.map_cons, List.map_nil, List.length_cons, List.length_nil, List.replicate, List.cons_append, List.nil_append, List.append_nil, Option.bind_some, Option.map_some, List.getElem?_cons_zero, List.getElem?_cons_succ, List.set_cons_zero, List.set_cons_succ, if_true, if_false, Nat.reduceSub, Nat.reduceAdd, decide_true, decide_false, Bool.not_true, Bool.not_false, reduceIte, Bool.false_eq_true, eq_self, ne_eq, not_true, not_false_iff, Bool.and_true, Bool.true_and, Int.reduceEq, Int.reduceLT, Int.reduceLE, Int.reduceNe, Int.reduceAdd, Int.reduceSub, Int.reduceMul, Int.reduceNeg, String.reduceEq, Nat.reduceLT, Nat.reduceLeDiff, Nat.reduceEqDiff, ofS_inj, ofS_ok, op_v, op_1, op_1x, op_2, op_2x, o1_v, o1_1, cons_1, cons_1x, cons_2, cons_2x, fn_v, fn_1, fn_1x, not_1, and_t, and_f, or_t, or_f, ite_t, ite_f, tupQ_1, lstQ_1, lstRQ_1, call_1, call_1x, callI_1, callI_1x, set_1, set_1x, expr_1, expr_1x, ret_1, ret_1x, ifs_t, ifs_f, ifs_x, par_1, par_1x, asg_1, asg_1x, sto_a, sto_b, sto_c, ds_v, tk_v, for_1, for_1x, asD_r hk hg, h0, o_modP hm, o_modP p1, o_modP p2, m_104729, m_69623, m_48271, m_2147483647, sto_v hk hg (i := 2) (j := 2) rfl]
    simp only [r_bind, r_bindX, r_bindA, r_bindAX, a_bind, a_bindX, a_bindA, a_bindAX, r_toS, r_toSX, a_toS, a_toSX, i_toS, i_toSX, s_nx, s_rt, s_bk, s_ct, s_exc, onB_bl, onBS_bl, ofO_some, asD_v, asDs_nil, asDs_cons, take1_v, takes_nil, takes_v, e_c, e_op, e_op1, e_nil, e_cons, e_fn, e_not, e_and, e_or, e_if, e_tup, e_lst, e_lstR, tup0, tup1, tup2, tup3, tup4, tup5, tup6, tup7, lst0, lst1, lst2, lst3, lst4, lst5, lst6, lsR0, lsR1, lsR2, lsR3, e_call, call1, call2, call3, call4, call5, e_callI, ofR_ok, ofR_exc, q_seq, q_nil, q_set, q_expr, q_ret, q_retN, q_if, q_par, par2, q_asg, g_n, g_tup, g_lst, g_nil, g_cons, q_store, o_add, o_sub, o_neg, o_lt, o_le, o_gt, o_ge, o_ixT, o_ixL, o_ixS, o_lenT, o_lenL, o_lenS, o_abs, o_max, o_min, o_intI, o_intB, atI_0, atI_1, atI_2, atI_3, atI_4, atI_5, atI_6, set_n, set_get, set_set, new_n, new_get, mV, List.map_cons, List.map_nil, List.length_cons, List.length_nil, List.replicate, List.cons_append, List.nil_append, List.append_nil, Option.bind_some, Option.map_some, List.getElem?_cons_zero, List.getElem?_cons_succ, List.set_cons_zero, List.set_cons_succ, if_true, if_false, Nat.reduceSub, Nat.reduceAdd, decide_true, decide_false, Bool.not_true, Bool.not_false, reduceIte, Bool.false_eq_true, eq_self, ne_eq, not_true, not_false_iff, Bool.and_true, Bool.true_and, Int.reduceEq, Int.reduceLT, Int.reduceLE, Int.reduceNe, Int.reduceAdd, Int.reduceSub, Int.reduceMul, Int.reduceNeg, String.reduceEq, Nat.reduceLT, Nat.reduceLeDiff, Nat.reduceEqDiff, ofS_inj, ofS_ok, op_v, op_1, op_1x, op_2, op_2x, o1_v, o1_1, cons_1, cons_1x, cons_2, cons_2x, fn_v, fn_1, fn_1x, not_1, and_t, and_f, or_t, or_f, ite_t, ite_f, tupQ_1, lstQ_1, lstRQ_1, call_1, call_1x, callI_1, callI_1x, set_1, set_1x, expr_1, expr_1x, ret_1, ret_1x, ifs_t, ifs_f, ifs_x, par_1, par_1x, asg_1, asg_1x, sto_a, sto_b, sto_c, ds_v, tk_v, for_1, for_1x, asD_r (hk1 _) set_get, sto_3 (hk1 _) set_get (i := 1) (j := 1) rfl, o_modP hm, o_modP p1, o_modP p2, m_104729, m_69623, m_48271, m_2147483647, o_fdivP (i := _) (j := 8191) (by decide) (by decide)]
/-- the sign -/
def sg (l : Int) : Int := if l < 0 then -1 else 1
theorem low_ok (u l : Int) (hl : l ≠ 0) (hs : l.natAbs < 1073741824) : d_Llow [.int u, .int l] = .ok (.tup [.int (sg l * u / (Nat.gcd u.natAbs l.natAbs : Nat)), .int (sg l * l / (Nat.gcd u.natAbs l.natAbs : Nat))]) := by
  have hg0 : 0 < Nat.gcd u.natAbs l.natAbs := Nat.gcd_pos_of_pos_right _ (by omega)
  have hg1 : Nat.gcd u.natAbs l.natAbs ≤ l.natAbs := Nat.gcd_le_right _ (by omega)
  generalize hG : Nat.gcd u.natAbs l.natAbs = G at *
  have p1 : (0 : Int) < G := by omega
  have p2 : (G : Int) < 1073741824 := by omega
  have au : (if u < 0 then -u else u) = (u.natAbs : Int) := by split <;> omega
  have al : (if l < 0 then -l else l) = (l.natAbs : Int) := by split <;> omega
  have ms : ∀ b : Bool, oMul (.int 2) (.int (if b then 1 else 0)) = some (.int (2 * (if b then 1 else 0))) := fun b => mulL (n := 2) _ (by decide)
  have es : (1 : Int) - 2 * (if decide (l < 0) = true then 1 else 0) = sg l := by unfold sg; split <;> simp_all
  have m1 : ∀ x, oMul (.int (sg l)) (.int x) = some (.int (sg l * x)) := fun x => o_mul (mulOk_s (by unfold sg; split <;> decide))
  have wh := gcd_go (g := GH.nil) (c := mOp oGt (mV 3) (mC (.int 0))) (i := 2) (j := 3) (a := aCons (mV 3) (aCons (mOp oMod (mV 2) (mV 3)) aNil)) (by decide)
    (fun fr y h => by simp only [r_bind, r_bindX, r_bindA, r_bindAX, a_bind, a_bindX, a_bindA, a_bindAX, r_toS, r_toSX, a_toS, a_toSX, i_toS, i_toSX, s_nx, s_rt, s_bk, s_ct, s_exc, onB_bl, onBS_bl, ofO_some, asD_v, asDs_nil, asDs_cons, take1_v, takes_nil, takes_v, e_c, e_op, e_op1, e_nil, e_cons, e_fn, e_not, e_and, e_or, e_if, e_tup, e_lst, e_lstR, tup0, tup1, tup2, tup3, tup4, tup5, tup6, tup7, lst0, lst1, lst2, lst3, lst4, lst5, lst6, lsR0, lsR1, lsR2, lsR3, e_call, call1, call2, call3, call4, call5, e_callI, ofR_ok, ofR_exc, q_seq, q_nil, q_set, q_expr, q_ret, q_retN, q_if, q_par, par2, q_asg, g_n, g_tup, g_lst, g_nil, g_cons, q_store, o_add, o_sub, o_neg, o_lt, o_le, o_gt, o_ge, o_ixT, o_ixL, o_ixS, o_lenT, o_lenL, o_lenS, o_abs, o_max, o_min, o_intI, o_intB, atI_0, atI_1, atI_2, atI_3, atI_4, atI_5, atI_6, set_n, set_get, set_set, new_n, new_get, mV, List.map_cons, List.map_nil, List.length_cons, List.length_nil, List.replicate, List.cons_append, List.nil_append, List.append_nil, Option.bind_some, Option.map_some, List.getElem?_cons_zero, List.getElem?_cons_succ, List.set_cons_zero, List.set_cons_succ, if_true, if_false, Nat.reduceSub, Nat.reduceAdd, decide_true, decide_false, Bool.not_true, Bool.not_false, reduceIte, Bool.false_eq_true, eq_self, ne_eq, not_true, not_false_iff, Bool.and_true, Bool.true_and, Int.reduceEq, Int.reduceLT, Int.reduceLE, Int.reduceNe, Int.reduceAdd, Int.reduceSub, Int.reduceMul, Int.reduceNeg, String.reduceEq, Nat.reduceLT, Nat.reduceLeDiff, Nat.reduceEqDiff, ofS_inj, ofS_ok, op_v, op_1, op_1x, op_2, op_2x, o1_v, o1_1, cons_1, cons_1x, cons_2, cons_2x, fn_v, fn_1, fn_1x, not_1, and_t, and_f, or_t, or_f, ite_t, ite_f, tupQ_1, lstQ_1, lstRQ_1, call_1, call_1x, callI_1, callI_1x, set_1, set_1x, expr_1, expr_1x, ret_1, ret_1x, ifs_t, ifs_f, ifs_x, par_1, par_1x, asg_1, asg_1x, sto_a, sto_b, sto_c, ds_v, tk_v, for_1, for_1x, h]) (fun fr x y hy h1 h2 => by simp only [r_bind, r_bindX, r_bindA, r_bindAX, a_bind, a_bindX, a_bindA, a_bindAX, r_toS, r_toSX, a_toS, a_toSX, i_toS, i_toSX, s_nx, s_rt, s_bk, s_ct, s_exc, onB_bl, onBS_bl, ofO_some, asD_v, asDs_nil, asDs_cons, take1_v, takes_nil, takes_v, e_c, e_op, e_op1, e_nil, e_cons, e_fn, e_not, e_and, e_or, e_if, e_tup, e_lst, e_lstR, tup0, tup1, tup2, tup3, tup4, tup5, tup6, tup7, lst0, lst1, lst2, lst3, lst4, lst5, lst6, lsR0, lsR1, lsR2, lsR3, e_call, call1, call2, call3, call4, call5, e_callI, ofR_ok, ofR_exc, q_seq, q_nil, q_set, q_expr, q_ret, q_retN, q_if, q_par, par2, q_asg, g_n, g_tup, g_lst, g_nil, g_cons, q_store, o_add, o_sub, o_neg, o_lt, o_le, o_gt, o_ge, o_ixT, o_ixL, o_ixS, o_lenT, o_lenL, o_lenS, o_abs, o_max, o_min, o_intI, o_intB, atI_0, atI_1, atI_2, atI_3, atI_4, atI_5, atI_6, set_n, set_get, set_set, new_n, new_get, mV, List.map_cons, List.map_nil, List.length_cons, List.length_nil, List.replicate, List.cons_append, List.nil_append, List.append_nil, Option.bind_some, Option.map_some, List.getElem?_cons_zero, List.getElem?_cons_succ, List.set_cons_zero, List.set_cons_succ, if_true, if_false, Nat.reduceSub, Nat.reduceAdd, decide_true, decide_false, Bool.not_true, Bool.not_false, reduceIte, Bool.false_eq_true, eq_self, ne_eq, not_true, not_false_iff, Bool.and_true, Bool.true_and, Int.reduceEq, Int.reduceLT, Int.reduceLE, Int.reduceNe, Int.reduceAdd, Int.reduceSub, Int.reduceMul, Int.reduceNeg, String.reduceEq, Nat.reduceLT, Nat.reduceLeDiff, Nat.reduceEqDiff, ofS_inj, ofS_ok, op_v, op_1, op_1x, op_2, op_2x, o1_v, o1_1, cons_1, cons_1x, cons_2, cons_2x, fn_v, fn_1, fn_1x, not_1, and_t, and_f, or_t, or_f, ite_t, ite_f, tupQ_1, lstQ_1, lstRQ_1, call_1, call_1x, callI_1, callI_1x, set_1, set_1x, expr_1, expr_1x, ret_1, ret_1x, ifs_t, ifs_f, ifs_x, par_1, par_1x, asg_1, asg_1x, sto_a, sto_b, sto_c, ds_v, tk_v, for_1, for_1x, h1, h2, o_modP hy]) l.natAbs u.natAbs [some (.v (.int u)), some (.v (.int l)), some (.v (.int u.natAbs)), some (.v (.int l.natAbs)), none] rfl rfl
  rw [hG] at wh
  refine runP_rt (g1 := GH.nil) ?_
  unfold b_Llow
  simp only [r_bind, r_bindX, r_bindA, r_bindAX, a_bind, a_bindX, a_bindA, a_bindAX, r_toS, r_toSX, a_toS, a_toSX, i_toS, i_toSX, s_nx, s_rt, s_bk, s_ct, s_exc, onB_bl, onBS_bl, ofO_some, asD_v, asDs_nil, asDs_cons, take1_v, takes_nil, takes_v, e_c, e_op, e_op1, e_nil, e_cons, e_fn, e_not, e_and, e_or, e_if, e_tup, e_lst, e_lstR, tup0, tup1, tup2, tup3, tup4, tup5, tup6, tup7, lst0, lst1, lst2, lst3, lst4, lst5, lst6, lsR0, lsR1, lsR2, lsR3, e_call, call1, call2, call3, call4, call5, e_callI, ofR_ok, ofR_exc, q_seq, q_nil, q_set, q_expr, q_ret, q_retN, q_if, q_par, par2, q_asg, g_n, g_tup, g_lst, g_nil, g_cons, q_store, o_add, o_sub, o_neg, o_lt, o_le, o_gt, o_ge, o_ixT, o_ixL, o_ixS, o_lenT, o_lenL, o_lenS, o_abs, o_max, o_min, o_intI, o_intB, atI_0, atI_1, atI_2, atI_3, atI_4, atI_5, atI_6, set_n, set_get, set_set, new_n, new_get, mV, List.map_cons, List.map_nil, List.length_cons, List.length_nil, List.replicate, List.cons_append, List.nil_append, List.append_nil, Option.bind_some, Option.map_some, List.getElem?_cons_zero, List.getElem?_cons_succ, List.set_cons_zero, List.set_cons_succ, if_true, if_false, Nat.reduceSub, Nat.reduceAdd, decide_true, decide_false, Bool.not_true, Bool.not_false, reduceIte, Bool.false_eq_true, eq_self, ne_eq, not_true, not_false_iff, Bool.and_true, Bool.true_and, Int.reduceEq, Int.reduceLT, Int.reduceLE, Int.reduceNe, Int.reduceAdd, Int.reduceSub, Int.reduceMul, Int.reduceNeg, String.reduceEq, Nat.reduceLT, Nat.reduceLeDiff, Nat.reduceEqDiff, ofS_inj, ofS_ok, op_v, op_1, op_1x, op_2, op_2x, o1_v, o1_1, cons_1, cons_1x, cons_2, cons_2x, fn_v, fn_1, fn_1x, not_1, and_t, and_f, or_t, or_f, ite_t, ite_f, tupQ_1, lstQ_1, lstRQ_1, call_1, call_1x, callI_1, callI_1x, set_1, set_1x, expr_1, expr_1x, ret_1, ret_1x, ifs_t, ifs_f, ifs_x, par_1, par_1x, asg_1, asg_1x, sto_a, sto_b, sto_c, ds_v, tk_v, for_1, for_1x, au, al, while_nx wh (fun z => nomatch z), ms, es, m1, o_fdivP p1 p2]
theorem sg_ne {l : Int} : sg l = 1 ∨ sg l = -1 := by unfold sg; split <;> simp
theorem low_nz {u l : Int} (hu : u ≠ 0) (hl : l ≠ 0) : sg l * u / (Nat.gcd u.natAbs l.natAbs : Nat) ≠ 0 := by
  have hd : ((Nat.gcd u.natAbs l.natAbs : Nat) : Int) ∣ u := by
    rw [Int.ofNat_dvd_left]
    exact Nat.gcd_dvd_left _ _
  obtain ⟨c, hc⟩ := hd
  have hg0 : 0 < Nat.gcd u.natAbs l.natAbs := Nat.gcd_pos_of_pos_right _ (by omega)
  generalize Nat.gcd u.natAbs l.natAbs = G at *
  intro z
  have p : (G : Int) ≠ 0 := by omega
  rcases sg_ne (l := l) with e | e
  · rw [e, Int.one_mul, hc, Int.mul_ediv_cancel_left _ p] at z
    rw [z] at hc
    simp at hc
    exact hu hc
  · rw [e, hc, show (-1 : Int) * (G * c) = G * (-c) by rw [Int.neg_one_mul, Int.mul_neg], Int.mul_ediv_cancel_left _ p] at z
    have : c = 0 := by omega
    rw [this] at hc
    simp at hc
    exact hu hc
theorem low_some (u l : Int) (hl : l ≠ 0) (hs : l.natAbs < 1073741824) : ∃ a b : Int, d_Llow [.int u, .int l] = .ok (.tup [.int a, .int b]) ∧ (u ≠ 0 → a ≠ 0) := ⟨_, _, low_ok u l hl hs, fun hu => low_nz hu hl⟩
theorem number_ok {g : GH} {k : Nat} (h : BoxAt g k) : ∃ (a b : Int) (g1 : GH), d_Lnumber [.r k] g = .ok (.v (.tup [.int a, .int b])) g1 ∧ Bx k g g1 := by
  obtain ⟨f, g1, f0, f1, e1, b1⟩ := take_ok h 6 (by decide) (by decide)
  obtain ⟨x, g2, x0, x1, e2, b2⟩ := take_ok b1.at_ 7 (by decide) (by decide)
  unfold d_Lnumber b_Lnumber
  rw [runI_eq]
  by_cases h4 : f = 4
  · subst h4
    obtain ⟨y, g3, y0, y1, e3, b3⟩ := take_ok b2.at_ 13 (by decide) (by decide)
    obtain ⟨z, g4, z0, z1, e4, b4⟩ := take_ok b3.at_ 4 (by decide) (by decide)
    obtain ⟨a, b, e5, _⟩ := low_some (y - 6) (1 + z) (by omega) (by omega)
    refine ⟨a, b, g4, ?_, ((b1.trans b2).trans b3).trans b4⟩
    simp only [r_bind, r_bindX, r_bindA, r_bindAX, a_bind, a_bindX, a_bindA, a_bindAX, r_toS, r_toSX, a_toS, a_toSX, i_toS, i_toSX, s_nx, s_rt, s_bk, s_ct, s_exc, onB_bl, onBS_bl, ofO_some, asD_v, asDs_nil, asDs_cons, take1_v, takes_nil, takes_v, e_c, e_op, e_op1, e_nil, e_cons, e_fn, e_not, e_and, e_or, e_if, e_tup, e_lst, e_lstR, tup0, tup1, tup2, tup3, tup4, tup5, tup6, tup7, lst0, lst1, lst2, lst3, lst4, lst5, lst6, lsR0, lsR1, lsR2, lsR3, e_call, call1, call2, call3, call4, call5, e_callI, ofR_ok, ofR_exc, q_seq, q_nil, q_set, q_expr, q_ret, q_retN, q_if, q_par, par2, q_asg, g_n, g_tup, g_lst, g_nil, g_cons, q_store, o_add, o_sub, o_neg, o_lt, o_le, o_gt, o_ge, o_ixT, o_ixL, o_ixS, o_lenT, o_lenL, o_lenS, o_abs, o_max, o_min, o_intI, o_intB, atI_0, atI_1, atI_2, atI_3, atI_4, atI_5, atI_6, set_n, set_get, set_set, new_n, new_get, mV, List.map_cons, List.map_nil, List.length_cons, List.length_nil, List.replicate, List.cons_append, List.nil_append, List.append_nil, Option.bind_some, Option.map_some, List.getElem?_cons_zero, List.getElem?_cons_succ, List.set_cons_zero, List.set_cons_succ, if_true, if_false, Nat.reduceSub, Nat.reduceAdd, decide_true, decide_false, Bool.not_true, Bool.not_false, reduceIte, Bool.false_eq_true, eq_self, ne_eq, not_true, not_false_iff, Bool.and_true, Bool.true_and, Int.reduceEq, Int.reduceLT, Int.reduceLE, Int.reduceNe, Int.reduceAdd, Int.reduceSub, Int.reduceMul, Int.reduceNeg, String.reduceEq, Nat.reduceLT, Nat.reduceLeDiff, Nat.reduceEqDiff, ofS_inj, ofS_ok, op_v, op_1, op_1x, op_2, op_2x, o1_v, o1_1, cons_1, cons_1x, cons_2, cons_2x, fn_v, fn_1, fn_1x, not_1, and_t, and_f, or_t, or_f, ite_t, ite_f, tupQ_1, lstQ_1, lstRQ_1, call_1, call_1x, callI_1, callI_1x, set_1, set_1x, expr_1, expr_1x, ret_1, ret_1x, ifs_t, ifs_f, ifs_x, par_1, par_1x, asg_1, asg_1x, sto_a, sto_b, sto_c, ds_v, tk_v, for_1, for_1x, e1, e2, e3, e4, e5, o_eqI]
  · by_cases h5 : f = 5
    · subst h5
      obtain ⟨y, g3, y0, y1, e3, b3⟩ := take_ok b2.at_ 1999999 (by decide) (by decide)
      obtain ⟨z, g4, z0, z1, e4, b4⟩ := take_ok b3.at_ 999999 (by decide) (by decide)
      obtain ⟨a, b, e5, _⟩ := low_some (y - 999999) (1 + z) (by omega) (by omega)
      refine ⟨a, b, g4, ?_, ((b1.trans b2).trans b3).trans b4⟩
      simp only [r_bind, r_bindX, r_bindA, r_bindAX, a_bind, a_bindX, a_bindA, a_bindAX, r_toS, r_toSX, a_toS, a_toSX, i_toS, i_toSX, s_nx, s_rt, s_bk, s_ct, s_exc, onB_bl, onBS_bl, ofO_some, asD_v, asDs_nil, asDs_cons, take1_v, takes_nil, takes_v, e_c, e_op, e_op1, e_nil, e_cons, e_fn, e_not, e_and, e_or, e_if, e_tup, e_lst, e_lstR, tup0, tup1, tup2, tup3, tup4, tup5, tup6, tup7, lst0, lst1, lst2, lst3, lst4, lst5, lst6, lsR0, lsR1, lsR2, lsR3, e_call, call1, call2, call3, call4, call5, e_callI, ofR_ok, ofR_exc, q_seq, q_nil, q_set, q_expr, q_ret, q_retN, q_if, q_par, par2, q_asg, g_n, g_tup, g_lst, g_nil, g_cons, q_store, o_add, o_sub, o_neg, o_lt, o_le, o_gt, o_ge, o_ixT, o_ixL, o_ixS, o_lenT, o_lenL, o_lenS, o_abs, o_max, o_min, o_intI, o_intB, atI_0, atI_1, atI_2, atI_3, atI_4, atI_5, atI_6, set_n, set_get, set_set, new_n, new_get, mV, List.map_cons, List.map_nil, List.length_cons, List.length_nil, List.replicate, List.cons_append, List.nil_append, List.append_nil, Option.bind_some, Option.map_some, List.getElem?_cons_zero, List.getElem?_cons_succ, List.set_cons_zero, List.set_cons_succ, if_true, if_false, Nat.reduceSub, Nat.reduceAdd, decide_true, decide_false, Bool.not_true, Bool.not_false, reduceIte, Bool.false_eq_true, eq_self, ne_eq, not_true, not_false_iff, Bool.and_true, Bool.true_and, Int.reduceEq, Int.reduceLT, Int.reduceLE, Int.reduceNe, Int.reduceAdd, Int.reduceSub, Int.reduceMul, Int.reduceNeg, String.reduceEq, Nat.reduceLT, Nat.reduceLeDiff, Nat.reduceEqDiff, ofS_inj, ofS_ok, op_v, op_1, op_1x, op_2, op_2x, o1_v, o1_1, cons_1, cons_1x, cons_2, cons_2x, fn_v, fn_1, fn_1x, not_1, and_t, and_f, or_t, or_f, ite_t, ite_f, tupQ_1, lstQ_1, lstRQ_1, call_1, call_1x, callI_1, callI_1x, set_1, set_1x, expr_1, expr_1x, ret_1, ret_1x, ifs_t, ifs_f, ifs_x, par_1, par_1x, asg_1, asg_1x, sto_a, sto_b, sto_c, ds_v, tk_v, for_1, for_1x, e1, e2, e3, e4, e5, o_eqI]
    · obtain ⟨a, b, e5, _⟩ := low_some (x - 3) 1 (by omega) (by omega)
      refine ⟨a, b, g2, ?_, b1.trans b2⟩
      simp only [r_bind, r_bindX, r_bindA, r_bindAX, a_bind, a_bindX, a_bindA, a_bindAX, r_toS, r_toSX, a_toS, a_toSX, i_toS, i_toSX, s_nx, s_rt, s_bk, s_ct, s_exc, onB_bl, onBS_bl, ofO_some, asD_v, asDs_nil, asDs_cons, take1_v, takes_nil, takes_v, e_c, e_op, e_op1, e_nil, e_cons, e_fn, e_not, e_and, e_or, e_if, e_tup, e_lst, e_lstR, tup0, tup1, tup2, tup3, tup4, tup5, tup6, tup7, lst0, lst1, lst2, lst3, lst4, lst5, lst6, lsR0, lsR1, lsR2, lsR3, e_call, call1, call2, call3, call4, call5, e_callI, ofR_ok, ofR_exc, q_seq, q_nil, q_set, q_expr, q_ret, q_retN, q_if, q_par, par2, q_asg, g_n, g_tup, g_lst, g_nil, g_cons, q_store, o_add, o_sub, o_neg, o_lt, o_le, o_gt, o_ge, o_ixT, o_ixL, o_ixS, o_lenT, o_lenL, o_lenS, o_abs, o_max, o_min, o_intI, o_intB, atI_0, atI_1, atI_2, atI_3, atI_4, atI_5, atI_6, set_n, set_get, set_set, new_n, new_get, mV, List.map_cons, List.map_nil, List.length_cons, List.length_nil, List.replicate, List.cons_append, List.nil_append, List.append_nil, Option.bind_some, Option.map_some, List.getElem?_cons_zero, List.getElem?_cons_succ, List.set_cons_zero, List.set_cons_succ, if_true, if_false, Nat.reduceSub, Nat.reduceAdd, decide_true, decide_false, Bool.not_true, Bool.not_false, reduceIte, Bool.false_eq_true, eq_self, ne_eq, not_true, not_false_iff, Bool.and_true, Bool.true_and, Int.reduceEq, Int.reduceLT, Int.reduceLE, Int.reduceNe, Int.reduceAdd, Int.reduceSub, Int.reduceMul, Int.reduceNeg, String.reduceEq, Nat.reduceLT, Nat.reduceLeDiff, Nat.reduceEqDiff, ofS_inj, ofS_ok, op_v, op_1, op_1x, op_2, op_2x, o1_v, o1_1, cons_1, cons_1x, cons_2, cons_2x, fn_v, fn_1, fn_1x, not_1, and_t, and_f, or_t, or_f, ite_t, ite_f, tupQ_1, lstQ_1, lstRQ_1, call_1, call_1x, callI_1, callI_1x, set_1, set_1x, expr_1, expr_1x, ret_1, ret_1x, ifs_t, ifs_f, ifs_x, par_1, par_1x, asg_1, asg_1x, sto_a, sto_b, sto_c, ds_v, tk_v, for_1, for_1x, e1, e2, e5, o_eqI, h4, h5]
theorem pace_ok {g : GH} {k : Nat} (h : BoxAt g k) : ∃ (a b : Int) (g1 : GH), d_Lpace [.r k] g = .ok (.v (.tup [.int a, .int b])) g1 ∧ Bx k g g1 ∧ a ≠ 0 := by
  obtain ⟨f, g1, f0, f1, e1, b1⟩ := take_ok h 6 (by decide) (by decide)
  unfold d_Lpace b_Lpace
  rw [runI_eq]
  have big : ∀ m : Int, 0 < m → m < 1000 → atI [(D.int 4), .int 99] (f - 4) = some (.int m) → ¬ f < 4 → ∃ (a b : Int) (g1 : GH), (match (sSeq (sSet 1 (mCallI 2 (d_Ltake) (aCons (mV 0) (aCons (mC (.int 6)) aNil))))
  (sSeq (sIf (mOp oLt (mV 1) (mC (.int 4)))
  (sRet (mOp oIx (mLst (aCons (mTup (aCons (mC (.int 1)) (aCons (mC (.int 1)) aNil))) (aCons (mTup (aCons (mOp oSub (mC (.int 0)) (mC (.int 1))) (aCons (mC (.int 1)) aNil))) (aCons (mTup (aCons (mC (.int 2)) (aCons (mC (.int 1)) aNil))) (aCons (mTup (aCons (mC (.int 1)) (aCons (mC (.int 2)) aNil))) aNil))))) (mV 1)))
  sNil)
  (sSeq (sPar 2 3 (aCons (mOp oAdd (mC (.int 1)) (mCallI 2 (d_Ltake) (aCons (mV 0) (aCons (mOp oIx (mLst (aCons (mC (.int 4)) (aCons (mC (.int 99)) aNil))) (mOp oSub (mV 1) (mC (.int 4)))) aNil)))) (aCons (mOp oAdd (mC (.int 1)) (mCallI 2 (d_Ltake) (aCons (mV 0) (aCons (mOp oIx (mLst (aCons (mC (.int 4)) (aCons (mC (.int 99)) aNil))) (mOp oSub (mV 1) (mC (.int 4)))) aNil)))) aNil)))
  (sRet (mCall 2 (d_Llow) (aCons (mOp oMul (mOp oIx (mLst (aCons (mC (.int 1)) (aCons (mOp oSub (mC (.int 0)) (mC (.int 1))) aNil))) (mCallI 2 (d_Ltake) (aCons (mV 0) (aCons (mC (.int 2)) aNil)))) (mV 2)) (aCons (mV 3) aNil))))))) (List.map some [LV.r k] ++ List.replicate (4 - [LV.r k].length) none) g with
      | .rt x g => Res.ok x g
      | .nx _ g => .ok (.v .non) g
      | .exc e _ g => .exc e g
      | _ => .bad) = .ok (.v (.tup [.int a, .int b])) g1 ∧ Bx k g g1 ∧ a ≠ 0 := by
    intro m m0 m1 hm h4
    obtain ⟨x, g2, x0, x1, e2, b2⟩ := take_ok b1.at_ m m0 (by omega)
    obtain ⟨y, g3, y0, y1, e3, b3⟩ := take_ok b2.at_ m m0 (by omega)
    obtain ⟨z, g4, z0, z1, e4, b4⟩ := take_ok b3.at_ 2 (by decide) (by decide)
    have hz : atI [(D.int 1), .int (0 - 1)] z = some (.int (1 - 2 * z)) := by
      rcases (show z = 0 ∨ z = 1 by omega) with rfl | rfl
      · exact atI_0
      · exact atI_1
    have hmul : oMul (.int (1 - 2 * z)) (.int (1 + x)) = some (.int ((1 - 2 * z) * (1 + x))) := o_mul (mulOk_s (by omega))
    have nz : (1 - 2 * z) * (1 + x) ≠ 0 := Int.mul_ne_zero (by omega) (by omega)
    obtain ⟨a, b, e5, ha⟩ := low_some ((1 - 2 * z) * (1 + x)) (1 + y) (by omega) (by omega)
    refine ⟨a, b, g4, ?_, ((b1.trans b2).trans b3).trans b4, ha nz⟩
    have hz' : atI [(D.int 1), .int (-1)] z = some (.int (1 - 2 * z)) := hz
    simp only [r_bind, r_bindX, r_bindA, r_bindAX, a_bind, a_bindX, a_bindA, a_bindAX, r_toS, r_toSX, a_toS, a_toSX, i_toS, i_toSX, s_nx, s_rt, s_bk, s_ct, s_exc, onB_bl, onBS_bl, ofO_some, asD_v, asDs_nil, asDs_cons, take1_v, takes_nil, takes_v, e_c, e_op, e_op1, e_nil, e_cons, e_fn, e_not, e_and, e_or, e_if, e_tup, e_lst, e_lstR, tup0, tup1, tup2, tup3, tup4, tup5, tup6, tup7, lst0, lst1, lst2, lst3, lst4, lst5, lst6, lsR0, lsR1, lsR2, lsR3, e_call, call1, call2, call3, call4, call5, e_callI, ofR_ok, ofR_exc, q_seq, q_nil, q_set, q_expr, q_ret, q_retN, q_if, q_par, par2, q_asg, g_n, g_tup, g_lst, g_nil, g_cons, q_store, o_add, o_sub, o_neg, o_lt, o_le, o_gt, o_ge, o_ixT, o_ixL, o_ixS, o_lenT, o_lenL, o_lenS, o_abs, o_max, o_min, o_intI, o_intB, atI_0, atI_1, atI_2, atI_3, atI_4, atI_5, atI_6, set_n, set_get, set_set, new_n, new_get, mV, List.map_cons, List.map_nil, List.length_cons, List.length_nil, List.replicate, List.cons_append, List.nil_append, List.append_nil, Option.bind_some, Option.map_some, List.getElem?_cons_zero, List.getElem?_cons_succ, List.set_cons_zero, List.set_cons_succ, if_true, if_false, Nat.reduceSub, Nat.reduceAdd, decide_true, decide_false, Bool.not_true, Bool.not_false, reduceIte, Bool.false_eq_true, eq_self, ne_eq, not_true, not_false_iff, Bool.and_true, Bool.true_and, Int.reduceEq, Int.reduceLT, Int.reduceLE, Int.reduceNe, Int.reduceAdd, Int.reduceSub, Int.reduceMul, Int.reduceNeg, String.reduceEq, Nat.reduceLT, Nat.reduceLeDiff, Nat.reduceEqDiff, ofS_inj, ofS_ok, op_v, op_1, op_1x, op_2, op_2x, o1_v, o1_1, cons_1, cons_1x, cons_2, cons_2x, fn_v, fn_1, fn_1x, not_1, and_t, and_f, or_t, or_f, ite_t, ite_f, tupQ_1, lstQ_1, lstRQ_1, call_1, call_1x, callI_1, callI_1x, set_1, set_1x, expr_1, expr_1x, ret_1, ret_1x, ifs_t, ifs_f, ifs_x, par_1, par_1x, asg_1, asg_1x, sto_a, sto_b, sto_c, ds_v, tk_v, for_1, for_1x, e1, e2, e3, e4, e5, hm, h4, hz', hmul]
  by_cases h4 : f < 4
  · have : ∃ a b : Int, atI [(D.tup [.int 1, .int 1]), .tup [.int (-1), .int 1], .tup [.int 2, .int 1], .tup [.int 1, .int 2]] f = some (.tup [.int a, .int b]) ∧ a ≠ 0 := by
      rcases (show f = 0 ∨ f = 1 ∨ f = 2 ∨ f = 3 by omega) with rfl | rfl | rfl | rfl
      · exact ⟨1, 1, atI_0, by decide⟩
      · exact ⟨-1, 1, atI_1, by decide⟩
      · exact ⟨2, 1, atI_2, by decide⟩
      · exact ⟨1, 2, atI_3, by decide⟩
    obtain ⟨a, b, e, ha⟩ := this
    refine ⟨a, b, g1, ?_, b1, ha⟩
    simp only [r_bind, r_bindX, r_bindA, r_bindAX, a_bind, a_bindX, a_bindA, a_bindAX, r_toS, r_toSX, a_toS, a_toSX, i_toS, i_toSX, s_nx, s_rt, s_bk, s_ct, s_exc, onB_bl, onBS_bl, ofO_some, asD_v, asDs_nil, asDs_cons, take1_v, takes_nil, takes_v, e_c, e_op, e_op1, e_nil, e_cons, e_fn, e_not, e_and, e_or, e_if, e_tup, e_lst, e_lstR, tup0, tup1, tup2, tup3, tup4, tup5, tup6, tup7, lst0, lst1, lst2, lst3, lst4, lst5, lst6, lsR0, lsR1, lsR2, lsR3, e_call, call1, call2, call3, call4, call5, e_callI, ofR_ok, ofR_exc, q_seq, q_nil, q_set, q_expr, q_ret, q_retN, q_if, q_par, par2, q_asg, g_n, g_tup, g_lst, g_nil, g_cons, q_store, o_add, o_sub, o_neg, o_lt, o_le, o_gt, o_ge, o_ixT, o_ixL, o_ixS, o_lenT, o_lenL, o_lenS, o_abs, o_max, o_min, o_intI, o_intB, atI_0, atI_1, atI_2, atI_3, atI_4, atI_5, atI_6, set_n, set_get, set_set, new_n, new_get, mV, List.map_cons, List.map_nil, List.length_cons, List.length_nil, List.replicate, List.cons_append, List.nil_append, List.append_nil, Option.bind_some, Option.map_some, List.getElem?_cons_zero, List.getElem?_cons_succ, List.set_cons_zero, List.set_cons_succ, if_true, if_false, Nat.reduceSub, Nat.reduceAdd, decide_true, decide_false, Bool.not_true, Bool.not_false, reduceIte, Bool.false_eq_true, eq_self, ne_eq, not_true, not_false_iff, Bool.and_true, Bool.true_and, Int.reduceEq, Int.reduceLT, Int.reduceLE, Int.reduceNe, Int.reduceAdd, Int.reduceSub, Int.reduceMul, Int.reduceNeg, String.reduceEq, Nat.reduceLT, Nat.reduceLeDiff, Nat.reduceEqDiff, ofS_inj, ofS_ok, op_v, op_1, op_1x, op_2, op_2x, o1_v, o1_1, cons_1, cons_1x, cons_2, cons_2x, fn_v, fn_1, fn_1x, not_1, and_t, and_f, or_t, or_f, ite_t, ite_f, tupQ_1, lstQ_1, lstRQ_1, call_1, call_1x, callI_1, callI_1x, set_1, set_1x, expr_1, expr_1x, ret_1, ret_1x, ifs_t, ifs_f, ifs_x, par_1, par_1x, asg_1, asg_1x, sto_a, sto_b, sto_c, ds_v, tk_v, for_1, for_1x, e1, h4, e]
  · rcases (show f = 4 ∨ f = 5 by omega) with rfl | rfl
    · exact big 4 (by decide) (by decide) rfl h4
    · exact big 99 (by decide) (by decide) rfl h4
def lineOk (p q : Int) : Prop := 1 ≤ p ∧ ¬ (q < 0 ∧ (-q) % p = 0)
theorem neg_mod {p q : Int} (hp : 1 ≤ p) : (-q) % p = 0 ↔ q % p = 0 := by
  constructor
  · intro h
    have h2 := Int.dvd_of_emod_eq_zero h
    exact Int.emod_eq_zero_of_dvd (Int.dvd_neg.mp h2)
  · intro h
    exact Int.emod_eq_zero_of_dvd (Int.dvd_neg.mpr (Int.dvd_of_emod_eq_zero h))
theorem line_ok {g : GH} {k : Nat} (h : BoxAt g k) : ∃ (p q : Int) (g1 : GH), d_Lline [.r k] g = .ok (.v (.tup [.int p, .int q])) g1 ∧ Bx k g g1 ∧ lineOk p q := by
  obtain ⟨x, g1, x0, x1, e1, b1⟩ := take_ok h 3 (by decide) (by decide)
  obtain ⟨y, g2, y0, y1, e2, b2⟩ := take_ok b1.at_ 3 (by decide) (by decide)
  obtain ⟨z, g3, z0, z1, e3, b3⟩ := take_ok b2.at_ 13 (by decide) (by decide)
  obtain ⟨v, g4, v0, v1, e4, b4⟩ := take_ok b3.at_ 2 (by decide) (by decide)
  have : ∃ q : Int, atI [(D.int y), .int (z - 6)] v = some (.int q) := by
    rcases (show v = 0 ∨ v = 1 by omega) with rfl | rfl
    · exact ⟨_, atI_0⟩
    · exact ⟨_, atI_1⟩
  obtain ⟨q, hq⟩ := this
  have hp : (0 : Int) < 1 + x := by omega
  have bb := ((b1.trans b2).trans b3).trans b4
  unfold d_Lline b_Lline
  rw [runI_eq]
  by_cases hn : q < 0
  · by_cases hm : q % (1 + x) = 0
    · refine ⟨1 + x, 0 - q, g4, ?_, bb, by omega, fun z => by omega⟩
      simp only [r_bind, r_bindX, r_bindA, r_bindAX, a_bind, a_bindX, a_bindA, a_bindAX, r_toS, r_toSX, a_toS, a_toSX, i_toS, i_toSX, s_nx, s_rt, s_bk, s_ct, s_exc, onB_bl, onBS_bl, ofO_some, asD_v, asDs_nil, asDs_cons, take1_v, takes_nil, takes_v, e_c, e_op, e_op1, e_nil, e_cons, e_fn, e_not, e_and, e_or, e_if, e_tup, e_lst, e_lstR, tup0, tup1, tup2, tup3, tup4, tup5, tup6, tup7, lst0, lst1, lst2, lst3, lst4, lst5, lst6, lsR0, lsR1, lsR2, lsR3, e_call, call1, call2, call3, call4, call5, e_callI, ofR_ok, ofR_exc, q_seq, q_nil, q_set, q_expr, q_ret, q_retN, q_if, q_par, par2, q_asg, g_n, g_tup, g_lst, g_nil, g_cons, q_store, o_add, o_sub, o_neg, o_lt, o_le, o_gt, o_ge, o_ixT, o_ixL, o_ixS, o_lenT, o_lenL, o_lenS, o_abs, o_max, o_min, o_intI, o_intB, atI_0, atI_1, atI_2, atI_3, atI_4, atI_5, atI_6, set_n, set_get, set_set, new_n, new_get, mV, List.map_cons, List.map_nil, List.length_cons, List.length_nil, List.replicate, List.cons_append, List.nil_append, List.append_nil, Option.bind_some, Option.map_some, List.getElem?_cons_zero, List.getElem?_cons_succ, List.set_cons_zero, List.set_cons_succ, if_true, if_false, Nat.reduceSub, Nat.reduceAdd, decide_true, decide_false, Bool.not_true, Bool.not_false, reduceIte, Bool.false_eq_true, eq_self, ne_eq, not_true, not_false_iff, Bool.and_true, Bool.true_and, Int.reduceEq, Int.reduceLT, Int.reduceLE, Int.reduceNe, Int.reduceAdd, Int.reduceSub, Int.reduceMul, Int.reduceNeg, String.reduceEq, Nat.reduceLT, Nat.reduceLeDiff, Nat.reduceEqDiff, ofS_inj, ofS_ok, op_v, op_1, op_1x, op_2, op_2x, o1_v, o1_1, cons_1, cons_1x, cons_2, cons_2x, fn_v, fn_1, fn_1x, not_1, and_t, and_f, or_t, or_f, ite_t, ite_f, tupQ_1, lstQ_1, lstRQ_1, call_1, call_1x, callI_1, callI_1x, set_1, set_1x, expr_1, expr_1x, ret_1, ret_1x, ifs_t, ifs_f, ifs_x, par_1, par_1x, asg_1, asg_1x, sto_a, sto_b, sto_c, ds_v, tk_v, for_1, for_1x, e1, e2, e3, e4, hq, hn, o_modP hp, o_eqI, hm]
    · refine ⟨1 + x, q, g4, ?_, bb, by omega, fun z => hm ((neg_mod (by omega)).mp z.2)⟩
      simp only [r_bind, r_bindX, r_bindA, r_bindAX, a_bind, a_bindX, a_bindA, a_bindAX, r_toS, r_toSX, a_toS, a_toSX, i_toS, i_toSX, s_nx, s_rt, s_bk, s_ct, s_exc, onB_bl, onBS_bl, ofO_some, asD_v, asDs_nil, asDs_cons, take1_v, takes_nil, takes_v, e_c, e_op, e_op1, e_nil, e_cons, e_fn, e_not, e_and, e_or, e_if, e_tup, e_lst, e_lstR, tup0, tup1, tup2, tup3, tup4, tup5, tup6, tup7, lst0, lst1, lst2, lst3, lst4, lst5, lst6, lsR0, lsR1, lsR2, lsR3, e_call, call1, call2, call3, call4, call5, e_callI, ofR_ok, ofR_exc, q_seq, q_nil, q_set, q_expr, q_ret, q_retN, q_if, q_par, par2, q_asg, g_n, g_tup, g_lst, g_nil, g_cons, q_store, o_add, o_sub, o_neg, o_lt, o_le, o_gt, o_ge, o_ixT, o_ixL, o_ixS, o_lenT, o_lenL, o_lenS, o_abs, o_max, o_min, o_intI, o_intB, atI_0, atI_1, atI_2, atI_3, atI_4, atI_5, atI_6, set_n, set_get, set_set, new_n, new_get, mV, List.map_cons, List.map_nil, List.length_cons, List.length_nil, List.replicate, List.cons_append, List.nil_append, List.append_nil, Option.bind_some, Option.map_some, List.getElem?_cons_zero, List.getElem?_cons_succ, List.set_cons_zero, List.set_cons_succ, if_true, if_false, Nat.reduceSub, Nat.reduceAdd, decide_true, decide_false, Bool.not_true, Bool.not_false, reduceIte, Bool.false_eq_true, eq_self, ne_eq, not_true, not_false_iff, Bool.and_true, Bool.true_and, Int.reduceEq, Int.reduceLT, Int.reduceLE, Int.reduceNe, Int.reduceAdd, Int.reduceSub, Int.reduceMul, Int.reduceNeg, String.reduceEq, Nat.reduceLT, Nat.reduceLeDiff, Nat.reduceEqDiff, ofS_inj, ofS_ok, op_v, op_1, op_1x, op_2, op_2x, o1_v, o1_1, cons_1, cons_1x, cons_2, cons_2x, fn_v, fn_1, fn_1x, not_1, and_t, and_f, or_t, or_f, ite_t, ite_f, tupQ_1, lstQ_1, lstRQ_1, call_1, call_1x, callI_1, callI_1x, set_1, set_1x, expr_1, expr_1x, ret_1, ret_1x, ifs_t, ifs_f, ifs_x, par_1, par_1x, asg_1, asg_1x, sto_a, sto_b, sto_c, ds_v, tk_v, for_1, for_1x, e1, e2, e3, e4, hq, hn, o_modP hp, o_eqI, hm]
  · refine ⟨1 + x, q, g4, ?_, bb, by omega, fun z => hn z.1⟩
    simp only [r_bind, r_bindX, r_bindA, r_bindAX, a_bind, a_bindX, a_bindA, a_bindAX, r_toS, r_toSX, a_toS, a_toSX, i_toS, i_toSX, s_nx, s_rt, s_bk, s_ct, s_exc, onB_bl, onBS_bl, ofO_some, asD_v, asDs_nil, asDs_cons, take1_v, takes_nil, takes_v, e_c, e_op, e_op1, e_nil, e_cons, e_fn, e_not, e_and, e_or, e_if, e_tup, e_lst, e_lstR, tup0, tup1, tup2, tup3, tup4, tup5, tup6, tup7, lst0, lst1, lst2, lst3, lst4, lst5, lst6, lsR0, lsR1, lsR2, lsR3, e_call, call1, call2, call3, call4, call5, e_callI, ofR_ok, ofR_exc, q_seq, q_nil, q_set, q_expr, q_ret, q_retN, q_if, q_par, par2, q_asg, g_n, g_tup, g_lst, g_nil, g_cons, q_store, o_add, o_sub, o_neg, o_lt, o_le, o_gt, o_ge, o_ixT, o_ixL, o_ixS, o_lenT, o_lenL, o_lenS, o_abs, o_max, o_min, o_intI, o_intB, atI_0, atI_1, atI_2, atI_3, atI_4, atI_5, atI_6, set_n, set_get, set_set, new_n, new_get, mV, List.map_cons, List.map_nil, List.length_cons, List.length_nil, List.replicate, List.cons_append, List.nil_append, List.append_nil, Option.bind_some, Option.map_some, List.getElem?_cons_zero, List.getElem?_cons_succ, List.set_cons_zero, List.set_cons_succ, if_true, if_false, Nat.reduceSub, Nat.reduceAdd, decide_true, decide_false, Bool.not_true, Bool.not_false, reduceIte, Bool.false_eq_true, eq_self, ne_eq, not_true, not_false_iff, Bool.and_true, Bool.true_and, Int.reduceEq, Int.reduceLT, Int.reduceLE, Int.reduceNe, Int.reduceAdd, Int.reduceSub, Int.reduceMul, Int.reduceNeg, String.reduceEq, Nat.reduceLT, Nat.reduceLeDiff, Nat.reduceEqDiff, ofS_inj, ofS_ok, op_v, op_1, op_1x, op_2, op_2x, o1_v, o1_1, cons_1, cons_1x, cons_2, cons_2x, fn_v, fn_1, fn_1x, not_1, and_t, and_f, or_t, or_f, ite_t, ite_f, tupQ_1, lstQ_1, lstRQ_1, call_1, call_1x, callI_1, callI_1x, set_1, set_1x, expr_1, expr_1x, ret_1, ret_1x, ifs_t, ifs_f, ifs_x, par_1, par_1x, asg_1, asg_1x, sto_a, sto_b, sto_c, ds_v, tk_v, for_1, for_1x, e1, e2, e3, e4, hq, hn]
inductive Row where
  | num (a b : Int) | place | pace (a b : Int) | sum (x y : Row) | less (x y : Row) | times (x y : Row) | over (x : Row) (p q : Int) | heap (x : Row) | on (x : Row)
def Row.d : Row → D
  | .num a b => .tup [.str "num", .tup [.int a, .int b]]
  | .place => .tup [.str "place"]
  | .pace a b => .tup [.str "pace", .tup [.int a, .int b]]
  | .sum x y => .tup [.str "sum", x.d, y.d]
  | .less x y => .tup [.str "less", x.d, y.d]
  | .times x y => .tup [.str "times", x.d, y.d]
  | .over x p q => .tup [.str "over", x.d, .int p, .int q]
  | .heap x => .tup [.str "heap", x.d]
  | .on x => .tup [.str "on", x.d]
def Row.size : Row → Nat
  | .num _ _ => 1 | .place => 1 | .pace _ _ => 1
  | .sum x y => 1 + x.size + y.size | .less x y => 1 + x.size + y.size | .times x y => 1 + x.size + y.size
  | .over x _ _ => 1 + x.size | .heap x => 1 + x.size | .on x => 1 + x.size
def Row.good : Row → Prop
  | .num _ _ => True | .place => True | .pace a _ => a ≠ 0
  | .sum x y => x.good ∧ y.good | .less x y => x.good ∧ y.good | .times x y => x.good ∧ y.good
  | .over x p q => x.good ∧ lineOk p q | .heap x => x.good | .on x => x.good
theorem Row.size_pos (r : Row) : 1 ≤ r.size := by cases r <;> simp only [Row.size] <;> omega
theorem leaf_ok {g : GH} {k : Nat} (h : BoxAt g k) (load : Int) : ∃ (r : Row) (g1 : GH), d_Lleaf [.r k, .v (.int load)] g = .ok (.v r.d) g1 ∧ Bx k g g1 ∧ r.good ∧ r.size = 1 := by
  obtain ⟨f, g1, f0, f1, e1, b1⟩ := take_ok h 4 (by decide) (by decide)
  unfold d_Lleaf b_Lleaf
  rw [runI_eq]
  obtain ⟨a, b, g2, e2, b2⟩ := number_ok b1.at_
  obtain ⟨c, d, g3, e3, b3, hc⟩ := pace_ok b1.at_
  obtain ⟨x, g4, x0, x1, e4, b4⟩ := take_ok b1.at_ 2 (by decide) (by decide)
  obtain ⟨y, g5, y0, y1, e5, b5⟩ := take_ok b4.at_ 3 (by decide) (by decide)
  obtain ⟨y', g5', y0', y1', e5', b5'⟩ := take_ok b1.at_ 3 (by decide) (by decide)
  obtain ⟨a2, c2, e6, _⟩ := low_some (1 + y) 1 (by decide) (by decide)
  obtain ⟨a3, c3, e7, _⟩ := low_some (1 + y') 1 (by decide) (by decide)
  by_cases h0 : f = 0
  · exact ⟨.num a b, g2, by simp only [r_bind, r_bindX, r_bindA, r_bindAX, a_bind, a_bindX, a_bindA, a_bindAX, r_toS, r_toSX, a_toS, a_toSX, i_toS, i_toSX, s_nx, s_rt, s_bk, s_ct, s_exc, onB_bl, onBS_bl, ofO_some, asD_v, asDs_nil, asDs_cons, take1_v, takes_nil, takes_v, e_c, e_op, e_op1, e_nil, e_cons, e_fn, e_not, e_and, e_or, e_if, e_tup, e_lst, e_lstR, tup0, tup1, tup2, tup3, tup4, tup5, tup6, tup7, lst0, lst1, lst2, lst3, lst4, lst5, lst6, lsR0, lsR1, lsR2, lsR3, e_call, call1, call2, call3, call4, call5, e_callI, ofR_ok, ofR_exc, q_seq, q_nil, q_set, q_expr, q_ret, q_retN, q_if, q_par, par2, q_asg, g_n, g_tup, g_lst, g_nil, g_cons, q_store, o_add, o_sub, o_neg, o_lt, o_le, o_gt, o_ge, o_ixT, o_ixL, o_ixS, o_lenT, o_lenL, o_lenS, o_abs, o_max, o_min, o_intI, o_intB, atI_0, atI_1, atI_2, atI_3, atI_4, atI_5, atI_6, set_n, set_get, set_set, new_n, new_get, mV, List.map_cons, List.map_nil, List.length_cons, List.length_nil, List.replicate, List.cons_append, List.nil_append, List.append_nil, Option.bind_some, Option.map_some, List.getElem?_cons_zero, List.getElem?_cons_succ, List.set_cons_zero, List.set_cons_succ, if_true, if_false, Nat.reduceSub, Nat.reduceAdd, decide_true, decide_false, Bool.not_true, Bool.not_false, reduceIte, Bool.false_eq_true, eq_self, ne_eq, not_true, not_false_iff, Bool.and_true, Bool.true_and, Int.reduceEq, Int.reduceLT, Int.reduceLE, Int.reduceNe, Int.reduceAdd, Int.reduceSub, Int.reduceMul, Int.reduceNeg, String.reduceEq, Nat.reduceLT, Nat.reduceLeDiff, Nat.reduceEqDiff, ofS_inj, ofS_ok, op_v, op_1, op_1x, op_2, op_2x, o1_v, o1_1, cons_1, cons_1x, cons_2, cons_2x, fn_v, fn_1, fn_1x, not_1, and_t, and_f, or_t, or_f, ite_t, ite_f, tupQ_1, lstQ_1, lstRQ_1, call_1, call_1x, callI_1, callI_1x, set_1, set_1x, expr_1, expr_1x, ret_1, ret_1x, ifs_t, ifs_f, ifs_x, par_1, par_1x, asg_1, asg_1x, sto_a, sto_b, sto_c, ds_v, tk_v, for_1, for_1x, e1, e2, o_eqI, h0, Row.d], b1.trans b2, trivial, rfl⟩
  · by_cases h1 : f = 1
    · by_cases hl : load < 1
      · exact ⟨.num a b, g2, by subst h1; simp only [r_bind, r_bindX, r_bindA, r_bindAX, a_bind, a_bindX, a_bindA, a_bindAX, r_toS, r_toSX, a_toS, a_toSX, i_toS, i_toSX, s_nx, s_rt, s_bk, s_ct, s_exc, onB_bl, onBS_bl, ofO_some, asD_v, asDs_nil, asDs_cons, take1_v, takes_nil, takes_v, e_c, e_op, e_op1, e_nil, e_cons, e_fn, e_not, e_and, e_or, e_if, e_tup, e_lst, e_lstR, tup0, tup1, tup2, tup3, tup4, tup5, tup6, tup7, lst0, lst1, lst2, lst3, lst4, lst5, lst6, lsR0, lsR1, lsR2, lsR3, e_call, call1, call2, call3, call4, call5, e_callI, ofR_ok, ofR_exc, q_seq, q_nil, q_set, q_expr, q_ret, q_retN, q_if, q_par, par2, q_asg, g_n, g_tup, g_lst, g_nil, g_cons, q_store, o_add, o_sub, o_neg, o_lt, o_le, o_gt, o_ge, o_ixT, o_ixL, o_ixS, o_lenT, o_lenL, o_lenS, o_abs, o_max, o_min, o_intI, o_intB, atI_0, atI_1, atI_2, atI_3, atI_4, atI_5, atI_6, set_n, set_get, set_set, new_n, new_get, mV, List.map_cons, List.map_nil, List.length_cons, List.length_nil, List.replicate, List.cons_append, List.nil_append, List.append_nil, Option.bind_some, Option.map_some, List.getElem?_cons_zero, List.getElem?_cons_succ, List.set_cons_zero, List.set_cons_succ, if_true, if_false, Nat.reduceSub, Nat.reduceAdd, decide_true, decide_false, Bool.not_true, Bool.not_false, reduceIte, Bool.false_eq_true, eq_self, ne_eq, not_true, not_false_iff, Bool.and_true, Bool.true_and, Int.reduceEq, Int.reduceLT, Int.reduceLE, Int.reduceNe, Int.reduceAdd, Int.reduceSub, Int.reduceMul, Int.reduceNeg, String.reduceEq, Nat.reduceLT, Nat.reduceLeDiff, Nat.reduceEqDiff, ofS_inj, ofS_ok, op_v, op_1, op_1x, op_2, op_2x, o1_v, o1_1, cons_1, cons_1x, cons_2, cons_2x, fn_v, fn_1, fn_1x, not_1, and_t, and_f, or_t, or_f, ite_t, ite_f, tupQ_1, lstQ_1, lstRQ_1, call_1, call_1x, callI_1, callI_1x, set_1, set_1x, expr_1, expr_1x, ret_1, ret_1x, ifs_t, ifs_f, ifs_x, par_1, par_1x, asg_1, asg_1x, sto_a, sto_b, sto_c, ds_v, tk_v, for_1, for_1x, e1, e2, o_eqI, hl, Row.d], b1.trans b2, trivial, rfl⟩
      · exact ⟨.place, g1, by subst h1; simp only [r_bind, r_bindX, r_bindA, r_bindAX, a_bind, a_bindX, a_bindA, a_bindAX, r_toS, r_toSX, a_toS, a_toSX, i_toS, i_toSX, s_nx, s_rt, s_bk, s_ct, s_exc, onB_bl, onBS_bl, ofO_some, asD_v, asDs_nil, asDs_cons, take1_v, takes_nil, takes_v, e_c, e_op, e_op1, e_nil, e_cons, e_fn, e_not, e_and, e_or, e_if, e_tup, e_lst, e_lstR, tup0, tup1, tup2, tup3, tup4, tup5, tup6, tup7, lst0, lst1, lst2, lst3, lst4, lst5, lst6, lsR0, lsR1, lsR2, lsR3, e_call, call1, call2, call3, call4, call5, e_callI, ofR_ok, ofR_exc, q_seq, q_nil, q_set, q_expr, q_ret, q_retN, q_if, q_par, par2, q_asg, g_n, g_tup, g_lst, g_nil, g_cons, q_store, o_add, o_sub, o_neg, o_lt, o_le, o_gt, o_ge, o_ixT, o_ixL, o_ixS, o_lenT, o_lenL, o_lenS, o_abs, o_max, o_min, o_intI, o_intB, atI_0, atI_1, atI_2, atI_3, atI_4, atI_5, atI_6, set_n, set_get, set_set, new_n, new_get, mV, List.map_cons, List.map_nil, List.length_cons, List.length_nil, List.replicate, List.cons_append, List.nil_append, List.append_nil, Option.bind_some, Option.map_some, List.getElem?_cons_zero, List.getElem?_cons_succ, List.set_cons_zero, List.set_cons_succ, if_true, if_false, Nat.reduceSub, Nat.reduceAdd, decide_true, decide_false, Bool.not_true, Bool.not_false, reduceIte, Bool.false_eq_true, eq_self, ne_eq, not_true, not_false_iff, Bool.and_true, Bool.true_and, Int.reduceEq, Int.reduceLT, Int.reduceLE, Int.reduceNe, Int.reduceAdd, Int.reduceSub, Int.reduceMul, Int.reduceNeg, String.reduceEq, Nat.reduceLT, Nat.reduceLeDiff, Nat.reduceEqDiff, ofS_inj, ofS_ok, op_v, op_1, op_1x, op_2, op_2x, o1_v, o1_1, cons_1, cons_1x, cons_2, cons_2x, fn_v, fn_1, fn_1x, not_1, and_t, and_f, or_t, or_f, ite_t, ite_f, tupQ_1, lstQ_1, lstRQ_1, call_1, call_1x, callI_1, callI_1x, set_1, set_1x, expr_1, expr_1x, ret_1, ret_1x, ifs_t, ifs_f, ifs_x, par_1, par_1x, asg_1, asg_1x, sto_a, sto_b, sto_c, ds_v, tk_v, for_1, for_1x, e1, o_eqI, hl, Row.d], b1, trivial, rfl⟩
    · by_cases h2 : f = 2
      · exact ⟨.pace c d, g3, by subst h2; simp only [r_bind, r_bindX, r_bindA, r_bindAX, a_bind, a_bindX, a_bindA, a_bindAX, r_toS, r_toSX, a_toS, a_toSX, i_toS, i_toSX, s_nx, s_rt, s_bk, s_ct, s_exc, onB_bl, onBS_bl, ofO_some, asD_v, asDs_nil, asDs_cons, take1_v, takes_nil, takes_v, e_c, e_op, e_op1, e_nil, e_cons, e_fn, e_not, e_and, e_or, e_if, e_tup, e_lst, e_lstR, tup0, tup1, tup2, tup3, tup4, tup5, tup6, tup7, lst0, lst1, lst2, lst3, lst4, lst5, lst6, lsR0, lsR1, lsR2, lsR3, e_call, call1, call2, call3, call4, call5, e_callI, ofR_ok, ofR_exc, q_seq, q_nil, q_set, q_expr, q_ret, q_retN, q_if, q_par, par2, q_asg, g_n, g_tup, g_lst, g_nil, g_cons, q_store, o_add, o_sub, o_neg, o_lt, o_le, o_gt, o_ge, o_ixT, o_ixL, o_ixS, o_lenT, o_lenL, o_lenS, o_abs, o_max, o_min, o_intI, o_intB, atI_0, atI_1, atI_2, atI_3, atI_4, atI_5, atI_6, set_n, set_get, set_set, new_n, new_get, mV, List.map_cons, List.map_nil, List.length_cons, List.length_nil, List.replicate, List.cons_append, List.nil_append, List.append_nil, Option.bind_some, Option.map_some, List.getElem?_cons_zero, List.getElem?_cons_succ, List.set_cons_zero, List.set_cons_succ, if_true, if_false, Nat.reduceSub, Nat.reduceAdd, decide_true, decide_false, Bool.not_true, Bool.not_false, reduceIte, Bool.false_eq_true, eq_self, ne_eq, not_true, not_false_iff, Bool.and_true, Bool.true_and, Int.reduceEq, Int.reduceLT, Int.reduceLE, Int.reduceNe, Int.reduceAdd, Int.reduceSub, Int.reduceMul, Int.reduceNeg, String.reduceEq, Nat.reduceLT, Nat.reduceLeDiff, Nat.reduceEqDiff, ofS_inj, ofS_ok, op_v, op_1, op_1x, op_2, op_2x, o1_v, o1_1, cons_1, cons_1x, cons_2, cons_2x, fn_v, fn_1, fn_1x, not_1, and_t, and_f, or_t, or_f, ite_t, ite_f, tupQ_1, lstQ_1, lstRQ_1, call_1, call_1x, callI_1, callI_1x, set_1, set_1x, expr_1, expr_1x, ret_1, ret_1x, ifs_t, ifs_f, ifs_x, par_1, par_1x, asg_1, asg_1x, sto_a, sto_b, sto_c, ds_v, tk_v, for_1, for_1x, e1, e3, o_eqI, Row.d], b1.trans b3, hc, rfl⟩
      · by_cases hl : 0 < load
        · by_cases hx : x = 0
          · exact ⟨.place, g4, by simp only [r_bind, r_bindX, r_bindA, r_bindAX, a_bind, a_bindX, a_bindA, a_bindAX, r_toS, r_toSX, a_toS, a_toSX, i_toS, i_toSX, s_nx, s_rt, s_bk, s_ct, s_exc, onB_bl, onBS_bl, ofO_some, asD_v, asDs_nil, asDs_cons, take1_v, takes_nil, takes_v, e_c, e_op, e_op1, e_nil, e_cons, e_fn, e_not, e_and, e_or, e_if, e_tup, e_lst, e_lstR, tup0, tup1, tup2, tup3, tup4, tup5, tup6, tup7, lst0, lst1, lst2, lst3, lst4, lst5, lst6, lsR0, lsR1, lsR2, lsR3, e_call, call1, call2, call3, call4, call5, e_callI, ofR_ok, ofR_exc, q_seq, q_nil, q_set, q_expr, q_ret, q_retN, q_if, q_par, par2, q_asg, g_n, g_tup, g_lst, g_nil, g_cons, q_store, o_add, o_sub, o_neg, o_lt, o_le, o_gt, o_ge, o_ixT, o_ixL, o_ixS, o_lenT, o_lenL, o_lenS, o_abs, o_max, o_min, o_intI, o_intB, atI_0, atI_1, atI_2, atI_3, atI_4, atI_5, atI_6, set_n, set_get, set_set, new_n, new_get, mV, List.map_cons, List.map_nil, List.length_cons, List.length_nil, List.replicate, List.cons_append, List.nil_append, List.append_nil, Option.bind_some, Option.map_some, List.getElem?_cons_zero, List.getElem?_cons_succ, List.set_cons_zero, List.set_cons_succ, if_true, if_false, Nat.reduceSub, Nat.reduceAdd, decide_true, decide_false, Bool.not_true, Bool.not_false, reduceIte, Bool.false_eq_true, eq_self, ne_eq, not_true, not_false_iff, Bool.and_true, Bool.true_and, Int.reduceEq, Int.reduceLT, Int.reduceLE, Int.reduceNe, Int.reduceAdd, Int.reduceSub, Int.reduceMul, Int.reduceNeg, String.reduceEq, Nat.reduceLT, Nat.reduceLeDiff, Nat.reduceEqDiff, ofS_inj, ofS_ok, op_v, op_1, op_1x, op_2, op_2x, o1_v, o1_1, cons_1, cons_1x, cons_2, cons_2x, fn_v, fn_1, fn_1x, not_1, and_t, and_f, or_t, or_f, ite_t, ite_f, tupQ_1, lstQ_1, lstRQ_1, call_1, call_1x, callI_1, callI_1x, set_1, set_1x, expr_1, expr_1x, ret_1, ret_1x, ifs_t, ifs_f, ifs_x, par_1, par_1x, asg_1, asg_1x, sto_a, sto_b, sto_c, ds_v, tk_v, for_1, for_1x, e1, e4, o_eqI, h0, h1, h2, hl, hx, Row.d], b1.trans b4, trivial, rfl⟩
          · exact ⟨.num a2 c2, g5, by simp only [r_bind, r_bindX, r_bindA, r_bindAX, a_bind, a_bindX, a_bindA, a_bindAX, r_toS, r_toSX, a_toS, a_toSX, i_toS, i_toSX, s_nx, s_rt, s_bk, s_ct, s_exc, onB_bl, onBS_bl, ofO_some, asD_v, asDs_nil, asDs_cons, take1_v, takes_nil, takes_v, e_c, e_op, e_op1, e_nil, e_cons, e_fn, e_not, e_and, e_or, e_if, e_tup, e_lst, e_lstR, tup0, tup1, tup2, tup3, tup4, tup5, tup6, tup7, lst0, lst1, lst2, lst3, lst4, lst5, lst6, lsR0, lsR1, lsR2, lsR3, e_call, call1, call2, call3, call4, call5, e_callI, ofR_ok, ofR_exc, q_seq, q_nil, q_set, q_expr, q_ret, q_retN, q_if, q_par, par2, q_asg, g_n, g_tup, g_lst, g_nil, g_cons, q_store, o_add, o_sub, o_neg, o_lt, o_le, o_gt, o_ge, o_ixT, o_ixL, o_ixS, o_lenT, o_lenL, o_lenS, o_abs, o_max, o_min, o_intI, o_intB, atI_0, atI_1, atI_2, atI_3, atI_4, atI_5, atI_6, set_n, set_get, set_set, new_n, new_get, mV, List.map_cons, List.map_nil, List.length_cons, List.length_nil, List.replicate, List.cons_append, List.nil_append, List.append_nil, Option.bind_some, Option.map_some, List.getElem?_cons_zero, List.getElem?_cons_succ, List.set_cons_zero, List.set_cons_succ, if_true, if_false, Nat.reduceSub, Nat.reduceAdd, decide_true, decide_false, Bool.not_true, Bool.not_false, reduceIte, Bool.false_eq_true, eq_self, ne_eq, not_true, not_false_iff, Bool.and_true, Bool.true_and, Int.reduceEq, Int.reduceLT, Int.reduceLE, Int.reduceNe, Int.reduceAdd, Int.reduceSub, Int.reduceMul, Int.reduceNeg, String.reduceEq, Nat.reduceLT, Nat.reduceLeDiff, Nat.reduceEqDiff, ofS_inj, ofS_ok, op_v, op_1, op_1x, op_2, op_2x, o1_v, o1_1, cons_1, cons_1x, cons_2, cons_2x, fn_v, fn_1, fn_1x, not_1, and_t, and_f, or_t, or_f, ite_t, ite_f, tupQ_1, lstQ_1, lstRQ_1, call_1, call_1x, callI_1, callI_1x, set_1, set_1x, expr_1, expr_1x, ret_1, ret_1x, ifs_t, ifs_f, ifs_x, par_1, par_1x, asg_1, asg_1x, sto_a, sto_b, sto_c, ds_v, tk_v, for_1, for_1x, e1, e4, e5, e6, o_eqI, h0, h1, h2, hl, hx, Row.d], (b1.trans b4).trans b5, trivial, rfl⟩
        · exact ⟨.num a3 c3, g5', by simp only [r_bind, r_bindX, r_bindA, r_bindAX, a_bind, a_bindX, a_bindA, a_bindAX, r_toS, r_toSX, a_toS, a_toSX, i_toS, i_toSX, s_nx, s_rt, s_bk, s_ct, s_exc, onB_bl, onBS_bl, ofO_some, asD_v, asDs_nil, asDs_cons, take1_v, takes_nil, takes_v, e_c, e_op, e_op1, e_nil, e_cons, e_fn, e_not, e_and, e_or, e_if, e_tup, e_lst, e_lstR, tup0, tup1, tup2, tup3, tup4, tup5, tup6, tup7, lst0, lst1, lst2, lst3, lst4, lst5, lst6, lsR0, lsR1, lsR2, lsR3, e_call, call1, call2, call3, call4, call5, e_callI, ofR_ok, ofR_exc, q_seq, q_nil, q_set, q_expr, q_ret, q_retN, q_if, q_par, par2, q_asg, g_n, g_tup, g_lst, g_nil, g_cons, q_store, o_add, o_sub, o_neg, o_lt, o_le, o_gt, o_ge, o_ixT, o_ixL, o_ixS, o_lenT, o_lenL, o_lenS, o_abs, o_max, o_min, o_intI, o_intB, atI_0, atI_1, atI_2, atI_3, atI_4, atI_5, atI_6, set_n, set_get, set_set, new_n, new_get, mV, List.map_cons, List.map_nil, List.length_cons, List.length_nil, List.replicate, List.cons_append, List.nil_append, List.append_nil, Option.bind_some, Option.map_some, List.getElem?_cons_zero, List.getElem?_cons_succ, List.set_cons_zero, List.set_cons_succ, if_true, if_false, Nat.reduceSub, Nat.reduceAdd, decide_true, decide_false, Bool.not_true, Bool.not_false, reduceIte, Bool.false_eq_true, eq_self, ne_eq, not_true, not_false_iff, Bool.and_true, Bool.true_and, Int.reduceEq, Int.reduceLT, Int.reduceLE, Int.reduceNe, Int.reduceAdd, Int.reduceSub, Int.reduceMul, Int.reduceNeg, String.reduceEq, Nat.reduceLT, Nat.reduceLeDiff, Nat.reduceEqDiff, ofS_inj, ofS_ok, op_v, op_1, op_1x, op_2, op_2x, o1_v, o1_1, cons_1, cons_1x, cons_2, cons_2x, fn_v, fn_1, fn_1x, not_1, and_t, and_f, or_t, or_f, ite_t, ite_f, tupQ_1, lstQ_1, lstRQ_1, call_1, call_1x, callI_1, callI_1x, set_1, set_1x, expr_1, expr_1x, ret_1, ret_1x, ifs_t, ifs_f, ifs_x, par_1, par_1x, asg_1, asg_1x, sto_a, sto_b, sto_c, ds_v, tk_v, for_1, for_1x, e1, e5', e7, o_eqI, h0, h1, h2, hl, Row.d], b1.trans b5', trivial, rfl⟩
theorem row_ok : ∀ (F : Nat) {g : GH} {k : Nat} (_ : BoxAt g k) (room deep load : Int), 1 ≤ room → room < F → room ≤ 1000 → 0 ≤ load → load ≤ 1000 → ∃ (r : Row) (g1 : GH), d_Lrow F [.r k, .v (.int room), .v (.int deep), .v (.int load)] g = .ok (.v r.d) g1 ∧ Bx k g g1 ∧ r.good ∧ (r.size : Int) ≤ room := by
  intro F
  induction F with
  | zero => intro g k h room deep load h1 h2; omega
  | succ F ih =>
    intro g k h room deep load r1 r2 r3 l1 l2
    obtain ⟨f, g1, f0, f1, e1, b1⟩ := take_ok h 10 (by decide) (by decide)
    obtain ⟨lf, g2, e2, b2, q2, s2⟩ := leaf_ok b1.at_ load
    unfold d_Lrow b_Lrow
    rw [runI_eq]
    by_cases hroom : room < 2
    · exact ⟨lf, g2, by simp only [r_bind, r_bindX, r_bindA, r_bindAX, a_bind, a_bindX, a_bindA, a_bindAX, r_toS, r_toSX, a_toS, a_toSX, i_toS, i_toSX, s_nx, s_rt, s_bk, s_ct, s_exc, onB_bl, onBS_bl, ofO_some, asD_v, asDs_nil, asDs_cons, take1_v, takes_nil, takes_v, e_c, e_op, e_op1, e_nil, e_cons, e_fn, e_not, e_and, e_or, e_if, e_tup, e_lst, e_lstR, tup0, tup1, tup2, tup3, tup4, tup5, tup6, tup7, lst0, lst1, lst2, lst3, lst4, lst5, lst6, lsR0, lsR1, lsR2, lsR3, e_call, call1, call2, call3, call4, call5, e_callI, ofR_ok, ofR_exc, q_seq, q_nil, q_set, q_expr, q_ret, q_retN, q_if, q_par, par2, q_asg, g_n, g_tup, g_lst, g_nil, g_cons, q_store, o_add, o_sub, o_neg, o_lt, o_le, o_gt, o_ge, o_ixT, o_ixL, o_ixS, o_lenT, o_lenL, o_lenS, o_abs, o_max, o_min, o_intI, o_intB, atI_0, atI_1, atI_2, atI_3, atI_4, atI_5, atI_6, set_n, set_get, set_set, new_n, new_get, mV, List.map_cons, List.map_nil, List.length_cons, List.length_nil, List.replicate, List.cons_append, List.nil_append, List.append_nil, Option.bind_some, Option.map_some, List.getElem?_cons_zero, List.getElem?_cons_succ, List.set_cons_zero, List.set_cons_succ, if_true, if_false, Nat.reduceSub, Nat.reduceAdd, decide_true, decide_false, Bool.not_true, Bool.not_false, reduceIte, Bool.false_eq_true, eq_self, ne_eq, not_true, not_false_iff, Bool.and_true, Bool.true_and, Int.reduceEq, Int.reduceLT, Int.reduceLE, Int.reduceNe, Int.reduceAdd, Int.reduceSub, Int.reduceMul, Int.reduceNeg, String.reduceEq, Nat.reduceLT, Nat.reduceLeDiff, Nat.reduceEqDiff, ofS_inj, ofS_ok, op_v, op_1, op_1x, op_2, op_2x, o1_v, o1_1, cons_1, cons_1x, cons_2, cons_2x, fn_v, fn_1, fn_1x, not_1, and_t, and_f, or_t, or_f, ite_t, ite_f, tupQ_1, lstQ_1, lstRQ_1, call_1, call_1x, callI_1, callI_1x, set_1, set_1x, expr_1, expr_1x, ret_1, ret_1x, ifs_t, ifs_f, ifs_x, par_1, par_1x, asg_1, asg_1x, sto_a, sto_b, sto_c, ds_v, tk_v, for_1, for_1x, e1, e2, hroom], b1.trans b2, q2, by omega⟩
    by_cases hf0 : f = 0
    · exact ⟨lf, g2, by simp only [r_bind, r_bindX, r_bindA, r_bindAX, a_bind, a_bindX, a_bindA, a_bindAX, r_toS, r_toSX, a_toS, a_toSX, i_toS, i_toSX, s_nx, s_rt, s_bk, s_ct, s_exc, onB_bl, onBS_bl, ofO_some, asD_v, asDs_nil, asDs_cons, take1_v, takes_nil, takes_v, e_c, e_op, e_op1, e_nil, e_cons, e_fn, e_not, e_and, e_or, e_if, e_tup, e_lst, e_lstR, tup0, tup1, tup2, tup3, tup4, tup5, tup6, tup7, lst0, lst1, lst2, lst3, lst4, lst5, lst6, lsR0, lsR1, lsR2, lsR3, e_call, call1, call2, call3, call4, call5, e_callI, ofR_ok, ofR_exc, q_seq, q_nil, q_set, q_expr, q_ret, q_retN, q_if, q_par, par2, q_asg, g_n, g_tup, g_lst, g_nil, g_cons, q_store, o_add, o_sub, o_neg, o_lt, o_le, o_gt, o_ge, o_ixT, o_ixL, o_ixS, o_lenT, o_lenL, o_lenS, o_abs, o_max, o_min, o_intI, o_intB, atI_0, atI_1, atI_2, atI_3, atI_4, atI_5, atI_6, set_n, set_get, set_set, new_n, new_get, mV, List.map_cons, List.map_nil, List.length_cons, List.length_nil, List.replicate, List.cons_append, List.nil_append, List.append_nil, Option.bind_some, Option.map_some, List.getElem?_cons_zero, List.getElem?_cons_succ, List.set_cons_zero, List.set_cons_succ, if_true, if_false, Nat.reduceSub, Nat.reduceAdd, decide_true, decide_false, Bool.not_true, Bool.not_false, reduceIte, Bool.false_eq_true, eq_self, ne_eq, not_true, not_false_iff, Bool.and_true, Bool.true_and, Int.reduceEq, Int.reduceLT, Int.reduceLE, Int.reduceNe, Int.reduceAdd, Int.reduceSub, Int.reduceMul, Int.reduceNeg, String.reduceEq, Nat.reduceLT, Nat.reduceLeDiff, Nat.reduceEqDiff, ofS_inj, ofS_ok, op_v, op_1, op_1x, op_2, op_2x, o1_v, o1_1, cons_1, cons_1x, cons_2, cons_2x, fn_v, fn_1, fn_1x, not_1, and_t, and_f, or_t, or_f, ite_t, ite_f, tupQ_1, lstQ_1, lstRQ_1, call_1, call_1x, callI_1, callI_1x, set_1, set_1x, expr_1, expr_1x, ret_1, ret_1x, ifs_t, ifs_f, ifs_x, par_1, par_1x, asg_1, asg_1x, sto_a, sto_b, sto_c, ds_v, tk_v, for_1, for_1x, e1, e2, hroom, hf0, o_eqI], b1.trans b2, q2, by omega⟩
    have c1 : (f < 4 ∧ 0 < load) ∨ ¬ (f < 4 ∧ 0 < load) := Classical.em _
    rcases c1 with ⟨c1, c1'⟩ | c1
    · obtain ⟨p, q, g3, e3, b3, hl⟩ := line_ok b1.at_
      obtain ⟨x, g4, e4, b4, q4, s4⟩ := ih b3.at_ (room - 1) deep (load - 1) (by omega) (by omega) (by omega) (by omega) (by omega)
      refine ⟨.over x p q, g4, ?_, (b1.trans b3).trans b4, ⟨q4, hl⟩, by simp only [Row.size]; omega⟩
      have ea : asgR (gT (gsCons (gN 5) (gsCons (gN 6) gsNil))) [some (LV.r k), some (.v (.int room)), some (.v (.int deep)), some (.v (.int load)), some (.v (.int f)), none, none, none, none, none] (.v (.tup [.int p, .int q])) g3
          = .nx [some (LV.r k), some (.v (.int room)), some (.v (.int deep)), some (.v (.int load)), some (.v (.int f)), some (.v (.int p)), some (.v (.int q)), none, none, none] g3 := asg_v rfl
      simp only [r_bind, r_bindX, r_bindA, r_bindAX, a_bind, a_bindX, a_bindA, a_bindAX, r_toS, r_toSX, a_toS, a_toSX, i_toS, i_toSX, s_nx, s_rt, s_bk, s_ct, s_exc, onB_bl, onBS_bl, ofO_some, asD_v, asDs_nil, asDs_cons, take1_v, takes_nil, takes_v, e_c, e_op, e_op1, e_nil, e_cons, e_fn, e_not, e_and, e_or, e_if, e_tup, e_lst, e_lstR, tup0, tup1, tup2, tup3, tup4, tup5, tup6, tup7, lst0, lst1, lst2, lst3, lst4, lst5, lst6, lsR0, lsR1, lsR2, lsR3, e_call, call1, call2, call3, call4, call5, e_callI, ofR_ok, ofR_exc, q_seq, q_nil, q_set, q_expr, q_ret, q_retN, q_if, q_par, par2, q_asg, g_n, g_tup, g_lst, g_nil, g_cons, q_store, o_add, o_sub, o_neg, o_lt, o_le, o_gt, o_ge, o_ixT, o_ixL, o_ixS, o_lenT, o_lenL, o_lenS, o_abs, o_max, o_min, o_intI, o_intB, atI_0, atI_1, atI_2, atI_3, atI_4, atI_5, atI_6, set_n, set_get, set_set, new_n, new_get, mV, List.map_cons, List.map_nil, List.length_cons, List.length_nil, List.replicate, List.cons_append, List.nil_append, List.append_nil, Option.bind_some, Option.map_some, List.getElem?_cons_zero, List.getElem?_cons_succ, List.set_cons_zero, List.set_cons_succ, if_true, if_false, Nat.reduceSub, Nat.reduceAdd, decide_true, decide_false, Bool.not_true, Bool.not_false, reduceIte, Bool.false_eq_true, eq_self, ne_eq, not_true, not_false_iff, Bool.and_true, Bool.true_and, Int.reduceEq, Int.reduceLT, Int.reduceLE, Int.reduceNe, Int.reduceAdd, Int.reduceSub, Int.reduceMul, Int.reduceNeg, String.reduceEq, Nat.reduceLT, Nat.reduceLeDiff, Nat.reduceEqDiff, ofS_inj, ofS_ok, op_v, op_1, op_1x, op_2, op_2x, o1_v, o1_1, cons_1, cons_1x, cons_2, cons_2x, fn_v, fn_1, fn_1x, not_1, and_t, and_f, or_t, or_f, ite_t, ite_f, tupQ_1, lstQ_1, lstRQ_1, call_1, call_1x, callI_1, callI_1x, set_1, set_1x, expr_1, expr_1x, ret_1, ret_1x, ifs_t, ifs_f, ifs_x, par_1, par_1x, asg_1, asg_1x, sto_a, sto_b, sto_c, ds_v, tk_v, for_1, for_1x, e1, e3, e4, hroom, hf0, o_eqI, c1, c1', ea, Row.d]
    have C1 : mAnd (mOp oLt (mV 4) (mC (.int 4))) (mOp oGt (mV 3) (mC (.int 0))) [some (LV.r k), some (.v (.int room)), some (.v (.int deep)), some (.v (.int load)), some (.v (.int f)), none, none, none, none, none] g1 = Res.ok (LV.v (D.bl false)) g1 := by
      by_cases hf : f < 4
      · have : ¬ 0 < load := fun z => c1 ⟨hf, z⟩
        simp only [r_bind, r_bindX, r_bindA, r_bindAX, a_bind, a_bindX, a_bindA, a_bindAX, r_toS, r_toSX, a_toS, a_toSX, i_toS, i_toSX, s_nx, s_rt, s_bk, s_ct, s_exc, onB_bl, onBS_bl, ofO_some, asD_v, asDs_nil, asDs_cons, take1_v, takes_nil, takes_v, e_c, e_op, e_op1, e_nil, e_cons, e_fn, e_not, e_and, e_or, e_if, e_tup, e_lst, e_lstR, tup0, tup1, tup2, tup3, tup4, tup5, tup6, tup7, lst0, lst1, lst2, lst3, lst4, lst5, lst6, lsR0, lsR1, lsR2, lsR3, e_call, call1, call2, call3, call4, call5, e_callI, ofR_ok, ofR_exc, q_seq, q_nil, q_set, q_expr, q_ret, q_retN, q_if, q_par, par2, q_asg, g_n, g_tup, g_lst, g_nil, g_cons, q_store, o_add, o_sub, o_neg, o_lt, o_le, o_gt, o_ge, o_ixT, o_ixL, o_ixS, o_lenT, o_lenL, o_lenS, o_abs, o_max, o_min, o_intI, o_intB, atI_0, atI_1, atI_2, atI_3, atI_4, atI_5, atI_6, set_n, set_get, set_set, new_n, new_get, mV, List.map_cons, List.map_nil, List.length_cons, List.length_nil, List.replicate, List.cons_append, List.nil_append, List.append_nil, Option.bind_some, Option.map_some, List.getElem?_cons_zero, List.getElem?_cons_succ, List.set_cons_zero, List.set_cons_succ, if_true, if_false, Nat.reduceSub, Nat.reduceAdd, decide_true, decide_false, Bool.not_true, Bool.not_false, reduceIte, Bool.false_eq_true, eq_self, ne_eq, not_true, not_false_iff, Bool.and_true, Bool.true_and, Int.reduceEq, Int.reduceLT, Int.reduceLE, Int.reduceNe, Int.reduceAdd, Int.reduceSub, Int.reduceMul, Int.reduceNeg, String.reduceEq, Nat.reduceLT, Nat.reduceLeDiff, Nat.reduceEqDiff, ofS_inj, ofS_ok, op_v, op_1, op_1x, op_2, op_2x, o1_v, o1_1, cons_1, cons_1x, cons_2, cons_2x, fn_v, fn_1, fn_1x, not_1, and_t, and_f, or_t, or_f, ite_t, ite_f, tupQ_1, lstQ_1, lstRQ_1, call_1, call_1x, callI_1, callI_1x, set_1, set_1x, expr_1, expr_1x, ret_1, ret_1x, ifs_t, ifs_f, ifs_x, par_1, par_1x, asg_1, asg_1x, sto_a, sto_b, sto_c, ds_v, tk_v, for_1, for_1x, hf, this]
      · simp only [r_bind, r_bindX, r_bindA, r_bindAX, a_bind, a_bindX, a_bindA, a_bindAX, r_toS, r_toSX, a_toS, a_toSX, i_toS, i_toSX, s_nx, s_rt, s_bk, s_ct, s_exc, onB_bl, onBS_bl, ofO_some, asD_v, asDs_nil, asDs_cons, take1_v, takes_nil, takes_v, e_c, e_op, e_op1, e_nil, e_cons, e_fn, e_not, e_and, e_or, e_if, e_tup, e_lst, e_lstR, tup0, tup1, tup2, tup3, tup4, tup5, tup6, tup7, lst0, lst1, lst2, lst3, lst4, lst5, lst6, lsR0, lsR1, lsR2, lsR3, e_call, call1, call2, call3, call4, call5, e_callI, ofR_ok, ofR_exc, q_seq, q_nil, q_set, q_expr, q_ret, q_retN, q_if, q_par, par2, q_asg, g_n, g_tup, g_lst, g_nil, g_cons, q_store, o_add, o_sub, o_neg, o_lt, o_le, o_gt, o_ge, o_ixT, o_ixL, o_ixS, o_lenT, o_lenL, o_lenS, o_abs, o_max, o_min, o_intI, o_intB, atI_0, atI_1, atI_2, atI_3, atI_4, atI_5, atI_6, set_n, set_get, set_set, new_n, new_get, mV, List.map_cons, List.map_nil, List.length_cons, List.length_nil, List.replicate, List.cons_append, List.nil_append, List.append_nil, Option.bind_some, Option.map_some, List.getElem?_cons_zero, List.getElem?_cons_succ, List.set_cons_zero, List.set_cons_succ, if_true, if_false, Nat.reduceSub, Nat.reduceAdd, decide_true, decide_false, Bool.not_true, Bool.not_false, reduceIte, Bool.false_eq_true, eq_self, ne_eq, not_true, not_false_iff, Bool.and_true, Bool.true_and, Int.reduceEq, Int.reduceLT, Int.reduceLE, Int.reduceNe, Int.reduceAdd, Int.reduceSub, Int.reduceMul, Int.reduceNeg, String.reduceEq, Nat.reduceLT, Nat.reduceLeDiff, Nat.reduceEqDiff, ofS_inj, ofS_ok, op_v, op_1, op_1x, op_2, op_2x, o1_v, o1_1, cons_1, cons_1x, cons_2, cons_2x, fn_v, fn_1, fn_1x, not_1, and_t, and_f, or_t, or_f, ite_t, ite_f, tupQ_1, lstQ_1, lstRQ_1, call_1, call_1x, callI_1, callI_1x, set_1, set_1x, expr_1, expr_1x, ret_1, ret_1x, ifs_t, ifs_f, ifs_x, par_1, par_1x, asg_1, asg_1x, sto_a, sto_b, sto_c, ds_v, tk_v, for_1, for_1x, hf]
    have c2 : (f < 7 ∧ 0 < load ∧ 0 < deep) ∨ ¬ (f < 7 ∧ 0 < load ∧ 0 < deep) := Classical.em _
    rcases c2 with ⟨c2, c2', c2''⟩ | c2
    · obtain ⟨x, g4, e4, b4, q4, s4⟩ := ih b1.at_ (room - 1) (deep - 1) (load - 1) (by omega) (by omega) (by omega) (by omega) (by omega)
      refine ⟨.heap x, g4, ?_, b1.trans b4, q4, by simp only [Row.size]; omega⟩
      have hf4 : ¬ f < 4 := fun z => c1 ⟨z, c2'⟩
      simp only [r_bind, r_bindX, r_bindA, r_bindAX, a_bind, a_bindX, a_bindA, a_bindAX, r_toS, r_toSX, a_toS, a_toSX, i_toS, i_toSX, s_nx, s_rt, s_bk, s_ct, s_exc, onB_bl, onBS_bl, ofO_some, asD_v, asDs_nil, asDs_cons, take1_v, takes_nil, takes_v, e_c, e_op, e_op1, e_nil, e_cons, e_fn, e_not, e_and, e_or, e_if, e_tup, e_lst, e_lstR, tup0, tup1, tup2, tup3, tup4, tup5, tup6, tup7, lst0, lst1, lst2, lst3, lst4, lst5, lst6, lsR0, lsR1, lsR2, lsR3, e_call, call1, call2, call3, call4, call5, e_callI, ofR_ok, ofR_exc, q_seq, q_nil, q_set, q_expr, q_ret, q_retN, q_if, q_par, par2, q_asg, g_n, g_tup, g_lst, g_nil, g_cons, q_store, o_add, o_sub, o_neg, o_lt, o_le, o_gt, o_ge, o_ixT, o_ixL, o_ixS, o_lenT, o_lenL, o_lenS, o_abs, o_max, o_min, o_intI, o_intB, atI_0, atI_1, atI_2, atI_3, atI_4, atI_5, atI_6, set_n, set_get, set_set, new_n, new_get, mV, List.map_cons, List.map_nil, List.length_cons, List.length_nil, List.replicate, List.cons_append, List.nil_append, List.append_nil, Option.bind_some, Option.map_some, List.getElem?_cons_zero, List.getElem?_cons_succ, List.set_cons_zero, List.set_cons_succ, if_true, if_false, Nat.reduceSub, Nat.reduceAdd, decide_true, decide_false, Bool.not_true, Bool.not_false, reduceIte, Bool.false_eq_true, eq_self, ne_eq, not_true, not_false_iff, Bool.and_true, Bool.true_and, Int.reduceEq, Int.reduceLT, Int.reduceLE, Int.reduceNe, Int.reduceAdd, Int.reduceSub, Int.reduceMul, Int.reduceNeg, String.reduceEq, Nat.reduceLT, Nat.reduceLeDiff, Nat.reduceEqDiff, ofS_inj, ofS_ok, op_v, op_1, op_1x, op_2, op_2x, o1_v, o1_1, cons_1, cons_1x, cons_2, cons_2x, fn_v, fn_1, fn_1x, not_1, and_t, and_f, or_t, or_f, ite_t, ite_f, tupQ_1, lstQ_1, lstRQ_1, call_1, call_1x, callI_1, callI_1x, set_1, set_1x, expr_1, expr_1x, ret_1, ret_1x, ifs_t, ifs_f, ifs_x, par_1, par_1x, asg_1, asg_1x, sto_a, sto_b, sto_c, ds_v, tk_v, for_1, for_1x, e1, e4, hroom, hf0, o_eqI, hf4, c2, c2', c2'', Row.d]
    have C2 : mAnd (mOp oLt (mV 4) (mC (.int 7))) (mAnd (mOp oGt (mV 3) (mC (.int 0))) (mOp oGt (mV 2) (mC (.int 0)))) [some (LV.r k), some (.v (.int room)), some (.v (.int deep)), some (.v (.int load)), some (.v (.int f)), none, none, none, none, none] g1 = Res.ok (LV.v (D.bl false)) g1 := by
      by_cases hf : f < 7
      · by_cases hl : 0 < load
        · have : ¬ 0 < deep := fun z => c2 ⟨hf, hl, z⟩
          simp only [r_bind, r_bindX, r_bindA, r_bindAX, a_bind, a_bindX, a_bindA, a_bindAX, r_toS, r_toSX, a_toS, a_toSX, i_toS, i_toSX, s_nx, s_rt, s_bk, s_ct, s_exc, onB_bl, onBS_bl, ofO_some, asD_v, asDs_nil, asDs_cons, take1_v, takes_nil, takes_v, e_c, e_op, e_op1, e_nil, e_cons, e_fn, e_not, e_and, e_or, e_if, e_tup, e_lst, e_lstR, tup0, tup1, tup2, tup3, tup4, tup5, tup6, tup7, lst0, lst1, lst2, lst3, lst4, lst5, lst6, lsR0, lsR1, lsR2, lsR3, e_call, call1, call2, call3, call4, call5, e_callI, ofR_ok, ofR_exc, q_seq, q_nil, q_set, q_expr, q_ret, q_retN, q_if, q_par, par2, q_asg, g_n, g_tup, g_lst, g_nil, g_cons, q_store, o_add, o_sub, o_neg, o_lt, o_le, o_gt, o_ge, o_ixT, o_ixL, o_ixS, o_lenT, o_lenL, o_lenS, o_abs, o_max, o_min, o_intI, o_intB, atI_0, atI_1, atI_2, atI_3, atI_4, atI_5, atI_6, set_n, set_get, set_set, new_n, new_get, mV, List.map_cons, List.map_nil, List.length_cons, List.length_nil, List.replicate, List.cons_append, List.nil_append, List.append_nil, Option.bind_some, Option.map_some, List.getElem?_cons_zero, List.getElem?_cons_succ, List.set_cons_zero, List.set_cons_succ, if_true, if_false, Nat.reduceSub, Nat.reduceAdd, decide_true, decide_false, Bool.not_true, Bool.not_false, reduceIte, Bool.false_eq_true, eq_self, ne_eq, not_true, not_false_iff, Bool.and_true, Bool.true_and, Int.reduceEq, Int.reduceLT, Int.reduceLE, Int.reduceNe, Int.reduceAdd, Int.reduceSub, Int.reduceMul, Int.reduceNeg, String.reduceEq, Nat.reduceLT, Nat.reduceLeDiff, Nat.reduceEqDiff, ofS_inj, ofS_ok, op_v, op_1, op_1x, op_2, op_2x, o1_v, o1_1, cons_1, cons_1x, cons_2, cons_2x, fn_v, fn_1, fn_1x, not_1, and_t, and_f, or_t, or_f, ite_t, ite_f, tupQ_1, lstQ_1, lstRQ_1, call_1, call_1x, callI_1, callI_1x, set_1, set_1x, expr_1, expr_1x, ret_1, ret_1x, ifs_t, ifs_f, ifs_x, par_1, par_1x, asg_1, asg_1x, sto_a, sto_b, sto_c, ds_v, tk_v, for_1, for_1x, hf, hl, this]
        · simp only [r_bind, r_bindX, r_bindA, r_bindAX, a_bind, a_bindX, a_bindA, a_bindAX, r_toS, r_toSX, a_toS, a_toSX, i_toS, i_toSX, s_nx, s_rt, s_bk, s_ct, s_exc, onB_bl, onBS_bl, ofO_some, asD_v, asDs_nil, asDs_cons, take1_v, takes_nil, takes_v, e_c, e_op, e_op1, e_nil, e_cons, e_fn, e_not, e_and, e_or, e_if, e_tup, e_lst, e_lstR, tup0, tup1, tup2, tup3, tup4, tup5, tup6, tup7, lst0, lst1, lst2, lst3, lst4, lst5, lst6, lsR0, lsR1, lsR2, lsR3, e_call, call1, call2, call3, call4, call5, e_callI, ofR_ok, ofR_exc, q_seq, q_nil, q_set, q_expr, q_ret, q_retN, q_if, q_par, par2, q_asg, g_n, g_tup, g_lst, g_nil, g_cons, q_store, o_add, o_sub, o_neg, o_lt, o_le, o_gt, o_ge, o_ixT, o_ixL, o_ixS, o_lenT, o_lenL, o_lenS, o_abs, o_max, o_min, o_intI, o_intB, atI_0, atI_1, atI_2, atI_3, atI_4, atI_5, atI_6, set_n, set_get, set_set, new_n, new_get, mV, List.map_cons, List.map_nil, List.length_cons, List.length_nil, List.replicate, List.cons_append, List.nil_append, List.append_nil, Option.bind_some, Option.map_some, List.getElem?_cons_zero, List.getElem?_cons_succ, List.set_cons_zero, List.set_cons_succ, if_true, if_false, Nat.reduceSub, Nat.reduceAdd, decide_true, decide_false, Bool.not_true, Bool.not_false, reduceIte, Bool.false_eq_true, eq_self, ne_eq, not_true, not_false_iff, Bool.and_true, Bool.true_and, Int.reduceEq, Int.reduceLT, Int.reduceLE, Int.reduceNe, Int.reduceAdd, Int.reduceSub, Int.reduceMul, Int.reduceNeg, String.reduceEq, Nat.reduceLT, Nat.reduceLeDiff, Nat.reduceEqDiff, ofS_inj, ofS_ok, op_v, op_1, op_1x, op_2, op_2x, o1_v, o1_1, cons_1, cons_1x, cons_2, cons_2x, fn_v, fn_1, fn_1x, not_1, and_t, and_f, or_t, or_f, ite_t, ite_f, tupQ_1, lstQ_1, lstRQ_1, call_1, call_1x, callI_1, callI_1x, set_1, set_1x, expr_1, expr_1x, ret_1, ret_1x, ifs_t, ifs_f, ifs_x, par_1, par_1x, asg_1, asg_1x, sto_a, sto_b, sto_c, ds_v, tk_v, for_1, for_1x, hf, hl]
      · simp only [r_bind, r_bindX, r_bindA, r_bindAX, a_bind, a_bindX, a_bindA, a_bindAX, r_toS, r_toSX, a_toS, a_toSX, i_toS, i_toSX, s_nx, s_rt, s_bk, s_ct, s_exc, onB_bl, onBS_bl, ofO_some, asD_v, asDs_nil, asDs_cons, take1_v, takes_nil, takes_v, e_c, e_op, e_op1, e_nil, e_cons, e_fn, e_not, e_and, e_or, e_if, e_tup, e_lst, e_lstR, tup0, tup1, tup2, tup3, tup4, tup5, tup6, tup7, lst0, lst1, lst2, lst3, lst4, lst5, lst6, lsR0, lsR1, lsR2, lsR3, e_call, call1, call2, call3, call4, call5, e_callI, ofR_ok, ofR_exc, q_seq, q_nil, q_set, q_expr, q_ret, q_retN, q_if, q_par, par2, q_asg, g_n, g_tup, g_lst, g_nil, g_cons, q_store, o_add, o_sub, o_neg, o_lt, o_le, o_gt, o_ge, o_ixT, o_ixL, o_ixS, o_lenT, o_lenL, o_lenS, o_abs, o_max, o_min, o_intI, o_intB, atI_0, atI_1, atI_2, atI_3, atI_4, atI_5, atI_6, set_n, set_get, set_set, new_n, new_get, mV, List.map_cons, List.map_nil, List.length_cons, List.length_nil, List.replicate, List.cons_append, List.nil_append, List.append_nil, Option.bind_some, Option.map_some, List.getElem?_cons_zero, List.getElem?_cons_succ, List.set_cons_zero, List.set_cons_succ, if_true, if_false, Nat.reduceSub, Nat.reduceAdd, decide_true, decide_false, Bool.not_true, Bool.not_false, reduceIte, Bool.false_eq_true, eq_self, ne_eq, not_true, not_false_iff, Bool.and_true, Bool.true_and, Int.reduceEq, Int.reduceLT, Int.reduceLE, Int.reduceNe, Int.reduceAdd, Int.reduceSub, Int.reduceMul, Int.reduceNeg, String.reduceEq, Nat.reduceLT, Nat.reduceLeDiff, Nat.reduceEqDiff, ofS_inj, ofS_ok, op_v, op_1, op_1x, op_2, op_2x, o1_v, o1_1, cons_1, cons_1x, cons_2, cons_2x, fn_v, fn_1, fn_1x, not_1, and_t, and_f, or_t, or_f, ite_t, ite_f, tupQ_1, lstQ_1, lstRQ_1, call_1, call_1x, callI_1, callI_1x, set_1, set_1x, expr_1, expr_1x, ret_1, ret_1x, ifs_t, ifs_f, ifs_x, par_1, par_1x, asg_1, asg_1x, sto_a, sto_b, sto_c, ds_v, tk_v, for_1, for_1x, hf]
    by_cases hf7 : f = 7
    · subst hf7
      obtain ⟨x, g4, e4, b4, q4, s4⟩ := ih b1.at_ (room - 1) deep load (by omega) (by omega) (by omega) (by omega) (by omega)
      refine ⟨.on x, g4, ?_, b1.trans b4, q4, by simp only [Row.size]; omega⟩
      simp only [r_bind, r_bindX, r_bindA, r_bindAX, a_bind, a_bindX, a_bindA, a_bindAX, r_toS, r_toSX, a_toS, a_toSX, i_toS, i_toSX, s_nx, s_rt, s_bk, s_ct, s_exc, onB_bl, onBS_bl, ofO_some, asD_v, asDs_nil, asDs_cons, take1_v, takes_nil, takes_v, e_c, e_op, e_op1, e_nil, e_cons, e_fn, e_not, e_or, e_if, e_tup, e_lst, e_lstR, tup0, tup1, tup2, tup3, tup4, tup5, tup6, tup7, lst0, lst1, lst2, lst3, lst4, lst5, lst6, lsR0, lsR1, lsR2, lsR3, e_call, call1, call2, call3, call4, call5, e_callI, ofR_ok, ofR_exc, q_seq, q_nil, q_set, q_expr, q_ret, q_retN, q_if, q_par, par2, q_asg, g_n, g_tup, g_lst, g_nil, g_cons, q_store, o_add, o_sub, o_neg, o_lt, o_le, o_gt, o_ge, o_ixT, o_ixL, o_ixS, o_lenT, o_lenL, o_lenS, o_abs, o_max, o_min, o_intI, o_intB, atI_0, atI_1, atI_2, atI_3, atI_4, atI_5, atI_6, set_n, set_get, set_set, new_n, new_get, mV, List.map_cons, List.map_nil, List.length_cons, List.length_nil, List.replicate, List.cons_append, List.nil_append, List.append_nil, Option.bind_some, Option.map_some, List.getElem?_cons_zero, List.getElem?_cons_succ, List.set_cons_zero, List.set_cons_succ, if_true, if_false, Nat.reduceSub, Nat.reduceAdd, decide_true, decide_false, Bool.not_true, Bool.not_false, reduceIte, Bool.false_eq_true, eq_self, ne_eq, not_true, not_false_iff, Bool.and_true, Bool.true_and, Int.reduceEq, Int.reduceLT, Int.reduceLE, Int.reduceNe, Int.reduceAdd, Int.reduceSub, Int.reduceMul, Int.reduceNeg, String.reduceEq, Nat.reduceLT, Nat.reduceLeDiff, Nat.reduceEqDiff, ofS_inj, ofS_ok, op_v, op_1, op_1x, op_2, op_2x, o1_v, o1_1, cons_1, cons_1x, cons_2, cons_2x, fn_v, fn_1, fn_1x, not_1, and_t, and_f, or_t, or_f, ite_t, ite_f, tupQ_1, lstQ_1, lstRQ_1, call_1, call_1x, callI_1, callI_1x, set_1, set_1x, expr_1, expr_1x, ret_1, ret_1x, ifs_t, ifs_f, ifs_x, par_1, par_1x, asg_1, asg_1x, sto_a, sto_b, sto_c, ds_v, tk_v, for_1, for_1x, e1, e4, hroom, o_eqI, C1, C2, Row.d]
    by_cases hr3 : room < 3
    · exact ⟨lf, g2, by simp only [r_bind, r_bindX, r_bindA, r_bindAX, a_bind, a_bindX, a_bindA, a_bindAX, r_toS, r_toSX, a_toS, a_toSX, i_toS, i_toSX, s_nx, s_rt, s_bk, s_ct, s_exc, onB_bl, onBS_bl, ofO_some, asD_v, asDs_nil, asDs_cons, take1_v, takes_nil, takes_v, e_c, e_op, e_op1, e_nil, e_cons, e_fn, e_not, e_or, e_if, e_tup, e_lst, e_lstR, tup0, tup1, tup2, tup3, tup4, tup5, tup6, tup7, lst0, lst1, lst2, lst3, lst4, lst5, lst6, lsR0, lsR1, lsR2, lsR3, e_call, call1, call2, call3, call4, call5, e_callI, ofR_ok, ofR_exc, q_seq, q_nil, q_set, q_expr, q_ret, q_retN, q_if, q_par, par2, q_asg, g_n, g_tup, g_lst, g_nil, g_cons, q_store, o_add, o_sub, o_neg, o_lt, o_le, o_gt, o_ge, o_ixT, o_ixL, o_ixS, o_lenT, o_lenL, o_lenS, o_abs, o_max, o_min, o_intI, o_intB, atI_0, atI_1, atI_2, atI_3, atI_4, atI_5, atI_6, set_n, set_get, set_set, new_n, new_get, mV, List.map_cons, List.map_nil, List.length_cons, List.length_nil, List.replicate, List.cons_append, List.nil_append, List.append_nil, Option.bind_some, Option.map_some, List.getElem?_cons_zero, List.getElem?_cons_succ, List.set_cons_zero, List.set_cons_succ, if_true, if_false, Nat.reduceSub, Nat.reduceAdd, decide_true, decide_false, Bool.not_true, Bool.not_false, reduceIte, Bool.false_eq_true, eq_self, ne_eq, not_true, not_false_iff, Bool.and_true, Bool.true_and, Int.reduceEq, Int.reduceLT, Int.reduceLE, Int.reduceNe, Int.reduceAdd, Int.reduceSub, Int.reduceMul, Int.reduceNeg, String.reduceEq, Nat.reduceLT, Nat.reduceLeDiff, Nat.reduceEqDiff, ofS_inj, ofS_ok, op_v, op_1, op_1x, op_2, op_2x, o1_v, o1_1, cons_1, cons_1x, cons_2, cons_2x, fn_v, fn_1, fn_1x, not_1, and_t, and_f, or_t, or_f, ite_t, ite_f, tupQ_1, lstQ_1, lstRQ_1, call_1, call_1x, callI_1, callI_1x, set_1, set_1x, expr_1, expr_1x, ret_1, ret_1x, ifs_t, ifs_f, ifs_x, par_1, par_1x, asg_1, asg_1x, sto_a, sto_b, sto_c, ds_v, tk_v, for_1, for_1x, e1, e2, hroom, hf0, o_eqI, C1, C2, hf7, hr3], b1.trans b2, q2, by omega⟩
    obtain ⟨y, g3, y0, y1, e3, b3⟩ := take_ok b1.at_ (room - 2) (by omega) (by omega)
    by_cases hf8 : f = 8
    · subst hf8
      obtain ⟨z, g4, z0, z1, e4, b4⟩ := take_ok b3.at_ (load + 1) (by omega) (by omega)
      obtain ⟨u, g5, e5, b5, q5, s5⟩ := ih b4.at_ (1 + y) deep z (by omega) (by omega) (by omega) (by omega) (by omega)
      obtain ⟨v, g6, e6, b6, q6, s6⟩ := ih b5.at_ (room - 1 - (1 + y)) deep (load - z) (by omega) (by omega) (by omega) (by omega) (by omega)
      refine ⟨.times u v, g6, ?_, (((b1.trans b3).trans b4).trans b5).trans b6, ⟨q5, q6⟩, by simp only [Row.size]; omega⟩
      simp only [r_bind, r_bindX, r_bindA, r_bindAX, a_bind, a_bindX, a_bindA, a_bindAX, r_toS, r_toSX, a_toS, a_toSX, i_toS, i_toSX, s_nx, s_rt, s_bk, s_ct, s_exc, onB_bl, onBS_bl, ofO_some, asD_v, asDs_nil, asDs_cons, take1_v, takes_nil, takes_v, e_c, e_op, e_op1, e_nil, e_cons, e_fn, e_not, e_or, e_if, e_tup, e_lst, e_lstR, tup0, tup1, tup2, tup3, tup4, tup5, tup6, tup7, lst0, lst1, lst2, lst3, lst4, lst5, lst6, lsR0, lsR1, lsR2, lsR3, e_call, call1, call2, call3, call4, call5, e_callI, ofR_ok, ofR_exc, q_seq, q_nil, q_set, q_expr, q_ret, q_retN, q_if, q_par, par2, q_asg, g_n, g_tup, g_lst, g_nil, g_cons, q_store, o_add, o_sub, o_neg, o_lt, o_le, o_gt, o_ge, o_ixT, o_ixL, o_ixS, o_lenT, o_lenL, o_lenS, o_abs, o_max, o_min, o_intI, o_intB, atI_0, atI_1, atI_2, atI_3, atI_4, atI_5, atI_6, set_n, set_get, set_set, new_n, new_get, mV, List.map_cons, List.map_nil, List.length_cons, List.length_nil, List.replicate, List.cons_append, List.nil_append, List.append_nil, Option.bind_some, Option.map_some, List.getElem?_cons_zero, List.getElem?_cons_succ, List.set_cons_zero, List.set_cons_succ, if_true, if_false, Nat.reduceSub, Nat.reduceAdd, decide_true, decide_false, Bool.not_true, Bool.not_false, reduceIte, Bool.false_eq_true, eq_self, ne_eq, not_true, not_false_iff, Bool.and_true, Bool.true_and, Int.reduceEq, Int.reduceLT, Int.reduceLE, Int.reduceNe, Int.reduceAdd, Int.reduceSub, Int.reduceMul, Int.reduceNeg, String.reduceEq, Nat.reduceLT, Nat.reduceLeDiff, Nat.reduceEqDiff, ofS_inj, ofS_ok, op_v, op_1, op_1x, op_2, op_2x, o1_v, o1_1, cons_1, cons_1x, cons_2, cons_2x, fn_v, fn_1, fn_1x, not_1, and_t, and_f, or_t, or_f, ite_t, ite_f, tupQ_1, lstQ_1, lstRQ_1, call_1, call_1x, callI_1, callI_1x, set_1, set_1x, expr_1, expr_1x, ret_1, ret_1x, ifs_t, ifs_f, ifs_x, par_1, par_1x, asg_1, asg_1x, sto_a, sto_b, sto_c, ds_v, tk_v, for_1, for_1x, e1, e3, e4, e5, e6, hroom, o_eqI, C1, C2, hr3, Row.d]
    · obtain ⟨u, g5, e5, b5, q5, s5⟩ := ih b3.at_ (1 + y) deep load (by omega) (by omega) (by omega) (by omega) (by omega)
      obtain ⟨z, g4, z0, z1, e4, b4⟩ := take_ok b5.at_ 2 (by decide) (by decide)
      obtain ⟨v, g6, e6, b6, q6, s6⟩ := ih b4.at_ (room - 1 - (1 + y)) deep load (by omega) (by omega) (by omega) (by omega) (by omega)
      have bb := (((b1.trans b3).trans b5).trans b4).trans b6
      rcases (show z = 0 ∨ z = 1 by omega) with rfl | rfl
      · refine ⟨.sum u v, g6, ?_, bb, ⟨q5, q6⟩, by simp only [Row.size]; omega⟩
        simp only [r_bind, r_bindX, r_bindA, r_bindAX, a_bind, a_bindX, a_bindA, a_bindAX, r_toS, r_toSX, a_toS, a_toSX, i_toS, i_toSX, s_nx, s_rt, s_bk, s_ct, s_exc, onB_bl, onBS_bl, ofO_some, asD_v, asDs_nil, asDs_cons, take1_v, takes_nil, takes_v, e_c, e_op, e_op1, e_nil, e_cons, e_fn, e_not, e_or, e_if, e_tup, e_lst, e_lstR, tup0, tup1, tup2, tup3, tup4, tup5, tup6, tup7, lst0, lst1, lst2, lst3, lst4, lst5, lst6, lsR0, lsR1, lsR2, lsR3, e_call, call1, call2, call3, call4, call5, e_callI, ofR_ok, ofR_exc, q_seq, q_nil, q_set, q_expr, q_ret, q_retN, q_if, q_par, par2, q_asg, g_n, g_tup, g_lst, g_nil, g_cons, q_store, o_add, o_sub, o_neg, o_lt, o_le, o_gt, o_ge, o_ixT, o_ixL, o_ixS, o_lenT, o_lenL, o_lenS, o_abs, o_max, o_min, o_intI, o_intB, atI_0, atI_1, atI_2, atI_3, atI_4, atI_5, atI_6, set_n, set_get, set_set, new_n, new_get, mV, List.map_cons, List.map_nil, List.length_cons, List.length_nil, List.replicate, List.cons_append, List.nil_append, List.append_nil, Option.bind_some, Option.map_some, List.getElem?_cons_zero, List.getElem?_cons_succ, List.set_cons_zero, List.set_cons_succ, if_true, if_false, Nat.reduceSub, Nat.reduceAdd, decide_true, decide_false, Bool.not_true, Bool.not_false, reduceIte, Bool.false_eq_true, eq_self, ne_eq, not_true, not_false_iff, Bool.and_true, Bool.true_and, Int.reduceEq, Int.reduceLT, Int.reduceLE, Int.reduceNe, Int.reduceAdd, Int.reduceSub, Int.reduceMul, Int.reduceNeg, String.reduceEq, Nat.reduceLT, Nat.reduceLeDiff, Nat.reduceEqDiff, ofS_inj, ofS_ok, op_v, op_1, op_1x, op_2, op_2x, o1_v, o1_1, cons_1, cons_1x, cons_2, cons_2x, fn_v, fn_1, fn_1x, not_1, and_t, and_f, or_t, or_f, ite_t, ite_f, tupQ_1, lstQ_1, lstRQ_1, call_1, call_1x, callI_1, callI_1x, set_1, set_1x, expr_1, expr_1x, ret_1, ret_1x, ifs_t, ifs_f, ifs_x, par_1, par_1x, asg_1, asg_1x, sto_a, sto_b, sto_c, ds_v, tk_v, for_1, for_1x, e1, e3, e4, e5, e6, hroom, hf0, o_eqI, C1, C2, hf7, hr3, hf8, Row.d]
      · refine ⟨.less u v, g6, ?_, bb, ⟨q5, q6⟩, by simp only [Row.size]; omega⟩
        simp only [r_bind, r_bindX, r_bindA, r_bindAX, a_bind, a_bindX, a_bindA, a_bindAX, r_toS, r_toSX, a_toS, a_toSX, i_toS, i_toSX, s_nx, s_rt, s_bk, s_ct, s_exc, onB_bl, onBS_bl, ofO_some, asD_v, asDs_nil, asDs_cons, take1_v, takes_nil, takes_v, e_c, e_op, e_op1, e_nil, e_cons, e_fn, e_not, e_or, e_if, e_tup, e_lst, e_lstR, tup0, tup1, tup2, tup3, tup4, tup5, tup6, tup7, lst0, lst1, lst2, lst3, lst4, lst5, lst6, lsR0, lsR1, lsR2, lsR3, e_call, call1, call2, call3, call4, call5, e_callI, ofR_ok, ofR_exc, q_seq, q_nil, q_set, q_expr, q_ret, q_retN, q_if, q_par, par2, q_asg, g_n, g_tup, g_lst, g_nil, g_cons, q_store, o_add, o_sub, o_neg, o_lt, o_le, o_gt, o_ge, o_ixT, o_ixL, o_ixS, o_lenT, o_lenL, o_lenS, o_abs, o_max, o_min, o_intI, o_intB, atI_0, atI_1, atI_2, atI_3, atI_4, atI_5, atI_6, set_n, set_get, set_set, new_n, new_get, mV, List.map_cons, List.map_nil, List.length_cons, List.length_nil, List.replicate, List.cons_append, List.nil_append, List.append_nil, Option.bind_some, Option.map_some, List.getElem?_cons_zero, List.getElem?_cons_succ, List.set_cons_zero, List.set_cons_succ, if_true, if_false, Nat.reduceSub, Nat.reduceAdd, decide_true, decide_false, Bool.not_true, Bool.not_false, reduceIte, Bool.false_eq_true, eq_self, ne_eq, not_true, not_false_iff, Bool.and_true, Bool.true_and, Int.reduceEq, Int.reduceLT, Int.reduceLE, Int.reduceNe, Int.reduceAdd, Int.reduceSub, Int.reduceMul, Int.reduceNeg, String.reduceEq, Nat.reduceLT, Nat.reduceLeDiff, Nat.reduceEqDiff, ofS_inj, ofS_ok, op_v, op_1, op_1x, op_2, op_2x, o1_v, o1_1, cons_1, cons_1x, cons_2, cons_2x, fn_v, fn_1, fn_1x, not_1, and_t, and_f, or_t, or_f, ite_t, ite_f, tupQ_1, lstQ_1, lstRQ_1, call_1, call_1x, callI_1, callI_1x, set_1, set_1x, expr_1, expr_1x, ret_1, ret_1x, ifs_t, ifs_f, ifs_x, par_1, par_1x, asg_1, asg_1x, sto_a, sto_b, sto_c, ds_v, tk_v, for_1, for_1x, e1, e3, e4, e5, e6, hroom, hf0, o_eqI, C1, C2, hf7, hr3, hf8, Row.d]
theorem in2 {a b c : Str} (ha : PyData.strOk a = true) (hb : PyData.strOk b = true) (hc : PyData.strOk c = true) : oIn (.str a) (.tup [.str b, .str c]) = some (.bl (decide (b = a) || decide (c = a))) := by
  unfold oIn
  simp only [plains, D.plain, ha, hb, hc, D.dep, deps, Bool.and_true, Bool.and_self, Nat.min_zero, Nat.zero_le, decide_true, if_true, List.any_cons, List.any_nil, Bool.or_false, deq, D.py, PyData.eqv]
  rfl
theorem in3 {a b c d : Str} (ha : PyData.strOk a = true) (hb : PyData.strOk b = true) (hc : PyData.strOk c = true) (hd : PyData.strOk d = true) : oIn (.str a) (.tup [.str b, .str c, .str d]) = some (.bl (decide (b = a) || (decide (c = a) || decide (d = a)))) := by
  unfold oIn
  simp only [plains, D.plain, ha, hb, hc, hd, D.dep, deps, Bool.and_true, Bool.and_self, Nat.min_zero, Nat.zero_le, decide_true, if_true, List.any_cons, List.any_nil, Bool.or_false, deq, D.py, PyData.eqv]
  rfl
def Row.w : Row → String
  | .num _ _ => "num" | .place => "place" | .pace _ _ => "pace" | .sum _ _ => "sum" | .less _ _ => "less" | .times _ _ => "times" | .over _ _ _ => "over" | .heap _ => "heap" | .on _ => "on"
def Row.parts : Row → List Row
  | .num _ _ => [] | .place => [] | .pace _ _ => [] | .sum x y => [x, y] | .less x y => [x, y] | .times x y => [x, y] | .over x _ _ => [x] | .heap x => [x] | .on x => [x]
def Row.things : Row → List Row
  | .num a b => [.num a b] | .place => [.place] | .pace a b => [.pace a b]
  | .sum x y => .sum x y :: (x.things ++ y.things) | .less x y => .less x y :: (x.things ++ y.things) | .times x y => .times x y :: (x.things ++ y.things)
  | .over x p q => .over x p q :: x.things | .heap x => .heap x :: x.things | .on x => .on x :: x.things
def Row.dep : Row → Nat
  | .num _ _ => 0 | .place => 0 | .pace _ _ => 0
  | .sum x y => max x.dep y.dep + 1 | .less x y => max x.dep y.dep + 1 | .times x y => max x.dep y.dep + 1
  | .over x _ _ => x.dep + 1 | .heap x => x.dep + 1 | .on x => x.dep + 1
theorem Row.dep_size (r : Row) : r.dep + 1 ≤ r.size := by
  induction r <;> simp only [Row.dep, Row.size] <;> omega
theorem Row.things_parts (r : Row) : r.things = r :: (r.parts.map Row.things).flatten := by cases r <;> simp [Row.things, Row.parts]
theorem Row.things_len (r : Row) : r.things.length = r.size := by
  induction r <;> simp [Row.things, Row.size] <;> omega
theorem Row.parts_dep {r p : Row} (h : p ∈ r.parts) : p.dep < r.dep := by
  cases r <;> simp [Row.parts] at h <;> simp only [Row.dep] <;> first | (rcases h with rfl | rfl <;> omega) | (subst h; omega)
theorem Row.parts_size {r p : Row} (h : p ∈ r.parts) : p.size < r.size := by
  cases r <;> simp [Row.parts] at h <;> simp only [Row.size] <;> first | (rcases h with rfl | rfl <;> omega) | (subst h; omega)
theorem inner_ok (r : Row) : d_Linner [r.d] = .ok (.lst (r.parts.map Row.d)) := by
  unfold d_Linner b_Linner
  cases r <;> (refine runP_rt (g1 := GH.nil) ?_; simp only [r_bind, r_bindX, r_bindA, r_bindAX, a_bind, a_bindX, a_bindA, a_bindAX, r_toS, r_toSX, a_toS, a_toSX, i_toS, i_toSX, s_nx, s_rt, s_bk, s_ct, s_exc, onB_bl, onBS_bl, ofO_some, asD_v, asDs_nil, asDs_cons, take1_v, takes_nil, takes_v, e_c, e_op, e_op1, e_nil, e_cons, e_fn, e_not, e_and, e_or, e_if, e_tup, e_lst, e_lstR, tup0, tup1, tup2, tup3, tup4, tup5, tup6, tup7, lst0, lst1, lst2, lst3, lst4, lst5, lst6, lsR0, lsR1, lsR2, lsR3, e_call, call1, call2, call3, call4, call5, e_callI, ofR_ok, ofR_exc, q_seq, q_nil, q_set, q_expr, q_ret, q_retN, q_if, q_par, par2, q_asg, g_n, g_tup, g_lst, g_nil, g_cons, q_store, o_add, o_sub, o_neg, o_lt, o_le, o_gt, o_ge, o_ixT, o_ixL, o_ixS, o_lenT, o_lenL, o_lenS, o_abs, o_max, o_min, o_intI, o_intB, atI_0, atI_1, atI_2, atI_3, atI_4, atI_5, atI_6, set_n, set_get, set_set, new_n, new_get, mV, List.map_cons, List.map_nil, List.length_cons, List.length_nil, List.replicate, List.cons_append, List.nil_append, List.append_nil, Option.bind_some, Option.map_some, List.getElem?_cons_zero, List.getElem?_cons_succ, List.set_cons_zero, List.set_cons_succ, if_true, if_false, Nat.reduceSub, Nat.reduceAdd, decide_true, decide_false, Bool.not_true, Bool.not_false, reduceIte, Bool.false_eq_true, eq_self, ne_eq, not_true, not_false_iff, Bool.and_true, Bool.true_and, Int.reduceEq, Int.reduceLT, Int.reduceLE, Int.reduceNe, Int.reduceAdd, Int.reduceSub, Int.reduceMul, Int.reduceNeg, String.reduceEq, Nat.reduceLT, Nat.reduceLeDiff, Nat.reduceEqDiff, ofS_inj, ofS_ok, op_v, op_1, op_1x, op_2, op_2x, o1_v, o1_1, cons_1, cons_1x, cons_2, cons_2x, fn_v, fn_1, fn_1x, not_1, and_t, and_f, or_t, or_f, ite_t, ite_f, tupQ_1, lstQ_1, lstRQ_1, call_1, call_1x, callI_1, callI_1x, set_1, set_1x, expr_1, expr_1x, ret_1, ret_1x, ifs_t, ifs_f, ifs_x, par_1, par_1x, asg_1, asg_1x, sto_a, sto_b, sto_c, ds_v, tk_v, for_1, for_1x, Row.d, Row.parts, in3 ofS_ok ofS_ok ofS_ok ofS_ok, Bool.or_false, Bool.or_true, Bool.false_or, Bool.true_or])
theorem parts_ok (r : Row) : d_parts_of [r.d] = .ok (.lst (r.parts.map Row.d)) := inner_ok r
/-- the body of both things_in -/
noncomputable def thB (inn self : List D → R) : DS :=
  (sSeq (sSet 1 (mLstR (aCons (mV 0) aNil)))
  (sSeq (sFor (iSeq (mCall 1 (inn) (aCons (mV 0) aNil))) (gN 2)
  (sExpr (mMut uExtend (mV 1) (aCons (mCall 1 (self) (aCons (mV 2) aNil)) aNil))))
  (sRet (mV 1))))
theorem flat_map_d (l : List Row) : (l.map Row.things).flatten.map Row.d = (l.map fun r => r.things.map Row.d).flatten := by
  induction l with
  | nil => rfl
  | cons x l ih => simp [ih]
theorem parts_len (r : Row) (i : Nat) : ((r.parts.take i).map Row.things).flatten.length ≤ r.size := by
  have h1 : ((r.parts.take i).map Row.things).flatten.length ≤ (r.parts.map Row.things).flatten.length := by
    have : r.parts.map Row.things = (r.parts.take i).map Row.things ++ (r.parts.drop i).map Row.things := by rw [← List.map_append, List.take_append_drop]
    rw [this, List.flatten_append, List.length_append]
    omega
  have h2 := r.things_len
  rw [r.things_parts, List.length_cons] at h2
  omega
theorem th_ok {inn self : List D → R} {r : Row} (hs : r.size ≤ 1000) (hi : inn [r.d] = .ok (.lst (r.parts.map Row.d))) (hself : ∀ p ∈ r.parts, self [p.d] = .ok (.lst (p.things.map Row.d))) : runP 3 (thB inn self) [r.d] = .ok (.lst (r.things.map Row.d)) := by
  have h : ∃ g1, thB inn self ([r.d].map (fun d => some (.v d)) ++ List.replicate (3 - [r.d].length) none) GH.nil = .rt (.r 0) g1 ∧ 0 < g1.n ∧ g1.get 0 = .lst (r.things.map Row.d) := by
    unfold thB
    have e0 : mCall 1 inn (aCons (mV 0) aNil) [some (.v r.d), some (.r 0), none] (GH.nil.new (.lst [r.d])) = .ok (.v (.lst (r.parts.map Row.d))) (GH.nil.new (.lst [r.d])) := by simp only [r_bind, r_bindX, r_bindA, r_bindAX, a_bind, a_bindX, a_bindA, a_bindAX, r_toS, r_toSX, a_toS, a_toSX, i_toS, i_toSX, s_nx, s_rt, s_bk, s_ct, s_exc, onB_bl, onBS_bl, ofO_some, asD_v, asDs_nil, asDs_cons, take1_v, takes_nil, takes_v, e_c, e_op, e_op1, e_nil, e_cons, e_fn, e_not, e_and, e_or, e_if, e_tup, e_lst, e_lstR, tup0, tup1, tup2, tup3, tup4, tup5, tup6, tup7, lst0, lst1, lst2, lst3, lst4, lst5, lst6, lsR0, lsR1, lsR2, lsR3, e_call, call1, call2, call3, call4, call5, e_callI, ofR_ok, ofR_exc, q_seq, q_nil, q_set, q_expr, q_ret, q_retN, q_if, q_par, par2, q_asg, g_n, g_tup, g_lst, g_nil, g_cons, q_store, o_add, o_sub, o_neg, o_lt, o_le, o_gt, o_ge, o_ixT, o_ixL, o_ixS, o_lenT, o_lenL, o_lenS, o_abs, o_max, o_min, o_intI, o_intB, atI_0, atI_1, atI_2, atI_3, atI_4, atI_5, atI_6, set_n, set_get, set_set, new_n, new_get, mV, List.map_cons, List.map_nil, List.length_cons, List.length_nil, List.replicate, List.cons_append, List.nil_append, List.append_nil, Option.bind_some, Option.map_some, List.getElem?_cons_zero, List.getElem?_cons_succ, List.set_cons_zero, List.set_cons_succ, if_true, if_false, Nat.reduceSub, Nat.reduceAdd, decide_true, decide_false, Bool.not_true, Bool.not_false, reduceIte, Bool.false_eq_true, eq_self, ne_eq, not_true, not_false_iff, Bool.and_true, Bool.true_and, Int.reduceEq, Int.reduceLT, Int.reduceLE, Int.reduceNe, Int.reduceAdd, Int.reduceSub, Int.reduceMul, Int.reduceNeg, String.reduceEq, Nat.reduceLT, Nat.reduceLeDiff, Nat.reduceEqDiff, ofS_inj, ofS_ok, op_v, op_1, op_1x, op_2, op_2x, o1_v, o1_1, cons_1, cons_1x, cons_2, cons_2x, fn_v, fn_1, fn_1x, not_1, and_t, and_f, or_t, or_f, ite_t, ite_f, tupQ_1, lstQ_1, lstRQ_1, call_1, call_1x, callI_1, callI_1x, set_1, set_1x, expr_1, expr_1x, ret_1, ret_1x, ifs_t, ifs_f, ifs_x, par_1, par_1x, asg_1, asg_1x, sto_a, sto_b, sto_c, ds_v, tk_v, for_1, for_1x, hi]
    have key := for_post (gd := none) (items := r.parts.map Row.d) (t := gN 2) (s := sExpr (mMut uExtend (mV 1) (aCons (mCall 1 (self) (aCons (mV 2) aNil)) aNil))) (fr := [some (.v r.d), some (.r 0), none]) (g := GH.nil.new (.lst [r.d]))
      (fun i fr g => ∃ o, fr = [some (.v r.d), some (.r 0), o] ∧ g.n = 1 ∧ g.get 0 = .lst (r.d :: ((r.parts.take i).map Row.things).flatten.map Row.d))
      (fun x => ∃ o g, x = .nx [some (.v r.d), some (.r 0), o] g ∧ g.n = 1 ∧ g.get 0 = .lst (r.things.map Row.d)) (fun _ _ _ _ => gd_none) ⟨none, rfl, rfl, rfl⟩ (fun i d fr g hd hI => ?_) (fun fr g hI => ?_)
    · obtain ⟨o, g1, e1, n1, q1⟩ := key
      refine ⟨g1, ?_, by omega, q1⟩
      have n0 : GH.nil.n = 0 := rfl
      simp only [r_bind, r_bindX, r_bindA, r_bindAX, a_bind, a_bindX, a_bindA, a_bindAX, r_toS, r_toSX, a_toS, a_toSX, i_toS, i_toSX, s_nx, s_rt, s_bk, s_ct, s_exc, onB_bl, onBS_bl, ofO_some, asD_v, asDs_nil, asDs_cons, take1_v, takes_nil, takes_v, e_c, e_op, e_op1, e_nil, e_cons, e_fn, e_not, e_and, e_or, e_if, e_tup, e_lst, e_lstR, tup0, tup1, tup2, tup3, tup4, tup5, tup6, tup7, lst0, lst1, lst2, lst3, lst4, lst5, lst6, lsR0, lsR1, lsR2, lsR3, e_call, call1, call2, call3, call4, call5, e_callI, ofR_ok, ofR_exc, q_seq, q_nil, q_set, q_expr, q_ret, q_retN, q_if, q_par, par2, q_asg, g_n, g_tup, g_lst, g_nil, g_cons, q_store, o_add, o_sub, o_neg, o_lt, o_le, o_gt, o_ge, o_ixT, o_ixL, o_ixS, o_lenT, o_lenL, o_lenS, o_abs, o_max, o_min, o_intI, o_intB, atI_0, atI_1, atI_2, atI_3, atI_4, atI_5, atI_6, set_n, set_get, set_set, new_n, new_get, mV, List.map_cons, List.map_nil, List.length_cons, List.length_nil, List.replicate, List.cons_append, List.nil_append, List.append_nil, Option.bind_some, Option.map_some, List.getElem?_cons_zero, List.getElem?_cons_succ, List.set_cons_zero, List.set_cons_succ, if_true, if_false, Nat.reduceSub, Nat.reduceAdd, decide_true, decide_false, Bool.not_true, Bool.not_false, reduceIte, Bool.false_eq_true, eq_self, ne_eq, not_true, not_false_iff, Bool.and_true, Bool.true_and, Int.reduceEq, Int.reduceLT, Int.reduceLE, Int.reduceNe, Int.reduceAdd, Int.reduceSub, Int.reduceMul, Int.reduceNeg, String.reduceEq, Nat.reduceLT, Nat.reduceLeDiff, Nat.reduceEqDiff, ofS_inj, ofS_ok, op_v, op_1, op_1x, op_2, op_2x, o1_v, o1_1, cons_1, cons_1x, cons_2, cons_2x, fn_v, fn_1, fn_1x, not_1, and_t, and_f, or_t, or_f, ite_t, ite_f, tupQ_1, lstQ_1, lstRQ_1, call_1, call_1x, callI_1, callI_1x, set_1, set_1x, expr_1, expr_1x, ret_1, ret_1x, ifs_t, ifs_f, ifs_x, par_1, par_1x, asg_1, asg_1x, sto_a, sto_b, sto_c, ds_v, tk_v, for_1, for_1x, n0, q_for, i_seqL e0, e1]
    · obtain ⟨o, rfl, hn, hg⟩ := hI
      rw [List.getElem?_map] at hd
      cases hp : r.parts[i]? with
      | none => rw [hp] at hd; cases hd
      | some p =>
        rw [hp] at hd
        cases hd
        have hmem : p ∈ r.parts := List.mem_of_getElem? hp
        refine ⟨_, rfl, .inl ⟨[some (.v r.d), some (.r 0), some (.v p.d)], g.set 0 (.lst ((r.d :: ((r.parts.take i).map Row.things).flatten.map Row.d) ++ p.things.map Row.d)), ?_, ⟨some (.v p.d), rfl, hn, ?_⟩⟩⟩
        · have hk : 0 < g.n := by omega
          have hz : (r.d :: ((r.parts.take i).map Row.things).flatten.map Row.d).length + (p.things.map Row.d).length ≤ sizeLine := sl100 (by
            have := parts_len r i
            have := Row.parts_size hmem
            have := p.things_len
            simp only [List.length_cons, List.length_map]
            omega)
          have ue : uExtend (r.d :: ((r.parts.take i).map Row.things).flatten.map Row.d) [.lst (p.things.map Row.d)] = some ((r.d :: ((r.parts.take i).map Row.things).flatten.map Row.d) ++ p.things.map Row.d, .non) := if_pos hz
          simp only [r_bind, r_bindX, r_bindA, r_bindAX, a_bind, a_bindX, a_bindA, a_bindAX, r_toS, r_toSX, a_toS, a_toSX, i_toS, i_toSX, s_nx, s_rt, s_bk, s_ct, s_exc, onB_bl, onBS_bl, ofO_some, asD_v, asDs_nil, asDs_cons, take1_v, takes_nil, takes_v, e_c, e_op, e_op1, e_nil, e_cons, e_fn, e_not, e_and, e_or, e_if, e_tup, e_lst, e_lstR, tup0, tup1, tup2, tup3, tup4, tup5, tup6, tup7, lst0, lst1, lst2, lst3, lst4, lst5, lst6, lsR0, lsR1, lsR2, lsR3, e_call, call1, call2, call3, call4, call5, e_callI, ofR_ok, ofR_exc, q_seq, q_nil, q_set, q_expr, q_ret, q_retN, q_if, q_par, par2, q_asg, g_n, g_tup, g_lst, g_nil, g_cons, q_store, o_add, o_sub, o_neg, o_lt, o_le, o_gt, o_ge, o_ixT, o_ixL, o_ixS, o_lenT, o_lenL, o_lenS, o_abs, o_max, o_min, o_intI, o_intB, atI_0, atI_1, atI_2, atI_3, atI_4, atI_5, atI_6, set_n, set_get, set_set, new_n, new_get, mV, List.map_cons, List.map_nil, List.length_cons, List.length_nil, List.replicate, List.cons_append, List.nil_append, List.append_nil, Option.bind_some, Option.map_some, List.getElem?_cons_zero, List.getElem?_cons_succ, List.set_cons_zero, List.set_cons_succ, if_true, if_false, Nat.reduceSub, Nat.reduceAdd, decide_true, decide_false, Bool.not_true, Bool.not_false, reduceIte, Bool.false_eq_true, eq_self, ne_eq, not_true, not_false_iff, Bool.and_true, Bool.true_and, Int.reduceEq, Int.reduceLT, Int.reduceLE, Int.reduceNe, Int.reduceAdd, Int.reduceSub, Int.reduceMul, Int.reduceNeg, String.reduceEq, Nat.reduceLT, Nat.reduceLeDiff, Nat.reduceEqDiff, ofS_inj, ofS_ok, op_v, op_1, op_1x, op_2, op_2x, o1_v, o1_1, cons_1, cons_1x, cons_2, cons_2x, fn_v, fn_1, fn_1x, not_1, and_t, and_f, or_t, or_f, ite_t, ite_f, tupQ_1, lstQ_1, lstRQ_1, call_1, call_1x, callI_1, callI_1x, set_1, set_1x, expr_1, expr_1x, ret_1, ret_1x, ifs_t, ifs_f, ifs_x, par_1, par_1x, asg_1, asg_1x, sto_a, sto_b, sto_c, ds_v, tk_v, for_1, for_1x, mMut, lstAt_r hk hg, Option.isSome_some, hself p hmem, ue]
        · rw [set_get]
          have ht : r.parts.take (i + 1) = r.parts.take i ++ [p] := by rw [List.take_succ, hp]; rfl
          rw [ht]
          simp
    · obtain ⟨o, rfl, hn, hg⟩ := hI
      refine ⟨o, g, rfl, hn, ?_⟩
      rw [hg, r.things_parts, List.length_map, List.take_length]
      rfl
  obtain ⟨g1, h1, h2, h3⟩ := h
  exact runP_rtr h1 h2 h3
theorem Lthings_ok : ∀ (F : Nat) (r : Row), r.dep < F → r.size ≤ 1000 → d_Lthings F [r.d] = .ok (.lst (r.things.map Row.d))
  | 0, r, h, _ => absurd h (Nat.not_lt_zero _)
  | F + 1, r, h, hs => th_ok hs (inner_ok r) fun p hp => Lthings_ok F p (by have := Row.parts_dep hp; omega) (by have := Row.parts_size hp; omega)
theorem things_ok : ∀ (F : Nat) (r : Row), r.dep < F → r.size ≤ 1000 → d_things_in F [r.d] = .ok (.lst (r.things.map Row.d))
  | 0, r, h, _ => absurd h (Nat.not_lt_zero _)
  | F + 1, r, h, hs => th_ok hs (parts_ok r) fun p hp => things_ok F p (by have := Row.parts_dep hp; omega) (by have := Row.parts_size hp; omega)
theorem nums_int : ∀ l : List Int, numsD (l.map .int) = some l
  | [] => rfl
  | i :: l => by simp only [List.map_cons, numsD, intOf, Option.bind_some, nums_int l, Option.map_some]
theorem foldr_int {f : List D → R} {l : List Row} (h : ∀ p ∈ l, ∃ i : Int, f [p.d] = .ok (.int i)) : ∃ is : Row → Int, ∀ p ∈ l, f [p.d] = .ok (.int (is p)) := by
  refine ⟨fun p => match f [p.d] with | .ok (.int i) => i | _ => 0, fun p hp => ?_⟩
  obtain ⟨i, hi⟩ := h p hp
  simp only [hi]
theorem lc_rows {inn f : List D → R} {r : Row} {n : Nat} {fr : Fr} {g : GH} {is : Row → Int} (hn : n < fr.length) (hz : n ≠ 0) (h0 : fr[0]? = some (some (.v r.d))) (hs : r.size ≤ 1000) (hi : inn [r.d] = .ok (.lst (r.parts.map Row.d))) (h : ∀ p ∈ r.parts, f [p.d] = .ok (.int (is p))) :
    mLC (iSeq (mCall 1 inn (aCons (mV 0) aNil))) [n] (gN n) (mC (.bl true)) (mCall 1 f (aCons (mV n) aNil)) fr g = .ok (.v (.lst ((r.parts.map is).map .int))) g := by
  have e0 : mCall 1 inn (aCons (mV 0) aNil) fr g = .ok (.v (.lst (r.parts.map Row.d))) g := by simp only [r_bind, r_bindX, r_bindA, r_bindAX, a_bind, a_bindX, a_bindA, a_bindAX, r_toS, r_toSX, a_toS, a_toSX, i_toS, i_toSX, s_nx, s_rt, s_bk, s_ct, s_exc, onB_bl, onBS_bl, ofO_some, asD_v, asDs_nil, asDs_cons, take1_v, takes_nil, takes_v, e_c, e_op, e_op1, e_nil, e_cons, e_fn, e_not, e_and, e_or, e_if, e_tup, e_lst, e_lstR, tup0, tup1, tup2, tup3, tup4, tup5, tup6, tup7, lst0, lst1, lst2, lst3, lst4, lst5, lst6, lsR0, lsR1, lsR2, lsR3, e_call, call1, call2, call3, call4, call5, e_callI, ofR_ok, ofR_exc, q_seq, q_nil, q_set, q_expr, q_ret, q_retN, q_if, q_par, par2, q_asg, g_n, g_tup, g_lst, g_nil, g_cons, q_store, o_add, o_sub, o_neg, o_lt, o_le, o_gt, o_ge, o_ixT, o_ixL, o_ixS, o_lenT, o_lenL, o_lenS, o_abs, o_max, o_min, o_intI, o_intB, atI_0, atI_1, atI_2, atI_3, atI_4, atI_5, atI_6, set_n, set_get, set_set, new_n, new_get, mV, List.map_cons, List.map_nil, List.length_cons, List.length_nil, List.replicate, List.cons_append, List.nil_append, List.append_nil, Option.bind_some, Option.map_some, List.getElem?_cons_zero, List.getElem?_cons_succ, List.set_cons_zero, List.set_cons_succ, if_true, if_false, Nat.reduceSub, Nat.reduceAdd, decide_true, decide_false, Bool.not_true, Bool.not_false, reduceIte, Bool.false_eq_true, eq_self, ne_eq, not_true, not_false_iff, Bool.and_true, Bool.true_and, Int.reduceEq, Int.reduceLT, Int.reduceLE, Int.reduceNe, Int.reduceAdd, Int.reduceSub, Int.reduceMul, Int.reduceNeg, String.reduceEq, Nat.reduceLT, Nat.reduceLeDiff, Nat.reduceEqDiff, ofS_inj, ofS_ok, op_v, op_1, op_1x, op_2, op_2x, o1_v, o1_1, cons_1, cons_1x, cons_2, cons_2x, fn_v, fn_1, fn_1x, not_1, and_t, and_f, or_t, or_f, ite_t, ite_f, tupQ_1, lstQ_1, lstRQ_1, call_1, call_1x, callI_1, callI_1x, set_1, set_1x, expr_1, expr_1x, ret_1, ret_1x, ifs_t, ifs_f, ifs_x, par_1, par_1x, asg_1, asg_1x, sto_a, sto_b, sto_c, ds_v, tk_v, for_1, for_1x, h0, hi]
  have pl : r.parts.length ≤ 2 := by cases r <;> simp [Row.parts]
  have key := lc_map (g := g) (fr := fr) (vs := [n]) (t := gN n) (m := mCall 1 f (aCons (mV n) aNil)) (items := r.parts.map Row.d) (fun d => match f [d] with | .ok x => x | _ => .non) (i_seqL e0) gd_none (by simp; omega) (fun d hd => ?_)
  · rw [key, List.map_map, List.map_map]
    congr 3
    refine List.map_congr_left fun p hp => ?_
    simp only [Function.comp, h p hp]
  · rw [List.mem_map] at hd
    obtain ⟨p, hp, rfl⟩ := hd
    refine ⟨_, rfl, ?_⟩
    have hq : ((wipeF fr [n]).set n (some (LV.v p.d)))[n]? = some (some (.v p.d)) := by rw [List.getElem?_set_self]; simp [wipeF, hn]
    simp only [r_bind, r_bindX, r_bindA, r_bindAX, a_bind, a_bindX, a_bindA, a_bindAX, r_toS, r_toSX, a_toS, a_toSX, i_toS, i_toSX, s_nx, s_rt, s_bk, s_ct, s_exc, onB_bl, onBS_bl, ofO_some, asD_v, asDs_nil, asDs_cons, take1_v, takes_nil, takes_v, e_c, e_op, e_op1, e_nil, e_cons, e_fn, e_not, e_and, e_or, e_if, e_tup, e_lst, e_lstR, tup0, tup1, tup2, tup3, tup4, tup5, tup6, tup7, lst0, lst1, lst2, lst3, lst4, lst5, lst6, lsR0, lsR1, lsR2, lsR3, e_call, call1, call2, call3, call4, call5, e_callI, ofR_ok, ofR_exc, q_seq, q_nil, q_set, q_expr, q_ret, q_retN, q_if, q_par, par2, q_asg, g_n, g_tup, g_lst, g_nil, g_cons, q_store, o_add, o_sub, o_neg, o_lt, o_le, o_gt, o_ge, o_ixT, o_ixL, o_ixS, o_lenT, o_lenL, o_lenS, o_abs, o_max, o_min, o_intI, o_intB, atI_0, atI_1, atI_2, atI_3, atI_4, atI_5, atI_6, set_n, set_get, set_set, new_n, new_get, mV, List.map_cons, List.map_nil, List.length_cons, List.length_nil, List.replicate, List.cons_append, List.nil_append, List.append_nil, Option.bind_some, Option.map_some, List.getElem?_cons_zero, List.getElem?_cons_succ, List.set_cons_zero, List.set_cons_succ, if_true, if_false, Nat.reduceSub, Nat.reduceAdd, decide_true, decide_false, Bool.not_true, Bool.not_false, reduceIte, Bool.false_eq_true, eq_self, ne_eq, not_true, not_false_iff, Bool.and_true, Bool.true_and, Int.reduceEq, Int.reduceLT, Int.reduceLE, Int.reduceNe, Int.reduceAdd, Int.reduceSub, Int.reduceMul, Int.reduceNeg, String.reduceEq, Nat.reduceLT, Nat.reduceLeDiff, Nat.reduceEqDiff, ofS_inj, ofS_ok, op_v, op_1, op_1x, op_2, op_2x, o1_v, o1_1, cons_1, cons_1x, cons_2, cons_2x, fn_v, fn_1, fn_1x, not_1, and_t, and_f, or_t, or_f, ite_t, ite_f, tupQ_1, lstQ_1, lstRQ_1, call_1, call_1x, callI_1, callI_1x, set_1, set_1x, expr_1, expr_1x, ret_1, ret_1x, ifs_t, ifs_f, ifs_x, par_1, par_1x, asg_1, asg_1x, sto_a, sto_b, sto_c, ds_v, tk_v, for_1, for_1x, hq, h p hp]
theorem oMaxD_ok (l : List Int) : ∃ m : Int, oMaxD [.lst (l.map .int)] [.int 0] = some (.int m) := by
  show ∃ m : Int, (numsD (l.map .int)).map (fun l => if l.isEmpty = true then D.int 0 else .int (lmax l)) = some (.int m)
  rw [nums_int, Option.map_some]
  by_cases h : l.isEmpty = true
  · exact ⟨0, by rw [if_pos h]⟩
  · exact ⟨lmax l, by rw [if_neg h]⟩
theorem oSum_ok (l : List Int) : ∃ m : Int, oSum [.lst (l.map .int)] = some (.int m) := ⟨l.sum, by
  show (numsD (l.map .int)).map (fun l => D.int l.sum) = _
  rw [nums_int]; rfl⟩
theorem word_ix (r : Row) : ∃ xs, r.d = .tup (.str (Str.ofString r.w) :: xs) := by cases r <;> exact ⟨_, rfl⟩
theorem ix0 (r : Row) : oIx r.d (.int 0) = some (.str (Str.ofString r.w)) := by
  obtain ⟨xs, e⟩ := word_ix r
  rw [e, o_ixT, atI_0]
theorem load_ok : ∀ (F : Nat) (r : Row), r.dep < F → r.size ≤ 1000 → ∃ i : Int, d_Lload F [r.d] = .ok (.int i)
  | 0, r, h, _ => absurd h (Nat.not_lt_zero _)
  | F + 1, r, h, hs => by
    obtain ⟨is, his⟩ := foldr_int (f := d_Lload F) (l := r.parts) fun p hp => load_ok F p (by have := Row.parts_dep hp; omega) (by have := Row.parts_size hp; omega)
    have lc := lc_rows (g := GH.nil) (fr := [some (.v r.d), none, none]) (n := 2) (by simp) (by decide) rfl hs (inner_ok r) his
    obtain ⟨m, hm⟩ := oMaxD_ok (r.parts.map is)
    obtain ⟨m2, hm2⟩ := oSum_ok (r.parts.map is)
    have hx := ix0 r
    unfold d_Lload b_Lload
    by_cases h1 : r.w = "times"
    · refine ⟨m2, runP_rt (g1 := GH.nil) ?_⟩
      simp only [r_bind, r_bindX, r_bindA, r_bindAX, a_bind, a_bindX, a_bindA, a_bindAX, r_toS, r_toSX, a_toS, a_toSX, i_toS, i_toSX, s_nx, s_rt, s_bk, s_ct, s_exc, onB_bl, onBS_bl, ofO_some, asD_v, asDs_nil, asDs_cons, take1_v, takes_nil, takes_v, e_c, e_op, e_op1, e_nil, e_cons, e_fn, e_not, e_and, e_or, e_if, e_tup, e_lst, e_lstR, tup0, tup1, tup2, tup3, tup4, tup5, tup6, tup7, lst0, lst1, lst2, lst3, lst4, lst5, lst6, lsR0, lsR1, lsR2, lsR3, e_call, call1, call2, call3, call4, call5, e_callI, ofR_ok, ofR_exc, q_seq, q_nil, q_set, q_expr, q_ret, q_retN, q_if, q_par, par2, q_asg, g_n, g_tup, g_lst, g_nil, g_cons, q_store, o_add, o_sub, o_neg, o_lt, o_le, o_gt, o_ge, o_ixT, o_ixL, o_ixS, o_lenT, o_lenL, o_lenS, o_abs, o_max, o_min, o_intI, o_intB, atI_0, atI_1, atI_2, atI_3, atI_4, atI_5, atI_6, set_n, set_get, set_set, new_n, new_get, mV, List.map_cons, List.map_nil, List.length_cons, List.length_nil, List.replicate, List.cons_append, List.nil_append, List.append_nil, Option.bind_some, Option.map_some, List.getElem?_cons_zero, List.getElem?_cons_succ, List.set_cons_zero, List.set_cons_succ, if_true, if_false, Nat.reduceSub, Nat.reduceAdd, decide_true, decide_false, Bool.not_true, Bool.not_false, reduceIte, Bool.false_eq_true, eq_self, ne_eq, not_true, not_false_iff, Bool.and_true, Bool.true_and, Int.reduceEq, Int.reduceLT, Int.reduceLE, Int.reduceNe, Int.reduceAdd, Int.reduceSub, Int.reduceMul, Int.reduceNeg, String.reduceEq, Nat.reduceLT, Nat.reduceLeDiff, Nat.reduceEqDiff, ofS_inj, ofS_ok, op_v, op_1, op_1x, op_2, op_2x, o1_v, o1_1, cons_1, cons_1x, cons_2, cons_2x, fn_v, fn_1, fn_1x, not_1, and_t, and_f, or_t, or_f, ite_t, ite_f, tupQ_1, lstQ_1, lstRQ_1, call_1, call_1x, callI_1, callI_1x, set_1, set_1x, expr_1, expr_1x, ret_1, ret_1x, ifs_t, ifs_f, ifs_x, par_1, par_1x, asg_1, asg_1x, sto_a, sto_b, sto_c, ds_v, tk_v, for_1, for_1x, lc, hx, o_eqS ofS_ok ofS_ok, h1, hm2]
    · by_cases h2 : (decide ("place" = r.w) || (decide ("over" = r.w) || decide ("heap" = r.w))) = true
      · refine ⟨1 + m, runP_rt (g1 := GH.nil) ?_⟩
        simp only [r_bind, r_bindX, r_bindA, r_bindAX, a_bind, a_bindX, a_bindA, a_bindAX, r_toS, r_toSX, a_toS, a_toSX, i_toS, i_toSX, s_nx, s_rt, s_bk, s_ct, s_exc, onB_bl, onBS_bl, ofO_some, asD_v, asDs_nil, asDs_cons, take1_v, takes_nil, takes_v, e_c, e_op, e_op1, e_nil, e_cons, e_fn, e_not, e_and, e_or, e_if, e_tup, e_lst, e_lstR, tup0, tup1, tup2, tup3, tup4, tup5, tup6, tup7, lst0, lst1, lst2, lst3, lst4, lst5, lst6, lsR0, lsR1, lsR2, lsR3, e_call, call1, call2, call3, call4, call5, e_callI, ofR_ok, ofR_exc, q_seq, q_nil, q_set, q_expr, q_ret, q_retN, q_if, q_par, par2, q_asg, g_n, g_tup, g_lst, g_nil, g_cons, q_store, o_add, o_sub, o_neg, o_lt, o_le, o_gt, o_ge, o_ixT, o_ixL, o_ixS, o_lenT, o_lenL, o_lenS, o_abs, o_max, o_min, o_intI, o_intB, atI_0, atI_1, atI_2, atI_3, atI_4, atI_5, atI_6, set_n, set_get, set_set, new_n, new_get, mV, List.map_cons, List.map_nil, List.length_cons, List.length_nil, List.replicate, List.cons_append, List.nil_append, List.append_nil, Option.bind_some, Option.map_some, List.getElem?_cons_zero, List.getElem?_cons_succ, List.set_cons_zero, List.set_cons_succ, if_true, if_false, Nat.reduceSub, Nat.reduceAdd, decide_true, decide_false, Bool.not_true, Bool.not_false, reduceIte, Bool.false_eq_true, eq_self, ne_eq, not_true, not_false_iff, Bool.and_true, Bool.true_and, Int.reduceEq, Int.reduceLT, Int.reduceLE, Int.reduceNe, Int.reduceAdd, Int.reduceSub, Int.reduceMul, Int.reduceNeg, String.reduceEq, Nat.reduceLT, Nat.reduceLeDiff, Nat.reduceEqDiff, ofS_inj, ofS_ok, op_v, op_1, op_1x, op_2, op_2x, o1_v, o1_1, cons_1, cons_1x, cons_2, cons_2x, fn_v, fn_1, fn_1x, not_1, and_t, and_f, or_t, or_f, ite_t, ite_f, tupQ_1, lstQ_1, lstRQ_1, call_1, call_1x, callI_1, callI_1x, set_1, set_1x, expr_1, expr_1x, ret_1, ret_1x, ifs_t, ifs_f, ifs_x, par_1, par_1x, asg_1, asg_1x, sto_a, sto_b, sto_c, ds_v, tk_v, for_1, for_1x, lc, hx, o_eqS ofS_ok ofS_ok, h1, in3 ofS_ok ofS_ok ofS_ok ofS_ok, h2, mFnK, hm]
      · refine ⟨m, runP_rt (g1 := GH.nil) ?_⟩
        simp only [r_bind, r_bindX, r_bindA, r_bindAX, a_bind, a_bindX, a_bindA, a_bindAX, r_toS, r_toSX, a_toS, a_toSX, i_toS, i_toSX, s_nx, s_rt, s_bk, s_ct, s_exc, onB_bl, onBS_bl, ofO_some, asD_v, asDs_nil, asDs_cons, take1_v, takes_nil, takes_v, e_c, e_op, e_op1, e_nil, e_cons, e_fn, e_not, e_and, e_or, e_if, e_tup, e_lst, e_lstR, tup0, tup1, tup2, tup3, tup4, tup5, tup6, tup7, lst0, lst1, lst2, lst3, lst4, lst5, lst6, lsR0, lsR1, lsR2, lsR3, e_call, call1, call2, call3, call4, call5, e_callI, ofR_ok, ofR_exc, q_seq, q_nil, q_set, q_expr, q_ret, q_retN, q_if, q_par, par2, q_asg, g_n, g_tup, g_lst, g_nil, g_cons, q_store, o_add, o_sub, o_neg, o_lt, o_le, o_gt, o_ge, o_ixT, o_ixL, o_ixS, o_lenT, o_lenL, o_lenS, o_abs, o_max, o_min, o_intI, o_intB, atI_0, atI_1, atI_2, atI_3, atI_4, atI_5, atI_6, set_n, set_get, set_set, new_n, new_get, mV, List.map_cons, List.map_nil, List.length_cons, List.length_nil, List.replicate, List.cons_append, List.nil_append, List.append_nil, Option.bind_some, Option.map_some, List.getElem?_cons_zero, List.getElem?_cons_succ, List.set_cons_zero, List.set_cons_succ, if_true, if_false, Nat.reduceSub, Nat.reduceAdd, decide_true, decide_false, Bool.not_true, Bool.not_false, reduceIte, Bool.false_eq_true, eq_self, ne_eq, not_true, not_false_iff, Bool.and_true, Bool.true_and, Int.reduceEq, Int.reduceLT, Int.reduceLE, Int.reduceNe, Int.reduceAdd, Int.reduceSub, Int.reduceMul, Int.reduceNeg, String.reduceEq, Nat.reduceLT, Nat.reduceLeDiff, Nat.reduceEqDiff, ofS_inj, ofS_ok, op_v, op_1, op_1x, op_2, op_2x, o1_v, o1_1, cons_1, cons_1x, cons_2, cons_2x, fn_v, fn_1, fn_1x, not_1, and_t, and_f, or_t, or_f, ite_t, ite_f, tupQ_1, lstQ_1, lstRQ_1, call_1, call_1x, callI_1, callI_1x, set_1, set_1x, expr_1, expr_1x, ret_1, ret_1x, ifs_t, ifs_f, ifs_x, par_1, par_1x, asg_1, asg_1x, sto_a, sto_b, sto_c, ds_v, tk_v, for_1, for_1x, lc, hx, o_eqS ofS_ok ofS_ok, h1, in3 ofS_ok ofS_ok ofS_ok ofS_ok, h2, mFnK, hm]
theorem deep_ok : ∀ (F : Nat) (r : Row), r.dep < F → r.size ≤ 1000 → ∃ i : Int, d_Ldeep F [r.d] = .ok (.int i)
  | 0, r, h, _ => absurd h (Nat.not_lt_zero _)
  | F + 1, r, h, hs => by
    obtain ⟨is, his⟩ := foldr_int (f := d_Ldeep F) (l := r.parts) fun p hp => deep_ok F p (by have := Row.parts_dep hp; omega) (by have := Row.parts_size hp; omega)
    have lc := lc_rows (g := GH.nil) (fr := [some (.v r.d), none]) (n := 1) (by simp) (by decide) rfl hs (inner_ok r) his
    obtain ⟨m, hm⟩ := oMaxD_ok (r.parts.map is)
    have hx := ix0 r
    unfold d_Ldeep b_Ldeep
    by_cases h1 : r.w = "heap"
    · refine ⟨m + 1, runP_rt (g1 := GH.nil) ?_⟩
      simp only [r_bind, r_bindX, r_bindA, r_bindAX, a_bind, a_bindX, a_bindA, a_bindAX, r_toS, r_toSX, a_toS, a_toSX, i_toS, i_toSX, s_nx, s_rt, s_bk, s_ct, s_exc, onB_bl, onBS_bl, ofO_some, asD_v, asDs_nil, asDs_cons, take1_v, takes_nil, takes_v, e_c, e_op, e_op1, e_nil, e_cons, e_fn, e_not, e_and, e_or, e_if, e_tup, e_lst, e_lstR, tup0, tup1, tup2, tup3, tup4, tup5, tup6, tup7, lst0, lst1, lst2, lst3, lst4, lst5, lst6, lsR0, lsR1, lsR2, lsR3, e_call, call1, call2, call3, call4, call5, e_callI, ofR_ok, ofR_exc, q_seq, q_nil, q_set, q_expr, q_ret, q_retN, q_if, q_par, par2, q_asg, g_n, g_tup, g_lst, g_nil, g_cons, q_store, o_add, o_sub, o_neg, o_lt, o_le, o_gt, o_ge, o_ixT, o_ixL, o_ixS, o_lenT, o_lenL, o_lenS, o_abs, o_max, o_min, o_intI, o_intB, atI_0, atI_1, atI_2, atI_3, atI_4, atI_5, atI_6, set_n, set_get, set_set, new_n, new_get, mV, List.map_cons, List.map_nil, List.length_cons, List.length_nil, List.replicate, List.cons_append, List.nil_append, List.append_nil, Option.bind_some, Option.map_some, List.getElem?_cons_zero, List.getElem?_cons_succ, List.set_cons_zero, List.set_cons_succ, if_true, if_false, Nat.reduceSub, Nat.reduceAdd, decide_true, decide_false, Bool.not_true, Bool.not_false, reduceIte, Bool.false_eq_true, eq_self, ne_eq, not_true, not_false_iff, Bool.and_true, Bool.true_and, Int.reduceEq, Int.reduceLT, Int.reduceLE, Int.reduceNe, Int.reduceAdd, Int.reduceSub, Int.reduceMul, Int.reduceNeg, String.reduceEq, Nat.reduceLT, Nat.reduceLeDiff, Nat.reduceEqDiff, ofS_inj, ofS_ok, op_v, op_1, op_1x, op_2, op_2x, o1_v, o1_1, cons_1, cons_1x, cons_2, cons_2x, fn_v, fn_1, fn_1x, not_1, and_t, and_f, or_t, or_f, ite_t, ite_f, tupQ_1, lstQ_1, lstRQ_1, call_1, call_1x, callI_1, callI_1x, set_1, set_1x, expr_1, expr_1x, ret_1, ret_1x, ifs_t, ifs_f, ifs_x, par_1, par_1x, asg_1, asg_1x, sto_a, sto_b, sto_c, ds_v, tk_v, for_1, for_1x, lc, hx, o_eqS ofS_ok ofS_ok, mFnK, hm, h1]
    · refine ⟨m + 0, runP_rt (g1 := GH.nil) ?_⟩
      simp only [r_bind, r_bindX, r_bindA, r_bindAX, a_bind, a_bindX, a_bindA, a_bindAX, r_toS, r_toSX, a_toS, a_toSX, i_toS, i_toSX, s_nx, s_rt, s_bk, s_ct, s_exc, onB_bl, onBS_bl, ofO_some, asD_v, asDs_nil, asDs_cons, take1_v, takes_nil, takes_v, e_c, e_op, e_op1, e_nil, e_cons, e_fn, e_not, e_and, e_or, e_if, e_tup, e_lst, e_lstR, tup0, tup1, tup2, tup3, tup4, tup5, tup6, tup7, lst0, lst1, lst2, lst3, lst4, lst5, lst6, lsR0, lsR1, lsR2, lsR3, e_call, call1, call2, call3, call4, call5, e_callI, ofR_ok, ofR_exc, q_seq, q_nil, q_set, q_expr, q_ret, q_retN, q_if, q_par, par2, q_asg, g_n, g_tup, g_lst, g_nil, g_cons, q_store, o_add, o_sub, o_neg, o_lt, o_le, o_gt, o_ge, o_ixT, o_ixL, o_ixS, o_lenT, o_lenL, o_lenS, o_abs, o_max, o_min, o_intI, o_intB, atI_0, atI_1, atI_2, atI_3, atI_4, atI_5, atI_6, set_n, set_get, set_set, new_n, new_get, mV, List.map_cons, List.map_nil, List.length_cons, List.length_nil, List.replicate, List.cons_append, List.nil_append, List.append_nil, Option.bind_some, Option.map_some, List.getElem?_cons_zero, List.getElem?_cons_succ, List.set_cons_zero, List.set_cons_succ, if_true, if_false, Nat.reduceSub, Nat.reduceAdd, decide_true, decide_false, Bool.not_true, Bool.not_false, reduceIte, Bool.false_eq_true, eq_self, ne_eq, not_true, not_false_iff, Bool.and_true, Bool.true_and, Int.reduceEq, Int.reduceLT, Int.reduceLE, Int.reduceNe, Int.reduceAdd, Int.reduceSub, Int.reduceMul, Int.reduceNeg, String.reduceEq, Nat.reduceLT, Nat.reduceLeDiff, Nat.reduceEqDiff, ofS_inj, ofS_ok, op_v, op_1, op_1x, op_2, op_2x, o1_v, o1_1, cons_1, cons_1x, cons_2, cons_2x, fn_v, fn_1, fn_1x, not_1, and_t, and_f, or_t, or_f, ite_t, ite_f, tupQ_1, lstQ_1, lstRQ_1, call_1, call_1x, callI_1, callI_1x, set_1, set_1x, expr_1, expr_1x, ret_1, ret_1x, ifs_t, ifs_f, ifs_x, par_1, par_1x, asg_1, asg_1x, sto_a, sto_b, sto_c, ds_v, tk_v, for_1, for_1x, lc, hx, o_eqS ofS_ok ofS_ok, mFnK, hm, h1]
theorem countOk (l : List Row) (w : String) : ∃ n : Nat, oCount (.lst (l.map fun r => .str (Str.ofString r.w))) [.str (Str.ofString w)] = some (.int n) := by
  have hp : plains (l.map fun r => D.str (Str.ofString r.w)) = true := by
    induction l with
    | nil => rfl
    | cons r l ih => simp only [List.map_cons, plains, D.plain, ofS_ok, ih, Bool.and_self]
  exact ⟨_, by unfold oCount; simp only [hp, D.plain, ofS_ok, D.dep, Nat.min_zero, Nat.zero_le, decide_true, Bool.and_self, if_true]; rfl⟩
theorem small_ok (r : Row) (heavy : Int) (hd : r.dep < 24) (hs : r.size ≤ 1000) : ∃ b : Bool, d_Lis_small [r.d, .int heavy] = .ok (.bl b) := by
  obtain ⟨i, hi⟩ := load_ok 24 r hd hs
  obtain ⟨j, hj⟩ := deep_ok 24 r hd hs
  obtain ⟨n1, hn1⟩ := countOk r.things "heap"
  obtain ⟨n2, hn2⟩ := countOk r.things "pace"
  have e0 : mCall 1 (d_Lthings 70) (aCons (mV 0) aNil) [some (.v r.d), some (.v (.int heavy)), none, none] GH.nil = .ok (.v (.lst (r.things.map Row.d))) GH.nil := by simp only [r_bind, r_bindX, r_bindA, r_bindAX, a_bind, a_bindX, a_bindA, a_bindAX, r_toS, r_toSX, a_toS, a_toSX, i_toS, i_toSX, s_nx, s_rt, s_bk, s_ct, s_exc, onB_bl, onBS_bl, ofO_some, asD_v, asDs_nil, asDs_cons, take1_v, takes_nil, takes_v, e_c, e_op, e_op1, e_nil, e_cons, e_fn, e_not, e_and, e_or, e_if, e_tup, e_lst, e_lstR, tup0, tup1, tup2, tup3, tup4, tup5, tup6, tup7, lst0, lst1, lst2, lst3, lst4, lst5, lst6, lsR0, lsR1, lsR2, lsR3, e_call, call1, call2, call3, call4, call5, e_callI, ofR_ok, ofR_exc, q_seq, q_nil, q_set, q_expr, q_ret, q_retN, q_if, q_par, par2, q_asg, g_n, g_tup, g_lst, g_nil, g_cons, q_store, o_add, o_sub, o_neg, o_lt, o_le, o_gt, o_ge, o_ixT, o_ixL, o_ixS, o_lenT, o_lenL, o_lenS, o_abs, o_max, o_min, o_intI, o_intB, atI_0, atI_1, atI_2, atI_3, atI_4, atI_5, atI_6, set_n, set_get, set_set, new_n, new_get, mV, List.map_cons, List.map_nil, List.length_cons, List.length_nil, List.replicate, List.cons_append, List.nil_append, List.append_nil, Option.bind_some, Option.map_some, List.getElem?_cons_zero, List.getElem?_cons_succ, List.set_cons_zero, List.set_cons_succ, if_true, if_false, Nat.reduceSub, Nat.reduceAdd, decide_true, decide_false, Bool.not_true, Bool.not_false, reduceIte, Bool.false_eq_true, eq_self, ne_eq, not_true, not_false_iff, Bool.and_true, Bool.true_and, Int.reduceEq, Int.reduceLT, Int.reduceLE, Int.reduceNe, Int.reduceAdd, Int.reduceSub, Int.reduceMul, Int.reduceNeg, String.reduceEq, Nat.reduceLT, Nat.reduceLeDiff, Nat.reduceEqDiff, ofS_inj, ofS_ok, op_v, op_1, op_1x, op_2, op_2x, o1_v, o1_1, cons_1, cons_1x, cons_2, cons_2x, fn_v, fn_1, fn_1x, not_1, and_t, and_f, or_t, or_f, ite_t, ite_f, tupQ_1, lstQ_1, lstRQ_1, call_1, call_1x, callI_1, callI_1x, set_1, set_1x, expr_1, expr_1x, ret_1, ret_1x, ifs_t, ifs_f, ifs_x, par_1, par_1x, asg_1, asg_1x, sto_a, sto_b, sto_c, ds_v, tk_v, for_1, for_1x, Lthings_ok 70 r (by omega) hs]
  have lc := lc_map (g := GH.nil) (fr := [some (.v r.d), some (.v (.int heavy)), none, none]) (vs := [3]) (t := gN 3) (m := mOp oIx (mV 3) (mC (.int 0))) (items := r.things.map Row.d) (fun d => match oIx d (.int 0) with | some x => x | none => .non) (i_seqL e0) gd_none (by rw [List.length_map, r.things_len]; omega) (fun d hd => by
    rw [List.mem_map] at hd
    obtain ⟨p, hp, rfl⟩ := hd
    exact ⟨_, rfl, by simp only [r_bind, r_bindX, r_bindA, r_bindAX, a_bind, a_bindX, a_bindA, a_bindAX, r_toS, r_toSX, a_toS, a_toSX, i_toS, i_toSX, s_nx, s_rt, s_bk, s_ct, s_exc, onB_bl, onBS_bl, ofO_some, asD_v, asDs_nil, asDs_cons, take1_v, takes_nil, takes_v, e_c, e_op, e_op1, e_nil, e_cons, e_fn, e_not, e_and, e_or, e_if, e_tup, e_lst, e_lstR, tup0, tup1, tup2, tup3, tup4, tup5, tup6, tup7, lst0, lst1, lst2, lst3, lst4, lst5, lst6, lsR0, lsR1, lsR2, lsR3, e_call, call1, call2, call3, call4, call5, e_callI, ofR_ok, ofR_exc, q_seq, q_nil, q_set, q_expr, q_ret, q_retN, q_if, q_par, par2, q_asg, g_n, g_tup, g_lst, g_nil, g_cons, q_store, o_add, o_sub, o_neg, o_lt, o_le, o_gt, o_ge, o_ixT, o_ixL, o_ixS, o_lenT, o_lenL, o_lenS, o_abs, o_max, o_min, o_intI, o_intB, atI_0, atI_1, atI_2, atI_3, atI_4, atI_5, atI_6, set_n, set_get, set_set, new_n, new_get, mV, List.map_cons, List.map_nil, List.length_cons, List.length_nil, List.replicate, List.cons_append, List.nil_append, List.append_nil, Option.bind_some, Option.map_some, List.getElem?_cons_zero, List.getElem?_cons_succ, List.set_cons_zero, List.set_cons_succ, if_true, if_false, Nat.reduceSub, Nat.reduceAdd, decide_true, decide_false, Bool.not_true, Bool.not_false, reduceIte, Bool.false_eq_true, eq_self, ne_eq, not_true, not_false_iff, Bool.and_true, Bool.true_and, Int.reduceEq, Int.reduceLT, Int.reduceLE, Int.reduceNe, Int.reduceAdd, Int.reduceSub, Int.reduceMul, Int.reduceNeg, String.reduceEq, Nat.reduceLT, Nat.reduceLeDiff, Nat.reduceEqDiff, ofS_inj, ofS_ok, op_v, op_1, op_1x, op_2, op_2x, o1_v, o1_1, cons_1, cons_1x, cons_2, cons_2x, fn_v, fn_1, fn_1x, not_1, and_t, and_f, or_t, or_f, ite_t, ite_f, tupQ_1, lstQ_1, lstRQ_1, call_1, call_1x, callI_1, callI_1x, set_1, set_1x, expr_1, expr_1x, ret_1, ret_1x, ifs_t, ifs_f, ifs_x, par_1, par_1x, asg_1, asg_1x, sto_a, sto_b, sto_c, ds_v, tk_v, for_1, for_1x, wipeF, ix0 p]⟩)
  have e1 : (r.things.map Row.d).map (fun d => match oIx d (.int 0) with | some x => x | none => .non) = r.things.map fun r => .str (Str.ofString r.w) := by
    rw [List.map_map]
    refine List.map_congr_left fun p hp => ?_
    simp only [Function.comp, ix0 p]
  rw [e1] at lc
  unfold d_Lis_small b_Lis_small
  have tyl : ∀ xs, tyOf "list" (.lst xs) = true := fun _ => rfl
  by_cases c : (40 : Int) < ((r.things.map fun r => D.str (Str.ofString r.w)).length : Nat) ∨ (6 : Int) < n1 ∨ (4 : Int) < n2
  · refine ⟨false, runP_rt (g1 := GH.nil) ?_⟩
    by_cases c1 : (40 : Int) < ((r.things.map fun r => D.str (Str.ofString r.w)).length : Nat)
    · simp only [r_bind, r_bindX, r_bindA, r_bindAX, a_bind, a_bindX, a_bindA, a_bindAX, r_toS, r_toSX, a_toS, a_toSX, i_toS, i_toSX, s_nx, s_rt, s_bk, s_ct, s_exc, onB_bl, onBS_bl, ofO_some, asD_v, asDs_nil, asDs_cons, take1_v, takes_nil, takes_v, e_c, e_op, e_op1, e_nil, e_cons, e_fn, e_not, e_and, e_or, e_if, e_tup, e_lst, e_lstR, tup0, tup1, tup2, tup3, tup4, tup5, tup6, tup7, lst0, lst1, lst2, lst3, lst4, lst5, lst6, lsR0, lsR1, lsR2, lsR3, e_call, call1, call2, call3, call4, call5, e_callI, ofR_ok, ofR_exc, q_seq, q_nil, q_set, q_expr, q_ret, q_retN, q_if, q_par, par2, q_asg, g_n, g_tup, g_lst, g_nil, g_cons, q_store, o_add, o_sub, o_neg, o_lt, o_le, o_gt, o_ge, o_ixT, o_ixL, o_ixS, o_lenT, o_lenL, o_lenS, o_abs, o_max, o_min, o_intI, o_intB, atI_0, atI_1, atI_2, atI_3, atI_4, atI_5, atI_6, set_n, set_get, set_set, new_n, new_get, mV, List.map_cons, List.map_nil, List.length_cons, List.length_nil, List.replicate, List.cons_append, List.nil_append, List.append_nil, Option.bind_some, Option.map_some, List.getElem?_cons_zero, List.getElem?_cons_succ, List.set_cons_zero, List.set_cons_succ, if_true, if_false, Nat.reduceSub, Nat.reduceAdd, decide_true, decide_false, Bool.not_true, Bool.not_false, reduceIte, Bool.false_eq_true, eq_self, ne_eq, not_true, not_false_iff, Bool.and_true, Bool.true_and, Int.reduceEq, Int.reduceLT, Int.reduceLE, Int.reduceNe, Int.reduceAdd, Int.reduceSub, Int.reduceMul, Int.reduceNeg, String.reduceEq, Nat.reduceLT, Nat.reduceLeDiff, Nat.reduceEqDiff, ofS_inj, ofS_ok, op_v, op_1, op_1x, op_2, op_2x, o1_v, o1_1, cons_1, cons_1x, cons_2, cons_2x, fn_v, fn_1, fn_1x, not_1, and_t, and_f, or_t, or_f, ite_t, ite_f, tupQ_1, lstQ_1, lstRQ_1, call_1, call_1x, callI_1, callI_1x, set_1, set_1x, expr_1, expr_1x, ret_1, ret_1x, ifs_t, ifs_f, ifs_x, par_1, par_1x, asg_1, asg_1x, sto_a, sto_b, sto_c, ds_v, tk_v, for_1, for_1x, lc, c1]
    · by_cases c2 : (6 : Int) < n1
      · simp only [r_bind, r_bindX, r_bindA, r_bindAX, a_bind, a_bindX, a_bindA, a_bindAX, r_toS, r_toSX, a_toS, a_toSX, i_toS, i_toSX, s_nx, s_rt, s_bk, s_ct, s_exc, onB_bl, onBS_bl, ofO_some, asD_v, asDs_nil, asDs_cons, take1_v, takes_nil, takes_v, e_c, e_op, e_op1, e_nil, e_cons, e_fn, e_not, e_and, e_or, e_if, e_tup, e_lst, e_lstR, tup0, tup1, tup2, tup3, tup4, tup5, tup6, tup7, lst0, lst1, lst2, lst3, lst4, lst5, lst6, lsR0, lsR1, lsR2, lsR3, e_call, call1, call2, call3, call4, call5, e_callI, ofR_ok, ofR_exc, q_seq, q_nil, q_set, q_expr, q_ret, q_retN, q_if, q_par, par2, q_asg, g_n, g_tup, g_lst, g_nil, g_cons, q_store, o_add, o_sub, o_neg, o_lt, o_le, o_gt, o_ge, o_ixT, o_ixL, o_ixS, o_lenT, o_lenL, o_lenS, o_abs, o_max, o_min, o_intI, o_intB, atI_0, atI_1, atI_2, atI_3, atI_4, atI_5, atI_6, set_n, set_get, set_set, new_n, new_get, mV, List.map_cons, List.map_nil, List.length_cons, List.length_nil, List.replicate, List.cons_append, List.nil_append, List.append_nil, Option.bind_some, Option.map_some, List.getElem?_cons_zero, List.getElem?_cons_succ, List.set_cons_zero, List.set_cons_succ, if_true, if_false, Nat.reduceSub, Nat.reduceAdd, decide_true, decide_false, Bool.not_true, Bool.not_false, reduceIte, Bool.false_eq_true, eq_self, ne_eq, not_true, not_false_iff, Bool.and_true, Bool.true_and, Int.reduceEq, Int.reduceLT, Int.reduceLE, Int.reduceNe, Int.reduceAdd, Int.reduceSub, Int.reduceMul, Int.reduceNeg, String.reduceEq, Nat.reduceLT, Nat.reduceLeDiff, Nat.reduceEqDiff, ofS_inj, ofS_ok, op_v, op_1, op_1x, op_2, op_2x, o1_v, o1_1, cons_1, cons_1x, cons_2, cons_2x, fn_v, fn_1, fn_1x, not_1, and_t, and_f, or_t, or_f, ite_t, ite_f, tupQ_1, lstQ_1, lstRQ_1, call_1, call_1x, callI_1, callI_1x, set_1, set_1x, expr_1, expr_1x, ret_1, ret_1x, ifs_t, ifs_f, ifs_x, par_1, par_1x, asg_1, asg_1x, sto_a, sto_b, sto_c, ds_v, tk_v, for_1, for_1x, lc, c1, mM, tyl, hn1, c2]
      · have c3 : (4 : Int) < n2 := by rcases c with c | c | c <;> first | exact absurd c c1 | exact absurd c c2 | exact c
        simp only [r_bind, r_bindX, r_bindA, r_bindAX, a_bind, a_bindX, a_bindA, a_bindAX, r_toS, r_toSX, a_toS, a_toSX, i_toS, i_toSX, s_nx, s_rt, s_bk, s_ct, s_exc, onB_bl, onBS_bl, ofO_some, asD_v, asDs_nil, asDs_cons, take1_v, takes_nil, takes_v, e_c, e_op, e_op1, e_nil, e_cons, e_fn, e_not, e_and, e_or, e_if, e_tup, e_lst, e_lstR, tup0, tup1, tup2, tup3, tup4, tup5, tup6, tup7, lst0, lst1, lst2, lst3, lst4, lst5, lst6, lsR0, lsR1, lsR2, lsR3, e_call, call1, call2, call3, call4, call5, e_callI, ofR_ok, ofR_exc, q_seq, q_nil, q_set, q_expr, q_ret, q_retN, q_if, q_par, par2, q_asg, g_n, g_tup, g_lst, g_nil, g_cons, q_store, o_add, o_sub, o_neg, o_lt, o_le, o_gt, o_ge, o_ixT, o_ixL, o_ixS, o_lenT, o_lenL, o_lenS, o_abs, o_max, o_min, o_intI, o_intB, atI_0, atI_1, atI_2, atI_3, atI_4, atI_5, atI_6, set_n, set_get, set_set, new_n, new_get, mV, List.map_cons, List.map_nil, List.length_cons, List.length_nil, List.replicate, List.cons_append, List.nil_append, List.append_nil, Option.bind_some, Option.map_some, List.getElem?_cons_zero, List.getElem?_cons_succ, List.set_cons_zero, List.set_cons_succ, if_true, if_false, Nat.reduceSub, Nat.reduceAdd, decide_true, decide_false, Bool.not_true, Bool.not_false, reduceIte, Bool.false_eq_true, eq_self, ne_eq, not_true, not_false_iff, Bool.and_true, Bool.true_and, Int.reduceEq, Int.reduceLT, Int.reduceLE, Int.reduceNe, Int.reduceAdd, Int.reduceSub, Int.reduceMul, Int.reduceNeg, String.reduceEq, Nat.reduceLT, Nat.reduceLeDiff, Nat.reduceEqDiff, ofS_inj, ofS_ok, op_v, op_1, op_1x, op_2, op_2x, o1_v, o1_1, cons_1, cons_1x, cons_2, cons_2x, fn_v, fn_1, fn_1x, not_1, and_t, and_f, or_t, or_f, ite_t, ite_f, tupQ_1, lstQ_1, lstRQ_1, call_1, call_1x, callI_1, callI_1x, set_1, set_1x, expr_1, expr_1x, ret_1, ret_1x, ifs_t, ifs_f, ifs_x, par_1, par_1x, asg_1, asg_1x, sto_a, sto_b, sto_c, ds_v, tk_v, for_1, for_1x, lc, c1, mM, tyl, hn1, c2, hn2, c3]
  · have c1 : ¬ (40 : Int) < ((r.things.map fun r => D.str (Str.ofString r.w)).length : Nat) := fun z => c (.inl z)
    have c2 : ¬ (6 : Int) < n1 := fun z => c (.inr (.inl z))
    have c3 : ¬ (4 : Int) < n2 := fun z => c (.inr (.inr z))
    by_cases c4 : i ≤ heavy
    · refine ⟨decide (j < 4), runP_rt (g1 := GH.nil) ?_⟩
      simp only [r_bind, r_bindX, r_bindA, r_bindAX, a_bind, a_bindX, a_bindA, a_bindAX, r_toS, r_toSX, a_toS, a_toSX, i_toS, i_toSX, s_nx, s_rt, s_bk, s_ct, s_exc, onB_bl, onBS_bl, ofO_some, asD_v, asDs_nil, asDs_cons, take1_v, takes_nil, takes_v, e_c, e_op, e_op1, e_nil, e_cons, e_fn, e_not, e_and, e_or, e_if, e_tup, e_lst, e_lstR, tup0, tup1, tup2, tup3, tup4, tup5, tup6, tup7, lst0, lst1, lst2, lst3, lst4, lst5, lst6, lsR0, lsR1, lsR2, lsR3, e_call, call1, call2, call3, call4, call5, e_callI, ofR_ok, ofR_exc, q_seq, q_nil, q_set, q_expr, q_ret, q_retN, q_if, q_par, par2, q_asg, g_n, g_tup, g_lst, g_nil, g_cons, q_store, o_add, o_sub, o_neg, o_lt, o_le, o_gt, o_ge, o_ixT, o_ixL, o_ixS, o_lenT, o_lenL, o_lenS, o_abs, o_max, o_min, o_intI, o_intB, atI_0, atI_1, atI_2, atI_3, atI_4, atI_5, atI_6, set_n, set_get, set_set, new_n, new_get, mV, List.map_cons, List.map_nil, List.length_cons, List.length_nil, List.replicate, List.cons_append, List.nil_append, List.append_nil, Option.bind_some, Option.map_some, List.getElem?_cons_zero, List.getElem?_cons_succ, List.set_cons_zero, List.set_cons_succ, if_true, if_false, Nat.reduceSub, Nat.reduceAdd, decide_true, decide_false, Bool.not_true, Bool.not_false, reduceIte, Bool.false_eq_true, eq_self, ne_eq, not_true, not_false_iff, Bool.and_true, Bool.true_and, Int.reduceEq, Int.reduceLT, Int.reduceLE, Int.reduceNe, Int.reduceAdd, Int.reduceSub, Int.reduceMul, Int.reduceNeg, String.reduceEq, Nat.reduceLT, Nat.reduceLeDiff, Nat.reduceEqDiff, ofS_inj, ofS_ok, op_v, op_1, op_1x, op_2, op_2x, o1_v, o1_1, cons_1, cons_1x, cons_2, cons_2x, fn_v, fn_1, fn_1x, not_1, and_t, and_f, or_t, or_f, ite_t, ite_f, tupQ_1, lstQ_1, lstRQ_1, call_1, call_1x, callI_1, callI_1x, set_1, set_1x, expr_1, expr_1x, ret_1, ret_1x, ifs_t, ifs_f, ifs_x, par_1, par_1x, asg_1, asg_1x, sto_a, sto_b, sto_c, ds_v, tk_v, for_1, for_1x, lc, c1, mM, tyl, hn1, c2, hn2, c3, hi, hj, c4]
    · refine ⟨false, runP_rt (g1 := GH.nil) ?_⟩
      simp only [r_bind, r_bindX, r_bindA, r_bindAX, a_bind, a_bindX, a_bindA, a_bindAX, r_toS, r_toSX, a_toS, a_toSX, i_toS, i_toSX, s_nx, s_rt, s_bk, s_ct, s_exc, onB_bl, onBS_bl, ofO_some, asD_v, asDs_nil, asDs_cons, take1_v, takes_nil, takes_v, e_c, e_op, e_op1, e_nil, e_cons, e_fn, e_not, e_and, e_or, e_if, e_tup, e_lst, e_lstR, tup0, tup1, tup2, tup3, tup4, tup5, tup6, tup7, lst0, lst1, lst2, lst3, lst4, lst5, lst6, lsR0, lsR1, lsR2, lsR3, e_call, call1, call2, call3, call4, call5, e_callI, ofR_ok, ofR_exc, q_seq, q_nil, q_set, q_expr, q_ret, q_retN, q_if, q_par, par2, q_asg, g_n, g_tup, g_lst, g_nil, g_cons, q_store, o_add, o_sub, o_neg, o_lt, o_le, o_gt, o_ge, o_ixT, o_ixL, o_ixS, o_lenT, o_lenL, o_lenS, o_abs, o_max, o_min, o_intI, o_intB, atI_0, atI_1, atI_2, atI_3, atI_4, atI_5, atI_6, set_n, set_get, set_set, new_n, new_get, mV, List.map_cons, List.map_nil, List.length_cons, List.length_nil, List.replicate, List.cons_append, List.nil_append, List.append_nil, Option.bind_some, Option.map_some, List.getElem?_cons_zero, List.getElem?_cons_succ, List.set_cons_zero, List.set_cons_succ, if_true, if_false, Nat.reduceSub, Nat.reduceAdd, decide_true, decide_false, Bool.not_true, Bool.not_false, reduceIte, Bool.false_eq_true, eq_self, ne_eq, not_true, not_false_iff, Bool.and_true, Bool.true_and, Int.reduceEq, Int.reduceLT, Int.reduceLE, Int.reduceNe, Int.reduceAdd, Int.reduceSub, Int.reduceMul, Int.reduceNeg, String.reduceEq, Nat.reduceLT, Nat.reduceLeDiff, Nat.reduceEqDiff, ofS_inj, ofS_ok, op_v, op_1, op_1x, op_2, op_2x, o1_v, o1_1, cons_1, cons_1x, cons_2, cons_2x, fn_v, fn_1, fn_1x, not_1, and_t, and_f, or_t, or_f, ite_t, ite_f, tupQ_1, lstQ_1, lstRQ_1, call_1, call_1x, callI_1, callI_1x, set_1, set_1x, expr_1, expr_1x, ret_1, ret_1x, ifs_t, ifs_f, ifs_x, par_1, par_1x, asg_1, asg_1x, sto_a, sto_b, sto_c, ds_v, tk_v, for_1, for_1x, lc, c1, mM, tyl, hn1, c2, hn2, c3, hi, hj, c4]
theorem some_ok {g : GH} {k : Nat} (h : BoxAt g k) : ∃ (r : Row) (g1 : GH), d_Lsome [.r k, .v (.int 4)] g = .ok (.v r.d) g1 ∧ Bx k g g1 ∧ r.good ∧ r.size ≤ 15 := by
  obtain ⟨v, g1, v0, v1, e1, b1⟩ := take_ok h 2 (by decide) (by decide)
  have : ∃ m : Int, atI [(D.int 6), .int 14] v = some (.int m) ∧ 0 < m ∧ m ≤ 14 := by
    rcases (show v = 0 ∨ v = 1 by omega) with rfl | rfl
    · exact ⟨6, atI_0, by decide, by decide⟩
    · exact ⟨14, atI_1, by decide, by decide⟩
  obtain ⟨m, hm, m0, m1⟩ := this
  obtain ⟨x, g2, x0, x1, e2, b2⟩ := take_ok b1.at_ m m0 (by omega)
  obtain ⟨r, g3, e3, b3, q3, s3⟩ := row_ok 20 b2.at_ (2 + x) 3 4 (by omega) (by omega) (by omega) (by decide) (by decide)
  have hd := r.dep_size
  obtain ⟨b, hb⟩ := small_ok r 4 (by omega) (by omega)
  unfold d_Lsome b_Lsome
  rw [runI_eq]
  cases b with
  | false =>
    refine ⟨.place, g3, ?_, (b1.trans b2).trans b3, trivial, by decide⟩
    simp only [r_bind, r_bindX, r_bindA, r_bindAX, a_bind, a_bindX, a_bindA, a_bindAX, r_toS, r_toSX, a_toS, a_toSX, i_toS, i_toSX, s_nx, s_rt, s_bk, s_ct, s_exc, onB_bl, onBS_bl, ofO_some, asD_v, asDs_nil, asDs_cons, take1_v, takes_nil, takes_v, e_c, e_op, e_op1, e_nil, e_cons, e_fn, e_not, e_and, e_or, e_if, e_tup, e_lst, e_lstR, tup0, tup1, tup2, tup3, tup4, tup5, tup6, tup7, lst0, lst1, lst2, lst3, lst4, lst5, lst6, lsR0, lsR1, lsR2, lsR3, e_call, call1, call2, call3, call4, call5, e_callI, ofR_ok, ofR_exc, q_seq, q_nil, q_set, q_expr, q_ret, q_retN, q_if, q_par, par2, q_asg, g_n, g_tup, g_lst, g_nil, g_cons, q_store, o_add, o_sub, o_neg, o_lt, o_le, o_gt, o_ge, o_ixT, o_ixL, o_ixS, o_lenT, o_lenL, o_lenS, o_abs, o_max, o_min, o_intI, o_intB, atI_0, atI_1, atI_2, atI_3, atI_4, atI_5, atI_6, set_n, set_get, set_set, new_n, new_get, mV, List.map_cons, List.map_nil, List.length_cons, List.length_nil, List.replicate, List.cons_append, List.nil_append, List.append_nil, Option.bind_some, Option.map_some, List.getElem?_cons_zero, List.getElem?_cons_succ, List.set_cons_zero, List.set_cons_succ, if_true, if_false, Nat.reduceSub, Nat.reduceAdd, decide_true, decide_false, Bool.not_true, Bool.not_false, reduceIte, Bool.false_eq_true, eq_self, ne_eq, not_true, not_false_iff, Bool.and_true, Bool.true_and, Int.reduceEq, Int.reduceLT, Int.reduceLE, Int.reduceNe, Int.reduceAdd, Int.reduceSub, Int.reduceMul, Int.reduceNeg, String.reduceEq, Nat.reduceLT, Nat.reduceLeDiff, Nat.reduceEqDiff, ofS_inj, ofS_ok, op_v, op_1, op_1x, op_2, op_2x, o1_v, o1_1, cons_1, cons_1x, cons_2, cons_2x, fn_v, fn_1, fn_1x, not_1, and_t, and_f, or_t, or_f, ite_t, ite_f, tupQ_1, lstQ_1, lstRQ_1, call_1, call_1x, callI_1, callI_1x, set_1, set_1x, expr_1, expr_1x, ret_1, ret_1x, ifs_t, ifs_f, ifs_x, par_1, par_1x, asg_1, asg_1x, sto_a, sto_b, sto_c, ds_v, tk_v, for_1, for_1x, e1, e2, e3, hm, hb, Row.d]
  | true =>
    refine ⟨r, g3, ?_, (b1.trans b2).trans b3, q3, by omega⟩
    simp only [r_bind, r_bindX, r_bindA, r_bindAX, a_bind, a_bindX, a_bindA, a_bindAX, r_toS, r_toSX, a_toS, a_toSX, i_toS, i_toSX, s_nx, s_rt, s_bk, s_ct, s_exc, onB_bl, onBS_bl, ofO_some, asD_v, asDs_nil, asDs_cons, take1_v, takes_nil, takes_v, e_c, e_op, e_op1, e_nil, e_cons, e_fn, e_not, e_and, e_or, e_if, e_tup, e_lst, e_lstR, tup0, tup1, tup2, tup3, tup4, tup5, tup6, tup7, lst0, lst1, lst2, lst3, lst4, lst5, lst6, lsR0, lsR1, lsR2, lsR3, e_call, call1, call2, call3, call4, call5, e_callI, ofR_ok, ofR_exc, q_seq, q_nil, q_set, q_expr, q_ret, q_retN, q_if, q_par, par2, q_asg, g_n, g_tup, g_lst, g_nil, g_cons, q_store, o_add, o_sub, o_neg, o_lt, o_le, o_gt, o_ge, o_ixT, o_ixL, o_ixS, o_lenT, o_lenL, o_lenS, o_abs, o_max, o_min, o_intI, o_intB, atI_0, atI_1, atI_2, atI_3, atI_4, atI_5, atI_6, set_n, set_get, set_set, new_n, new_get, mV, List.map_cons, List.map_nil, List.length_cons, List.length_nil, List.replicate, List.cons_append, List.nil_append, List.append_nil, Option.bind_some, Option.map_some, List.getElem?_cons_zero, List.getElem?_cons_succ, List.set_cons_zero, List.set_cons_succ, if_true, if_false, Nat.reduceSub, Nat.reduceAdd, decide_true, decide_false, Bool.not_true, Bool.not_false, reduceIte, Bool.false_eq_true, eq_self, ne_eq, not_true, not_false_iff, Bool.and_true, Bool.true_and, Int.reduceEq, Int.reduceLT, Int.reduceLE, Int.reduceNe, Int.reduceAdd, Int.reduceSub, Int.reduceMul, Int.reduceNeg, String.reduceEq, Nat.reduceLT, Nat.reduceLeDiff, Nat.reduceEqDiff, ofS_inj, ofS_ok, op_v, op_1, op_1x, op_2, op_2x, o1_v, o1_1, cons_1, cons_1x, cons_2, cons_2x, fn_v, fn_1, fn_1x, not_1, and_t, and_f, or_t, or_f, ite_t, ite_f, tupQ_1, lstQ_1, lstRQ_1, call_1, call_1x, callI_1, callI_1x, set_1, set_1x, expr_1, expr_1x, ret_1, ret_1x, ifs_t, ifs_f, ifs_x, par_1, par_1x, asg_1, asg_1x, sto_a, sto_b, sto_c, ds_v, tk_v, for_1, for_1x, e1, e2, e3, hm, hb]
def LeftAt (g : GH) (k : Nat) : Prop := k < g.n ∧ ∃ x : Int, g.get k = .lst [.int x]
structure B2 (k l : Nat) (g g1 : GH) : Prop where
  n : g1.n = g.n
  ne : ∀ i, i ≠ k → i ≠ l → g1.get i = g.get i
  box : BoxAt g1 k
  left : LeftAt g1 l
theorem B2.trans {k l : Nat} {g g1 g2 : GH} (a : B2 k l g g1) (b : B2 k l g1 g2) : B2 k l g g2 := ⟨b.n.trans a.n, fun i h h' => (b.ne i h h').trans (a.ne i h h'), b.box, b.left⟩
theorem bx_b2 {k l : Nat} {g g1 : GH} (b : Bx k g g1) (hkl : l ≠ k) (h : LeftAt g l) : B2 k l g g1 := ⟨b.n, fun i h _ => b.ne i h, b.at_, by rw [b.n]; exact h.1, by rw [b.ne l hkl]; exact h.2⟩
theorem B2.refl {k l : Nat} {g : GH} (h : BoxAt g k) (h2 : LeftAt g l) : B2 k l g g := ⟨rfl, fun _ _ _ => rfl, h, h2⟩
theorem B2.set {k l : Nat} {g : GH} (h : BoxAt g k) (h2 : LeftAt g l) (hkl : l ≠ k) (x : Int) : B2 k l g (g.set l (.lst [.int x])) := by
  refine ⟨rfl, fun i _ h => set_ne h, ⟨h.1, ?_⟩, h2.1, x, set_get⟩
  obtain ⟨c, s, t, hc, e⟩ := h.2
  exact ⟨c, s, t, hc, by rw [set_ne (Ne.symm hkl)]; exact e⟩
theorem sto_1 {g : GH} {k : Nat} {fr : Fr} {d a : D} (hk : k < g.n) (h : g.get k = .lst [a]) : stoR fr (.v d) (.r k) (.v (.int 0)) g = .nx fr (g.set k (.lst [d])) := sto_v hk h (j := 0) rfl
theorem turned_ok : ∀ (F : Nat) (r : Row) {g : GH} {k l : Nat}, BoxAt g k → LeftAt g l → l ≠ k → r.dep < F → ∃ (r' : Row) (g1 : GH), d_Lturned F [.r k, .v r.d, .r l] g = .ok (.v r'.d) g1 ∧ B2 k l g g1 ∧ r'.dep = r.dep ∧ r'.size = r.size
  | 0, r, _, _, _, _, _, _, h => absurd h (Nat.not_lt_zero _)
  | F + 1, r, g, k, l, hB, hL, hkl, hd => by
    have ih := fun (p : Row) {g : GH} (h1 : BoxAt g k) (h2 : LeftAt g l) (h3 : p.dep < F) => turned_ok F p h1 h2 hkl h3
    obtain ⟨hl, x, hx⟩ := id hL
    have ar := asD_r hl hx
    unfold d_Lturned b_Lturned
    rw [runI_eq]
    cases r with
    | num a b => exact ⟨.num a b, g, by simp only [r_bind, r_bindX, r_bindA, r_bindAX, a_bind, a_bindX, a_bindA, a_bindAX, r_toS, r_toSX, a_toS, a_toSX, i_toS, i_toSX, s_nx, s_rt, s_bk, s_ct, s_exc, onB_bl, onBS_bl, ofO_some, asD_v, asDs_nil, asDs_cons, take1_v, takes_nil, takes_v, e_c, e_op, e_op1, e_nil, e_cons, e_fn, e_not, e_and, e_or, e_if, e_tup, e_lst, e_lstR, tup0, tup1, tup2, tup3, tup4, tup5, tup6, tup7, lst0, lst1, lst2, lst3, lst4, lst5, lst6, lsR0, lsR1, lsR2, lsR3, e_call, call1, call2, call3, call4, call5, e_callI, ofR_ok, ofR_exc, q_seq, q_nil, q_set, q_expr, q_ret, q_retN, q_if, q_par, par2, q_asg, g_n, g_tup, g_lst, g_nil, g_cons, q_store, o_add, o_sub, o_neg, o_lt, o_le, o_gt, o_ge, o_ixT, o_ixL, o_ixS, o_lenT, o_lenL, o_lenS, o_abs, o_max, o_min, o_intI, o_intB, atI_0, atI_1, atI_2, atI_3, atI_4, atI_5, atI_6, set_n, set_get, set_set, new_n, new_get, mV, List.map_cons, List.map_nil, List.length_cons, List.length_nil, List.replicate, List.cons_append, List.nil_append, List.append_nil, Option.bind_some, Option.map_some, List.getElem?_cons_zero, List.getElem?_cons_succ, List.set_cons_zero, List.set_cons_succ, if_true, if_false, Nat.reduceSub, Nat.reduceAdd, decide_true, decide_false, Bool.not_true, Bool.not_false, reduceIte, Bool.false_eq_true, eq_self, ne_eq, not_true, not_false_iff, Bool.and_true, Bool.true_and, Int.reduceEq, Int.reduceLT, Int.reduceLE, Int.reduceNe, Int.reduceAdd, Int.reduceSub, Int.reduceMul, Int.reduceNeg, String.reduceEq, Nat.reduceLT, Nat.reduceLeDiff, Nat.reduceEqDiff, ofS_inj, ofS_ok, op_v, op_1, op_1x, op_2, op_2x, o1_v, o1_1, cons_1, cons_1x, cons_2, cons_2x, fn_v, fn_1, fn_1x, not_1, and_t, and_f, or_t, or_f, ite_t, ite_f, tupQ_1, lstQ_1, lstRQ_1, call_1, call_1x, callI_1, callI_1x, set_1, set_1x, expr_1, expr_1x, ret_1, ret_1x, ifs_t, ifs_f, ifs_x, par_1, par_1x, asg_1, asg_1x, sto_a, sto_b, sto_c, ds_v, tk_v, for_1, for_1x, Row.d, o_eqS ofS_ok ofS_ok, in3 ofS_ok ofS_ok ofS_ok ofS_ok, in2 ofS_ok ofS_ok ofS_ok, Bool.or_false], .refl hB hL, rfl, rfl⟩
    | place => exact ⟨.place, g, by simp only [r_bind, r_bindX, r_bindA, r_bindAX, a_bind, a_bindX, a_bindA, a_bindAX, r_toS, r_toSX, a_toS, a_toSX, i_toS, i_toSX, s_nx, s_rt, s_bk, s_ct, s_exc, onB_bl, onBS_bl, ofO_some, asD_v, asDs_nil, asDs_cons, take1_v, takes_nil, takes_v, e_c, e_op, e_op1, e_nil, e_cons, e_fn, e_not, e_and, e_or, e_if, e_tup, e_lst, e_lstR, tup0, tup1, tup2, tup3, tup4, tup5, tup6, tup7, lst0, lst1, lst2, lst3, lst4, lst5, lst6, lsR0, lsR1, lsR2, lsR3, e_call, call1, call2, call3, call4, call5, e_callI, ofR_ok, ofR_exc, q_seq, q_nil, q_set, q_expr, q_ret, q_retN, q_if, q_par, par2, q_asg, g_n, g_tup, g_lst, g_nil, g_cons, q_store, o_add, o_sub, o_neg, o_lt, o_le, o_gt, o_ge, o_ixT, o_ixL, o_ixS, o_lenT, o_lenL, o_lenS, o_abs, o_max, o_min, o_intI, o_intB, atI_0, atI_1, atI_2, atI_3, atI_4, atI_5, atI_6, set_n, set_get, set_set, new_n, new_get, mV, List.map_cons, List.map_nil, List.length_cons, List.length_nil, List.replicate, List.cons_append, List.nil_append, List.append_nil, Option.bind_some, Option.map_some, List.getElem?_cons_zero, List.getElem?_cons_succ, List.set_cons_zero, List.set_cons_succ, if_true, if_false, Nat.reduceSub, Nat.reduceAdd, decide_true, decide_false, Bool.not_true, Bool.not_false, reduceIte, Bool.false_eq_true, eq_self, ne_eq, not_true, not_false_iff, Bool.and_true, Bool.true_and, Int.reduceEq, Int.reduceLT, Int.reduceLE, Int.reduceNe, Int.reduceAdd, Int.reduceSub, Int.reduceMul, Int.reduceNeg, String.reduceEq, Nat.reduceLT, Nat.reduceLeDiff, Nat.reduceEqDiff, ofS_inj, ofS_ok, op_v, op_1, op_1x, op_2, op_2x, o1_v, o1_1, cons_1, cons_1x, cons_2, cons_2x, fn_v, fn_1, fn_1x, not_1, and_t, and_f, or_t, or_f, ite_t, ite_f, tupQ_1, lstQ_1, lstRQ_1, call_1, call_1x, callI_1, callI_1x, set_1, set_1x, expr_1, expr_1x, ret_1, ret_1x, ifs_t, ifs_f, ifs_x, par_1, par_1x, asg_1, asg_1x, sto_a, sto_b, sto_c, ds_v, tk_v, for_1, for_1x, Row.d, o_eqS ofS_ok ofS_ok, in3 ofS_ok ofS_ok ofS_ok ofS_ok, in2 ofS_ok ofS_ok ofS_ok, Bool.or_false], .refl hB hL, rfl, rfl⟩
    | pace a b =>
      by_cases h0 : 0 < x
      · obtain ⟨y, g1, y0, y1, e1, b1⟩ := take_ok hB 2 (by decide) (by decide)
        have c1 := bx_b2 b1 hkl hL
        by_cases hy : y = 0
        · have hx1 : g1.get l = .lst [.int x] := by rw [b1.ne l hkl]; exact hx
          have ar1 := asD_r c1.left.1 hx1
          exact ⟨.pace 0 1, g1.set l (.lst [.int (x - 1)]), by simp only [r_bind, r_bindX, r_bindA, r_bindAX, a_bind, a_bindX, a_bindA, a_bindAX, r_toS, r_toSX, a_toS, a_toSX, i_toS, i_toSX, s_nx, s_rt, s_bk, s_ct, s_exc, onB_bl, onBS_bl, ofO_some, asD_v, asDs_nil, asDs_cons, take1_v, takes_nil, takes_v, e_c, e_op, e_op1, e_nil, e_cons, e_fn, e_not, e_and, e_or, e_if, e_tup, e_lst, e_lstR, tup0, tup1, tup2, tup3, tup4, tup5, tup6, tup7, lst0, lst1, lst2, lst3, lst4, lst5, lst6, lsR0, lsR1, lsR2, lsR3, e_call, call1, call2, call3, call4, call5, e_callI, ofR_ok, ofR_exc, q_seq, q_nil, q_set, q_expr, q_ret, q_retN, q_if, q_par, par2, q_asg, g_n, g_tup, g_lst, g_nil, g_cons, q_store, o_add, o_sub, o_neg, o_lt, o_le, o_gt, o_ge, o_ixT, o_ixL, o_ixS, o_lenT, o_lenL, o_lenS, o_abs, o_max, o_min, o_intI, o_intB, atI_0, atI_1, atI_2, atI_3, atI_4, atI_5, atI_6, set_n, set_get, set_set, new_n, new_get, mV, List.map_cons, List.map_nil, List.length_cons, List.length_nil, List.replicate, List.cons_append, List.nil_append, List.append_nil, Option.bind_some, Option.map_some, List.getElem?_cons_zero, List.getElem?_cons_succ, List.set_cons_zero, List.set_cons_succ, if_true, if_false, Nat.reduceSub, Nat.reduceAdd, decide_true, decide_false, Bool.not_true, Bool.not_false, reduceIte, Bool.false_eq_true, eq_self, ne_eq, not_true, not_false_iff, Bool.and_true, Bool.true_and, Int.reduceEq, Int.reduceLT, Int.reduceLE, Int.reduceNe, Int.reduceAdd, Int.reduceSub, Int.reduceMul, Int.reduceNeg, String.reduceEq, Nat.reduceLT, Nat.reduceLeDiff, Nat.reduceEqDiff, ofS_inj, ofS_ok, op_v, op_1, op_1x, op_2, op_2x, o1_v, o1_1, cons_1, cons_1x, cons_2, cons_2x, fn_v, fn_1, fn_1x, not_1, and_t, and_f, or_t, or_f, ite_t, ite_f, tupQ_1, lstQ_1, lstRQ_1, call_1, call_1x, callI_1, callI_1x, set_1, set_1x, expr_1, expr_1x, ret_1, ret_1x, ifs_t, ifs_f, ifs_x, par_1, par_1x, asg_1, asg_1x, sto_a, sto_b, sto_c, ds_v, tk_v, for_1, for_1x, Row.d, o_eqS ofS_ok ofS_ok, ar, ar1, h0, e1, o_eqI, hy, sto_1 c1.left.1 hx1], c1.trans (.set c1.box c1.left hkl _), rfl, rfl⟩
        · exact ⟨.pace a b, g1, by simp only [r_bind, r_bindX, r_bindA, r_bindAX, a_bind, a_bindX, a_bindA, a_bindAX, r_toS, r_toSX, a_toS, a_toSX, i_toS, i_toSX, s_nx, s_rt, s_bk, s_ct, s_exc, onB_bl, onBS_bl, ofO_some, asD_v, asDs_nil, asDs_cons, take1_v, takes_nil, takes_v, e_c, e_op, e_op1, e_nil, e_cons, e_fn, e_not, e_and, e_or, e_if, e_tup, e_lst, e_lstR, tup0, tup1, tup2, tup3, tup4, tup5, tup6, tup7, lst0, lst1, lst2, lst3, lst4, lst5, lst6, lsR0, lsR1, lsR2, lsR3, e_call, call1, call2, call3, call4, call5, e_callI, ofR_ok, ofR_exc, q_seq, q_nil, q_set, q_expr, q_ret, q_retN, q_if, q_par, par2, q_asg, g_n, g_tup, g_lst, g_nil, g_cons, q_store, o_add, o_sub, o_neg, o_lt, o_le, o_gt, o_ge, o_ixT, o_ixL, o_ixS, o_lenT, o_lenL, o_lenS, o_abs, o_max, o_min, o_intI, o_intB, atI_0, atI_1, atI_2, atI_3, atI_4, atI_5, atI_6, set_n, set_get, set_set, new_n, new_get, mV, List.map_cons, List.map_nil, List.length_cons, List.length_nil, List.replicate, List.cons_append, List.nil_append, List.append_nil, Option.bind_some, Option.map_some, List.getElem?_cons_zero, List.getElem?_cons_succ, List.set_cons_zero, List.set_cons_succ, if_true, if_false, Nat.reduceSub, Nat.reduceAdd, decide_true, decide_false, Bool.not_true, Bool.not_false, reduceIte, Bool.false_eq_true, eq_self, ne_eq, not_true, not_false_iff, Bool.and_true, Bool.true_and, Int.reduceEq, Int.reduceLT, Int.reduceLE, Int.reduceNe, Int.reduceAdd, Int.reduceSub, Int.reduceMul, Int.reduceNeg, String.reduceEq, Nat.reduceLT, Nat.reduceLeDiff, Nat.reduceEqDiff, ofS_inj, ofS_ok, op_v, op_1, op_1x, op_2, op_2x, o1_v, o1_1, cons_1, cons_1x, cons_2, cons_2x, fn_v, fn_1, fn_1x, not_1, and_t, and_f, or_t, or_f, ite_t, ite_f, tupQ_1, lstQ_1, lstRQ_1, call_1, call_1x, callI_1, callI_1x, set_1, set_1x, expr_1, expr_1x, ret_1, ret_1x, ifs_t, ifs_f, ifs_x, par_1, par_1x, asg_1, asg_1x, sto_a, sto_b, sto_c, ds_v, tk_v, for_1, for_1x, Row.d, o_eqS ofS_ok ofS_ok, in3 ofS_ok ofS_ok ofS_ok ofS_ok, in2 ofS_ok ofS_ok ofS_ok, ar, h0, e1, o_eqI, hy, Bool.or_false], c1, rfl, rfl⟩
      · exact ⟨.pace a b, g, by simp only [r_bind, r_bindX, r_bindA, r_bindAX, a_bind, a_bindX, a_bindA, a_bindAX, r_toS, r_toSX, a_toS, a_toSX, i_toS, i_toSX, s_nx, s_rt, s_bk, s_ct, s_exc, onB_bl, onBS_bl, ofO_some, asD_v, asDs_nil, asDs_cons, take1_v, takes_nil, takes_v, e_c, e_op, e_op1, e_nil, e_cons, e_fn, e_not, e_and, e_or, e_if, e_tup, e_lst, e_lstR, tup0, tup1, tup2, tup3, tup4, tup5, tup6, tup7, lst0, lst1, lst2, lst3, lst4, lst5, lst6, lsR0, lsR1, lsR2, lsR3, e_call, call1, call2, call3, call4, call5, e_callI, ofR_ok, ofR_exc, q_seq, q_nil, q_set, q_expr, q_ret, q_retN, q_if, q_par, par2, q_asg, g_n, g_tup, g_lst, g_nil, g_cons, q_store, o_add, o_sub, o_neg, o_lt, o_le, o_gt, o_ge, o_ixT, o_ixL, o_ixS, o_lenT, o_lenL, o_lenS, o_abs, o_max, o_min, o_intI, o_intB, atI_0, atI_1, atI_2, atI_3, atI_4, atI_5, atI_6, set_n, set_get, set_set, new_n, new_get, mV, List.map_cons, List.map_nil, List.length_cons, List.length_nil, List.replicate, List.cons_append, List.nil_append, List.append_nil, Option.bind_some, Option.map_some, List.getElem?_cons_zero, List.getElem?_cons_succ, List.set_cons_zero, List.set_cons_succ, if_true, if_false, Nat.reduceSub, Nat.reduceAdd, decide_true, decide_false, Bool.not_true, Bool.not_false, reduceIte, Bool.false_eq_true, eq_self, ne_eq, not_true, not_false_iff, Bool.and_true, Bool.true_and, Int.reduceEq, Int.reduceLT, Int.reduceLE, Int.reduceNe, Int.reduceAdd, Int.reduceSub, Int.reduceMul, Int.reduceNeg, String.reduceEq, Nat.reduceLT, Nat.reduceLeDiff, Nat.reduceEqDiff, ofS_inj, ofS_ok, op_v, op_1, op_1x, op_2, op_2x, o1_v, o1_1, cons_1, cons_1x, cons_2, cons_2x, fn_v, fn_1, fn_1x, not_1, and_t, and_f, or_t, or_f, ite_t, ite_f, tupQ_1, lstQ_1, lstRQ_1, call_1, call_1x, callI_1, callI_1x, set_1, set_1x, expr_1, expr_1x, ret_1, ret_1x, ifs_t, ifs_f, ifs_x, par_1, par_1x, asg_1, asg_1x, sto_a, sto_b, sto_c, ds_v, tk_v, for_1, for_1x, Row.d, o_eqS ofS_ok ofS_ok, in3 ofS_ok ofS_ok ofS_ok ofS_ok, in2 ofS_ok ofS_ok ofS_ok, ar, h0, Bool.or_false], .refl hB hL, rfl, rfl⟩
    | sum u v =>
      simp only [Row.dep] at hd
      obtain ⟨u', g1, e1, b1, d1, s1⟩ := ih u hB hL (by omega)
      obtain ⟨v', g2, e2, b2, d2, s2⟩ := ih v b1.box b1.left (by omega)
      exact ⟨.sum u' v', g2, by simp only [r_bind, r_bindX, r_bindA, r_bindAX, a_bind, a_bindX, a_bindA, a_bindAX, r_toS, r_toSX, a_toS, a_toSX, i_toS, i_toSX, s_nx, s_rt, s_bk, s_ct, s_exc, onB_bl, onBS_bl, ofO_some, asD_v, asDs_nil, asDs_cons, take1_v, takes_nil, takes_v, e_c, e_op, e_op1, e_nil, e_cons, e_fn, e_not, e_and, e_or, e_if, e_tup, e_lst, e_lstR, tup0, tup1, tup2, tup3, tup4, tup5, tup6, tup7, lst0, lst1, lst2, lst3, lst4, lst5, lst6, lsR0, lsR1, lsR2, lsR3, e_call, call1, call2, call3, call4, call5, e_callI, ofR_ok, ofR_exc, q_seq, q_nil, q_set, q_expr, q_ret, q_retN, q_if, q_par, par2, q_asg, g_n, g_tup, g_lst, g_nil, g_cons, q_store, o_add, o_sub, o_neg, o_lt, o_le, o_gt, o_ge, o_ixT, o_ixL, o_ixS, o_lenT, o_lenL, o_lenS, o_abs, o_max, o_min, o_intI, o_intB, atI_0, atI_1, atI_2, atI_3, atI_4, atI_5, atI_6, set_n, set_get, set_set, new_n, new_get, mV, List.map_cons, List.map_nil, List.length_cons, List.length_nil, List.replicate, List.cons_append, List.nil_append, List.append_nil, Option.bind_some, Option.map_some, List.getElem?_cons_zero, List.getElem?_cons_succ, List.set_cons_zero, List.set_cons_succ, if_true, if_false, Nat.reduceSub, Nat.reduceAdd, decide_true, decide_false, Bool.not_true, Bool.not_false, reduceIte, Bool.false_eq_true, eq_self, ne_eq, not_true, not_false_iff, Bool.and_true, Bool.true_and, Int.reduceEq, Int.reduceLT, Int.reduceLE, Int.reduceNe, Int.reduceAdd, Int.reduceSub, Int.reduceMul, Int.reduceNeg, String.reduceEq, Nat.reduceLT, Nat.reduceLeDiff, Nat.reduceEqDiff, ofS_inj, ofS_ok, op_v, op_1, op_1x, op_2, op_2x, o1_v, o1_1, cons_1, cons_1x, cons_2, cons_2x, fn_v, fn_1, fn_1x, not_1, and_t, and_f, or_t, or_f, ite_t, ite_f, tupQ_1, lstQ_1, lstRQ_1, call_1, call_1x, callI_1, callI_1x, set_1, set_1x, expr_1, expr_1x, ret_1, ret_1x, ifs_t, ifs_f, ifs_x, par_1, par_1x, asg_1, asg_1x, sto_a, sto_b, sto_c, ds_v, tk_v, for_1, for_1x, Row.d, o_eqS ofS_ok ofS_ok, in3 ofS_ok ofS_ok ofS_ok ofS_ok, e1, e2, Bool.or_false, Bool.true_or], b1.trans b2, by simp only [Row.dep, d1, d2], by simp only [Row.size, s1, s2]⟩
    | less u v =>
      simp only [Row.dep] at hd
      obtain ⟨u', g1, e1, b1, d1, s1⟩ := ih u hB hL (by omega)
      obtain ⟨v', g2, e2, b2, d2, s2⟩ := ih v b1.box b1.left (by omega)
      exact ⟨.less u' v', g2, by simp only [r_bind, r_bindX, r_bindA, r_bindAX, a_bind, a_bindX, a_bindA, a_bindAX, r_toS, r_toSX, a_toS, a_toSX, i_toS, i_toSX, s_nx, s_rt, s_bk, s_ct, s_exc, onB_bl, onBS_bl, ofO_some, asD_v, asDs_nil, asDs_cons, take1_v, takes_nil, takes_v, e_c, e_op, e_op1, e_nil, e_cons, e_fn, e_not, e_and, e_or, e_if, e_tup, e_lst, e_lstR, tup0, tup1, tup2, tup3, tup4, tup5, tup6, tup7, lst0, lst1, lst2, lst3, lst4, lst5, lst6, lsR0, lsR1, lsR2, lsR3, e_call, call1, call2, call3, call4, call5, e_callI, ofR_ok, ofR_exc, q_seq, q_nil, q_set, q_expr, q_ret, q_retN, q_if, q_par, par2, q_asg, g_n, g_tup, g_lst, g_nil, g_cons, q_store, o_add, o_sub, o_neg, o_lt, o_le, o_gt, o_ge, o_ixT, o_ixL, o_ixS, o_lenT, o_lenL, o_lenS, o_abs, o_max, o_min, o_intI, o_intB, atI_0, atI_1, atI_2, atI_3, atI_4, atI_5, atI_6, set_n, set_get, set_set, new_n, new_get, mV, List.map_cons, List.map_nil, List.length_cons, List.length_nil, List.replicate, List.cons_append, List.nil_append, List.append_nil, Option.bind_some, Option.map_some, List.getElem?_cons_zero, List.getElem?_cons_succ, List.set_cons_zero, List.set_cons_succ, if_true, if_false, Nat.reduceSub, Nat.reduceAdd, decide_true, decide_false, Bool.not_true, Bool.not_false, reduceIte, Bool.false_eq_true, eq_self, ne_eq, not_true, not_false_iff, Bool.and_true, Bool.true_and, Int.reduceEq, Int.reduceLT, Int.reduceLE, Int.reduceNe, Int.reduceAdd, Int.reduceSub, Int.reduceMul, Int.reduceNeg, String.reduceEq, Nat.reduceLT, Nat.reduceLeDiff, Nat.reduceEqDiff, ofS_inj, ofS_ok, op_v, op_1, op_1x, op_2, op_2x, o1_v, o1_1, cons_1, cons_1x, cons_2, cons_2x, fn_v, fn_1, fn_1x, not_1, and_t, and_f, or_t, or_f, ite_t, ite_f, tupQ_1, lstQ_1, lstRQ_1, call_1, call_1x, callI_1, callI_1x, set_1, set_1x, expr_1, expr_1x, ret_1, ret_1x, ifs_t, ifs_f, ifs_x, par_1, par_1x, asg_1, asg_1x, sto_a, sto_b, sto_c, ds_v, tk_v, for_1, for_1x, Row.d, o_eqS ofS_ok ofS_ok, in3 ofS_ok ofS_ok ofS_ok ofS_ok, e1, e2, Bool.or_false, Bool.true_or, Bool.false_or], b1.trans b2, by simp only [Row.dep, d1, d2], by simp only [Row.size, s1, s2]⟩
    | times u v =>
      simp only [Row.dep] at hd
      obtain ⟨u', g1, e1, b1, d1, s1⟩ := ih u hB hL (by omega)
      obtain ⟨v', g2, e2, b2, d2, s2⟩ := ih v b1.box b1.left (by omega)
      exact ⟨.times u' v', g2, by simp only [r_bind, r_bindX, r_bindA, r_bindAX, a_bind, a_bindX, a_bindA, a_bindAX, r_toS, r_toSX, a_toS, a_toSX, i_toS, i_toSX, s_nx, s_rt, s_bk, s_ct, s_exc, onB_bl, onBS_bl, ofO_some, asD_v, asDs_nil, asDs_cons, take1_v, takes_nil, takes_v, e_c, e_op, e_op1, e_nil, e_cons, e_fn, e_not, e_and, e_or, e_if, e_tup, e_lst, e_lstR, tup0, tup1, tup2, tup3, tup4, tup5, tup6, tup7, lst0, lst1, lst2, lst3, lst4, lst5, lst6, lsR0, lsR1, lsR2, lsR3, e_call, call1, call2, call3, call4, call5, e_callI, ofR_ok, ofR_exc, q_seq, q_nil, q_set, q_expr, q_ret, q_retN, q_if, q_par, par2, q_asg, g_n, g_tup, g_lst, g_nil, g_cons, q_store, o_add, o_sub, o_neg, o_lt, o_le, o_gt, o_ge, o_ixT, o_ixL, o_ixS, o_lenT, o_lenL, o_lenS, o_abs, o_max, o_min, o_intI, o_intB, atI_0, atI_1, atI_2, atI_3, atI_4, atI_5, atI_6, set_n, set_get, set_set, new_n, new_get, mV, List.map_cons, List.map_nil, List.length_cons, List.length_nil, List.replicate, List.cons_append, List.nil_append, List.append_nil, Option.bind_some, Option.map_some, List.getElem?_cons_zero, List.getElem?_cons_succ, List.set_cons_zero, List.set_cons_succ, if_true, if_false, Nat.reduceSub, Nat.reduceAdd, decide_true, decide_false, Bool.not_true, Bool.not_false, reduceIte, Bool.false_eq_true, eq_self, ne_eq, not_true, not_false_iff, Bool.and_true, Bool.true_and, Int.reduceEq, Int.reduceLT, Int.reduceLE, Int.reduceNe, Int.reduceAdd, Int.reduceSub, Int.reduceMul, Int.reduceNeg, String.reduceEq, Nat.reduceLT, Nat.reduceLeDiff, Nat.reduceEqDiff, ofS_inj, ofS_ok, op_v, op_1, op_1x, op_2, op_2x, o1_v, o1_1, cons_1, cons_1x, cons_2, cons_2x, fn_v, fn_1, fn_1x, not_1, and_t, and_f, or_t, or_f, ite_t, ite_f, tupQ_1, lstQ_1, lstRQ_1, call_1, call_1x, callI_1, callI_1x, set_1, set_1x, expr_1, expr_1x, ret_1, ret_1x, ifs_t, ifs_f, ifs_x, par_1, par_1x, asg_1, asg_1x, sto_a, sto_b, sto_c, ds_v, tk_v, for_1, for_1x, Row.d, o_eqS ofS_ok ofS_ok, in3 ofS_ok ofS_ok ofS_ok ofS_ok, e1, e2, Bool.or_false, Bool.true_or, Bool.false_or], b1.trans b2, by simp only [Row.dep, d1, d2], by simp only [Row.size, s1, s2]⟩
    | heap u =>
      simp only [Row.dep] at hd
      obtain ⟨u', g1, e1, b1, d1, s1⟩ := ih u hB hL (by omega)
      exact ⟨.heap u', g1, by simp only [r_bind, r_bindX, r_bindA, r_bindAX, a_bind, a_bindX, a_bindA, a_bindAX, r_toS, r_toSX, a_toS, a_toSX, i_toS, i_toSX, s_nx, s_rt, s_bk, s_ct, s_exc, onB_bl, onBS_bl, ofO_some, asD_v, asDs_nil, asDs_cons, take1_v, takes_nil, takes_v, e_c, e_op, e_op1, e_nil, e_cons, e_fn, e_not, e_and, e_or, e_if, e_tup, e_lst, e_lstR, tup0, tup1, tup2, tup3, tup4, tup5, tup6, tup7, lst0, lst1, lst2, lst3, lst4, lst5, lst6, lsR0, lsR1, lsR2, lsR3, e_call, call1, call2, call3, call4, call5, e_callI, ofR_ok, ofR_exc, q_seq, q_nil, q_set, q_expr, q_ret, q_retN, q_if, q_par, par2, q_asg, g_n, g_tup, g_lst, g_nil, g_cons, q_store, o_add, o_sub, o_neg, o_lt, o_le, o_gt, o_ge, o_ixT, o_ixL, o_ixS, o_lenT, o_lenL, o_lenS, o_abs, o_max, o_min, o_intI, o_intB, atI_0, atI_1, atI_2, atI_3, atI_4, atI_5, atI_6, set_n, set_get, set_set, new_n, new_get, mV, List.map_cons, List.map_nil, List.length_cons, List.length_nil, List.replicate, List.cons_append, List.nil_append, List.append_nil, Option.bind_some, Option.map_some, List.getElem?_cons_zero, List.getElem?_cons_succ, List.set_cons_zero, List.set_cons_succ, if_true, if_false, Nat.reduceSub, Nat.reduceAdd, decide_true, decide_false, Bool.not_true, Bool.not_false, reduceIte, Bool.false_eq_true, eq_self, ne_eq, not_true, not_false_iff, Bool.and_true, Bool.true_and, Int.reduceEq, Int.reduceLT, Int.reduceLE, Int.reduceNe, Int.reduceAdd, Int.reduceSub, Int.reduceMul, Int.reduceNeg, String.reduceEq, Nat.reduceLT, Nat.reduceLeDiff, Nat.reduceEqDiff, ofS_inj, ofS_ok, op_v, op_1, op_1x, op_2, op_2x, o1_v, o1_1, cons_1, cons_1x, cons_2, cons_2x, fn_v, fn_1, fn_1x, not_1, and_t, and_f, or_t, or_f, ite_t, ite_f, tupQ_1, lstQ_1, lstRQ_1, call_1, call_1x, callI_1, callI_1x, set_1, set_1x, expr_1, expr_1x, ret_1, ret_1x, ifs_t, ifs_f, ifs_x, par_1, par_1x, asg_1, asg_1x, sto_a, sto_b, sto_c, ds_v, tk_v, for_1, for_1x, Row.d, o_eqS ofS_ok ofS_ok, in3 ofS_ok ofS_ok ofS_ok ofS_ok, in2 ofS_ok ofS_ok ofS_ok, e1, Bool.or_false, Bool.true_or, Bool.false_or], b1, by simp only [Row.dep, d1], by simp only [Row.size, s1]⟩
    | on u =>
      simp only [Row.dep] at hd
      obtain ⟨u', g1, e1, b1, d1, s1⟩ := ih u hB hL (by omega)
      exact ⟨.on u', g1, by simp only [r_bind, r_bindX, r_bindA, r_bindAX, a_bind, a_bindX, a_bindA, a_bindAX, r_toS, r_toSX, a_toS, a_toSX, i_toS, i_toSX, s_nx, s_rt, s_bk, s_ct, s_exc, onB_bl, onBS_bl, ofO_some, asD_v, asDs_nil, asDs_cons, take1_v, takes_nil, takes_v, e_c, e_op, e_op1, e_nil, e_cons, e_fn, e_not, e_and, e_or, e_if, e_tup, e_lst, e_lstR, tup0, tup1, tup2, tup3, tup4, tup5, tup6, tup7, lst0, lst1, lst2, lst3, lst4, lst5, lst6, lsR0, lsR1, lsR2, lsR3, e_call, call1, call2, call3, call4, call5, e_callI, ofR_ok, ofR_exc, q_seq, q_nil, q_set, q_expr, q_ret, q_retN, q_if, q_par, par2, q_asg, g_n, g_tup, g_lst, g_nil, g_cons, q_store, o_add, o_sub, o_neg, o_lt, o_le, o_gt, o_ge, o_ixT, o_ixL, o_ixS, o_lenT, o_lenL, o_lenS, o_abs, o_max, o_min, o_intI, o_intB, atI_0, atI_1, atI_2, atI_3, atI_4, atI_5, atI_6, set_n, set_get, set_set, new_n, new_get, mV, List.map_cons, List.map_nil, List.length_cons, List.length_nil, List.replicate, List.cons_append, List.nil_append, List.append_nil, Option.bind_some, Option.map_some, List.getElem?_cons_zero, List.getElem?_cons_succ, List.set_cons_zero, List.set_cons_succ, if_true, if_false, Nat.reduceSub, Nat.reduceAdd, decide_true, decide_false, Bool.not_true, Bool.not_false, reduceIte, Bool.false_eq_true, eq_self, ne_eq, not_true, not_false_iff, Bool.and_true, Bool.true_and, Int.reduceEq, Int.reduceLT, Int.reduceLE, Int.reduceNe, Int.reduceAdd, Int.reduceSub, Int.reduceMul, Int.reduceNeg, String.reduceEq, Nat.reduceLT, Nat.reduceLeDiff, Nat.reduceEqDiff, ofS_inj, ofS_ok, op_v, op_1, op_1x, op_2, op_2x, o1_v, o1_1, cons_1, cons_1x, cons_2, cons_2x, fn_v, fn_1, fn_1x, not_1, and_t, and_f, or_t, or_f, ite_t, ite_f, tupQ_1, lstQ_1, lstRQ_1, call_1, call_1x, callI_1, callI_1x, set_1, set_1x, expr_1, expr_1x, ret_1, ret_1x, ifs_t, ifs_f, ifs_x, par_1, par_1x, asg_1, asg_1x, sto_a, sto_b, sto_c, ds_v, tk_v, for_1, for_1x, Row.d, o_eqS ofS_ok ofS_ok, in3 ofS_ok ofS_ok ofS_ok ofS_ok, in2 ofS_ok ofS_ok ofS_ok, e1, Bool.or_false, Bool.true_or, Bool.false_or], b1, by simp only [Row.dep, d1], by simp only [Row.size, s1]⟩
    | over u p q =>
      simp only [Row.dep] at hd
      have hsl : oSl (.tup [.str "over", u.d, .int p, .int q]) (some 2) none = some (.tup [.int p, .int q]) := rfl
      have as1 : ∀ (fr : Fr) (g : GH) (a b : D), asgR (gT (gsCons (gN 5) (gsCons (gN 6) gsNil))) fr (.v (.tup [a, b])) g = .nx ((fr.set 5 (some (.v a))).set 6 (some (.v b))) g := fun _ _ _ _ => asg_v rfl
      by_cases h0 : 0 < x
      · obtain ⟨y, g1, y0, y1, e1, b1⟩ := take_ok hB 2 (by decide) (by decide)
        have c1 := bx_b2 b1 hkl hL
        by_cases hy : y = 0
        · have hx1 : g1.get l = .lst [.int x] := by rw [b1.ne l hkl]; exact hx
          have ar1 := asD_r c1.left.1 hx1
          have c2 := c1.trans (.set c1.box c1.left hkl (x - 1))
          obtain ⟨z1, g3, z10, z11, e3, b3⟩ := take_ok c2.box 2 (by decide) (by decide)
          have : ∃ m : Int, atI [(D.int 3), .int 12] z1 = some (.int m) ∧ 0 < m ∧ m ≤ 12 := by
            rcases (show z1 = 0 ∨ z1 = 1 by omega) with rfl | rfl
            · exact ⟨3, atI_0, by decide, by decide⟩
            · exact ⟨12, atI_1, by decide, by decide⟩
          obtain ⟨m, hm, m0, m1⟩ := this
          obtain ⟨z2, g4, z20, z21, e4, b4⟩ := take_ok b3.at_ m m0 (by omega)
          obtain ⟨z3, g5, z30, z31, e5, b5⟩ := take_ok b4.at_ 2 (by decide) (by decide)
          have : ∃ m : Int, atI [(D.int 6), .int 60] z3 = some (.int m) ∧ 0 < m ∧ m ≤ 60 := by
            rcases (show z3 = 0 ∨ z3 = 1 by omega) with rfl | rfl
            · exact ⟨6, atI_0, by decide, by decide⟩
            · exact ⟨60, atI_1, by decide, by decide⟩
          obtain ⟨m', hm', m0', m1'⟩ := this
          obtain ⟨z4, g6, z40, z41, e6, b6⟩ := take_ok b5.at_ m' m0' (by omega)
          obtain ⟨z5, g7, z50, z51, e7, b7⟩ := take_ok b6.at_ 6 (by decide) (by decide)
          have hmul : oMul (.int (1 + z2)) (.int (1 + z4)) = some (.int ((1 + z2) * (1 + z4))) := o_mul (mulOk_s (by omega))
          have : ∃ p' q' : Int, atI [D.tup [.int 0, .int 1], .tup [.int (0 - (1 + z2)), .int 5], .tup [.int (1 + z2), .int (0 - (1 + z2) * (1 + z4))], .tup [.int (1 + z2), .int 0], .tup [.int 3, .int (-5)], .tup [.int (-1), .int (-1)]] z5 = some (.tup [.int p', .int q']) := by
            rcases (show z5 = 0 ∨ z5 = 1 ∨ z5 = 2 ∨ z5 = 3 ∨ z5 = 4 ∨ z5 = 5 by omega) with rfl | rfl | rfl | rfl | rfl | rfl
            · exact ⟨_, _, atI_0⟩
            · exact ⟨_, _, atI_1⟩
            · exact ⟨_, _, atI_2⟩
            · exact ⟨_, _, atI_3⟩
            · exact ⟨_, _, atI_4⟩
            · exact ⟨_, _, atI_5⟩
          obtain ⟨p', q', hpq⟩ := this
          have c7 := c2.trans (bx_b2 ((((b3.trans b4).trans b5).trans b6).trans b7) hkl c2.left)
          obtain ⟨u', g8, e8, b8, d8, s8⟩ := ih u c7.box c7.left (by omega)
          exact ⟨.over u' p' q', g8, by simp only [r_bind, r_bindX, r_bindA, r_bindAX, a_bind, a_bindX, a_bindA, a_bindAX, r_toS, r_toSX, a_toS, a_toSX, i_toS, i_toSX, s_nx, s_rt, s_bk, s_ct, s_exc, onB_bl, onBS_bl, ofO_some, asD_v, asDs_nil, asDs_cons, take1_v, takes_nil, takes_v, e_c, e_op, e_op1, e_nil, e_cons, e_fn, e_not, e_and, e_or, e_if, e_tup, e_lst, e_lstR, tup0, tup1, tup2, tup3, tup4, tup5, tup6, tup7, lst0, lst1, lst2, lst3, lst4, lst5, lst6, lsR0, lsR1, lsR2, lsR3, e_call, call1, call2, call3, call4, call5, e_callI, ofR_ok, ofR_exc, q_seq, q_nil, q_set, q_expr, q_ret, q_retN, q_if, q_par, par2, q_asg, g_n, g_tup, g_lst, g_nil, g_cons, q_store, o_add, o_sub, o_neg, o_lt, o_le, o_gt, o_ge, o_ixT, o_ixL, o_ixS, o_lenT, o_lenL, o_lenS, o_abs, o_max, o_min, o_intI, o_intB, atI_0, atI_1, atI_2, atI_3, atI_4, atI_5, atI_6, set_n, set_get, set_set, new_n, new_get, mV, List.map_cons, List.map_nil, List.length_cons, List.length_nil, List.replicate, List.cons_append, List.nil_append, List.append_nil, Option.bind_some, Option.map_some, List.getElem?_cons_zero, List.getElem?_cons_succ, List.set_cons_zero, List.set_cons_succ, if_true, if_false, Nat.reduceSub, Nat.reduceAdd, decide_true, decide_false, Bool.not_true, Bool.not_false, reduceIte, Bool.false_eq_true, eq_self, ne_eq, not_true, not_false_iff, Bool.and_true, Bool.true_and, Int.reduceEq, Int.reduceLT, Int.reduceLE, Int.reduceNe, Int.reduceAdd, Int.reduceSub, Int.reduceMul, Int.reduceNeg, String.reduceEq, Nat.reduceLT, Nat.reduceLeDiff, Nat.reduceEqDiff, ofS_inj, ofS_ok, op_v, op_1, op_1x, op_2, op_2x, o1_v, o1_1, cons_1, cons_1x, cons_2, cons_2x, fn_v, fn_1, fn_1x, not_1, and_t, and_f, or_t, or_f, ite_t, ite_f, tupQ_1, lstQ_1, lstRQ_1, call_1, call_1x, callI_1, callI_1x, set_1, set_1x, expr_1, expr_1x, ret_1, ret_1x, ifs_t, ifs_f, ifs_x, par_1, par_1x, asg_1, asg_1x, sto_a, sto_b, sto_c, ds_v, tk_v, for_1, for_1x, Row.d, o_eqS ofS_ok ofS_ok, in3 ofS_ok ofS_ok ofS_ok ofS_ok, in2 ofS_ok ofS_ok ofS_ok, mSl, mPart, hsl, as1, ar, ar1, h0, e1, o_eqI, hy, sto_1 c1.left.1 hx1, e3, hm, e4, e5, hm', e6, hmul, e7, hpq, e8, Bool.or_false], c7.trans b8, by simp only [Row.dep, d8], by simp only [Row.size, s8]⟩
        · obtain ⟨u', g8, e8, b8, d8, s8⟩ := ih u c1.box c1.left (by omega)
          exact ⟨.over u' p q, g8, by simp only [r_bind, r_bindX, r_bindA, r_bindAX, a_bind, a_bindX, a_bindA, a_bindAX, r_toS, r_toSX, a_toS, a_toSX, i_toS, i_toSX, s_nx, s_rt, s_bk, s_ct, s_exc, onB_bl, onBS_bl, ofO_some, asD_v, asDs_nil, asDs_cons, take1_v, takes_nil, takes_v, e_c, e_op, e_op1, e_nil, e_cons, e_fn, e_not, e_and, e_or, e_if, e_tup, e_lst, e_lstR, tup0, tup1, tup2, tup3, tup4, tup5, tup6, tup7, lst0, lst1, lst2, lst3, lst4, lst5, lst6, lsR0, lsR1, lsR2, lsR3, e_call, call1, call2, call3, call4, call5, e_callI, ofR_ok, ofR_exc, q_seq, q_nil, q_set, q_expr, q_ret, q_retN, q_if, q_par, par2, q_asg, g_n, g_tup, g_lst, g_nil, g_cons, q_store, o_add, o_sub, o_neg, o_lt, o_le, o_gt, o_ge, o_ixT, o_ixL, o_ixS, o_lenT, o_lenL, o_lenS, o_abs, o_max, o_min, o_intI, o_intB, atI_0, atI_1, atI_2, atI_3, atI_4, atI_5, atI_6, set_n, set_get, set_set, new_n, new_get, mV, List.map_cons, List.map_nil, List.length_cons, List.length_nil, List.replicate, List.cons_append, List.nil_append, List.append_nil, Option.bind_some, Option.map_some, List.getElem?_cons_zero, List.getElem?_cons_succ, List.set_cons_zero, List.set_cons_succ, if_true, if_false, Nat.reduceSub, Nat.reduceAdd, decide_true, decide_false, Bool.not_true, Bool.not_false, reduceIte, Bool.false_eq_true, eq_self, ne_eq, not_true, not_false_iff, Bool.and_true, Bool.true_and, Int.reduceEq, Int.reduceLT, Int.reduceLE, Int.reduceNe, Int.reduceAdd, Int.reduceSub, Int.reduceMul, Int.reduceNeg, String.reduceEq, Nat.reduceLT, Nat.reduceLeDiff, Nat.reduceEqDiff, ofS_inj, ofS_ok, op_v, op_1, op_1x, op_2, op_2x, o1_v, o1_1, cons_1, cons_1x, cons_2, cons_2x, fn_v, fn_1, fn_1x, not_1, and_t, and_f, or_t, or_f, ite_t, ite_f, tupQ_1, lstQ_1, lstRQ_1, call_1, call_1x, callI_1, callI_1x, set_1, set_1x, expr_1, expr_1x, ret_1, ret_1x, ifs_t, ifs_f, ifs_x, par_1, par_1x, asg_1, asg_1x, sto_a, sto_b, sto_c, ds_v, tk_v, for_1, for_1x, Row.d, o_eqS ofS_ok ofS_ok, in3 ofS_ok ofS_ok ofS_ok ofS_ok, in2 ofS_ok ofS_ok ofS_ok, mSl, mPart, hsl, as1, ar, h0, e1, o_eqI, hy, e8, Bool.or_false], c1.trans b8, by simp only [Row.dep, d8], by simp only [Row.size, s8]⟩
      · obtain ⟨u', g8, e8, b8, d8, s8⟩ := ih u hB hL (by omega)
        exact ⟨.over u' p q, g8, by simp only [r_bind, r_bindX, r_bindA, r_bindAX, a_bind, a_bindX, a_bindA, a_bindAX, r_toS, r_toSX, a_toS, a_toSX, i_toS, i_toSX, s_nx, s_rt, s_bk, s_ct, s_exc, onB_bl, onBS_bl, ofO_some, asD_v, asDs_nil, asDs_cons, take1_v, takes_nil, takes_v, e_c, e_op, e_op1, e_nil, e_cons, e_fn, e_not, e_and, e_or, e_if, e_tup, e_lst, e_lstR, tup0, tup1, tup2, tup3, tup4, tup5, tup6, tup7, lst0, lst1, lst2, lst3, lst4, lst5, lst6, lsR0, lsR1, lsR2, lsR3, e_call, call1, call2, call3, call4, call5, e_callI, ofR_ok, ofR_exc, q_seq, q_nil, q_set, q_expr, q_ret, q_retN, q_if, q_par, par2, q_asg, g_n, g_tup, g_lst, g_nil, g_cons, q_store, o_add, o_sub, o_neg, o_lt, o_le, o_gt, o_ge, o_ixT, o_ixL, o_ixS, o_lenT, o_lenL, o_lenS, o_abs, o_max, o_min, o_intI, o_intB, atI_0, atI_1, atI_2, atI_3, atI_4, atI_5, atI_6, set_n, set_get, set_set, new_n, new_get, mV, List.map_cons, List.map_nil, List.length_cons, List.length_nil, List.replicate, List.cons_append, List.nil_append, List.append_nil, Option.bind_some, Option.map_some, List.getElem?_cons_zero, List.getElem?_cons_succ, List.set_cons_zero, List.set_cons_succ, if_true, if_false, Nat.reduceSub, Nat.reduceAdd, decide_true, decide_false, Bool.not_true, Bool.not_false, reduceIte, Bool.false_eq_true, eq_self, ne_eq, not_true, not_false_iff, Bool.and_true, Bool.true_and, Int.reduceEq, Int.reduceLT, Int.reduceLE, Int.reduceNe, Int.reduceAdd, Int.reduceSub, Int.reduceMul, Int.reduceNeg, String.reduceEq, Nat.reduceLT, Nat.reduceLeDiff, Nat.reduceEqDiff, ofS_inj, ofS_ok, op_v, op_1, op_1x, op_2, op_2x, o1_v, o1_1, cons_1, cons_1x, cons_2, cons_2x, fn_v, fn_1, fn_1x, not_1, and_t, and_f, or_t, or_f, ite_t, ite_f, tupQ_1, lstQ_1, lstRQ_1, call_1, call_1x, callI_1, callI_1x, set_1, set_1x, expr_1, expr_1x, ret_1, ret_1x, ifs_t, ifs_f, ifs_x, par_1, par_1x, asg_1, asg_1x, sto_a, sto_b, sto_c, ds_v, tk_v, for_1, for_1x, Row.d, o_eqS ofS_ok ofS_ok, in3 ofS_ok ofS_ok ofS_ok ofS_ok, in2 ofS_ok ofS_ok ofS_ok, mSl, mPart, hsl, as1, ar, h0, e8, Bool.or_false], b8, by simp only [Row.dep, d8], by simp only [Row.size, s8]⟩
def Row.amiss : Row → Option String
  | .pace a _ => if a = 0 then some "pace" else none
  | .over _ p q => if p < 1 then some "line" else if q < 0 ∧ (-q) % p = 0 then some "nought" else none
  | _ => none
def am : Option String → D
  | none => .non
  | some w => .str (Str.ofString w)
theorem good_amiss {r : Row} (h : r.good) : r.amiss = none := by
  cases r <;> first | rfl | skip
  · rename_i a b
    exact if_neg h
  · rename_i x p q
    obtain ⟨_, h1, h2⟩ := h
    simp only [Row.amiss]
    rw [if_neg (by omega), if_neg h2]
theorem good_things {r : Row} : r.good → ∀ p ∈ r.things, p.good := by
  induction r with
  | num a b => intro h p hp; simp [Row.things] at hp; subst hp; trivial
  | place => intro h p hp; simp [Row.things] at hp; subst hp; trivial
  | pace a b => intro h p hp; simp [Row.things] at hp; subst hp; exact h
  | sum u v hu hv =>
    intro h p hp
    simp [Row.things] at hp
    rcases hp with rfl | hp | hp
    · exact h
    · exact hu h.1 p hp
    · exact hv h.2 p hp
  | less u v hu hv =>
    intro h p hp
    simp [Row.things] at hp
    rcases hp with rfl | hp | hp
    · exact h
    · exact hu h.1 p hp
    · exact hv h.2 p hp
  | times u v hu hv =>
    intro h p hp
    simp [Row.things] at hp
    rcases hp with rfl | hp | hp
    · exact h
    · exact hu h.1 p hp
    · exact hv h.2 p hp
  | over u p' q hu =>
    intro h p hp
    simp [Row.things] at hp
    rcases hp with rfl | hp
    · exact h
    · exact hu h.1 p hp
  | heap u hu =>
    intro h p hp
    simp [Row.things] at hp
    rcases hp with rfl | hp
    · exact h
    · exact hu h p hp
  | on u hu =>
    intro h p hp
    simp [Row.things] at hp
    rcases hp with rfl | hp
    · exact h
    · exact hu h p hp
theorem wrong_ok (r : Row) : d_wrong_with [r.d] = .ok (am r.amiss) := by
  have as1 : ∀ (fr : Fr) (g : GH) (x : D) (xs : List D), xs.length < 16384 → asgR (gT1 (gN 1) (gN 2)) fr (.v (.tup (x :: xs))) g = .nx ((fr.set 1 (some (.v x))).set 2 (some (.v (.lst xs)))) g := fun fr g x xs h => asg_v (by show (if xs.length < 16384 then _ else none) = _; rw [if_pos h]; rfl)
  have a0 : ∀ (fr : Fr) (g : GH) (x : D), asgR (gT1 (gN 1) (gN 2)) fr (.v (.tup [x])) g = .nx ((fr.set 1 (some (.v x))).set 2 (some (.v (.lst [])))) g := fun fr g x => as1 fr g x [] (by simp)
  have a1 : ∀ (fr : Fr) (g : GH) (x a : D), asgR (gT1 (gN 1) (gN 2)) fr (.v (.tup [x, a])) g = .nx ((fr.set 1 (some (.v x))).set 2 (some (.v (.lst [a])))) g := fun fr g x a => as1 fr g x [a] (by simp)
  have a2 : ∀ (fr : Fr) (g : GH) (x a b : D), asgR (gT1 (gN 1) (gN 2)) fr (.v (.tup [x, a, b])) g = .nx ((fr.set 1 (some (.v x))).set 2 (some (.v (.lst [a, b])))) g := fun fr g x a b => as1 fr g x [a, b] (by simp)
  have a3 : ∀ (fr : Fr) (g : GH) (x a b c : D), asgR (gT1 (gN 1) (gN 2)) fr (.v (.tup [x, a, b, c])) g = .nx ((fr.set 1 (some (.v x))).set 2 (some (.v (.lst [a, b, c])))) g := fun fr g x a b c => as1 fr g x [a, b, c] (by simp)
  have as2 : ∀ (fr : Fr) (g : GH) (a b : D), asgR (gT (gsCons (gN 3) (gsCons (gN 4) gsNil))) fr (.v (.lst [a, b])) g = .nx ((fr.set 3 (some (.v a))).set 4 (some (.v b))) g := fun _ _ _ _ => asg_v rfl
  unfold d_wrong_with b_wrong_with
  refine runP_rt (g1 := GH.nil) ?_
  cases r with
  | pace a b =>
    by_cases h : a = 0
    · simp only [r_bind, r_bindX, r_bindA, r_bindAX, a_bind, a_bindX, a_bindA, a_bindAX, r_toS, r_toSX, a_toS, a_toSX, i_toS, i_toSX, s_nx, s_rt, s_bk, s_ct, s_exc, onB_bl, onBS_bl, ofO_some, asD_v, asDs_nil, asDs_cons, take1_v, takes_nil, takes_v, e_c, e_op, e_op1, e_nil, e_cons, e_fn, e_not, e_and, e_or, e_if, e_tup, e_lst, e_lstR, tup0, tup1, tup2, tup3, tup4, tup5, tup6, tup7, lst0, lst1, lst2, lst3, lst4, lst5, lst6, lsR0, lsR1, lsR2, lsR3, e_call, call1, call2, call3, call4, call5, e_callI, ofR_ok, ofR_exc, q_seq, q_nil, q_set, q_expr, q_ret, q_retN, q_if, q_par, par2, q_asg, g_n, g_tup, g_lst, g_nil, g_cons, q_store, o_add, o_sub, o_neg, o_lt, o_le, o_gt, o_ge, o_ixT, o_ixL, o_ixS, o_lenT, o_lenL, o_lenS, o_abs, o_max, o_min, o_intI, o_intB, atI_0, atI_1, atI_2, atI_3, atI_4, atI_5, atI_6, set_n, set_get, set_set, new_n, new_get, mV, List.map_cons, List.map_nil, List.length_cons, List.length_nil, List.replicate, List.cons_append, List.nil_append, List.append_nil, Option.bind_some, Option.map_some, List.getElem?_cons_zero, List.getElem?_cons_succ, List.set_cons_zero, List.set_cons_succ, if_true, if_false, Nat.reduceSub, Nat.reduceAdd, decide_true, decide_false, Bool.not_true, Bool.not_false, reduceIte, Bool.false_eq_true, eq_self, ne_eq, not_true, not_false_iff, Bool.and_true, Bool.true_and, Int.reduceEq, Int.reduceLT, Int.reduceLE, Int.reduceNe, Int.reduceAdd, Int.reduceSub, Int.reduceMul, Int.reduceNeg, String.reduceEq, Nat.reduceLT, Nat.reduceLeDiff, Nat.reduceEqDiff, ofS_inj, ofS_ok, op_v, op_1, op_1x, op_2, op_2x, o1_v, o1_1, cons_1, cons_1x, cons_2, cons_2x, fn_v, fn_1, fn_1x, not_1, and_t, and_f, or_t, or_f, ite_t, ite_f, tupQ_1, lstQ_1, lstRQ_1, call_1, call_1x, callI_1, callI_1x, set_1, set_1x, expr_1, expr_1x, ret_1, ret_1x, ifs_t, ifs_f, ifs_x, par_1, par_1x, asg_1, asg_1x, sto_a, sto_b, sto_c, ds_v, tk_v, for_1, for_1x, Row.d, a0, a1, a2, a3, o_eqS ofS_ok ofS_ok, o_neS ofS_ok ofS_ok, o_eqI, h, Row.amiss, am]
    · simp only [r_bind, r_bindX, r_bindA, r_bindAX, a_bind, a_bindX, a_bindA, a_bindAX, r_toS, r_toSX, a_toS, a_toSX, i_toS, i_toSX, s_nx, s_rt, s_bk, s_ct, s_exc, onB_bl, onBS_bl, ofO_some, asD_v, asDs_nil, asDs_cons, take1_v, takes_nil, takes_v, e_c, e_op, e_op1, e_nil, e_cons, e_fn, e_not, e_and, e_or, e_if, e_tup, e_lst, e_lstR, tup0, tup1, tup2, tup3, tup4, tup5, tup6, tup7, lst0, lst1, lst2, lst3, lst4, lst5, lst6, lsR0, lsR1, lsR2, lsR3, e_call, call1, call2, call3, call4, call5, e_callI, ofR_ok, ofR_exc, q_seq, q_nil, q_set, q_expr, q_ret, q_retN, q_if, q_par, par2, q_asg, g_n, g_tup, g_lst, g_nil, g_cons, q_store, o_add, o_sub, o_neg, o_lt, o_le, o_gt, o_ge, o_ixT, o_ixL, o_ixS, o_lenT, o_lenL, o_lenS, o_abs, o_max, o_min, o_intI, o_intB, atI_0, atI_1, atI_2, atI_3, atI_4, atI_5, atI_6, set_n, set_get, set_set, new_n, new_get, mV, List.map_cons, List.map_nil, List.length_cons, List.length_nil, List.replicate, List.cons_append, List.nil_append, List.append_nil, Option.bind_some, Option.map_some, List.getElem?_cons_zero, List.getElem?_cons_succ, List.set_cons_zero, List.set_cons_succ, if_true, if_false, Nat.reduceSub, Nat.reduceAdd, decide_true, decide_false, Bool.not_true, Bool.not_false, reduceIte, Bool.false_eq_true, eq_self, ne_eq, not_true, not_false_iff, Bool.and_true, Bool.true_and, Int.reduceEq, Int.reduceLT, Int.reduceLE, Int.reduceNe, Int.reduceAdd, Int.reduceSub, Int.reduceMul, Int.reduceNeg, String.reduceEq, Nat.reduceLT, Nat.reduceLeDiff, Nat.reduceEqDiff, ofS_inj, ofS_ok, op_v, op_1, op_1x, op_2, op_2x, o1_v, o1_1, cons_1, cons_1x, cons_2, cons_2x, fn_v, fn_1, fn_1x, not_1, and_t, and_f, or_t, or_f, ite_t, ite_f, tupQ_1, lstQ_1, lstRQ_1, call_1, call_1x, callI_1, callI_1x, set_1, set_1x, expr_1, expr_1x, ret_1, ret_1x, ifs_t, ifs_f, ifs_x, par_1, par_1x, asg_1, asg_1x, sto_a, sto_b, sto_c, ds_v, tk_v, for_1, for_1x, Row.d, a0, a1, a2, a3, o_eqS ofS_ok ofS_ok, o_neS ofS_ok ofS_ok, o_eqI, h, Row.amiss, am]
  | over x p q =>
    have hsl : oSl (.lst [x.d, .int p, .int q]) (some 1) none = some (.lst [.int p, .int q]) := rfl
    by_cases h1 : p < 1
    · simp only [r_bind, r_bindX, r_bindA, r_bindAX, a_bind, a_bindX, a_bindA, a_bindAX, r_toS, r_toSX, a_toS, a_toSX, i_toS, i_toSX, s_nx, s_rt, s_bk, s_ct, s_exc, onB_bl, onBS_bl, ofO_some, asD_v, asDs_nil, asDs_cons, take1_v, takes_nil, takes_v, e_c, e_op, e_op1, e_nil, e_cons, e_fn, e_not, e_and, e_or, e_if, e_tup, e_lst, e_lstR, tup0, tup1, tup2, tup3, tup4, tup5, tup6, tup7, lst0, lst1, lst2, lst3, lst4, lst5, lst6, lsR0, lsR1, lsR2, lsR3, e_call, call1, call2, call3, call4, call5, e_callI, ofR_ok, ofR_exc, q_seq, q_nil, q_set, q_expr, q_ret, q_retN, q_if, q_par, par2, q_asg, g_n, g_tup, g_lst, g_nil, g_cons, q_store, o_add, o_sub, o_neg, o_lt, o_le, o_gt, o_ge, o_ixT, o_ixL, o_ixS, o_lenT, o_lenL, o_lenS, o_abs, o_max, o_min, o_intI, o_intB, atI_0, atI_1, atI_2, atI_3, atI_4, atI_5, atI_6, set_n, set_get, set_set, new_n, new_get, mV, List.map_cons, List.map_nil, List.length_cons, List.length_nil, List.replicate, List.cons_append, List.nil_append, List.append_nil, Option.bind_some, Option.map_some, List.getElem?_cons_zero, List.getElem?_cons_succ, List.set_cons_zero, List.set_cons_succ, if_true, if_false, Nat.reduceSub, Nat.reduceAdd, decide_true, decide_false, Bool.not_true, Bool.not_false, reduceIte, Bool.false_eq_true, eq_self, ne_eq, not_true, not_false_iff, Bool.and_true, Bool.true_and, Int.reduceEq, Int.reduceLT, Int.reduceLE, Int.reduceNe, Int.reduceAdd, Int.reduceSub, Int.reduceMul, Int.reduceNeg, String.reduceEq, Nat.reduceLT, Nat.reduceLeDiff, Nat.reduceEqDiff, ofS_inj, ofS_ok, op_v, op_1, op_1x, op_2, op_2x, o1_v, o1_1, cons_1, cons_1x, cons_2, cons_2x, fn_v, fn_1, fn_1x, not_1, and_t, and_f, or_t, or_f, ite_t, ite_f, tupQ_1, lstQ_1, lstRQ_1, call_1, call_1x, callI_1, callI_1x, set_1, set_1x, expr_1, expr_1x, ret_1, ret_1x, ifs_t, ifs_f, ifs_x, par_1, par_1x, asg_1, asg_1x, sto_a, sto_b, sto_c, ds_v, tk_v, for_1, for_1x, Row.d, a0, a1, a2, a3, o_eqS ofS_ok ofS_ok, o_neS ofS_ok ofS_ok, mSl, mPart, hsl, as2, h1, Row.amiss, am]
    · by_cases h2 : q < 0
      · have hp : (0 : Int) < p := by omega
        by_cases h3 : (-q) % p = 0
        · simp only [r_bind, r_bindX, r_bindA, r_bindAX, a_bind, a_bindX, a_bindA, a_bindAX, r_toS, r_toSX, a_toS, a_toSX, i_toS, i_toSX, s_nx, s_rt, s_bk, s_ct, s_exc, onB_bl, onBS_bl, ofO_some, asD_v, asDs_nil, asDs_cons, take1_v, takes_nil, takes_v, e_c, e_op, e_op1, e_nil, e_cons, e_fn, e_not, e_and, e_or, e_if, e_tup, e_lst, e_lstR, tup0, tup1, tup2, tup3, tup4, tup5, tup6, tup7, lst0, lst1, lst2, lst3, lst4, lst5, lst6, lsR0, lsR1, lsR2, lsR3, e_call, call1, call2, call3, call4, call5, e_callI, ofR_ok, ofR_exc, q_seq, q_nil, q_set, q_expr, q_ret, q_retN, q_if, q_par, par2, q_asg, g_n, g_tup, g_lst, g_nil, g_cons, q_store, o_add, o_sub, o_neg, o_lt, o_le, o_gt, o_ge, o_ixT, o_ixL, o_ixS, o_lenT, o_lenL, o_lenS, o_abs, o_max, o_min, o_intI, o_intB, atI_0, atI_1, atI_2, atI_3, atI_4, atI_5, atI_6, set_n, set_get, set_set, new_n, new_get, mV, List.map_cons, List.map_nil, List.length_cons, List.length_nil, List.replicate, List.cons_append, List.nil_append, List.append_nil, Option.bind_some, Option.map_some, List.getElem?_cons_zero, List.getElem?_cons_succ, List.set_cons_zero, List.set_cons_succ, if_true, if_false, Nat.reduceSub, Nat.reduceAdd, decide_true, decide_false, Bool.not_true, Bool.not_false, reduceIte, Bool.false_eq_true, eq_self, ne_eq, not_true, not_false_iff, Bool.and_true, Bool.true_and, Int.reduceEq, Int.reduceLT, Int.reduceLE, Int.reduceNe, Int.reduceAdd, Int.reduceSub, Int.reduceMul, Int.reduceNeg, String.reduceEq, Nat.reduceLT, Nat.reduceLeDiff, Nat.reduceEqDiff, ofS_inj, ofS_ok, op_v, op_1, op_1x, op_2, op_2x, o1_v, o1_1, cons_1, cons_1x, cons_2, cons_2x, fn_v, fn_1, fn_1x, not_1, and_t, and_f, or_t, or_f, ite_t, ite_f, tupQ_1, lstQ_1, lstRQ_1, call_1, call_1x, callI_1, callI_1x, set_1, set_1x, expr_1, expr_1x, ret_1, ret_1x, ifs_t, ifs_f, ifs_x, par_1, par_1x, asg_1, asg_1x, sto_a, sto_b, sto_c, ds_v, tk_v, for_1, for_1x, Row.d, a0, a1, a2, a3, o_eqS ofS_ok ofS_ok, o_neS ofS_ok ofS_ok, mSl, mPart, hsl, as2, h1, h2, o_modP hp, o_eqI, h3, Row.amiss, am, and_self]
        · simp only [r_bind, r_bindX, r_bindA, r_bindAX, a_bind, a_bindX, a_bindA, a_bindAX, r_toS, r_toSX, a_toS, a_toSX, i_toS, i_toSX, s_nx, s_rt, s_bk, s_ct, s_exc, onB_bl, onBS_bl, ofO_some, asD_v, asDs_nil, asDs_cons, take1_v, takes_nil, takes_v, e_c, e_op, e_op1, e_nil, e_cons, e_fn, e_not, e_and, e_or, e_if, e_tup, e_lst, e_lstR, tup0, tup1, tup2, tup3, tup4, tup5, tup6, tup7, lst0, lst1, lst2, lst3, lst4, lst5, lst6, lsR0, lsR1, lsR2, lsR3, e_call, call1, call2, call3, call4, call5, e_callI, ofR_ok, ofR_exc, q_seq, q_nil, q_set, q_expr, q_ret, q_retN, q_if, q_par, par2, q_asg, g_n, g_tup, g_lst, g_nil, g_cons, q_store, o_add, o_sub, o_neg, o_lt, o_le, o_gt, o_ge, o_ixT, o_ixL, o_ixS, o_lenT, o_lenL, o_lenS, o_abs, o_max, o_min, o_intI, o_intB, atI_0, atI_1, atI_2, atI_3, atI_4, atI_5, atI_6, set_n, set_get, set_set, new_n, new_get, mV, List.map_cons, List.map_nil, List.length_cons, List.length_nil, List.replicate, List.cons_append, List.nil_append, List.append_nil, Option.bind_some, Option.map_some, List.getElem?_cons_zero, List.getElem?_cons_succ, List.set_cons_zero, List.set_cons_succ, if_true, if_false, Nat.reduceSub, Nat.reduceAdd, decide_true, decide_false, Bool.not_true, Bool.not_false, reduceIte, Bool.false_eq_true, eq_self, ne_eq, not_true, not_false_iff, Bool.and_true, Bool.true_and, Int.reduceEq, Int.reduceLT, Int.reduceLE, Int.reduceNe, Int.reduceAdd, Int.reduceSub, Int.reduceMul, Int.reduceNeg, String.reduceEq, Nat.reduceLT, Nat.reduceLeDiff, Nat.reduceEqDiff, ofS_inj, ofS_ok, op_v, op_1, op_1x, op_2, op_2x, o1_v, o1_1, cons_1, cons_1x, cons_2, cons_2x, fn_v, fn_1, fn_1x, not_1, and_t, and_f, or_t, or_f, ite_t, ite_f, tupQ_1, lstQ_1, lstRQ_1, call_1, call_1x, callI_1, callI_1x, set_1, set_1x, expr_1, expr_1x, ret_1, ret_1x, ifs_t, ifs_f, ifs_x, par_1, par_1x, asg_1, asg_1x, sto_a, sto_b, sto_c, ds_v, tk_v, for_1, for_1x, Row.d, a0, a1, a2, a3, o_eqS ofS_ok ofS_ok, o_neS ofS_ok ofS_ok, mSl, mPart, hsl, as2, h1, h2, o_modP hp, o_eqI, h3, Row.amiss, am, and_false]
      · simp only [r_bind, r_bindX, r_bindA, r_bindAX, a_bind, a_bindX, a_bindA, a_bindAX, r_toS, r_toSX, a_toS, a_toSX, i_toS, i_toSX, s_nx, s_rt, s_bk, s_ct, s_exc, onB_bl, onBS_bl, ofO_some, asD_v, asDs_nil, asDs_cons, take1_v, takes_nil, takes_v, e_c, e_op, e_op1, e_nil, e_cons, e_fn, e_not, e_and, e_or, e_if, e_tup, e_lst, e_lstR, tup0, tup1, tup2, tup3, tup4, tup5, tup6, tup7, lst0, lst1, lst2, lst3, lst4, lst5, lst6, lsR0, lsR1, lsR2, lsR3, e_call, call1, call2, call3, call4, call5, e_callI, ofR_ok, ofR_exc, q_seq, q_nil, q_set, q_expr, q_ret, q_retN, q_if, q_par, par2, q_asg, g_n, g_tup, g_lst, g_nil, g_cons, q_store, o_add, o_sub, o_neg, o_lt, o_le, o_gt, o_ge, o_ixT, o_ixL, o_ixS, o_lenT, o_lenL, o_lenS, o_abs, o_max, o_min, o_intI, o_intB, atI_0, atI_1, atI_2, atI_3, atI_4, atI_5, atI_6, set_n, set_get, set_set, new_n, new_get, mV, List.map_cons, List.map_nil, List.length_cons, List.length_nil, List.replicate, List.cons_append, List.nil_append, List.append_nil, Option.bind_some, Option.map_some, List.getElem?_cons_zero, List.getElem?_cons_succ, List.set_cons_zero, List.set_cons_succ, if_true, if_false, Nat.reduceSub, Nat.reduceAdd, decide_true, decide_false, Bool.not_true, Bool.not_false, reduceIte, Bool.false_eq_true, eq_self, ne_eq, not_true, not_false_iff, Bool.and_true, Bool.true_and, Int.reduceEq, Int.reduceLT, Int.reduceLE, Int.reduceNe, Int.reduceAdd, Int.reduceSub, Int.reduceMul, Int.reduceNeg, String.reduceEq, Nat.reduceLT, Nat.reduceLeDiff, Nat.reduceEqDiff, ofS_inj, ofS_ok, op_v, op_1, op_1x, op_2, op_2x, o1_v, o1_1, cons_1, cons_1x, cons_2, cons_2x, fn_v, fn_1, fn_1x, not_1, and_t, and_f, or_t, or_f, ite_t, ite_f, tupQ_1, lstQ_1, lstRQ_1, call_1, call_1x, callI_1, callI_1x, set_1, set_1x, expr_1, expr_1x, ret_1, ret_1x, ifs_t, ifs_f, ifs_x, par_1, par_1x, asg_1, asg_1x, sto_a, sto_b, sto_c, ds_v, tk_v, for_1, for_1x, Row.d, a0, a1, a2, a3, o_eqS ofS_ok ofS_ok, o_neS ofS_ok ofS_ok, mSl, mPart, hsl, as2, h1, h2, Row.amiss, am, false_and]
  | num a b => simp only [r_bind, r_bindX, r_bindA, r_bindAX, a_bind, a_bindX, a_bindA, a_bindAX, r_toS, r_toSX, a_toS, a_toSX, i_toS, i_toSX, s_nx, s_rt, s_bk, s_ct, s_exc, onB_bl, onBS_bl, ofO_some, asD_v, asDs_nil, asDs_cons, take1_v, takes_nil, takes_v, e_c, e_op, e_op1, e_nil, e_cons, e_fn, e_not, e_and, e_or, e_if, e_tup, e_lst, e_lstR, tup0, tup1, tup2, tup3, tup4, tup5, tup6, tup7, lst0, lst1, lst2, lst3, lst4, lst5, lst6, lsR0, lsR1, lsR2, lsR3, e_call, call1, call2, call3, call4, call5, e_callI, ofR_ok, ofR_exc, q_seq, q_nil, q_set, q_expr, q_ret, q_retN, q_if, q_par, par2, q_asg, g_n, g_tup, g_lst, g_nil, g_cons, q_store, o_add, o_sub, o_neg, o_lt, o_le, o_gt, o_ge, o_ixT, o_ixL, o_ixS, o_lenT, o_lenL, o_lenS, o_abs, o_max, o_min, o_intI, o_intB, atI_0, atI_1, atI_2, atI_3, atI_4, atI_5, atI_6, set_n, set_get, set_set, new_n, new_get, mV, List.map_cons, List.map_nil, List.length_cons, List.length_nil, List.replicate, List.cons_append, List.nil_append, List.append_nil, Option.bind_some, Option.map_some, List.getElem?_cons_zero, List.getElem?_cons_succ, List.set_cons_zero, List.set_cons_succ, if_true, if_false, Nat.reduceSub, Nat.reduceAdd, decide_true, decide_false, Bool.not_true, Bool.not_false, reduceIte, Bool.false_eq_true, eq_self, ne_eq, not_true, not_false_iff, Bool.and_true, Bool.true_and, Int.reduceEq, Int.reduceLT, Int.reduceLE, Int.reduceNe, Int.reduceAdd, Int.reduceSub, Int.reduceMul, Int.reduceNeg, String.reduceEq, Nat.reduceLT, Nat.reduceLeDiff, Nat.reduceEqDiff, ofS_inj, ofS_ok, op_v, op_1, op_1x, op_2, op_2x, o1_v, o1_1, cons_1, cons_1x, cons_2, cons_2x, fn_v, fn_1, fn_1x, not_1, and_t, and_f, or_t, or_f, ite_t, ite_f, tupQ_1, lstQ_1, lstRQ_1, call_1, call_1x, callI_1, callI_1x, set_1, set_1x, expr_1, expr_1x, ret_1, ret_1x, ifs_t, ifs_f, ifs_x, par_1, par_1x, asg_1, asg_1x, sto_a, sto_b, sto_c, ds_v, tk_v, for_1, for_1x, Row.d, a0, a1, a2, a3, o_eqS ofS_ok ofS_ok, o_neS ofS_ok ofS_ok, Row.amiss, am]
  | place => simp only [r_bind, r_bindX, r_bindA, r_bindAX, a_bind, a_bindX, a_bindA, a_bindAX, r_toS, r_toSX, a_toS, a_toSX, i_toS, i_toSX, s_nx, s_rt, s_bk, s_ct, s_exc, onB_bl, onBS_bl, ofO_some, asD_v, asDs_nil, asDs_cons, take1_v, takes_nil, takes_v, e_c, e_op, e_op1, e_nil, e_cons, e_fn, e_not, e_and, e_or, e_if, e_tup, e_lst, e_lstR, tup0, tup1, tup2, tup3, tup4, tup5, tup6, tup7, lst0, lst1, lst2, lst3, lst4, lst5, lst6, lsR0, lsR1, lsR2, lsR3, e_call, call1, call2, call3, call4, call5, e_callI, ofR_ok, ofR_exc, q_seq, q_nil, q_set, q_expr, q_ret, q_retN, q_if, q_par, par2, q_asg, g_n, g_tup, g_lst, g_nil, g_cons, q_store, o_add, o_sub, o_neg, o_lt, o_le, o_gt, o_ge, o_ixT, o_ixL, o_ixS, o_lenT, o_lenL, o_lenS, o_abs, o_max, o_min, o_intI, o_intB, atI_0, atI_1, atI_2, atI_3, atI_4, atI_5, atI_6, set_n, set_get, set_set, new_n, new_get, mV, List.map_cons, List.map_nil, List.length_cons, List.length_nil, List.replicate, List.cons_append, List.nil_append, List.append_nil, Option.bind_some, Option.map_some, List.getElem?_cons_zero, List.getElem?_cons_succ, List.set_cons_zero, List.set_cons_succ, if_true, if_false, Nat.reduceSub, Nat.reduceAdd, decide_true, decide_false, Bool.not_true, Bool.not_false, reduceIte, Bool.false_eq_true, eq_self, ne_eq, not_true, not_false_iff, Bool.and_true, Bool.true_and, Int.reduceEq, Int.reduceLT, Int.reduceLE, Int.reduceNe, Int.reduceAdd, Int.reduceSub, Int.reduceMul, Int.reduceNeg, String.reduceEq, Nat.reduceLT, Nat.reduceLeDiff, Nat.reduceEqDiff, ofS_inj, ofS_ok, op_v, op_1, op_1x, op_2, op_2x, o1_v, o1_1, cons_1, cons_1x, cons_2, cons_2x, fn_v, fn_1, fn_1x, not_1, and_t, and_f, or_t, or_f, ite_t, ite_f, tupQ_1, lstQ_1, lstRQ_1, call_1, call_1x, callI_1, callI_1x, set_1, set_1x, expr_1, expr_1x, ret_1, ret_1x, ifs_t, ifs_f, ifs_x, par_1, par_1x, asg_1, asg_1x, sto_a, sto_b, sto_c, ds_v, tk_v, for_1, for_1x, Row.d, a0, a1, a2, a3, o_eqS ofS_ok ofS_ok, o_neS ofS_ok ofS_ok, Row.amiss, am]
  | sum u v => simp only [r_bind, r_bindX, r_bindA, r_bindAX, a_bind, a_bindX, a_bindA, a_bindAX, r_toS, r_toSX, a_toS, a_toSX, i_toS, i_toSX, s_nx, s_rt, s_bk, s_ct, s_exc, onB_bl, onBS_bl, ofO_some, asD_v, asDs_nil, asDs_cons, take1_v, takes_nil, takes_v, e_c, e_op, e_op1, e_nil, e_cons, e_fn, e_not, e_and, e_or, e_if, e_tup, e_lst, e_lstR, tup0, tup1, tup2, tup3, tup4, tup5, tup6, tup7, lst0, lst1, lst2, lst3, lst4, lst5, lst6, lsR0, lsR1, lsR2, lsR3, e_call, call1, call2, call3, call4, call5, e_callI, ofR_ok, ofR_exc, q_seq, q_nil, q_set, q_expr, q_ret, q_retN, q_if, q_par, par2, q_asg, g_n, g_tup, g_lst, g_nil, g_cons, q_store, o_add, o_sub, o_neg, o_lt, o_le, o_gt, o_ge, o_ixT, o_ixL, o_ixS, o_lenT, o_lenL, o_lenS, o_abs, o_max, o_min, o_intI, o_intB, atI_0, atI_1, atI_2, atI_3, atI_4, atI_5, atI_6, set_n, set_get, set_set, new_n, new_get, mV, List.map_cons, List.map_nil, List.length_cons, List.length_nil, List.replicate, List.cons_append, List.nil_append, List.append_nil, Option.bind_some, Option.map_some, List.getElem?_cons_zero, List.getElem?_cons_succ, List.set_cons_zero, List.set_cons_succ, if_true, if_false, Nat.reduceSub, Nat.reduceAdd, decide_true, decide_false, Bool.not_true, Bool.not_false, reduceIte, Bool.false_eq_true, eq_self, ne_eq, not_true, not_false_iff, Bool.and_true, Bool.true_and, Int.reduceEq, Int.reduceLT, Int.reduceLE, Int.reduceNe, Int.reduceAdd, Int.reduceSub, Int.reduceMul, Int.reduceNeg, String.reduceEq, Nat.reduceLT, Nat.reduceLeDiff, Nat.reduceEqDiff, ofS_inj, ofS_ok, op_v, op_1, op_1x, op_2, op_2x, o1_v, o1_1, cons_1, cons_1x, cons_2, cons_2x, fn_v, fn_1, fn_1x, not_1, and_t, and_f, or_t, or_f, ite_t, ite_f, tupQ_1, lstQ_1, lstRQ_1, call_1, call_1x, callI_1, callI_1x, set_1, set_1x, expr_1, expr_1x, ret_1, ret_1x, ifs_t, ifs_f, ifs_x, par_1, par_1x, asg_1, asg_1x, sto_a, sto_b, sto_c, ds_v, tk_v, for_1, for_1x, Row.d, a0, a1, a2, a3, o_eqS ofS_ok ofS_ok, o_neS ofS_ok ofS_ok, Row.amiss, am]
  | less u v => simp only [r_bind, r_bindX, r_bindA, r_bindAX, a_bind, a_bindX, a_bindA, a_bindAX, r_toS, r_toSX, a_toS, a_toSX, i_toS, i_toSX, s_nx, s_rt, s_bk, s_ct, s_exc, onB_bl, onBS_bl, ofO_some, asD_v, asDs_nil, asDs_cons, take1_v, takes_nil, takes_v, e_c, e_op, e_op1, e_nil, e_cons, e_fn, e_not, e_and, e_or, e_if, e_tup, e_lst, e_lstR, tup0, tup1, tup2, tup3, tup4, tup5, tup6, tup7, lst0, lst1, lst2, lst3, lst4, lst5, lst6, lsR0, lsR1, lsR2, lsR3, e_call, call1, call2, call3, call4, call5, e_callI, ofR_ok, ofR_exc, q_seq, q_nil, q_set, q_expr, q_ret, q_retN, q_if, q_par, par2, q_asg, g_n, g_tup, g_lst, g_nil, g_cons, q_store, o_add, o_sub, o_neg, o_lt, o_le, o_gt, o_ge, o_ixT, o_ixL, o_ixS, o_lenT, o_lenL, o_lenS, o_abs, o_max, o_min, o_intI, o_intB, atI_0, atI_1, atI_2, atI_3, atI_4, atI_5, atI_6, set_n, set_get, set_set, new_n, new_get, mV, List.map_cons, List.map_nil, List.length_cons, List.length_nil, List.replicate, List.cons_append, List.nil_append, List.append_nil, Option.bind_some, Option.map_some, List.getElem?_cons_zero, List.getElem?_cons_succ, List.set_cons_zero, List.set_cons_succ, if_true, if_false, Nat.reduceSub, Nat.reduceAdd, decide_true, decide_false, Bool.not_true, Bool.not_false, reduceIte, Bool.false_eq_true, eq_self, ne_eq, not_true, not_false_iff, Bool.and_true, Bool.true_and, Int.reduceEq, Int.reduceLT, Int.reduceLE, Int.reduceNe, Int.reduceAdd, Int.reduceSub, Int.reduceMul, Int.reduceNeg, String.reduceEq, Nat.reduceLT, Nat.reduceLeDiff, Nat.reduceEqDiff, ofS_inj, ofS_ok, op_v, op_1, op_1x, op_2, op_2x, o1_v, o1_1, cons_1, cons_1x, cons_2, cons_2x, fn_v, fn_1, fn_1x, not_1, and_t, and_f, or_t, or_f, ite_t, ite_f, tupQ_1, lstQ_1, lstRQ_1, call_1, call_1x, callI_1, callI_1x, set_1, set_1x, expr_1, expr_1x, ret_1, ret_1x, ifs_t, ifs_f, ifs_x, par_1, par_1x, asg_1, asg_1x, sto_a, sto_b, sto_c, ds_v, tk_v, for_1, for_1x, Row.d, a0, a1, a2, a3, o_eqS ofS_ok ofS_ok, o_neS ofS_ok ofS_ok, Row.amiss, am]
  | times u v => simp only [r_bind, r_bindX, r_bindA, r_bindAX, a_bind, a_bindX, a_bindA, a_bindAX, r_toS, r_toSX, a_toS, a_toSX, i_toS, i_toSX, s_nx, s_rt, s_bk, s_ct, s_exc, onB_bl, onBS_bl, ofO_some, asD_v, asDs_nil, asDs_cons, take1_v, takes_nil, takes_v, e_c, e_op, e_op1, e_nil, e_cons, e_fn, e_not, e_and, e_or, e_if, e_tup, e_lst, e_lstR, tup0, tup1, tup2, tup3, tup4, tup5, tup6, tup7, lst0, lst1, lst2, lst3, lst4, lst5, lst6, lsR0, lsR1, lsR2, lsR3, e_call, call1, call2, call3, call4, call5, e_callI, ofR_ok, ofR_exc, q_seq, q_nil, q_set, q_expr, q_ret, q_retN, q_if, q_par, par2, q_asg, g_n, g_tup, g_lst, g_nil, g_cons, q_store, o_add, o_sub, o_neg, o_lt, o_le, o_gt, o_ge, o_ixT, o_ixL, o_ixS, o_lenT, o_lenL, o_lenS, o_abs, o_max, o_min, o_intI, o_intB, atI_0, atI_1, atI_2, atI_3, atI_4, atI_5, atI_6, set_n, set_get, set_set, new_n, new_get, mV, List.map_cons, List.map_nil, List.length_cons, List.length_nil, List.replicate, List.cons_append, List.nil_append, List.append_nil, Option.bind_some, Option.map_some, List.getElem?_cons_zero, List.getElem?_cons_succ, List.set_cons_zero, List.set_cons_succ, if_true, if_false, Nat.reduceSub, Nat.reduceAdd, decide_true, decide_false, Bool.not_true, Bool.not_false, reduceIte, Bool.false_eq_true, eq_self, ne_eq, not_true, not_false_iff, Bool.and_true, Bool.true_and, Int.reduceEq, Int.reduceLT, Int.reduceLE, Int.reduceNe, Int.reduceAdd, Int.reduceSub, Int.reduceMul, Int.reduceNeg, String.reduceEq, Nat.reduceLT, Nat.reduceLeDiff, Nat.reduceEqDiff, ofS_inj, ofS_ok, op_v, op_1, op_1x, op_2, op_2x, o1_v, o1_1, cons_1, cons_1x, cons_2, cons_2x, fn_v, fn_1, fn_1x, not_1, and_t, and_f, or_t, or_f, ite_t, ite_f, tupQ_1, lstQ_1, lstRQ_1, call_1, call_1x, callI_1, callI_1x, set_1, set_1x, expr_1, expr_1x, ret_1, ret_1x, ifs_t, ifs_f, ifs_x, par_1, par_1x, asg_1, asg_1x, sto_a, sto_b, sto_c, ds_v, tk_v, for_1, for_1x, Row.d, a0, a1, a2, a3, o_eqS ofS_ok ofS_ok, o_neS ofS_ok ofS_ok, Row.amiss, am]
  | heap u => simp only [r_bind, r_bindX, r_bindA, r_bindAX, a_bind, a_bindX, a_bindA, a_bindAX, r_toS, r_toSX, a_toS, a_toSX, i_toS, i_toSX, s_nx, s_rt, s_bk, s_ct, s_exc, onB_bl, onBS_bl, ofO_some, asD_v, asDs_nil, asDs_cons, take1_v, takes_nil, takes_v, e_c, e_op, e_op1, e_nil, e_cons, e_fn, e_not, e_and, e_or, e_if, e_tup, e_lst, e_lstR, tup0, tup1, tup2, tup3, tup4, tup5, tup6, tup7, lst0, lst1, lst2, lst3, lst4, lst5, lst6, lsR0, lsR1, lsR2, lsR3, e_call, call1, call2, call3, call4, call5, e_callI, ofR_ok, ofR_exc, q_seq, q_nil, q_set, q_expr, q_ret, q_retN, q_if, q_par, par2, q_asg, g_n, g_tup, g_lst, g_nil, g_cons, q_store, o_add, o_sub, o_neg, o_lt, o_le, o_gt, o_ge, o_ixT, o_ixL, o_ixS, o_lenT, o_lenL, o_lenS, o_abs, o_max, o_min, o_intI, o_intB, atI_0, atI_1, atI_2, atI_3, atI_4, atI_5, atI_6, set_n, set_get, set_set, new_n, new_get, mV, List.map_cons, List.map_nil, List.length_cons, List.length_nil, List.replicate, List.cons_append, List.nil_append, List.append_nil, Option.bind_some, Option.map_some, List.getElem?_cons_zero, List.getElem?_cons_succ, List.set_cons_zero, List.set_cons_succ, if_true, if_false, Nat.reduceSub, Nat.reduceAdd, decide_true, decide_false, Bool.not_true, Bool.not_false, reduceIte, Bool.false_eq_true, eq_self, ne_eq, not_true, not_false_iff, Bool.and_true, Bool.true_and, Int.reduceEq, Int.reduceLT, Int.reduceLE, Int.reduceNe, Int.reduceAdd, Int.reduceSub, Int.reduceMul, Int.reduceNeg, String.reduceEq, Nat.reduceLT, Nat.reduceLeDiff, Nat.reduceEqDiff, ofS_inj, ofS_ok, op_v, op_1, op_1x, op_2, op_2x, o1_v, o1_1, cons_1, cons_1x, cons_2, cons_2x, fn_v, fn_1, fn_1x, not_1, and_t, and_f, or_t, or_f, ite_t, ite_f, tupQ_1, lstQ_1, lstRQ_1, call_1, call_1x, callI_1, callI_1x, set_1, set_1x, expr_1, expr_1x, ret_1, ret_1x, ifs_t, ifs_f, ifs_x, par_1, par_1x, asg_1, asg_1x, sto_a, sto_b, sto_c, ds_v, tk_v, for_1, for_1x, Row.d, a0, a1, a2, a3, o_eqS ofS_ok ofS_ok, o_neS ofS_ok ofS_ok, Row.amiss, am]
  | on u => simp only [r_bind, r_bindX, r_bindA, r_bindAX, a_bind, a_bindX, a_bindA, a_bindAX, r_toS, r_toSX, a_toS, a_toSX, i_toS, i_toSX, s_nx, s_rt, s_bk, s_ct, s_exc, onB_bl, onBS_bl, ofO_some, asD_v, asDs_nil, asDs_cons, take1_v, takes_nil, takes_v, e_c, e_op, e_op1, e_nil, e_cons, e_fn, e_not, e_and, e_or, e_if, e_tup, e_lst, e_lstR, tup0, tup1, tup2, tup3, tup4, tup5, tup6, tup7, lst0, lst1, lst2, lst3, lst4, lst5, lst6, lsR0, lsR1, lsR2, lsR3, e_call, call1, call2, call3, call4, call5, e_callI, ofR_ok, ofR_exc, q_seq, q_nil, q_set, q_expr, q_ret, q_retN, q_if, q_par, par2, q_asg, g_n, g_tup, g_lst, g_nil, g_cons, q_store, o_add, o_sub, o_neg, o_lt, o_le, o_gt, o_ge, o_ixT, o_ixL, o_ixS, o_lenT, o_lenL, o_lenS, o_abs, o_max, o_min, o_intI, o_intB, atI_0, atI_1, atI_2, atI_3, atI_4, atI_5, atI_6, set_n, set_get, set_set, new_n, new_get, mV, List.map_cons, List.map_nil, List.length_cons, List.length_nil, List.replicate, List.cons_append, List.nil_append, List.append_nil, Option.bind_some, Option.map_some, List.getElem?_cons_zero, List.getElem?_cons_succ, List.set_cons_zero, List.set_cons_succ, if_true, if_false, Nat.reduceSub, Nat.reduceAdd, decide_true, decide_false, Bool.not_true, Bool.not_false, reduceIte, Bool.false_eq_true, eq_self, ne_eq, not_true, not_false_iff, Bool.and_true, Bool.true_and, Int.reduceEq, Int.reduceLT, Int.reduceLE, Int.reduceNe, Int.reduceAdd, Int.reduceSub, Int.reduceMul, Int.reduceNeg, String.reduceEq, Nat.reduceLT, Nat.reduceLeDiff, Nat.reduceEqDiff, ofS_inj, ofS_ok, op_v, op_1, op_1x, op_2, op_2x, o1_v, o1_1, cons_1, cons_1x, cons_2, cons_2x, fn_v, fn_1, fn_1x, not_1, and_t, and_f, or_t, or_f, ite_t, ite_f, tupQ_1, lstQ_1, lstRQ_1, call_1, call_1x, callI_1, callI_1x, set_1, set_1x, expr_1, expr_1x, ret_1, ret_1x, ifs_t, ifs_f, ifs_x, par_1, par_1x, asg_1, asg_1x, sto_a, sto_b, sto_c, ds_v, tk_v, for_1, for_1x, Row.d, a0, a1, a2, a3, o_eqS ofS_ok ofS_ok, o_neS ofS_ok ofS_ok, Row.amiss, am]
theorem amiss_ok (r : Row) : d_Lamiss [r.d] = .ok (am r.amiss) := by
  unfold d_Lamiss b_Lamiss
  refine runP_rt (g1 := GH.nil) ?_
  cases r with
  | pace a b =>
    by_cases h : a = 0
    · simp only [r_bind, r_bindX, r_bindA, r_bindAX, a_bind, a_bindX, a_bindA, a_bindAX, r_toS, r_toSX, a_toS, a_toSX, i_toS, i_toSX, s_nx, s_rt, s_bk, s_ct, s_exc, onB_bl, onBS_bl, ofO_some, asD_v, asDs_nil, asDs_cons, take1_v, takes_nil, takes_v, e_c, e_op, e_op1, e_nil, e_cons, e_fn, e_not, e_and, e_or, e_if, e_tup, e_lst, e_lstR, tup0, tup1, tup2, tup3, tup4, tup5, tup6, tup7, lst0, lst1, lst2, lst3, lst4, lst5, lst6, lsR0, lsR1, lsR2, lsR3, e_call, call1, call2, call3, call4, call5, e_callI, ofR_ok, ofR_exc, q_seq, q_nil, q_set, q_expr, q_ret, q_retN, q_if, q_par, par2, q_asg, g_n, g_tup, g_lst, g_nil, g_cons, q_store, o_add, o_sub, o_neg, o_lt, o_le, o_gt, o_ge, o_ixT, o_ixL, o_ixS, o_lenT, o_lenL, o_lenS, o_abs, o_max, o_min, o_intI, o_intB, atI_0, atI_1, atI_2, atI_3, atI_4, atI_5, atI_6, set_n, set_get, set_set, new_n, new_get, mV, List.map_cons, List.map_nil, List.length_cons, List.length_nil, List.replicate, List.cons_append, List.nil_append, List.append_nil, Option.bind_some, Option.map_some, List.getElem?_cons_zero, List.getElem?_cons_succ, List.set_cons_zero, List.set_cons_succ, if_true, if_false, Nat.reduceSub, Nat.reduceAdd, decide_true, decide_false, Bool.not_true, Bool.not_false, reduceIte, Bool.false_eq_true, eq_self, ne_eq, not_true, not_false_iff, Bool.and_true, Bool.true_and, Int.reduceEq, Int.reduceLT, Int.reduceLE, Int.reduceNe, Int.reduceAdd, Int.reduceSub, Int.reduceMul, Int.reduceNeg, String.reduceEq, Nat.reduceLT, Nat.reduceLeDiff, Nat.reduceEqDiff, ofS_inj, ofS_ok, op_v, op_1, op_1x, op_2, op_2x, o1_v, o1_1, cons_1, cons_1x, cons_2, cons_2x, fn_v, fn_1, fn_1x, not_1, and_t, and_f, or_t, or_f, ite_t, ite_f, tupQ_1, lstQ_1, lstRQ_1, call_1, call_1x, callI_1, callI_1x, set_1, set_1x, expr_1, expr_1x, ret_1, ret_1x, ifs_t, ifs_f, ifs_x, par_1, par_1x, asg_1, asg_1x, sto_a, sto_b, sto_c, ds_v, tk_v, for_1, for_1x, Row.d, o_eqS ofS_ok ofS_ok, o_eqI, h, Row.amiss, am]
    · simp only [r_bind, r_bindX, r_bindA, r_bindAX, a_bind, a_bindX, a_bindA, a_bindAX, r_toS, r_toSX, a_toS, a_toSX, i_toS, i_toSX, s_nx, s_rt, s_bk, s_ct, s_exc, onB_bl, onBS_bl, ofO_some, asD_v, asDs_nil, asDs_cons, take1_v, takes_nil, takes_v, e_c, e_op, e_op1, e_nil, e_cons, e_fn, e_not, e_and, e_or, e_if, e_tup, e_lst, e_lstR, tup0, tup1, tup2, tup3, tup4, tup5, tup6, tup7, lst0, lst1, lst2, lst3, lst4, lst5, lst6, lsR0, lsR1, lsR2, lsR3, e_call, call1, call2, call3, call4, call5, e_callI, ofR_ok, ofR_exc, q_seq, q_nil, q_set, q_expr, q_ret, q_retN, q_if, q_par, par2, q_asg, g_n, g_tup, g_lst, g_nil, g_cons, q_store, o_add, o_sub, o_neg, o_lt, o_le, o_gt, o_ge, o_ixT, o_ixL, o_ixS, o_lenT, o_lenL, o_lenS, o_abs, o_max, o_min, o_intI, o_intB, atI_0, atI_1, atI_2, atI_3, atI_4, atI_5, atI_6, set_n, set_get, set_set, new_n, new_get, mV, List.map_cons, List.map_nil, List.length_cons, List.length_nil, List.replicate, List.cons_append, List.nil_append, List.append_nil, Option.bind_some, Option.map_some, List.getElem?_cons_zero, List.getElem?_cons_succ, List.set_cons_zero, List.set_cons_succ, if_true, if_false, Nat.reduceSub, Nat.reduceAdd, decide_true, decide_false, Bool.not_true, Bool.not_false, reduceIte, Bool.false_eq_true, eq_self, ne_eq, not_true, not_false_iff, Bool.and_true, Bool.true_and, Int.reduceEq, Int.reduceLT, Int.reduceLE, Int.reduceNe, Int.reduceAdd, Int.reduceSub, Int.reduceMul, Int.reduceNeg, String.reduceEq, Nat.reduceLT, Nat.reduceLeDiff, Nat.reduceEqDiff, ofS_inj, ofS_ok, op_v, op_1, op_1x, op_2, op_2x, o1_v, o1_1, cons_1, cons_1x, cons_2, cons_2x, fn_v, fn_1, fn_1x, not_1, and_t, and_f, or_t, or_f, ite_t, ite_f, tupQ_1, lstQ_1, lstRQ_1, call_1, call_1x, callI_1, callI_1x, set_1, set_1x, expr_1, expr_1x, ret_1, ret_1x, ifs_t, ifs_f, ifs_x, par_1, par_1x, asg_1, asg_1x, sto_a, sto_b, sto_c, ds_v, tk_v, for_1, for_1x, Row.d, o_eqS ofS_ok ofS_ok, o_eqI, h, Row.amiss, am]
  | over x p q =>
    by_cases h1 : p < 1
    · simp only [r_bind, r_bindX, r_bindA, r_bindAX, a_bind, a_bindX, a_bindA, a_bindAX, r_toS, r_toSX, a_toS, a_toSX, i_toS, i_toSX, s_nx, s_rt, s_bk, s_ct, s_exc, onB_bl, onBS_bl, ofO_some, asD_v, asDs_nil, asDs_cons, take1_v, takes_nil, takes_v, e_c, e_op, e_op1, e_nil, e_cons, e_fn, e_not, e_and, e_or, e_if, e_tup, e_lst, e_lstR, tup0, tup1, tup2, tup3, tup4, tup5, tup6, tup7, lst0, lst1, lst2, lst3, lst4, lst5, lst6, lsR0, lsR1, lsR2, lsR3, e_call, call1, call2, call3, call4, call5, e_callI, ofR_ok, ofR_exc, q_seq, q_nil, q_set, q_expr, q_ret, q_retN, q_if, q_par, par2, q_asg, g_n, g_tup, g_lst, g_nil, g_cons, q_store, o_add, o_sub, o_neg, o_lt, o_le, o_gt, o_ge, o_ixT, o_ixL, o_ixS, o_lenT, o_lenL, o_lenS, o_abs, o_max, o_min, o_intI, o_intB, atI_0, atI_1, atI_2, atI_3, atI_4, atI_5, atI_6, set_n, set_get, set_set, new_n, new_get, mV, List.map_cons, List.map_nil, List.length_cons, List.length_nil, List.replicate, List.cons_append, List.nil_append, List.append_nil, Option.bind_some, Option.map_some, List.getElem?_cons_zero, List.getElem?_cons_succ, List.set_cons_zero, List.set_cons_succ, if_true, if_false, Nat.reduceSub, Nat.reduceAdd, decide_true, decide_false, Bool.not_true, Bool.not_false, reduceIte, Bool.false_eq_true, eq_self, ne_eq, not_true, not_false_iff, Bool.and_true, Bool.true_and, Int.reduceEq, Int.reduceLT, Int.reduceLE, Int.reduceNe, Int.reduceAdd, Int.reduceSub, Int.reduceMul, Int.reduceNeg, String.reduceEq, Nat.reduceLT, Nat.reduceLeDiff, Nat.reduceEqDiff, ofS_inj, ofS_ok, op_v, op_1, op_1x, op_2, op_2x, o1_v, o1_1, cons_1, cons_1x, cons_2, cons_2x, fn_v, fn_1, fn_1x, not_1, and_t, and_f, or_t, or_f, ite_t, ite_f, tupQ_1, lstQ_1, lstRQ_1, call_1, call_1x, callI_1, callI_1x, set_1, set_1x, expr_1, expr_1x, ret_1, ret_1x, ifs_t, ifs_f, ifs_x, par_1, par_1x, asg_1, asg_1x, sto_a, sto_b, sto_c, ds_v, tk_v, for_1, for_1x, Row.d, o_eqS ofS_ok ofS_ok, h1, Row.amiss, am]
    · by_cases h2 : q < 0
      · have hp : (0 : Int) < p := by omega
        have e0 : 0 - q = -q := by omega
        by_cases h3 : (-q) % p = 0
        · simp only [r_bind, r_bindX, r_bindA, r_bindAX, a_bind, a_bindX, a_bindA, a_bindAX, r_toS, r_toSX, a_toS, a_toSX, i_toS, i_toSX, s_nx, s_rt, s_bk, s_ct, s_exc, onB_bl, onBS_bl, ofO_some, asD_v, asDs_nil, asDs_cons, take1_v, takes_nil, takes_v, e_c, e_op, e_op1, e_nil, e_cons, e_fn, e_not, e_and, e_or, e_if, e_tup, e_lst, e_lstR, tup0, tup1, tup2, tup3, tup4, tup5, tup6, tup7, lst0, lst1, lst2, lst3, lst4, lst5, lst6, lsR0, lsR1, lsR2, lsR3, e_call, call1, call2, call3, call4, call5, e_callI, ofR_ok, ofR_exc, q_seq, q_nil, q_set, q_expr, q_ret, q_retN, q_if, q_par, par2, q_asg, g_n, g_tup, g_lst, g_nil, g_cons, q_store, o_add, o_sub, o_neg, o_lt, o_le, o_gt, o_ge, o_ixT, o_ixL, o_ixS, o_lenT, o_lenL, o_lenS, o_abs, o_max, o_min, o_intI, o_intB, atI_0, atI_1, atI_2, atI_3, atI_4, atI_5, atI_6, set_n, set_get, set_set, new_n, new_get, mV, List.map_cons, List.map_nil, List.length_cons, List.length_nil, List.replicate, List.cons_append, List.nil_append, List.append_nil, Option.bind_some, Option.map_some, List.getElem?_cons_zero, List.getElem?_cons_succ, List.set_cons_zero, List.set_cons_succ, if_true, if_false, Nat.reduceSub, Nat.reduceAdd, decide_true, decide_false, Bool.not_true, Bool.not_false, reduceIte, Bool.false_eq_true, eq_self, ne_eq, not_true, not_false_iff, Bool.and_true, Bool.true_and, Int.reduceEq, Int.reduceLT, Int.reduceLE, Int.reduceNe, Int.reduceAdd, Int.reduceSub, Int.reduceMul, Int.reduceNeg, String.reduceEq, Nat.reduceLT, Nat.reduceLeDiff, Nat.reduceEqDiff, ofS_inj, ofS_ok, op_v, op_1, op_1x, op_2, op_2x, o1_v, o1_1, cons_1, cons_1x, cons_2, cons_2x, fn_v, fn_1, fn_1x, not_1, and_t, and_f, or_t, or_f, ite_t, ite_f, tupQ_1, lstQ_1, lstRQ_1, call_1, call_1x, callI_1, callI_1x, set_1, set_1x, expr_1, expr_1x, ret_1, ret_1x, ifs_t, ifs_f, ifs_x, par_1, par_1x, asg_1, asg_1x, sto_a, sto_b, sto_c, ds_v, tk_v, for_1, for_1x, Row.d, o_eqS ofS_ok ofS_ok, h1, h2, e0, o_modP hp, o_eqI, h3, Row.amiss, am, and_self]
        · simp only [r_bind, r_bindX, r_bindA, r_bindAX, a_bind, a_bindX, a_bindA, a_bindAX, r_toS, r_toSX, a_toS, a_toSX, i_toS, i_toSX, s_nx, s_rt, s_bk, s_ct, s_exc, onB_bl, onBS_bl, ofO_some, asD_v, asDs_nil, asDs_cons, take1_v, takes_nil, takes_v, e_c, e_op, e_op1, e_nil, e_cons, e_fn, e_not, e_and, e_or, e_if, e_tup, e_lst, e_lstR, tup0, tup1, tup2, tup3, tup4, tup5, tup6, tup7, lst0, lst1, lst2, lst3, lst4, lst5, lst6, lsR0, lsR1, lsR2, lsR3, e_call, call1, call2, call3, call4, call5, e_callI, ofR_ok, ofR_exc, q_seq, q_nil, q_set, q_expr, q_ret, q_retN, q_if, q_par, par2, q_asg, g_n, g_tup, g_lst, g_nil, g_cons, q_store, o_add, o_sub, o_neg, o_lt, o_le, o_gt, o_ge, o_ixT, o_ixL, o_ixS, o_lenT, o_lenL, o_lenS, o_abs, o_max, o_min, o_intI, o_intB, atI_0, atI_1, atI_2, atI_3, atI_4, atI_5, atI_6, set_n, set_get, set_set, new_n, new_get, mV, List.map_cons, List.map_nil, List.length_cons, List.length_nil, List.replicate, List.cons_append, List.nil_append, List.append_nil, Option.bind_some, Option.map_some, List.getElem?_cons_zero, List.getElem?_cons_succ, List.set_cons_zero, List.set_cons_succ, if_true, if_false, Nat.reduceSub, Nat.reduceAdd, decide_true, decide_false, Bool.not_true, Bool.not_false, reduceIte, Bool.false_eq_true, eq_self, ne_eq, not_true, not_false_iff, Bool.and_true, Bool.true_and, Int.reduceEq, Int.reduceLT, Int.reduceLE, Int.reduceNe, Int.reduceAdd, Int.reduceSub, Int.reduceMul, Int.reduceNeg, String.reduceEq, Nat.reduceLT, Nat.reduceLeDiff, Nat.reduceEqDiff, ofS_inj, ofS_ok, op_v, op_1, op_1x, op_2, op_2x, o1_v, o1_1, cons_1, cons_1x, cons_2, cons_2x, fn_v, fn_1, fn_1x, not_1, and_t, and_f, or_t, or_f, ite_t, ite_f, tupQ_1, lstQ_1, lstRQ_1, call_1, call_1x, callI_1, callI_1x, set_1, set_1x, expr_1, expr_1x, ret_1, ret_1x, ifs_t, ifs_f, ifs_x, par_1, par_1x, asg_1, asg_1x, sto_a, sto_b, sto_c, ds_v, tk_v, for_1, for_1x, Row.d, o_eqS ofS_ok ofS_ok, h1, h2, e0, o_modP hp, o_eqI, h3, Row.amiss, am, and_false]
      · simp only [r_bind, r_bindX, r_bindA, r_bindAX, a_bind, a_bindX, a_bindA, a_bindAX, r_toS, r_toSX, a_toS, a_toSX, i_toS, i_toSX, s_nx, s_rt, s_bk, s_ct, s_exc, onB_bl, onBS_bl, ofO_some, asD_v, asDs_nil, asDs_cons, take1_v, takes_nil, takes_v, e_c, e_op, e_op1, e_nil, e_cons, e_fn, e_not, e_and, e_or, e_if, e_tup, e_lst, e_lstR, tup0, tup1, tup2, tup3, tup4, tup5, tup6, tup7, lst0, lst1, lst2, lst3, lst4, lst5, lst6, lsR0, lsR1, lsR2, lsR3, e_call, call1, call2, call3, call4, call5, e_callI, ofR_ok, ofR_exc, q_seq, q_nil, q_set, q_expr, q_ret, q_retN, q_if, q_par, par2, q_asg, g_n, g_tup, g_lst, g_nil, g_cons, q_store, o_add, o_sub, o_neg, o_lt, o_le, o_gt, o_ge, o_ixT, o_ixL, o_ixS, o_lenT, o_lenL, o_lenS, o_abs, o_max, o_min, o_intI, o_intB, atI_0, atI_1, atI_2, atI_3, atI_4, atI_5, atI_6, set_n, set_get, set_set, new_n, new_get, mV, List.map_cons, List.map_nil, List.length_cons, List.length_nil, List.replicate, List.cons_append, List.nil_append, List.append_nil, Option.bind_some, Option.map_some, List.getElem?_cons_zero, List.getElem?_cons_succ, List.set_cons_zero, List.set_cons_succ, if_true, if_false, Nat.reduceSub, Nat.reduceAdd, decide_true, decide_false, Bool.not_true, Bool.not_false, reduceIte, Bool.false_eq_true, eq_self, ne_eq, not_true, not_false_iff, Bool.and_true, Bool.true_and, Int.reduceEq, Int.reduceLT, Int.reduceLE, Int.reduceNe, Int.reduceAdd, Int.reduceSub, Int.reduceMul, Int.reduceNeg, String.reduceEq, Nat.reduceLT, Nat.reduceLeDiff, Nat.reduceEqDiff, ofS_inj, ofS_ok, op_v, op_1, op_1x, op_2, op_2x, o1_v, o1_1, cons_1, cons_1x, cons_2, cons_2x, fn_v, fn_1, fn_1x, not_1, and_t, and_f, or_t, or_f, ite_t, ite_f, tupQ_1, lstQ_1, lstRQ_1, call_1, call_1x, callI_1, callI_1x, set_1, set_1x, expr_1, expr_1x, ret_1, ret_1x, ifs_t, ifs_f, ifs_x, par_1, par_1x, asg_1, asg_1x, sto_a, sto_b, sto_c, ds_v, tk_v, for_1, for_1x, Row.d, o_eqS ofS_ok ofS_ok, h1, h2, Row.amiss, am, false_and]
  | _ => simp only [r_bind, r_bindX, r_bindA, r_bindAX, a_bind, a_bindX, a_bindA, a_bindAX, r_toS, r_toSX, a_toS, a_toSX, i_toS, i_toSX, s_nx, s_rt, s_bk, s_ct, s_exc, onB_bl, onBS_bl, ofO_some, asD_v, asDs_nil, asDs_cons, take1_v, takes_nil, takes_v, e_c, e_op, e_op1, e_nil, e_cons, e_fn, e_not, e_and, e_or, e_if, e_tup, e_lst, e_lstR, tup0, tup1, tup2, tup3, tup4, tup5, tup6, tup7, lst0, lst1, lst2, lst3, lst4, lst5, lst6, lsR0, lsR1, lsR2, lsR3, e_call, call1, call2, call3, call4, call5, e_callI, ofR_ok, ofR_exc, q_seq, q_nil, q_set, q_expr, q_ret, q_retN, q_if, q_par, par2, q_asg, g_n, g_tup, g_lst, g_nil, g_cons, q_store, o_add, o_sub, o_neg, o_lt, o_le, o_gt, o_ge, o_ixT, o_ixL, o_ixS, o_lenT, o_lenL, o_lenS, o_abs, o_max, o_min, o_intI, o_intB, atI_0, atI_1, atI_2, atI_3, atI_4, atI_5, atI_6, set_n, set_get, set_set, new_n, new_get, mV, List.map_cons, List.map_nil, List.length_cons, List.length_nil, List.replicate, List.cons_append, List.nil_append, List.append_nil, Option.bind_some, Option.map_some, List.getElem?_cons_zero, List.getElem?_cons_succ, List.set_cons_zero, List.set_cons_succ, if_true, if_false, Nat.reduceSub, Nat.reduceAdd, decide_true, decide_false, Bool.not_true, Bool.not_false, reduceIte, Bool.false_eq_true, eq_self, ne_eq, not_true, not_false_iff, Bool.and_true, Bool.true_and, Int.reduceEq, Int.reduceLT, Int.reduceLE, Int.reduceNe, Int.reduceAdd, Int.reduceSub, Int.reduceMul, Int.reduceNeg, String.reduceEq, Nat.reduceLT, Nat.reduceLeDiff, Nat.reduceEqDiff, ofS_inj, ofS_ok, op_v, op_1, op_1x, op_2, op_2x, o1_v, o1_1, cons_1, cons_1x, cons_2, cons_2x, fn_v, fn_1, fn_1x, not_1, and_t, and_f, or_t, or_f, ite_t, ite_f, tupQ_1, lstQ_1, lstRQ_1, call_1, call_1x, callI_1, callI_1x, set_1, set_1x, expr_1, expr_1x, ret_1, ret_1x, ifs_t, ifs_f, ifs_x, par_1, par_1x, asg_1, asg_1x, sto_a, sto_b, sto_c, ds_v, tk_v, for_1, for_1x, Row.d, o_eqS ofS_ok ofS_ok, Row.amiss, am]
def fb : List Row → Nat → Option (String × Nat)
  | [], _ => none
  | r :: l, n => match r.amiss with | some w => some (w, n) | none => fb l (n + 1)
def told : Option (String × Nat) → D
  | none => .bl true
  | some (w, n) => .tup [.str (Str.ofString w), .int (n : Nat)]
theorem fb_good : ∀ (l : List Row) (n : Nat), (∀ p ∈ l, p.amiss = none) → fb l n = none
  | [], _, _ => rfl
  | r :: l, n, h => by
    unfold fb
    rw [h r (List.mem_cons_self ..)]
    exact fb_good l (n + 1) fun p hp => h p (List.mem_cons_of_mem _ hp)
theorem fb_step {l : List Row} {i : Nat} {p : Row} (h : l[i]? = some p) : fb (l.drop i) i = match p.amiss with | some w => some (w, i) | none => fb (l.drop (i + 1)) (i + 1) := by
  have hl : i < l.length := (List.getElem?_eq_some_iff.mp h).1
  rw [List.drop_eq_getElem_cons hl]
  have e : l[i] = p := by rw [List.getElem?_eq_getElem hl] at h; exact Option.some.inj h
  rw [e]
  rfl
theorem i_enum {m : DE} {fr : Fr} {g g1 : GH} {xs : List D} (h : m fr g = .ok (.v (.lst xs)) g1) : iEnumL m fr g = .ok (enumD xs) none g1 := by unfold iEnumL; rw [h]
theorem nn_non : oNotN .non .non = some (.bl false) := rfl
theorem nn_str {w : Str} : oNotN (.str w) .non = some (.bl true) := rfl
theorem enum_row {r : Row} {i : Nat} {d : D} (h : (enumD (r.things.map Row.d))[i]? = some d) : ∃ p, r.things[i]? = some p ∧ d = .tup [.int (i : Nat), p.d] := by
  obtain ⟨x, hx, rfl⟩ := enumD_get h
  rw [List.getElem?_map] at hx
  cases hp : r.things[i]? with
  | none => rw [hp] at hx; cases hx
  | some p => rw [hp] at hx; cases hx; exact ⟨p, rfl, rfl⟩
theorem enum_len (xs : List D) : (enumD xs).length = xs.length := by unfold enumD; simp
theorem look_ok (r : Row) (hd : r.dep < 70) (hs : r.size ≤ 1000) : d_look [r.d] = match fb r.things 0 with
    | none => .ok (.bl true)
    | some (w, n) => .exc ⟨"NoRow", ["word", "at"], [.str (Str.ofString w), .int (n : Nat)]⟩ := by
  have e0 : mCall 1 (d_things_in 70) (aCons (mV 0) aNil) [some (.v r.d), none, none, none] GH.nil = .ok (.v (.lst (r.things.map Row.d))) GH.nil := by simp only [r_bind, r_bindX, r_bindA, r_bindAX, a_bind, a_bindX, a_bindA, a_bindAX, r_toS, r_toSX, a_toS, a_toSX, i_toS, i_toSX, s_nx, s_rt, s_bk, s_ct, s_exc, onB_bl, onBS_bl, ofO_some, asD_v, asDs_nil, asDs_cons, take1_v, takes_nil, takes_v, e_c, e_op, e_op1, e_nil, e_cons, e_fn, e_not, e_and, e_or, e_if, e_tup, e_lst, e_lstR, tup0, tup1, tup2, tup3, tup4, tup5, tup6, tup7, lst0, lst1, lst2, lst3, lst4, lst5, lst6, lsR0, lsR1, lsR2, lsR3, e_call, call1, call2, call3, call4, call5, e_callI, ofR_ok, ofR_exc, q_seq, q_nil, q_set, q_expr, q_ret, q_retN, q_if, q_par, par2, q_asg, g_n, g_tup, g_lst, g_nil, g_cons, q_store, o_add, o_sub, o_neg, o_lt, o_le, o_gt, o_ge, o_ixT, o_ixL, o_ixS, o_lenT, o_lenL, o_lenS, o_abs, o_max, o_min, o_intI, o_intB, atI_0, atI_1, atI_2, atI_3, atI_4, atI_5, atI_6, set_n, set_get, set_set, new_n, new_get, mV, List.map_cons, List.map_nil, List.length_cons, List.length_nil, List.replicate, List.cons_append, List.nil_append, List.append_nil, Option.bind_some, Option.map_some, List.getElem?_cons_zero, List.getElem?_cons_succ, List.set_cons_zero, List.set_cons_succ, if_true, if_false, Nat.reduceSub, Nat.reduceAdd, decide_true, decide_false, Bool.not_true, Bool.not_false, reduceIte, Bool.false_eq_true, eq_self, ne_eq, not_true, not_false_iff, Bool.and_true, Bool.true_and, Int.reduceEq, Int.reduceLT, Int.reduceLE, Int.reduceNe, Int.reduceAdd, Int.reduceSub, Int.reduceMul, Int.reduceNeg, String.reduceEq, Nat.reduceLT, Nat.reduceLeDiff, Nat.reduceEqDiff, ofS_inj, ofS_ok, op_v, op_1, op_1x, op_2, op_2x, o1_v, o1_1, cons_1, cons_1x, cons_2, cons_2x, fn_v, fn_1, fn_1x, not_1, and_t, and_f, or_t, or_f, ite_t, ite_f, tupQ_1, lstQ_1, lstRQ_1, call_1, call_1x, callI_1, callI_1x, set_1, set_1x, expr_1, expr_1x, ret_1, ret_1x, ifs_t, ifs_f, ifs_x, par_1, par_1x, asg_1, asg_1x, sto_a, sto_b, sto_c, ds_v, tk_v, for_1, for_1x, things_ok 70 r hd hs]
  have key := for_post (gd := none) (items := enumD (r.things.map Row.d)) (t := gT (gsCons (gN 1) (gsCons (gN 2) gsNil))) (s := sSeq (sSet 3 (mCall 1 (d_wrong_with) (aCons (mV 2) aNil))) (sIf (mOp oNotN (mV 3) (mC .non)) (sRaise "NoRow" ["word", "at"] (aCons (mV 3) (aCons (mV 1) aNil))) sNil))
    (fr := [some (.v r.d), none, none, none]) (g := GH.nil) (fun i fr g => (∃ a b c, fr = [some (.v r.d), a, b, c]) ∧ g = GH.nil ∧ fb r.things 0 = fb (r.things.drop i) i)
    (fun x => match fb r.things 0 with
      | none => ∃ fr, x = .nx fr GH.nil
      | some (w, n) => ∃ fr, x = .exc ⟨"NoRow", ["word", "at"], [.str (Str.ofString w), .int (n : Nat)]⟩ fr GH.nil) (fun _ _ _ _ => gd_none) ⟨⟨_, _, _, rfl⟩, rfl, rfl⟩ (fun i d fr g hd hI => ?_) (fun fr g hI => ?_)
  · unfold d_look b_look
    cases hf : fb r.things 0 with
    | none =>
      rw [hf] at key
      obtain ⟨fr, e⟩ := key
      refine runP_rt (g1 := GH.nil) ?_
      simp only [r_bind, r_bindX, r_bindA, r_bindAX, a_bind, a_bindX, a_bindA, a_bindAX, r_toS, r_toSX, a_toS, a_toSX, i_toS, i_toSX, s_nx, s_rt, s_bk, s_ct, s_exc, onB_bl, onBS_bl, ofO_some, asD_v, asDs_nil, asDs_cons, take1_v, takes_nil, takes_v, e_c, e_op, e_op1, e_nil, e_cons, e_fn, e_not, e_and, e_or, e_if, e_tup, e_lst, e_lstR, tup0, tup1, tup2, tup3, tup4, tup5, tup6, tup7, lst0, lst1, lst2, lst3, lst4, lst5, lst6, lsR0, lsR1, lsR2, lsR3, e_call, call1, call2, call3, call4, call5, e_callI, ofR_ok, ofR_exc, q_seq, q_nil, q_set, q_expr, q_ret, q_retN, q_if, q_par, par2, q_asg, g_n, g_tup, g_lst, g_nil, g_cons, q_store, o_add, o_sub, o_neg, o_lt, o_le, o_gt, o_ge, o_ixT, o_ixL, o_ixS, o_lenT, o_lenL, o_lenS, o_abs, o_max, o_min, o_intI, o_intB, atI_0, atI_1, atI_2, atI_3, atI_4, atI_5, atI_6, set_n, set_get, set_set, new_n, new_get, mV, List.map_cons, List.map_nil, List.length_cons, List.length_nil, List.replicate, List.cons_append, List.nil_append, List.append_nil, Option.bind_some, Option.map_some, List.getElem?_cons_zero, List.getElem?_cons_succ, List.set_cons_zero, List.set_cons_succ, if_true, if_false, Nat.reduceSub, Nat.reduceAdd, decide_true, decide_false, Bool.not_true, Bool.not_false, reduceIte, Bool.false_eq_true, eq_self, ne_eq, not_true, not_false_iff, Bool.and_true, Bool.true_and, Int.reduceEq, Int.reduceLT, Int.reduceLE, Int.reduceNe, Int.reduceAdd, Int.reduceSub, Int.reduceMul, Int.reduceNeg, String.reduceEq, Nat.reduceLT, Nat.reduceLeDiff, Nat.reduceEqDiff, ofS_inj, ofS_ok, op_v, op_1, op_1x, op_2, op_2x, o1_v, o1_1, cons_1, cons_1x, cons_2, cons_2x, fn_v, fn_1, fn_1x, not_1, and_t, and_f, or_t, or_f, ite_t, ite_f, tupQ_1, lstQ_1, lstRQ_1, call_1, call_1x, callI_1, callI_1x, set_1, set_1x, expr_1, expr_1x, ret_1, ret_1x, ifs_t, ifs_f, ifs_x, par_1, par_1x, asg_1, asg_1x, sto_a, sto_b, sto_c, ds_v, tk_v, for_1, for_1x, q_for, i_enum e0, e]
    | some p =>
      obtain ⟨w, n⟩ := p
      rw [hf] at key
      obtain ⟨fr, e⟩ := key
      refine runP_exc (fr := fr) (g1 := GH.nil) ?_
      simp only [r_bind, r_bindX, r_bindA, r_bindAX, a_bind, a_bindX, a_bindA, a_bindAX, r_toS, r_toSX, a_toS, a_toSX, i_toS, i_toSX, s_nx, s_rt, s_bk, s_ct, s_exc, onB_bl, onBS_bl, ofO_some, asD_v, asDs_nil, asDs_cons, take1_v, takes_nil, takes_v, e_c, e_op, e_op1, e_nil, e_cons, e_fn, e_not, e_and, e_or, e_if, e_tup, e_lst, e_lstR, tup0, tup1, tup2, tup3, tup4, tup5, tup6, tup7, lst0, lst1, lst2, lst3, lst4, lst5, lst6, lsR0, lsR1, lsR2, lsR3, e_call, call1, call2, call3, call4, call5, e_callI, ofR_ok, ofR_exc, q_seq, q_nil, q_set, q_expr, q_ret, q_retN, q_if, q_par, par2, q_asg, g_n, g_tup, g_lst, g_nil, g_cons, q_store, o_add, o_sub, o_neg, o_lt, o_le, o_gt, o_ge, o_ixT, o_ixL, o_ixS, o_lenT, o_lenL, o_lenS, o_abs, o_max, o_min, o_intI, o_intB, atI_0, atI_1, atI_2, atI_3, atI_4, atI_5, atI_6, set_n, set_get, set_set, new_n, new_get, mV, List.map_cons, List.map_nil, List.length_cons, List.length_nil, List.replicate, List.cons_append, List.nil_append, List.append_nil, Option.bind_some, Option.map_some, List.getElem?_cons_zero, List.getElem?_cons_succ, List.set_cons_zero, List.set_cons_succ, if_true, if_false, Nat.reduceSub, Nat.reduceAdd, decide_true, decide_false, Bool.not_true, Bool.not_false, reduceIte, Bool.false_eq_true, eq_self, ne_eq, not_true, not_false_iff, Bool.and_true, Bool.true_and, Int.reduceEq, Int.reduceLT, Int.reduceLE, Int.reduceNe, Int.reduceAdd, Int.reduceSub, Int.reduceMul, Int.reduceNeg, String.reduceEq, Nat.reduceLT, Nat.reduceLeDiff, Nat.reduceEqDiff, ofS_inj, ofS_ok, op_v, op_1, op_1x, op_2, op_2x, o1_v, o1_1, cons_1, cons_1x, cons_2, cons_2x, fn_v, fn_1, fn_1x, not_1, and_t, and_f, or_t, or_f, ite_t, ite_f, tupQ_1, lstQ_1, lstRQ_1, call_1, call_1x, callI_1, callI_1x, set_1, set_1x, expr_1, expr_1x, ret_1, ret_1x, ifs_t, ifs_f, ifs_x, par_1, par_1x, asg_1, asg_1x, sto_a, sto_b, sto_c, ds_v, tk_v, for_1, for_1x, q_for, i_enum e0, e]
  · obtain ⟨⟨a, b, c, rfl⟩, rfl, hfb⟩ := hI
    obtain ⟨p, hp, rfl⟩ := enum_row hd
    rw [fb_step hp] at hfb
    refine ⟨_, rfl, ?_⟩
    cases ha : p.amiss with
    | none =>
      rw [ha] at hfb
      refine .inl ⟨[some (.v r.d), some (.v (.int (i : Nat))), some (.v p.d), some (.v .non)], GH.nil, ?_, ⟨_, _, _, rfl⟩, rfl, hfb⟩
      simp only [r_bind, r_bindX, r_bindA, r_bindAX, a_bind, a_bindX, a_bindA, a_bindAX, r_toS, r_toSX, a_toS, a_toSX, i_toS, i_toSX, s_nx, s_rt, s_bk, s_ct, s_exc, onB_bl, onBS_bl, ofO_some, asD_v, asDs_nil, asDs_cons, take1_v, takes_nil, takes_v, e_c, e_op, e_op1, e_nil, e_cons, e_fn, e_not, e_and, e_or, e_if, e_tup, e_lst, e_lstR, tup0, tup1, tup2, tup3, tup4, tup5, tup6, tup7, lst0, lst1, lst2, lst3, lst4, lst5, lst6, lsR0, lsR1, lsR2, lsR3, e_call, call1, call2, call3, call4, call5, e_callI, ofR_ok, ofR_exc, q_seq, q_nil, q_set, q_expr, q_ret, q_retN, q_if, q_par, par2, q_asg, g_n, g_tup, g_lst, g_nil, g_cons, q_store, o_add, o_sub, o_neg, o_lt, o_le, o_gt, o_ge, o_ixT, o_ixL, o_ixS, o_lenT, o_lenL, o_lenS, o_abs, o_max, o_min, o_intI, o_intB, atI_0, atI_1, atI_2, atI_3, atI_4, atI_5, atI_6, set_n, set_get, set_set, new_n, new_get, mV, List.map_cons, List.map_nil, List.length_cons, List.length_nil, List.replicate, List.cons_append, List.nil_append, List.append_nil, Option.bind_some, Option.map_some, List.getElem?_cons_zero, List.getElem?_cons_succ, List.set_cons_zero, List.set_cons_succ, if_true, if_false, Nat.reduceSub, Nat.reduceAdd, decide_true, decide_false, Bool.not_true, Bool.not_false, reduceIte, Bool.false_eq_true, eq_self, ne_eq, not_true, not_false_iff, Bool.and_true, Bool.true_and, Int.reduceEq, Int.reduceLT, Int.reduceLE, Int.reduceNe, Int.reduceAdd, Int.reduceSub, Int.reduceMul, Int.reduceNeg, String.reduceEq, Nat.reduceLT, Nat.reduceLeDiff, Nat.reduceEqDiff, ofS_inj, ofS_ok, op_v, op_1, op_1x, op_2, op_2x, o1_v, o1_1, cons_1, cons_1x, cons_2, cons_2x, fn_v, fn_1, fn_1x, not_1, and_t, and_f, or_t, or_f, ite_t, ite_f, tupQ_1, lstQ_1, lstRQ_1, call_1, call_1x, callI_1, callI_1x, set_1, set_1x, expr_1, expr_1x, ret_1, ret_1x, ifs_t, ifs_f, ifs_x, par_1, par_1x, asg_1, asg_1x, sto_a, sto_b, sto_c, ds_v, tk_v, for_1, for_1x, wrong_ok p, ha, am, nn_non]
    | some w =>
      rw [ha] at hfb
      refine .inr (.inr (.inr (.inr ⟨⟨"NoRow", ["word", "at"], [.str (Str.ofString w), .int (i : Nat)]⟩, [some (.v r.d), some (.v (.int (i : Nat))), some (.v p.d), some (.v (.str (Str.ofString w)))], GH.nil, ?_, ?_⟩)))
      · simp only [r_bind, r_bindX, r_bindA, r_bindAX, a_bind, a_bindX, a_bindA, a_bindAX, r_toS, r_toSX, a_toS, a_toSX, i_toS, i_toSX, s_nx, s_rt, s_bk, s_ct, s_exc, onB_bl, onBS_bl, ofO_some, asD_v, asDs_nil, asDs_cons, take1_v, takes_nil, takes_v, e_c, e_op, e_op1, e_nil, e_cons, e_fn, e_not, e_and, e_or, e_if, e_tup, e_lst, e_lstR, tup0, tup1, tup2, tup3, tup4, tup5, tup6, tup7, lst0, lst1, lst2, lst3, lst4, lst5, lst6, lsR0, lsR1, lsR2, lsR3, e_call, call1, call2, call3, call4, call5, e_callI, ofR_ok, ofR_exc, q_seq, q_nil, q_set, q_expr, q_ret, q_retN, q_if, q_par, par2, q_asg, g_n, g_tup, g_lst, g_nil, g_cons, q_store, o_add, o_sub, o_neg, o_lt, o_le, o_gt, o_ge, o_ixT, o_ixL, o_ixS, o_lenT, o_lenL, o_lenS, o_abs, o_max, o_min, o_intI, o_intB, atI_0, atI_1, atI_2, atI_3, atI_4, atI_5, atI_6, set_n, set_get, set_set, new_n, new_get, mV, List.map_cons, List.map_nil, List.length_cons, List.length_nil, List.replicate, List.cons_append, List.nil_append, List.append_nil, Option.bind_some, Option.map_some, List.getElem?_cons_zero, List.getElem?_cons_succ, List.set_cons_zero, List.set_cons_succ, if_true, if_false, Nat.reduceSub, Nat.reduceAdd, decide_true, decide_false, Bool.not_true, Bool.not_false, reduceIte, Bool.false_eq_true, eq_self, ne_eq, not_true, not_false_iff, Bool.and_true, Bool.true_and, Int.reduceEq, Int.reduceLT, Int.reduceLE, Int.reduceNe, Int.reduceAdd, Int.reduceSub, Int.reduceMul, Int.reduceNeg, String.reduceEq, Nat.reduceLT, Nat.reduceLeDiff, Nat.reduceEqDiff, ofS_inj, ofS_ok, op_v, op_1, op_1x, op_2, op_2x, o1_v, o1_1, cons_1, cons_1x, cons_2, cons_2x, fn_v, fn_1, fn_1x, not_1, and_t, and_f, or_t, or_f, ite_t, ite_f, tupQ_1, lstQ_1, lstRQ_1, call_1, call_1x, callI_1, callI_1x, set_1, set_1x, expr_1, expr_1x, ret_1, ret_1x, ifs_t, ifs_f, ifs_x, par_1, par_1x, asg_1, asg_1x, sto_a, sto_b, sto_c, ds_v, tk_v, for_1, for_1x, wrong_ok p, ha, am, nn_str, sRaise, and_self]
      · rw [hfb]
        exact ⟨_, rfl⟩
  · obtain ⟨⟨a, b, c, rfl⟩, rfl, hfb⟩ := hI
    rw [enum_len, List.length_map, List.drop_length] at hfb
    rw [hfb]
    exact ⟨_, rfl⟩
theorem due_ok (r : Row) (hd : r.dep < 70) (hs : r.size ≤ 1000) : d_Ldue [r.d] = .ok (told (fb r.things 0)) := by
  have e0 : mCall 1 (d_Lthings 70) (aCons (mV 0) aNil) [some (.v r.d), none, none] GH.nil = .ok (.v (.lst (r.things.map Row.d))) GH.nil := by simp only [r_bind, r_bindX, r_bindA, r_bindAX, a_bind, a_bindX, a_bindA, a_bindAX, r_toS, r_toSX, a_toS, a_toSX, i_toS, i_toSX, s_nx, s_rt, s_bk, s_ct, s_exc, onB_bl, onBS_bl, ofO_some, asD_v, asDs_nil, asDs_cons, take1_v, takes_nil, takes_v, e_c, e_op, e_op1, e_nil, e_cons, e_fn, e_not, e_and, e_or, e_if, e_tup, e_lst, e_lstR, tup0, tup1, tup2, tup3, tup4, tup5, tup6, tup7, lst0, lst1, lst2, lst3, lst4, lst5, lst6, lsR0, lsR1, lsR2, lsR3, e_call, call1, call2, call3, call4, call5, e_callI, ofR_ok, ofR_exc, q_seq, q_nil, q_set, q_expr, q_ret, q_retN, q_if, q_par, par2, q_asg, g_n, g_tup, g_lst, g_nil, g_cons, q_store, o_add, o_sub, o_neg, o_lt, o_le, o_gt, o_ge, o_ixT, o_ixL, o_ixS, o_lenT, o_lenL, o_lenS, o_abs, o_max, o_min, o_intI, o_intB, atI_0, atI_1, atI_2, atI_3, atI_4, atI_5, atI_6, set_n, set_get, set_set, new_n, new_get, mV, List.map_cons, List.map_nil, List.length_cons, List.length_nil, List.replicate, List.cons_append, List.nil_append, List.append_nil, Option.bind_some, Option.map_some, List.getElem?_cons_zero, List.getElem?_cons_succ, List.set_cons_zero, List.set_cons_succ, if_true, if_false, Nat.reduceSub, Nat.reduceAdd, decide_true, decide_false, Bool.not_true, Bool.not_false, reduceIte, Bool.false_eq_true, eq_self, ne_eq, not_true, not_false_iff, Bool.and_true, Bool.true_and, Int.reduceEq, Int.reduceLT, Int.reduceLE, Int.reduceNe, Int.reduceAdd, Int.reduceSub, Int.reduceMul, Int.reduceNeg, String.reduceEq, Nat.reduceLT, Nat.reduceLeDiff, Nat.reduceEqDiff, ofS_inj, ofS_ok, op_v, op_1, op_1x, op_2, op_2x, o1_v, o1_1, cons_1, cons_1x, cons_2, cons_2x, fn_v, fn_1, fn_1x, not_1, and_t, and_f, or_t, or_f, ite_t, ite_f, tupQ_1, lstQ_1, lstRQ_1, call_1, call_1x, callI_1, callI_1x, set_1, set_1x, expr_1, expr_1x, ret_1, ret_1x, ifs_t, ifs_f, ifs_x, par_1, par_1x, asg_1, asg_1x, sto_a, sto_b, sto_c, ds_v, tk_v, for_1, for_1x, Lthings_ok 70 r hd hs]
  have key := for_post (gd := none) (items := enumD (r.things.map Row.d)) (t := gT (gsCons (gN 1) (gsCons (gN 2) gsNil))) (s := sIf (mOp oNotN (mCall 1 (d_Lamiss) (aCons (mV 2) aNil)) (mC .non)) (sRet (mTup (aCons (mCall 1 (d_Lamiss) (aCons (mV 2) aNil)) (aCons (mV 1) aNil)))) sNil)
    (fr := [some (.v r.d), none, none]) (g := GH.nil) (fun i fr g => (∃ a b, fr = [some (.v r.d), a, b]) ∧ g = GH.nil ∧ fb r.things 0 = fb (r.things.drop i) i)
    (fun x => match fb r.things 0 with
      | none => ∃ fr, x = .nx fr GH.nil
      | some (w, n) => x = .rt (.v (.tup [.str (Str.ofString w), .int (n : Nat)])) GH.nil) (fun _ _ _ _ => gd_none) ⟨⟨_, _, rfl⟩, rfl, rfl⟩ (fun i d fr g hd hI => ?_) (fun fr g hI => ?_)
  · unfold d_Ldue b_Ldue
    cases hf : fb r.things 0 with
    | none =>
      rw [hf] at key
      obtain ⟨fr, e⟩ := key
      refine runP_rt (g1 := GH.nil) ?_
      simp only [r_bind, r_bindX, r_bindA, r_bindAX, a_bind, a_bindX, a_bindA, a_bindAX, r_toS, r_toSX, a_toS, a_toSX, i_toS, i_toSX, s_nx, s_rt, s_bk, s_ct, s_exc, onB_bl, onBS_bl, ofO_some, asD_v, asDs_nil, asDs_cons, take1_v, takes_nil, takes_v, e_c, e_op, e_op1, e_nil, e_cons, e_fn, e_not, e_and, e_or, e_if, e_tup, e_lst, e_lstR, tup0, tup1, tup2, tup3, tup4, tup5, tup6, tup7, lst0, lst1, lst2, lst3, lst4, lst5, lst6, lsR0, lsR1, lsR2, lsR3, e_call, call1, call2, call3, call4, call5, e_callI, ofR_ok, ofR_exc, q_seq, q_nil, q_set, q_expr, q_ret, q_retN, q_if, q_par, par2, q_asg, g_n, g_tup, g_lst, g_nil, g_cons, q_store, o_add, o_sub, o_neg, o_lt, o_le, o_gt, o_ge, o_ixT, o_ixL, o_ixS, o_lenT, o_lenL, o_lenS, o_abs, o_max, o_min, o_intI, o_intB, atI_0, atI_1, atI_2, atI_3, atI_4, atI_5, atI_6, set_n, set_get, set_set, new_n, new_get, mV, List.map_cons, List.map_nil, List.length_cons, List.length_nil, List.replicate, List.cons_append, List.nil_append, List.append_nil, Option.bind_some, Option.map_some, List.getElem?_cons_zero, List.getElem?_cons_succ, List.set_cons_zero, List.set_cons_succ, if_true, if_false, Nat.reduceSub, Nat.reduceAdd, decide_true, decide_false, Bool.not_true, Bool.not_false, reduceIte, Bool.false_eq_true, eq_self, ne_eq, not_true, not_false_iff, Bool.and_true, Bool.true_and, Int.reduceEq, Int.reduceLT, Int.reduceLE, Int.reduceNe, Int.reduceAdd, Int.reduceSub, Int.reduceMul, Int.reduceNeg, String.reduceEq, Nat.reduceLT, Nat.reduceLeDiff, Nat.reduceEqDiff, ofS_inj, ofS_ok, op_v, op_1, op_1x, op_2, op_2x, o1_v, o1_1, cons_1, cons_1x, cons_2, cons_2x, fn_v, fn_1, fn_1x, not_1, and_t, and_f, or_t, or_f, ite_t, ite_f, tupQ_1, lstQ_1, lstRQ_1, call_1, call_1x, callI_1, callI_1x, set_1, set_1x, expr_1, expr_1x, ret_1, ret_1x, ifs_t, ifs_f, ifs_x, par_1, par_1x, asg_1, asg_1x, sto_a, sto_b, sto_c, ds_v, tk_v, for_1, for_1x, q_for, i_enum e0, e, told]
    | some p =>
      obtain ⟨w, n⟩ := p
      rw [hf] at key
      refine runP_rt (g1 := GH.nil) ?_
      have key : _ = _ := key
      simp only [r_bind, r_bindX, r_bindA, r_bindAX, a_bind, a_bindX, a_bindA, a_bindAX, r_toS, r_toSX, a_toS, a_toSX, i_toS, i_toSX, s_nx, s_rt, s_bk, s_ct, s_exc, onB_bl, onBS_bl, ofO_some, asD_v, asDs_nil, asDs_cons, take1_v, takes_nil, takes_v, e_c, e_op, e_op1, e_nil, e_cons, e_fn, e_not, e_and, e_or, e_if, e_tup, e_lst, e_lstR, tup0, tup1, tup2, tup3, tup4, tup5, tup6, tup7, lst0, lst1, lst2, lst3, lst4, lst5, lst6, lsR0, lsR1, lsR2, lsR3, e_call, call1, call2, call3, call4, call5, e_callI, ofR_ok, ofR_exc, q_seq, q_nil, q_set, q_expr, q_ret, q_retN, q_if, q_par, par2, q_asg, g_n, g_tup, g_lst, g_nil, g_cons, q_store, o_add, o_sub, o_neg, o_lt, o_le, o_gt, o_ge, o_ixT, o_ixL, o_ixS, o_lenT, o_lenL, o_lenS, o_abs, o_max, o_min, o_intI, o_intB, atI_0, atI_1, atI_2, atI_3, atI_4, atI_5, atI_6, set_n, set_get, set_set, new_n, new_get, mV, List.map_cons, List.map_nil, List.length_cons, List.length_nil, List.replicate, List.cons_append, List.nil_append, List.append_nil, Option.bind_some, Option.map_some, List.getElem?_cons_zero, List.getElem?_cons_succ, List.set_cons_zero, List.set_cons_succ, if_true, if_false, Nat.reduceSub, Nat.reduceAdd, decide_true, decide_false, Bool.not_true, Bool.not_false, reduceIte, Bool.false_eq_true, eq_self, ne_eq, not_true, not_false_iff, Bool.and_true, Bool.true_and, Int.reduceEq, Int.reduceLT, Int.reduceLE, Int.reduceNe, Int.reduceAdd, Int.reduceSub, Int.reduceMul, Int.reduceNeg, String.reduceEq, Nat.reduceLT, Nat.reduceLeDiff, Nat.reduceEqDiff, ofS_inj, ofS_ok, op_v, op_1, op_1x, op_2, op_2x, o1_v, o1_1, cons_1, cons_1x, cons_2, cons_2x, fn_v, fn_1, fn_1x, not_1, and_t, and_f, or_t, or_f, ite_t, ite_f, tupQ_1, lstQ_1, lstRQ_1, call_1, call_1x, callI_1, callI_1x, set_1, set_1x, expr_1, expr_1x, ret_1, ret_1x, ifs_t, ifs_f, ifs_x, par_1, par_1x, asg_1, asg_1x, sto_a, sto_b, sto_c, ds_v, tk_v, for_1, for_1x, q_for, i_enum e0, key, told]
  · obtain ⟨⟨a, b, rfl⟩, rfl, hfb⟩ := hI
    obtain ⟨p, hp, rfl⟩ := enum_row hd
    rw [fb_step hp] at hfb
    refine ⟨_, rfl, ?_⟩
    cases ha : p.amiss with
    | none =>
      rw [ha] at hfb
      refine .inl ⟨[some (.v r.d), some (.v (.int (i : Nat))), some (.v p.d)], GH.nil, ?_, ⟨_, _, rfl⟩, rfl, hfb⟩
      simp only [r_bind, r_bindX, r_bindA, r_bindAX, a_bind, a_bindX, a_bindA, a_bindAX, r_toS, r_toSX, a_toS, a_toSX, i_toS, i_toSX, s_nx, s_rt, s_bk, s_ct, s_exc, onB_bl, onBS_bl, ofO_some, asD_v, asDs_nil, asDs_cons, take1_v, takes_nil, takes_v, e_c, e_op, e_op1, e_nil, e_cons, e_fn, e_not, e_and, e_or, e_if, e_tup, e_lst, e_lstR, tup0, tup1, tup2, tup3, tup4, tup5, tup6, tup7, lst0, lst1, lst2, lst3, lst4, lst5, lst6, lsR0, lsR1, lsR2, lsR3, e_call, call1, call2, call3, call4, call5, e_callI, ofR_ok, ofR_exc, q_seq, q_nil, q_set, q_expr, q_ret, q_retN, q_if, q_par, par2, q_asg, g_n, g_tup, g_lst, g_nil, g_cons, q_store, o_add, o_sub, o_neg, o_lt, o_le, o_gt, o_ge, o_ixT, o_ixL, o_ixS, o_lenT, o_lenL, o_lenS, o_abs, o_max, o_min, o_intI, o_intB, atI_0, atI_1, atI_2, atI_3, atI_4, atI_5, atI_6, set_n, set_get, set_set, new_n, new_get, mV, List.map_cons, List.map_nil, List.length_cons, List.length_nil, List.replicate, List.cons_append, List.nil_append, List.append_nil, Option.bind_some, Option.map_some, List.getElem?_cons_zero, List.getElem?_cons_succ, List.set_cons_zero, List.set_cons_succ, if_true, if_false, Nat.reduceSub, Nat.reduceAdd, decide_true, decide_false, Bool.not_true, Bool.not_false, reduceIte, Bool.false_eq_true, eq_self, ne_eq, not_true, not_false_iff, Bool.and_true, Bool.true_and, Int.reduceEq, Int.reduceLT, Int.reduceLE, Int.reduceNe, Int.reduceAdd, Int.reduceSub, Int.reduceMul, Int.reduceNeg, String.reduceEq, Nat.reduceLT, Nat.reduceLeDiff, Nat.reduceEqDiff, ofS_inj, ofS_ok, op_v, op_1, op_1x, op_2, op_2x, o1_v, o1_1, cons_1, cons_1x, cons_2, cons_2x, fn_v, fn_1, fn_1x, not_1, and_t, and_f, or_t, or_f, ite_t, ite_f, tupQ_1, lstQ_1, lstRQ_1, call_1, call_1x, callI_1, callI_1x, set_1, set_1x, expr_1, expr_1x, ret_1, ret_1x, ifs_t, ifs_f, ifs_x, par_1, par_1x, asg_1, asg_1x, sto_a, sto_b, sto_c, ds_v, tk_v, for_1, for_1x, amiss_ok p, ha, am, nn_non]
    | some w =>
      rw [ha] at hfb
      refine .inr (.inr (.inr (.inl ⟨.v (.tup [.str (Str.ofString w), .int (i : Nat)]), GH.nil, ?_, ?_⟩)))
      · simp only [r_bind, r_bindX, r_bindA, r_bindAX, a_bind, a_bindX, a_bindA, a_bindAX, r_toS, r_toSX, a_toS, a_toSX, i_toS, i_toSX, s_nx, s_rt, s_bk, s_ct, s_exc, onB_bl, onBS_bl, ofO_some, asD_v, asDs_nil, asDs_cons, take1_v, takes_nil, takes_v, e_c, e_op, e_op1, e_nil, e_cons, e_fn, e_not, e_and, e_or, e_if, e_tup, e_lst, e_lstR, tup0, tup1, tup2, tup3, tup4, tup5, tup6, tup7, lst0, lst1, lst2, lst3, lst4, lst5, lst6, lsR0, lsR1, lsR2, lsR3, e_call, call1, call2, call3, call4, call5, e_callI, ofR_ok, ofR_exc, q_seq, q_nil, q_set, q_expr, q_ret, q_retN, q_if, q_par, par2, q_asg, g_n, g_tup, g_lst, g_nil, g_cons, q_store, o_add, o_sub, o_neg, o_lt, o_le, o_gt, o_ge, o_ixT, o_ixL, o_ixS, o_lenT, o_lenL, o_lenS, o_abs, o_max, o_min, o_intI, o_intB, atI_0, atI_1, atI_2, atI_3, atI_4, atI_5, atI_6, set_n, set_get, set_set, new_n, new_get, mV, List.map_cons, List.map_nil, List.length_cons, List.length_nil, List.replicate, List.cons_append, List.nil_append, List.append_nil, Option.bind_some, Option.map_some, List.getElem?_cons_zero, List.getElem?_cons_succ, List.set_cons_zero, List.set_cons_succ, if_true, if_false, Nat.reduceSub, Nat.reduceAdd, decide_true, decide_false, Bool.not_true, Bool.not_false, reduceIte, Bool.false_eq_true, eq_self, ne_eq, not_true, not_false_iff, Bool.and_true, Bool.true_and, Int.reduceEq, Int.reduceLT, Int.reduceLE, Int.reduceNe, Int.reduceAdd, Int.reduceSub, Int.reduceMul, Int.reduceNeg, String.reduceEq, Nat.reduceLT, Nat.reduceLeDiff, Nat.reduceEqDiff, ofS_inj, ofS_ok, op_v, op_1, op_1x, op_2, op_2x, o1_v, o1_1, cons_1, cons_1x, cons_2, cons_2x, fn_v, fn_1, fn_1x, not_1, and_t, and_f, or_t, or_f, ite_t, ite_f, tupQ_1, lstQ_1, lstRQ_1, call_1, call_1x, callI_1, callI_1x, set_1, set_1x, expr_1, expr_1x, ret_1, ret_1x, ifs_t, ifs_f, ifs_x, par_1, par_1x, asg_1, asg_1x, sto_a, sto_b, sto_c, ds_v, tk_v, for_1, for_1x, amiss_ok p, ha, am, nn_str]
      · rw [hfb]
  · obtain ⟨⟨a, b, rfl⟩, rfl, hfb⟩ := hI
    rw [enum_len, List.length_map, List.drop_length] at hfb
    rw [hfb]
    exact ⟨_, rfl⟩
theorem ofS_beq {a b : String} : (Str.ofString a == Str.ofString b) = decide (a = b) := by
  by_cases h : a = b
  · subst h; simp
  · rw [decide_eq_false h]
    exact beq_false_of_ne fun z => h (ofS_inj.mp z)
theorem isi_int {i : Int} : oIsi [.int i, .ty "bool"] = some (.bl false) := by
  have : (D.int i).isa "bool" = some false := by unfold D.isa; rfl
  unfold oIsi
  simp only [this, Option.map_some]
theorem met_ok (r : Row) (hd : r.dep < 70) (hs : r.size ≤ 1000) : d_Lmet [r.d] = .ok (told (fb r.things 0)) := by
  have lk := look_ok r hd hs
  unfold d_Lmet b_Lmet
  cases hf : fb r.things 0 with
  | none =>
    rw [hf] at lk
    refine runP_rt (g1 := GH.nil) ?_
    simp only [r_bind, r_bindX, r_bindA, r_bindAX, a_bind, a_bindX, a_bindA, a_bindAX, r_toS, r_toSX, a_toS, a_toSX, i_toS, i_toSX, s_nx, s_rt, s_bk, s_ct, s_exc, onB_bl, onBS_bl, ofO_some, asD_v, asDs_nil, asDs_cons, take1_v, takes_nil, takes_v, e_c, e_op, e_op1, e_nil, e_cons, e_fn, e_not, e_and, e_or, e_if, e_tup, e_lst, e_lstR, tup0, tup1, tup2, tup3, tup4, tup5, tup6, tup7, lst0, lst1, lst2, lst3, lst4, lst5, lst6, lsR0, lsR1, lsR2, lsR3, e_call, call1, call2, call3, call4, call5, e_callI, ofR_ok, ofR_exc, q_seq, q_nil, q_set, q_expr, q_ret, q_retN, q_if, q_par, par2, q_asg, g_n, g_tup, g_lst, g_nil, g_cons, q_store, o_add, o_sub, o_neg, o_lt, o_le, o_gt, o_ge, o_ixT, o_ixL, o_ixS, o_lenT, o_lenL, o_lenS, o_abs, o_max, o_min, o_intI, o_intB, atI_0, atI_1, atI_2, atI_3, atI_4, atI_5, atI_6, set_n, set_get, set_set, new_n, new_get, mV, List.map_cons, List.map_nil, List.length_cons, List.length_nil, List.replicate, List.cons_append, List.nil_append, List.append_nil, Option.bind_some, Option.map_some, List.getElem?_cons_zero, List.getElem?_cons_succ, List.set_cons_zero, List.set_cons_succ, if_true, if_false, Nat.reduceSub, Nat.reduceAdd, decide_true, decide_false, Bool.not_true, Bool.not_false, reduceIte, Bool.false_eq_true, eq_self, ne_eq, not_true, not_false_iff, Bool.and_true, Bool.true_and, Int.reduceEq, Int.reduceLT, Int.reduceLE, Int.reduceNe, Int.reduceAdd, Int.reduceSub, Int.reduceMul, Int.reduceNeg, String.reduceEq, Nat.reduceLT, Nat.reduceLeDiff, Nat.reduceEqDiff, ofS_inj, ofS_ok, op_v, op_1, op_1x, op_2, op_2x, o1_v, o1_1, cons_1, cons_1x, cons_2, cons_2x, fn_v, fn_1, fn_1x, not_1, and_t, and_f, or_t, or_f, ite_t, ite_f, tupQ_1, lstQ_1, lstRQ_1, call_1, call_1x, callI_1, callI_1x, set_1, set_1x, expr_1, expr_1x, ret_1, ret_1x, ifs_t, ifs_f, ifs_x, par_1, par_1x, asg_1, asg_1x, sto_a, sto_b, sto_c, ds_v, tk_v, for_1, for_1x, sTry, lk, told]
  | some p =>
    obtain ⟨w, n⟩ := p
    rw [hf] at lk
    have lk : d_look [r.d] = .exc ⟨"NoRow", ["word", "at"], [.str (Str.ofString w), .int (n : Nat)]⟩ := lk
    refine runP_rt (g1 := GH.nil) ?_
    have tr := sTry_exc (i := 2) (sub := subE_NoRow) (s := sSet 1 (mCall 1 (d_look) (aCons (mV 0) aNil)))
      (su := fun a_ C_ d_ => (sSeq (sSet 3 (mFn (oIsE a_ C_ d_ tabE tabT) (aCons (mV 2) (aCons (mTup (aCons (mC (.cls "NoBack")) (aCons (mC (.cls "NoBook")) (aCons (mC (.cls "NoDeed")) (aCons (mC (.cls "NoTower")) (aCons (mC (.cls "NoText")) (aCons (mC (.cls "TooHigh")) aNil))))))) aNil))))
  (sIf (mAnd (mFn (oIsE a_ C_ d_ tabE tabT) (aCons (mV 2) (aCons (mC (.cls "SumError")) aNil))) (mAnd (mFn (oIsE a_ C_ d_ tabE tabT) (aCons (mV 2) (aCons (mC (.ty "ValueError")) aNil))) (mAnd (mNot (mV 3)) (mNot (mFn oIsi (aCons (mXf a_ C_ d_ "NoRow" "at" (mV 2)) (aCons (mC (.ty "bool")) aNil)))))))
  (sSet 1 (mTup (aCons (mXf a_ C_ d_ "NoRow" "word" (mV 2)) (aCons (mXf a_ C_ d_ "NoRow" "at" (mV 2)) aNil))))
  sNil)))
      (fr := [some (.v r.d), some (.v (.str "other")), none, none]) (g := GH.nil) (e := ⟨"NoRow", ["word", "at"], [.str (Str.ofString w), .int (n : Nat)]⟩) (fr1 := [some (.v r.d), some (.v (.str "other")), none, none]) (g1 := GH.nil)
      (r := .nx [some (.v r.d), some (.v (.tup [.str (Str.ofString w), .int (n : Nat)])), none, some (.v (.bl false))] GH.nil)
      (by simp only [r_bind, r_bindX, r_bindA, r_bindAX, a_bind, a_bindX, a_bindA, a_bindAX, r_toS, r_toSX, a_toS, a_toSX, i_toS, i_toSX, s_nx, s_rt, s_bk, s_ct, s_exc, onB_bl, onBS_bl, ofO_some, asD_v, asDs_nil, asDs_cons, take1_v, takes_nil, takes_v, e_c, e_op, e_op1, e_nil, e_cons, e_fn, e_not, e_and, e_or, e_if, e_tup, e_lst, e_lstR, tup0, tup1, tup2, tup3, tup4, tup5, tup6, tup7, lst0, lst1, lst2, lst3, lst4, lst5, lst6, lsR0, lsR1, lsR2, lsR3, e_call, call1, call2, call3, call4, call5, e_callI, ofR_ok, ofR_exc, q_seq, q_nil, q_set, q_expr, q_ret, q_retN, q_if, q_par, par2, q_asg, g_n, g_tup, g_lst, g_nil, g_cons, q_store, o_add, o_sub, o_neg, o_lt, o_le, o_gt, o_ge, o_ixT, o_ixL, o_ixS, o_lenT, o_lenL, o_lenS, o_abs, o_max, o_min, o_intI, o_intB, atI_0, atI_1, atI_2, atI_3, atI_4, atI_5, atI_6, set_n, set_get, set_set, new_n, new_get, mV, List.map_cons, List.map_nil, List.length_cons, List.length_nil, List.replicate, List.cons_append, List.nil_append, List.append_nil, Option.bind_some, Option.map_some, List.getElem?_cons_zero, List.getElem?_cons_succ, List.set_cons_zero, List.set_cons_succ, if_true, if_false, Nat.reduceSub, Nat.reduceAdd, decide_true, decide_false, Bool.not_true, Bool.not_false, reduceIte, Bool.false_eq_true, eq_self, ne_eq, not_true, not_false_iff, Bool.and_true, Bool.true_and, Int.reduceEq, Int.reduceLT, Int.reduceLE, Int.reduceNe, Int.reduceAdd, Int.reduceSub, Int.reduceMul, Int.reduceNeg, String.reduceEq, Nat.reduceLT, Nat.reduceLeDiff, Nat.reduceEqDiff, ofS_inj, ofS_ok, op_v, op_1, op_1x, op_2, op_2x, o1_v, o1_1, cons_1, cons_1x, cons_2, cons_2x, fn_v, fn_1, fn_1x, not_1, and_t, and_f, or_t, or_f, ite_t, ite_f, tupQ_1, lstQ_1, lstRQ_1, call_1, call_1x, callI_1, callI_1x, set_1, set_1x, expr_1, expr_1x, ret_1, ret_1x, ifs_t, ifs_f, ifs_x, par_1, par_1x, asg_1, asg_1x, sto_a, sto_b, sto_c, ds_v, tk_v, for_1, for_1x, lk]) (by rfl) (fun a C d => by
        unfold suiteAt
        simp only [r_bind, r_bindX, r_bindA, r_bindAX, a_bind, a_bindX, a_bindA, a_bindAX, r_toS, r_toSX, a_toS, a_toSX, i_toS, i_toSX, s_nx, s_rt, s_bk, s_ct, s_exc, onB_bl, onBS_bl, ofO_some, asD_v, asDs_nil, asDs_cons, take1_v, takes_nil, takes_v, e_c, e_op, e_op1, e_nil, e_cons, e_fn, e_not, e_and, e_or, e_if, e_tup, e_lst, e_lstR, tup0, tup1, tup2, tup3, tup4, tup5, tup6, tup7, lst0, lst1, lst2, lst3, lst4, lst5, lst6, lsR0, lsR1, lsR2, lsR3, e_call, call1, call2, call3, call4, call5, e_callI, ofR_ok, ofR_exc, q_seq, q_nil, q_set, q_expr, q_ret, q_retN, q_if, q_par, par2, q_asg, g_n, g_tup, g_lst, g_nil, g_cons, q_store, o_add, o_sub, o_neg, o_lt, o_le, o_gt, o_ge, o_ixT, o_ixL, o_ixS, o_lenT, o_lenL, o_lenS, o_abs, o_max, o_min, o_intI, o_intB, atI_0, atI_1, atI_2, atI_3, atI_4, atI_5, atI_6, set_n, set_get, set_set, new_n, new_get, mV, List.map_cons, List.map_nil, List.length_cons, List.length_nil, List.replicate, List.cons_append, List.nil_append, List.append_nil, Option.bind_some, Option.map_some, List.getElem?_cons_zero, List.getElem?_cons_succ, List.set_cons_zero, List.set_cons_succ, if_true, if_false, Nat.reduceSub, Nat.reduceAdd, decide_true, decide_false, Bool.not_true, Bool.not_false, reduceIte, Bool.false_eq_true, eq_self, ne_eq, not_true, not_false_iff, Bool.and_true, Bool.true_and, Int.reduceEq, Int.reduceLT, Int.reduceLE, Int.reduceNe, Int.reduceAdd, Int.reduceSub, Int.reduceMul, Int.reduceNeg, String.reduceEq, Nat.reduceLT, Nat.reduceLeDiff, Nat.reduceEqDiff, ofS_inj, ofS_ok, op_v, op_1, op_1x, op_2, op_2x, o1_v, o1_1, cons_1, cons_1x, cons_2, cons_2x, fn_v, fn_1, fn_1x, not_1, and_t, and_f, or_t, or_f, ite_t, ite_f, tupQ_1, lstQ_1, lstRQ_1, call_1, call_1x, callI_1, callI_1x, set_1, set_1x, expr_1, expr_1x, ret_1, ret_1x, ifs_t, ifs_f, ifs_x, par_1, par_1x, asg_1, asg_1x, sto_a, sto_b, sto_c, ds_v, tk_v, for_1, for_1x, oIsE, and_self, clsNames, tabAny, tabE, tabT, tabOf, tabTOf, and_false, false_and, true_and, and_true, mXf, List.zip_cons_cons, List.zip_nil_right, List.lookup, ofS_beq, isi_int, unS])
    simp only [r_bind, r_bindX, r_bindA, r_bindAX, a_bind, a_bindX, a_bindA, a_bindAX, r_toS, r_toSX, a_toS, a_toSX, i_toS, i_toSX, s_nx, s_rt, s_bk, s_ct, s_exc, onB_bl, onBS_bl, ofO_some, asD_v, asDs_nil, asDs_cons, take1_v, takes_nil, takes_v, e_c, e_op, e_op1, e_nil, e_cons, e_fn, e_not, e_and, e_or, e_if, e_tup, e_lst, e_lstR, tup0, tup1, tup2, tup3, tup4, tup5, tup6, tup7, lst0, lst1, lst2, lst3, lst4, lst5, lst6, lsR0, lsR1, lsR2, lsR3, e_call, call1, call2, call3, call4, call5, e_callI, ofR_ok, ofR_exc, q_seq, q_nil, q_set, q_expr, q_ret, q_retN, q_if, q_par, par2, q_asg, g_n, g_tup, g_lst, g_nil, g_cons, q_store, o_add, o_sub, o_neg, o_lt, o_le, o_gt, o_ge, o_ixT, o_ixL, o_ixS, o_lenT, o_lenL, o_lenS, o_abs, o_max, o_min, o_intI, o_intB, atI_0, atI_1, atI_2, atI_3, atI_4, atI_5, atI_6, set_n, set_get, set_set, new_n, new_get, mV, List.map_cons, List.map_nil, List.length_cons, List.length_nil, List.replicate, List.cons_append, List.nil_append, List.append_nil, Option.bind_some, Option.map_some, List.getElem?_cons_zero, List.getElem?_cons_succ, List.set_cons_zero, List.set_cons_succ, if_true, if_false, Nat.reduceSub, Nat.reduceAdd, decide_true, decide_false, Bool.not_true, Bool.not_false, reduceIte, Bool.false_eq_true, eq_self, ne_eq, not_true, not_false_iff, Bool.and_true, Bool.true_and, Int.reduceEq, Int.reduceLT, Int.reduceLE, Int.reduceNe, Int.reduceAdd, Int.reduceSub, Int.reduceMul, Int.reduceNeg, String.reduceEq, Nat.reduceLT, Nat.reduceLeDiff, Nat.reduceEqDiff, ofS_inj, ofS_ok, op_v, op_1, op_1x, op_2, op_2x, o1_v, o1_1, cons_1, cons_1x, cons_2, cons_2x, fn_v, fn_1, fn_1x, not_1, and_t, and_f, or_t, or_f, ite_t, ite_f, tupQ_1, lstQ_1, lstRQ_1, call_1, call_1x, callI_1, callI_1x, set_1, set_1x, expr_1, expr_1x, ret_1, ret_1x, ifs_t, ifs_f, ifs_x, par_1, par_1x, asg_1, asg_1x, sto_a, sto_b, sto_c, ds_v, tk_v, for_1, for_1x, tr, told]
theorem told_ne (o : Option (String × Nat)) : oNe (told o) (told o) = some (.bl false) := by
  cases o with
  | none => exact o_ne_refl rfl (by decide)
  | some p =>
    obtain ⟨w, n⟩ := p
    refine o_ne_refl ?_ (by simp [told, D.dep, deps])
    simp only [told, D.plain, plains, ofS_ok, Bool.and_self]
theorem i_range1 {a : DA} {fr : Fr} {g g1 : GH} {j : Int} (h : a fr g = .ok [.v (.int j)] g1) (hj : smallR j) : iRange1 a fr g = .ok (rangeD 0 j) none g1 := by unfold iRange1; rw [h]; simp only [if_pos hj]
theorem range_get {j : Int} {i : Nat} {d : D} (h : (rangeD 0 j)[i]? = some d) : d = .int (i : Nat) ∧ (i : Int) < j := by
  unfold rangeD at h
  rw [List.getElem?_map] at h
  cases q : (List.range (j - 0).toNat)[i]? with
  | none => rw [q] at h; cases h
  | some m =>
    rw [q] at h
    have h1 := (List.getElem?_eq_some_iff.mp q).1
    rw [List.length_range] at h1
    rw [List.getElem?_range h1] at q
    cases q
    cases h
    exact ⟨by simp, by omega⟩
theorem range_len {j : Int} : (rangeD 0 j).length = j.toNat := by unfold rangeD; simp
/-- the row wrapped m times -/
def wrap : Nat → Row → Row
  | 0, r => r
  | m + 1, r => .sum .place (wrap m r)
theorem wrap_dep (m : Nat) (r : Row) : (wrap m r).dep ≤ r.dep + m := by
  induction m with
  | zero => exact Nat.le_refl _
  | succ m ih => simp only [wrap, Row.dep]; omega
theorem wrap_size (m : Nat) (r : Row) : (wrap m r).size = r.size + 2 * m := by
  induction m with
  | zero => rfl
  | succ m ih => simp only [wrap, Row.size, ih]; omega
theorem law_true (ns : List Int) (hns : ns.length ≤ 63) : d_law [.scr ns] = .ok (.bl true) := by
  unfold d_law b_law
  have hr : ∃ j : Int, smallR j ∧ iRange1 (aCons (mFn oMax (aCons (mC (.int 5)) (aCons (mFn oMin (aCons (mC (.int 16)) (aCons (mFn oLen (aCons (mV 0) aNil)) aNil))) aNil))) aNil) [some (.v (.scr ns)), none, none, none, none, none, none] GH.nil = .ok (rangeD 0 j) none GH.nil := by
    refine ⟨(if (if (ns.length : Int) < 16 then (ns.length : Int) else 16) > 5 then (if (ns.length : Int) < 16 then (ns.length : Int) else 16) else 5), ?_, ?_⟩
    · unfold smallR
      split <;> split <;> omega
    · refine i_range1 ?_ ?_
      · simp only [r_bind, r_bindX, r_bindA, r_bindAX, a_bind, a_bindX, a_bindA, a_bindAX, r_toS, r_toSX, a_toS, a_toSX, i_toS, i_toSX, s_nx, s_rt, s_bk, s_ct, s_exc, onB_bl, onBS_bl, ofO_some, asD_v, asDs_nil, asDs_cons, take1_v, takes_nil, takes_v, e_c, e_op, e_op1, e_nil, e_cons, e_fn, e_not, e_and, e_or, e_if, e_tup, e_lst, e_lstR, tup0, tup1, tup2, tup3, tup4, tup5, tup6, tup7, lst0, lst1, lst2, lst3, lst4, lst5, lst6, lsR0, lsR1, lsR2, lsR3, e_call, call1, call2, call3, call4, call5, e_callI, ofR_ok, ofR_exc, q_seq, q_nil, q_set, q_expr, q_ret, q_retN, q_if, q_par, par2, q_asg, g_n, g_tup, g_lst, g_nil, g_cons, q_store, o_add, o_sub, o_neg, o_lt, o_le, o_gt, o_ge, o_ixT, o_ixL, o_ixS, o_lenT, o_lenL, o_lenS, o_abs, o_max, o_min, o_intI, o_intB, atI_0, atI_1, atI_2, atI_3, atI_4, atI_5, atI_6, set_n, set_get, set_set, new_n, new_get, mV, List.map_cons, List.map_nil, List.length_cons, List.length_nil, List.replicate, List.cons_append, List.nil_append, List.append_nil, Option.bind_some, Option.map_some, List.getElem?_cons_zero, List.getElem?_cons_succ, List.set_cons_zero, List.set_cons_succ, if_true, if_false, Nat.reduceSub, Nat.reduceAdd, decide_true, decide_false, Bool.not_true, Bool.not_false, reduceIte, Bool.false_eq_true, eq_self, ne_eq, not_true, not_false_iff, Bool.and_true, Bool.true_and, Int.reduceEq, Int.reduceLT, Int.reduceLE, Int.reduceNe, Int.reduceAdd, Int.reduceSub, Int.reduceMul, Int.reduceNeg, String.reduceEq, Nat.reduceLT, Nat.reduceLeDiff, Nat.reduceEqDiff, ofS_inj, ofS_ok, op_v, op_1, op_1x, op_2, op_2x, o1_v, o1_1, cons_1, cons_1x, cons_2, cons_2x, fn_v, fn_1, fn_1x, not_1, and_t, and_f, or_t, or_f, ite_t, ite_f, tupQ_1, lstQ_1, lstRQ_1, call_1, call_1x, callI_1, callI_1x, set_1, set_1x, expr_1, expr_1x, ret_1, ret_1x, ifs_t, ifs_f, ifs_x, par_1, par_1x, asg_1, asg_1x, sto_a, sto_b, sto_c, ds_v, tk_v, for_1, for_1x]
      · unfold smallR
        split <;> split <;> omega
  obtain ⟨j, hj, er⟩ := hr
  have key := for_post (gd := none) (items := rangeD 0 j) (t := gN 1) (fr := [some (.v (.scr ns)), none, none, none, none, none, none]) (g := GH.nil) (s := (sSeq (sSet 2 (mCallI 2 (d_Lbox) (aCons (mV 0) (aCons (mV 1) aNil))))
  (sSeq (sPar 3 4 (aCons (mCallI 2 (d_Lsome) (aCons (mV 2) (aCons (mC (.int 4)) aNil))) (aCons (mLstR (aCons (mCallI 2 (d_Ltake) (aCons (mV 2) (aCons (mC (.int 4)) aNil))) aNil)) aNil)))
  (sSeq (sSet 5 (mCallI 3 (d_Lturned 24) (aCons (mV 2) (aCons (mTup (aCons (mC (.str "sum")) (aCons (mV 3) (aCons (mTup (aCons (mC (.str "over")) (aCons (mTup (aCons (mC (.str "pace")) (aCons (mTup (aCons (mC (.int 2)) (aCons (mC (.int 1)) aNil))) aNil))) (aCons (mC (.int 1)) (aCons (mC (.int 0)) aNil))))) aNil)))) (aCons (mV 4) aNil)))))
  (sSeq (sFor (iRange1 (aCons (mOp oMul (mC (.int 40)) (mFn oInt (aCons (mOp oEq (mCallI 2 (d_Ltake) (aCons (mV 2) (aCons (mC (.int 6)) aNil))) (mC (.int 0))) aNil))) aNil)) (gN 6)
  (sSet 5 (mTup (aCons (mC (.str "sum")) (aCons (mTup (aCons (mC (.str "place")) aNil)) (aCons (mV 5) aNil))))))
  (sIf (mOr (mOp oNe (mCall 1 (d_Lmet) (aCons (mV 5) aNil)) (mCall 1 (d_Ldue) (aCons (mV 5) aNil))) (mOr (mOp oNotB (mCall 1 (d_Lmet) (aCons (mV 3) aNil)) (mC (.bl true))) (mOp oNe (mCall 1 (d_Lmet) (aCons (mV 5) aNil)) (mCall 1 (d_Ldue) (aCons (mV 5) aNil)))))
  (sRet (mC (.bl false)))
  sNil))))))
    (fun i fr g => ∃ a b c d e f, fr = [some (.v (.scr ns)), a, b, c, d, e, f]) (fun x => ∃ fr g, x = .nx fr g) (fun _ _ _ _ => gd_none) ⟨_, _, _, _, _, _, rfl⟩ (fun i d fr g hd hI => ?_) (fun fr g hI => ⟨fr, g, rfl⟩)
  · obtain ⟨fr, g, e⟩ := key
    refine runP_rt (g1 := g) ?_
    simp only [r_bind, r_bindX, r_bindA, r_bindAX, a_bind, a_bindX, a_bindA, a_bindAX, r_toS, r_toSX, a_toS, a_toSX, i_toS, i_toSX, s_nx, s_rt, s_bk, s_ct, s_exc, onB_bl, onBS_bl, ofO_some, asD_v, asDs_nil, asDs_cons, take1_v, takes_nil, takes_v, e_c, e_op, e_op1, e_nil, e_cons, e_fn, e_not, e_and, e_or, e_if, e_tup, e_lst, e_lstR, tup0, tup1, tup2, tup3, tup4, tup5, tup6, tup7, lst0, lst1, lst2, lst3, lst4, lst5, lst6, lsR0, lsR1, lsR2, lsR3, e_call, call1, call2, call3, call4, call5, e_callI, ofR_ok, ofR_exc, q_seq, q_nil, q_set, q_expr, q_ret, q_retN, q_if, q_par, par2, q_asg, g_n, g_tup, g_lst, g_nil, g_cons, q_store, o_add, o_sub, o_neg, o_lt, o_le, o_gt, o_ge, o_ixT, o_ixL, o_ixS, o_lenT, o_lenL, o_lenS, o_abs, o_max, o_min, o_intI, o_intB, atI_0, atI_1, atI_2, atI_3, atI_4, atI_5, atI_6, set_n, set_get, set_set, new_n, new_get, mV, List.map_cons, List.map_nil, List.length_cons, List.length_nil, List.replicate, List.cons_append, List.nil_append, List.append_nil, Option.bind_some, Option.map_some, List.getElem?_cons_zero, List.getElem?_cons_succ, List.set_cons_zero, List.set_cons_succ, if_true, if_false, Nat.reduceSub, Nat.reduceAdd, decide_true, decide_false, Bool.not_true, Bool.not_false, reduceIte, Bool.false_eq_true, eq_self, ne_eq, not_true, not_false_iff, Bool.and_true, Bool.true_and, Int.reduceEq, Int.reduceLT, Int.reduceLE, Int.reduceNe, Int.reduceAdd, Int.reduceSub, Int.reduceMul, Int.reduceNeg, String.reduceEq, Nat.reduceLT, Nat.reduceLeDiff, Nat.reduceEqDiff, ofS_inj, ofS_ok, op_v, op_1, op_1x, op_2, op_2x, o1_v, o1_1, cons_1, cons_1x, cons_2, cons_2x, fn_v, fn_1, fn_1x, not_1, and_t, and_f, or_t, or_f, ite_t, ite_f, tupQ_1, lstQ_1, lstRQ_1, call_1, call_1x, callI_1, callI_1x, set_1, set_1x, expr_1, expr_1x, ret_1, ret_1x, ifs_t, ifs_f, ifs_x, par_1, par_1x, asg_1, asg_1x, sto_a, sto_b, sto_c, ds_v, tk_v, for_1, for_1x, q_for, er, e]
  · obtain ⟨a, b, c, dd, e, f, rfl⟩ := hI
    obtain ⟨rfl, hi⟩ := range_get hd
    refine ⟨_, rfl, .inl ?_⟩
    obtain ⟨bc, bs, bt, hbc, eb⟩ := box_ok ns (i : Nat) g (by omega)
    have hB : BoxAt (g.new (.lst [.int bc, .int bs, .int bt])) g.n := ⟨Nat.lt_succ_self _, bc, bs, bt, hbc, new_get⟩
    obtain ⟨r, g1, e1, b1, q1, s1⟩ := some_ok hB
    obtain ⟨x, g2, x0, x1, e2, b2⟩ := take_ok b1.at_ 4 (by decide) (by decide)
    have bb := b1.trans b2
    have hB3 : BoxAt (g2.new (.lst [.int x])) g.n := by
      obtain ⟨hk, c, s, t, hc, hg⟩ := bb.at_
      exact ⟨Nat.lt_succ_of_lt hk, c, s, t, hc, by rw [new_ne hk]; exact hg⟩
    have hL : LeftAt (g2.new (.lst [.int x])) g2.n := ⟨Nat.lt_succ_self _, x, new_get⟩
    have hne : g2.n ≠ g.n := by
      have := bb.at_.1
      omega
    have hd1 := r.dep_size
    obtain ⟨bad, g3, e3, b3, d3, s3⟩ := turned_ok 24 (.sum r (.over (.pace 2 1) 1 0)) hB3 hL hne (by simp only [Row.dep]; omega)
    simp only [Row.dep, Row.size] at d3 s3
    obtain ⟨y, g4, y0, y1, e4, b4⟩ := take_ok b3.box 6 (by decide) (by decide)
    have hw : ∃ (m : Nat) (o : Option LV), m ≤ 40 ∧ sFor (iRange1 (aCons (mOp oMul (mC (.int 40)) (mFn oInt (aCons (mOp oEq (mCallI 2 (d_Ltake) (aCons (mV 2) (aCons (mC (.int 6)) aNil))) (mC (.int 0))) aNil))) aNil)) (gN 6)
        (sSet 5 (mTup (aCons (mC (.str "sum")) (aCons (mTup (aCons (mC (.str "place")) aNil)) (aCons (mV 5) aNil)))))
        [some (.v (.scr ns)), some (.v (.int (i : Nat))), some (.r g.n), some (.v r.d), some (.r g2.n), some (.v bad.d), f] g3 = .nx [some (.v (.scr ns)), some (.v (.int (i : Nat))), some (.r g.n), some (.v r.d), some (.r g2.n), some (.v (wrap m bad).d), o] g4 := by
      have m40 : ∀ v : Int, oMul (.int 40) (.int v) = some (.int (40 * v)) := fun v => mulL (n := 40) v (by decide)
      have lp : ∀ m : Nat, ∃ o, forGo none (rangeD 0 (m : Nat)) (gN 6) (sSet 5 (mTup (aCons (mC (.str "sum")) (aCons (mTup (aCons (mC (.str "place")) aNil)) (aCons (mV 5) aNil))))) (rangeD 0 (m : Nat))
        [some (.v (.scr ns)), some (.v (.int (i : Nat))), some (.r g.n), some (.v r.d), some (.r g2.n), some (.v bad.d), f] g4 = .nx [some (.v (.scr ns)), some (.v (.int (i : Nat))), some (.r g.n), some (.v r.d), some (.r g2.n), some (.v (wrap m bad).d), o] g4 := by
        intro m
        have key := for_post (gd := none) (items := rangeD 0 (m : Nat)) (t := gN 6) (s := sSet 5 (mTup (aCons (mC (.str "sum")) (aCons (mTup (aCons (mC (.str "place")) aNil)) (aCons (mV 5) aNil)))))
          (fr := [some (.v (.scr ns)), some (.v (.int (i : Nat))), some (.r g.n), some (.v r.d), some (.r g2.n), some (.v bad.d), f]) (g := g4)
          (fun u fr g' => (∃ o, fr = [some (.v (.scr ns)), some (.v (.int (i : Nat))), some (.r g.n), some (.v r.d), some (.r g2.n), some (.v (wrap u bad).d), o]) ∧ g' = g4)
          (fun x => ∃ o, x = .nx [some (.v (.scr ns)), some (.v (.int (i : Nat))), some (.r g.n), some (.v r.d), some (.r g2.n), some (.v (wrap m bad).d), o] g4) (fun _ _ _ _ => gd_none) ⟨⟨_, rfl⟩, rfl⟩ (fun u d fr g' hd hI => ?_) (fun fr g' hI => ?_)
        · exact key
        · obtain ⟨⟨o, rfl⟩, rfl⟩ := hI
          refine ⟨_, rfl, .inl ⟨[some (.v (.scr ns)), some (.v (.int (i : Nat))), some (.r g.n), some (.v r.d), some (.r g2.n), some (.v (wrap (u + 1) bad).d), some (.v d)], g', ?_, ⟨_, rfl⟩, rfl⟩⟩
          simp only [r_bind, r_bindX, r_bindA, r_bindAX, a_bind, a_bindX, a_bindA, a_bindAX, r_toS, r_toSX, a_toS, a_toSX, i_toS, i_toSX, s_nx, s_rt, s_bk, s_ct, s_exc, onB_bl, onBS_bl, ofO_some, asD_v, asDs_nil, asDs_cons, take1_v, takes_nil, takes_v, e_c, e_op, e_op1, e_nil, e_cons, e_fn, e_not, e_and, e_or, e_if, e_tup, e_lst, e_lstR, tup0, tup1, tup2, tup3, tup4, tup5, tup6, tup7, lst0, lst1, lst2, lst3, lst4, lst5, lst6, lsR0, lsR1, lsR2, lsR3, e_call, call1, call2, call3, call4, call5, e_callI, ofR_ok, ofR_exc, q_seq, q_nil, q_set, q_expr, q_ret, q_retN, q_if, q_par, par2, q_asg, g_n, g_tup, g_lst, g_nil, g_cons, q_store, o_add, o_sub, o_neg, o_lt, o_le, o_gt, o_ge, o_ixT, o_ixL, o_ixS, o_lenT, o_lenL, o_lenS, o_abs, o_max, o_min, o_intI, o_intB, atI_0, atI_1, atI_2, atI_3, atI_4, atI_5, atI_6, set_n, set_get, set_set, new_n, new_get, mV, List.map_cons, List.map_nil, List.length_cons, List.length_nil, List.replicate, List.cons_append, List.nil_append, List.append_nil, Option.bind_some, Option.map_some, List.getElem?_cons_zero, List.getElem?_cons_succ, List.set_cons_zero, List.set_cons_succ, if_true, if_false, Nat.reduceSub, Nat.reduceAdd, decide_true, decide_false, Bool.not_true, Bool.not_false, reduceIte, Bool.false_eq_true, eq_self, ne_eq, not_true, not_false_iff, Bool.and_true, Bool.true_and, Int.reduceEq, Int.reduceLT, Int.reduceLE, Int.reduceNe, Int.reduceAdd, Int.reduceSub, Int.reduceMul, Int.reduceNeg, String.reduceEq, Nat.reduceLT, Nat.reduceLeDiff, Nat.reduceEqDiff, ofS_inj, ofS_ok, op_v, op_1, op_1x, op_2, op_2x, o1_v, o1_1, cons_1, cons_1x, cons_2, cons_2x, fn_v, fn_1, fn_1x, not_1, and_t, and_f, or_t, or_f, ite_t, ite_f, tupQ_1, lstQ_1, lstRQ_1, call_1, call_1x, callI_1, callI_1x, set_1, set_1x, expr_1, expr_1x, ret_1, ret_1x, ifs_t, ifs_f, ifs_x, par_1, par_1x, asg_1, asg_1x, sto_a, sto_b, sto_c, ds_v, tk_v, for_1, for_1x, wrap, Row.d]
        · obtain ⟨⟨o, rfl⟩, rfl⟩ := hI
          rw [range_len]
          exact ⟨o, rfl⟩
      by_cases hy : y = 0
      · obtain ⟨o, e⟩ := lp 40
        refine ⟨40, o, Nat.le_refl _, ?_⟩
        have ir := i_range1 (fr := [some (.v (.scr ns)), some (.v (.int (i : Nat))), some (.r g.n), some (.v r.d), some (.r g2.n), some (.v bad.d), f]) (g := g3) (g1 := g4) (j := 40) (a := aCons (mOp oMul (mC (.int 40)) (mFn oInt (aCons (mOp oEq (mCallI 2 (d_Ltake) (aCons (mV 2) (aCons (mC (.int 6)) aNil))) (mC (.int 0))) aNil))) aNil)
          (by simp only [r_bind, r_bindX, r_bindA, r_bindAX, a_bind, a_bindX, a_bindA, a_bindAX, r_toS, r_toSX, a_toS, a_toSX, i_toS, i_toSX, s_nx, s_rt, s_bk, s_ct, s_exc, onB_bl, onBS_bl, ofO_some, asD_v, asDs_nil, asDs_cons, take1_v, takes_nil, takes_v, e_c, e_op, e_op1, e_nil, e_cons, e_fn, e_not, e_and, e_or, e_if, e_tup, e_lst, e_lstR, tup0, tup1, tup2, tup3, tup4, tup5, tup6, tup7, lst0, lst1, lst2, lst3, lst4, lst5, lst6, lsR0, lsR1, lsR2, lsR3, e_call, call1, call2, call3, call4, call5, e_callI, ofR_ok, ofR_exc, q_seq, q_nil, q_set, q_expr, q_ret, q_retN, q_if, q_par, par2, q_asg, g_n, g_tup, g_lst, g_nil, g_cons, q_store, o_add, o_sub, o_neg, o_lt, o_le, o_gt, o_ge, o_ixT, o_ixL, o_ixS, o_lenT, o_lenL, o_lenS, o_abs, o_max, o_min, o_intI, o_intB, atI_0, atI_1, atI_2, atI_3, atI_4, atI_5, atI_6, set_n, set_get, set_set, new_n, new_get, mV, List.map_cons, List.map_nil, List.length_cons, List.length_nil, List.replicate, List.cons_append, List.nil_append, List.append_nil, Option.bind_some, Option.map_some, List.getElem?_cons_zero, List.getElem?_cons_succ, List.set_cons_zero, List.set_cons_succ, if_true, if_false, Nat.reduceSub, Nat.reduceAdd, decide_true, decide_false, Bool.not_true, Bool.not_false, reduceIte, Bool.false_eq_true, eq_self, ne_eq, not_true, not_false_iff, Bool.and_true, Bool.true_and, Int.reduceEq, Int.reduceLT, Int.reduceLE, Int.reduceNe, Int.reduceAdd, Int.reduceSub, Int.reduceMul, Int.reduceNeg, String.reduceEq, Nat.reduceLT, Nat.reduceLeDiff, Nat.reduceEqDiff, ofS_inj, ofS_ok, op_v, op_1, op_1x, op_2, op_2x, o1_v, o1_1, cons_1, cons_1x, cons_2, cons_2x, fn_v, fn_1, fn_1x, not_1, and_t, and_f, or_t, or_f, ite_t, ite_f, tupQ_1, lstQ_1, lstRQ_1, call_1, call_1x, callI_1, callI_1x, set_1, set_1x, expr_1, expr_1x, ret_1, ret_1x, ifs_t, ifs_f, ifs_x, par_1, par_1x, asg_1, asg_1x, sto_a, sto_b, sto_c, ds_v, tk_v, for_1, for_1x, e4, o_eqI, hy, m40]) (by decide)
        rw [q_for, ir, for_1]
        exact e
      · obtain ⟨o, e⟩ := lp 0
        refine ⟨0, o, Nat.zero_le _, ?_⟩
        have ir := i_range1 (fr := [some (.v (.scr ns)), some (.v (.int (i : Nat))), some (.r g.n), some (.v r.d), some (.r g2.n), some (.v bad.d), f]) (g := g3) (g1 := g4) (j := 0) (a := aCons (mOp oMul (mC (.int 40)) (mFn oInt (aCons (mOp oEq (mCallI 2 (d_Ltake) (aCons (mV 2) (aCons (mC (.int 6)) aNil))) (mC (.int 0))) aNil))) aNil)
          (by simp only [r_bind, r_bindX, r_bindA, r_bindAX, a_bind, a_bindX, a_bindA, a_bindAX, r_toS, r_toSX, a_toS, a_toSX, i_toS, i_toSX, s_nx, s_rt, s_bk, s_ct, s_exc, onB_bl, onBS_bl, ofO_some, asD_v, asDs_nil, asDs_cons, take1_v, takes_nil, takes_v, e_c, e_op, e_op1, e_nil, e_cons, e_fn, e_not, e_and, e_or, e_if, e_tup, e_lst, e_lstR, tup0, tup1, tup2, tup3, tup4, tup5, tup6, tup7, lst0, lst1, lst2, lst3, lst4, lst5, lst6, lsR0, lsR1, lsR2, lsR3, e_call, call1, call2, call3, call4, call5, e_callI, ofR_ok, ofR_exc, q_seq, q_nil, q_set, q_expr, q_ret, q_retN, q_if, q_par, par2, q_asg, g_n, g_tup, g_lst, g_nil, g_cons, q_store, o_add, o_sub, o_neg, o_lt, o_le, o_gt, o_ge, o_ixT, o_ixL, o_ixS, o_lenT, o_lenL, o_lenS, o_abs, o_max, o_min, o_intI, o_intB, atI_0, atI_1, atI_2, atI_3, atI_4, atI_5, atI_6, set_n, set_get, set_set, new_n, new_get, mV, List.map_cons, List.map_nil, List.length_cons, List.length_nil, List.replicate, List.cons_append, List.nil_append, List.append_nil, Option.bind_some, Option.map_some, List.getElem?_cons_zero, List.getElem?_cons_succ, List.set_cons_zero, List.set_cons_succ, if_true, if_false, Nat.reduceSub, Nat.reduceAdd, decide_true, decide_false, Bool.not_true, Bool.not_false, reduceIte, Bool.false_eq_true, eq_self, ne_eq, not_true, not_false_iff, Bool.and_true, Bool.true_and, Int.reduceEq, Int.reduceLT, Int.reduceLE, Int.reduceNe, Int.reduceAdd, Int.reduceSub, Int.reduceMul, Int.reduceNeg, String.reduceEq, Nat.reduceLT, Nat.reduceLeDiff, Nat.reduceEqDiff, ofS_inj, ofS_ok, op_v, op_1, op_1x, op_2, op_2x, o1_v, o1_1, cons_1, cons_1x, cons_2, cons_2x, fn_v, fn_1, fn_1x, not_1, and_t, and_f, or_t, or_f, ite_t, ite_f, tupQ_1, lstQ_1, lstRQ_1, call_1, call_1x, callI_1, callI_1x, set_1, set_1x, expr_1, expr_1x, ret_1, ret_1x, ifs_t, ifs_f, ifs_x, par_1, par_1x, asg_1, asg_1x, sto_a, sto_b, sto_c, ds_v, tk_v, for_1, for_1x, e4, o_eqI, hy, m40]) (by decide)
        rw [q_for, ir, for_1]
        exact e
    obtain ⟨m, o, hm, ew⟩ := hw
    have wd := wrap_dep m bad
    have ws := wrap_size m bad
    have m1 := met_ok (wrap m bad) (by omega) (by omega)
    have m2 := due_ok (wrap m bad) (by omega) (by omega)
    have m3 := met_ok r (by omega) (by omega)
    rw [fb_good _ _ fun p hp => good_amiss (good_things q1 p hp)] at m3
    have nb : oNotB (told none) (.bl true) = some (.bl false) := rfl
    have e3' : d_Lturned 24 [.r g.n, .v (.tup [.str "sum", r.d, .tup [.str "over", .tup [.str "pace", .tup [.int 2, .int 1]], .int 1, .int 0]]), .r g2.n] (g2.new (.lst [.int x])) = .ok (.v bad.d) g3 := e3
    refine ⟨[some (.v (.scr ns)), some (.v (.int (i : Nat))), some (.r g.n), some (.v r.d), some (.r g2.n), some (.v (wrap m bad).d), o], g4, ?_, _, _, _, _, _, _, rfl⟩
    simp only [r_bind, r_bindX, r_bindA, r_bindAX, a_bind, a_bindX, a_bindA, a_bindAX, r_toS, r_toSX, a_toS, a_toSX, i_toS, i_toSX, s_nx, s_rt, s_bk, s_ct, s_exc, onB_bl, onBS_bl, ofO_some, asD_v, asDs_nil, asDs_cons, take1_v, takes_nil, takes_v, e_c, e_op, e_op1, e_nil, e_cons, e_fn, e_not, e_and, e_or, e_if, e_tup, e_lst, e_lstR, tup0, tup1, tup2, tup3, tup4, tup5, tup6, tup7, lst0, lst1, lst2, lst3, lst4, lst5, lst6, lsR0, lsR1, lsR2, lsR3, e_call, call1, call2, call3, call4, call5, e_callI, ofR_ok, ofR_exc, q_seq, q_nil, q_set, q_expr, q_ret, q_retN, q_if, q_par, par2, q_asg, g_n, g_tup, g_lst, g_nil, g_cons, q_store, o_add, o_sub, o_neg, o_lt, o_le, o_gt, o_ge, o_ixT, o_ixL, o_ixS, o_lenT, o_lenL, o_lenS, o_abs, o_max, o_min, o_intI, o_intB, atI_0, atI_1, atI_2, atI_3, atI_4, atI_5, atI_6, set_n, set_get, set_set, new_n, new_get, mV, List.map_cons, List.map_nil, List.length_cons, List.length_nil, List.replicate, List.cons_append, List.nil_append, List.append_nil, Option.bind_some, Option.map_some, List.getElem?_cons_zero, List.getElem?_cons_succ, List.set_cons_zero, List.set_cons_succ, if_true, if_false, Nat.reduceSub, Nat.reduceAdd, decide_true, decide_false, Bool.not_true, Bool.not_false, reduceIte, Bool.false_eq_true, eq_self, ne_eq, not_true, not_false_iff, Bool.and_true, Bool.true_and, Int.reduceEq, Int.reduceLT, Int.reduceLE, Int.reduceNe, Int.reduceAdd, Int.reduceSub, Int.reduceMul, Int.reduceNeg, String.reduceEq, Nat.reduceLT, Nat.reduceLeDiff, Nat.reduceEqDiff, ofS_inj, ofS_ok, op_v, op_1, op_1x, op_2, op_2x, o1_v, o1_1, cons_1, cons_1x, cons_2, cons_2x, fn_v, fn_1, fn_1x, not_1, and_t, and_f, or_t, or_f, ite_t, ite_f, tupQ_1, lstQ_1, lstRQ_1, call_1, call_1x, callI_1, callI_1x, set_1, set_1x, expr_1, expr_1x, ret_1, ret_1x, ifs_t, ifs_f, ifs_x, par_1, par_1x, asg_1, asg_1x, sto_a, sto_b, sto_c, ds_v, tk_v, for_1, for_1x, eb, e1, e2, e3', ew, m1, m2, m3, told_ne, nb]
end Ck15
namespace Ck15
open PySem PySem.Spec PyProof.Rows L2 Dn
theorem all_mk {l : PySem.W.OpenLaw} {w : World} {K : PySem.W.Frag} {h : Heap} {mg : Str → Option Value} {fa : Addr} {aNoBack aNoBook aNoDeed aNoRow aNoText aNoTower aSumError aTooHigh : Addr} (X : K.In h) (G : h.Ns mainGlobals mg) (hfa : mg "law" = some (.ref fa)) (hlaw : ∀ ns : List Int, ns.length ≤ 63 → d_law [.scr ns] = .ok (.bl true))
    (z_ValueError : PySem.W.nsIn K mainGlobals "ValueError" = some none)
    (z_abs : PySem.W.nsIn K mainGlobals "abs" = some none)
    (z_bool : PySem.W.nsIn K mainGlobals "bool" = some none)
    (z_enumerate : PySem.W.nsIn K mainGlobals "enumerate" = some none)
    (z_int : PySem.W.nsIn K mainGlobals "int" = some none)
    (z_isinstance : PySem.W.nsIn K mainGlobals "isinstance" = some none)
    (z_len : PySem.W.nsIn K mainGlobals "len" = some none)
    (z_max : PySem.W.nsIn K mainGlobals "max" = some none)
    (z_min : PySem.W.nsIn K mainGlobals "min" = some none)
    (z_range : PySem.W.nsIn K mainGlobals "range" = some none)
    (z_sum : PySem.W.nsIn K mainGlobals "sum" = some none)
    (k_NoBack : PySem.W.nsIn K mainGlobals "NoBack" = some (some (.ref aNoBack)))
    (k_NoBook : PySem.W.nsIn K mainGlobals "NoBook" = some (some (.ref aNoBook)))
    (k_NoDeed : PySem.W.nsIn K mainGlobals "NoDeed" = some (some (.ref aNoDeed)))
    (k_NoRow : PySem.W.nsIn K mainGlobals "NoRow" = some (some (.ref aNoRow)))
    (k_NoText : PySem.W.nsIn K mainGlobals "NoText" = some (some (.ref aNoText)))
    (k_NoTower : PySem.W.nsIn K mainGlobals "NoTower" = some (some (.ref aNoTower)))
    (k_SumError : PySem.W.nsIn K mainGlobals "SumError" = some (some (.ref aSumError)))
    (k_TooHigh : PySem.W.nsIn K mainGlobals "TooHigh" = some (some (.ref aTooHigh)))
    (o_NoRow : Ok K aNoRow)
    (sa_NoRow : PySem.W.findIn K (.ref aNoRow) "__setattr__" = some (some (.builtin "object.__setattr__")))
    (ex_NoRow : PySem.W.subIn K (.ref aNoRow) (.type "BaseException") = some true)
    (ty_NoRow : PySem.W.typeIn K (.ref aNoRow) = some (.type "type"))
    (kc_NoRow : PySem.W.keepIn K (.ref aNoRow) = true)
    (no_NoRow_word : PySem.W.findIn K (.ref aNoRow) "word" = some none)
    (no_NoRow_at : PySem.W.findIn K (.ref aNoRow) "at" = some none)
    (i_NoRow : Ik K aNoRow "NoRow.__init__" s_NoRow)
    (rd_SumError : PySem.W.readsIn K aSumError (.type "type") = true)
    (ga_SumError : PySem.W.specialIn K (.ref aSumError) "__getattribute__" = some (some (.builtin "type.__getattribute__")))
    (vv_SumError : PySem.W.findCls K (.ref aSumError) (.type "type") "__init__" = some (.val (.builtin "ValueError.__init__")))
    (xc_NoRow : ExcC K aNoRow)
    (kt_NoRow_SumError : PySem.W.kitOne K (.ref aNoRow) (.ref aSumError) = some true)
    (kt_NoRow_NoBack : PySem.W.kitOne K (.ref aNoRow) (.ref aNoBack) = some false)
    (kt_NoRow_NoBook : PySem.W.kitOne K (.ref aNoRow) (.ref aNoBook) = some false)
    (kt_NoRow_NoDeed : PySem.W.kitOne K (.ref aNoRow) (.ref aNoDeed) = some false)
    (kt_NoRow_NoTower : PySem.W.kitOne K (.ref aNoRow) (.ref aNoTower) = some false)
    (kt_NoRow_NoText : PySem.W.kitOne K (.ref aNoRow) (.ref aNoText) = some false)
    (kt_NoRow_TooHigh : PySem.W.kitOne K (.ref aNoRow) (.ref aTooHigh) = some false)
    (kT_NoRow_ValueError : PySem.W.kitOne K (.ref aNoRow) (.type "ValueError") = some true)
    (sb_NoRow_NoRow : PySem.W.exmOne K (.ref aNoRow) (.ref aNoRow) = some true)
    (xf_NoRow : XfC K aNoRow)
    (q_Lbox : Dk K "_law_box" s_Lbox)
    (q_Ltake : Dk K "_law_take" s_Ltake)
    (q_Llow : Dk K "_law_low" s_Llow)
    (q_Lnumber : Dk K "_law_number" s_Lnumber)
    (q_Lpace : Dk K "_law_pace" s_Lpace)
    (q_Lleaf : Dk K "_law_leaf" s_Lleaf)
    (q_Lline : Dk K "_law_line" s_Lline)
    (q_Lrow : Dk K "_law_row" s_Lrow)
    (q_Linner : Dk K "_law_inner" s_Linner)
    (q_Lthings : Dk K "_law_things" s_Lthings)
    (q_Lload : Dk K "_law_load" s_Lload)
    (q_Ldeep : Dk K "_law_deep" s_Ldeep)
    (q_Lis_small : Dk K "_law_is_small" s_Lis_small)
    (q_Lsome : Dk K "_law_some" s_Lsome)
    (q_Lturned : Dk K "_law_turned" s_Lturned)
    (q_parts_of : Dk K "parts_of" s_parts_of)
    (q_things_in : Dk K "things_in" s_things_in)
    (q_wrong_with : Dk K "wrong_with" s_wrong_with)
    (q_look : Dk K "look" s_look)
    (q_Lmet : Dk K "_law_met" s_Lmet)
    (q_Lamiss : Dk K "_law_amiss" s_Lamiss)
    (q_Ldue : Dk K "_law_due" s_Ldue)
    (q_law : Dk K "law" s_law)
    : ∃ fd : FuncData, (∀ (s : Shared) (v : Value), BindsTo s fd ⟨[v], []⟩ [("_law_script", v)]) ∧ ∀ base : Heap, K.In base → base.Ns mainGlobals mg → FnOk l.prog w K mg base (L2.CX l.prog w) 75 fa fd ["_law_script"] (spLaw K) := by
  have t : Tx ⟨K, mg⟩ ⟨aNoRow⟩ := { n_ValueError := PySem.W.mg_none_of X G z_ValueError, n_abs := PySem.W.mg_none_of X G z_abs, n_bool := PySem.W.mg_none_of X G z_bool, n_enumerate := PySem.W.mg_none_of X G z_enumerate, n_int := PySem.W.mg_none_of X G z_int, n_isinstance := PySem.W.mg_none_of X G z_isinstance, n_len := PySem.W.mg_none_of X G z_len, n_max := PySem.W.mg_none_of X G z_max, n_min := PySem.W.mg_none_of X G z_min, n_range := PySem.W.mg_none_of X G z_range, n_sum := PySem.W.mg_none_of X G z_sum, g_NoBack := gc_cls X G k_NoBack, g_NoBook := gc_cls X G k_NoBook, g_NoDeed := gc_cls X G k_NoDeed, g_NoText := gc_cls X G k_NoText, g_NoTower := gc_cls X G k_NoTower, g_SumError := gc_cls X G k_SumError, g_TooHigh := gc_cls X G k_TooHigh, kin := (kin_cons (PySem.W.mg_of X G k_NoRow) xc_NoRow (PySem.W.mg_of X G k_SumError) kt_NoRow_SumError (kin_cons (PySem.W.mg_of X G k_NoRow) xc_NoRow (PySem.W.mg_of X G k_NoBack) kt_NoRow_NoBack (kin_cons (PySem.W.mg_of X G k_NoRow) xc_NoRow (PySem.W.mg_of X G k_NoBook) kt_NoRow_NoBook (kin_cons (PySem.W.mg_of X G k_NoRow) xc_NoRow (PySem.W.mg_of X G k_NoDeed) kt_NoRow_NoDeed (kin_cons (PySem.W.mg_of X G k_NoRow) xc_NoRow (PySem.W.mg_of X G k_NoTower) kt_NoRow_NoTower (kin_cons (PySem.W.mg_of X G k_NoRow) xc_NoRow (PySem.W.mg_of X G k_NoText) kt_NoRow_NoText (kin_cons (PySem.W.mg_of X G k_NoRow) xc_NoRow (PySem.W.mg_of X G k_TooHigh) kt_NoRow_TooHigh kin_nil))))))), kinT := (kinT_cons (PySem.W.mg_of X G k_NoRow) xc_NoRow kT_NoRow_ValueError kinT_nil), m_NoRow := PySem.W.mg_of X G k_NoRow, xf_NoRow := xf_NoRow, sub_NoRow := (sub_cons (PySem.W.mg_of X G k_NoRow) sb_NoRow_NoRow sub_nil), no_NoRow_at := no_NoRow_at, no_NoRow_word := no_NoRow_word }
  refine law_fn X G hfa q_law (fun _ _ _ _ _ _ us hl => match us, hl with | [_], _ => rfl) (fun base fd F => ?_) hlaw
  have e_NoRow := er_NoRow (P := l.prog) (w := w) (base := base) (Ik.xc (c := "NoRow") (B := "SumError") i_NoRow X G k_NoRow k_SumError o_NoRow sa_NoRow ex_NoRow ty_NoRow kc_NoRow rd_SumError ga_SumError vv_SumError (fun _ _ _ _ _ _ us hl => match us, hl with | [_, _, _], _ => rfl)) no_NoRow_word no_NoRow_at
  have h_Lbox : Df l.prog w ⟨K, mg⟩ base 1 "_law_box" ["_law_script", "_law_k"] (spI ⟨K, mg⟩ 2 d_Lbox) := ok_Lbox t (q_Lbox.dc X G (fun _ _ _ _ _ _ us hl => match us, hl with | [_, _], _ => rfl)) 
  have h_Ltake : Df l.prog w ⟨K, mg⟩ base 1 "_law_take" ["_law_box_here", "_law_many"] (spI ⟨K, mg⟩ 2 d_Ltake) := ok_Ltake t (q_Ltake.dc X G (fun _ _ _ _ _ _ us hl => match us, hl with | [_, _], _ => rfl)) 
  have h_Llow : Df l.prog w ⟨K, mg⟩ base 1 "_law_low" ["_law_upper", "_law_lower"] (spD ⟨K, mg⟩ 2 d_Llow) := ok_Llow t (q_Llow.dc X G (fun _ _ _ _ _ _ us hl => match us, hl with | [_, _], _ => rfl)) 
  have h_Lnumber : Df l.prog w ⟨K, mg⟩ base 2 "_law_number" ["_law_box_here"] (spI ⟨K, mg⟩ 1 d_Lnumber) := ok_Lnumber t (q_Lnumber.dc X G (fun _ _ _ _ _ _ us hl => match us, hl with | [_], _ => rfl)) h_Ltake h_Llow
  have h_Lpace : Df l.prog w ⟨K, mg⟩ base 2 "_law_pace" ["_law_box_here"] (spI ⟨K, mg⟩ 1 d_Lpace) := ok_Lpace t (q_Lpace.dc X G (fun _ _ _ _ _ _ us hl => match us, hl with | [_], _ => rfl)) h_Ltake h_Llow
  have h_Lleaf : Df l.prog w ⟨K, mg⟩ base 3 "_law_leaf" ["_law_box_here", "_law_load_here"] (spI ⟨K, mg⟩ 2 d_Lleaf) := ok_Lleaf t (q_Lleaf.dc X G (fun _ _ _ _ _ _ us hl => match us, hl with | [_, _], _ => rfl)) h_Ltake h_Lnumber h_Lpace h_Llow
  have h_Lline : Df l.prog w ⟨K, mg⟩ base 2 "_law_line" ["_law_box_here"] (spI ⟨K, mg⟩ 1 d_Lline) := ok_Lline t (q_Lline.dc X G (fun _ _ _ _ _ _ us hl => match us, hl with | [_], _ => rfl)) h_Ltake
  have h_Lrow : Df l.prog w ⟨K, mg⟩ base 24 "_law_row" ["_law_box_here", "_law_room", "_law_deep_here", "_law_load_here"] (spI ⟨K, mg⟩ 4 (d_Lrow 20)) := ok_Lrow t (q_Lrow.dc X G (fun _ _ _ _ _ _ us hl => match us, hl with | [_, _, _, _], _ => rfl)) h_Ltake h_Lleaf h_Lline 20
  have h_Linner : Df l.prog w ⟨K, mg⟩ base 1 "_law_inner" ["_law_row_here"] (spD ⟨K, mg⟩ 1 d_Linner) := ok_Linner t (q_Linner.dc X G (fun _ _ _ _ _ _ us hl => match us, hl with | [_], _ => rfl)) 
  have h_Lthings : Df l.prog w ⟨K, mg⟩ base 72 "_law_things" ["_law_row_here"] (spD ⟨K, mg⟩ 1 (d_Lthings 70)) := ok_Lthings t (q_Lthings.dc X G (fun _ _ _ _ _ _ us hl => match us, hl with | [_], _ => rfl)) h_Linner 70
  have h_Lload : Df l.prog w ⟨K, mg⟩ base 26 "_law_load" ["_law_row_here"] (spD ⟨K, mg⟩ 1 (d_Lload 24)) := ok_Lload t (q_Lload.dc X G (fun _ _ _ _ _ _ us hl => match us, hl with | [_], _ => rfl)) h_Linner 24
  have h_Ldeep : Df l.prog w ⟨K, mg⟩ base 26 "_law_deep" ["_law_row_here"] (spD ⟨K, mg⟩ 1 (d_Ldeep 24)) := ok_Ldeep t (q_Ldeep.dc X G (fun _ _ _ _ _ _ us hl => match us, hl with | [_], _ => rfl)) h_Linner 24
  have h_Lis_small : Df l.prog w ⟨K, mg⟩ base 73 "_law_is_small" ["_law_row_here", "_law_heavy"] (spD ⟨K, mg⟩ 2 d_Lis_small) := ok_Lis_small t (q_Lis_small.dc X G (fun _ _ _ _ _ _ us hl => match us, hl with | [_, _], _ => rfl)) h_Lthings h_Lload h_Ldeep
  have h_Lsome : Df l.prog w ⟨K, mg⟩ base 74 "_law_some" ["_law_box_here", "_law_heavy"] (spI ⟨K, mg⟩ 2 d_Lsome) := ok_Lsome t (q_Lsome.dc X G (fun _ _ _ _ _ _ us hl => match us, hl with | [_, _], _ => rfl)) h_Ltake h_Lrow h_Lis_small
  have h_Lturned : Df l.prog w ⟨K, mg⟩ base 26 "_law_turned" ["_law_box_here", "_law_row_here", "_law_left"] (spI ⟨K, mg⟩ 3 (d_Lturned 24)) := ok_Lturned t (q_Lturned.dc X G (fun _ _ _ _ _ _ us hl => match us, hl with | [_, _, _], _ => rfl)) h_Ltake 24
  have h_parts_of : Df l.prog w ⟨K, mg⟩ base 1 "parts_of" ["row"] (spD ⟨K, mg⟩ 1 d_parts_of) := ok_parts_of t (q_parts_of.dc X G (fun _ _ _ _ _ _ us hl => match us, hl with | [_], _ => rfl)) 
  have h_things_in : Df l.prog w ⟨K, mg⟩ base 72 "things_in" ["row"] (spD ⟨K, mg⟩ 1 (d_things_in 70)) := ok_things_in t (q_things_in.dc X G (fun _ _ _ _ _ _ us hl => match us, hl with | [_], _ => rfl)) h_parts_of 70
  have h_wrong_with : Df l.prog w ⟨K, mg⟩ base 1 "wrong_with" ["thing"] (spD ⟨K, mg⟩ 1 d_wrong_with) := ok_wrong_with t (q_wrong_with.dc X G (fun _ _ _ _ _ _ us hl => match us, hl with | [_], _ => rfl)) 
  have h_look : Df l.prog w ⟨K, mg⟩ base 73 "look" ["row"] (spD ⟨K, mg⟩ 1 d_look) := ok_look t (q_look.dc X G (fun _ _ _ _ _ _ us hl => match us, hl with | [_], _ => rfl)) h_things_in h_wrong_with e_NoRow
  have h_Lmet : Df l.prog w ⟨K, mg⟩ base 74 "_law_met" ["_law_row_here"] (spD ⟨K, mg⟩ 1 d_Lmet) := ok_Lmet t (q_Lmet.dc X G (fun _ _ _ _ _ _ us hl => match us, hl with | [_], _ => rfl)) h_look
  have h_Lamiss : Df l.prog w ⟨K, mg⟩ base 1 "_law_amiss" ["_law_thing"] (spD ⟨K, mg⟩ 1 d_Lamiss) := ok_Lamiss t (q_Lamiss.dc X G (fun _ _ _ _ _ _ us hl => match us, hl with | [_], _ => rfl)) 
  have h_Ldue : Df l.prog w ⟨K, mg⟩ base 73 "_law_due" ["_law_row_here"] (spD ⟨K, mg⟩ 1 d_Ldue) := ok_Ldue t (q_Ldue.dc X G (fun _ _ _ _ _ _ us hl => match us, hl with | [_], _ => rfl)) h_Lthings h_Lamiss
  exact fn_law t F h_Lbox h_Lsome h_Ltake h_Lturned h_Lmet h_Ldue
end Ck15
open PySem PySem.W PyProof.Rows in
set_option maxRecDepth 100000 in
set_option maxHeartbeats 0 in
theorem PySem.Challenge.cw_sumfold_k15_rows_looked_at_holds : PySem.Challenge.rw_sumfold_k15_rows_looked_at.Holds := by
  w_on; o_law; k_head; (case hw => w_witness2)
  k_fill
  refine Dn.dwalk (l := PySem.Challenge.rw_sumfold_k15_rows_looked_at) (k := 75) (x := "_law_script") rfl rfl ⟨rfl, by decide, by decide⟩ (fun w h Y => PySem.W.kIn_of Y) ?F
  case F =>
    intro w mg fa h KX G hmg
    refine' Ck15.all_mk KX G hmg Ck15.law_true ?z_ValueError ?z_abs ?z_bool ?z_enumerate ?z_int ?z_isinstance ?z_len ?z_max ?z_min ?z_range ?z_sum ?k_NoBack ?k_NoBook ?k_NoDeed ?k_NoRow ?k_NoText ?k_NoTower ?k_SumError ?k_TooHigh ?o_NoRow ?sa_NoRow ?ex_NoRow ?ty_NoRow ?kc_NoRow ?no_NoRow_word ?no_NoRow_at ?i_NoRow ?rd_SumError ?ga_SumError ?vv_SumError ?xc_NoRow ?kt_NoRow_SumError ?kt_NoRow_NoBack ?kt_NoRow_NoBook ?kt_NoRow_NoDeed ?kt_NoRow_NoTower ?kt_NoRow_NoText ?kt_NoRow_TooHigh ?kT_NoRow_ValueError ?sb_NoRow_NoRow ?xf_NoRow ?q_Lbox ?q_Ltake ?q_Llow ?q_Lnumber ?q_Lpace ?q_Lleaf ?q_Lline ?q_Lrow ?q_Linner ?q_Lthings ?q_Lload ?q_Ldeep ?q_Lis_small ?q_Lsome ?q_Lturned ?q_parts_of ?q_things_in ?q_wrong_with ?q_look ?q_Lmet ?q_Lamiss ?q_Ldue ?q_law
    (case z_ValueError => k_is)
    (case z_abs => k_is)
    (case z_bool => k_is)
    (case z_enumerate => k_is)
    (case z_int => k_is)
    (case z_isinstance => k_is)
    (case z_len => k_is)
    (case z_max => k_is)
    (case z_min => k_is)
    (case z_range => k_is)
    (case z_sum => k_is)
    (case k_NoBack => k_is)
    (case k_NoBook => k_is)
    (case k_NoDeed => k_is)
    (case k_NoRow => k_is)
    (case k_NoText => k_is)
    (case k_NoTower => k_is)
    (case k_SumError => k_is)
    (case k_TooHigh => k_is)
    (case o_NoRow => (refine' Dn.Ok.mk' ?x1 ?x2; (case x1 => k_is); (case x2 => decide +kernel)))
    (case sa_NoRow => k_is)
    (case ex_NoRow => k_is)
    (case ty_NoRow => k_is)
    (case kc_NoRow => k_is)
    (case no_NoRow_word => k_is)
    (case no_NoRow_at => k_is)
    (case i_NoRow => (refine' Dn.Ik.mk' ?x1 ?x2 ?x3 ?x4 ?x5; (case x1 => k_is); (case x2 => k_is); (case x3 => k_is); (case x4 => k_is); (case x5 => k_is)))
    (case rd_SumError => k_is)
    (case ga_SumError => k_is)
    (case vv_SumError => k_is)
    (case xc_NoRow => (refine' ⟨?_, ?_, ?_, ?_, ?_, ?_, ?_, ?_⟩; k_is; k_is; k_is; k_is; k_is; k_is; k_is; k_is))
    (case kt_NoRow_SumError => kit_is)
    (case kt_NoRow_NoBack => kit_is)
    (case kt_NoRow_NoBook => kit_is)
    (case kt_NoRow_NoDeed => kit_is)
    (case kt_NoRow_NoTower => kit_is)
    (case kt_NoRow_NoText => kit_is)
    (case kt_NoRow_TooHigh => kit_is)
    (case kT_NoRow_ValueError => kit_is)
    (case sb_NoRow_NoRow => (refine' PySem.W.exm_ref ?_ ?_ ?_ ?_; k_is; k_is; k_is; k_is))
    (case xf_NoRow => (refine' ⟨?_, ?_, ?_, ?_⟩; k_is; k_is; k_is; k_is))
    (case q_Lbox => (refine' Dn.Dk.mk' ?x1 ?x2 ?x3 ?x4; (case x1 => k_is); (case x2 => k_is); (case x3 => k_is); (case x4 => k_is)))
    (case q_Ltake => (refine' Dn.Dk.mk' ?x1 ?x2 ?x3 ?x4; (case x1 => k_is); (case x2 => k_is); (case x3 => k_is); (case x4 => k_is)))
    (case q_Llow => (refine' Dn.Dk.mk' ?x1 ?x2 ?x3 ?x4; (case x1 => k_is); (case x2 => k_is); (case x3 => k_is); (case x4 => k_is)))
    (case q_Lnumber => (refine' Dn.Dk.mk' ?x1 ?x2 ?x3 ?x4; (case x1 => k_is); (case x2 => k_is); (case x3 => k_is); (case x4 => k_is)))
    (case q_Lpace => (refine' Dn.Dk.mk' ?x1 ?x2 ?x3 ?x4; (case x1 => k_is); (case x2 => k_is); (case x3 => k_is); (case x4 => k_is)))
    (case q_Lleaf => (refine' Dn.Dk.mk' ?x1 ?x2 ?x3 ?x4; (case x1 => k_is); (case x2 => k_is); (case x3 => k_is); (case x4 => k_is)))
    (case q_Lline => (refine' Dn.Dk.mk' ?x1 ?x2 ?x3 ?x4; (case x1 => k_is); (case x2 => k_is); (case x3 => k_is); (case x4 => k_is)))
    (case q_Lrow => (refine' Dn.Dk.mk' ?x1 ?x2 ?x3 ?x4; (case x1 => k_is); (case x2 => k_is); (case x3 => k_is); (case x4 => k_is)))
    (case q_Linner => (refine' Dn.Dk.mk' ?x1 ?x2 ?x3 ?x4; (case x1 => k_is); (case x2 => k_is); (case x3 => k_is); (case x4 => k_is)))
    (case q_Lthings => (refine' Dn.Dk.mk' ?x1 ?x2 ?x3 ?x4; (case x1 => k_is); (case x2 => k_is); (case x3 => k_is); (case x4 => k_is)))
    (case q_Lload => (refine' Dn.Dk.mk' ?x1 ?x2 ?x3 ?x4; (case x1 => k_is); (case x2 => k_is); (case x3 => k_is); (case x4 => k_is)))
    (case q_Ldeep => (refine' Dn.Dk.mk' ?x1 ?x2 ?x3 ?x4; (case x1 => k_is); (case x2 => k_is); (case x3 => k_is); (case x4 => k_is)))
    (case q_Lis_small => (refine' Dn.Dk.mk' ?x1 ?x2 ?x3 ?x4; (case x1 => k_is); (case x2 => k_is); (case x3 => k_is); (case x4 => k_is)))
    (case q_Lsome => (refine' Dn.Dk.mk' ?x1 ?x2 ?x3 ?x4; (case x1 => k_is); (case x2 => k_is); (case x3 => k_is); (case x4 => k_is)))
    (case q_Lturned => (refine' Dn.Dk.mk' ?x1 ?x2 ?x3 ?x4; (case x1 => k_is); (case x2 => k_is); (case x3 => k_is); (case x4 => k_is)))
    (case q_parts_of => (refine' Dn.Dk.mk' ?x1 ?x2 ?x3 ?x4; (case x1 => k_is); (case x2 => k_is); (case x3 => k_is); (case x4 => k_is)))
    (case q_things_in => (refine' Dn.Dk.mk' ?x1 ?x2 ?x3 ?x4; (case x1 => k_is); (case x2 => k_is); (case x3 => k_is); (case x4 => k_is)))
    (case q_wrong_with => (refine' Dn.Dk.mk' ?x1 ?x2 ?x3 ?x4; (case x1 => k_is); (case x2 => k_is); (case x3 => k_is); (case x4 => k_is)))
    (case q_look => (refine' Dn.Dk.mk' ?x1 ?x2 ?x3 ?x4; (case x1 => k_is); (case x2 => k_is); (case x3 => k_is); (case x4 => k_is)))
    (case q_Lmet => (refine' Dn.Dk.mk' ?x1 ?x2 ?x3 ?x4; (case x1 => k_is); (case x2 => k_is); (case x3 => k_is); (case x4 => k_is)))
    (case q_Lamiss => (refine' Dn.Dk.mk' ?x1 ?x2 ?x3 ?x4; (case x1 => k_is); (case x2 => k_is); (case x3 => k_is); (case x4 => k_is)))
    (case q_Ldue => (refine' Dn.Dk.mk' ?x1 ?x2 ?x3 ?x4; (case x1 => k_is); (case x2 => k_is); (case x3 => k_is); (case x4 => k_is)))
    (case q_law => (refine' Dn.Dk.mk' ?x1 ?x2 ?x3 ?x4; (case x1 => k_is); (case x2 => k_is); (case x3 => k_is); (case x4 => k_is)))
