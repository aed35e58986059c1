import PyProof.Rows.All
import Wide.All
import OpenK.AllK
import Wide.FinOn
import HandS.ForMost
import HandS.ForExc
import HandS.WideBits
import HandS.Gcd
import HandS.IsInst
import HandS.NoneIn
import HandS.Zip
import HandS.DictComp
import HandS.Text
import HandS.More
import HandS.Conv
import HandS.TupAny
import KE.KMathGC
import HandS.Style
import HandS.TryOnly
import KE.GoesMore
import KE.GoesEnum
import PyProof.EnumMake
import PyProof.WalkInts
import HandS.Wide
import PyProof.CompUse
import PySem.Challenge.RW_mutehelms_k07_products_and_inverses
import PyProof.Rows.RuleB_bool
import PyProof.Rows.FloatCmp
import HandS.ExcInit
import HandS.Lambda
import HandS.ExcField
import PyProof.ReprRoads
import PyProof.ReprBulk
import HandS.Star
import HandS.EndTab
import HandS.EndBits
import KE.KNest
section
set_option Elab.async false
set_option linter.all false
set_option maxRecDepth 100000
set_option maxHeartbeats 1000000
/-! Typed slots over the hand layer: expressions and statements judged on lists of kinds. -/
namespace T
open PySem PySem.Spec PyProof.Rows L2

/-! ### heaps: R what is known for good, H what stands (a locked dict counts as the dict) -/
def Le (R R' : Hp) : Prop := ∀ a o, R a = some o → R' a = some o
theorem Le.refl (R : Hp) : Le R R := fun _ _ h => h
theorem Le.trans {R R1 R2 : Hp} (a : Le R R1) (b : Le R1 R2) : Le R R2 := fun x o h => b x o (a x o h)
theorem Le.upd {R : Hp} {p : Addr} {o : HO} (h : R p = none) : Le R (upd R p o) := fun a u e => by
  rw [upd_ne (ne_of_none e h)]; exact e
def NF : HO → Prop
  | .frz _ _ => False
  | _ => True
def LeR (R H : Hp) : Prop := ∀ a o, R a = some o → H a = some o ∨ (NF o ∧ ∃ ob, H a = some (.frz ob o))
theorem LeR.of {R R' H : Hp} (a : Le R R') (b : LeR R' H) : LeR R H := fun x o h => b x o (a x o h)
theorem LeR.rd {R H : Hp} (l : LeR R H) {a : Addr} {u : HO} (h : Rd R a u) : Rd H a u := by
  rcases h with h | ⟨o, h⟩
  · rcases l a u h with h | ⟨_, ob, h⟩
    · exact .inl h
    · exact .inr ⟨ob, h⟩
  · rcases l a _ h with h | ⟨n, _⟩
    · exact .inr ⟨o, h⟩
    · exact n.elim
theorem LeR.some {R H : Hp} (l : LeR R H) {a : Addr} {o : HO} (h : R a = some o) : ∃ u, H a = some u := by
  rcases l a o h with h | ⟨_, ob, h⟩
  · exact ⟨_, h⟩
  · exact ⟨_, h⟩
theorem LeR.none {R H : Hp} (l : LeR R H) {a : Addr} (h : H a = Option.none) : R a = Option.none := by
  cases q : R a with
  | none => rfl
  | some o =>
    obtain ⟨u, e⟩ := l.some q
    rw [e] at h; cases h
section
variable {K : PySem.W.Frag}
theorem Le.rd {R R' : Hp} (l : Le R R') {a : Addr} {u : HO} (h : Rd R a u) : Rd R' a u := by
  rcases h with h | ⟨o, h⟩
  · exact .inl (l _ _ h)
  · exact .inr ⟨o, l _ _ h⟩
theorem Le.sqL {R R' : Hp} (l : Le R R') {a : Addr} {xs : List V} (h : SqL K R a xs) : SqL K R' a xs := h.elim (fun h => .inl (l.rd h)) .inr
theorem Le.sqT {R R' : Hp} (l : Le R R') {a : Addr} {xs : List V} (h : SqT K R a xs) : SqT K R' a xs := h.elim (fun h => .inl (l.rd h)) .inr
theorem LeR.sqL {R H : Hp} (l : LeR R H) {a : Addr} {xs : List V} (h : SqL K R a xs) : SqL K H a xs := h.elim (fun h => .inl (l.rd h)) .inr
theorem LeR.sqT {R H : Hp} (l : LeR R H) {a : Addr} {xs : List V} (h : SqT K R a xs) : SqT K H a xs := h.elim (fun h => .inl (l.rd h)) .inr
end

/-! ### data relations -/
structure DR (α : Type) where
  rel : Hp → V → α → Prop
  up : ∀ {R R' : Hp} {v : V} {a : α}, Le R R' → rel R v a → rel R' v a
structure CR (γ : Type) where
  rel : Hp → HO → γ → Prop
  up : ∀ {R R' : Hp} {o : HO} {c : γ}, Le R R' → rel R o c → rel R' o c
  nt : ∀ {R : Hp} {o : HO} {c : γ}, rel R o c → (∀ ps, o ≠ .tbl ps) ∧ ∀ f, o ≠ .ext f

def rI : DR Int := ⟨fun _ v i => v = .int i, fun _ h => h⟩
def rB : DR Bool := ⟨fun _ v b => v = .bl b, fun _ h => h⟩
def rS : DR Str := ⟨fun _ v x => v = .str x, fun _ h => h⟩
def rN : DR Unit := ⟨fun _ v _ => v = .non, fun _ h => h⟩
/-- one fixed value -/
def rV (u : V) : DR Unit := ⟨fun _ v _ => v = u, fun _ h => h⟩
def rOpt {α : Type} (A : DR α) : DR (Option α) := ⟨fun R v o => match o with
  | none => v = .non
  | some a => A.rel R v a, fun {_ _ _ o} l h => match o, h with
  | none, h => h
  | some _, h => A.up l h⟩
theorem paired_up {α : Type} (A : DR α) {R R' : Hp} (l : Le R R') {xs : List V} {as : List α} (h : Paired (A.rel R) xs as) : Paired (A.rel R') xs as := L2.Paired.mapP h fun _ _ => A.up l
def rL (_ : PySem.W.Frag) {α : Type} (A : DR α) : DR (List α) := ⟨fun R v as => ∃ a xs, v = .ref a ∧ Rd R a (.lst xs) ∧ Paired (A.rel R) xs as,
  fun l ⟨a, xs, e, h, hp⟩ => ⟨a, xs, e, l.rd h, paired_up A l hp⟩⟩
section
variable (K : PySem.W.Frag)
def rPair {α β : Type} (A : DR α) (B : DR β) : DR (α × β) := ⟨fun R v p => ∃ a x y, v = .ref a ∧ SqT K R a [x, y] ∧ A.rel R x p.1 ∧ B.rel R y p.2,
  fun l ⟨a, x, y, e, h, hx, hy⟩ => ⟨a, x, y, e, l.sqT h, A.up l hx, B.up l hy⟩⟩
def rTri {α β γ : Type} (A : DR α) (B : DR β) (C : DR γ) : DR (α × β × γ) := ⟨fun R v p => ∃ a x y z, v = .ref a ∧ SqT K R a [x, y, z] ∧ A.rel R x p.1 ∧ B.rel R y p.2.1 ∧ C.rel R z p.2.2,
  fun l ⟨a, x, y, z, e, h, hx, hy, hz⟩ => ⟨a, x, y, z, e, l.sqT h, A.up l hx, B.up l hy, C.up l hz⟩⟩
/-- a tuple of one kind of items; a list of them -/
def rT {α : Type} (A : DR α) : DR (List α) := ⟨fun R v as => ∃ a xs, v = .ref a ∧ SqT K R a xs ∧ Paired (A.rel R) xs as,
  fun l ⟨a, xs, e, h, hp⟩ => ⟨a, xs, e, l.sqT h, paired_up A l hp⟩⟩
/-- a list or a tuple -/
def rLT {α : Type} (A : DR α) : DR (List α) := ⟨fun R v as => (rL K A).rel R v as ∨ (rT K A).rel R v as,
  fun l h => h.elim (fun h => .inl ((rL K A).up l h)) fun h => .inr ((rT K A).up l h)⟩
end
/-- a number: a tuple of top and bottom in lowest terms -/
def rQ (K : PySem.W.Frag) : DR Rat := ⟨fun R v q => ∃ a, v = .ref a ∧ SqT K R a [.int q.num, .int q.den], fun l ⟨a, e, h⟩ => ⟨a, e, l.sqT h⟩⟩
/-- a dict with whole keys -/
def KVs {β : Type} (B : DR β) (R : Hp) (kvs : List (Key × V)) (d : List (Int × β)) : Prop := Paired (fun (p : Key × V) (q : Int × β) => p.1 = .inl q.1 ∧ B.rel R p.2 q.2) kvs d
def rD {β : Type} (B : DR β) : DR (List (Int × β)) := ⟨fun R v d => ∃ a kvs, v = .ref a ∧ R a = some (.dK kvs) ∧ KVs B R kvs d,
  fun l ⟨a, kvs, e, h, hp⟩ => ⟨a, kvs, e, l _ _ h, L2.Paired.mapP hp fun _ _ z => ⟨z.1, B.up l z.2⟩⟩⟩
/-- owned cells: a list, a dict with whole keys -/
def cL {α : Type} (A : DR α) : CR (List α) := ⟨fun R o as => ∃ xs, o = .lst xs ∧ Paired (A.rel R) xs as, fun l ⟨xs, e, h⟩ => ⟨xs, e, paired_up A l h⟩, fun ⟨xs, e, _⟩ => ⟨fun ps z => (by rw [e] at z; cases z), fun f z => (by rw [e] at z; cases z)⟩⟩
def cD {β : Type} (B : DR β) : CR (List (Int × β)) := ⟨fun R o d => ∃ kvs, o = .dK kvs ∧ KVs B R kvs d, fun l ⟨kvs, e, h⟩ => ⟨kvs, e, L2.Paired.mapP h fun _ _ z => ⟨z.1, B.up l z.2⟩⟩, fun ⟨kvs, e, _⟩ => ⟨fun ps z => (by rw [e] at z; cases z), fun f z => (by rw [e] at z; cases z)⟩⟩
/-- an owned cell becomes data -/
def FrzC {γ : Type} (C : CR γ) (A : DR γ) : Prop := ∀ R p o c, R p = some o → C.rel R o c → A.rel R (.ref p) c
theorem frz_L {K : PySem.W.Frag} {α : Type} {A : DR α} : FrzC (cL A) (rL K A) := fun R p o c h ⟨xs, e, hp⟩ => ⟨p, xs, rfl, .inl (by rw [h, e]), hp⟩
theorem frz_D {β : Type} {B : DR β} : FrzC (cD B) (rD B) := fun R p o c h ⟨kvs, e, hp⟩ => ⟨p, kvs, rfl, by rw [h, e], hp⟩

/-! ### kinds -/
inductive Kd : Type 1
  | no
  | im {α : Type} (A : DR α) (a : α)
  | ow {γ : Type} (p : Addr) (C : CR γ) (c : γ)
def Kd.rel (R H : Hp) (v : V) : Kd → Prop
  | .no => True
  | .im A a => A.rel R v a
  | .ow p C c => v = .ref p ∧ R p = none ∧ ∃ o, H p = some o ∧ C.rel R o c
def SlotOk (R H : Hp) (s : Option V) (k : Kd) : Prop := k = .no ∨ ∃ v, s = some v ∧ k.rel R H v
def owns : Kd → Addr → Prop
  | .ow p _ _, q => p = q
  | _, _ => False
abbrev Tau := List Kd

structure Ok (F R0 R H : Hp) (σ : L2.St) (τ : Tau) : Prop where
  len : σ.length = τ.length
  fr : Le F H
  le : LeR R H
  r0 : Le R0 R
  nw : ∀ a, R0 a = none → F a ≠ none → R a = none
  sl : ∀ (i : Nat) k, τ[i]? = some k → SlotOk R H (σ[i]?.join) k
  ff : ∀ (i : Nat) k p, τ[i]? = some k → owns k p → F p = none
  inj : ∀ (i j : Nat) k l p, τ[i]? = some k → τ[j]? = some l → owns k p → owns l p → i = j
  nt : ∀ a ps, R a ≠ some (.tbl ps)
structure VOk (F R H : Hp) (τ : Tau) (v : V) (x : Kd) : Prop where
  rel : x.rel R H v
  own : ∀ p, owns x p → F p = none ∧ ∀ (i : Nat) k, τ[i]? = some k → ¬ owns k p

section
variable {F R0 R R' H H' : Hp} {σ : L2.St} {τ : Tau} {p : Addr} {o : HO} {v : V} {x : Kd}
/-- a new object that is not known for good -/
theorem Ok.new (ok : Ok F R0 R H σ τ) (h : H p = none) : Ok F R0 R (upd H p o) σ τ where
  len := ok.len
  fr := fun a u e => by rw [upd_ne (ne_of_none (ok.fr a u e) h)]; exact ok.fr a u e
  le := fun a u e => by
    have hn : a ≠ p := fun z => by rw [z, ok.le.none h] at e; cases e
    rw [upd_ne hn]; exact ok.le a u e
  r0 := ok.r0
  nw := ok.nw
  sl := fun i k e => by
    rcases ok.sl i k e with z | ⟨v, hv, r⟩
    · exact .inl z
    · refine .inr ⟨v, hv, ?_⟩
      cases k with
      | no => trivial
      | im A a => exact r
      | ow q C c =>
        obtain ⟨e1, e2, o', e3, e4⟩ := r
        exact ⟨e1, e2, o', by rw [upd_ne (ne_of_none e3 h)]; exact e3, e4⟩
  ff := ok.ff
  inj := ok.inj
  nt := ok.nt
/-- what stands at p is known for good from now on -/
theorem Ok.know (ok : Ok F R0 R H σ τ) (hR : R p = none) (hF : F p = none) (hH : H p = some o) (hf : ∀ (i : Nat) k, τ[i]? = some k → ¬ owns k p) (ho : ∀ ps, o ≠ .tbl ps) : Ok F R0 (upd R p o) H σ τ where
  len := ok.len
  fr := ok.fr
  le := fun a u e => by
    by_cases hn : a = p
    · subst hn; rw [upd_same] at e; cases e; exact .inl hH
    · rw [upd_ne hn] at e; exact ok.le a u e
  r0 := ok.r0.trans (Le.upd hR)
  nw := fun a h1 h2 => by
    by_cases hn : a = p
    · subst hn; exact absurd hF h2
    · rw [upd_ne hn]; exact ok.nw a h1 h2
  sl := fun i k e => by
    rcases ok.sl i k e with z | ⟨v, hv, r⟩
    · exact .inl z
    · refine .inr ⟨v, hv, ?_⟩
      cases k with
      | no => trivial
      | im A a => exact A.up (Le.upd hR) r
      | ow q C c =>
        obtain ⟨e1, e2, o', e3, e4⟩ := r
        have hq : q ≠ p := fun z => hf i _ e z
        exact ⟨e1, by rw [upd_ne hq]; exact e2, o', e3, C.up (Le.upd hR) e4⟩
  ff := ok.ff
  inj := ok.inj
  nt := fun a ps e => by
    by_cases hn : a = p
    · subst hn; rw [upd_same] at e; exact ho ps (Option.some.inj e)
    · rw [upd_ne hn] at e; exact ok.nt a ps e
theorem Ok.fresh (ok : Ok F R0 R H σ τ) (h : H p = none) : R p = none ∧ F p = none ∧ ∀ (i : Nat) k, τ[i]? = some k → ¬ owns k p := by
  refine ⟨ok.le.none h, ?_, fun i k e hp => ?_⟩
  · cases q : F p with
    | none => rfl
    | some u => rw [ok.fr p u q] at h; cases h
  · rcases ok.sl i k e with z | ⟨v, hv, r⟩
    · subst z; exact hp
    · cases k with
      | no => exact hp
      | im A a => exact hp
      | ow q C c =>
        obtain ⟨_, _, o', e3, _⟩ := r
        have hq : q = p := hp
        rw [hq, h] at e3; cases e3
/-- a new object, known for good -/
theorem Ok.lay (ok : Ok F R0 R H σ τ) (h : H p = none) (ho : ∀ ps, o ≠ .tbl ps := by intro _ z; cases z) : Ok F R0 (upd R p o) (upd H p o) σ τ := by
  obtain ⟨h1, h2, h3⟩ := ok.fresh h
  exact (ok.new h).know h1 h2 upd_same h3 ho
/-- the slots named otherwise -/
theorem Ok.set (ok : Ok F R0 R H σ τ) {i : Nat} (hi : i < τ.length) (w : VOk F R H τ v x) : Ok F R0 R H (σ.set i (some v)) (τ.set i x) where
  len := by simp [ok.len]
  fr := ok.fr
  le := ok.le
  r0 := ok.r0
  nw := ok.nw
  sl := fun j k e => by
    by_cases hj : i = j
    · subst hj
      rw [List.getElem?_set_self hi] at e
      cases e
      refine .inr ⟨v, ?_, w.rel⟩
      rw [List.getElem?_set_self (by rw [ok.len]; exact hi)]
      rfl
    · rw [List.getElem?_set_ne hj] at e
      rw [List.getElem?_set_ne hj]
      exact ok.sl j k e
  ff := fun j k q e hq => by
    by_cases hj : i = j
    · subst hj
      rw [List.getElem?_set_self hi] at e
      cases e
      exact (w.own q hq).1
    · rw [List.getElem?_set_ne hj] at e
      exact ok.ff j k q e hq
  inj := fun j l k m q e1 e2 h1 h2 => by
    by_cases hj : i = j
    · by_cases hl : i = l
      · exact hj.symm.trans hl
      · subst hj
        rw [List.getElem?_set_self hi] at e1
        cases e1
        rw [List.getElem?_set_ne hl] at e2
        exact absurd h2 ((w.own q h1).2 l m e2)
    · rw [List.getElem?_set_ne hj] at e1
      by_cases hl : i = l
      · subst hl
        rw [List.getElem?_set_self hi] at e2
        cases e2
        exact absurd h1 ((w.own q h2).2 j k e1)
      · rw [List.getElem?_set_ne hl] at e2
        exact ok.inj j l k m q e1 e2 h1 h2
  nt := ok.nt
/-- a slot forgotten, or its value's kind told otherwise, nothing more owned -/
theorem Ok.weak (ok : Ok F R0 R H σ τ) {τ' : Tau} (hl : τ'.length = τ.length) (h : ∀ (i : Nat) k', τ'[i]? = some k' → ∃ k, τ[i]? = some k ∧ (k' = k ∨ k' = .no)) : Ok F R0 R H σ τ' where
  len := by rw [hl]; exact ok.len
  fr := ok.fr
  le := ok.le
  r0 := ok.r0
  nw := ok.nw
  sl := fun i k e => by
    obtain ⟨k0, e0, z | z⟩ := h i k e
    · subst z; exact ok.sl i _ e0
    · exact .inl z
  ff := fun i k p e hp => by
    obtain ⟨k0, e0, z | z⟩ := h i k e
    · subst z; exact ok.ff i _ p e0 hp
    · subst z; exact hp.elim
  inj := fun i j k l p e1 e2 h1 h2 => by
    obtain ⟨k0, e0, z | z⟩ := h i k e1
    · obtain ⟨k3, e3, y | y⟩ := h j l e2
      · subst z; subst y; exact ok.inj i j _ _ p e0 e3 h1 h2
      · subst y; exact h2.elim
    · subst z; exact h1.elim
  nt := ok.nt
theorem Ok.forget (ok : Ok F R0 R H σ τ) (i : Nat) : Ok F R0 R H σ (τ.set i .no) := ok.weak (by simp) fun j k' e => by
  by_cases hj : i = j
  · subst hj
    by_cases hi : i < τ.length
    · rw [List.getElem?_set_self hi] at e
      cases e
      exact ⟨_, List.getElem?_eq_getElem hi, .inr rfl⟩
    · rw [List.getElem?_eq_none (by simpa using hi)] at e; cases e
  · rw [List.getElem?_set_ne hj] at e
    exact ⟨k', e, .inl rfl⟩
end

/-! ### from a fresh cell to data -/
inductive Fz : Kd → Kd → Prop
  | im {α : Type} (A : DR α) (a : α) : Fz (.im A a) (.im A a)
  | ow {γ : Type} {p : Addr} {C : CR γ} {A : DR γ} {c : γ} (h : FrzC C A) : Fz (.ow p C c) (.im A c)
  | cv {α β : Type} {A : DR α} {B : DR β} {a : α} {b : β} (h : ∀ R v, A.rel R v a → B.rel R v b) : Fz (.im A a) (.im B b)
  | ov {γ β : Type} {p : Addr} {C : CR γ} {A : DR γ} {B : DR β} {c : γ} {b : β} (h : FrzC C A) (h2 : ∀ R v, A.rel R v c → B.rel R v b) : Fz (.ow p C c) (.im B b)
theorem VOk.freeze {F R0 R H : Hp} {σ : L2.St} {τ : Tau} {v : V} {x y : Kd} (ok : Ok F R0 R H σ τ) (w : VOk F R H τ v x) (h : Fz x y) : ∃ R', Le R R' ∧ Ok F R0 R' H σ τ ∧ y.rel R' H v ∧ VOk F R' H τ v y := by
  cases h with
  | im A a => exact ⟨R, Le.refl R, ok, w.rel, w⟩
  | @ow γ p C A c h =>
    obtain ⟨e1, e2, o, e3, e4⟩ := w.rel
    obtain ⟨hF, hn⟩ := w.own p rfl
    have r : A.rel (upd R p o) v c := by
      rw [e1]
      exact h _ p o c upd_same (C.up (Le.upd e2) e4)
    exact ⟨upd R p o, Le.upd e2, ok.know e2 hF e3 hn (C.nt e4).1, r, ⟨r, fun _ z => z.elim⟩⟩
  | @cv α β A B a b h => exact ⟨R, Le.refl R, ok, h R v w.rel, ⟨h R v w.rel, fun _ z => z.elim⟩⟩
  | @ov γ β p C A B c b h h2 =>
    obtain ⟨e1, e2, o, e3, e4⟩ := w.rel
    obtain ⟨hF, hn⟩ := w.own p rfl
    have r : B.rel (upd R p o) v b := by
      refine h2 _ _ ?_
      rw [e1]
      exact h _ p o c upd_same (C.up (Le.upd e2) e4)
    exact ⟨upd R p o, Le.upd e2, ok.know e2 hF e3 hn (C.nt e4).1, r, ⟨r, fun _ z => z.elim⟩⟩
theorem VOk.im {F R H : Hp} {τ : Tau} {v : V} {α : Type} {A : DR α} {a : α} (h : A.rel R v a) : VOk F R H τ v (.im A a) := ⟨h, fun _ z => z.elim⟩
end T
end
section
set_option Elab.async false
set_option linter.all false
set_option autoImplicit false
set_option maxRecDepth 100000
set_option maxHeartbeats 1000000
namespace T
open PySem PySem.Spec PyProof.Rows L2

/-! ### judgements -/
abbrev KK := Kd → Tau → Prop
def W (te : TE) (τ : Tau) (k : KK) : Prop := ∀ (σ : L2.St) (H F R0 R : Hp) (Q : VK), Ok F R0 R H σ τ →
  (∀ x τ' v R' H', k x τ' → Le R R' → Ok F R0 R' H' σ τ' → VOk F R' H' τ' v x → Q v H') → te σ H Q
def sem (X : Cx) (e : Expr) : TE := fun σ H Q => ∀ pins s, Inv X pins σ H s → wpAny (model X.prog X.w) X.A (eval e X.env) (L2.EP X pins σ Q) X.xe s
theorem pe_sem {X : Cx} {e : Expr} : PE X e (sem X e) := ⟨fun pins s σ H Q I h => h pins s I⟩
def E (X : Cx) (e : Expr) (τ : Tau) (k : KK) : Prop := W (sem X e) τ k
theorem E.of {X : Cx} {e : Expr} {te : TE} {τ : Tau} {k : KK} (h : PE X e te) (w : W te τ k) : E X e τ k :=
  fun σ H F R0 R Q ok q pins s I => h.run pins s σ H Q I (w σ H F R0 R Q ok q)
theorem W.mono {te : TE} {τ : Tau} {k k' : KK} (h : W te τ k) (m : ∀ x τ', k x τ' → k' x τ') : W te τ k' :=
  fun σ H F R0 R Q ok q => h σ H F R0 R Q ok fun x τ' v R' H' z => q x τ' v R' H' (m x τ' z)

/-- places: a slot's own value, or a value at hand -/
inductive Pl : Type 1
  | slot (i : Nat)
  | val (x : Kd)
def Pl.kd (τ : Tau) : Pl → Option Kd
  | .slot i => τ[i]?
  | .val x => some x
def Pl.at (σ : L2.St) (R H : Hp) (v : V) : Pl → Prop
  | .slot i => σ[i]? = some (some v)
  | .val x => x.rel R H v ∧ ∀ p, ¬ owns x p
theorem Pl.up {σ : L2.St} {R R' H H' : Hp} {v : V} {p : Pl} (l : Le R R') (h : p.at σ R H v) : p.at σ R' H' v := by
  cases p with
  | slot i => exact h
  | val x =>
    obtain ⟨h, n⟩ := h
    refine ⟨?_, n⟩
    cases x with
    | no => trivial
    | im A a => exact A.up l h
    | ow q C c => exact absurd rfl (n q)
theorem Pl.rel {F R0 R H : Hp} {σ : L2.St} {τ : Tau} {v : V} {p : Pl} {x : Kd} (ok : Ok F R0 R H σ τ) (h : p.at σ R H v) (e : p.kd τ = some x) : x.rel R H v := by
  cases p with
  | slot i =>
    have h' : σ[i]? = some (some v) := h
    have e' : τ[i]? = some x := e
    rcases ok.sl i x e' with z | ⟨u, hu, r⟩
    · subst z; trivial
    · rw [h'] at hu
      cases hu
      exact r
  | val y =>
    cases e
    exact h.1
def WP (te : TE) (τ : Tau) (k : Pl → Tau → Prop) : Prop := ∀ (σ : L2.St) (H F R0 R : Hp) (Q : VK), Ok F R0 R H σ τ →
  (∀ p τ' v R' H', k p τ' → Le R R' → Ok F R0 R' H' σ τ' → p.at σ R' H' v → Q v H') → te σ H Q
def P (X : Cx) (e : Expr) (τ : Tau) (k : Pl → Tau → Prop) : Prop := WP (sem X e) τ k

/-- tests -/
def WT (tt : TT) (τ : Tau) (k : Bool → Tau → Prop) : Prop := ∀ (σ : L2.St) (H F R0 R : Hp) (Q : Bool → Hp → Prop), Ok F R0 R H σ τ →
  (∀ b τ' R' H', k b τ' → Le R R' → Ok F R0 R' H' σ τ' → Q b H') → tt σ H Q
def semT (X : Cx) (e : Expr) : TT := fun σ H Q => ∀ pins s, Inv X pins σ H s → ∀ whole, wpAny (model X.prog X.w) X.A (isTrue e X.env whole) (L2.TP X pins σ Q) X.xe s
def semT0 (X : Cx) (e : Expr) : TT := fun σ H Q => ∀ pins s, Inv X pins σ H s → wpAny (model X.prog X.w) X.A (isTrue e X.env (eval e X.env)) (L2.TP X pins σ Q) X.xe s
theorem pt_sem {X : Cx} {e : Expr} : PT X e (semT0 X e) := ⟨fun pins s σ H Q I h => h pins s I⟩
def C (X : Cx) (e : Expr) (τ : Tau) (k : Bool → Tau → Prop) : Prop := WT (semT0 X e) τ k
theorem C.of {X : Cx} {e : Expr} {tt : TT} {τ : Tau} {k : Bool → Tau → Prop} (h : PT X e tt) (w : WT tt τ k) : C X e τ k :=
  fun σ H F R0 R Q ok q pins s I => h.run pins s σ H Q I (w σ H F R0 R Q ok q)
/-- arguments -/
abbrev Ks := List Pl → Tau → Prop
def PlAll (σ : L2.St) (R H : Hp) : List V → List Pl → Prop
  | [], [] => True
  | v :: vs, p :: ps => p.at σ R H v ∧ PlAll σ R H vs ps
  | _, _ => False
theorem PlAll.up {σ : L2.St} {R R' H H' : Hp} (l : Le R R') : ∀ {vs : List V} {ps : List Pl}, PlAll σ R H vs ps → PlAll σ R' H' vs ps
  | [], [], _ => trivial
  | _ :: _, _ :: _, h => ⟨Pl.up l h.1, PlAll.up l h.2⟩
def WA (ta : TA) (τ : Tau) (k : Ks) : Prop := ∀ (σ : L2.St) (H F R0 R : Hp) (Q : List V → Hp → Prop), Ok F R0 R H σ τ →
  (∀ ps τ' vs R' H', k ps τ' → Le R R' → Ok F R0 R' H' σ τ' → PlAll σ R' H' vs ps → Q vs H') → ta σ H Q
def semA (X : Cx) (es : List Expr) : TA := fun σ H Q => ∀ pos pins s, Inv X pins σ H s → wpAny (model X.prog X.w) X.A (spliced (backTo pos (starEach es X.env))) (L2.AP X pins σ Q) X.xe s
theorem pa_sem {X : Cx} {es : List Expr} : PA X es (semA X es) := ⟨fun pos pins s σ H Q I h => h pos pins s I⟩
def A (X : Cx) (es : List Expr) (τ : Tau) (k : Ks) : Prop := WA (semA X es) τ k
theorem A.of {X : Cx} {es : List Expr} {ta : TA} {τ : Tau} {k : Ks} (h : PA X es ta) (w : WA ta τ k) : A X es τ k :=
  fun σ H F R0 R Q ok q pos pins s I => h.run pos pins s σ H Q I (w σ H F R0 R Q ok q)

/-- where one stands -/
structure Gm where
  P : Program
  w : World
  K : PySem.W.Frag
  mg : Str → Option Value
  base : Heap
structure XF (G : Gm) (X : Cx) (N : List Str) (sc : Scope) (n : Nat) : Prop where
  ep : X.prog = G.P
  ew : X.w = G.w
  eK : X.K = G.K
  emg : X.mg = G.mg
  eb : X.base = G.base
  eN : X.N = N
  es : X.env.scope = sc
  calm : X.calm = true
  room : Room n X.A
  nd : N.Nodup
section
variable {G : Gm} {X : Cx} {N : List Str} {sc : Scope} {n : Nat} {τ τ1 : Tau} {k : KK} {e a b : Expr} {pos : Pos}
theorem XF.gl (hX : XF G X N sc n) {x : Str} (h : sc.names.lookup x = some .globalImplicit) : Gl X x := by
  show X.env.scope.names.lookup x = some .globalImplicit
  rw [hX.es]; exact h
theorem XF.vis (hX : XF G X N sc n) {x : Str} (h : Vis sc x) : Vis X.env.scope x := by rw [hX.es]; exact h
theorem XF.loc (hX : XF G X N sc n) {x : Str} (h : Loc sc x) : Loc X.env.scope x := by rw [hX.es]; exact h
theorem XF.mgN (hX : XF G X N sc n) {x : Str} {u : Option Value} (h : G.mg x = u) : X.mg x = u := by rw [hX.emg]; exact h
theorem XF.hu (hX : XF G X N sc n) : X.A.units + 1 < cLine := hu_of hX.room

/-! ### names, constants -/
theorem w_var {i : Nat} {α : Type} {A : DR α} {a : α} (ht : τ[i]? = some (.im A a)) (h : k (.im A a) τ) : W (tVar i) τ k := fun σ H F R0 R Q ok q => by
  rcases ok.sl i _ ht with z | ⟨v, hv, r⟩
  · cases z
  · cases hs : σ[i]? with
    | none => rw [hs] at hv; cases hv
    | some u =>
      rw [hs] at hv
      have hu : u = some v := hv
      subst hu
      exact ⟨v, hs, q _ τ v R H h (Le.refl R) ok ⟨r, fun _ z => z.elim⟩⟩
theorem w_varP {i : Nat} {k : Pl → Tau → Prop} {x : Kd} (ht : τ[i]? = some x) (hx : x ≠ .no) (h : k (.slot i) τ) : WP (tVar i) τ k := fun σ H F R0 R Q ok q => by
  rcases ok.sl i _ ht with z | ⟨v, hv, r⟩
  · exact absurd z hx
  · cases hs : σ[i]? with
    | none => rw [hs] at hv; cases hv
    | some u =>
      rw [hs] at hv
      have hu : u = some v := hv
      subst hu
      exact ⟨v, hs, q (.slot i) τ v R H h (Le.refl R) ok hs⟩
theorem w_c {v : V} {α : Type} {A : DR α} {a : α} (hr : ∀ R, A.rel R v a) (h : k (.im A a) τ) : W (tC v) τ k := fun σ H F R0 R Q ok q =>
  q _ τ v R H h (Le.refl R) ok ⟨hr R, fun _ z => z.elim⟩
/-- a cell's slot becomes data -/
theorem w_frz {i : Nat} {γ : Type} {p : Addr} {C : CR γ} {A : DR γ} {c : γ} (ht : τ[i]? = some (.ow p C c)) (f : FrzC C A) (h : k (.im A c) (τ.set i (.im A c))) : W (tVar i) τ k := fun σ H F R0 R Q ok q => by
  rcases ok.sl i _ ht with z | ⟨v, hv, e1, e2, o, e3, e4⟩
  · cases z
  · cases hs : σ[i]? with
    | none => rw [hs] at hv; cases hv
    | some u =>
      rw [hs] at hv
      have hu : u = some v := hv
      subst hu
      have hi : i < τ.length := (List.getElem?_eq_some_iff.mp ht).1
      have okw := ok.forget i
      have hR : A.rel (upd R p o) v c := by rw [e1]; exact f _ p o c upd_same (C.up (Le.upd e2) e4)
      have okn : Ok F R0 (upd R p o) H σ (τ.set i .no) := okw.know e2 (ok.ff i _ p ht rfl) e3 (ho := (C.nt e4).1) fun j l el hl => by
        by_cases hj : i = j
        · subst hj
          rw [List.getElem?_set_self hi] at el
          cases el
          exact hl
        · rw [List.getElem?_set_ne hj] at el
          exact hj (ok.inj i j _ l p ht el rfl hl)
      have oks := okn.set (i := i) (v := v) (x := .im A c) (by simpa using hi) ⟨hR, fun _ z => z.elim⟩
      have es : σ.set i (some v) = σ := by
        apply List.ext_getElem?
        intro j
        by_cases hj : i = j
        · subst hj
          rw [List.getElem?_set_self (by rw [ok.len]; exact hi), hs]
        · rw [List.getElem?_set_ne hj]
      rw [es, List.set_set] at oks
      exact ⟨v, hs, q _ _ v _ H h (Le.upd e2) oks ⟨hR, fun _ z => z.elim⟩⟩
theorem E_name {i : Nat} {x : Str} {α : Type} {A : DR α} {a : α} (hX : XF G X N sc n) (hN : N[i]? = some x) (hv : Vis sc x) (ht : τ[i]? = some (.im A a)) (h : k (.im A a) τ)
    (hd : (x == ("__debug__" : Str)) = false := by decide) (hcd : (x == ("__classdict__" : Str)) = false := by decide) : E X (.Name x pos) τ k :=
  E.of (pe_var (i := i) (by rw [hX.eN]; exact hN) (hX.vis hv) hd hcd) (w_var ht h)
theorem E_frz {i : Nat} {x : Str} {γ : Type} {p : Addr} {C : CR γ} {A : DR γ} {c : γ} (hX : XF G X N sc n) (hN : N[i]? = some x) (hv : Vis sc x) (ht : τ[i]? = some (.ow p C c)) (f : FrzC C A) (h : k (.im A c) (τ.set i (.im A c)))
    (hd : (x == ("__debug__" : Str)) = false := by decide) (hcd : (x == ("__classdict__" : Str)) = false := by decide) : E X (.Name x pos) τ k :=
  E.of (pe_var (i := i) (by rw [hX.eN]; exact hN) (hX.vis hv) hd hcd) (w_frz ht f h)
theorem P.of {k : Pl → Tau → Prop} {te : TE} (h : PE X e te) (w : WP te τ k) : P X e τ k :=
  fun σ H F R0 R Q ok q pins s I => h.run pins s σ H Q I (w σ H F R0 R Q ok q)
theorem P_name {i : Nat} {x : Str} {k : Pl → Tau → Prop} {y : Kd} (hX : XF G X N sc n) (hN : N[i]? = some x) (hv : Vis sc x) (ht : τ[i]? = some y) (hy : y ≠ .no) (h : k (.slot i) τ)
    (hd : (x == ("__debug__" : Str)) = false := by decide) (hcd : (x == ("__classdict__" : Str)) = false := by decide) : P X (.Name x pos) τ k :=
  P.of (pe_var (i := i) (by rw [hX.eN]; exact hN) (hX.vis hv) hd hcd) (w_varP ht hy h)
theorem P_val {k : Pl → Tau → Prop} (h : E X e τ fun x τ' => ∃ α, ∃ A : DR α, ∃ a, Fz x (.im A a) ∧ k (.val (.im A a)) τ') : P X e τ k := fun σ H F R0 R Q ok q =>
  h σ H F R0 R Q ok fun x τ' v R' H' ⟨α, A, a, fz, hk⟩ l ok' w => by
    obtain ⟨R2, l2, ok2, r2, _⟩ := VOk.freeze ok' w fz
    exact q _ τ' v R2 H' hk (l.trans l2) ok2 ⟨r2, fun _ z => z⟩
theorem E_int {i : Int} {j} (h : k (.im rI i) τ) : E X (.Constant (.int i) j pos) τ k := E.of pe_int (w_c (fun _ => rfl) h)
theorem E_bool {i : Bool} {j} (h : k (.im rB i) τ) : E X (.Constant (.bool i) j pos) τ k := E.of pe_bl (w_c (fun _ => rfl) h)
theorem E_none {j} (h : k (.im rN ()) τ) : E X (.Constant .none j pos) τ k := E.of pe_non (w_c (fun _ => rfl) h)
theorem E_str {i : Str} {j} (h : k (.im rS i) τ) : E X (.Constant (.str i) j pos) τ k := E.of pe_str (w_c (fun _ => rfl) h)
/-- a module's constant -/
theorem E_glob {x : Str} {v : V} {u : Value} {α : Type} {A : DR α} {a : α} (hX : XF G X N sc n) (hg : sc.names.lookup x = some .globalImplicit) (hm : G.mg x = some u) (r : RelV v u) (hr : ∀ R, A.rel R v a) (h : k (.im A a) τ)
    (hdb : (x == ("__debug__" : Str)) = false := by decide) : E X (.Name x pos) τ k :=
  E.of (pe_glob (hX.gl hg) (hX.mgN hm) r hdb) (w_c hr h)

/-! ### operators on values that are data: what a two-place reading gives -/
/-- an operand that is data -/
theorem W.data {te : TE} (h : W te τ k) : ∀ (σ : L2.St) (H F R0 R : Hp) (Q : VK), Ok F R0 R H σ τ → (∀ x τ' v R' H', k x τ' → Le R R' → Ok F R0 R' H' σ τ' → VOk F R' H' τ' v x → Q v H') → te σ H Q := h
theorem w_op {ta tb : TE} {r : R2} {α β : Type} {A : DR α} {B : DR β} {k1 : KK}
    (ha : W ta τ fun x τ1 => ∃ a, Fz x (.im A a) ∧ W tb τ1 fun y τ2 => ∃ b, Fz y (.im B b) ∧
      ∀ (σ : L2.St) (H F R0 R : Hp) (Q : VK) (v u : V), Ok F R0 R H σ τ2 → A.rel R v a → B.rel R u b → (∀ x τ' v R' H', k x τ' → Le R R' → Ok F R0 R' H' σ τ' → VOk F R' H' τ' v x → Q v H') → r v u H Q) : W (tOp r ta tb) τ k :=
  fun σ H F R0 R Q ok q => ha σ H F R0 R _ ok fun x τ1 v R1 H1 ⟨a, fz, hb⟩ l1 ok1 w1 => by
    obtain ⟨R2, l2, ok2, r2, _⟩ := VOk.freeze ok1 w1 fz
    refine hb σ H1 F R0 R2 _ ok2 fun y τ2 u R3 H3 ⟨b, fz', hr⟩ l3 ok3 w3 => ?_
    obtain ⟨R4, l4, ok4, r4, _⟩ := VOk.freeze ok3 w3 fz'
    exact hr σ H3 F R0 R4 Q v u ok4 (A.up (l3.trans l4) r2) r4 fun x τ' v' R' H' hk l => q x τ' v' R' H' hk (((l1.trans l2).trans (l3.trans l4)).trans l)
/-- two ints give something flat -/
theorem w_opI {ta tb : TE} {Cn : Int → Int → Prop} {g : Int → Int → V} {γ : Type} {D : DR γ} {f : Int → Int → γ} (hf : ∀ R i j, D.rel R (g i j) (f i j))
    (ha : W ta τ fun x τ1 => ∃ i, Fz x (.im T.rI i) ∧ W tb τ1 fun y τ2 => ∃ j, Fz y (.im T.rI j) ∧ Cn i j ∧ k (.im D (f i j)) τ2) : W (tOp (L2.rI Cn g) ta tb) τ k :=
  w_op (A := T.rI) (B := T.rI) (k1 := k) (ha.mono fun x τ1 ⟨i, fz, hb⟩ => ⟨i, fz, hb.mono fun y τ2 ⟨j, fz', hc, hk⟩ => ⟨j, fz', fun σ H F R0 R Q v u ok r1 r2 q =>
    ⟨i, j, r1, r2, hc, q _ τ2 _ R H hk (Le.refl R) ok (VOk.im (hf R i j))⟩⟩⟩)
theorem w_opI0 {ta tb : TE} {g : Int → Int → V} {γ : Type} {D : DR γ} {f : Int → Int → γ} (hf : ∀ R i j, D.rel R (g i j) (f i j))
    (ha : W ta τ fun x τ1 => ∃ i, Fz x (.im T.rI i) ∧ W tb τ1 fun y τ2 => ∃ j, Fz y (.im T.rI j) ∧ k (.im D (f i j)) τ2) : W (tOp (L2.rI0 g) ta tb) τ k :=
  w_op (A := T.rI) (B := T.rI) (k1 := k) (ha.mono fun x τ1 ⟨i, fz, hb⟩ => ⟨i, fz, hb.mono fun y τ2 ⟨j, fz', hk⟩ => ⟨j, fz', fun σ H F R0 R Q v u ok r1 r2 q =>
    ⟨i, j, r1, r2, q _ τ2 _ R H hk (Le.refl R) ok (VOk.im (hf R i j))⟩⟩⟩)
theorem E_add (h : E X a τ fun x τ1 => ∃ i, Fz x (.im rI i) ∧ E X b τ1 fun y τ2 => ∃ j, Fz y (.im rI j) ∧ k (.im rI (i + j)) τ2) : E X (.BinOp a .Add b pos) τ k :=
  E.of (pe_op op_add pe_sem pe_sem) (w_opI0 (D := rI) (f := fun i j => i + j) (fun _ _ _ => rfl) h)
theorem E_sub (h : E X a τ fun x τ1 => ∃ i, Fz x (.im rI i) ∧ E X b τ1 fun y τ2 => ∃ j, Fz y (.im rI j) ∧ k (.im rI (i - j)) τ2) : E X (.BinOp a .Sub b pos) τ k :=
  E.of (pe_op op_sub pe_sem pe_sem) (w_opI0 (D := rI) (f := fun i j => i - j) (fun _ _ _ => rfl) h)
theorem E_mul (h : E X a τ fun x τ1 => ∃ i, Fz x (.im rI i) ∧ E X b τ1 fun y τ2 => ∃ j, Fz y (.im rI j) ∧ CMulX i j ∧ k (.im rI (i * j)) τ2) : E X (.BinOp a .Mult b pos) τ k :=
  E.of (pe_op op_mulX pe_sem pe_sem) (w_opI (D := rI) (f := fun i j => i * j) (fun _ _ _ => rfl) h)
theorem E_mod (h : E X a τ fun x τ1 => ∃ i, Fz x (.im rI i) ∧ E X b τ1 fun y τ2 => ∃ j, Fz y (.im rI j) ∧ 0 < j ∧ k (.im rI (i % j)) τ2) : E X (.BinOp a .Mod b pos) τ k :=
  E.of (pe_op op_mod pe_sem pe_sem) (w_opI (D := rI) (f := fun i j => i % j) (fun _ _ _ => rfl) h)
theorem E_fdiv (h : E X a τ fun x τ1 => ∃ i, Fz x (.im rI i) ∧ E X b τ1 fun y τ2 => ∃ j, Fz y (.im rI j) ∧ CDivN i j ∧ k (.im rI (i.fdiv j)) τ2) : E X (.BinOp a .FloorDiv b pos) τ k :=
  E.of (pe_op op_fdivN pe_sem pe_sem) (w_opI (D := rI) (f := fun i j => i.fdiv j) (fun _ _ _ => rfl) h)
theorem E_pow (h : E X a τ fun x τ1 => ∃ i, Fz x (.im rI i) ∧ E X b τ1 fun y τ2 => ∃ j, Fz y (.im rI j) ∧ CPow i j ∧ k (.im rI (i ^ j.toNat)) τ2) : E X (.BinOp a .Pow b pos) τ k :=
  E.of (pe_op op_pow pe_sem pe_sem) (w_opI (D := rI) (f := fun i j => i ^ j.toNat) (fun _ _ _ => rfl) h)
theorem w_un {ta : TE} {r : V → Hp → VK → Prop} {α : Type} {A : DR α}
    (ha : W ta τ fun x τ1 => ∃ a, Fz x (.im A a) ∧
      ∀ (σ : L2.St) (H F R0 R : Hp) (Q : VK) (v : V), Ok F R0 R H σ τ1 → A.rel R v a → (∀ x τ' v R' H', k x τ' → Le R R' → Ok F R0 R' H' σ τ' → VOk F R' H' τ' v x → Q v H') → r v H Q) : W (tUn r ta) τ k :=
  fun σ H F R0 R Q ok q => ha σ H F R0 R _ ok fun x τ1 v R1 H1 ⟨a, fz, hr⟩ l1 ok1 w1 => by
    obtain ⟨R2, l2, ok2, r2, _⟩ := VOk.freeze ok1 w1 fz
    exact hr σ H1 F R0 R2 Q v ok2 r2 fun x τ' v' R' H' hk l => q x τ' v' R' H' hk ((l1.trans l2).trans l)
theorem E_neg (h : E X a τ fun x τ1 => ∃ i, Fz x (.im rI i) ∧ k (.im rI (-i)) τ1) : E X (.UnaryOp .USub a pos) τ k :=
  E.of (pe_un un_neg pe_sem) (w_un (A := rI) (h.mono fun x τ1 ⟨i, fz, hk⟩ => ⟨i, fz, fun σ H F R0 R Q v ok r q => ⟨i, r, q _ τ1 _ R H hk (Le.refl R) ok (VOk.im rfl)⟩⟩))
/-- comparisons of ints -/
theorem E_lt (h : E X a τ fun x τ1 => ∃ i, Fz x (.im rI i) ∧ E X b τ1 fun y τ2 => ∃ j, Fz y (.im rI j) ∧ k (.im rB (decide (i < j))) τ2) : E X (.Compare a [.Lt] [b] pos) τ k :=
  E.of (pe_cmpR op_lt pe_sem pe_sem (nomark _)) (w_opI0 (D := rB) (f := fun i j => decide (i < j)) (fun _ _ _ => rfl) h)
theorem E_le (h : E X a τ fun x τ1 => ∃ i, Fz x (.im rI i) ∧ E X b τ1 fun y τ2 => ∃ j, Fz y (.im rI j) ∧ k (.im rB (decide (i ≤ j))) τ2) : E X (.Compare a [.LtE] [b] pos) τ k :=
  E.of (pe_cmpR op_le pe_sem pe_sem (nomark _)) (w_opI0 (D := rB) (f := fun i j => decide (i ≤ j)) (fun _ _ _ => rfl) h)
theorem E_gt (h : E X a τ fun x τ1 => ∃ i, Fz x (.im rI i) ∧ E X b τ1 fun y τ2 => ∃ j, Fz y (.im rI j) ∧ k (.im rB (decide (j < i))) τ2) : E X (.Compare a [.Gt] [b] pos) τ k :=
  E.of (pe_cmpR op_gt pe_sem pe_sem (nomark _)) (w_opI0 (D := rB) (f := fun i j => decide (j < i)) (fun _ _ _ => rfl) h)
theorem E_ge (h : E X a τ fun x τ1 => ∃ i, Fz x (.im rI i) ∧ E X b τ1 fun y τ2 => ∃ j, Fz y (.im rI j) ∧ k (.im rB (decide (j ≤ i))) τ2) : E X (.Compare a [.GtE] [b] pos) τ k :=
  E.of (pe_cmpR op_ge pe_sem pe_sem (nomark _)) (w_opI0 (D := rB) (f := fun i j => decide (j ≤ i)) (fun _ _ _ => rfl) h)
/-! ### == of data at any depth -/
/-- what a relation's data look like through and through -/
def Deep (K : PySem.W.Frag) {α : Type} (A : DR α) (f : α → PyData) : Prop := ∀ R v a, A.rel R v a → ∀ H, LeR R H → Dp K H v (f a)
theorem deep_I {K : PySem.W.Frag} : Deep K rI (fun i => .int i) := fun R v a h H l => by cases h; exact .int a
theorem deep_B {K : PySem.W.Frag} : Deep K rB (fun i => .bool i) := fun R v a h H l => by cases h; exact .bl a
theorem deep_S {K : PySem.W.Frag} : Deep K rS (fun i => .str i) := fun R v a h H l => by cases h; exact .str a
theorem deep_N {K : PySem.W.Frag} : Deep K rN (fun _ => .none) := fun R v a h H l => by cases h; exact .non
theorem deep_all {K : PySem.W.Frag} {α : Type} {A : DR α} {f : α → PyData} (hA : Deep K A f) {R H : Hp} (l : LeR R H) : ∀ {xs : List V} {as : List α}, Paired (A.rel R) xs as → DpAll K H xs (as.map f)
  | _, _, .nil => .nil
  | _, _, .cons r t => .cons (hA R _ _ r H l) (deep_all hA l t)
theorem deep_L {K : PySem.W.Frag} {α : Type} {A : DR α} {f : α → PyData} (hA : Deep K A f) : Deep K (rL K A) (fun l => .list (l.map f)) := fun R v as ⟨a, xs, e, h, hp⟩ H l => by
  subst e; exact .lst (.inl (l.rd h)) (deep_all hA l hp)
theorem deep_T {K : PySem.W.Frag} {α : Type} {A : DR α} {f : α → PyData} (hA : Deep K A f) : Deep K (rT K A) (fun l => .tuple (l.map f)) := fun R v as ⟨a, xs, e, h, hp⟩ H l => by
  subst e; exact .tup (l.sqT h) (deep_all hA l hp)
theorem deep_P {K : PySem.W.Frag} {α β : Type} {A : DR α} {B : DR β} {f : α → PyData} {g : β → PyData} (hA : Deep K A f) (hB : Deep K B g) : Deep K (rPair K A B) (fun p => .tuple [f p.1, g p.2]) := fun R v as ⟨a, x, y, e, h, h1, h2⟩ H l => by
  subst e; exact .tup (l.sqT h) (.cons (hA R _ _ h1 H l) (.cons (hB R _ _ h2 H l) .nil))
theorem deep_Q {K : PySem.W.Frag} : Deep K (rQ K) (fun q => .tuple [.int q.num, .int q.den]) := fun R v q ⟨a, e, h⟩ H l => by
  subst e; exact .tup (l.sqT h) (.cons (.int _) (.cons (.int _) .nil))
theorem E_eqD {α β : Type} {A : DR α} {B : DR β} {f : α → PyData} {g : β → PyData} (hX : XF G X N sc n) (hA : Deep G.K A f) (hB : Deep G.K B g)
    (h : E X a τ fun x τ1 => ∃ i, Fz x (.im A i) ∧ E X b τ1 fun y τ2 => ∃ j, Fz y (.im B j) ∧ SeqAt.shaped (f i) = true ∧ SeqAt.shaped (g j) = true ∧ k (.im rB (PyData.eqv (f i) (g j))) τ2) : E X (.Compare a [.Eq] [b] pos) τ k :=
  E.of (pe_cmpR (op_eqD hX.room.units) pe_sem pe_sem (nomark _)) (w_op (A := A) (B := B) (k1 := k) (h.mono fun x τ1 ⟨i, fz, hb⟩ => ⟨i, fz, hb.mono fun y τ2 ⟨j, fz', s1, s2, hk⟩ => ⟨j, fz', fun σ H F R0 R Q v u ok r1 r2 q =>
    ⟨f i, g j, by rw [hX.eK]; exact hA R v i r1 H ok.le, by rw [hX.eK]; exact hB R u j r2 H ok.le, s1, s2, q _ τ2 _ R H hk (Le.refl R) ok (VOk.im rfl)⟩⟩⟩))
theorem E_neD {α β : Type} {A : DR α} {B : DR β} {f : α → PyData} {g : β → PyData} (hX : XF G X N sc n) (hA : Deep G.K A f) (hB : Deep G.K B g)
    (h : E X a τ fun x τ1 => ∃ i, Fz x (.im A i) ∧ E X b τ1 fun y τ2 => ∃ j, Fz y (.im B j) ∧ SeqAt.shaped (f i) = true ∧ SeqAt.shaped (g j) = true ∧ k (.im rB (!PyData.eqv (f i) (g j))) τ2) : E X (.Compare a [.NotEq] [b] pos) τ k :=
  E.of (pe_cmpR (op_neD hX.room.units) pe_sem pe_sem (nomark _)) (w_op (A := A) (B := B) (k1 := k) (h.mono fun x τ1 ⟨i, fz, hb⟩ => ⟨i, fz, hb.mono fun y τ2 ⟨j, fz', s1, s2, hk⟩ => ⟨j, fz', fun σ H F R0 R Q v u ok r1 r2 q =>
    ⟨f i, g j, by rw [hX.eK]; exact hA R v i r1 H ok.le, by rw [hX.eK]; exact hB R u j r2 H ok.le, s1, s2, q _ τ2 _ R H hk (Le.refl R) ok (VOk.im rfl)⟩⟩⟩))
/-- ints alone -/
theorem E_eqI (h : E X a τ fun x τ1 => ∃ i, Fz x (.im rI i) ∧ E X b τ1 fun y τ2 => ∃ j, Fz y (.im rI j) ∧ k (.im rB (decide (i = j))) τ2) : E X (.Compare a [.Eq] [b] pos) τ k :=
  E.of (pe_cmpR op_eq pe_sem pe_sem (nomark _)) (w_op (A := rI) (B := rI) (k1 := k) (h.mono fun x τ1 ⟨i, fz, hb⟩ => ⟨i, fz, hb.mono fun y τ2 ⟨j, fz', hk⟩ => ⟨j, fz', fun σ H F R0 R Q v u ok r1 r2 q => by
    cases r1; cases r2
    refine ⟨rfl, ?_⟩
    have e : decide (V.int i = V.int j) = decide (i = j) := by
      rw [Bool.eq_iff_iff]; simp
    rw [e]
    exact q _ τ2 _ R H hk (Le.refl R) ok (VOk.im rfl)⟩⟩))
theorem E_neI (h : E X a τ fun x τ1 => ∃ i, Fz x (.im rI i) ∧ E X b τ1 fun y τ2 => ∃ j, Fz y (.im rI j) ∧ k (.im rB (!decide (i = j))) τ2) : E X (.Compare a [.NotEq] [b] pos) τ k :=
  E.of (pe_cmpR op_ne pe_sem pe_sem (nomark _)) (w_op (A := rI) (B := rI) (k1 := k) (h.mono fun x τ1 ⟨i, fz, hb⟩ => ⟨i, fz, hb.mono fun y τ2 ⟨j, fz', hk⟩ => ⟨j, fz', fun σ H F R0 R Q v u ok r1 r2 q => by
    cases r1; cases r2
    refine ⟨rfl, ?_⟩
    have e : decide (V.int i = V.int j) = decide (i = j) := by
      rw [Bool.eq_iff_iff]; simp
    rw [e]
    exact q _ τ2 _ R H hk (Le.refl R) ok (VOk.im rfl)⟩⟩))
theorem E_eqS (h : E X a τ fun x τ1 => ∃ i, Fz x (.im rS i) ∧ E X b τ1 fun y τ2 => ∃ j, Fz y (.im rS j) ∧ k (.im rB (decide (i = j))) τ2) : E X (.Compare a [.Eq] [b] pos) τ k :=
  E.of (pe_cmpR op_eq pe_sem pe_sem (nomark _)) (w_op (A := rS) (B := rS) (k1 := k) (h.mono fun x τ1 ⟨i, fz, hb⟩ => ⟨i, fz, hb.mono fun y τ2 ⟨j, fz', hk⟩ => ⟨j, fz', fun σ H F R0 R Q v u ok r1 r2 q => by
    cases r1; cases r2
    refine ⟨rfl, ?_⟩
    have e : decide (V.str i = V.str j) = decide (i = j) := by
      rw [Bool.eq_iff_iff]; simp
    rw [e]
    exact q _ τ2 _ R H hk (Le.refl R) ok (VOk.im rfl)⟩⟩))
end
end T
end
section
set_option Elab.async false
set_option linter.all false
set_option autoImplicit false
set_option maxRecDepth 100000
set_option maxHeartbeats 1000000
namespace T
open PySem PySem.Spec PyProof.Rows L2
section
variable {G : Gm} {X : Cx} {N : List Str} {sc : Scope} {n : Nat} {τ τ1 : Tau} {k : KK} {e a b : Expr} {es : List Expr} {pos : Pos}

/-! ### displays -/
def IsIm : Kd → Prop
  | .im _ _ => True
  | _ => False
theorem Fz.isIm {x y : Kd} (h : Fz x y) : IsIm y := by cases h <;> trivial
theorem Kd.up {R R' H H' : Hp} {v : V} {x : Kd} (i : IsIm x) (l : Le R R') (h : x.rel R H v) : x.rel R' H' v := by
  cases x with
  | no => exact i.elim
  | im A a => exact A.up l h
  | ow q C c => exact i.elim
inductive VsOk (R H : Hp) : List V → List Kd → Prop
  | nil : VsOk R H [] []
  | cons {v : V} {y : Kd} {vs : List V} {ys : List Kd} (h : IsIm y ∧ Kd.rel R H v y) (t : VsOk R H vs ys) : VsOk R H (v :: vs) (y :: ys)
theorem VsOk.up {R R' H H' : Hp} (l : Le R R') {vs : List V} {ys : List Kd} (h : VsOk R H vs ys) : VsOk R' H' vs ys := by
  induction h with
  | nil => exact .nil
  | cons z _ ih => exact .cons ⟨z.1, Kd.up z.1 l z.2⟩ ih
def Items (X : Cx) : List Expr → Tau → (List Kd → Tau → Prop) → Prop
  | [], τ, k => k [] τ
  | e :: es, τ, k => E X e τ fun x τ1 => ∃ y, Fz x y ∧ Items X es τ1 fun ys τ2 => k (y :: ys) τ2
def tAll (X : Cx) : List Expr → TA
  | [] => tNil
  | e :: es => tCons (sem X e) (tAll X es)
theorem Items.run : ∀ {es : List Expr} {τ : Tau} {k : List Kd → Tau → Prop}, Items X es τ k → ∀ (σ : L2.St) (H F R0 R : Hp) (Q : List V → Hp → Prop), Ok F R0 R H σ τ →
    (∀ ys τ' vs R' H', k ys τ' → Le R R' → Ok F R0 R' H' σ τ' → VsOk R' H' vs ys → Q vs H') → tAll X es σ H Q
  | [], τ, k, h, σ, H, F, R0, R, Q, ok, q => q [] τ [] R H h (Le.refl R) ok .nil
  | e :: es, τ, k, h, σ, H, F, R0, R, Q, ok, q => h σ H F R0 R _ ok fun x τ1 v R1 H1 ⟨y, fz, h1⟩ l1 ok1 w1 => by
    obtain ⟨R2, l2, ok2, r2, w2⟩ := VOk.freeze ok1 w1 fz
    refine Items.run h1 σ H1 F R0 R2 _ ok2 fun ys τ2 vs R3 H3 hk l3 ok3 hv => ?_
    exact q (y :: ys) τ2 (v :: vs) R3 H3 hk ((l1.trans l2).trans l3) ok3 (.cons ⟨fz.isIm, Kd.up fz.isIm l3 r2⟩ hv)
theorem pa_all {es : List Expr} (hs : ∀ (e : Expr) (r : List Expr), e :: r <:+ es → starEach (e :: r) X.env = (false, eval e X.env) :: starEach r X.env) : PA X es (tAll X es) := by
  induction es with
  | nil => exact pa_nil
  | cons e es ih => exact pa_cons pe_sem (ih fun e' r h => hs e' r (h.trans (List.suffix_cons e es))) (hs e es (List.suffix_refl _))
/-- no star among them -/
def noStar : List Expr → Bool
  | [] => true
  | .Starred .. :: _ => false
  | _ :: r => noStar r
theorem star_of {env : PySem.Env} : ∀ {es : List Expr}, noStar es = true → ∀ (e : Expr) (r : List Expr), e :: r <:+ es → starEach (e :: r) env = (false, eval e env) :: starEach r env
  | [], _, e, r, s => by simp at s
  | e0 :: es, h, e, r, s => by
    rcases List.suffix_cons_iff.mp s with z | z
    · cases z
      cases e0 <;> first | rfl | (simp [noStar] at h)
    · refine star_of (es := es) ?_ e r z
      cases e0 <;> first | exact h | (simp [noStar] at h)
/-- a tuple of such items is that datum -/
def TupOf (K : PySem.W.Frag) {β : Type} (B : DR β) (b : β) (ys : List Kd) : Prop := ∀ R H p vs, SqT K R p vs → VsOk R H vs ys → B.rel R (.ref p) b
theorem tup_pair {K : PySem.W.Frag} {α β : Type} {A : DR α} {B : DR β} {a : α} {b : β} : TupOf K (rPair K A B) (a, b) [.im A a, .im B b] := fun R H p vs h v => by
  cases v with
  | cons r1 v => cases v with
    | cons r2 v => cases v; exact ⟨p, _, _, rfl, h, r1.2, r2.2⟩
theorem tup_tri {K : PySem.W.Frag} {α β γ : Type} {A : DR α} {B : DR β} {C : DR γ} {a : α} {b : β} {c : γ} : TupOf K (rTri K A B C) (a, b, c) [.im A a, .im B b, .im C c] := fun R H p vs h v => by
  cases v with
  | cons r1 v => cases v with
    | cons r2 v => cases v with
      | cons r3 v => cases v; exact ⟨p, _, _, _, rfl, h, r1.2, r2.2, r3.2⟩
theorem tup_Q {K : PySem.W.Frag} {i j : Int} {q : Rat} (h1 : i = q.num) (h2 : j = q.den) : TupOf K (rQ K) q [.im rI i, .im rI j] := fun R H p vs h v => by
  cases v with
  | cons r1 v => cases v with
    | cons r2 v =>
      cases v
      obtain ⟨_, r1⟩ := r1
      obtain ⟨_, r2⟩ := r2
      cases r1; cases r2
      subst h1; subst h2
      exact ⟨p, rfl, h⟩
theorem paired_of {R H : Hp} {α : Type} {A : DR α} : ∀ {l : List α} {vs : List V}, VsOk R H vs (l.map (.im A)) → Paired (A.rel R) vs l
  | [], _, h => by cases h; exact .nil
  | a :: l, _, h => by
    cases h with
    | cons r t => exact .cons r.2 (paired_of t)
theorem tup_T {K : PySem.W.Frag} {α : Type} {A : DR α} {l : List α} : TupOf K (rT K A) l (l.map (.im A)) := fun R H p vs h v => ⟨p, vs, rfl, h, paired_of v⟩
theorem vs_len {R H : Hp} {vs : List V} {ys : List Kd} (h : VsOk R H vs ys) : vs.length = ys.length := by
  induction h with
  | nil => rfl
  | cons _ _ ih => simp [ih]
theorem E_tup {x1} (hX : XF G X N sc n) (hs : noStar es = true) (hl : es.length ≤ 100000) (h : Items X es τ fun ys τ' => ys.length ≤ 100000 ∧ ∃ β, ∃ B : DR β, ∃ b, TupOf G.K B b ys ∧ k (.im B b) τ') : E X (.Tuple es x1 pos) τ k :=
  E.of (pe_tup (pa_all (star_of hs))) fun σ H F R0 R Q ok q => Items.run h σ H F R0 R _ ok fun ys τ' vs R' H' ⟨hz, β, B, b, ht, hk⟩ l ok' hv =>
    ⟨by rw [vs_len hv, sizeLine_eq]; omega, fun p hp => by
      obtain ⟨hR, hF, ho⟩ := ok'.fresh hp
      have okn := ok'.lay (o := .tup vs) hp
      exact q _ τ' _ _ _ hk (l.trans (Le.upd hR)) okn (VOk.im (ht _ (upd H' p (.tup vs)) p vs (.inl (.inl upd_same)) (hv.up (Le.upd hR))))⟩
theorem E_lst (hs : noStar es = true) {α : Type} {A : DR α} (h : Items X es τ fun ys τ' => ys.length ≤ 100000 ∧ ∃ l : List α, ys = l.map (.im A) ∧ ∀ p, k (.ow p (cL A) l) τ') : E X (.List es pos) τ k :=
  E.of (pe_lst (pa_all (star_of hs))) fun σ H F R0 R Q ok q => Items.run h σ H F R0 R _ ok fun ys τ' vs R' H' ⟨hz, l, e, hk⟩ le ok' hv =>
    ⟨by rw [vs_len hv, sizeLine_eq]; omega, fun p hp => by
      obtain ⟨hR, hF, ho⟩ := ok'.fresh hp
      subst e
      exact q _ τ' _ _ _ (hk p) le (ok'.new hp) ⟨⟨rfl, hR, _, upd_same, vs, rfl, paired_of hv⟩, fun p' z => by cases z; exact ⟨hF, ho⟩⟩⟩

/-! ### a[i] -/
def IxOf (K : PySem.W.Frag) (x : Kd) (i : Int) {β : Type} (B : DR β) (b : β) : Prop := ∀ R H v, LeR R H → x.rel R H v → ∃ p xs w, v = .ref p ∧ (SqL K H p xs ∨ SqT K H p xs) ∧ atI xs i = some w ∧ B.rel R w b
theorem ix_pair0 {K : PySem.W.Frag} {α β : Type} {A : DR α} {B : DR β} {q : α × β} : IxOf K (.im (rPair K A B) q) 0 A q.1 := fun R H v l ⟨p, x, y, e, h, h1, h2⟩ => ⟨p, _, x, e, .inr (l.sqT h), rfl, h1⟩
theorem ix_pair1 {K : PySem.W.Frag} {α β : Type} {A : DR α} {B : DR β} {q : α × β} : IxOf K (.im (rPair K A B) q) 1 B q.2 := fun R H v l ⟨p, x, y, e, h, h1, h2⟩ => ⟨p, _, y, e, .inr (l.sqT h), rfl, h2⟩
theorem ix_Q0 {K : PySem.W.Frag} {q : Rat} : IxOf K (.im (rQ K) q) 0 rI q.num := fun R H v l ⟨p, e, h⟩ => ⟨p, _, _, e, .inr (l.sqT h), rfl, rfl⟩
theorem ix_Q1 {K : PySem.W.Frag} {q : Rat} : IxOf K (.im (rQ K) q) 1 rI (q.den : Int) := fun R H v l ⟨p, e, h⟩ => ⟨p, _, _, e, .inr (l.sqT h), rfl, rfl⟩
theorem at_of_paired {R : Hp} {α : Type} {A : DR α} {xs : List V} {l : List α} (h : Paired (A.rel R) xs l) {i : Int} {a : α} (ha : atI l i = some a) : ∃ w, atI xs i = some w ∧ A.rel R w a := by
  have hl := PySem.Paired.length h
  unfold atI at ha ⊢
  rw [hl]
  cases e : ixN l.length i with
  | none => rw [e] at ha; cases ha
  | some j =>
    rw [e] at ha
    have ha : l[j]? = some a := ha
    have key : ∀ {xs : List V} {l : List α} {j : Nat}, Paired (A.rel R) xs l → l[j]? = some a → ∃ w, xs[j]? = some w ∧ A.rel R w a := by
      intro xs l j h
      induction h generalizing j with
      | nil => intro z; cases z
      | cons r t ih =>
        intro z
        cases j with
        | zero => cases z; exact ⟨_, rfl, r⟩
        | succ j => exact ih (by simpa using z)
    exact key h ha
theorem ix_L {K : PySem.W.Frag} {α : Type} {A : DR α} {l : List α} {i : Int} {a : α} (ha : atI l i = some a) : IxOf K (.im (rL K A) l) i A a := fun R H v le ⟨p, xs, e, h, hp⟩ => by
  obtain ⟨w, h1, h2⟩ := at_of_paired hp ha
  exact ⟨p, xs, w, e, .inl (.inl (le.rd h)), h1, h2⟩
theorem ix_T {K : PySem.W.Frag} {α : Type} {A : DR α} {l : List α} {i : Int} {a : α} (ha : atI l i = some a) : IxOf K (.im (rT K A) l) i A a := fun R H v le ⟨p, xs, e, h, hp⟩ => by
  obtain ⟨w, h1, h2⟩ := at_of_paired hp ha
  exact ⟨p, xs, w, e, .inr (le.sqT h), h1, h2⟩
theorem ix_cL {K : PySem.W.Frag} {α : Type} {A : DR α} {l : List α} {i : Int} {a : α} {q : Addr} (ha : atI l i = some a) : IxOf K (.ow q (cL A) l) i A a := fun R H v le ⟨e, hR, o, ho, xs, eo, hp⟩ => by
  obtain ⟨w, h1, h2⟩ := at_of_paired hp ha
  subst eo
  exact ⟨q, xs, w, e, .inl (.inl (.inl ho)), h1, h2⟩
theorem E_ix (hX : XF G X N sc n) (hs : PlainIx b) (h : P X a τ fun p τ1 => E X b τ1 fun y τ2 => ∃ i, Fz y (.im rI i) ∧ ∃ x, p.kd τ2 = some x ∧ ∃ β, ∃ B : DR β, ∃ b, IxOf G.K x i B b ∧ k (.im B b) τ2) : E X (.Subscript a b pos) τ k :=
  E.of (pe_ix ix_seq pe_sem pe_sem hs) fun σ H F R0 R Q ok q => h σ H F R0 R _ ok fun p τ1 v R1 H1 hb l1 ok1 at1 =>
    hb σ H1 F R0 R1 _ ok1 fun y τ2 u R2 H2 ⟨i, fz, x, ex, β, B, b, hi, hk⟩ l2 ok2 w2 => by
      obtain ⟨R3, l3, ok3, r3, _⟩ := VOk.freeze ok2 w2 fz
      obtain ⟨p', xs, w, e1, e2, e3, e4⟩ := hi R3 H2 v ok3.le (Pl.rel ok3 (Pl.up (l2.trans l3) at1) ex)
      have hu : u = .int i := r3
      subst hu; subst e1
      have fin : Q w H2 := q _ τ2 w R3 H2 hk ((l1.trans l2).trans l3) ok3 (VOk.im e4)
      rcases e2 with e2 | e2
      · exact .inl ⟨p', xs, i, w, rfl, rfl, by rw [hX.eK]; exact e2, e3, fin⟩
      · exact .inr (.inl ⟨p', xs, i, w, rfl, rfl, by rw [hX.eK]; exact e2, e3, fin⟩)

/-! ### len -/
def LenOf (K : PySem.W.Frag) (x : Kd) (m : Nat) : Prop := ∀ R H v, LeR R H → x.rel R H v → LenV K v H m ∨ ∃ p kvs, v = .ref p ∧ Rd H p (.dK kvs) ∧ kvs.length = m
theorem len_L {K : PySem.W.Frag} {α : Type} {A : DR α} {l : List α} : LenOf K (.im (rL K A) l) l.length := fun R H v le ⟨p, xs, e, h, hp⟩ => by
  subst e; exact .inl (.inl ⟨xs, .inl (le.rd h), (PySem.Paired.length hp).symm⟩)
theorem len_T {K : PySem.W.Frag} {α : Type} {A : DR α} {l : List α} : LenOf K (.im (rT K A) l) l.length := fun R H v le ⟨p, xs, e, h, hp⟩ => by
  subst e; exact .inl (.inr ⟨xs, le.sqT h, (PySem.Paired.length hp).symm⟩)
theorem len_LT {K : PySem.W.Frag} {α : Type} {A : DR α} {l : List α} : LenOf K (.im (rLT K A) l) l.length := fun R H v le h => h.elim (fun h => len_L R H v le h) fun h => len_T R H v le h
theorem len_cL {K : PySem.W.Frag} {α : Type} {A : DR α} {l : List α} {q : Addr} : LenOf K (.ow q (cL A) l) l.length := fun R H v le ⟨e, hR, o, ho, xs, eo, hp⟩ => by
  subst e; subst eo; exact .inl (.inl ⟨xs, .inl (.inl ho), (PySem.Paired.length hp).symm⟩)
theorem len_S {K : PySem.W.Frag} {x : Str} (hz : x.length ≤ 100000) : LenOf K (.im rS x) x.length := fun R H v le h => by
  cases h; exact .inl ⟨by rw [sizeLine_eq]; omega, rfl⟩
theorem len_D {K : PySem.W.Frag} {β : Type} {B : DR β} {d : List (Int × β)} : LenOf K (.im (rD B) d) d.length := fun R H v le ⟨p, kvs, e, h, hp⟩ => by
  subst e; exact .inr ⟨p, kvs, rfl, le.rd (.inl h), PySem.Paired.length hp⟩
theorem len_cD {K : PySem.W.Frag} {β : Type} {B : DR β} {d : List (Int × β)} {q : Addr} : LenOf K (.ow q (cD B) d) d.length := fun R H v le ⟨e, hR, o, ho, kvs, eo, hp⟩ => by
  subst e; subst eo; exact .inr ⟨q, kvs, rfl, .inl ho, PySem.Paired.length hp⟩
end
end T
end
section
set_option Elab.async false
set_option linter.all false
set_option autoImplicit false
set_option maxRecDepth 100000
set_option maxHeartbeats 1000000
namespace T
open PySem PySem.Spec PyProof.Rows L2

/-! ### contracts -/
/-- how a call of such arguments goes on: with what it hands back, and what its arguments are then -/
abbrev Ct := List Kd → (Kd → List Kd → Prop) → Prop
def spOf (C : Ct) : Sp := fun vs H Q _ => ∃ (F R0 R : Hp) (ks : List Kd) (k : Kd → List Kd → Prop), Ok F R0 R H (vs.map some) ks ∧ C ks k ∧
  ∀ x ks' v R' H', k x ks' → Le R R' → Ok F R0 R' H' (vs.map some) ks' → VOk F R' H' ks' v x → Q v H'
/-- what is written of the def at f -/
def Lk (K : PySem.W.Frag) (f : Addr) (fd : FuncData) (ps : List Str) : Prop := (∃ (oc : Value) (od : Option Addr) (osl : Array (Option Value)), K.lookup f = some ⟨oc, od, .func fd, osl⟩) ∧ fd.params.args.map (·.arg) = ps
structure Fn (G : Gm) (x : Str) (m : Nat) (C : Ct) : Prop where
  ex : ∃ (f : Addr) (fd : FuncData) (ps : List Str), G.mg x = some (.ref f) ∧ PySem.W.keepIn G.K (.ref f) = true ∧ Binds G.K fd ps [] ∧ FnOk G.P G.w G.K G.mg G.base CX0 m f fd ps (spOf C) ∧ Lk G.K f fd ps
theorem Fn.imp {G : Gm} {x : Str} {m : Nat} {C C' : Ct} (h : Fn G x m C) (i : ∀ ks k, C' ks k → C ks k) : Fn G x m C' := by
  obtain ⟨f, fd, ps, a, b, c, d, hl⟩ := h.ex
  exact ⟨f, fd, ps, a, b, c, d.imp fun vs H Q E ⟨F, R0, R, ks, k, e1, e2, e3⟩ => ⟨F, R0, R, ks, k, e1, i _ _ e2, e3⟩, hl⟩

/-! ### arguments -/
def KsOf (τ : Tau) : List Pl → List Kd → Prop
  | [], [] => True
  | p :: ps, x :: xs => p.kd τ = some x ∧ KsOf τ ps xs
  | _, _ => False
def NoOw : List Kd → Prop
  | [] => True
  | .ow _ _ _ :: _ => False
  | _ :: r => NoOw r
def OneOw : List Kd → Prop
  | [] => True
  | .ow _ _ _ :: r => NoOw r
  | _ :: r => OneOw r
theorem NoOw.not : ∀ {ks : List Kd}, NoOw ks → ∀ (i : Nat) x p, ks[i]? = some x → ¬ owns x p
  | [], _, i, x, p, e => by simp at e
  | y :: r, h, i, x, p, e => by
    cases i with
    | zero =>
      cases e
      cases y with
      | ow => exact h.elim
      | no => exact fun z => z
      | im => exact fun z => z
    | succ i =>
      have h' : NoOw r := by cases y with
        | ow => exact h.elim
        | no => exact h
        | im => exact h
      exact h'.not i x p (by simpa using e)
theorem OneOw.inj : ∀ {ks : List Kd}, OneOw ks → ∀ (i j : Nat) x y p, ks[i]? = some x → ks[j]? = some y → owns x p → owns y p → i = j
  | [], _, i, j, x, y, p, e, _, _, _ => by simp at e
  | z :: r, h, i, j, x, y, p, e1, e2, o1, o2 => by
    cases z with
    | ow q C c =>
      have h' : NoOw r := h
      cases i with
      | zero => cases j with
        | zero => rfl
        | succ j => exact absurd o2 (h'.not j y p (by simpa using e2))
      | succ i => exact absurd o1 (h'.not i x p (by simpa using e1))
    | no =>
      have h' : OneOw r := h
      cases i with
      | zero => cases e1; exact o1.elim
      | succ i => cases j with
        | zero => cases e2; exact o2.elim
        | succ j => rw [OneOw.inj h' i j x y p (by simpa using e1) (by simpa using e2) o1 o2]
    | im =>
      have h' : OneOw r := h
      cases i with
      | zero => cases e1; exact o1.elim
      | succ i => cases j with
        | zero => cases e2; exact o2.elim
        | succ j => rw [OneOw.inj h' i j x y p (by simpa using e1) (by simpa using e2) o1 o2]
/-- the slots behind the call: an owned argument's is what the callee left of it -/
def updArgs (τ : Tau) : List Pl → List Kd → List Kd → Tau
  | .slot j :: ps, .ow _ _ _ :: ks, x :: ks' => updArgs (τ.set j x) ps ks ks'
  | _ :: ps, _ :: ks, _ :: ks' => updArgs τ ps ks ks'
  | _, _, _ => τ
theorem updArgs_no : ∀ {ks : List Kd} (τ : Tau) (ps : List Pl) (ks' : List Kd), NoOw ks → updArgs τ ps ks ks' = τ
  | [], τ, ps, ks', _ => by cases ps with
    | nil => rfl
    | cons p ps => cases p <;> rfl
  | y :: r, τ, ps, ks', h => by
    cases y with
    | ow => exact h.elim
    | no => cases ps with
      | nil => rfl
      | cons p ps => cases ks' with
        | nil => cases p <;> rfl
        | cons x ks' => cases p <;> exact updArgs_no τ ps ks' h
    | im => cases ps with
      | nil => rfl
      | cons p ps => cases ks' with
        | nil => cases p <;> rfl
        | cons x ks' => cases p <;> exact updArgs_no τ ps ks' h
/-- the one owned argument: its slot, its kind, its place among the arguments -/
theorem updArgs_one : ∀ {ks : List Kd} {ps : List Pl} (τ : Tau) (ks' : List Kd), OneOw ks → KsOf τ ps ks → ks'.length = ks.length → (NoOw ks ∧ updArgs τ ps ks ks' = τ) ∨
    ∃ (i j : Nat) (x x' : Kd), ks[i]? = some x ∧ ps[i]? = some (.slot j) ∧ τ[j]? = some x ∧ ks'[i]? = some x' ∧ (∃ p, owns x p) ∧ updArgs τ ps ks ks' = τ.set j x' ∧ (∀ (i' : Nat) y p, ks[i']? = some y → owns y p → i' = i) ∨ ∃ (i : Nat) (q x : Kd), ks[i]? = some q ∧ ps[i]? = some (.val x) ∧ ∃ p, owns q p
  | [], ps, τ, ks', h, k, l => by
    refine .inl ⟨trivial, ?_⟩
    cases ps with
    | nil => rfl
    | cons p ps => cases p <;> rfl
  | y :: r, [], τ, ks', h, k, l => k.elim
  | y :: r, p :: ps, τ, [], h, k, l => by simp at l
  | y :: r, p :: ps, τ, x' :: ks', h, k, l => by
    have k' : KsOf τ ps r := k.2
    have l' : ks'.length = r.length := by simpa using l
    cases y with
    | ow q C c =>
      have h' : NoOw r := h
      cases p with
      | val x => exact .inr ⟨0, 0, .no, .no, .inr ⟨0, .ow q C c, x, rfl, rfl, q, rfl⟩⟩
      | slot j =>
        refine .inr ⟨0, j, .ow q C c, x', .inl ⟨rfl, rfl, k.1, rfl, ⟨q, rfl⟩, ?_, ?_⟩⟩
        · show updArgs (τ.set j x') ps r ks' = τ.set j x'
          exact updArgs_no _ _ _ h'
        · intro i' z p e o
          cases i' with
          | zero => rfl
          | succ i' => exact absurd o (h'.not i' z p (by simpa using e))
    | no =>
      have h' : OneOw r := h
      have eu : updArgs τ (p :: ps) (.no :: r) (x' :: ks') = updArgs τ ps r ks' := by cases p <;> rfl
      rw [eu]
      rcases updArgs_one τ ks' h' k' l' with ⟨a, b⟩ | ⟨i, j, x, x2, ⟨e1, e2, e3, e4, e5, e6, e7⟩ | ⟨i2, q, x3, e1, e2, e3⟩⟩
      · exact .inl ⟨a, b⟩
      · refine .inr ⟨i + 1, j, x, x2, .inl ⟨by simpa using e1, by simpa using e2, e3, by simpa using e4, e5, e6, ?_⟩⟩
        intro i' z p e o
        cases i' with
        | zero => cases e; exact o.elim
        | succ i' => rw [e7 i' z p (by simpa using e) o]
      · exact .inr ⟨0, 0, .no, .no, .inr ⟨i2 + 1, q, x3, by simpa using e1, by simpa using e2, e3⟩⟩
    | im =>
      have h' : OneOw r := h
      rename_i α A d
      have eu : updArgs τ (p :: ps) (.im A d :: r) (x' :: ks') = updArgs τ ps r ks' := by cases p <;> rfl
      rw [eu]
      rcases updArgs_one τ ks' h' k' l' with ⟨a, b⟩ | ⟨i, j, x, x2, ⟨e1, e2, e3, e4, e5, e6, e7⟩ | ⟨i2, q, x3, e1, e2, e3⟩⟩
      · exact .inl ⟨a, b⟩
      · refine .inr ⟨i + 1, j, x, x2, .inl ⟨by simpa using e1, by simpa using e2, e3, by simpa using e4, e5, e6, ?_⟩⟩
        intro i' z p e o
        cases i' with
        | zero => cases e; exact o.elim
        | succ i' => rw [e7 i' z p (by simpa using e) o]
      · exact .inr ⟨0, 0, .no, .no, .inr ⟨i2 + 1, q, x3, by simpa using e1, by simpa using e2, e3⟩⟩
theorem PlAll.get {σ : L2.St} {R H : Hp} : ∀ {vs : List V} {ps : List Pl}, PlAll σ R H vs ps → ∀ (i : Nat) p, ps[i]? = some p → ∃ v, vs[i]? = some v ∧ p.at σ R H v
  | [], [], _, i, p, e => by simp at e
  | v :: vs, q :: ps, h, i, p, e => by
    cases i with
    | zero => cases e; exact ⟨v, rfl, h.1⟩
    | succ i =>
      obtain ⟨w, e1, e2⟩ := PlAll.get h.2 i p (by simpa using e)
      exact ⟨w, by simpa using e1, e2⟩
theorem PlAll.len {σ : L2.St} {R H : Hp} : ∀ {vs : List V} {ps : List Pl}, PlAll σ R H vs ps → vs.length = ps.length
  | [], [], _ => rfl
  | v :: vs, q :: ps, h => by simp [PlAll.len h.2]
theorem KsOf.get {τ : Tau} : ∀ {ps : List Pl} {ks : List Kd}, KsOf τ ps ks → ∀ (i : Nat) x, ks[i]? = some x → ∃ p, ps[i]? = some p ∧ p.kd τ = some x
  | [], [], _, i, x, e => by simp at e
  | p :: ps, y :: ks, h, i, x, e => by
    cases i with
    | zero => cases e; exact ⟨p, rfl, h.1⟩
    | succ i =>
      obtain ⟨w, e1, e2⟩ := KsOf.get h.2 i x (by simpa using e)
      exact ⟨w, by simpa using e1, e2⟩
theorem KsOf.len {τ : Tau} : ∀ {ps : List Pl} {ks : List Kd}, KsOf τ ps ks → ps.length = ks.length
  | [], [], _ => rfl
  | p :: ps, y :: ks, h => by simp [KsOf.len h.2]
open Classical in
/-- what must stay through a call: all but the owned arguments -/
noncomputable def keepOf (H : Hp) (ks : List Kd) : Hp := fun a => if ∃ (i : Nat) (x : Kd), ks[i]? = some x ∧ owns x a then none else H a
theorem keepOf_none {H : Hp} {ks : List Kd} {a : Addr} (h : ∃ (i : Nat) (x : Kd), ks[i]? = some x ∧ owns x a) : keepOf H ks a = none := if_pos h
theorem keepOf_some {H : Hp} {ks : List Kd} {a : Addr} (h : ¬ ∃ (i : Nat) (x : Kd), ks[i]? = some x ∧ owns x a) : keepOf H ks a = H a := if_neg h
section
variable {F R0 R H : Hp} {σ : L2.St} {τ : Tau} {vs : List V} {ps : List Pl} {ks : List Kd}
/-- the callee's own standing -/
theorem Ok.enter (ok : Ok F R0 R H σ τ) (hp : PlAll σ R H vs ps) (hk : KsOf τ ps ks) (h1 : OneOw ks) : Ok (keepOf H ks) R R H (vs.map some) ks where
  len := by rw [List.length_map, hp.len, hk.len]
  fr := fun a o e => by
    by_cases h : ∃ (i : Nat) (x : Kd), ks[i]? = some x ∧ owns x a
    · rw [keepOf_none h] at e; cases e
    · rw [keepOf_some h] at e; exact e
  le := ok.le
  r0 := Le.refl R
  nw := fun a h _ => h
  sl := fun i x e => by
    obtain ⟨p, ep, kp⟩ := hk.get i x e
    obtain ⟨v, ev, av⟩ := hp.get i p ep
    refine .inr ⟨v, ?_, Pl.rel ok av kp⟩
    rw [List.getElem?_map, ev]
    rfl
  ff := fun i x p e o => keepOf_none ⟨i, x, e, o⟩
  inj := h1.inj
  nt := ok.nt
/-- behind the call -/
theorem Ok.leave (ok : Ok F R0 R H σ τ) (hp : PlAll σ R H vs ps) (hk : KsOf τ ps ks) (h1 : OneOw ks) {R' H' : Hp} {ks' : List Kd} (l : Le R R') (ok' : Ok (keepOf H ks) R R' H' (vs.map some) ks') :
    Ok F R0 R' H' σ (updArgs τ ps ks ks') ∧ ∀ v x, VOk (keepOf H ks) R' H' ks' v x → VOk F R' H' (updArgs τ ps ks ks') v x := by
  have hlen : ks'.length = ks.length := by rw [← ok'.len, List.length_map, hp.len, hk.len]
  -- who is owned among the arguments is owned by a slot
  have own_slot : ∀ (i : Nat) x p, ks[i]? = some x → owns x p → ∃ j, ps[i]? = some (.slot j) ∧ τ[j]? = some x := fun i x p e o => by
    obtain ⟨q, eq, kq⟩ := hk.get i x e
    obtain ⟨v, ev, av⟩ := hp.get i q eq
    cases q with
    | slot j => exact ⟨j, eq, kq⟩
    | val y =>
      cases kq
      exact absurd o (av.2 p)
  have Fnone : ∀ a, (∃ (i : Nat) (x : Kd), ks[i]? = some x ∧ owns x a) → F a = none := fun a ⟨i, x, e, o⟩ => by
    obtain ⟨j, _, ej⟩ := own_slot i x a e o
    exact ok.ff j x a ej o
  have frame : ∀ a o, H a = some o → (¬ ∃ (i : Nat) (x : Kd), ks[i]? = some x ∧ owns x a) → H' a = some o := fun a o e h => ok'.fr a o (by rw [keepOf_some h]; exact e)
  have base : Le F H' := fun a o e => frame a o (ok.fr a o e) fun h => by rw [Fnone a h] at e; cases e
  have nw' : ∀ a, R a = none → H a ≠ none → (¬ ∃ (i : Nat) (x : Kd), ks[i]? = some x ∧ owns x a) → R' a = none := fun a h2 h3 h => ok'.nw a h2 (by rw [keepOf_some h]; exact h3)
  have nw0 : ∀ a, R0 a = none → F a ≠ none → R' a = none := fun a h2 h3 => by
    have hn : ¬ ∃ (i : Nat) (x : Kd), ks[i]? = some x ∧ owns x a := fun z => h3 (Fnone a z)
    refine nw' a (ok.nw a h2 h3) ?_ hn
    cases q : F a with
    | none => exact absurd q h3
    | some o => rw [ok.fr a o q]; simp
  -- the slots that were not handed over
  have slots : ∀ (j : Nat) x, τ[j]? = some x → (∀ p, owns x p → ¬ ∃ (i : Nat) (y : Kd), ks[i]? = some y ∧ owns y p) → SlotOk R' H' (σ[j]?.join) x := fun j x e h => by
    rcases ok.sl j x e with z | ⟨v, hv, r⟩
    · exact .inl z
    · refine .inr ⟨v, hv, ?_⟩
      cases x with
      | no => trivial
      | im A a => exact A.up l r
      | ow q C c =>
        obtain ⟨e1, e2, o, e3, e4⟩ := r
        have hn := h q rfl
        exact ⟨e1, nw' q e2 (by rw [e3]; simp) hn, o, frame q o e3 hn, C.up l e4⟩
  have vown : ∀ (v : V) x, VOk (keepOf H ks) R' H' ks' v x → ∀ p, owns x p → F p = none ∧ ∀ (j : Nat) y, τ[j]? = some y → owns y p → ∃ (i : Nat) (z : Kd), ks[i]? = some z ∧ owns z p := fun v x w p o => by
    obtain ⟨hF, _⟩ := w.own p o
    by_cases h : ∃ (i : Nat) (x : Kd), ks[i]? = some x ∧ owns x p
    · exact ⟨Fnone p h, fun _ _ _ _ => h⟩
    · rw [keepOf_some h] at hF
      refine ⟨?_, fun j y ej oy => ?_⟩
      · cases q : F p with
        | none => rfl
        | some u => rw [ok.fr p u q] at hF; cases hF
      · rcases ok.sl j y ej with z | ⟨v, _, r⟩
        · subst z; exact oy.elim
        · cases y with
          | no => exact oy.elim
          | im => exact oy.elim
          | ow q C c =>
            obtain ⟨_, _, u, e3, _⟩ := r
            have : q = p := oy
            rw [this, hF] at e3; cases e3
  rcases updArgs_one τ ks' h1 hk hlen with ⟨no, e⟩ | ⟨i, j, x, x', ⟨e1, e2, e3, e4, ⟨p0, o0⟩, e6, e7⟩ | ⟨i2, q, y, e1, e2, p0, o0⟩⟩
  · rw [e]
    have none' : ∀ p, ¬ ∃ (i : Nat) (y : Kd), ks[i]? = some y ∧ owns y p := fun p ⟨i, y, ei, oy⟩ => no.not i y p ei oy
    exact ⟨⟨ok.len, base, ok'.le, ok.r0.trans l, nw0, fun j x ej => slots j x ej fun p _ => none' p, ok.ff, ok.inj, ok'.nt⟩,
      fun v x w => ⟨w.rel, fun p o => ⟨(vown v x w p o).1, fun j y ej oy => none' p ((vown v x w p o).2 j y ej oy)⟩⟩⟩
  · rw [e6]
    have hj : j < τ.length := (List.getElem?_eq_some_iff.mp e3).1
    obtain ⟨v, ev, av⟩ := hp.get i _ e2
    have av : σ[j]? = some (some v) := av
    have sl' := ok'.sl i x' e4
    have sv : ((vs.map some)[i]?).join = some v := by rw [List.getElem?_map, ev]; rfl
    -- the argument's own cell
    have px : ∀ p, owns x p → p = p0 := fun p o => by
      cases x with
      | no => exact o.elim
      | im => exact o.elim
      | ow q C c => exact (show q = p from o).symm.trans (show q = p0 from o0)
    have vp : v = .ref p0 := by
      rcases ok.sl j x e3 with z | ⟨u, hu, r⟩
      · subst z; exact o0.elim
      · cases x with
        | no => exact o0.elim
        | im => exact o0.elim
        | ow q C c =>
          obtain ⟨r1, _⟩ := r
          rw [av] at hu
          cases hu
          rw [r1, show q = p0 from o0]
    have px' : ∀ p, owns x' p → p = p0 := fun p o => by
      rcases sl' with z | ⟨u, hu, r⟩
      · subst z; exact o.elim
      · rw [sv] at hu
        cases hu
        cases x' with
        | no => exact o.elim
        | im => exact o.elim
        | ow q C c =>
          obtain ⟨r1, _⟩ := r
          rw [vp] at r1
          cases r1
          exact (show p0 = p from o).symm
    have only : ∀ p, (∃ (i : Nat) (y : Kd), ks[i]? = some y ∧ owns y p) → p = p0 := fun p ⟨i', y, ei, oy⟩ => by
      have := e7 i' y p ei oy
      subst this
      rw [e1] at ei
      cases ei
      exact px p oy
    refine ⟨⟨by rw [List.length_set]; exact ok.len, base, ok'.le, ok.r0.trans l, nw0, fun a y ea => ?_, fun a y p ea o => ?_, fun a b y z p ea eb oa ob => ?_, ok'.nt⟩, fun u y w => ⟨w.rel, fun p o => ⟨(vown u y w p o).1, fun a z ea oz => ?_⟩⟩⟩
    · by_cases h : j = a
      · subst h
        rw [List.getElem?_set_self hj] at ea
        cases ea
        rcases sl' with z | ⟨u, hu, r⟩
        · exact .inl z
        · rw [sv] at hu
          cases hu
          exact .inr ⟨v, by rw [av]; rfl, r⟩
      · rw [List.getElem?_set_ne h] at ea
        refine slots a y ea fun p o hn => ?_
        have hp0 := only p hn
        subst hp0
        exact h (ok.inj j a x y p e3 ea o0 o)
    · by_cases h : j = a
      · subst h
        rw [List.getElem?_set_self hj] at ea
        cases ea
        rw [px' p o]
        exact ok.ff j x p0 e3 o0
      · rw [List.getElem?_set_ne h] at ea
        exact ok.ff a y p ea o
    · by_cases ha : j = a
      · by_cases hb : j = b
        · exact ha.symm.trans hb
        · subst ha
          rw [List.getElem?_set_self hj] at ea
          cases ea
          rw [List.getElem?_set_ne hb] at eb
          rw [px' p oa] at ob
          exact ok.inj j b x z p0 e3 eb o0 ob
      · rw [List.getElem?_set_ne ha] at ea
        by_cases hb : j = b
        · subst hb
          rw [List.getElem?_set_self hj] at eb
          cases eb
          rw [px' p ob] at oa
          exact (ok.inj j a x y p0 e3 ea o0 oa).symm
        · rw [List.getElem?_set_ne hb] at eb
          exact ok.inj a b y z p ea eb oa ob
    · by_cases h : j = a
      · subst h
        rw [List.getElem?_set_self hj] at ea
        cases ea
        exact (w.own p o).2 i x' e4 oz
      · rw [List.getElem?_set_ne h] at ea
        have hn := (vown u y w p o).2 a z ea oz
        have hp0 := only p hn
        subst hp0
        exact h (ok.inj j a x z p e3 ea o0 oz)
  · obtain ⟨j, ej, _⟩ := own_slot i2 q p0 e1 o0
    rw [e2] at ej
    cases ej
end
section
variable {G : Gm} {X : Cx} {N : List Str} {sc : Scope} {n : Nat} {τ τ1 : Tau} {k : KK} {e a b : Expr} {es : List Expr} {pos p : Pos}
theorem A_nil {k : Ks} (h : k [] τ) : A X [] τ k := A.of pa_nil fun σ H F R0 R Q ok q => q [] τ [] R H h (Le.refl R) ok trivial
theorem A_cons {k : Ks} (hs : noStar [e] = true) (h : T.P X e τ fun p τ1 => A X es τ1 fun ps τ2 => k (p :: ps) τ2) : A X (e :: es) τ k :=
  A.of (pa_cons pe_sem pa_sem (by cases e <;> first | rfl | (simp [noStar] at hs))) fun σ H F R0 R Q ok q => h σ H F R0 R _ ok fun p τ1 v R1 H1 h1 l1 ok1 a1 =>
    h1 σ H1 F R0 R1 _ ok1 fun ps τ2 vs R2 H2 h2 l2 ok2 a2 => q (p :: ps) τ2 (v :: vs) R2 H2 h2 (l1.trans l2) ok2 ⟨Pl.up l2 a1, a2⟩
/-- f(e, ..) -/
theorem E_call {x : Str} {m : Nat} {C : Ct} (hX : XF G X N sc n) (f : Fn G x m C) (hm : m ≤ n) (hg : sc.names.lookup x = some .globalImplicit) (hs : noStar (e :: es) = true)
    (h : A X (e :: es) τ fun ps τ1 => ∃ ks, KsOf τ1 ps ks ∧ OneOw ks ∧ C ks fun r ks' => k r (updArgs τ1 ps ks ks')) (hdb : (x == ("__debug__" : Str)) = false := by decide) (hpl : (backTo pos (starEach es X.env)).any (·.1) = false := by rfl) :
    E X (.Call (.Name x p) (e :: es) [] pos) τ k := by
  obtain ⟨f, fd, pr, h1, h2, h3, h4, _⟩ := f.ex
  have h4' : FnOk X.prog X.w X.K X.mg X.base CX0 m f fd pr (spOf C) := by rw [hX.ep, hX.ew, hX.eK, hX.emg, hX.eb]; exact h4
  refine E.of (pe_call (E := E0) h4' (hX.room.mono hm) (hX.gl hg) (hX.mgN h1) (by rw [hX.eK]; exact h2) (by rw [hX.eK]; exact h3) .nil pass0 pa_sem hdb (star_of hs _ _ (List.suffix_refl _)) hpl) ?_
  intro σ H F R0 R Q ok q
  refine h σ H F R0 R _ ok fun ps τ1 vs R1 H1 ⟨ks, hk, h1, hc⟩ l1 ok1 a1 => ?_
  rw [List.append_nil]
  refine ⟨keepOf H1 ks, R1, R1, ks, _, ok1.enter a1 hk h1, hc, fun r ks' v R2 H2 hr l2 ok2 w2 => ?_⟩
  obtain ⟨ok3, w3⟩ := ok1.leave a1 hk h1 l2 ok2
  exact q r _ v R2 H2 hr (l1.trans l2) ok3 (w3 v r w2)
end
end T
end
section
set_option Elab.async false
set_option linter.all false
set_option autoImplicit false
set_option maxRecDepth 100000
set_option maxHeartbeats 1000000
namespace T
open PySem PySem.Spec PyProof.Rows L2

/-- an environment of that scope -/
def envS (sc : Scope) : PySem.Env := { scope := sc, locals := 0, globals := 0, cells := [] }
theorem sw_env {ts : List Expr} {v : Expr} {env env' : PySem.Env} (h : env.scope = env'.scope) : swappedStores ts v env = swappedStores ts v env' := by
  have hk : env.kindOf = env'.kindOf := by funext x; unfold Env.kindOf; rw [h]
  have hb : env.blockKind = env'.blockKind := by unfold Env.blockKind; rw [h]
  unfold swappedStores
  rw [hk, hb]
theorem sww_env {v : Expr} {t : Option Expr} {l : Nat} {env env' : PySem.Env} (h : env.scope = env'.scope) : swapsWith v t l env = swapsWith v t l env' := by
  have hk : env.kindOf = env'.kindOf := by funext x; unfold Env.kindOf; rw [h]
  have hb : env.blockKind = env'.blockKind := by unfold Env.blockKind; rw [h]
  unfold swapsWith
  rw [hk, hb, h]


/-! ### statements -/
structure Po where
  nx : Tau → Prop
  rt : Kd → Tau → Prop
  bk : Tau → Prop := fun _ => False
  ct : Tau → Prop := fun _ => False
structure EndOk (F R0 R : Hp) (D : L2.Ends) (P : Po) : Prop where
  nx : ∀ τ σ R' H, P.nx τ → Le R R' → Ok F R0 R' H σ τ → D.nx σ H
  rt : ∀ x τ v σ R' H, P.rt x τ → Le R R' → Ok F R0 R' H σ τ → VOk F R' H τ v x → D.rt v H
  bk : ∀ τ σ R' H, P.bk τ → Le R R' → Ok F R0 R' H σ τ → D.bk σ H
  ct : ∀ τ σ R' H, P.ct τ → Le R R' → Ok F R0 R' H σ τ → D.ct σ H
theorem EndOk.up {F R0 R R1 : Hp} {D : L2.Ends} {P : Po} (h : EndOk F R0 R D P) (l : Le R R1) : EndOk F R0 R1 D P :=
  ⟨fun τ σ R' H a b => h.nx τ σ R' H a (l.trans b), fun x τ v σ R' H a b => h.rt x τ v σ R' H a (l.trans b), fun τ σ R' H a b => h.bk τ σ R' H a (l.trans b), fun τ σ R' H a b => h.ct τ σ R' H a (l.trans b)⟩
def WS (ts : TS) (τ : Tau) (P : Po) : Prop := ∀ (σ : L2.St) (H F R0 R : Hp) (D : L2.Ends), Ok F R0 R H σ τ → EndOk F R0 R D P → ts D σ H
def semS (X : Cx) (st : Stmt) : TS := fun D σ H => ∀ pins s, Inv X pins σ H s → wpAny (model X.prog X.w) X.A (exec st X.env) (L2.SP X pins D) X.xe s
def semB (X : Cx) (st : List Stmt) : TS := fun D σ H => ∀ pins s, Inv X pins σ H s → wpAny (model X.prog X.w) X.A (execs st X.env) (L2.SP X pins D) X.xe s
theorem ps_sem {X : Cx} {st : Stmt} : PS X st (semS X st) := ⟨fun pins s σ H D I h => h pins s I⟩
theorem pss_sem {X : Cx} {st : List Stmt} : PSs X st (semB X st) := ⟨fun pins s σ H D I h => h pins s I⟩
def S1 (X : Cx) (st : Stmt) (τ : Tau) (P : Po) : Prop := WS (semS X st) τ P
def S (X : Cx) (st : List Stmt) (τ : Tau) (P : Po) : Prop := WS (semB X st) τ P
theorem S1.of {X : Cx} {st : Stmt} {t : TS} {τ : Tau} {P : Po} (h : PS X st t) (w : WS t τ P) : S1 X st τ P := fun σ H F R0 R D ok q pins s I => h.run pins s σ H D I (w σ H F R0 R D ok q)
theorem S.of {X : Cx} {st : List Stmt} {t : TS} {τ : Tau} {P : Po} (h : PSs X st t) (w : WS t τ P) : S X st τ P := fun σ H F R0 R D ok q pins s I => h.run pins s σ H D I (w σ H F R0 R D ok q)

/-! ### targets -/
def WG (g : TG) (y : Kd) (τ : Tau) (k : Tau → Prop) : Prop := ∀ (σ : L2.St) (H F R0 R : Hp) (v : V) (Q : L2.St → Hp → Prop), Ok F R0 R H σ τ → VOk F R H τ v y →
  (∀ τ' σ' R' H', k τ' → Le R R' → Ok F R0 R' H' σ' τ' → Q σ' H') → g v σ H Q
def semG (X : Cx) (tg : Expr) : TG := fun v σ H Q => ∀ pins s u, Inv X pins σ H s → RelV v u → wpAny (model X.prog X.w) X.A (assign tg X.env u) (fun _ s' => ∃ σ' H', Inv X pins σ' H' s' ∧ Q σ' H') X.xe s
theorem pg_sem {X : Cx} {tg : Expr} : PG X tg (semG X tg) := ⟨fun pins s σ H v u Q I r h => h pins s u I r⟩
def Tg (X : Cx) (tg : Expr) (y : Kd) (τ : Tau) (k : Tau → Prop) : Prop := WG (semG X tg) y τ k
theorem Tg.of {X : Cx} {tg : Expr} {g : TG} {y : Kd} {τ : Tau} {k : Tau → Prop} (h : PG X tg g) (w : WG g y τ k) : Tg X tg y τ k := fun σ H F R0 R v Q ok wv q pins s u I r => h.run pins s σ H v u Q I r (w σ H F R0 R v Q ok wv q)
def Tgs (X : Cx) : List Expr → List Kd → Tau → (Tau → Prop) → Prop
  | [], [], τ, k => k τ
  | e :: es, y :: ys, τ, k => Tg X e y τ fun τ1 => Tgs X es ys τ1 k
  | _, _, _, _ => False
def tgAll (X : Cx) : List Expr → TGs
  | [] => gNil
  | e :: es => gCons (semG X e) (tgAll X es)
theorem Tgs.run {X : Cx} : ∀ {es : List Expr} {ys : List Kd} {τ : Tau} {k : Tau → Prop}, Tgs X es ys τ k → ∀ (σ : L2.St) (H F R0 R : Hp) (vs : List V) (Q : L2.St → Hp → Prop), Ok F R0 R H σ τ → VsOk R H vs ys →
    (∀ τ' σ' R' H', k τ' → Le R R' → Ok F R0 R' H' σ' τ' → Q σ' H') → tgAll X es vs σ H Q
  | [], [], τ, k, h, σ, H, F, R0, R, vs, Q, ok, hv, q => by
    cases hv
    exact ⟨rfl, q τ σ R H h (Le.refl R) ok⟩
  | e :: es, y :: ys, τ, k, h, σ, H, F, R0, R, vs, Q, ok, hv, q => by
    cases hv with
    | @cons v _ vs _ hr ht =>
      have wv : VOk F R H τ v y := ⟨hr.2, fun p o => by
        have hi := hr.1
        cases y with
        | no => exact hi.elim
        | im => exact o.elim
        | ow => exact hi.elim⟩
      exact ⟨v, vs, rfl, h σ H F R0 R v _ ok wv fun τ1 σ1 R1 H1 h1 l1 ok1 =>
        Tgs.run h1 σ1 H1 F R0 R1 vs Q ok1 (ht.up l1) fun τ2 σ2 R2 H2 h2 l2 ok2 => q τ2 σ2 R2 H2 h2 (l1.trans l2) ok2⟩
  | [], _ :: _, _, _, h, _, _, _, _, _, _, _, _, _, _ => h.elim
  | _ :: _, [], _, _, h, _, _, _, _, _, _, _, _, _, _ => h.elim
theorem Ok.set' {F R0 R H : Hp} {σ : L2.St} {τ : Tau} {v : V} {x : Kd} (ok : Ok F R0 R H σ τ) (i : Nat) (w : VOk F R H τ v x) : Ok F R0 R H (σ.set i (some v)) (τ.set i x) := by
  by_cases hi : i < τ.length
  · exact ok.set hi w
  · have h1 := ok.len
    rw [List.set_eq_of_length_le (l := σ) (by omega), List.set_eq_of_length_le (l := τ) (by omega)]
    exact ok
def plainTg : List Expr → Bool
  | [] => true
  | .Starred .. :: _ => false
  | _ :: r => plainTg r
section
variable {G : Gm} {X : Cx} {N : List Str} {sc : Scope} {n : Nat} {τ τ1 : Tau} {P : Po} {k : Tau → Prop} {y : Kd} {e a b c tg : Expr} {es : List Expr} {pos p : Pos} {st : Stmt} {sts body els : List Stmt}
theorem T_name {i : Nat} {x : Str} (hX : XF G X N sc n) (hN : N[i]? = some x) (hl : sc.names.lookup x = some .local) (h : k (τ.set i y)) : Tg X (.Name x pos) y τ k :=
  Tg.of (pg_name (i := i) (by rw [hX.eN]; exact hX.nd) (by rw [hX.eN]; exact hN) (hX.loc (.inl hl)) (.inr (by rw [hX.es]; exact hl))) fun σ H F R0 R v Q ok w q => q _ _ R H h (Le.refl R) (ok.set' i w)
/-- a name that a lambda or a comprehension captures, in a def's own body -/
theorem T_cell {i : Nat} {x : Str} (hX : XF G X N sc n) (hf : ∀ x, X.fn x = true) (hN : N[i]? = some x) (hl : sc.names.lookup x = some .cell) (h : k (τ.set i y)) : Tg X (.Name x pos) y τ k :=
  Tg.of (pg_name (i := i) (by rw [hX.eN]; exact hX.nd) (by rw [hX.eN]; exact hN) (hX.loc (.inr hl)) (.inl (hf x))) fun σ H F R0 R v Q ok w q => q _ _ R H h (Le.refl R) (ok.set' i w)
/-- what a tuple's items are -/
def UnT (K : PySem.W.Frag) (y : Kd) (ys : List Kd) : Prop := ∀ R H v, LeR R H → y.rel R H v → ∃ p vs, v = .ref p ∧ SqT K H p vs ∧ VsOk R H vs ys
def UnL (K : PySem.W.Frag) (y : Kd) (ys : List Kd) : Prop := ∀ R H v, LeR R H → y.rel R H v → ∃ p vs, v = .ref p ∧ SqL K H p vs ∧ VsOk R H vs ys
theorem un_pair {K : PySem.W.Frag} {α β : Type} {A : DR α} {B : DR β} {q : α × β} : UnT K (.im (rPair K A B) q) [.im A q.1, .im B q.2] := fun R H v l ⟨p, x, y, e, h, h1, h2⟩ => ⟨p, _, e, l.sqT h, .cons ⟨trivial, h1⟩ (.cons ⟨trivial, h2⟩ .nil)⟩
theorem un_tri {K : PySem.W.Frag} {α β γ : Type} {A : DR α} {B : DR β} {C : DR γ} {q : α × β × γ} : UnT K (.im (rTri K A B C) q) [.im A q.1, .im B q.2.1, .im C q.2.2] := fun R H v l ⟨p, x, y, z, e, h, h1, h2, h3⟩ => ⟨p, _, e, l.sqT h, .cons ⟨trivial, h1⟩ (.cons ⟨trivial, h2⟩ (.cons ⟨trivial, h3⟩ .nil))⟩
theorem un_Q {K : PySem.W.Frag} {q : Rat} : UnT K (.im (rQ K) q) [.im rI q.num, .im rI (q.den : Int)] := fun R H v l ⟨p, e, h⟩ => ⟨p, _, e, l.sqT h, .cons ⟨trivial, rfl⟩ (.cons ⟨trivial, rfl⟩ .nil)⟩
theorem T_tup {m : Nat} {ys : List Kd} (hX : XF G X N sc n) (hst : plainTg es = true) (hu : UnT G.K y ys) (h : Tgs X es ys τ k) (hlen : ys.length = es.length := by rfl) : Tg X (.Tuple es m pos) y τ k := by
  have hplain : ∀ {es : List Expr}, plainTg es = true → ∀ env, (assignEach es env).length = es.length ∧ (assignEach es env).findIdx? (·.1) = none := by
    intro es
    induction es with
    | nil => intro _ env; exact ⟨rfl, rfl⟩
    | cons e es ih =>
      intro h env
      have h' : plainTg es = true := by cases e <;> first | exact h | (simp [plainTg] at h)
      obtain ⟨h1, h2⟩ := ih h' env
      have e1 : assignEach (e :: es) env = (false, assign e env) :: assignEach es env := by cases e <;> first | rfl | (simp [plainTg] at h)
      rw [e1]
      exact ⟨by simp [h1], by rw [List.findIdx?_cons]; simp [h2]⟩
  have hpgs : ∀ {es : List Expr}, plainTg es = true → PGs X es (tgAll X es) := by
    intro es
    induction es with
    | nil => intro _; exact pgs_nil
    | cons e es ih =>
      intro h
      have h' : plainTg es = true := by cases e <;> first | exact h | (simp [plainTg] at h)
      exact pgs_cons pg_sem (ih h') (by cases e <;> first | rfl | (simp [plainTg] at h))
  obtain ⟨h1, h2⟩ := hplain hst X.env
  refine Tg.of (pg_tup hX.calm (hpgs hst) h1 h2) fun σ H F R0 R v Q ok w q => ?_
  obtain ⟨p, vs, e, hq, hv⟩ := hu R H v ok.le w.rel
  have hl : vs.length = es.length := (vs_len hv).trans hlen
  exact ⟨p, vs, e, by rw [hX.eK]; exact hq, hl, Tgs.run h σ H F R0 R vs Q ok hv q⟩

/-! ### blocks -/
theorem S_nil (h : P.nx τ) : S X [] τ P := S.of pss_nil fun σ H F R0 R D ok q => q.nx τ σ R H h (Le.refl R) ok
theorem S_cons (h : S1 X st τ { P with nx := fun τ1 => S X sts τ1 P }) : S X (st :: sts) τ P :=
  S.of (pss_cons ps_sem pss_sem) fun σ H F R0 R D ok q => h σ H F R0 R _ ok ⟨fun τ1 σ1 R1 H1 h1 l1 ok1 => h1 σ1 H1 F R0 R1 D ok1 (q.up l1), q.rt, q.bk, q.ct⟩
theorem S_one (h : S1 X st τ P) : S X [st] τ P :=
  S.of (pss_one ps_sem) fun σ H F R0 R D ok q => h σ H F R0 R D ok q
theorem S_mono {P' : Po} (h : S X sts τ P) (h1 : ∀ τ, P.nx τ → P'.nx τ) (h2 : ∀ x τ, P.rt x τ → P'.rt x τ) (h3 : ∀ τ, P.bk τ → P'.bk τ) (h4 : ∀ τ, P.ct τ → P'.ct τ) : S X sts τ P' :=
  fun σ H F R0 R D ok q => h σ H F R0 R D ok ⟨fun τ σ R' H a b => q.nx τ σ R' H (h1 τ a) b, fun x τ v σ R' H a b => q.rt x τ v σ R' H (h2 x τ a) b, fun τ σ R' H a b => q.bk τ σ R' H (h3 τ a) b, fun τ σ R' H a b => q.ct τ σ R' H (h4 τ a) b⟩
theorem S1_pass (h : P.nx τ) : S1 X (.Pass pos) τ P := S1.of ps_pass fun σ H F R0 R D ok q => q.nx τ σ R H h (Le.refl R) ok
theorem S1_break (h : P.bk τ) : S1 X (.Break pos) τ P := S1.of ps_break fun σ H F R0 R D ok q => q.bk τ σ R H h (Le.refl R) ok
theorem S1_cont (h : P.ct τ) : S1 X (.Continue pos) τ P := S1.of ps_continue fun σ H F R0 R D ok q => q.ct τ σ R H h (Le.refl R) ok
theorem S1_ret (h : E X e τ P.rt) : S1 X (.Return (some e) pos) τ P :=
  S1.of (ps_ret pe_sem) fun σ H F R0 R D ok q => h σ H F R0 R _ ok fun x τ1 v R1 H1 h1 l1 ok1 w1 => q.rt x τ1 v σ R1 H1 h1 l1 ok1 w1
theorem S1_expr (h : E X e τ fun _ τ1 => P.nx τ1) (hs : swapsWith e none pos.line X.env = pure false := by rfl) : S1 X (.Expr e pos) τ P :=
  S1.of (ps_expr pe_sem hs) fun σ H F R0 R D ok q => h σ H F R0 R _ ok fun x τ1 v R1 H1 h1 l1 ok1 w1 => q.nx τ1 σ R1 H1 h1 l1 ok1
theorem S1_asg (h : E X e τ fun x τ1 => Tg X tg x τ1 P.nx) (hs : swapsWithSole [tg] e pos.line X.env = pure false := by rfl) (hw : swappedStores [tg] e X.env = pure none := by rfl)
    (h1 : (assignEach [tg] X.env).map (·.2) = [assign tg X.env] := by rfl) : S1 X (.Assign [tg] e pos) τ P :=
  S1.of (ps_asg pe_sem pg_sem hs hw h1) fun σ H F R0 R D ok q => h σ H F R0 R _ ok fun x τ1 v R1 H1 h1 l1 ok1 w1 =>
    h1 σ H1 F R0 R1 v _ ok1 w1 fun τ2 σ2 R2 H2 h2 l2 ok2 => q.nx τ2 σ2 R2 H2 h2 (l1.trans l2) ok2
/-- name = e -/
theorem S1_set {i : Nat} {x : Str} {pos' : Pos} (hX : XF G X N sc n) (hN : N[i]? = some x) (hl : sc.names.lookup x = some .local) (h : E X e τ fun y τ1 => P.nx (τ1.set i y)) (hs : swapsWith e (some (.Name x pos')) pos.line (envS sc) = pure false := by rfl) :
    S1 X (.Assign [.Name x pos'] e pos) τ P :=
  S1.of (ps_set (i := i) (by rw [hX.eN]; exact hX.nd) (by rw [hX.eN]; exact hN) (hX.loc (.inl hl)) pe_sem ((sww_env (by rw [hX.es]; rfl)).trans hs) (.inr (by rw [hX.es]; exact hl))) fun σ H F R0 R D ok q => h σ H F R0 R _ ok fun x τ1 v R1 H1 h1 l1 ok1 w1 =>
    q.nx _ _ R1 H1 h1 l1 (ok1.set' i w1)
/-- the same, the name captured -/
theorem S1_setC {i : Nat} {x : Str} {pos' : Pos} (hX : XF G X N sc n) (hf : ∀ x, X.fn x = true) (hN : N[i]? = some x) (hl : sc.names.lookup x = some .cell) (h : E X e τ fun y τ1 => P.nx (τ1.set i y)) (hs : swapsWith e (some (.Name x pos')) pos.line (envS sc) = pure false := by rfl) :
    S1 X (.Assign [.Name x pos'] e pos) τ P :=
  S1.of (ps_set (i := i) (by rw [hX.eN]; exact hX.nd) (by rw [hX.eN]; exact hN) (hX.loc (.inr hl)) pe_sem ((sww_env (by rw [hX.es]; rfl)).trans hs) (.inl (hf x))) fun σ H F R0 R D ok q => h σ H F R0 R _ ok fun x τ1 v R1 H1 h1 l1 ok1 w1 =>
    q.nx _ _ R1 H1 h1 l1 (ok1.set' i w1)
/-! ### tests -/
theorem fz_rel {x : Kd} {α : Type} {A : DR α} {a : α} {F R0 R H : Hp} {σ : L2.St} {v : V} (ok : Ok F R0 R H σ τ) (w : VOk F R H τ v x) (f : Fz x (.im A a)) : ∃ R', Le R R' ∧ Ok F R0 R' H σ τ ∧ A.rel R' v a := by
  obtain ⟨R', l, ok', r, _⟩ := VOk.freeze ok w f
  exact ⟨R', l, ok', r⟩
/-- a test by a value that is True or False -/
theorem C_val {kt : Bool → Tau → Prop} (h : E X e τ fun x τ1 => ∃ b, Fz x (.im rB b) ∧ kt b τ1) (he : ∀ whole, isTrue e X.env whole = (do let v ← whole; standAt e.pos; holding [v] (truthy v)) := by intro _; rfl) : C X e τ kt :=
  C.of (pt_val pe_sem he) fun σ H F R0 R Q ok q => h σ H F R0 R _ ok fun x τ1 v R1 H1 ⟨b, fz, hk⟩ l1 ok1 w1 => by
    obtain ⟨R2, l2, ok2, r⟩ := fz_rel ok1 w1 fz
    exact ⟨b, r, q b τ1 R2 H1 hk (l1.trans l2) ok2⟩
/-- a comparison as a test -/
theorem C_cmp {op : CmpOp} {r : R2} {kt : Bool → Tau → Prop} (ho : OpR X (compareOp op) r) (hm : behindInMarks op b = false) (h : W (tOp r (sem X a) (sem X b)) τ fun x τ1 => ∃ c, Fz x (.im rB c) ∧ kt c τ1) : C X (.Compare a [op] [b] pos) τ kt :=
  C.of (pt_cmpR ho pe_sem pe_sem hm) fun σ H F R0 R Q ok q => h σ H F R0 R _ ok fun x τ1 v R1 H1 ⟨b, fz, hk⟩ l1 ok1 w1 => by
    obtain ⟨R2, l2, ok2, r⟩ := fz_rel ok1 w1 fz
    exact ⟨b, r, q b τ1 R2 H1 hk (l1.trans l2) ok2⟩
theorem C_lt {kt : Bool → Tau → Prop} (h : E X a τ fun x τ1 => ∃ i, Fz x (.im rI i) ∧ E X b τ1 fun y τ2 => ∃ j, Fz y (.im rI j) ∧ kt (decide (i < j)) τ2) : C X (.Compare a [.Lt] [b] pos) τ kt :=
  C_cmp op_lt (nomark _) (w_opI0 (D := rB) (f := fun i j => decide (i < j)) (fun _ _ _ => rfl) (h.mono fun x τ1 ⟨i, fz, hb⟩ => ⟨i, fz, hb.mono fun y τ2 ⟨j, fz', hk⟩ => ⟨j, fz', _, .im _ _, hk⟩⟩))
theorem C_le {kt : Bool → Tau → Prop} (h : E X a τ fun x τ1 => ∃ i, Fz x (.im rI i) ∧ E X b τ1 fun y τ2 => ∃ j, Fz y (.im rI j) ∧ kt (decide (i ≤ j)) τ2) : C X (.Compare a [.LtE] [b] pos) τ kt :=
  C_cmp op_le (nomark _) (w_opI0 (D := rB) (f := fun i j => decide (i ≤ j)) (fun _ _ _ => rfl) (h.mono fun x τ1 ⟨i, fz, hb⟩ => ⟨i, fz, hb.mono fun y τ2 ⟨j, fz', hk⟩ => ⟨j, fz', _, .im _ _, hk⟩⟩))
theorem C_gt {kt : Bool → Tau → Prop} (h : E X a τ fun x τ1 => ∃ i, Fz x (.im rI i) ∧ E X b τ1 fun y τ2 => ∃ j, Fz y (.im rI j) ∧ kt (decide (j < i)) τ2) : C X (.Compare a [.Gt] [b] pos) τ kt :=
  C_cmp op_gt (nomark _) (w_opI0 (D := rB) (f := fun i j => decide (j < i)) (fun _ _ _ => rfl) (h.mono fun x τ1 ⟨i, fz, hb⟩ => ⟨i, fz, hb.mono fun y τ2 ⟨j, fz', hk⟩ => ⟨j, fz', _, .im _ _, hk⟩⟩))
theorem C_ge {kt : Bool → Tau → Prop} (h : E X a τ fun x τ1 => ∃ i, Fz x (.im rI i) ∧ E X b τ1 fun y τ2 => ∃ j, Fz y (.im rI j) ∧ kt (decide (j ≤ i)) τ2) : C X (.Compare a [.GtE] [b] pos) τ kt :=
  C_cmp op_ge (nomark _) (w_opI0 (D := rB) (f := fun i j => decide (j ≤ i)) (fun _ _ _ => rfl) (h.mono fun x τ1 ⟨i, fz, hb⟩ => ⟨i, fz, hb.mono fun y τ2 ⟨j, fz', hk⟩ => ⟨j, fz', _, .im _ _, hk⟩⟩))
/-- == and != as tests: what E_eqI, E_eqS, E_eqD give -/
theorem W_eqI {k : KK} (h : E X a τ fun x τ1 => ∃ i, Fz x (.im rI i) ∧ E X b τ1 fun y τ2 => ∃ j, Fz y (.im rI j) ∧ k (.im rB (decide (i = j))) τ2) : W (tOp rEq (sem X a) (sem X b)) τ k :=
  w_op (A := rI) (B := rI) (k1 := k) (h.mono fun x τ1 ⟨i, fz, hb⟩ => ⟨i, fz, hb.mono fun y τ2 ⟨j, fz', hk⟩ => ⟨j, fz', fun σ H F R0 R Q v u ok r1 r2 q => by
    cases r1; cases r2
    refine ⟨rfl, ?_⟩
    have e : decide (V.int i = V.int j) = decide (i = j) := by rw [Bool.eq_iff_iff]; simp
    rw [e]
    exact q _ τ2 _ R H hk (Le.refl R) ok (VOk.im rfl)⟩⟩)
theorem W_neI {k : KK} (h : E X a τ fun x τ1 => ∃ i, Fz x (.im rI i) ∧ E X b τ1 fun y τ2 => ∃ j, Fz y (.im rI j) ∧ k (.im rB (!decide (i = j))) τ2) : W (tOp rNe (sem X a) (sem X b)) τ k :=
  w_op (A := rI) (B := rI) (k1 := k) (h.mono fun x τ1 ⟨i, fz, hb⟩ => ⟨i, fz, hb.mono fun y τ2 ⟨j, fz', hk⟩ => ⟨j, fz', fun σ H F R0 R Q v u ok r1 r2 q => by
    cases r1; cases r2
    refine ⟨rfl, ?_⟩
    have e : decide (V.int i = V.int j) = decide (i = j) := by rw [Bool.eq_iff_iff]; simp
    rw [e]
    exact q _ τ2 _ R H hk (Le.refl R) ok (VOk.im rfl)⟩⟩)
theorem C_eqI {kt : Bool → Tau → Prop} (h : E X a τ fun x τ1 => ∃ i, Fz x (.im rI i) ∧ E X b τ1 fun y τ2 => ∃ j, Fz y (.im rI j) ∧ kt (decide (i = j)) τ2) : C X (.Compare a [.Eq] [b] pos) τ kt :=
  C_cmp op_eq (nomark _) (W_eqI (h.mono fun x τ1 ⟨i, fz, hb⟩ => ⟨i, fz, hb.mono fun y τ2 ⟨j, fz', hk⟩ => ⟨j, fz', _, .im _ _, hk⟩⟩))
theorem C_neI {kt : Bool → Tau → Prop} (h : E X a τ fun x τ1 => ∃ i, Fz x (.im rI i) ∧ E X b τ1 fun y τ2 => ∃ j, Fz y (.im rI j) ∧ kt (!decide (i = j)) τ2) : C X (.Compare a [.NotEq] [b] pos) τ kt :=
  C_cmp op_ne (nomark _) (W_neI (h.mono fun x τ1 ⟨i, fz, hb⟩ => ⟨i, fz, hb.mono fun y τ2 ⟨j, fz', hk⟩ => ⟨j, fz', _, .im _ _, hk⟩⟩))
theorem C_eqD {α β : Type} {A : DR α} {B : DR β} {f : α → PyData} {g : β → PyData} {kt : Bool → Tau → Prop} (hX : XF G X N sc n) (hA : Deep G.K A f) (hB : Deep G.K B g)
    (h : E X a τ fun x τ1 => ∃ i, Fz x (.im A i) ∧ E X b τ1 fun y τ2 => ∃ j, Fz y (.im B j) ∧ SeqAt.shaped (f i) = true ∧ SeqAt.shaped (g j) = true ∧ kt (PyData.eqv (f i) (g j)) τ2) : C X (.Compare a [.Eq] [b] pos) τ kt :=
  C_cmp (op_eqD hX.room.units) (nomark _) (w_op (A := A) (B := B) (k1 := fun _ _ => True) (h.mono fun x τ1 ⟨i, fz, hb⟩ => ⟨i, fz, hb.mono fun y τ2 ⟨j, fz', s1, s2, hk⟩ => ⟨j, fz', fun σ H F R0 R Q v u ok r1 r2 q =>
    ⟨f i, g j, by rw [hX.eK]; exact hA R v i r1 H ok.le, by rw [hX.eK]; exact hB R u j r2 H ok.le, s1, s2, q _ τ2 _ R H ⟨_, .im _ _, hk⟩ (Le.refl R) ok (VOk.im rfl)⟩⟩⟩))
theorem C_neD {α β : Type} {A : DR α} {B : DR β} {f : α → PyData} {g : β → PyData} {kt : Bool → Tau → Prop} (hX : XF G X N sc n) (hA : Deep G.K A f) (hB : Deep G.K B g)
    (h : E X a τ fun x τ1 => ∃ i, Fz x (.im A i) ∧ E X b τ1 fun y τ2 => ∃ j, Fz y (.im B j) ∧ SeqAt.shaped (f i) = true ∧ SeqAt.shaped (g j) = true ∧ kt (!PyData.eqv (f i) (g j)) τ2) : C X (.Compare a [.NotEq] [b] pos) τ kt :=
  C_cmp (op_neD hX.room.units) (nomark _) (w_op (A := A) (B := B) (k1 := fun _ _ => True) (h.mono fun x τ1 ⟨i, fz, hb⟩ => ⟨i, fz, hb.mono fun y τ2 ⟨j, fz', s1, s2, hk⟩ => ⟨j, fz', fun σ H F R0 R Q v u ok r1 r2 q =>
    ⟨f i, g j, by rw [hX.eK]; exact hA R v i r1 H ok.le, by rw [hX.eK]; exact hB R u j r2 H ok.le, s1, s2, q _ τ2 _ R H ⟨_, .im _ _, hk⟩ (Le.refl R) ok (VOk.im rfl)⟩⟩⟩))
/-- a and b, a or b, not a -/
def CW (X : Cx) (e : Expr) (τ : Tau) (k : Bool → Tau → Prop) : Prop := ∃ t, PW X e t ∧ WT t τ k
theorem WT.mono {t : TT} {k k' : Bool → Tau → Prop} (h : WT t τ k) (m : ∀ b τ', k b τ' → k' b τ') : WT t τ k' := fun σ H F R0 R Q ok q => h σ H F R0 R Q ok fun b τ' R' H' z => q b τ' R' H' (m b τ' z)
theorem C_and2 {kt : Bool → Tau → Prop} (h : C X a τ fun c τ1 => (c = true → C X b τ1 kt) ∧ (c = false → kt false τ1)) : C X (.BoolOp .And [a, b] pos) τ kt :=
  C.of (PW.pt (pw_and pt_sem (pw_and1 pt_sem))) fun σ H F R0 R Q ok q => h σ H F R0 R _ ok fun c τ1 R1 H1 ⟨h1, h2⟩ l1 ok1 => by
    cases c with
    | true => exact iteT (h1 rfl σ H1 F R0 R1 _ ok1 fun d τ2 R2 H2 hk l2 ok2 => q d τ2 R2 H2 hk (l1.trans l2) ok2)
    | false => exact iteF (q false τ1 R1 H1 (h2 rfl) l1 ok1)
theorem C_or2 {kt : Bool → Tau → Prop} (h : C X a τ fun c τ1 => (c = true → kt true τ1) ∧ (c = false → C X b τ1 kt)) : C X (.BoolOp .Or [a, b] pos) τ kt :=
  C.of (PW.pt (pw_or pt_sem (pw_or1 pt_sem))) fun σ H F R0 R Q ok q => h σ H F R0 R _ ok fun c τ1 R1 H1 ⟨h1, h2⟩ l1 ok1 => by
    cases c with
    | true => exact iteT (q true τ1 R1 H1 (h1 rfl) l1 ok1)
    | false => exact iteF (h2 rfl σ H1 F R0 R1 _ ok1 fun d τ2 R2 H2 hk l2 ok2 => q d τ2 R2 H2 hk (l1.trans l2) ok2)
theorem C_and3 {kt : Bool → Tau → Prop} (h : C X a τ fun d τ1 => (d = true → C X b τ1 fun d τ2 => (d = true → C X c τ2 kt) ∧ (d = false → kt false τ2)) ∧ (d = false → kt false τ1)) : C X (.BoolOp .And [a, b, c] pos) τ kt :=
  C.of (PW.pt (pw_and pt_sem (pw_and pt_sem (pw_and1 pt_sem)))) fun σ H F R0 R Q ok q => h σ H F R0 R _ ok fun c τ1 R1 H1 ⟨h1, h2⟩ l1 ok1 => by
    cases c with
    | false => exact iteF (q false τ1 R1 H1 (h2 rfl) l1 ok1)
    | true =>
      refine iteT (h1 rfl σ H1 F R0 R1 _ ok1 fun d τ2 R2 H2 ⟨h3, h4⟩ l2 ok2 => ?_)
      cases d with
      | false => exact iteF (q false τ2 R2 H2 (h4 rfl) (l1.trans l2) ok2)
      | true => exact iteT (h3 rfl σ H2 F R0 R2 _ ok2 fun d τ3 R3 H3 hk l3 ok3 => q d τ3 R3 H3 hk ((l1.trans l2).trans l3) ok3)
theorem C_or3 {kt : Bool → Tau → Prop} (h : C X a τ fun d τ1 => (d = true → kt true τ1) ∧ (d = false → C X b τ1 fun d τ2 => (d = true → kt true τ2) ∧ (d = false → C X c τ2 kt))) : C X (.BoolOp .Or [a, b, c] pos) τ kt :=
  C.of (PW.pt (pw_or pt_sem (pw_or pt_sem (pw_or1 pt_sem)))) fun σ H F R0 R Q ok q => h σ H F R0 R _ ok fun c τ1 R1 H1 ⟨h1, h2⟩ l1 ok1 => by
    cases c with
    | true => exact iteT (q true τ1 R1 H1 (h1 rfl) l1 ok1)
    | false =>
      refine iteF (h2 rfl σ H1 F R0 R1 _ ok1 fun d τ2 R2 H2 ⟨h3, h4⟩ l2 ok2 => ?_)
      cases d with
      | true => exact iteT (q true τ2 R2 H2 (h3 rfl) (l1.trans l2) ok2)
      | false => exact iteF (h4 rfl σ H2 F R0 R2 _ ok2 fun d τ3 R3 H3 hk l3 ok3 => q d τ3 R3 H3 hk ((l1.trans l2).trans l3) ok3)
theorem C_not {kt : Bool → Tau → Prop} (h : C X a τ fun c τ1 => kt (!c) τ1) : C X (.UnaryOp .Not a pos) τ kt :=
  C.of (pt_not pt_sem) fun σ H F R0 R Q ok q => h σ H F R0 R _ ok fun c τ1 R1 H1 hk l1 ok1 => q _ τ1 R1 H1 hk l1 ok1
/-- the same as values -/
theorem E_and2 {k : KK} (h : E X a τ fun x τ1 => ∃ c, Fz x (.im rB c) ∧ (c = true → E X b τ1 k) ∧ (c = false → k (.im rB false) τ1)) : E X (.BoolOp .And [a, b] pos) τ k :=
  E.of (pe_and pe_sem (pe_one pe_sem)) fun σ H F R0 R Q ok q => h σ H F R0 R _ ok fun x τ1 v R1 H1 ⟨c, fz, h1, h2⟩ l1 ok1 w1 => by
    obtain ⟨R2, l2, ok2, r⟩ := fz_rel ok1 w1 fz
    refine ⟨c, r, ?_⟩
    cases c with
    | true => exact iteT (h1 rfl σ H1 F R0 R2 _ ok2 fun y τ2 u R3 H3 hk l3 ok3 w3 => q y τ2 u R3 H3 hk ((l1.trans l2).trans l3) ok3 w3)
    | false => exact iteF (q _ τ1 _ R2 H1 (h2 rfl) (l1.trans l2) ok2 (VOk.im rfl))
theorem E_or2 {k : KK} (h : E X a τ fun x τ1 => ∃ c, Fz x (.im rB c) ∧ (c = true → k (.im rB true) τ1) ∧ (c = false → E X b τ1 k)) : E X (.BoolOp .Or [a, b] pos) τ k :=
  E.of (pe_or pe_sem (pe_one pe_sem)) fun σ H F R0 R Q ok q => h σ H F R0 R _ ok fun x τ1 v R1 H1 ⟨c, fz, h1, h2⟩ l1 ok1 w1 => by
    obtain ⟨R2, l2, ok2, r⟩ := fz_rel ok1 w1 fz
    refine ⟨c, r, ?_⟩
    cases c with
    | true => exact iteT (q _ τ1 _ R2 H1 (h1 rfl) (l1.trans l2) ok2 (VOk.im rfl))
    | false => exact iteF (h2 rfl σ H1 F R0 R2 _ ok2 fun y τ2 u R3 H3 hk l3 ok3 w3 => q y τ2 u R3 H3 hk ((l1.trans l2).trans l3) ok3 w3)
theorem E_and3 {k : KK} (h : E X a τ fun x τ1 => ∃ d, Fz x (.im rB d) ∧ (d = true → E X b τ1 fun x τ2 => ∃ d, Fz x (.im rB d) ∧ (d = true → E X c τ2 k) ∧ (d = false → k (.im rB false) τ2)) ∧ (d = false → k (.im rB false) τ1)) : E X (.BoolOp .And [a, b, c] pos) τ k :=
  E.of (pe_and pe_sem (pe_and pe_sem (pe_one pe_sem))) fun σ H F R0 R Q ok q => h σ H F R0 R _ ok fun x τ1 v R1 H1 ⟨c, fz, h1, h2⟩ l1 ok1 w1 => by
    obtain ⟨R2, l2, ok2, r⟩ := fz_rel ok1 w1 fz
    refine ⟨c, r, ?_⟩
    cases c with
    | false => exact iteF (q _ τ1 _ R2 H1 (h2 rfl) (l1.trans l2) ok2 (VOk.im rfl))
    | true =>
      refine iteT (h1 rfl σ H1 F R0 R2 _ ok2 fun y τ2 u R3 H3 ⟨d, fz', h3, h4⟩ l3 ok3 w3 => ?_)
      obtain ⟨R4, l4, ok4, r'⟩ := fz_rel ok3 w3 fz'
      refine ⟨d, r', ?_⟩
      have lt := (l1.trans l2).trans (l3.trans l4)
      cases d with
      | false => exact iteF (q _ τ2 _ R4 H3 (h4 rfl) lt ok4 (VOk.im rfl))
      | true => exact iteT (h3 rfl σ H3 F R0 R4 _ ok4 fun y τ2 u R5 H5 hk l5 ok5 w5 => q y τ2 u R5 H5 hk (lt.trans l5) ok5 w5)
theorem E_not {k : KK} (h : E X a τ fun x τ1 => ∃ c, Fz x (.im rB c) ∧ k (.im rB (!c)) τ1) : E X (.UnaryOp .Not a pos) τ k :=
  E.of (pe_not pe_sem) fun σ H F R0 R Q ok q => h σ H F R0 R _ ok fun x τ1 v R1 H1 ⟨c, fz, h1⟩ l1 ok1 w1 => by
    obtain ⟨R2, l2, ok2, r⟩ := fz_rel ok1 w1 fz
    exact ⟨c, r, q _ τ1 _ R2 H1 h1 (l1.trans l2) ok2 (VOk.im rfl)⟩
theorem E_if {k : KK} (h : C X c τ fun d τ1 => (d = true → E X a τ1 k) ∧ (d = false → E X b τ1 k)) : E X (.IfExp c a b pos) τ k :=
  E.of (pe_ifExp pt_sem pe_sem pe_sem) fun σ H F R0 R Q ok q => h σ H F R0 R _ ok fun d τ1 R1 H1 ⟨h1, h2⟩ l1 ok1 => by
    cases d with
    | true => exact iteT (h1 rfl σ H1 F R0 R1 _ ok1 fun y τ2 u R3 H3 hk l3 ok3 w3 => q y τ2 u R3 H3 hk (l1.trans l3) ok3 w3)
    | false => exact iteF (h2 rfl σ H1 F R0 R1 _ ok1 fun y τ2 u R3 H3 hk l3 ok3 w3 => q y τ2 u R3 H3 hk (l1.trans l3) ok3 w3)
theorem S1_if (h : C X c τ fun d τ1 => (d = true → S X body τ1 P) ∧ (d = false → S X els τ1 P)) : S1 X (.If c body els pos) τ P :=
  S1.of (ps_if pt_sem pss_sem pss_sem) fun σ H F R0 R D ok q => h σ H F R0 R _ ok fun d τ1 R1 H1 ⟨h1, h2⟩ l1 ok1 => by
    cases d with
    | true => exact iteT (h1 rfl σ H1 F R0 R1 D ok1 (q.up l1))
    | false => exact iteF (h2 rfl σ H1 F R0 R1 D ok1 (q.up l1))
theorem S1_while (hp : PassesOwn (model X.prog X.w) X.A X.env X.xe) (I : Nat → Tau → Prop) (m : Nat) (h0 : I m τ)
    (hs : ∀ m τ', I m τ' → C X c τ' fun d τ1 => (d = true → S X body τ1 { P with nx := fun τ2 => ∃ m', m' < m ∧ I m' τ2, ct := fun τ2 => ∃ m', m' < m ∧ I m' τ2, bk := P.nx }) ∧ (d = false → P.nx τ1)) : S1 X (.While c body [] pos) τ P :=
  S1.of (ps_while hp pt_sem pss_sem) fun σ H F R0 R D ok q => by
    refine ⟨fun m σ H => ∃ τ' R', I m τ' ∧ Le R R' ∧ Ok F R0 R' H σ τ', ⟨m, τ, R, h0, Le.refl R, ok⟩, ?_⟩
    rintro m σ1 H1 ⟨τ1, R1, hI, l1, ok1⟩
    refine hs m τ1 hI σ1 H1 F R0 R1 _ ok1 fun d τ2 R2 H2 ⟨h1, h2⟩ l2 ok2 => ?_
    cases d with
    | false => exact iteF (q.nx τ2 σ1 R2 H2 (h2 rfl) (l1.trans l2) ok2)
    | true =>
      refine iteT ⟨fun σ3 H3 => ∃ m', m' < m ∧ ∃ τ' R', I m' τ' ∧ Le R R' ∧ Ok F R0 R' H3 σ3 τ', fun σ3 H3 ⟨m', hm, z⟩ => ⟨m', hm, z⟩, ?_⟩
      refine h1 rfl σ1 H2 F R0 R2 _ ok2 ⟨?_, ?_, ?_, ?_⟩
      · rintro τ3 σ3 R3 H3 ⟨m', hm, hI3⟩ l3 ok3
        exact ⟨m', hm, τ3, R3, hI3, (l1.trans l2).trans l3, ok3⟩
      · intro x τ3 v σ3 R3 H3 hr l3 ok3 w3
        exact q.rt x τ3 v σ3 R3 H3 hr ((l1.trans l2).trans l3) ok3 w3
      · intro τ3 σ3 R3 H3 hr l3 ok3
        exact q.nx τ3 σ3 R3 H3 hr ((l1.trans l2).trans l3) ok3
      · rintro τ3 σ3 R3 H3 ⟨m', hm, hI3⟩ l3 ok3
        exact ⟨m', hm, τ3, R3, hI3, (l1.trans l2).trans l3, ok3⟩
end
end T
end
section
set_option Elab.async false
set_option linter.all false
set_option autoImplicit false
set_option maxRecDepth 100000
set_option maxHeartbeats 2000000
namespace T
open PySem PySem.Spec PyProof.Rows L2 RZ

/-! ### what a loop walks -/
structure ItOk (J : It) (F R : Hp) (ys : List Kd) : Prop where
  go : ∀ (F' R' H : Hp) (i : Nat), Le F F' → Le F' H → Le R R' → LeR R' H → i < ys.length → J.go i H
  stop : ∀ (F' R' H : Hp), Le F F' → Le F' H → Le R R' → LeR R' H → J.stop ys.length H
  yld : ∀ (F' R0 R' H : Hp) (σ : L2.St) (τ : Tau) (i : Nat) (y : Kd) (x : V) (H' : Hp), Le F F' → Ok F' R0 R' H σ τ → Le R R' → ys[i]? = some y → J.yld i H x H' → ∃ R'', Le R' R'' ∧ Ok F' R0 R'' H' σ τ ∧ IsIm y ∧ y.rel R'' H' x
def WI (wi : TI) (τ : Tau) (k : List Kd → Tau → Prop) : Prop := ∀ (σ : L2.St) (H F R0 R : Hp) (Rr : It → Hp → Prop), Ok F R0 R H σ τ →
  (∀ J ys τ' R' H', k ys τ' → Le R R' → Ok F R0 R' H' σ τ' → ItOk J F R' ys → Rr J H') → wi σ H Rr
def semI (X : Cx) (tg iter : Expr) : TI := fun σ H R => ∀ pins s, Inv X pins σ H s → wpAny (model X.prog X.w) X.A (eval iter X.env) (fun v s1 => wpAny (model X.prog X.w) X.A (pyIter v) (L2.PIE X pins σ tg R) X.xe s1) X.xe s
theorem pi_sem {X : Cx} {tg iter : Expr} : PI X tg iter (semI X tg iter) := ⟨fun pins s σ H R I h => h pins s I⟩
def It (X : Cx) (tg iter : Expr) (τ : Tau) (k : List Kd → Tau → Prop) : Prop := WI (semI X tg iter) τ k
theorem It.of {X : Cx} {tg iter : Expr} {wi : TI} {τ : Tau} {k : List Kd → Tau → Prop} (h : PI X tg iter wi) (w : WI wi τ k) : It X tg iter τ k :=
  fun σ H F R0 R Rr ok q pins s I => h.run pins s σ H Rr I (w σ H F R0 R Rr ok q)

theorem LeR.up {R R' H : Hp} (l : Le R R') (h : LeR R' H) : LeR R H := LeR.of l h
theorem paired_get' {R : Hp} {α : Type} {A : DR α} : ∀ {xs : List V} {l : List α}, Paired (A.rel R) xs l → ∀ (i : Nat) (x : V) (a : α), xs[i]? = some x → l[i]? = some a → A.rel R x a
  | _, _, .nil, i, x, a, e, _ => by simp at e
  | _, _, .cons r t, i, x, a, e1, e2 => by
    cases i with
    | zero => cases e1; cases e2; exact r
    | succ i => exact paired_get' t i x a (by simpa using e1) (by simpa using e2)
theorem itOk_list {K : PySem.W.Frag} {F R : Hp} {α : Type} {A : DR α} {p : Addr} {xs : List V} {l : List α} (h : SqL K R p xs) (hp : Paired (A.rel R) xs l) : ItOk (Itl K p) F R (l.map (.im A)) where
  go := fun F' R' H i _ _ l1 l2 hi => by
    rw [List.length_map, ← PySem.Paired.length hp] at hi
    exact ⟨xs, xs[i], (l2.up l1).sqL h, List.getElem?_eq_getElem hi⟩
  stop := fun F' R' H _ _ l1 l2 => ⟨xs, (l2.up l1).sqL h, by rw [List.length_map, ← PySem.Paired.length hp]; exact Nat.le_refl _⟩
  yld := fun F' R0 R' H σ τ i y x H' _ ok l1 ey ⟨e, hy⟩ => by
    subst e
    rw [List.getElem?_map] at ey
    cases ea : l[i]? with
    | none => rw [ea] at ey; cases ey
    | some a =>
      rw [ea] at ey
      cases ey
      have hx := hy xs ((ok.le.up l1).sqL h)
      exact ⟨R', Le.refl R', ok, trivial, A.up l1 (paired_get' hp i x a hx ea)⟩
theorem itOk_tup {K : PySem.W.Frag} {F R : Hp} {α : Type} {A : DR α} {p : Addr} {xs : List V} {l : List α} (h : SqT K R p xs) (hp : Paired (A.rel R) xs l) : ItOk (Itt K p) F R (l.map (.im A)) where
  go := fun F' R' H i _ _ l1 l2 hi => by
    rw [List.length_map, ← PySem.Paired.length hp] at hi
    exact ⟨xs, xs[i], (l2.up l1).sqT h, List.getElem?_eq_getElem hi⟩
  stop := fun F' R' H _ _ l1 l2 => ⟨xs, (l2.up l1).sqT h, by rw [List.length_map, ← PySem.Paired.length hp]; exact Nat.le_refl _⟩
  yld := fun F' R0 R' H σ τ i y x H' _ ok l1 ey ⟨e, hy⟩ => by
    subst e
    rw [List.getElem?_map] at ey
    cases ea : l[i]? with
    | none => rw [ea] at ey; cases ey
    | some a =>
      rw [ea] at ey
      cases ey
      have hx := hy xs ((ok.le.up l1).sqT h)
      exact ⟨R', Le.refl R', ok, trivial, A.up l1 (paired_get' hp i x a hx ea)⟩
/-- lo, lo + 1, .. -/
def rngK (lo : Int) (m : Nat) : List Kd := (List.range m).map fun (i : Nat) => .im rI (lo + (i : Int))
theorem itOk_rng {F R : Hp} {lo : Int} {m : Nat} : ItOk (Itr lo m) F R (rngK lo m) where
  go := fun F' R' H i _ _ _ _ hi => by
    show i < m
    simpa [rngK] using hi
  stop := fun F' R' H _ _ _ _ => by simp [rngK, Itr]
  yld := fun F' R0 R' H σ τ i y x H' _ ok l1 ey ⟨e, hy⟩ => by
    subst e; subst hy
    unfold rngK at ey
    rw [List.getElem?_map] at ey
    by_cases hi : i < m
    · rw [List.getElem?_range hi] at ey
      cases ey
      exact ⟨R', Le.refl R', ok, trivial, rfl⟩
    · rw [List.getElem?_eq_none (by simpa using hi)] at ey
      cases ey
theorem itOk_zipL {K : PySem.W.Frag} {F R : Hp} {α β : Type} {A : DR α} {B : DR β} {p q : Addr} {xs ys : List V} {l : List α} {m : List β} (h : SqL K R p xs) (hp : Paired (A.rel R) xs l) (h' : SqL K R q ys) (hp' : Paired (B.rel R) ys m) :
    ItOk (Itz K p q) F R ((l.zip m).map (.im (rPair K A B))) where
  go := fun F' R' H i _ _ l1 l2 hi => by
    rw [List.length_map, List.length_zip, ← PySem.Paired.length hp, ← PySem.Paired.length hp'] at hi
    exact ⟨xs, ys, xs[i], ys[i], (l2.up l1).sqL h, (l2.up l1).sqL h', List.getElem?_eq_getElem (by omega), List.getElem?_eq_getElem (by omega)⟩
  stop := fun F' R' H _ _ l1 l2 => ⟨xs, ys, (l2.up l1).sqL h, (l2.up l1).sqL h', by
    rw [List.length_map, List.length_zip, ← PySem.Paired.length hp, ← PySem.Paired.length hp']; omega⟩
  yld := fun F' R0 R' H σ τ i y x H' _ ok l1 ey ⟨T, a, b, e, hT, e', hx, hy⟩ => by
    subst e; subst e'
    rw [List.getElem?_map] at ey
    cases ea : (l.zip m)[i]? with
    | none => rw [ea] at ey; cases ey
    | some c =>
      rw [ea] at ey
      cases ey
      obtain ⟨e1, e2⟩ := List.getElem?_zip_eq_some.mp ea
      have hx := hx xs ((ok.le.up l1).sqL h)
      have hy := hy ys ((ok.le.up l1).sqL h')
      obtain ⟨hR, _⟩ := ok.fresh hT
      exact ⟨upd R' T (.tup [a, b]), Le.upd hR, ok.lay hT, trivial, T, a, b, rfl, .inl (.inl upd_same), A.up (l1.trans (Le.upd hR)) (paired_get' hp i a c.1 hx e1), B.up (l1.trans (Le.upd hR)) (paired_get' hp' i b c.2 hy e2)⟩
theorem itOk_zipT {K : PySem.W.Frag} {F R : Hp} {α β : Type} {A : DR α} {B : DR β} {p q : Addr} {xs ys : List V} {l : List α} {m : List β} (h : SqT K R p xs) (hp : Paired (A.rel R) xs l) (h' : SqT K R q ys) (hp' : Paired (B.rel R) ys m) :
    ItOk (ItzT K p q) F R ((l.zip m).map (.im (rPair K A B))) where
  go := fun F' R' H i _ _ l1 l2 hi => by
    rw [List.length_map, List.length_zip, ← PySem.Paired.length hp, ← PySem.Paired.length hp'] at hi
    exact ⟨xs, ys, xs[i], ys[i], (l2.up l1).sqT h, (l2.up l1).sqT h', List.getElem?_eq_getElem (by omega), List.getElem?_eq_getElem (by omega)⟩
  stop := fun F' R' H _ _ l1 l2 => ⟨xs, ys, (l2.up l1).sqT h, (l2.up l1).sqT h', by
    rw [List.length_map, List.length_zip, ← PySem.Paired.length hp, ← PySem.Paired.length hp']; omega⟩
  yld := fun F' R0 R' H σ τ i y x H' _ ok l1 ey ⟨T, a, b, e, hT, e', hx, hy⟩ => by
    subst e; subst e'
    rw [List.getElem?_map] at ey
    cases ea : (l.zip m)[i]? with
    | none => rw [ea] at ey; cases ey
    | some c =>
      rw [ea] at ey
      cases ey
      obtain ⟨e1, e2⟩ := List.getElem?_zip_eq_some.mp ea
      have hx := hx xs ((ok.le.up l1).sqT h)
      have hy := hy ys ((ok.le.up l1).sqT h')
      obtain ⟨hR, _⟩ := ok.fresh hT
      exact ⟨upd R' T (.tup [a, b]), Le.upd hR, ok.lay hT, trivial, T, a, b, rfl, .inl (.inl upd_same), A.up (l1.trans (Le.upd hR)) (paired_get' hp i a c.1 hx e1), B.up (l1.trans (Le.upd hR)) (paired_get' hp' i b c.2 hy e2)⟩
/-- the pairs of a dict -/
theorem kvs_get {β : Type} {B : DR β} {R : Hp} {kvs : List (Key × V)} {d : List (Int × β)} (h : KVs B R kvs d) (i : Nat) {k : Key} {v : V} {c : Int × β} (e1 : kvs[i]? = some (k, v)) (e2 : d[i]? = some c) : k = .inl c.1 ∧ B.rel R v c.2 := by
  unfold KVs at h
  induction h generalizing i with
  | nil => cases e1
  | cons r t ih =>
    cases i with
    | zero => cases e1; cases e2; exact r
    | succ i => exact ih i (by simpa using e1) (by simpa using e2)
theorem itOk_items {K : PySem.W.Frag} {F R : Hp} {β : Type} {B : DR β} {p : Addr} {o : Obj} {kvs : List (Key × V)} {d : List (Int × β)} (hF : F p = some (.frz o (.dK kvs))) (hp : KVs B R kvs d) : ItOk (Iti p o kvs) F R (d.map (.im (rPair K rI B))) where
  go := fun F' R' H i f1 f2 _ _ hi => ⟨f2 _ _ (f1 _ _ hF), by rw [List.length_map, ← PySem.Paired.length hp] at hi; exact hi⟩
  stop := fun F' R' H f1 f2 _ _ => ⟨f2 _ _ (f1 _ _ hF), by rw [List.length_map, ← PySem.Paired.length hp]; exact Nat.le_refl _⟩
  yld := fun F' R0 R' H σ τ i y x H' f1 ok l1 ey ⟨T, k, v, ek, e, hT, e'⟩ => by
    subst e; subst e'
    rw [List.getElem?_map] at ey
    cases ea : d[i]? with
    | none => rw [ea] at ey; cases ey
    | some c =>
      rw [ea] at ey
      cases ey
      obtain ⟨rk, rv⟩ := kvs_get hp i ek ea
      subst rk
      obtain ⟨hR, _⟩ := ok.fresh hT
      exact ⟨upd R' T (.tup [V.int c.1, v]), Le.upd hR, ok.lay hT, trivial, T, V.int c.1, v, rfl, .inl (.inl upd_same), rfl, B.up (l1.trans (Le.upd hR)) rv⟩
theorem itOk_vals {F R : Hp} {β : Type} {B : DR β} {p : Addr} {o : Obj} {kvs : List (Key × V)} {d : List (Int × β)} (hF : F p = some (.frz o (.dK kvs))) (hp : KVs B R kvs d) : ItOk (Itd p o kvs) F R (d.map fun c => .im B c.2) where
  go := fun F' R' H i f1 f2 _ _ hi => ⟨f2 _ _ (f1 _ _ hF), by rw [List.length_map, ← PySem.Paired.length hp] at hi; exact hi⟩
  stop := fun F' R' H f1 f2 _ _ => ⟨f2 _ _ (f1 _ _ hF), by rw [List.length_map, ← PySem.Paired.length hp]; exact Nat.le_refl _⟩
  yld := fun F' R0 R' H σ τ i y x H' f1 ok l1 ey ⟨e, k, ek⟩ => by
    subst e
    rw [List.getElem?_map] at ey
    cases ea : d[i]? with
    | none => rw [ea] at ey; cases ey
    | some c =>
      rw [ea] at ey
      cases ey
      obtain ⟨rk, rv⟩ := kvs_get hp i ek ea
      exact ⟨R', Le.refl R', ok, trivial, B.up l1 rv⟩
theorem itOk_keys {F R : Hp} {β : Type} {B : DR β} {p : Addr} {o : Obj} {kvs : List (Key × V)} {d : List (Int × β)} (hF : F p = some (.frz o (.dK kvs))) (hp : KVs B R kvs d) : ItOk (Itk p o kvs) F R (d.map fun c => .im rI c.1) where
  go := fun F' R' H i f1 f2 _ _ hi => ⟨f2 _ _ (f1 _ _ hF), by rw [List.length_map, ← PySem.Paired.length hp] at hi; exact hi⟩
  stop := fun F' R' H f1 f2 _ _ => ⟨f2 _ _ (f1 _ _ hF), by rw [List.length_map, ← PySem.Paired.length hp]; exact Nat.le_refl _⟩
  yld := fun F' R0 R' H σ τ i y x H' f1 ok l1 ey ⟨e, k, v, ek, ex⟩ => by
    subst e
    rw [List.getElem?_map] at ey
    cases ea : d[i]? with
    | none => rw [ea] at ey; cases ey
    | some c =>
      rw [ea] at ey
      cases ey
      obtain ⟨rk, rv⟩ := kvs_get hp i ek ea
      subst rk
      exact ⟨R', Le.refl R', ok, trivial, ex⟩

section
variable {G : Gm} {X : Cx} {N : List Str} {sc : Scope} {n : Nat} {τ τ1 : Tau} {P : Po} {k : List Kd → Tau → Prop} {y : Kd} {e e2 a b c tg iter elt : Expr} {es elts : List Expr} {pos p tpos : Pos} {st : Stmt} {sts body els : List Stmt} {kk : Nat}
theorem I_list (hX : XF G X N sc n) (h : E X e τ fun x τ1 => ∃ α, ∃ A : DR α, ∃ l, Fz x (.im (rL G.K A) l) ∧ k (l.map (.im A)) τ1) : It X tg e τ k :=
  It.of (pi_list pe_sem) fun σ H F R0 R Rr ok q => h σ H F R0 R _ ok fun x τ1 v R1 H1 ⟨α, A, l, fz, hk⟩ l1 ok1 w1 => by
    obtain ⟨R2, l2, ok2, ⟨pa, xs, e1, hs, hp⟩⟩ := fz_rel ok1 w1 fz
    refine ⟨pa, e1, ⟨xs, by rw [hX.eK]; exact .inl (ok2.le.rd hs)⟩, ?_⟩
    rw [hX.eK]
    exact q _ _ τ1 R2 H1 hk (l1.trans l2) ok2 (itOk_list (.inl hs) hp)
theorem I_tup (hX : XF G X N sc n) (h : E X e τ fun x τ1 => ∃ α, ∃ A : DR α, ∃ l, Fz x (.im (rT G.K A) l) ∧ k (l.map (.im A)) τ1) : It X tg e τ k :=
  It.of (pi_tup pe_sem) fun σ H F R0 R Rr ok q => h σ H F R0 R _ ok fun x τ1 v R1 H1 ⟨α, A, l, fz, hk⟩ l1 ok1 w1 => by
    obtain ⟨R2, l2, ok2, ⟨pa, xs, e1, hs, hp⟩⟩ := fz_rel ok1 w1 fz
    refine ⟨pa, e1, ⟨xs, by rw [hX.eK]; exact ok2.le.sqT hs⟩, ?_⟩
    rw [hX.eK]
    exact q _ _ τ1 R2 H1 hk (l1.trans l2) ok2 (itOk_tup hs hp)
/-- a name's list or tuple -/
theorem I_nameLT {i : Nat} {x : Str} {α : Type} {A : DR α} {l : List α} (hX : XF G X N sc n) (hN : N[i]? = some x) (hv : Vis sc x) (ht : τ[i]? = some (.im (rLT G.K A) l)) (h : k (l.map (.im A)) τ)
    (hd : (x == ("__debug__" : Str)) = false := by decide) (hcd : (x == ("__classdict__" : Str)) = false := by decide) : It X tg (.Name x pos) τ k := fun σ H F R0 R Rr ok q => by
  have pn : PE X (.Name x pos) (tVar i) := pe_var (i := i) (by rw [hX.eN]; exact hN) (hX.vis hv) hd hcd
  rcases ok.sl i _ ht with z | ⟨v, hv', r⟩
  · cases z
  · have hs : σ[i]? = some (some v) := by
      cases hs : σ[i]? with
      | none => rw [hs] at hv'; cases hv'
      | some u => rw [hs] at hv'; exact congrArg some hv'
    rcases r with ⟨pa, xs, e1, hq, hp⟩ | ⟨pa, xs, e1, hq, hp⟩
    · have := It.of (k := k) (pi_list (tg := tg) pn) (τ := τ)
      intro pins s I
      refine (pi_list (tg := tg) pn).run pins s σ H Rr I ⟨v, hs, pa, e1, ⟨xs, by rw [hX.eK]; exact .inl (ok.le.rd hq)⟩, ?_⟩
      rw [hX.eK]
      exact q _ _ τ R H h (Le.refl R) ok (itOk_list (.inl hq) hp)
    · intro pins s I
      refine (pi_tup (tg := tg) pn).run pins s σ H Rr I ⟨v, hs, pa, e1, ⟨xs, by rw [hX.eK]; exact ok.le.sqT hq⟩, ?_⟩
      rw [hX.eK]
      exact q _ _ τ R H h (Le.refl R) ok (itOk_tup hq hp)
theorem I_rng1 (hX : XF G X N sc n) (hg : sc.names.lookup ("range" : Str) = some .globalImplicit) (hm : G.mg ("range" : Str) = none) (hs : noStar [a] = true)
    (h : E X a τ fun x τ1 => ∃ j, Fz x (.im rI j) ∧ -(2 ^ 62) ≤ j ∧ j < 2 ^ 62 ∧ k (rngK 0 j.toNat) τ1) : It X tg (.Call (.Name "range" p) [a] [] pos) τ k :=
  It.of (pi_range1 (hX.gl hg) (hX.mgN hm) (pa_cons pe_sem pa_nil (by cases a <;> first | rfl | (simp [noStar] at hs))) (by cases a <;> first | rfl | (simp [noStar] at hs))) fun σ H F R0 R Rr ok q => h σ H F R0 R _ ok fun x τ1 v R1 H1 ⟨j, fz, hb, hc, hk⟩ l1 ok1 w1 => by
    obtain ⟨R2, l2, ok2, r⟩ := fz_rel ok1 w1 fz
    cases r
    exact ⟨j, rfl, hb, hc, q _ _ τ1 R2 H1 hk (l1.trans l2) ok2 itOk_rng⟩
theorem I_rng2 (hX : XF G X N sc n) (hg : sc.names.lookup ("range" : Str) = some .globalImplicit) (hm : G.mg ("range" : Str) = none) (hs : noStar [a, b] = true)
    (h : E X a τ fun x τ1 => ∃ i, Fz x (.im rI i) ∧ E X b τ1 fun y τ2 => ∃ j, Fz y (.im rI j) ∧ (-(2 ^ 62) ≤ i ∧ i < 2 ^ 62 ∧ -(2 ^ 62) ≤ j ∧ j < 2 ^ 62) ∧ k (rngK i (j - i).toNat) τ2) : It X tg (.Call (.Name "range" p) [a, b] [] pos) τ k := by
  have sb : noStar [b] = true := by cases a <;> first | exact hs | (simp [noStar] at hs)
  have pb : PA X [b] (tCons (sem X b) tNil) := pa_cons pe_sem pa_nil (by cases b <;> first | rfl | (simp [noStar] at sb))
  have st := star_of (env := X.env) hs
  have st1 := st a [b] (List.suffix_refl _)
  have st2 := st b [] (List.suffix_cons _ _)
  refine It.of (pi_range2 (hX.gl hg) (hX.mgN hm) (pa_cons pe_sem pb st1) (by rw [st1, st2]; rfl) (by rw [st2]; rfl)) fun σ H F R0 R Rr ok q => h σ H F R0 R _ ok fun x τ1 v R1 H1 ⟨i, fz, hb⟩ l1 ok1 w1 => ?_
  obtain ⟨R2, l2, ok2, r⟩ := fz_rel ok1 w1 fz
  cases r
  refine hb σ H1 F R0 R2 _ ok2 fun y τ2 u R3 H3 ⟨j, fz', hc, hk⟩ l3 ok3 w3 => ?_
  obtain ⟨R4, l4, ok4, r'⟩ := fz_rel ok3 w3 fz'
  cases r'
  exact ⟨i, j, rfl, hc, q _ _ τ2 R4 H3 hk ((l1.trans l2).trans (l3.trans l4)) ok4 itOk_rng⟩
/-- zip of two lists, of two tuples -/
theorem I_zip {α β : Type} {A : DR α} {B : DR β} (tup : Bool) (hX : XF G X N sc n) (hg : sc.names.lookup ("zip" : Str) = some .globalImplicit) (hm : G.mg ("zip" : Str) = none) (hs : noStar [a, b] = true)
    (h : E X a τ fun x τ1 => ∃ l : List α, Fz x (.im (if tup then rT G.K A else rL G.K A) l) ∧ E X b τ1 fun y τ2 => ∃ m : List β, Fz y (.im (if tup then rT G.K B else rL G.K B) m) ∧ k ((l.zip m).map (.im (rPair G.K A B))) τ2) :
    It X (.Tuple elts kk tpos) (.Call (.Name "zip" p) [a, b] [] pos) τ k := by
  have sb : noStar [b] = true := by cases a <;> first | exact hs | (simp [noStar] at hs)
  have pb : PA X [b] (tCons (sem X b) tNil) := pa_cons pe_sem pa_nil (by cases b <;> first | rfl | (simp [noStar] at sb))
  have st := star_of (env := X.env) hs
  have st1 := st a [b] (List.suffix_refl _)
  have st2 := st b [] (List.suffix_cons _ _)
  refine It.of (pi_zipA (hX.gl hg) (hX.mgN hm) (pa_cons pe_sem pb st1) st1 (by rw [st2]; rfl)) fun σ H F R0 R Rr ok q => h σ H F R0 R _ ok fun x τ1 v R1 H1 ⟨i, fz, hb⟩ l1 ok1 w1 => ?_
  obtain ⟨R2, l2, ok2, r⟩ := fz_rel ok1 w1 fz
  refine hb σ H1 F R0 R2 _ ok2 fun y τ2 u R3 H3 ⟨j, fz', hk⟩ l3 ok3 w3 => ?_
  obtain ⟨R4, l4, ok4, r'⟩ := fz_rel ok3 w3 fz'
  have lt := (l1.trans l2).trans (l3.trans l4)
  cases tup with
  | true =>
    obtain ⟨pa, xs, e1, hq, hp⟩ := (rT G.K A).up (l3.trans l4) r
    obtain ⟨pb, ys, e2, hq', hp'⟩ := r'
    subst e1; subst e2
    refine ⟨pa, pb, xs, ys, rfl, .inr ⟨by rw [hX.eK]; exact ok4.le.sqT hq, by rw [hX.eK]; exact ok4.le.sqT hq', ?_⟩⟩
    rw [hX.eK]
    exact q _ _ τ2 R4 H3 hk lt ok4 (itOk_zipT hq hp hq' hp')
  | false =>
    obtain ⟨pa, xs, e1, hq, hp⟩ := (rL G.K A).up (l3.trans l4) r
    obtain ⟨pb, ys, e2, hq', hp'⟩ := r'
    subst e1; subst e2
    refine ⟨pa, pb, xs, ys, rfl, .inl ⟨by rw [hX.eK]; exact .inl (ok4.le.rd hq), by rw [hX.eK]; exact .inl (ok4.le.rd hq'), ?_⟩⟩
    rw [hX.eK]
    exact q _ _ τ2 R4 H3 hk lt ok4 (itOk_zipL (.inl hq) hp (.inl hq') hp')

/-! ### for -/
theorem for_core {J : L2.It} {F R0 R1 H1 : Hp} {σ1 : L2.St} {ys : List Kd} {D : L2.Ends} {F' : Hp} (hF : Le F F') (hJ : ItOk J F R1 ys) (ok1 : Ok F' R0 R1 H1 σ1 τ1) (q : EndOk F' R0 R1 D P) (I : Nat → Tau → Prop) (h0 : I 0 τ1)
    (hs : ∀ (i : Nat) y τ', ys[i]? = some y → I i τ' → Tg X tg y τ' fun τ2 => S X body τ2 { P with nx := I (i + 1), ct := I (i + 1), bk := P.nx }) (hd : ∀ τ', I ys.length τ' → P.nx τ') :
    ∃ Wd : Nat → Nat → L2.St → Hp → Prop, (∃ m, Wd 0 m σ1 H1) ∧ ∀ i m σ H, Wd i m σ H →
      (J.stop i H ∧ D.nx σ H) ∨ (J.go i H ∧ ∃ Nx : L2.St → Hp → Prop, (∀ σ' H', Nx σ' H' → ∃ m', m' < m ∧ Wd (i + 1) m' σ' H') ∧ ∀ x H', J.yld i H x H' → semG X tg x σ H' fun σ2 H2 => semB X body { D with nx := Nx, ct := Nx, bk := D.nx } σ2 H2) := by
  refine ⟨fun i m σ H => m = ys.length - i ∧ i ≤ ys.length ∧ ∃ τ' R', I i τ' ∧ Le R1 R' ∧ Ok F' R0 R' H σ τ', ⟨ys.length, by simp, Nat.zero_le _, τ1, R1, h0, Le.refl R1, ok1⟩, ?_⟩
  rintro i m σ H ⟨rfl, hi, τ', R', hI, l1, ok⟩
  by_cases hlt : i < ys.length
  · refine .inr ⟨hJ.go F' R' H i hF ok.fr l1 ok.le hlt, fun σ2 H2 => i + 1 ≤ ys.length ∧ ∃ τ2 R2, I (i + 1) τ2 ∧ Le R1 R2 ∧ Ok F' R0 R2 H2 σ2 τ2, fun σ2 H2 ⟨h1, h2⟩ => ⟨ys.length - (i + 1), by omega, rfl, h1, h2⟩, fun x H2 hy => ?_⟩
    obtain ⟨R2, l2, ok2, im, rel⟩ := hJ.yld F' R0 R' H σ τ' i _ x H2 hF ok l1 (List.getElem?_eq_getElem hlt) hy
    have wv : VOk F' R2 H2 τ' x ys[i] := ⟨rel, fun p o => by
      cases hk : ys[i] with
      | no => rw [hk] at im; exact im.elim
      | im => rw [hk] at o; exact o.elim
      | ow => rw [hk] at im; exact im.elim⟩
    refine hs i _ τ' (List.getElem?_eq_getElem hlt) hI σ H2 F' R0 R2 x _ ok2 wv fun τ3 σ3 R3 H3 hb l3 ok3 => ?_
    have l13 := (l1.trans l2).trans l3
    refine hb σ3 H3 F' R0 R3 _ ok3 ⟨?_, ?_, ?_, ?_⟩
    · intro τ4 σ4 R4 H4 h4 l4 ok4
      exact ⟨hlt, τ4, R4, h4, l13.trans l4, ok4⟩
    · intro x τ4 v σ4 R4 H4 h4 l4 ok4 w4
      exact q.rt x τ4 v σ4 R4 H4 h4 (l13.trans l4) ok4 w4
    · intro τ4 σ4 R4 H4 h4 l4 ok4
      exact q.nx τ4 σ4 R4 H4 h4 (l13.trans l4) ok4
    · intro τ4 σ4 R4 H4 h4 l4 ok4
      exact ⟨hlt, τ4, R4, h4, l13.trans l4, ok4⟩
  · have e : i = ys.length := by omega
    subst e
    exact .inl ⟨hJ.stop F' R' H hF ok.fr l1 ok.le, q.nx τ' σ R' H (hd τ' hI) l1 ok⟩
/-- for tg in iter, by what holds at each turn -/
theorem S1_for (hX : XF G X N sc n) (hp : PassesOwn (model X.prog X.w) X.A X.env X.xe)
    (h : It X tg iter τ fun ys τ1 => ∃ I : Nat → Tau → Prop, I 0 τ1 ∧ (∀ (i : Nat) y τ', ys[i]? = some y → I i τ' → Tg X tg y τ' fun τ2 => S X body τ2 { P with nx := I (i + 1), ct := I (i + 1), bk := P.nx }) ∧ ∀ τ', I ys.length τ' → P.nx τ')
    (hs : ∀ x, foldedSetIterable iter X.env x = pure x := by intro _; rfl) : S1 X (.For tg iter body [] pos) τ P :=
  S1.of (ps_for hp hX.calm pi_sem pg_sem pss_sem hs) fun σ H F R0 R D ok q => h σ H F R0 R _ ok fun J ys τ1 R1 H1 ⟨I, h0, hs', hd⟩ l1 ok1 hJ =>
    for_core (Le.refl F) hJ ok1 (q.up l1) I h0 hs' hd

/-! ### a dict is walked: it is locked meanwhile -/
/-- the standing while the dict at d is locked -/
theorem Ok.lock {F R0 R H : Hp} {σ : L2.St} {d : Addr} {u : HO} {od : Obj} (ok : Ok F R0 R H σ τ) (hR : R d = some u) (hn : NF u) (hH : H d = some u) (nw : ∀ (i : Nat) k, τ[i]? = some k → ¬ owns k d) :
    Ok (upd F d (.frz od u)) R R (upd H d (.frz od u)) σ τ where
  len := ok.len
  fr := fun a o e => by
    by_cases h : a = d
    · subst h; rw [upd_same] at e ⊢; exact e
    · rw [upd_ne h] at e ⊢; exact ok.fr a o e
  le := fun a o e => by
    by_cases h : a = d
    · subst h
      rw [hR] at e; cases e
      exact .inr ⟨hn, od, upd_same⟩
    · rw [upd_ne h]; exact ok.le a o e
  r0 := Le.refl R
  nw := fun a h _ => h
  sl := fun i k e => by
    rcases ok.sl i k e with z | ⟨v, hv, r⟩
    · exact .inl z
    · refine .inr ⟨v, hv, ?_⟩
      cases k with
      | no => trivial
      | im A a => exact r
      | ow q C c =>
        obtain ⟨e1, e2, o, e3, e4⟩ := r
        exact ⟨e1, e2, o, by rw [upd_ne (fun z => nw i _ e z)]; exact e3, e4⟩
  ff := fun i k p e o => by
    have h : p ≠ d := fun z => nw i k e (by rw [← z]; exact o)
    rw [upd_ne h]; exact ok.ff i k p e o
  inj := ok.inj
  nt := ok.nt
theorem Ok.unlock {F R0 R R' H H' : Hp} {σ σ' : L2.St} {τ' : Tau} {d : Addr} {u : HO} {od : Obj} (ok : Ok F R0 R H σ τ) (hR : R d = some u) (hH : H d = some u) (l : Le R R') (ok' : Ok (upd F d (.frz od u)) R R' H' σ' τ') :
    Ok F R0 R' (upd H' d u) σ' τ' ∧ H' d = some (.frz od u) := by
  have hd : H' d = some (.frz od u) := ok'.fr d _ upd_same
  have hF : ∀ a, F a ≠ none → upd F d (.frz od u) a ≠ none := fun a h => by
    by_cases h' : a = d
    · subst h'; rw [upd_same]; simp
    · rw [upd_ne h']; exact h
  refine ⟨⟨ok'.len, fun a o e => ?_, fun a o e => ?_, ok.r0.trans l, fun a h1 h2 => ?_, fun i k e => ?_, fun i k p e o => ?_, ok'.inj, ok'.nt⟩, hd⟩
  · by_cases h : a = d
    · subst h
      have := ok.fr a o e
      rw [hH] at this; cases this
      exact upd_same
    · rw [upd_ne h]
      exact ok'.fr a o (by rw [upd_ne h]; exact e)
  · by_cases h : a = d
    · subst h
      have h1 : R' a = some u := l a u hR
      rw [h1] at e; cases e
      exact .inl upd_same
    · rw [upd_ne h]; exact ok'.le a o e
  · have := ok.nw a h1 h2
    exact ok'.nw a this (hF a h2)
  · rcases ok'.sl i k e with z | ⟨v, hv, r⟩
    · exact .inl z
    · refine .inr ⟨v, hv, ?_⟩
      cases k with
      | no => trivial
      | im A a => exact r
      | ow q C c =>
        obtain ⟨e1, e2, o, e3, e4⟩ := r
        have hq : q ≠ d := fun z => by
          have := ok'.ff i _ q e rfl
          rw [z, upd_same] at this; cases this
        exact ⟨e1, e2, o, by rw [upd_ne hq]; exact e3, e4⟩
  · have h1 := ok'.ff i k p e o
    have hp : p ≠ d := fun z => by rw [z, upd_same] at h1; cases h1
    rw [upd_ne hp] at h1; exact h1
/-- how a walk of a dict that a name holds begins, the dict locked -/
def DWalk (X : Cx) (tg iter : Expr) (j : Nat) {β : Type} (B : DR β) (d : List (Int × β)) (ys : List Kd) : Prop :=
  ∀ (F R H : Hp) (σ : L2.St) (Rr : L2.It → Hp → Prop) (p : Addr) (o : Obj) (kvs : List (Key × V)), σ[j]? = some (some (.ref p)) → F p = some (.frz o (.dK kvs)) → H p = some (.frz o (.dK kvs)) → KVs B R kvs d →
    (∀ J, ItOk J F R ys → Rr J H) → semI X tg iter σ H Rr
theorem dw_items {j : Nat} {x : Str} {β : Type} {B : DR β} {d : List (Int × β)} {apos cpos : Pos} (hX : XF G X N sc n) (hN : N[j]? = some x) (hv : Vis sc x) (hb : attributeBase (.Name x p) "items" X.env (eval (.Name x p) X.env) = eval (.Name x p) X.env := by rfl)
    (hd : (x == ("__debug__" : Str)) = false := by decide) (hcd : (x == ("__classdict__" : Str)) = false := by decide) (hline : (apos.endLine == cpos.line) = true := by rfl) :
    DWalk X (.Tuple elts kk tpos) (.Call (.Attribute (.Name x p) "items" apos) [] [] cpos) j B d (d.map (.im (rPair G.K rI B))) := fun F R H σ Rr p o kvs hs hF hH hp q pins s I =>
  (pi_items (pe_var (i := j) (by rw [hX.eN]; exact hN) (hX.vis hv) hd hcd) (hline := hline)).run pins s σ H Rr I ⟨.ref p, hs, p, o, kvs, rfl, hH, q _ (itOk_items hF hp)⟩
theorem dw_vals {j : Nat} {x : Str} {β : Type} {B : DR β} {d : List (Int × β)} {apos cpos : Pos} (hX : XF G X N sc n) (hN : N[j]? = some x) (hv : Vis sc x) (hb : attributeBase (.Name x p) "values" X.env (eval (.Name x p) X.env) = eval (.Name x p) X.env := by rfl)
    (hd : (x == ("__debug__" : Str)) = false := by decide) (hcd : (x == ("__classdict__" : Str)) = false := by decide) (hline : (apos.endLine == cpos.line) = true := by rfl) :
    DWalk X tg (.Call (.Attribute (.Name x p) "values" apos) [] [] cpos) j B d (d.map fun c => .im B c.2) := fun F R H σ Rr p o kvs hs hF hH hp q pins s I =>
  (pi_values (pe_var (i := j) (by rw [hX.eN]; exact hN) (hX.vis hv) hd hcd) (hline := hline)).run pins s σ H Rr I ⟨.ref p, hs, p, o, kvs, rfl, hH, q _ (itOk_vals hF hp)⟩
theorem dw_keys {j : Nat} {x : Str} {β : Type} {B : DR β} {d : List (Int × β)} (hX : XF G X N sc n) (hN : N[j]? = some x) (hv : Vis sc x)
    (hd : (x == ("__debug__" : Str)) = false := by decide) (hcd : (x == ("__classdict__" : Str)) = false := by decide) :
    DWalk X tg (.Name x p) j B d (d.map fun c => .im rI c.1) := fun F R H σ Rr p o kvs hs hF hH hp q pins s I =>
  (pi_keys (pe_var (i := j) (by rw [hX.eN]; exact hN) (hX.vis hv) hd hcd)).run pins s σ H Rr I ⟨.ref p, hs, p, o, rfl, .inl ⟨kvs, hH, q _ (itOk_keys hF hp)⟩⟩
/-- the dict that a name holds -/
theorem Ok.dict {F R0 R H : Hp} {σ : L2.St} {j : Nat} {β : Type} {B : DR β} {d : List (Int × β)} (ok : Ok F R0 R H σ τ) (ht : τ[j]? = some (.im (rD B) d)) :
    ∃ p kvs, σ[j]? = some (some (.ref p)) ∧ R p = some (.dK kvs) ∧ KVs B R kvs d ∧ (H p = some (.dK kvs) ∨ ∃ o, H p = some (.frz o (.dK kvs))) := by
  rcases ok.sl j _ ht with z | ⟨v, hv, p, kvs, e, hR, hp⟩
  · cases z
  · refine ⟨p, kvs, ?_, hR, hp, ?_⟩
    · cases hs : σ[j]? with
      | none => rw [hs] at hv; cases hv
      | some u => rw [hs] at hv; rw [show u = some v from hv, e]
    · rcases ok.le p _ hR with h | ⟨_, o, h⟩
      · exact .inl h
      · exact .inr ⟨o, h⟩
theorem Ok.notOwned {F R0 R H : Hp} {σ : L2.St} {p : Addr} {o : HO} (ok : Ok F R0 R H σ τ) (h : R p = some o) : ∀ (i : Nat) k, τ[i]? = some k → ¬ owns k p := fun i k e ho => by
  rcases ok.sl i k e with z | ⟨v, _, r⟩
  · subst z; exact ho
  · cases k with
    | no => exact ho
    | im => exact ho
    | ow q C c =>
      obtain ⟨_, e2, _⟩ := r
      have : q = p := ho
      rw [this, h] at e2; cases e2
theorem S1_forD {j : Nat} {β : Type} {B : DR β} {d : List (Int × β)} {ys : List Kd} (hX : XF G X N sc n) (hp : PassesOwn (model X.prog X.w) X.A X.env X.xe) (ht : τ[j]? = some (.im (rD B) d)) (hw : DWalk X tg iter j B d ys)
    (I : Nat → Tau → Prop) (h0 : I 0 τ) (hs : ∀ (i : Nat) y τ', ys[i]? = some y → I i τ' → Tg X tg y τ' fun τ2 => S X body τ2 { P with nx := I (i + 1), ct := I (i + 1), bk := P.nx }) (hd : ∀ τ', I ys.length τ' → P.nx τ')
    (hfs : ∀ x, foldedSetIterable iter X.env x = pure x := by intro _; rfl) : S1 X (.For tg iter body [] pos) τ P := fun σ H F R0 R D ok q => by
  obtain ⟨pa, kvs, hσ, hR, hkv, hH | ⟨o, hH⟩⟩ := ok.dict ht
  · -- not locked yet
    intro pins s I0
    refine (ps_lock (ps_for hp hX.calm pi_sem (pg_sem (tg := tg)) (pss_sem (st := body)) hfs)).run pins s σ H D I0 ⟨pa, .dK kvs, hH, True.intro, fun od => ?_⟩
    have okl := ok.lock (od := od) hR True.intro hH (ok.notOwned hR)
    refine hw (upd F pa (.frz od (.dK kvs))) R (upd H pa (.frz od (.dK kvs))) σ _ pa od kvs hσ upd_same upd_same hkv fun J hJ => ?_
    refine for_core (P := P) (Le.refl _) hJ okl ⟨?_, ?_, ?_, ?_⟩ I h0 hs hd
    · intro τ2 σ2 R2 H2 h2 l2 ok2
      obtain ⟨ok3, e3⟩ := ok.unlock hR hH l2 ok2
      exact ⟨e3, q.nx τ2 σ2 R2 _ h2 l2 ok3⟩
    · intro x τ2 v σ2 R2 H2 h2 l2 ok2 w2
      obtain ⟨ok3, e3⟩ := ok.unlock hR hH l2 ok2
      refine ⟨e3, q.rt x τ2 v σ2 R2 _ h2 l2 ok3 ⟨?_, fun p o => ⟨?_, (w2.own p o).2⟩⟩⟩
      · have hr := w2.rel
        cases x with
        | no => trivial
        | im A a => exact hr
        | ow q' C c =>
          obtain ⟨e1, e2, o', e4, e5⟩ := hr
          have hq : q' ≠ pa := fun z => by
            have := (w2.own q' rfl).1
            rw [z, upd_same] at this; cases this
          exact ⟨e1, e2, o', by rw [upd_ne hq]; exact e4, e5⟩
      · have h1 := (w2.own p o).1
        have hq : p ≠ pa := fun z => by rw [z, upd_same] at h1; cases h1
        rw [upd_ne hq] at h1; exact h1
    · intro τ2 σ2 R2 H2 h2 l2 ok2
      obtain ⟨ok3, e3⟩ := ok.unlock hR hH l2 ok2
      exact ⟨e3, q.bk τ2 σ2 R2 _ h2 l2 ok3⟩
    · intro τ2 σ2 R2 H2 h2 l2 ok2
      obtain ⟨ok3, e3⟩ := ok.unlock hR hH l2 ok2
      exact ⟨e3, q.ct τ2 σ2 R2 _ h2 l2 ok3⟩
  · -- a loop further out has locked it: it is in what must stay
    intro pins s I0
    refine (ps_for hp hX.calm pi_sem (pg_sem (tg := tg)) (pss_sem (st := body)) hfs).run pins s σ H D I0 ?_
    have okl : Ok (upd F pa (.frz o (.dK kvs))) R R H σ τ := ⟨ok.len, fun a u e => by
        by_cases h : a = pa
        · subst h; rw [upd_same] at e; cases e; exact hH
        · rw [upd_ne h] at e; exact ok.fr a u e, ok.le, Le.refl R, fun a h _ => h, ok.sl, fun i k p e oo => by
        have h : p ≠ pa := fun z => ok.notOwned hR i k e (by rw [← z]; exact oo)
        rw [upd_ne h]; exact ok.ff i k p e oo, ok.inj, ok.nt⟩
    have back : ∀ {τ2 : Tau} {σ2 : L2.St} {R2 H2 : Hp}, Le R R2 → Ok (upd F pa (.frz o (.dK kvs))) R R2 H2 σ2 τ2 → Ok F R0 R2 H2 σ2 τ2 := fun {τ2 σ2 R2 H2} l ok2 => by
      have hF : ∀ a u, F a = some u → upd F pa (.frz o (.dK kvs)) a ≠ none := fun a u e => by
        by_cases h : a = pa
        · subst h; rw [upd_same]; simp
        · rw [upd_ne h, e]; simp
      refine ⟨ok2.len, fun a u e => ?_, ok2.le, ok.r0.trans l, fun a h1 h2 => ?_, ok2.sl, fun i k p e oo => ?_, ok2.inj, ok2.nt⟩
      · by_cases h : a = pa
        · subst h
          have h1 := ok.fr a u e
          rw [hH] at h1; cases h1
          exact ok2.fr a _ upd_same
        · exact ok2.fr a u (by rw [upd_ne h]; exact e)
      · cases hf : F a with
        | none => exact absurd hf h2
        | some u => exact ok2.nw a (ok.nw a h1 h2) (hF a u hf)
      · have h1 := ok2.ff i k p e oo
        have h : p ≠ pa := fun z => by rw [z, upd_same] at h1; cases h1
        rw [upd_ne h] at h1; exact h1
    refine hw (upd F pa (.frz o (.dK kvs))) R H σ _ pa o kvs hσ upd_same hH hkv fun J hJ => ?_
    refine for_core (P := P) (Le.refl _) hJ okl ⟨?_, ?_, ?_, ?_⟩ I h0 hs hd
    · intro τ2 σ2 R2 H2 h2 l2 ok2
      exact q.nx τ2 σ2 R2 _ h2 l2 (back l2 ok2)
    · intro x τ2 v σ2 R2 H2 h2 l2 ok2 w2
      refine q.rt x τ2 v σ2 R2 _ h2 l2 (back l2 ok2) ⟨w2.rel, fun p oo => ⟨?_, (w2.own p oo).2⟩⟩
      have h1 := (w2.own p oo).1
      have h : p ≠ pa := fun z => by rw [z, upd_same] at h1; cases h1
      rw [upd_ne h] at h1; exact h1
    · intro τ2 σ2 R2 H2 h2 l2 ok2
      exact q.bk τ2 σ2 R2 _ h2 l2 (back l2 ok2)
    · intro τ2 σ2 R2 H2 h2 l2 ok2
      exact q.ct τ2 σ2 R2 _ h2 l2 (back l2 ok2)
end
end T
end
section
set_option Elab.async false
set_option linter.all false
set_option autoImplicit false
set_option maxRecDepth 100000
set_option maxHeartbeats 2000000
namespace T
open PySem PySem.Spec PyProof.Rows L2 RZ

/-! ### comprehensions -/
def wipeT (τ : Tau) : List Nat → Tau
  | [] => τ
  | v :: vs => (wipeT τ vs).set v .no
theorem Ok.wiped {F R0 R H : Hp} {σ : L2.St} {τ : Tau} (ok : Ok F R0 R H σ τ) : ∀ vs : List Nat, Ok F R0 R H (wipe σ vs) (wipeT τ vs)
  | [] => ok
  | v :: vs => by
    have ih := ok.wiped vs
    have h1 := ih.forget v
    refine ⟨?_, h1.fr, h1.le, h1.r0, h1.nw, fun i k e => ?_, h1.ff, h1.inj, h1.nt⟩
    · show ((wipe σ vs).set v none).length = _
      rw [List.length_set]; exact h1.len
    · by_cases hi : v = i
      · subst hi
        have e' : ((wipeT τ vs).set v .no)[v]? = some k := e
        by_cases hv : v < (wipeT τ vs).length
        · rw [List.getElem?_set_self hv] at e'; cases e'; exact .inl rfl
        · rw [List.getElem?_eq_none (by simpa using hv)] at e'; cases e'
      · have h2 := h1.sl i k e
        show SlotOk R H (((wipe σ vs).set v none)[i]?.join) k
        rw [List.getElem?_set_ne hi]
        exact h2
/-- the target of a block: its own slots alone are named -/
def WGv (g : TG) (vs : List Nat) (y : Kd) (τ : Tau) (k : Tau → Prop) : Prop := ∀ (σ : L2.St) (H F R0 R : Hp) (v : V) (Q : L2.St → Hp → Prop), Ok F R0 R H σ τ → VOk F R H τ v y →
  (∀ τ' σ' R' H', k τ' → wipe σ' vs = wipe σ vs → Le R R' → Ok F R0 R' H' σ' τ' → Q σ' H') → g v σ H Q
def TB (X : Cx) (vs : List Nat) (tg : Expr) (y : Kd) (τ : Tau) (k : Tau → Prop) : Prop := WGv (semG X tg) vs y τ k
theorem TB.of {X : Cx} {vs : List Nat} {tg : Expr} {g : TG} {y : Kd} {τ : Tau} {k : Tau → Prop} (h : PG X tg g) (w : WGv g vs y τ k) : TB X vs tg y τ k := fun σ H F R0 R v Q ok wv q pins s u I r => h.run pins s σ H v u Q I r (w σ H F R0 R v Q ok wv q)
theorem wipe_set_in {σ : L2.St} {i : Nat} {x : Option V} : ∀ {vs : List Nat}, i ∈ vs → wipe (σ.set i x) vs = wipe σ vs
  | [], h => by cases h
  | v :: vs, h => by
    show (wipe (σ.set i x) vs).set v none = (wipe σ vs).set v none
    by_cases hv : i ∈ vs
    · rw [wipe_set_in hv]
    · have e : v = i := by
        rcases List.mem_cons.mp h with z | z
        · exact z.symm
        · exact absurd z hv
      subst e
      apply List.ext_getElem?
      intro j
      have len : ∀ (σ : L2.St) (vs : List Nat), (wipe σ vs).length = σ.length := wipe_length
      by_cases hj : v = j
      · subst hj
        by_cases hl : v < σ.length
        · rw [List.getElem?_set_self (by rw [len, List.length_set]; exact hl), List.getElem?_set_self (by rw [len]; exact hl)]
        · rw [List.getElem?_eq_none (by rw [List.length_set, len, List.length_set]; omega), List.getElem?_eq_none (by rw [List.length_set, len]; omega)]
      · rw [List.getElem?_set_ne hj, List.getElem?_set_ne hj]
        by_cases hjv : j ∈ vs
        · have key : ∀ (σ : L2.St) (vs : List Nat), j ∈ vs → (wipe σ vs)[j]? = if j < σ.length then some none else none := by
            intro σ vs
            induction vs with
            | nil => intro h; cases h
            | cons w ws ih =>
              intro h
              show ((wipe σ ws).set w none)[j]? = _
              by_cases hw : w = j
              · subst hw
                by_cases hl : w < σ.length
                · rw [List.getElem?_set_self (by rw [len]; exact hl), if_pos hl]
                · rw [List.getElem?_eq_none (by rw [List.length_set, len]; omega), if_neg hl]
              · rw [List.getElem?_set_ne hw]
                refine ih ?_
                rcases List.mem_cons.mp h with z | z
                · exact absurd z.symm hw
                · exact z
          rw [key _ _ hjv, key _ _ hjv, List.length_set]
        · have out : ∀ (σ : L2.St) (vs : List Nat), j ∉ vs → (wipe σ vs)[j]? = σ[j]? := by
            intro σ vs
            induction vs with
            | nil => intro _; rfl
            | cons w ws ih =>
              intro h
              show ((wipe σ ws).set w none)[j]? = _
              rw [List.getElem?_set_ne (fun z => h (by rw [z]; exact List.mem_cons_self)), ih fun m => h (List.mem_cons_of_mem _ m)]
          rw [out _ _ hjv, out _ _ hjv, List.getElem?_set_ne hj]
def TBs (X : Cx) (vs : List Nat) : List Expr → List Kd → Tau → (Tau → Prop) → Prop
  | [], [], τ, k => k τ
  | e :: es, y :: ys, τ, k => TB X vs e y τ fun τ1 => TBs X vs es ys τ1 k
  | _, _, _, _ => False
theorem TBs.run {X : Cx} {vs : List Nat} : ∀ {es : List Expr} {ys : List Kd} {τ : Tau} {k : Tau → Prop}, TBs X vs es ys τ k → ∀ (σ : L2.St) (H F R0 R : Hp) (us : List V) (Q : L2.St → Hp → Prop), Ok F R0 R H σ τ → VsOk R H us ys →
    (∀ τ' σ' R' H', k τ' → wipe σ' vs = wipe σ vs → Le R R' → Ok F R0 R' H' σ' τ' → Q σ' H') → tgAll X es us σ H Q
  | [], [], τ, k, h, σ, H, F, R0, R, us, Q, ok, hv, q => by
    cases hv
    exact ⟨rfl, q τ σ R H h rfl (Le.refl R) ok⟩
  | e :: es, y :: ys, τ, k, h, σ, H, F, R0, R, us, Q, ok, hv, q => by
    cases hv with
    | @cons v _ us _ hr ht =>
      have wv : VOk F R H τ v y := ⟨hr.2, fun p o => by
        have hi := hr.1
        cases y with
        | no => exact hi.elim
        | im => exact o.elim
        | ow => exact hi.elim⟩
      exact ⟨v, us, rfl, h σ H F R0 R v _ ok wv fun τ1 σ1 R1 H1 h1 e1 l1 ok1 =>
        TBs.run h1 σ1 H1 F R0 R1 us Q ok1 (ht.up l1) fun τ2 σ2 R2 H2 h2 e2 l2 ok2 => q τ2 σ2 R2 H2 h2 (e2.trans e1) (l1.trans l2) ok2⟩
  | [], _ :: _, _, _, h, _, _, _, _, _, _, _, _, _, _ => h.elim
  | _ :: _, [], _, _, h, _, _, _, _, _, _, _, _, _, _ => h.elim
/-- a clause's tests -/
def semC (X : Cx) (ifs : List Expr) : TT := fun σ H Q => ∀ pins s, Inv X pins σ H s →
  wpAny (model X.prog X.w) X.A (forIn ifs true fun c r => if r = true then do let ok ← isTrue c X.env (eval c X.env); pure (ForInStep.yield ok) else pure (ForInStep.yield r)) (L2.TP X pins σ Q) X.xe s
theorem pts_sem {X : Cx} {ifs : List Expr} : PTs X ifs (semC X ifs) := ⟨fun pins s σ H Q I h => h pins s I⟩
def Cs (X : Cx) (ifs : List Expr) (τ : Tau) (k : Bool → Tau → Prop) : Prop := WT (semC X ifs) τ k
section
variable {G : Gm} {X : Cx} {N : List Str} {sc : Scope} {n : Nat} {τ τ1 : Tau} {k : KK} {y : Kd} {e a b c tg iter elt : Expr} {es elts ifs : List Expr} {pos p tpos : Pos} {vs : List Nat} {kt : Tau → Prop}
theorem TB_name {i : Nat} {x : Str} (hX : XF G X N sc n) (hN : N[i]? = some x) (hl : sc.names.lookup x = some .local) (hv : i ∈ vs) (h : kt (τ.set i y)) : TB X vs (.Name x pos) y τ kt :=
  TB.of (pg_name (i := i) (by rw [hX.eN]; exact hX.nd) (by rw [hX.eN]; exact hN) (hX.loc (.inl hl)) (.inr (by rw [hX.es]; exact hl))) fun σ H F R0 R v Q ok w q => q _ _ R H h (wipe_set_in hv) (Le.refl R) (ok.set' i w)
/-- a block's own name that an inner block reads -/
theorem TB_cell {i : Nat} {x : Str} (hX : XF G X N sc n) (hf : X.fn x = true) (hN : N[i]? = some x) (hl : sc.names.lookup x = some .cell) (hv : i ∈ vs) (h : kt (τ.set i y)) : TB X vs (.Name x pos) y τ kt :=
  TB.of (pg_name (i := i) (by rw [hX.eN]; exact hX.nd) (by rw [hX.eN]; exact hN) (hX.loc (.inr hl)) (.inl hf)) fun σ H F R0 R v Q ok w q => q _ _ R H h (wipe_set_in hv) (Le.refl R) (ok.set' i w)
theorem TB_tup {m : Nat} {ys : List Kd} (hX : XF G X N sc n) (hst : plainTg es = true) (hu : UnT G.K y ys) (h : TBs X vs es ys τ kt) (hlen : ys.length = es.length := by rfl) : TB X vs (.Tuple es m pos) y τ kt := by
  have hplain : ∀ {es : List Expr}, plainTg es = true → ∀ env, (assignEach es env).length = es.length ∧ (assignEach es env).findIdx? (·.1) = none := by
    intro es
    induction es with
    | nil => intro _ env; exact ⟨rfl, rfl⟩
    | cons e es ih =>
      intro h env
      have h' : plainTg es = true := by cases e <;> first | exact h | (simp [plainTg] at h)
      obtain ⟨h1, h2⟩ := ih h' env
      have e1 : assignEach (e :: es) env = (false, assign e env) :: assignEach es env := by cases e <;> first | rfl | (simp [plainTg] at h)
      rw [e1]
      exact ⟨by simp [h1], by rw [List.findIdx?_cons]; simp [h2]⟩
  have hpgs : ∀ {es : List Expr}, plainTg es = true → PGs X es (tgAll X es) := by
    intro es
    induction es with
    | nil => intro _; exact pgs_nil
    | cons e es ih =>
      intro h
      have h' : plainTg es = true := by cases e <;> first | exact h | (simp [plainTg] at h)
      exact pgs_cons pg_sem (ih h') (by cases e <;> first | rfl | (simp [plainTg] at h))
  obtain ⟨h1, h2⟩ := hplain hst X.env
  refine TB.of (pg_tup hX.calm (hpgs hst) h1 h2) fun σ H F R0 R v Q ok w q => ?_
  obtain ⟨p, us, e, hq, hv⟩ := hu R H v ok.le w.rel
  exact ⟨p, us, e, by rw [hX.eK]; exact hq, (vs_len hv).trans hlen, TBs.run h σ H F R0 R us Q ok hv q⟩
theorem Cs_nil {k : Bool → Tau → Prop} (h : k true τ) : Cs X [] τ k := fun σ H F R0 R Q ok q pins s I => pts_nil.run pins s σ H Q I (q true τ R H h (Le.refl R) ok)
theorem Cs_one {k : Bool → Tau → Prop} (h : C X c τ k) : Cs X [c] τ k := fun σ H F R0 R Q ok q pins s I => (pts_one pt_sem).run pins s σ H Q I (h σ H F R0 R Q ok q)
/-- the block's standing is the def's, but for its scope -/
theorem XF.blk (hX : XF G X N sc n) (s : Shared) (H : Hp) (scope : Scope) (Cc : Addr) (cl : List (Str × Addr)) (fp : List Addr) : XF G (X.blk s H scope (compEnvC scope cl Cc X.env) fp) N (relS scope sc) n :=
  ⟨hX.ep, hX.ew, hX.eK, hX.emg, hX.eb, hX.eN, by rw [← hX.es]; rfl, hX.calm, hX.room, hX.nd⟩
/-- frames: with a cell more that must stay -/
theorem Ok.hold {F R0 R H : Hp} {σ : L2.St} {D : Addr} {u : HO} (ok : Ok F R0 R H σ τ) (hR : R D = none) (hH : H D = some u) (nw : ∀ (i : Nat) k, τ[i]? = some k → ¬ owns k D) : Ok (upd F D u) R R H σ τ where
  len := ok.len
  fr := fun a o e => by
    by_cases h : a = D
    · subst h; rw [upd_same] at e; cases e; exact hH
    · rw [upd_ne h] at e; exact ok.fr a o e
  le := ok.le
  r0 := Le.refl R
  nw := fun a h _ => h
  sl := ok.sl
  ff := fun i k p e o => by
    have h : p ≠ D := fun z => nw i k e (by rw [← z]; exact o)
    rw [upd_ne h]; exact ok.ff i k p e o
  inj := ok.inj
  nt := ok.nt
theorem Ok.drop {F R0 R R' H H' : Hp} {σ σ' : L2.St} {τ' : Tau} {D : Addr} {u : HO} (ok : Ok F R0 R H σ τ) (hF : F D = none) (l : Le R R') (ok' : Ok (upd F D u) R R' H' σ' τ') : Ok F R0 R' H' σ' τ' ∧ H' D = some u ∧ (R D = none → R' D = none) ∧ ∀ (i : Nat) k, τ'[i]? = some k → ¬ owns k D := by
  have hsub : Le F (upd F D u) := Le.upd hF
  refine ⟨⟨ok'.len, fun a o e => ok'.fr a o (hsub a o e), ok'.le, ok.r0.trans l, fun a h1 h2 => ?_, ok'.sl, fun i k p e o => ?_, ok'.inj, ok'.nt⟩, ok'.fr D u upd_same, fun h => ok'.nw D h (by rw [upd_same]; simp), fun i k e o => ?_⟩
  · cases hf : F a with
    | none => exact absurd hf h2
    | some o => exact ok'.nw a (ok.nw a h1 h2) (by rw [hsub a o hf]; simp)
  · have h1 := ok'.ff i k p e o
    cases hf : F p with
    | none => rfl
    | some o' => rw [hsub p o' hf] at h1; cases h1
  · have h1 := ok'.ff i k D e o
    rw [upd_same] at h1; cases h1
theorem VOk.drop {F R H : Hp} {τ : Tau} {v : V} {x : Kd} {D : Addr} {u : HO} (hF : F D = none) (w : VOk (upd F D u) R H τ v x) : VOk F R H τ v x := ⟨w.rel, fun p o => ⟨(by
  have h1 := (w.own p o).1
  cases hf : F p with
  | none => rfl
  | some o' => rw [Le.upd (o := u) hF p o' hf] at h1; cases h1), (w.own p o).2⟩⟩
/-- semantic readings of a block's parts, for whatever block it is -/
def gB (X : Cx) (scope : Scope) (tg : Expr) : TG := fun v σ H Q => ∀ s0 H0 Cc cl fp, semG (X.blk s0 H0 scope (compEnvC scope cl Cc X.env) fp) tg v σ H Q
def cB (X : Cx) (scope : Scope) (ifs : List Expr) : TT := fun σ H Q => ∀ s0 H0 Cc cl fp, semC (X.blk s0 H0 scope (compEnvC scope cl Cc X.env) fp) ifs σ H Q
def eB (X : Cx) (scope : Scope) (e : Expr) : TE := fun σ H Q => ∀ s0 H0 Cc cl fp, sem (X.blk s0 H0 scope (compEnvC scope cl Cc X.env) fp) e σ H Q
/-- what a comprehension's turn shows: J by the turn, what is made so far, the slots -/
def LcTurn {β : Type} (G : Gm) (X : Cx) (N : List Str) (sc scope : Scope) (n : Nat) (vs : List Nat) (tg elt : Expr) (ifs : List Expr) (B : DR β) (J : Nat → List β → Tau → Prop) (i : Nat) (y : Kd) : Prop :=
  ∀ (out : List β) (τ' : Tau), J i out τ' → ∀ X', XF G X' N (relS scope sc) n → (∀ x, (scope.names.lookup x == some .cell) = true → X'.fn x = true) → TB X' vs tg y τ' fun τ2 => ∀ X', XF G X' N (relS scope sc) n → Cs X' ifs τ2 fun b τ3 =>
    (b = true → ∀ X', XF G X' N (relS scope sc) n → E X' elt τ3 fun x τ4 => ∃ c, Fz x (.im B c) ∧ out.length < 100000 ∧ J (i + 1) (out ++ [c]) (wipeT τ4 vs)) ∧ (b = false → J (i + 1) out (wipeT τ3 vs))
theorem lc_core' {β : Type} {B : DR β} {scope : Scope} {J : L2.It} {F F' R0 R1 H1 : Hp} {σ : L2.St} {ys : List Kd} {Q : VK} (hX : XF G X N sc n) (hF : Le F F') (hJ : ItOk J F R1 ys) (ok1 : Ok F' R0 R1 H1 σ τ1) (Jv : Nat → List β → Tau → Prop) (h0 : Jv 0 [] (wipeT τ1 vs))
    (hs : ∀ (i : Nat) y, ys[i]? = some y → LcTurn G X N sc scope n vs tg elt ifs B Jv i y)
    (hq : ∀ out τ' R' H' D, Jv ys.length out τ' → Le R1 R' → Ok F' R0 R' H' (wipe σ vs) τ' → VOk F' R' H' τ' (.ref D) (.ow D (cL B) out) → Q (.ref D) H') (D : Addr) (hD : H1 D = none) :
    ∃ Wd : Nat → Nat → Hp → Prop, (∃ m, Wd 0 m (upd H1 D (.lst []))) ∧ ∀ i m H, Wd i m H →
      (J.stop i H ∧ Q (.ref D) H) ∨ (J.go i H ∧ ∃ Nx : Hp → Prop, (∀ H', Nx H' → ∃ m', m' < m ∧ Wd (i + 1) m' H') ∧ ∀ x H', J.yld i H x H' → gB X scope tg x (wipe σ vs) H' fun σ2 H2 => wipe σ2 vs = wipe σ vs ∧ cB X scope ifs σ2 H2 fun b H3 =>
        if b = true then eB X scope elt σ2 H3 fun y H4 => ∃ acc, H4 D = some (.lst acc) ∧ acc.length < sizeLine ∧ Nx (upd H4 D (.lst (acc ++ [y]))) else Nx H3) := by
  obtain ⟨hR1, hF1, hn1⟩ := ok1.fresh hD
  have ww : wipe (wipe σ vs) vs = wipe σ vs := by
    have key : ∀ (σ : L2.St) (us : List Nat), (∀ u ∈ us, u ∈ vs) → wipe (wipe σ us) vs = wipe σ vs := by
      intro σ us
      induction us with
      | nil => intro _; rfl
      | cons u us ih =>
        intro h
        show wipe ((wipe σ us).set u none) vs = _
        rw [wipe_set_in (h u List.mem_cons_self), ih fun w hw => h w (List.mem_cons_of_mem _ hw)]
    exact key σ vs fun _ h => h
  -- the standing at a turn: the new list is not known for good, nor any slot's
  refine ⟨fun i m H => m = ys.length - i ∧ i ≤ ys.length ∧ ∃ out τ' R' acc, Jv i out τ' ∧ Le R1 R' ∧ Ok F' R0 R' H (wipe σ vs) τ' ∧ R' D = none ∧ H D = some (.lst acc) ∧ Paired (B.rel R') acc out ∧ ∀ (i : Nat) k, τ'[i]? = some k → ¬ owns k D,
    ⟨ys.length, by simp, Nat.zero_le _, [], wipeT τ1 vs, R1, [], h0, Le.refl R1, (ok1.new hD).wiped vs, hR1, upd_same, .nil, fun i k e o => ?_⟩, ?_⟩
  · have key : ∀ us : List Nat, ∀ (i : Nat) k, (wipeT τ1 us)[i]? = some k → ¬ owns k D := by
      intro us
      induction us with
      | nil => exact hn1
      | cons u us ih =>
        intro i k e o
        have e' : ((wipeT τ1 us).set u .no)[i]? = some k := e
        by_cases hu : u = i
        · subst hu
          by_cases hv : u < (wipeT τ1 us).length
          · rw [List.getElem?_set_self hv] at e'; cases e'; exact o
          · rw [List.getElem?_eq_none (by simpa using hv)] at e'; cases e'
        · rw [List.getElem?_set_ne hu] at e'
          exact ih i k e' o
    exact key vs i k e o
  · rintro i m H ⟨rfl, hi, out, τ', R', acc, hj, l1, ok, hRD, hHD, hp, hno⟩
    by_cases hlt : i < ys.length
    · refine .inr ⟨hJ.go F' R' H i hF ok.fr l1 ok.le hlt, fun H' => i + 1 ≤ ys.length ∧ ∃ out τ' R' acc, Jv (i + 1) out τ' ∧ Le R1 R' ∧ Ok F' R0 R' H' (wipe σ vs) τ' ∧ R' D = none ∧ H' D = some (.lst acc) ∧ Paired (B.rel R') acc out ∧ ∀ (i : Nat) k, τ'[i]? = some k → ¬ owns k D,
        fun H' ⟨h1, h2⟩ => ⟨ys.length - (i + 1), by omega, rfl, h1, h2⟩, fun x H2 hy => ?_⟩
      have okh := ok.hold (u := .lst acc) hRD hHD hno
      obtain ⟨R2, l2, ok2, im, rel⟩ := hJ.yld (upd F' D (.lst acc)) R' R' H (wipe σ vs) τ' i _ x H2 (fun a o e => Le.upd hF1 a o (hF a o e)) okh l1 (List.getElem?_eq_getElem hlt) hy
      have wv : VOk (upd F' D (.lst acc)) R2 H2 τ' x ys[i] := ⟨rel, fun p o => by
        cases hk : ys[i] with
        | no => rw [hk] at im; exact im.elim
        | im => rw [hk] at o; exact o.elim
        | ow => rw [hk] at im; exact im.elim⟩
      have turn := hs i _ (List.getElem?_eq_getElem hlt) out τ' hj
      intro s0 H0 Cc cl fp
      refine turn _ (hX.blk s0 H0 scope Cc cl fp) (fun x hx => hx) (wipe σ vs) H2 (upd F' D (.lst acc)) R' R2 x _ ok2 wv fun τ3 σ3 R3 H3 h3 e3 l3 ok3 => ⟨e3.trans ww, ?_⟩
      intro s1 H01 Cc1 cl1 fp1
      have l13 := (l1.trans l2).trans l3
      -- the next turn's standing, from a state of this one
      have next : ∀ {τ4 : Tau} {σ4 : L2.St} {R4 H4 : Hp} {out' : List β} {acc' : List V}, wipe σ4 vs = wipe σ vs → Le R' R4 → Ok (upd F' D (.lst acc)) R' R4 H4 σ4 τ4 → Jv (i + 1) out' (wipeT τ4 vs) →
          Ok F' R0 R4 H4 (wipe σ vs) (wipeT τ4 vs) ∧ H4 D = some (.lst acc) ∧ R4 D = none ∧ ∀ (i : Nat) k, (wipeT τ4 vs)[i]? = some k → ¬ owns k D := fun {τ4 σ4 R4 H4 out' acc'} ew l4 ok4 _ => by
        have okw := ok4.wiped vs
        rw [ew] at okw
        obtain ⟨a1, a2, a3, a4⟩ := ok.drop hF1 l4 okw
        exact ⟨a1, a2, a3 hRD, a4⟩
      refine h3 _ (hX.blk s1 H01 scope Cc1 cl1 fp1) σ3 H3 (upd F' D (.lst acc)) R' R3 _ ok3 fun b τ4 R4 H4 ⟨ht, hf⟩ l4 ok4 => ?_
      cases b with
      | false =>
        refine iteF ?_
        have hj4 := hf rfl
        obtain ⟨a1, a2, a3, a4⟩ := next (acc' := acc) (e3.trans ww) ((l2.trans l3).trans l4) ok4 hj4
        exact ⟨hlt, out, _, R4, acc, hj4, l13.trans l4, a1, a3, a2, paired_up B ((l2.trans l3).trans l4) hp, a4⟩
      | true =>
        refine iteT ?_
        intro s2 H02 Cc2 cl2 fp2
        refine ht rfl _ (hX.blk s2 H02 scope Cc2 cl2 fp2) σ3 H4 (upd F' D (.lst acc)) R' R4 _ ok4 fun x5 τ5 v5 R5 H5 ⟨c, fz, hz, hj5⟩ l5 ok5 w5 => ?_
        obtain ⟨R6, l6, ok6, rel6⟩ := fz_rel ok5 w5 fz
        have l26 := ((l2.trans l3).trans l4).trans (l5.trans l6)
        obtain ⟨a1, a2, a3, a4⟩ := next (acc' := acc) (e3.trans ww) l26 ok6 hj5
        refine ⟨acc, a2, by rw [sizeLine_eq, PySem.Paired.length hp]; omega, hlt, out ++ [c], _, R6, acc ++ [v5], hj5, l1.trans l26, ?_, a3, upd_same, (paired_up B l26 hp).snoc rel6, a4⟩
        -- the new list grows
        refine ⟨a1.len, fun a o e => ?_, fun a o e => ?_, a1.r0, a1.nw, fun j kd e => ?_, a1.ff, a1.inj, a1.nt⟩
        · have hn : a ≠ D := fun z => by rw [z, hF1] at e; cases e
          rw [upd_ne hn]; exact a1.fr a o e
        · have hn : a ≠ D := fun z => by rw [z, a3] at e; cases e
          rw [upd_ne hn]; exact a1.le a o e
        · rcases a1.sl j kd e with z | ⟨v, hv, r⟩
          · exact .inl z
          · refine .inr ⟨v, hv, ?_⟩
            cases kd with
            | no => trivial
            | im A a => exact r
            | ow q C c =>
              obtain ⟨e1, e2, o, e4, e5⟩ := r
              exact ⟨e1, e2, o, by rw [upd_ne (fun z => a4 j _ e z)]; exact e4, e5⟩
    · have e : i = ys.length := by omega
      subst e
      refine .inl ⟨hJ.stop F' R' H hF ok.fr l1 ok.le, hq out τ' R' H D hj l1 ok ⟨⟨rfl, hRD, _, hHD, acc, rfl, hp⟩, fun p o => ?_⟩⟩
      cases o
      exact ⟨hF1, hno⟩
end
end T
end
section
set_option Elab.async false
set_option linter.all false
set_option autoImplicit false
set_option maxRecDepth 100000
set_option maxHeartbeats 2000000
namespace T
open PySem PySem.Spec PyProof.Rows L2 RZ
section
variable {G : Gm} {X : Cx} {N : List Str} {sc : Scope} {n : Nat} {τ τ1 : Tau} {k : KK} {P : Po} {y : Kd} {e a b c tg iter elt kx vx : Expr} {es elts ifs : List Expr} {pos p tpos spos py : Pos} {vs : List Nat} {kt : Tau → Prop} {scope : Scope} {own : List (Str × Nat)}
/-- [elt for tg in iter if ..] -/
theorem E_lc {β : Type} (B : DR β) (hX : XF G X N sc n) (ok : blkC N sc scope own = true)
    (h : It X tg iter τ fun ys τ1 => ∃ J : Nat → List β → Tau → Prop, J 0 [] (wipeT τ1 (own.map (·.2))) ∧ (∀ (i : Nat) y, ys[i]? = some y → LcTurn G X N sc scope n (own.map (·.2)) tg elt ifs B J i y) ∧
      ∀ out τ', J ys.length out τ' → ∀ p, k (.ow p (cL B) out) τ') (hs : ∀ x, foldedSetIterable iter X.env x = pure x := by intro _; rfl) : E X (.ListComp elt [⟨tg, iter, ifs, 0⟩] scope pos) τ k :=
  E.of (pe_lc (own := own) (g := gB X scope tg) (tt := cB X scope ifs) (te := eB X scope elt) hX.calm (by rw [hX.eN]; exact hX.nd) pi_sem (by rw [hX.eN, hX.es]; exact blkOk_by ok)
    (fun s H C cl fp => ⟨fun pins s' σ H' v u Q I r hq => hq s H C cl fp pins s' u I r⟩) (fun s H C cl fp => ⟨fun pins s' σ H' Q I hq => hq s H C cl fp pins s' I⟩) (fun s H C cl fp => ⟨fun pins s' σ H' Q I hq => hq s H C cl fp pins s' I⟩) hs) fun σ H F R0 R Q ok q =>
    h σ H F R0 R _ ok fun J ys τ1 R1 H1 ⟨Jv, h0, hs', hd⟩ l1 ok1 hJ D hD =>
      lc_core' hX (Le.refl F) hJ ok1 Jv h0 hs' (fun out τ' R' H' D hj l ok' w => q _ τ' (.ref D) R' H' (hd out τ' hj D) (l1.trans l) (by
        -- the def's own slots again: what the block named is forgotten
        refine ⟨?_, ok'.fr, ok'.le, ok'.r0, ok'.nw, fun i kd e => ?_, ok'.ff, ok'.inj, ok'.nt⟩
        · have := ok'.len
          rw [wipe_length] at this
          exact this
        · rcases ok'.sl i kd e with z | ⟨v, hv, r⟩
          · exact .inl z
          · refine .inr ⟨v, ?_, r⟩
            cases hw : (wipe σ (own.map (·.2)))[i]? with
            | none => rw [hw] at hv; cases hv
            | some u =>
              rw [hw] at hv
              have hu : u = some v := hv
              subst hu
              rw [(wipe_some hw).1]
              rfl) w) D hD
/-- name = [..] on one line -/
theorem S1_setLc {β : Type} (B : DR β) {i : Nat} {x : Str} (hX : XF G X N sc n) (hN : N[i]? = some x) (hl : sc.names.lookup x = some .local) (hk : sc.kind = .function) (ok : blkC N sc scope own = true) (hline : (py.line == pos.line) = true)
    (ha : (scope.names.any fun (m, k) => m == x && (k == .local || k == .cell)) = false)
    (h : It X tg iter τ fun ys τ1 => ∃ J : Nat → List β → Tau → Prop, J 0 [] (wipeT τ1 (own.map (·.2))) ∧ (∀ (i : Nat) y, ys[i]? = some y → LcTurn G X N sc scope n (own.map (·.2)) tg elt ifs B J i y) ∧
      ∀ out τ', J ys.length out τ' → ∀ p, P.nx (τ'.set i (.ow p (cL B) out))) (hs : ∀ x, foldedSetIterable iter X.env x = pure x := by intro _; rfl) : S1 X (.Assign [.Name x py] (.ListComp elt [⟨tg, iter, ifs, 0⟩] scope pos) spos) τ P :=
  S1.of (ps_setLc (i := i) (own := own) (g := gB X scope tg) (tt := cB X scope ifs) (te := eB X scope elt) hX.calm (by rw [hX.eN]; exact hX.nd) (by rw [hX.eN]; exact hN) (by rw [hX.es]; exact hl)
    (sw_true (by rw [hX.es]; exact hk) (by rw [hX.es]; exact hl) hline ha) pi_sem (by rw [hX.eN, hX.es]; exact blkOk_by ok)
    (fun s H C cl fp => ⟨fun pins s' σ H' v u Q I r hq => hq s H C cl fp pins s' u I r⟩) (fun s H C cl fp => ⟨fun pins s' σ H' Q I hq => hq s H C cl fp pins s' I⟩) (fun s H C cl fp => ⟨fun pins s' σ H' Q I hq => hq s H C cl fp pins s' I⟩) hs) fun σ H F R0 R D ok q =>
    h σ H F R0 R _ ok fun J ys τ1 R1 H1 ⟨Jv, h0, hs', hd⟩ l1 ok1 hJ Dl hD =>
      lc_core' (Q := fun v H' => gName i v σ H' D.nx) hX (Le.refl F) hJ ok1 Jv h0 hs' (fun out τ' R' H' Dl hj l ok' w => q.nx _ _ R' H' (hd out τ' hj Dl) (l1.trans l) (Ok.set' (by
        refine ⟨?_, ok'.fr, ok'.le, ok'.r0, ok'.nw, fun i kd e => ?_, ok'.ff, ok'.inj, ok'.nt⟩
        · have := ok'.len
          rw [wipe_length] at this
          exact this
        · rcases ok'.sl i kd e with z | ⟨v, hv, r⟩
          · exact .inl z
          · refine .inr ⟨v, ?_, r⟩
            cases hw : (wipe σ (own.map (·.2)))[i]? with
            | none => rw [hw] at hv; cases hv
            | some u =>
              rw [hw] at hv
              have hu : u = some v := hv
              subst hu
              rw [(wipe_some hw).1]
              rfl) i w)) Dl hD
/-! ### what a name's cell does -/
theorem Ok.cell {F R0 R H : Hp} {σ : L2.St} {j : Nat} {γ : Type} {p : Addr} {C : CR γ} {c : γ} (ok : Ok F R0 R H σ τ) (ht : τ[j]? = some (.ow p C c)) : σ[j]? = some (some (.ref p)) ∧ R p = none ∧ F p = none ∧ ∃ o, H p = some o ∧ C.rel R o c := by
  rcases ok.sl j _ ht with z | ⟨v, hv, e1, e2, o, e3, e4⟩
  · cases z
  · refine ⟨?_, e2, ok.ff j _ p ht rfl, o, e3, e4⟩
    cases hs : σ[j]? with
    | none => rw [hs] at hv; cases hv
    | some u => rw [hs] at hv; rw [show u = some v from hv, e1]
theorem Ok.write {F R0 R H : Hp} {σ : L2.St} {j : Nat} {γ δ : Type} {p : Addr} {C : CR γ} {c : γ} {C' : CR δ} {c' : δ} {o' : HO} (ok : Ok F R0 R H σ τ) (ht : τ[j]? = some (.ow p C c)) (hr : C'.rel R o' c') :
    Ok F R0 R (upd H p o') σ (τ.set j (.ow p C' c')) := by
  obtain ⟨hs, hR, hF, o, hH, hc⟩ := ok.cell ht
  have hj : j < τ.length := (List.getElem?_eq_some_iff.mp ht).1
  refine ⟨by rw [List.length_set]; exact ok.len, fun a u e => ?_, fun a u e => ?_, ok.r0, ok.nw, fun i kd e => ?_, fun i kd q e oq => ?_, fun i l k m q e1 e2 o1 o2 => ?_, ok.nt⟩
  · have hn : a ≠ p := fun z => by rw [z, hF] at e; cases e
    rw [upd_ne hn]; exact ok.fr a u e
  · have hn : a ≠ p := fun z => by rw [z, hR] at e; cases e
    rw [upd_ne hn]; exact ok.le a u e
  · by_cases hi : j = i
    · subst hi
      rw [List.getElem?_set_self hj] at e
      cases e
      exact .inr ⟨.ref p, by rw [hs]; rfl, rfl, hR, o', upd_same, hr⟩
    · rw [List.getElem?_set_ne hi] at e
      rcases ok.sl i kd e with z | ⟨v, hv, r⟩
      · exact .inl z
      · refine .inr ⟨v, hv, ?_⟩
        cases kd with
        | no => trivial
        | im A a => exact r
        | ow q C2 c2 =>
          obtain ⟨e1, e2, o2, e3, e4⟩ := r
          have hq : q ≠ p := fun z => hi (ok.inj j i _ _ p ht e rfl z)
          exact ⟨e1, e2, o2, by rw [upd_ne hq]; exact e3, e4⟩
  · by_cases hi : j = i
    · subst hi
      rw [List.getElem?_set_self hj] at e
      cases e
      cases oq
      exact hF
    · rw [List.getElem?_set_ne hi] at e
      exact ok.ff i kd q e oq
  · have key : ∀ (i : Nat) kd, (τ.set j (.ow p C' c'))[i]? = some kd → ∃ kd0, τ[i]? = some kd0 ∧ ∀ q, owns kd q → owns kd0 q := fun i kd e => by
      by_cases hi : j = i
      · subst hi
        rw [List.getElem?_set_self hj] at e
        cases e
        exact ⟨_, ht, fun q h => h⟩
      · rw [List.getElem?_set_ne hi] at e
        exact ⟨kd, e, fun q h => h⟩
    obtain ⟨k0, a1, b1⟩ := key i k e1
    obtain ⟨m0, a2, b2⟩ := key l m e2
    exact ok.inj i l k0 m0 q a1 a2 (b1 q o1) (b2 q o2)
theorem pn {j : Nat} {x : Str} (hX : XF G X N sc n) (hN : N[j]? = some x) (hv : Vis sc x) (hd : (x == ("__debug__" : Str)) = false) (hcd : (x == ("__classdict__" : Str)) = false) : PE X (.Name x p) (tVar j) :=
  pe_var (i := j) (by rw [hX.eN]; exact hN) (hX.vis hv) hd hcd
/-- name.append(e), the name's list still its own -/
theorem E_append {j : Nat} {x : Str} {α : Type} {A : DR α} {q : Addr} {l0 : List α} {apos cpos : Pos} (hX : XF G X N sc n) (hN : N[j]? = some x) (hv : Vis sc x) (hse : noStar [e] = true) (ht : τ[j]? = some (.ow q (cL A) l0))
    (h : E X e τ fun y τ1 => ∃ a, Fz y (.im A a) ∧ ∃ l, τ1[j]? = some (.ow q (cL A) l) ∧ l.length < 100000 ∧ k (.im rN ()) (τ1.set j (.ow q (cL A) (l ++ [a]))))
    (hbase : attributeBase (.Name x p) "append" X.env (eval (.Name x p) X.env) = eval (.Name x p) X.env := by rfl) (hline : (apos.endLine == cpos.line) = true := by rfl)
    (hfew : ((backTo cpos (starEach [e] X.env)).all (fun x => !x.1) && (backToKw cpos (keywordEach [] X.env)).all (fun x => x.1.isSome) && decide ([e].length + ([] : List Keyword).length + (if ([] : List Keyword).isEmpty then 0 else 1) < 30)) = true := by rfl)
    (hd : (x == ("__debug__" : Str)) = false := by decide) (hcd : (x == ("__classdict__" : Str)) = false := by decide) : E X (.Call (.Attribute (.Name x p) "append" apos) [e] [] cpos) τ k := by
  have st := star_of (env := X.env) hse e [] (List.suffix_refl _)
  refine E.of (pe_bm PySem.F.plainAttrs_list PySem.F.slot_list_append PySem.F.type_list_append mt_append (pn hX hN hv hd hcd) (pa_cons pe_sem pa_nil st) hbase hfew hline st (by rfl)) ?_
  intro σ H F R0 R Q ok qq
  obtain ⟨hs, hR, hF, o, hH, xs, eo, hp⟩ := ok.cell ht
  subst eo
  refine ⟨.ref q, hs, .inl ⟨rfl, xs, .inl (.inl hH)⟩, ?_⟩
  refine h σ H F R0 R _ ok fun y τ1 v R1 H1 ⟨a, fz, l, ht1, hz, hk⟩ l1 ok1 w1 => ?_
  obtain ⟨R2, l2, ok2, r2⟩ := fz_rel ok1 w1 fz
  obtain ⟨hs2, hR2, hF2, o2, hH2, xs2, eo2, hp2⟩ := ok2.cell ht1
  subst eo2
  refine ⟨q, xs2, v, rfl, rfl, hH2, by rw [sizeLine_eq, PySem.Paired.length hp2]; omega, ?_⟩
  exact qq _ _ .non R2 _ hk (l1.trans l2) (ok2.write ht1 ⟨xs2 ++ [v], rfl, hp2.snoc r2⟩) (VOk.im rfl)
/-- name.pop(e) -/
theorem E_popAt {j : Nat} {x : Str} {α : Type} {A : DR α} {q : Addr} {l0 : List α} {apos cpos : Pos} (hX : XF G X N sc n) (hN : N[j]? = some x) (hv : Vis sc x) (hse : noStar [e] = true) (ht : τ[j]? = some (.ow q (cL A) l0))
    (h : E X e τ fun y τ1 => ∃ i, Fz y (.im rI i) ∧ ∃ l a, τ1[j]? = some (.ow q (cL A) l) ∧ 0 ≤ i ∧ i < 100000 ∧ l[i.toNat]? = some a ∧ k (.im A a) (τ1.set j (.ow q (cL A) (l.eraseIdx i.toNat))))
    (hbase : attributeBase (.Name x p) "pop" X.env (eval (.Name x p) X.env) = eval (.Name x p) X.env := by rfl) (hline : (apos.endLine == cpos.line) = true := by rfl)
    (hfew : ((backTo cpos (starEach [e] X.env)).all (fun x => !x.1) && (backToKw cpos (keywordEach [] X.env)).all (fun x => x.1.isSome) && decide ([e].length + ([] : List Keyword).length + (if ([] : List Keyword).isEmpty then 0 else 1) < 30)) = true := by rfl)
    (hd : (x == ("__debug__" : Str)) = false := by decide) (hcd : (x == ("__classdict__" : Str)) = false := by decide) : E X (.Call (.Attribute (.Name x p) "pop" apos) [e] [] cpos) τ k := by
  have st := star_of (env := X.env) hse e [] (List.suffix_refl _)
  refine E.of (pe_bm PySem.F.plainAttrs_list PySem.F.slot_list_pop PySem.F.type_list_pop mt_popAt (pn hX hN hv hd hcd) (pa_cons pe_sem pa_nil st) hbase hfew hline st (by rfl)) ?_
  intro σ H F R0 R Q ok qq
  obtain ⟨hs, hR, hF, o, hH, xs, eo, hp⟩ := ok.cell ht
  subst eo
  refine ⟨.ref q, hs, .inl ⟨rfl, xs, .inl (.inl hH)⟩, ?_⟩
  refine h σ H F R0 R _ ok fun y τ1 v R1 H1 ⟨i, fz, l, a, ht1, h0, hz, hi, hk⟩ l1 ok1 w1 => ?_
  obtain ⟨R2, l2, ok2, r2⟩ := fz_rel ok1 w1 fz
  cases r2
  obtain ⟨hs2, hR2, hF2, o2, hH2, xs2, eo2, hp2⟩ := ok2.cell ht1
  subst eo2
  have hlen := PySem.Paired.length hp2
  have hlt : i.toNat < l.length := (List.getElem?_eq_some_iff.mp hi).1
  have hx : xs2[i.toNat]? = some xs2[i.toNat] := List.getElem?_eq_getElem (by omega)
  refine ⟨q, xs2, i, i.toNat, xs2[i.toNat], rfl, rfl, hH2, by omega, by omega, ?_, hx, ?_⟩
  · exact seqIndex_of h0 (by omega)
  · have hr : A.rel R2 xs2[i.toNat] a := paired_get' hp2 _ _ _ hx hi
    have her : ∀ {xs : List V} {l : List α} (m : Nat), Paired (A.rel R2) xs l → Paired (A.rel R2) (xs.eraseIdx m) (l.eraseIdx m) := by
      intro xs l m hp
      induction hp generalizing m with
      | nil => exact .nil
      | cons r t ih => cases m with
        | zero => exact t
        | succ m => exact .cons r (ih m)
    exact qq _ _ _ R2 _ hk (l1.trans l2) (ok2.write ht1 ⟨_, rfl, her _ hp2⟩) (VOk.im hr)
/-! ### dicts with whole keys -/
def dget {β : Type} (d : List (Int × β)) (i : Int) : Option β := (d.find? fun c => decide (c.1 = i)).map (·.2)
def dput {β : Type} (d : List (Int × β)) (i : Int) (b : β) : List (Int × β) := if (d.any fun c => decide (c.1 = i)) = true then d.map (fun c => if c.1 = i then (c.1, b) else c) else d ++ [(i, b)]
def ddrop {β : Type} (d : List (Int × β)) (i : Int) : List (Int × β) := d.filter fun c => decide (c.1 ≠ i)
theorem kvs_dec {a : Key} {b i : Int} (h : a = .inl b) : decide (a = (.inl i : Key)) = decide (b = i) := by
  subst h
  rw [Bool.eq_iff_iff]
  simp
theorem kvs_find {β : Type} {B : DR β} {R : Hp} {kvs : List (Key × V)} {d : List (Int × β)} (h : KVs B R kvs d) (i : Int) : match dget d i with
    | none => valV kvs (.inl i : Key) = none
    | some b => ∃ v, valV kvs (.inl i : Key) = some v ∧ B.rel R v b := by
  unfold KVs at h
  induction h with
  | nil => exact rfl
  | @cons p c kvs d r t ih =>
    have e := kvs_dec (i := i) r.1
    by_cases hc : c.1 = i
    · have h1 : dget (c :: d) i = some c.2 := by unfold dget; rw [List.find?_cons]; simp [hc]
      rw [h1]
      exact ⟨p.2, valV_pos (by rw [r.1, hc]), r.2⟩
    · have h1 : dget (c :: d) i = dget d i := by unfold dget; rw [List.find?_cons]; simp [hc]
      rw [h1]
      have h2 : valV (p :: kvs) (.inl i : Key) = valV kvs (.inl i) := valV_neg (by rw [r.1]; intro z; exact hc (Sum.inl.inj z))
      rw [h2]
      exact ih
theorem kvs_put {β : Type} {B : DR β} {R : Hp} {kvs : List (Key × V)} {d : List (Int × β)} (h : KVs B R kvs d) (i : Int) {v : V} {b : β} (hr : B.rel R v b) : KVs B R (putK kvs (.inl i : Key) v) (dput d i b) := by
  have hany : ∀ {kvs : List (Key × V)} {d : List (Int × β)}, KVs B R kvs d → (kvs.any fun kv => decide (kv.1 = (.inl i : Key))) = (d.any fun c => decide (c.1 = i)) := by
    intro kvs d h
    unfold KVs at h
    induction h with
    | nil => rfl
    | cons r t ih => rw [List.any_cons, List.any_cons, ih, kvs_dec r.1]
  have hmap : ∀ {kvs : List (Key × V)} {d : List (Int × β)}, KVs B R kvs d → KVs B R (kvs.map fun kv => if kv.1 = (.inl i : Key) then (kv.1, v) else kv) (d.map fun c => if c.1 = i then (c.1, b) else c) := by
    intro kvs d h
    unfold KVs at h ⊢
    induction h with
    | nil => exact .nil
    | @cons p c kvs d r t ih =>
      refine .cons ?_ ih
      by_cases hc : c.1 = i
      · have hp : p.1 = (.inl i : Key) := by rw [r.1, hc]
        show (if p.1 = (.inl i : Key) then (p.1, v) else p).1 = .inl (if c.1 = i then (c.1, b) else c).1 ∧ B.rel R (if p.1 = (.inl i : Key) then (p.1, v) else p).2 (if c.1 = i then (c.1, b) else c).2
        rw [if_pos hp, if_pos hc]; exact ⟨r.1, hr⟩
      · have hp : ¬ p.1 = (.inl i : Key) := by rw [r.1]; intro z; exact hc (Sum.inl.inj z)
        show (if p.1 = (.inl i : Key) then (p.1, v) else p).1 = .inl (if c.1 = i then (c.1, b) else c).1 ∧ B.rel R (if p.1 = (.inl i : Key) then (p.1, v) else p).2 (if c.1 = i then (c.1, b) else c).2
        rw [if_neg hp, if_neg hc]; exact r
  unfold putK dput
  rw [hany h]
  split
  · exact hmap h
  · exact PySem.Paired.snoc h ⟨rfl, hr⟩
theorem kvs_drop {β : Type} {B : DR β} {R : Hp} {kvs : List (Key × V)} {d : List (Int × β)} (h : KVs B R kvs d) (i : Int) : KVs B R (dropK kvs (.inl i : Key)) (ddrop d i) := by
  unfold KVs dropK ddrop at *
  induction h with
  | nil => exact .nil
  | @cons p c kvs d r t ih =>
    rw [List.filter_cons, List.filter_cons]
    by_cases hc : c.1 = i
    · rw [if_neg (by rw [r.1, hc]; simp), if_neg (by simp [hc])]; exact ih
    · rw [if_pos (by rw [r.1]; simpa using hc), if_pos (by simpa using hc)]; exact .cons r ih
def DOf {β : Type} (x : Kd) (B : DR β) (d : List (Int × β)) : Prop := ∀ R H v, LeR R H → x.rel R H v → ∃ p kvs, v = .ref p ∧ Rd H p (.dK kvs) ∧ KVs B R kvs d
theorem dof_im {β : Type} {B : DR β} {d : List (Int × β)} : DOf (.im (rD B) d) B d := fun R H v l ⟨p, kvs, e, h, hp⟩ => ⟨p, kvs, e, l.rd (.inl h), hp⟩
theorem dof_ow {β : Type} {B : DR β} {d : List (Int × β)} {q : Addr} : DOf (.ow q (cD B) d) B d := fun R H v l ⟨e, hR, o, ho, kvs, eo, hp⟩ => ⟨q, kvs, e, .inl (by rw [ho, eo]), hp⟩
theorem dget_rd {H : Hp} {p : Addr} {kvs : List (Key × V)} {i : Int} (h : Rd H p (.dK kvs)) : DGet H p (.int i) (valV kvs (.inl i : Key)) := .inl ⟨kvs, .inl i, h, rfl, rfl⟩
/-- d[e], there -/
theorem E_dget {β : Type} {B : DR β} (hX : XF G X N sc n) (hs : NoSl b) (h : T.P X a τ fun pl τ1 => E X b τ1 fun y τ2 => ∃ i, Fz y (.im rI i) ∧ ∃ x d c, pl.kd τ2 = some x ∧ DOf x B d ∧ dget d i = some c ∧ k (.im B c) τ2) : E X (.Subscript a b pos) τ k :=
  E.of (pe_dget hX.hu pe_sem pe_sem hs) fun σ H F R0 R Q ok q => h σ H F R0 R _ ok fun pl τ1 v R1 H1 hb l1 ok1 at1 => hb σ H1 F R0 R1 _ ok1 fun y τ2 u R2 H2 ⟨i, fz, x, d, c, ex, hd, hg, hk⟩ l2 ok2 w2 => by
    obtain ⟨R3, l3, ok3, r3⟩ := fz_rel ok2 w2 fz
    cases r3
    obtain ⟨pa, kvs, e1, h1, h2⟩ := hd R3 H2 v ok3.le (Pl.rel ok3 (Pl.up (l2.trans l3) at1) ex)
    have hf := kvs_find h2 i
    rw [hg] at hf
    obtain ⟨u, e3, e4⟩ := hf
    exact ⟨pa, u, e1, by rw [← e3]; exact dget_rd h1, q _ τ2 u R3 H2 hk ((l1.trans l2).trans l3) ok3 (VOk.im e4)⟩
/-- d.get(e, f) -/
theorem E_dget2 {β : Type} {B : DR β} {apos cpos : Pos} (hX : XF G X N sc n) (m : M2 X a "get" apos b c cpos)
    (h : T.P X a τ fun pl τ1 => (∃ x d, pl.kd τ1 = some x ∧ DOf x B d) ∧ E X b τ1 fun y τ2 => ∃ i, Fz y (.im rI i) ∧ E X c τ2 fun z τ3 => ∃ w, Fz z (.im B w) ∧ ∃ x d, pl.kd τ3 = some x ∧ DOf x B d ∧ k (.im B ((dget d i).getD w)) τ3) :
    E X (.Call (.Attribute a "get" apos) [b, c] [] cpos) τ k :=
  E.of (pe_dget2 hX.hu pe_sem pe_sem pe_sem m) fun σ H F R0 R Q ok q => h σ H F R0 R _ ok fun pl τ1 v R1 H1 ⟨⟨x0, d0, ex0, hd0⟩, hb⟩ l1 ok1 at1 => by
    obtain ⟨pa, kvs0, e1, h1, h2⟩ := hd0 R1 H1 v ok1.le (Pl.rel ok1 at1 ex0)
    refine ⟨pa, e1, .inl ⟨kvs0, h1⟩, ?_⟩
    refine hb σ H1 F R0 R1 _ ok1 fun y τ2 u R2 H2 ⟨i, fz, hc⟩ l2 ok2 w2 => ?_
    obtain ⟨R3, l3, ok3, r3⟩ := fz_rel ok2 w2 fz
    cases r3
    refine hc σ H2 F R0 R3 _ ok3 fun z τ3 u3 R4 H4 ⟨w, fz', x, d, ex, hd, hk⟩ l4 ok4 w4 => ?_
    obtain ⟨R5, l5, ok5, r5⟩ := fz_rel ok4 w4 fz'
    have lt := (l2.trans l3).trans (l4.trans l5)
    obtain ⟨pa', kvs, e3, h3, h4⟩ := hd R5 H4 v ok5.le (Pl.rel ok5 (Pl.up lt at1) ex)
    rw [e1] at e3
    cases e3
    have hf := kvs_find h4 i
    refine ⟨valV kvs (.inl i : Key), dget_rd h3, ?_⟩
    cases hg : dget d i with
    | none =>
      rw [hg] at hf hk
      rw [hf]
      exact q _ τ3 _ R5 H4 hk (l1.trans lt) ok5 (VOk.im r5)
    | some b' =>
      rw [hg] at hf hk
      obtain ⟨u', e5, e6⟩ := hf
      rw [e5]
      exact q _ τ3 _ R5 H4 hk (l1.trans lt) ok5 (VOk.im e6)
/-- e in d, e not in d: as a value, as a test -/
theorem W_din {β : Type} {B : DR β} (neg : Bool) (h : E X a τ fun y τ1 => ∃ i, Fz y (.im rI i) ∧ T.P X b τ1 fun pl τ2 => ∃ x d, pl.kd τ2 = some x ∧ DOf x B d ∧ k (.im rB (if neg then !(dget d i).isSome else (dget d i).isSome)) τ2) :
    W (if neg then tDNotIn (sem X a) (sem X b) else tDIn (sem X a) (sem X b)) τ k := fun σ H F R0 R Q ok q => by
  have main : sem X a σ H fun y H1 => sem X b σ H1 fun x H2 => ∃ a o, x = .ref a ∧ DGet H2 a y o ∧ Q (.bl (if neg then !o.isSome else o.isSome)) H2 :=
    h σ H F R0 R _ ok fun y τ1 v R1 H1 ⟨i, fz, hb⟩ l1 ok1 w1 => by
      obtain ⟨R2, l2, ok2, r2⟩ := fz_rel ok1 w1 fz
      cases r2
      refine hb σ H1 F R0 R2 _ ok2 fun pl τ2 u R3 H3 ⟨x, d, ex, hd, hk⟩ l3 ok3 at3 => ?_
      obtain ⟨pa, kvs, e1, h1, h2⟩ := hd R3 H3 u ok3.le (Pl.rel ok3 at3 ex)
      have hf := kvs_find h2 i
      refine ⟨pa, valV kvs (.inl i : Key), e1, dget_rd h1, ?_⟩
      have hi : (valV kvs (.inl i : Key)).isSome = (dget d i).isSome := by
        cases hg : dget d i with
        | none => rw [hg] at hf; rw [hf]; rfl
        | some b' => rw [hg] at hf; obtain ⟨u', e5, _⟩ := hf; rw [e5]; rfl
      rw [hi]
      exact q _ τ2 _ R3 H3 hk ((l1.trans l2).trans l3) ok3 (VOk.im rfl)
  cases neg with
  | true => exact main
  | false => exact main
theorem C_din {β : Type} {B : DR β} (hX : XF G X N sc n) {kt : Bool → Tau → Prop} (h : E X a τ fun y τ1 => ∃ i, Fz y (.im rI i) ∧ T.P X b τ1 fun pl τ2 => ∃ x d, pl.kd τ2 = some x ∧ DOf x B d ∧ kt (dget d i).isSome τ2) (hm : behindInMarks .In b = false := by rfl) : C X (.Compare a [.In] [b] pos) τ kt :=
  C.of (pt_cmp (pc_din hX.hu pe_sem pe_sem) hm) fun σ H F R0 R Q ok q => W_din (B := B) (k := fun x τ' => ∃ c, x = .im rB c ∧ kt c τ') false (h.mono fun y τ1 ⟨i, fz, hb⟩ => ⟨i, fz, fun σ H F R0 R Q ok q => hb σ H F R0 R Q ok fun pl τ2 v R' H' ⟨x, d, e1, e2, e3⟩ l ok' at' => q pl τ2 v R' H' ⟨x, d, e1, e2, _, rfl, e3⟩ l ok' at'⟩) σ H F R0 R _ ok fun x τ1 v R1 H1 ⟨c, ex, hk⟩ l1 ok1 w1 => by
      subst ex
      exact ⟨c, w1.rel, q c τ1 R1 H1 hk l1 ok1⟩
theorem C_dnin {β : Type} {B : DR β} (hX : XF G X N sc n) {kt : Bool → Tau → Prop} (h : E X a τ fun y τ1 => ∃ i, Fz y (.im rI i) ∧ T.P X b τ1 fun pl τ2 => ∃ x d, pl.kd τ2 = some x ∧ DOf x B d ∧ kt (!(dget d i).isSome) τ2) (hm : behindInMarks .NotIn b = false := by rfl) : C X (.Compare a [.NotIn] [b] pos) τ kt :=
  C.of (pt_cmp (pc_dnotin hX.hu pe_sem pe_sem) hm) fun σ H F R0 R Q ok q => W_din (B := B) (k := fun x τ' => ∃ c, x = .im rB c ∧ kt c τ') true (h.mono fun y τ1 ⟨i, fz, hb⟩ => ⟨i, fz, fun σ H F R0 R Q ok q => hb σ H F R0 R Q ok fun pl τ2 v R' H' ⟨x, d, e1, e2, e3⟩ l ok' at' => q pl τ2 v R' H' ⟨x, d, e1, e2, _, rfl, e3⟩ l ok' at'⟩) σ H F R0 R _ ok fun x τ1 v R1 H1 ⟨c, ex, hk⟩ l1 ok1 w1 => by
      subst ex
      exact ⟨c, w1.rel, q c τ1 R1 H1 hk l1 ok1⟩
/-- name[e] = v, the name's dict still its own -/
theorem S1_dput {j : Nat} {x : Str} {β : Type} {B : DR β} {q : Addr} {pos' : Pos} (hX : XF G X N sc n) (hN : N[j]? = some x) (hv : Vis sc x)
    (h : E X c τ fun z τ1 => ∃ w, Fz z (.im B w) ∧ ∃ d0, τ1[j]? = some (.ow q (cD B) d0) ∧ E X b τ1 fun y τ2 => ∃ i, Fz y (.im rI i) ∧ ∃ d, τ2[j]? = some (.ow q (cD B) d) ∧ d.length < 100000 ∧ P.nx (τ2.set j (.ow q (cD B) (dput d i w))))
    (hs : swapsWith c (some (.Subscript (.Name x p) b pos')) pos.line X.env = pure false := by rfl) (hd : (x == ("__debug__" : Str)) = false := by decide) (hcd : (x == ("__classdict__" : Str)) = false := by decide) :
    S1 X (.Assign [.Subscript (.Name x p) b pos'] c pos) τ P :=
  S1.of (ps_dput hX.hu (pn hX hN hv hd hcd) pe_sem pe_sem hs) fun σ H F R0 R D ok qq => h σ H F R0 R _ ok fun z τ1 v R1 H1 ⟨w, fz, d0, ht0, hb⟩ l1 ok1 w1 => by
    obtain ⟨R2, l2, ok2, r2⟩ := fz_rel ok1 w1 fz
    obtain ⟨hs0, _⟩ := ok2.cell ht0
    refine ⟨.ref q, hs0, ?_⟩
    refine hb σ H1 F R0 R2 _ ok2 fun y τ2 u R3 H3 ⟨i, fz', d, ht, hz, hk⟩ l3 ok3 w3 => ?_
    obtain ⟨R4, l4, ok4, r4⟩ := fz_rel ok3 w3 fz'
    cases r4
    obtain ⟨hs', hR, hF, o, hH, kvs, eo, hp⟩ := ok4.cell ht
    subst eo
    refine ⟨q, _, rfl, DPut.k (k := .inl i) hH (by rw [sizeLine_eq, PySem.Paired.length hp]; omega), ?_⟩
    exact qq.nx _ σ R4 _ hk ((l1.trans l2).trans (l3.trans l4)) (ok4.write ht ⟨_, rfl, kvs_put hp i (B.up (l3.trans l4) r2)⟩)
/-- name.pop(e), there -/
theorem E_dpop {j : Nat} {x : Str} {β : Type} {B : DR β} {q : Addr} {d0 : List (Int × β)} {apos cpos : Pos} (hX : XF G X N sc n) (hN : N[j]? = some x) (hv : Vis sc x) (ht0 : τ[j]? = some (.ow q (cD B) d0)) (m : M1 X (.Name x p) "pop" apos e cpos)
    (h : E X e τ fun y τ1 => ∃ i, Fz y (.im rI i) ∧ ∃ d w, τ1[j]? = some (.ow q (cD B) d) ∧ dget d i = some w ∧ k (.im B w) (τ1.set j (.ow q (cD B) (ddrop d i))))
    (hd : (x == ("__debug__" : Str)) = false := by decide) (hcd : (x == ("__classdict__" : Str)) = false := by decide) : E X (.Call (.Attribute (.Name x p) "pop" apos) [e] [] cpos) τ k :=
  E.of (pe_dpop1 (pn hX hN hv hd hcd) pe_sem m) fun σ H F R0 R Q ok qq => by
    obtain ⟨hs0, hR0, hF0, o0, hH0, kvs0, eo0, hp0⟩ := ok.cell ht0
    subst eo0
    refine ⟨.ref q, hs0, q, rfl, .inl ⟨kvs0, .inl hH0⟩, ?_⟩
    refine h σ H F R0 R _ ok fun y τ1 v R1 H1 ⟨i, fz, d, w, ht, hg, hk⟩ l1 ok1 w1 => ?_
    obtain ⟨R2, l2, ok2, r2⟩ := fz_rel ok1 w1 fz
    cases r2
    obtain ⟨hs, hR, hF, o, hH, kvs, eo, hp⟩ := ok2.cell ht
    subst eo
    have hf := kvs_find hp i
    rw [hg] at hf
    obtain ⟨u, e5, e6⟩ := hf
    exact ⟨kvs, .inl i, u, hH, rfl, e5, qq _ _ u R2 _ hk (l1.trans l2) (ok2.write ht ⟨_, rfl, kvs_drop hp i⟩) (VOk.im e6)⟩
theorem E_dnew (h : ∀ p, k (.ow p (cD (β := Int) rI) []) τ) : E X (.Dict [] [] pos) τ k :=
  E.of pe_dnewK fun σ H F R0 R Q ok q p hp => by
    obtain ⟨hR, hF, ho⟩ := ok.fresh hp
    exact q _ τ (.ref p) R _ (h p) (Le.refl R) (ok.new hp) ⟨⟨rfl, hR, _, upd_same, [], rfl, .nil⟩, fun p' z => by cases z; exact ⟨hF, ho⟩⟩
theorem E_dnew' {β : Type} (B : DR β) (h : ∀ p, k (.ow p (cD B) []) τ) : E X (.Dict [] [] pos) τ k :=
  E.of pe_dnewK fun σ H F R0 R Q ok q p hp => by
    obtain ⟨hR, hF, ho⟩ := ok.fresh hp
    exact q _ τ (.ref p) R _ (h p) (Le.refl R) (ok.new hp) ⟨⟨rfl, hR, _, upd_same, [], rfl, .nil⟩, fun p' z => by cases z; exact ⟨hF, ho⟩⟩
end
end T
end
section
set_option Elab.async false
set_option linter.all false
set_option autoImplicit false
set_option maxRecDepth 100000
set_option exponentiation.threshold 10000
set_option maxHeartbeats 2000000
namespace T
open PySem PySem.Spec PyProof.Rows L2 RZ
theorem boot_lenB : bootBuiltins ("len" : Str) = some (.builtin "len") := by decide +kernel
theorem boot_absB : bootBuiltins ("abs" : Str) = some (.builtin "abs") := by decide +kernel
theorem boot_sumB : bootBuiltins ("sum" : Str) = some (.builtin "sum") := by decide +kernel
theorem boot_minB : bootBuiltins ("min" : Str) = some (.builtin "min") := by decide +kernel
theorem boot_maxB : bootBuiltins ("max" : Str) = some (.builtin "max") := by decide +kernel
theorem boot_sortedB : bootBuiltins ("sorted" : Str) = some (.builtin "sorted") := by decide +kernel
theorem boot_isiB : bootBuiltins ("isinstance" : Str) = some (.builtin "isinstance") := by decide +kernel
theorem boot_intB : bootBuiltins ("int" : Str) = some (.type "int") := by decide +kernel
theorem boot_boolB : bootBuiltins ("bool" : Str) = some (.type "bool") := by decide +kernel
theorem boot_strB : bootBuiltins ("str" : Str) = some (.type "str") := by decide +kernel
theorem boot_listB : bootBuiltins ("list" : Str) = some (.type "list") := by decide +kernel
theorem boot_tupleB : bootBuiltins ("tuple" : Str) = some (.type "tuple") := by decide +kernel
theorem boot_dictB : bootBuiltins ("dict" : Str) = some (.type "dict") := by decide +kernel
section
variable {X : Cx}
theorem call_lenR : CallR X (.builtin "len") (fun xs H Q => ∃ a kvs, xs = [V.ref a] ∧ Rd H a (.dK kvs) ∧ Q (.int kvs.length) H) := by
  intro pins s σ H xs us Q I r h
  obtain ⟨a, kvs, rfl, ha, q⟩ := h
  obtain ⟨u, rfl, ru⟩ := vals1 r
  cases ru
  exact d_len I ha fun t s' I' => ⟨.int kvs.length, H, I', ⟨t, rfl⟩, q⟩
theorem cr_lcm : CallR X (.builtin "math.lcm") (fun vs H Q => ∃ a b : Int, vs = [.int a, .int b] ∧ a.natAbs < 2 ^ 4000 ∧ b.natAbs < 2 ^ 4000 ∧ Q (.int ((Nat.lcm a.natAbs b.natAbs : Nat) : Int)) H) := by
  intro pins s σ H vs us Q I r h
  obtain ⟨a, b, rfl, ha, hb, q⟩ := h
  obtain ⟨t, u, rfl⟩ := Vals.int2 r
  have hlg : ∀ m : Nat, m < 2 ^ 4000 → ¬ m.log2 / 30 + 1 > 450 := fun m hm => by
    have : m.log2 ≤ 3999 := PySem.W.mg_log hm
    omega
  have one : (1 : Nat) < 2 ^ 4000 := Nat.one_lt_two_pow (by decide)
  have hmx : ∀ m n : Nat, m < 2 ^ 4000 → n < 2 ^ 4000 → max m n < 2 ^ 4000 := fun m n h1 h2 => Nat.max_lt.mpr ⟨h1, h2⟩
  have hsz : ((((Nat.lcm 1 a.natAbs).lcm b.natAbs : Nat) : Int)).natAbs.log2 < bitsLine := by
    rw [Int.natAbs_natCast, PySem.W.mc_lcm_one]
    have h1 : a.natAbs.lcm b.natAbs < 2 ^ 8000 := by
      refine Nat.lt_of_le_of_lt (PySem.W.mc_lcm_le _ _) ?_
      have := Nat.mul_lt_mul_of_lt_of_le ha (Nat.le_of_lt hb) (Nat.two_pow_pos 4000)
      rw [← Nat.pow_add] at this
      exact this
    have h2 : (a.natAbs.lcm b.natAbs).log2 ≤ 7999 := PySem.W.mg_log h1
    rw [bitsLine_eq]
    omega
  have g := PySem.W.mg_run_lcm a t b u (hlg _ (hmx _ _ one ha)) (hlg _ (hmx _ _ ha hb)) hsz
  rw [PySem.W.mc_lcm_one] at g
  exact call_function_meets PySem.W.MGF.kind_lcm PySem.W.MGF.plain_lcm PySem.W.MGF.entry_lcm (PySem.W.MGF.args_lcm _ _) g.meets ⟨.int _, H, I.tok _, ⟨_, rfl⟩, q⟩
theorem Inv.rdL {pins : List (Addr × Obj)} {σ : L2.St} {H : Hp} {s : Shared} {p : Addr} {xs : List V} (I : Inv X pins σ H s) (h : Rd H p (.lst xs)) :
    ∃ (its : List Value) (n : Nat), Vals xs its ∧ s.heap.get? p = some { cls := .type "list", data := .seq its.toArray n } ∧ xs.length ≤ sizeLine := by
  rcases h with h | ⟨o, h⟩
  · obtain ⟨z, its, n, r, e⟩ := I.hok p _ h
    exact ⟨its, n, r, e, z⟩
  · obtain ⟨_, z, its, n, r, e⟩ := I.hok p _ h
    exact ⟨its, n, r, e, z⟩
/-- xs + ys, lists that are read -/
theorem op_catR : OpR X (binaryOp .Add) (fun x y H Q => ∃ l b xs zs, x = .ref l ∧ y = .ref b ∧ Rd H l (.lst xs) ∧ Rd H b (.lst zs) ∧ xs.length + zs.length ≤ sizeLine ∧ ∀ p, H p = none → Q (.ref p) (upd H p (.lst (xs ++ zs)))) := by
  intro pins s σ H x y v u Q I rx ry h
  obtain ⟨l, b, xs, zs, rfl, rfl, hH, hB, hz, q⟩ := h
  cases rx
  cases ry
  obtain ⟨its, n, r, e, z⟩ := Inv.rdL I hH
  obtain ⟨its2, n2, r2, e2, z2⟩ := Inv.rdL I hB
  have hl := r.length
  have hl2 := r2.length
  refine PySem.P.add_list e e2 ?_ (by rw [List.size_toArray, List.size_toArray]; omega)
  have ea : its.toArray ++ its2.toArray = (its ++ its2).toArray := by simp
  rw [ea]
  exact ⟨.ref _, _, I.lnew (t' := s.toks) (r.append r2) (by rw [List.length_append]; omega), rfl, q _ I.fresh⟩
end
section
variable {G : Gm} {X : Cx} {N : List Str} {sc : Scope} {n : Nat} {τ τ1 : Tau} {k : KK} {P : Po} {y : Kd} {e a b c tg iter elt kx vx : Expr} {es elts ifs : List Expr} {pos p tpos spos py : Pos} {vs : List Nat} {kt : Tau → Prop} {scope : Scope} {own : List (Str × Nat)}
theorem pa1 (hs : noStar [e] = true) : PA X [e] (tCons (sem X e) tNil) := pa_cons pe_sem pa_nil (star_of hs _ _ (List.suffix_refl _))
theorem plain1 {env : PySem.Env} (q : Pos) : (backTo q (starEach [] env)).any (·.1) = false := by rfl
/-- xs + ys -/
theorem E_cat {α : Type} (A : DR α) (hX : XF G X N sc n) (h : E X a τ fun x τ1 => ∃ l, Fz x (.im (rL G.K A) l) ∧ E X b τ1 fun y τ2 => ∃ m, Fz y (.im (rL G.K A) m) ∧ l.length + m.length < 100000 ∧ ∀ p, k (.ow p (cL A) (l ++ m)) τ2) : E X (.BinOp a .Add b pos) τ k :=
  E.of (pe_op op_catR pe_sem pe_sem) (w_op (A := rL G.K A) (B := rL G.K A) (k1 := k) (h.mono fun x τ1 ⟨l, fz, hb⟩ => ⟨l, fz, hb.mono fun y τ2 ⟨m, fz', hz, hk⟩ => ⟨m, fz', fun σ H F R0 R Q v u ok r1 r2 q => by
    obtain ⟨pa, xs, e1, h1, hp1⟩ := r1
    obtain ⟨pb, ys, e2, h2, hp2⟩ := r2
    refine ⟨pa, pb, xs, ys, e1, e2, ok.le.rd h1, ok.le.rd h2, by rw [sizeLine_eq, PySem.Paired.length hp1, PySem.Paired.length hp2]; omega, fun p hp => ?_⟩
    obtain ⟨hR, hF, ho⟩ := ok.fresh hp
    have happ : ∀ {xs ys : List V} {l m : List α}, Paired (A.rel R) xs l → Paired (A.rel R) ys m → Paired (A.rel R) (xs ++ ys) (l ++ m) := by
      intro xs ys l m h1 h2
      induction h1 with
      | nil => exact h2
      | cons r t ih => exact .cons r ih
    exact q _ τ2 _ R _ (hk p) (Le.refl R) (ok.new hp) ⟨⟨rfl, hR, _, upd_same, _, rfl, happ hp1 hp2⟩, fun p' z => by cases z; exact ⟨hF, ho⟩⟩⟩⟩))
/-- t + u -/
theorem E_catT {α : Type} (A : DR α) (hX : XF G X N sc n) (h : E X a τ fun x τ1 => ∃ l, Fz x (.im (rT G.K A) l) ∧ E X b τ1 fun y τ2 => ∃ m, Fz y (.im (rT G.K A) m) ∧ l.length + m.length < 100000 ∧ k (.im (rT G.K A) (l ++ m)) τ2) : E X (.BinOp a .Add b pos) τ k :=
  E.of (pe_op op_catA pe_sem pe_sem) (w_op (A := rT G.K A) (B := rT G.K A) (k1 := k) (h.mono fun x τ1 ⟨l, fz, hb⟩ => ⟨l, fz, hb.mono fun y τ2 ⟨m, fz', hz, hk⟩ => ⟨m, fz', fun σ H F R0 R Q v u ok r1 r2 q => by
    obtain ⟨pa, xs, e1, h1, hp1⟩ := r1
    obtain ⟨pb, ys, e2, h2, hp2⟩ := r2
    have l1 := PySem.Paired.length hp1
    have l2 := PySem.Paired.length hp2
    refine ⟨pa, pb, xs, ys, e1, e2, by rw [hX.eK]; exact ok.le.sqT h1, by rw [hX.eK]; exact ok.le.sqT h2, by rw [sizeLine_eq, l1, l2]; omega, fun z => ?_, fun z z2 => ?_, fun z z2 p hp => ?_⟩
    · subst z; cases hp1
      exact q _ τ2 _ R H hk (Le.refl R) ok (VOk.im ⟨pb, ys, rfl, h2, hp2⟩)
    · subst z2; cases hp2
      rw [List.append_nil] at hk
      exact q _ τ2 _ R H hk (Le.refl R) ok (VOk.im ⟨pa, xs, rfl, h1, hp1⟩)
    · obtain ⟨hR, hF, ho⟩ := ok.fresh hp
      have happ : ∀ {xs ys : List V} {l m : List α}, Paired (A.rel R) xs l → Paired (A.rel R) ys m → Paired (A.rel R) (xs ++ ys) (l ++ m) := by
        intro xs ys l m h1 h2
        induction h1 with
        | nil => exact h2
        | cons r t ih => exact .cons r ih
      exact q _ τ2 _ _ _ hk (Le.upd hR) (ok.lay hp) (VOk.im ⟨p, _, rfl, .inl (.inl upd_same), paired_up A (Le.upd hR) (happ hp1 hp2)⟩)⟩⟩))
/-- name[e] = v, the name's list still its own -/
theorem S1_setL {j : Nat} {x : Str} {α : Type} {A : DR α} {q : Addr} {pos' : Pos} (hX : XF G X N sc n) (hN : N[j]? = some x) (hv : Vis sc x)
    (h : E X c τ fun z τ1 => ∃ w, Fz z (.im A w) ∧ ∃ d0, τ1[j]? = some (.ow q (cL A) d0) ∧ E X b τ1 fun y τ2 => ∃ i, Fz y (.im rI i) ∧ ∃ l m, τ2[j]? = some (.ow q (cL A) l) ∧ ixN l.length i = some m ∧ P.nx (τ2.set j (.ow q (cL A) (l.set m w))))
    (hs : swapsWithSole [.Subscript (.Name x p) b pos'] c pos.line X.env = pure false := by rfl) (hw : swappedStores [.Subscript (.Name x p) b pos'] c X.env = pure none := by rfl)
    (h1 : (assignEach [.Subscript (.Name x p) b pos'] X.env).map (·.2) = [assign (.Subscript (.Name x p) b pos') X.env] := by rfl)
    (ha : ∀ v, assign (.Subscript (.Name x p) b pos') X.env v = (do
      let ov ← holding [v] (eval (.Name x p) X.env)
      let iv ← holding [v, ov] (eval b X.env)
      standAt pos'
      holding [v, ov, iv] (setItem ov iv v)
      release [v, ov, iv] []) := by intro _; rfl) (hd : (x == ("__debug__" : Str)) = false := by decide) (hcd : (x == ("__classdict__" : Str)) = false := by decide) :
    S1 X (.Assign [.Subscript (.Name x p) b pos'] c pos) τ P :=
  S1.of (ps_asg pe_sem (pg_sub (pn hX hN hv hd hcd) pe_sem set_list ha) hs hw h1) fun σ H F R0 R D ok qq => h σ H F R0 R _ ok fun z τ1 v R1 H1 ⟨w, fz, d0, ht0, hb⟩ l1 ok1 w1 => by
    obtain ⟨R2, l2, ok2, r2⟩ := fz_rel ok1 w1 fz
    obtain ⟨hs0, _⟩ := ok2.cell ht0
    refine ⟨.ref q, hs0, ?_⟩
    refine hb σ H1 F R0 R2 _ ok2 fun y τ2 u R3 H3 ⟨i, fz', l, m, ht, hi, hk⟩ l3 ok3 w3 => ?_
    obtain ⟨R4, l4, ok4, r4⟩ := fz_rel ok3 w3 fz'
    cases r4
    obtain ⟨hs', hR, hF, o, hH, xs, eo, hp⟩ := ok4.cell ht
    subst eo
    refine ⟨q, xs, i, m, rfl, rfl, hH, by rw [PySem.Paired.length hp]; exact hi, ?_⟩
    have hset : ∀ {xs : List V} {l : List α} (m : Nat), Paired (A.rel R4) xs l → Paired (A.rel R4) (xs.set m v) (l.set m w) := by
      intro xs l m hp
      induction hp generalizing m with
      | nil => exact .nil
      | cons r t ih => cases m with
        | zero => exact .cons (A.up (l3.trans l4) r2) t
        | succ m => exact .cons r (ih m)
    exact qq.nx _ σ R4 _ hk ((l1.trans l2).trans (l3.trans l4)) (ok4.write ht ⟨_, rfl, hset m hp⟩)
/-! ### built-ins -/
theorem E_len (hX : XF G X N sc n) (hg : sc.names.lookup ("len" : Str) = some .globalImplicit) (hm : G.mg ("len" : Str) = none) (hs : noStar [e] = true)
    (h : T.P X e τ fun pl τ1 => ∃ x m, pl.kd τ1 = some x ∧ LenOf G.K x m ∧ k (.im rI (m : Int)) τ1) : E X (.Call (.Name "len" p) [e] [] pos) τ k :=
  E.of (pe_callB (call_len.or call_lenR) (hX.gl hg) (hX.mgN hm) boot_lenB (pa1 hs) (he := star_of hs _ _ (List.suffix_refl _))) fun σ H F R0 R Q ok q =>
    h σ H F R0 R _ ok fun pl τ1 v R1 H1 ⟨x, m, ex, hl, hk⟩ l1 ok1 at1 => by
      have fin : Q (.int (m : Int)) H1 := q _ τ1 _ R1 H1 hk l1 ok1 (VOk.im rfl)
      rcases hl R1 H1 v ok1.le (Pl.rel ok1 at1 ex) with h1 | ⟨pa, kvs, e1, h2, h3⟩
      · exact .inl ⟨v, m, rfl, by rw [hX.eK]; exact h1, fin⟩
      · subst h3
        exact .inr ⟨pa, kvs, by rw [e1], h2, fin⟩
theorem E_abs (hX : XF G X N sc n) (hg : sc.names.lookup ("abs" : Str) = some .globalImplicit) (hm : G.mg ("abs" : Str) = none) (hs : noStar [e] = true)
    (h : E X e τ fun x τ1 => ∃ i, Fz x (.im rI i) ∧ k (.im rI (i.natAbs : Int)) τ1) : E X (.Call (.Name "abs" p) [e] [] pos) τ k :=
  E.of (pe_callB call_abs (hX.gl hg) (hX.mgN hm) boot_absB (pa1 hs) (he := star_of hs _ _ (List.suffix_refl _))) fun σ H F R0 R Q ok q =>
    h σ H F R0 R _ ok fun x τ1 v R1 H1 ⟨i, fz, hk⟩ l1 ok1 w1 => by
      obtain ⟨R2, l2, ok2, r⟩ := fz_rel ok1 w1 fz
      cases r
      have e1 : (if i < 0 then -i else i) = (i.natAbs : Int) := by split <;> omega
      exact ⟨i, rfl, by rw [e1]; exact q _ τ1 _ R2 H1 hk (l1.trans l2) ok2 (VOk.im rfl)⟩
/-- int(..) of an int -/
theorem E_int1 (hX : XF G X N sc n) (hg : sc.names.lookup ("int" : Str) = some .globalImplicit) (hm : G.mg ("int" : Str) = none) (hs : noStar [e] = true)
    (h : E X e τ fun x τ1 => ∃ i, Fz x (.im rI i) ∧ k (.im rI i) τ1) : E X (.Call (.Name "int" p) [e] [] pos) τ k :=
  E.of (pe_callTy call_int1 (hX.gl hg) (hX.mgN hm) boot_intB (pa1 hs) (he := star_of hs _ _ (List.suffix_refl _))) fun σ H F R0 R Q ok q =>
    h σ H F R0 R _ ok fun x τ1 v R1 H1 ⟨i, fz, hk⟩ l1 ok1 w1 => by
      obtain ⟨R2, l2, ok2, r⟩ := fz_rel ok1 w1 fz
      cases r
      exact .inl ⟨i, rfl, q _ τ1 _ R2 H1 hk (l1.trans l2) ok2 (VOk.im rfl)⟩
/-- int(..) of a truth value -/
theorem E_intB (hX : XF G X N sc n) (hg : sc.names.lookup ("int" : Str) = some .globalImplicit) (hm : G.mg ("int" : Str) = none) (hs : noStar [e] = true)
    (h : E X e τ fun x τ1 => ∃ c, Fz x (.im rB c) ∧ k (.im rI (if c then 1 else 0)) τ1) : E X (.Call (.Name "int" p) [e] [] pos) τ k :=
  E.of (pe_callTy call_int1 (hX.gl hg) (hX.mgN hm) boot_intB (pa1 hs) (he := star_of hs _ _ (List.suffix_refl _))) fun σ H F R0 R Q ok q =>
    h σ H F R0 R _ ok fun x τ1 v R1 H1 ⟨i, fz, hk⟩ l1 ok1 w1 => by
      obtain ⟨R2, l2, ok2, r⟩ := fz_rel ok1 w1 fz
      cases r
      exact .inr ⟨i, rfl, q _ τ1 _ R2 H1 hk (l1.trans l2) ok2 (VOk.im rfl)⟩
/-- list(..) of a list, of a tuple: a new one -/
theorem E_list {α : Type} (A : DR α) (hX : XF G X N sc n) (hg : sc.names.lookup ("list" : Str) = some .globalImplicit) (hm : G.mg ("list" : Str) = none) (hs : noStar [e] = true)
    (h : E X e τ fun x τ1 => ∃ l, (Fz x (.im (rL G.K A) l) ∨ Fz x (.im (rT G.K A) l) ∨ Fz x (.im (rLT G.K A) l)) ∧ ∀ p, k (.ow p (cL A) l) τ1) : E X (.Call (.Name "list" p) [e] [] pos) τ k :=
  E.of (pe_callTy call_list_of (hX.gl hg) (hX.mgN hm) boot_listB (pa1 hs) (he := star_of hs _ _ (List.suffix_refl _))) fun σ H F R0 R Q ok q =>
    h σ H F R0 R _ ok fun x τ1 v R1 H1 ⟨l, fz, hk⟩ l1 ok1 w1 => by
      have key : ∃ R2, Le R1 R2 ∧ Ok F R0 R2 H1 σ τ1 ∧ ∃ pa xs, v = .ref pa ∧ (SqL G.K H1 pa xs ∨ SqT G.K H1 pa xs) ∧ Paired (A.rel R2) xs l := by
        have ofL : ∀ R2, Ok F R0 R2 H1 σ τ1 → (rL G.K A).rel R2 v l → ∃ pa xs, v = .ref pa ∧ (SqL G.K H1 pa xs ∨ SqT G.K H1 pa xs) ∧ Paired (A.rel R2) xs l := fun R2 ok2 ⟨pa, xs, e1, h1, hp⟩ => ⟨pa, xs, e1, .inl (.inl (ok2.le.rd h1)), hp⟩
        have ofT : ∀ R2, Ok F R0 R2 H1 σ τ1 → (rT G.K A).rel R2 v l → ∃ pa xs, v = .ref pa ∧ (SqL G.K H1 pa xs ∨ SqT G.K H1 pa xs) ∧ Paired (A.rel R2) xs l := fun R2 ok2 ⟨pa, xs, e1, h1, hp⟩ => ⟨pa, xs, e1, .inr (ok2.le.sqT h1), hp⟩
        rcases fz with fz | fz | fz
        · obtain ⟨R2, l2, ok2, r⟩ := fz_rel ok1 w1 fz; exact ⟨R2, l2, ok2, ofL R2 ok2 r⟩
        · obtain ⟨R2, l2, ok2, r⟩ := fz_rel ok1 w1 fz; exact ⟨R2, l2, ok2, ofT R2 ok2 r⟩
        · obtain ⟨R2, l2, ok2, r⟩ := fz_rel ok1 w1 fz
          exact ⟨R2, l2, ok2, r.elim (ofL R2 ok2) (ofT R2 ok2)⟩
      obtain ⟨R2, l2, ok2, pa, xs, e1, h1, hp⟩ := key
      refine ⟨pa, xs, by rw [e1], by rw [hX.eK]; exact h1, fun p hp' => ?_⟩
      obtain ⟨hR, hF, ho⟩ := ok2.fresh hp'
      exact q _ τ1 _ R2 _ (hk p) (l1.trans l2) (ok2.new hp') ⟨⟨rfl, hR, _, upd_same, xs, rfl, hp⟩, fun p' z => by cases z; exact ⟨hF, ho⟩⟩
/-- tuple(..) of a list, of a tuple -/
theorem E_tuple {α : Type} (A : DR α) (hX : XF G X N sc n) (hg : sc.names.lookup ("tuple" : Str) = some .globalImplicit) (hm : G.mg ("tuple" : Str) = none) (hs : noStar [e] = true)
    (h : E X e τ fun x τ1 => ∃ l, (Fz x (.im (rL G.K A) l) ∨ Fz x (.im (rT G.K A) l) ∨ Fz x (.im (rLT G.K A) l)) ∧ k (.im (rT G.K A) l) τ1) : E X (.Call (.Name "tuple" p) [e] [] pos) τ k :=
  E.of (pe_callTy call_tuple_of (hX.gl hg) (hX.mgN hm) boot_tupleB (pa1 hs) (he := star_of hs _ _ (List.suffix_refl _))) fun σ H F R0 R Q ok q =>
    h σ H F R0 R _ ok fun x τ1 v R1 H1 ⟨l, fz, hk⟩ l1 ok1 w1 => by
      have ofL : ∀ R2, Le R1 R2 → Ok F R0 R2 H1 σ τ1 → (rL G.K A).rel R2 v l → ∃ pa ys, [v] = [V.ref pa] ∧ ((SqL X.K H1 pa ys ∧ ∀ l, H1 l = none → Q (.ref l) (upd H1 l (.tup ys))) ∨ (SqT X.K H1 pa ys ∧ Q (.ref pa) H1)) := fun R2 l2 ok2 ⟨pa, xs, e1, h1, hp⟩ =>
        ⟨pa, xs, by rw [e1], .inl ⟨.inl (ok2.le.rd h1), fun p hp' => by
          obtain ⟨hR, hF, ho⟩ := ok2.fresh hp'
          exact q _ τ1 _ _ _ hk ((l1.trans l2).trans (Le.upd hR)) (ok2.lay hp') (VOk.im ⟨p, xs, rfl, .inl (.inl upd_same), paired_up A (Le.upd hR) hp⟩)⟩⟩
      have ofT : ∀ R2, Le R1 R2 → Ok F R0 R2 H1 σ τ1 → (rT G.K A).rel R2 v l → ∃ pa ys, [v] = [V.ref pa] ∧ ((SqL X.K H1 pa ys ∧ ∀ l, H1 l = none → Q (.ref l) (upd H1 l (.tup ys))) ∨ (SqT X.K H1 pa ys ∧ Q (.ref pa) H1)) := fun R2 l2 ok2 ⟨pa, xs, e1, h1, hp⟩ =>
        ⟨pa, xs, by rw [e1], .inr ⟨by rw [hX.eK]; exact ok2.le.sqT h1, q _ τ1 _ R2 H1 hk (l1.trans l2) ok2 (VOk.im ⟨pa, xs, rfl, h1, hp⟩)⟩⟩
      rcases fz with fz | fz | fz
      · obtain ⟨R2, l2, ok2, r⟩ := fz_rel ok1 w1 fz; exact ofL R2 l2 ok2 r
      · obtain ⟨R2, l2, ok2, r⟩ := fz_rel ok1 w1 fz; exact ofT R2 l2 ok2 r
      · obtain ⟨R2, l2, ok2, r⟩ := fz_rel ok1 w1 fz
        exact r.elim (ofL R2 l2 ok2) (ofT R2 l2 ok2)
theorem E_gcd (hX : XF G X N sc n) (hg : sc.names.lookup ("gcd" : Str) = some .globalImplicit) (hm : G.mg ("gcd" : Str) = some (.builtin "math.gcd")) (hs : noStar [a, b] = true)
    (h : E X a τ fun x τ1 => ∃ i, Fz x (.im rI i) ∧ E X b τ1 fun y τ2 => ∃ j, Fz y (.im rI j) ∧ k (.im rI ((Nat.gcd i.natAbs j.natAbs : Nat) : Int)) τ2) : E X (.Call (.Name "gcd" p) [a, b] [] pos) τ k := by
  have st := star_of (env := X.env) hs
  have st2 := st b [] (List.suffix_cons _ _)
  refine E.of (pe_callBfun cr_gcd (hX.gl hg) (hX.mgN hm) (pa_cons pe_sem (pa_cons pe_sem pa_nil st2) (st a [b] (List.suffix_refl _))) (he := st a [b] (List.suffix_refl _)) (hpl := by rw [st2]; rfl)) fun σ H F R0 R Q ok q => h σ H F R0 R _ ok fun x τ1 v R1 H1 ⟨i, fz, hb⟩ l1 ok1 w1 => ?_
  obtain ⟨R2, l2, ok2, r⟩ := fz_rel ok1 w1 fz
  cases r
  refine hb σ H1 F R0 R2 _ ok2 fun y τ2 u R3 H3 ⟨j, fz', hk⟩ l3 ok3 w3 => ?_
  obtain ⟨R4, l4, ok4, r'⟩ := fz_rel ok3 w3 fz'
  cases r'
  exact ⟨i, j, rfl, q _ τ2 _ R4 H3 hk ((l1.trans l2).trans (l3.trans l4)) ok4 (VOk.im rfl)⟩
theorem E_lcm (hX : XF G X N sc n) (hg : sc.names.lookup ("lcm" : Str) = some .globalImplicit) (hm : G.mg ("lcm" : Str) = some (.builtin "math.lcm")) (hs : noStar [a, b] = true)
    (h : E X a τ fun x τ1 => ∃ i, Fz x (.im rI i) ∧ E X b τ1 fun y τ2 => ∃ j, Fz y (.im rI j) ∧ i.natAbs < 2 ^ 4000 ∧ j.natAbs < 2 ^ 4000 ∧ k (.im rI ((Nat.lcm i.natAbs j.natAbs : Nat) : Int)) τ2) : E X (.Call (.Name "lcm" p) [a, b] [] pos) τ k := by
  have st := star_of (env := X.env) hs
  have st2 := st b [] (List.suffix_cons _ _)
  refine E.of (pe_callBfun cr_lcm (hX.gl hg) (hX.mgN hm) (pa_cons pe_sem (pa_cons pe_sem pa_nil st2) (st a [b] (List.suffix_refl _))) (he := st a [b] (List.suffix_refl _)) (hpl := by rw [st2]; rfl)) fun σ H F R0 R Q ok q => h σ H F R0 R _ ok fun x τ1 v R1 H1 ⟨i, fz, hb⟩ l1 ok1 w1 => ?_
  obtain ⟨R2, l2, ok2, r⟩ := fz_rel ok1 w1 fz
  cases r
  refine hb σ H1 F R0 R2 _ ok2 fun y τ2 u R3 H3 ⟨j, fz', h1, h2, hk⟩ l3 ok3 w3 => ?_
  obtain ⟨R4, l4, ok4, r'⟩ := fz_rel ok3 w3 fz'
  cases r'
  exact ⟨i, j, rfl, h1, h2, q _ τ2 _ R4 H3 hk ((l1.trans l2).trans (l3.trans l4)) ok4 (VOk.im rfl)⟩
/-- sorted(d): the keys, ascending -/
theorem E_sortedD {β : Type} (B : DR β) (hX : XF G X N sc n) (hg : sc.names.lookup ("sorted" : Str) = some .globalImplicit) (hm : G.mg ("sorted" : Str) = none) (hs : noStar [e] = true)
    (h : T.P X e τ fun pl τ1 => ∃ x d, pl.kd τ1 = some x ∧ DOf x B d ∧ d.length < 64 ∧ ∀ (ys : List Int) p, ys.Perm (d.map (·.1)) → ys.Pairwise (· ≤ ·) → k (.ow p (cL rI) ys) τ1) : E X (.Call (.Name "sorted" p) [e] [] pos) τ k :=
  E.of (pe_callB (call_sortedDI hX.calm) (hX.gl hg) (hX.mgN hm) boot_sortedB (pa1 hs) (he := star_of hs _ _ (List.suffix_refl _))) fun σ H F R0 R Q ok q =>
    h σ H F R0 R _ ok fun pl τ1 v R1 H1 ⟨x, d, ex, hd, hz, hk⟩ l1 ok1 at1 => by
      obtain ⟨pa, kvs, e1, h1, h2⟩ := hd R1 H1 v ok1.le (Pl.rel ok1 at1 ex)
      have hkeys : ∀ {kvs : List (Key × V)} {d : List (Int × β)}, KVs B R1 kvs d → kvs.map (·.1) = (d.map (·.1)).map Sum.inl := by
        intro kvs d h
        unfold KVs at h
        induction h with
        | nil => rfl
        | cons r t ih => rw [List.map_cons, List.map_cons, List.map_cons, ih, r.1]
      refine ⟨pa, kvs, d.map (·.1), by rw [e1], h1, hkeys h2, by rw [List.length_map]; exact hz, fun ys p hp hs' hpn => ?_⟩
      obtain ⟨hR, hF, ho⟩ := ok1.fresh hpn
      have hints : ∀ ys : List Int, Paired (rI.rel R1) (ys.map V.int) ys := by
        intro ys
        induction ys with
        | nil => exact .nil
        | cons y ys ih => exact .cons rfl ih
      exact q _ τ1 _ R1 _ (hk ys p hp hs') l1 (ok1.new hpn) ⟨⟨rfl, hR, _, upd_same, _, rfl, hints ys⟩, fun p' z => by cases z; exact ⟨hF, ho⟩⟩
/-! ### isinstance -/
/-- the built-in type of such data -/
def TyD (K : PySem.W.Frag) (x : Kd) (t : String) : Prop := ∀ R H v, LeR R H → x.rel R H v → TyX K H v (.type t)
theorem ty_I {K : PySem.W.Frag} {i : Int} : TyD K (.im rI i) "int" := fun R H v l h => by cases h; exact .base (.int i)
theorem ty_B {K : PySem.W.Frag} {i : Bool} : TyD K (.im rB i) "bool" := fun R H v l h => by cases h; exact .base (.bl i)
theorem ty_S {K : PySem.W.Frag} {i : Str} : TyD K (.im rS i) "str" := fun R H v l h => by cases h; exact .base (.str i)
theorem ty_N {K : PySem.W.Frag} : TyD K (.im rN ()) "NoneType" := fun R H v l h => by cases h; exact .base .non
theorem ty_sqT {K : PySem.W.Frag} {H : Hp} {p : Addr} {xs : List V} (h : SqT K H p xs) : TyX K H (.ref p) (.type "tuple") := by
  rcases h with (h | ⟨o, h⟩) | ⟨o, its, m, h1, h2, _⟩
  · exact .base (.tup h)
  · exact .fTuple h
  · exact .kTuple h1 h2
theorem ty_rd {K : PySem.W.Frag} {H : Hp} {p : Addr} {xs : List V} (h : Rd H p (.lst xs)) : TyX K H (.ref p) (.type "list") := by
  rcases h with h | ⟨o, h⟩
  · exact .base (.lst h)
  · exact .base (.frz h)
theorem ty_T {K : PySem.W.Frag} {α : Type} {A : DR α} {l : List α} : TyD K (.im (rT K A) l) "tuple" := fun R H v le ⟨p, xs, e, h, _⟩ => by subst e; exact ty_sqT (le.sqT h)
theorem ty_P {K : PySem.W.Frag} {α β : Type} {A : DR α} {B : DR β} {q : α × β} : TyD K (.im (rPair K A B) q) "tuple" := fun R H v le ⟨p, x, y, e, h, _⟩ => by subst e; exact ty_sqT (le.sqT h)
theorem ty_Q {K : PySem.W.Frag} {q : Rat} : TyD K (.im (rQ K) q) "tuple" := fun R H v le ⟨p, e, h⟩ => by subst e; exact ty_sqT (le.sqT h)
theorem ty_L {K : PySem.W.Frag} {α : Type} {A : DR α} {l : List α} : TyD K (.im (rL K A) l) "list" := fun R H v le ⟨p, xs, e, h, _⟩ => by subst e; exact ty_rd (le.rd h)
theorem E_isi {T0 : Str} {Tn : String} (hX : XF G X N sc n) (hg : sc.names.lookup ("isinstance" : Str) = some .globalImplicit) (hm : G.mg ("isinstance" : Str) = none) (hgT : sc.names.lookup T0 = some .globalImplicit) (hmT : G.mg T0 = none) (hbT : bootBuiltins T0 = some (.type Tn))
    {p2 : Pos} (hs : noStar [a] = true) (h : E X a τ fun x τ1 => ∃ y t c, Fz x y ∧ TyD G.K y t ∧ kitB t Tn = some c ∧ k (.im rB c) τ1) (hn : T0 ≠ "__name__" := by decide) (hd : (T0 == ("__debug__" : Str)) = false := by decide) :
    E X (.Call (.Name "isinstance" p) [a, .Name T0 p2] [] pos) τ k := by
  have st1 : starEach [a, .Name T0 p2] X.env = (false, eval a X.env) :: starEach [.Name T0 p2] X.env := by cases a <;> first | rfl | (simp [noStar] at hs)
  refine E.of (pe_callB call_isi (hX.gl hg) (hX.mgN hm) boot_isiB (pa_cons pe_sem (pa_cons (pe_bltn (v := .ty Tn) (hX.gl hgT) (hX.mgN hmT) hbT rfl hn hd) pa_nil) st1) (he := st1)) fun σ H F R0 R Q ok q => h σ H F R0 R _ ok fun x τ1 v R1 H1 ⟨y, t, c, fz, ht, hk, hkk⟩ l1 ok1 w1 => ?_
  obtain ⟨R2, l2, ok2, r, _⟩ := VOk.freeze ok1 w1 fz
  exact ⟨v, .ty Tn, .type t, .type Tn, c, rfl, .ty Tn, by rw [hX.eK]; exact ht R2 H1 v ok2.le r, by rw [hX.eK]; exact kit_ty hk, q _ τ1 _ R2 H1 hkk (l1.trans l2) ok2 (VOk.im rfl)⟩
end
/-! ### a def of the text -/
/-- the slots at a def's start -/
def tau0 (N : List Str) (ks : List Kd) : Tau := ks ++ List.replicate (N.length - ks.length) .no
theorem Ok.start {F R0 R H : Hp} {vs : List V} {ks : List Kd} (N : List Str) (ok : Ok F R0 R H (vs.map some) ks) : Ok F R0 R H (L2.start N vs) (tau0 N ks) := by
  have hl : vs.length = ks.length := by have := ok.len; rwa [List.length_map] at this
  have get : ∀ (i : Nat) x, (tau0 N ks)[i]? = some x → (ks[i]? = some x ∧ (L2.start N vs)[i]? = (vs.map some)[i]?) ∨ x = .no := fun i x e => by
    unfold tau0 at e
    by_cases hi : i < ks.length
    · rw [List.getElem?_append_left hi] at e
      refine .inl ⟨e, ?_⟩
      unfold L2.start
      rw [List.getElem?_append_left (by rw [List.length_map, hl]; exact hi)]
    · rw [List.getElem?_append_right (by omega)] at e
      right
      obtain ⟨_, e⟩ := List.getElem?_eq_some_iff.mp e
      rw [List.getElem_replicate] at e
      exact e.symm
  refine ⟨?_, ok.fr, ok.le, ok.r0, ok.nw, fun i x e => ?_, fun i x p e o => ?_, fun i j x y p e1 e2 o1 o2 => ?_, ok.nt⟩
  · unfold L2.start tau0
    rw [List.length_append, List.length_append, List.length_map, List.length_replicate, List.length_replicate, hl]
  · rcases get i x e with ⟨h1, h2⟩ | h
    · have := ok.sl i x h1
      unfold L2.St at *
      rw [h2]; exact this
    · exact .inl h
  · rcases get i x e with ⟨h1, h2⟩ | h
    · exact ok.ff i x p h1 o
    · subst h; exact o.elim
  · rcases get i x e1 with ⟨h1, _⟩ | h
    · rcases get j y e2 with ⟨h3, _⟩ | h'
      · exact ok.inj i j x y p h1 h3 o1 o2
      · subst h'; exact o2.elim
    · subst h; exact o1.elim
/-- what a def's end must show: the arguments' cells are still tracked, in some slot -/
def Fin (ks : List Kd) (k : Kd → List Kd → Prop) (x : Kd) (τ : Tau) : Prop := ∃ ks', k x ks' ∧ ks'.length = ks.length ∧ ∀ (i : Nat) y', ks'[i]? = some y' → y' = .no ∨ (∃ (j : Nat), τ[j]? = some y') ∧ ∃ y q, ks[i]? = some y ∧ owns y q ∧ owns y' q
theorem fin_no {ks : List Kd} {k : Kd → List Kd → Prop} {x : Kd} {τ : Tau} (h : k x (List.replicate ks.length .no)) : Fin ks k x τ := ⟨_, h, by simp, fun i y e => by
  obtain ⟨_, e⟩ := List.getElem?_eq_some_iff.mp e
  rw [List.getElem_replicate] at e
  exact .inl e.symm⟩
theorem Ok.finish {F R0 R R' H H' : Hp} {vs : List V} {ks : List Kd} {σ' : L2.St} {τ' : Tau} {ks' : List Kd} (ok : Ok F R0 R H (vs.map some) ks) (ok' : Ok F R0 R' H' σ' τ') (hl : ks'.length = ks.length)
    (h : ∀ (i : Nat) y', ks'[i]? = some y' → y' = .no ∨ (∃ (j : Nat), τ'[j]? = some y') ∧ ∃ y q, ks[i]? = some y ∧ owns y q ∧ owns y' q) : Ok F R0 R' H' (vs.map some) ks' := by
  have same : ∀ {y : Kd} {q q' : Addr}, owns y q → owns y q' → q = q' := fun {y q q'} h1 h2 => by
    cases y with
    | no => exact h1.elim
    | im => exact h1.elim
    | ow r C c => exact (show r = q from h1).symm.trans h2
  refine ⟨by rw [hl]; exact ok.len, ok'.fr, ok'.le, ok'.r0, ok'.nw, fun i y' e => ?_, fun i y' p e o => ?_, fun i j x y p e1 e2 o1 o2 => ?_, ok'.nt⟩
  · rcases h i y' e with z | ⟨⟨j, ej⟩, y, q, ey, oy, oy'⟩
    · exact .inl z
    · rcases ok'.sl j y' ej with z | ⟨v, hv, r⟩
      · exact .inl z
      · rcases ok.sl i y ey with z | ⟨u, hu, r0⟩
        · subst z; exact oy.elim
        · refine .inr ⟨u, hu, ?_⟩
          cases y with
          | no => exact oy.elim
          | im => exact oy.elim
          | ow q1 C c =>
            cases y' with
            | no => exact oy'.elim
            | im => exact oy'.elim
            | ow q2 C' c' =>
              obtain ⟨a1, _⟩ := r0
              obtain ⟨b1, b2, b3⟩ := r
              have e1 : q1 = q := oy
              have e2 : q2 = q := oy'
              refine ⟨?_, b2, b3⟩
              rw [a1, e1, e2]
  · rcases h i y' e with z | ⟨⟨j, ej⟩, _⟩
    · subst z; exact o.elim
    · exact ok'.ff j y' p ej o
  · rcases h i x e1 with z | ⟨_, x0, q1, ex, ox, ox'⟩
    · subst z; exact o1.elim
    · rcases h j y e2 with z | ⟨_, y0, q2, ey, oy, oy'⟩
      · subst z; exact o2.elim
      · have a1 := same o1 ox'
        have a2 := same o2 oy'
        subst a1
        subst a2
        exact ok.inj i j x0 y0 p ex ey ox oy
/-- THE RULE for a def that raises nothing: its body on kinds -/
theorem Fn.of {G : Gm} {x qual : Str} {st : Stmt} {f : Addr} {fd : FuncData} {N ps : List Str} {m : Nat} {C : Ct} (F : Fun G.K x qual st f fd) (hf : G.mg x = some (.ref f)) (b : Binds G.K fd ps []) (S0 : FnScope N ps (defScope st)) (len : ∀ ks k, C ks k → ks.length = ps.length)
    (body : ∀ (X : Cx), XF G X N (defScope st) m → (∀ x, X.fn x = true) → PassesOwn (model X.prog X.w) X.A X.env X.xe → ∀ ks k, C ks k → S X (defBody st) (tau0 N ks) { nx := fun τ => Fin ks k (.im rN ()) τ, rt := Fin ks k }) (hps : (defArgs st).args.map (·.arg) = ps := by rfl) : Fn G x (m + 1) C := by
  have hl : Lk G.K f fd ps := by
    obtain ⟨oc, od, kV, doc, pm, an, cdv, ct, osl, rfl, lk, _⟩ := F.ex
    exact ⟨⟨oc, od, osl, lk⟩, hps⟩
  refine ⟨⟨f, fd, ps, hf, F.kp, b, F.ok S0 (fun vs H Q E h => ?_) fun cdv A outer s H vs Q E hr h => ?_, hl⟩⟩
  · obtain ⟨F0, R0, R, ks, k, ok, hC, _⟩ := h
    have := ok.len
    rw [List.length_map] at this
    rw [this, len ks k hC]
  · obtain ⟨F0, R0, R, ks, k, ok, hC, hq⟩ := h
    refine ⟨_, pss_sem, ?_⟩
    have hX : XF G (cxOf CX0 G.P G.w G.K G.mg G.base N qual (defScope st) f cdv A outer s H E).nox N (defScope st) m := ⟨rfl, rfl, rfl, rfl, rfl, rfl, rfl, rfl, hr, S0.nd⟩
    refine body _ hX (fun _ => rfl) PassesOwn.never ks k hC (L2.start N vs) H F0 R0 R _ (ok.start N) ⟨?_, ?_, fun _ _ _ _ z => z.elim, fun _ _ _ _ z => z.elim⟩
    · rintro τ' σ' R' H' ⟨ks', hk, hl, hs⟩ l ok'
      exact hq _ ks' .non R' H' hk l (ok.finish ok' hl hs) (VOk.im rfl)
    · rintro x τ' v σ' R' H' ⟨ks', hk, hl, hs⟩ l ok' w
      refine hq x ks' v R' H' hk l (ok.finish ok' hl hs) ⟨w.rel, fun p o => ⟨(w.own p o).1, fun i y e oy => ?_⟩⟩
      rcases hs i y e with z | ⟨⟨j, ej⟩, _⟩
      · subst z; exact oy
      · exact (w.own p o).2 j y ej oy
end T
end
section
set_option Elab.async false
set_option linter.all false
set_option autoImplicit false
set_option maxRecDepth 100000
set_option maxHeartbeats 2000000
namespace T
open PySem PySem.Spec PyProof.Rows L2

/-! ### several values held at once -/
inductive VAll (F R H : Hp) (τ : Tau) : List V → List Kd → Prop
  | nil : VAll F R H τ [] []
  | cons {v : V} {y : Kd} {vs : List V} {ys : List Kd} (w : VOk F R H τ v y) (d : ∀ p, owns y p → ∀ z ∈ ys, ¬ owns z p) (t : VAll F R H τ vs ys) : VAll F R H τ (v :: vs) (y :: ys)
theorem VAll.mem {F R H : Hp} {τ : Tau} {vs : List V} {ys : List Kd} (h : VAll F R H τ vs ys) : ∀ z ∈ ys, ∃ v, VOk F R H τ v z := by
  induction h with
  | nil => intro z hz; cases hz
  | cons w _ _ ih =>
    intro z hz
    rcases List.mem_cons.mp hz with e | e
    · subst e; exact ⟨_, w⟩
    · exact ih z e
theorem VAll.drop {F R H : Hp} {τ : Tau} {D : Addr} {u : HO} (hF : F D = none) {vs : List V} {ys : List Kd} (h : VAll (upd F D u) R H τ vs ys) : VAll F R H τ vs ys := by
  induction h with
  | nil => exact .nil
  | cons w d _ ih => exact .cons (w.drop hF) d ih
theorem VOk.after {F R H : Hp} {τ : Tau} {u : V} {x y : Kd} (w : VOk F R H τ u y) (i : Nat) (d : ∀ p, owns x p → ¬ owns y p) : VOk F R H (τ.set i x) u y := ⟨w.rel, fun p o => ⟨(w.own p o).1, fun j k e ok => by
  by_cases hj : i = j
  · subst hj
    by_cases hl : i < τ.length
    · rw [List.getElem?_set_self hl] at e; cases e; exact d p ok o
    · rw [List.getElem?_eq_none (by simpa using hl)] at e; cases e
  · rw [List.getElem?_set_ne hj] at e
    exact (w.own p o).2 j k e ok⟩⟩
def Vs (X : Cx) : List Expr → Tau → (List Kd → Tau → Prop) → Prop
  | [], τ, k => k [] τ
  | e :: es, τ, k => E X e τ fun x τ1 => Vs X es τ1 fun ys τ2 => k (x :: ys) τ2
theorem Vs.run {X : Cx} : ∀ {es : List Expr} {τ : Tau} {k : List Kd → Tau → Prop}, Vs X es τ k → ∀ (σ : L2.St) (H F R0 R : Hp) (Q : List V → Hp → Prop), Ok F R0 R H σ τ →
    (∀ ys τ' vs R' H', k ys τ' → Le R R' → Ok F R0 R' H' σ τ' → VAll F R' H' τ' vs ys → Q vs H') → tAll X es σ H Q
  | [], τ, k, h, σ, H, F, R0, R, Q, ok, q => q [] τ [] R H h (Le.refl R) ok .nil
  | e :: es, τ, k, h, σ, H, F, R0, R, Q, ok, q => h σ H F R0 R _ ok fun x τ1 v R1 H1 h1 l1 ok1 w1 => by
    cases x with
    | no => exact Vs.run h1 σ H1 F R0 R1 _ ok1 fun ys τ2 vs R2 H2 hk l2 ok2 hv => q _ τ2 (v :: vs) R2 H2 hk (l1.trans l2) ok2 (.cons ⟨trivial, fun _ o => o.elim⟩ (fun _ o => o.elim) hv)
    | im A a => exact Vs.run h1 σ H1 F R0 R1 _ ok1 fun ys τ2 vs R2 H2 hk l2 ok2 hv => q _ τ2 (v :: vs) R2 H2 hk (l1.trans l2) ok2 (.cons (VOk.im (A.up l2 w1.rel)) (fun _ o => o.elim) hv)
    | ow p C c =>
      obtain ⟨e1, e2, o, e3, e4⟩ := w1.rel
      obtain ⟨hF, hn⟩ := w1.own p rfl
      have okh := ok1.hold e2 e3 hn
      refine Vs.run h1 σ H1 (upd F p o) R1 R1 _ okh fun ys τ2 vs R2 H2 hk l2 ok2 hv => ?_
      obtain ⟨ok2', hH2, hR2, hn2⟩ := ok1.drop hF l2 ok2
      refine q _ τ2 (v :: vs) R2 H2 hk (l1.trans l2) ok2' (.cons ⟨⟨e1, hR2 e2, o, hH2, C.up l2 e4⟩, fun p' h' => by cases h'; exact ⟨hF, hn2⟩⟩ (fun p' h' z hz oz => ?_) (hv.drop hF))
      cases h'
      obtain ⟨u, w⟩ := hv.mem z hz
      have := (w.own p oz).1
      rw [upd_same] at this
      cases this
section
variable {G : Gm} {X : Cx} {N : List Str} {sc : Scope} {n : Nat} {τ τ1 : Tau} {k : KK} {P : Po} {y : Kd} {e a b c tg iter elt kx vx : Expr} {es elts ifs : List Expr} {pos p tpos spos py px pz pt : Pos} {kt : Tau → Prop}
/-- x, y = a, b -/
theorem S1_par {i j : Nat} {x y : Str} {t1 t2 : _} {pt2 : Pos} (hX : XF G X N sc n) (hi : N[i]? = some x) (hj : N[j]? = some y) (hij : i ≠ j) (hx : sc.names.lookup x = some .local) (hy : sc.names.lookup y = some .local) (hn : noStar [a, b] = true)
    (h : Vs X [a, b] τ fun ys τ1 => ∃ u v, ys = [u, v] ∧ P.nx ((τ1.set i u).set j v))
    (hw : swappedStores [.Tuple [.Name x px, .Name y py] t1 pt] (.Tuple [a, b] t2 pt2) (envS sc) = pure (some [x, y]) := by rfl)
    (hs : swapsWithSole [.Tuple [.Name x px, .Name y py] t1 pt] (.Tuple [a, b] t2 pt2) pos.line X.env = pure false := by rfl) :
    S1 X (.Assign [.Tuple [.Name x px, .Name y py] t1 pt] (.Tuple [a, b] t2 pt2) pos) τ P :=
  S1.of (ps_par hX.calm (by rw [hX.eN]; exact hX.nd) (by rw [hX.eN]; exact hi) (by rw [hX.eN]; exact hj) hij (by rw [hX.es]; exact hx) (by rw [hX.es]; exact hy) (pa_all (star_of hn)) ((sw_env (by rw [hX.es]; rfl)).trans hw) hs) fun σ H F R0 R D ok q =>
    h.run σ H F R0 R _ ok fun ys τ1 vs R1 H1 ⟨u, v, e, hk⟩ l1 ok1 hv => by
      subst e
      cases hv with
      | cons w1 d1 t => cases t with
        | cons w2 d2 t =>
          cases t
          exact ⟨_, _, rfl, q.nx _ _ R1 H1 hk l1 ((ok1.set' i w1).set' j (w2.after i fun p o => d1 p o _ (by simp)))⟩
theorem S1_par3 {i j l : Nat} {x y z : Str} {t1 t2 : _} {pt2 : Pos} (hX : XF G X N sc n) (hi : N[i]? = some x) (hj : N[j]? = some y) (hl : N[l]? = some z) (hij : i ≠ j) (hil : i ≠ l) (hjl : j ≠ l) (hx : sc.names.lookup x = some .local) (hy : sc.names.lookup y = some .local) (hz : sc.names.lookup z = some .local) (hn : noStar [a, b, c] = true)
    (h : Vs X [a, b, c] τ fun ys τ1 => ∃ u v w, ys = [u, v, w] ∧ P.nx (((τ1.set i u).set j v).set l w))
    (hw : swappedStores [.Tuple [.Name x px, .Name y py, .Name z pz] t1 pt] (.Tuple [a, b, c] t2 pt2) (envS sc) = pure (some [x, y, z]) := by rfl)
    (hs : swapsWithSole [.Tuple [.Name x px, .Name y py, .Name z pz] t1 pt] (.Tuple [a, b, c] t2 pt2) pos.line X.env = pure false := by rfl) :
    S1 X (.Assign [.Tuple [.Name x px, .Name y py, .Name z pz] t1 pt] (.Tuple [a, b, c] t2 pt2) pos) τ P :=
  S1.of (ps_par3 hX.calm (by rw [hX.eN]; exact hX.nd) (by rw [hX.eN]; exact hi) (by rw [hX.eN]; exact hj) (by rw [hX.eN]; exact hl) hij hil hjl (by rw [hX.es]; exact hx) (by rw [hX.es]; exact hy) (by rw [hX.es]; exact hz) (pa_all (star_of hn)) ((sw_env (by rw [hX.es]; rfl)).trans hw) hs) fun σ H F R0 R D ok q =>
    h.run σ H F R0 R _ ok fun ys τ1 vs R1 H1 ⟨u, v, w, e, hk⟩ l1 ok1 hv => by
      subst e
      cases hv with
      | cons w1 d1 t => cases t with
        | cons w2 d2 t => cases t with
          | cons w3 d3 t =>
            cases t
            refine ⟨_, _, _, rfl, q.nx _ _ R1 H1 hk l1 (((ok1.set' i w1).set' j (w2.after i fun p o => d1 p o _ (by simp))).set' l ((w3.after i fun p o => d1 p o _ (by simp)).after j fun p o => d2 p o _ (by simp)))⟩
/-- names as targets -/
theorem pgn {i : Nat} {x : Str} (hX : XF G X N sc n) (hN : N[i]? = some x) (hl : sc.names.lookup x = some .local) : PG X (.Name x px) (gName i) :=
  pg_name (i := i) (by rw [hX.eN]; exact hX.nd) (by rw [hX.eN]; exact hN) (hX.loc (.inl hl)) (.inr (by rw [hX.es]; exact hl))
theorem pgnC {i : Nat} {x : Str} (hX : XF G X N sc n) (hf : ∀ x, X.fn x = true) (hN : N[i]? = some x) (hl : sc.names.lookup x = some .cell) : PG X (.Name x px) (gName i) :=
  pg_name (i := i) (by rw [hX.eN]; exact hX.nd) (by rw [hX.eN]; exact hN) (hX.loc (.inr hl)) (.inl (hf x))
theorem VAll.new {F R H : Hp} {p : Addr} {o : HO} (hp : H p = none) {vs : List V} {ys : List Kd} (h : VAll F R H τ vs ys) : VAll F R (upd H p o) τ vs ys := by
  induction h with
  | nil => exact .nil
  | @cons v y vs ys w d _ ih =>
    refine .cons ⟨?_, w.own⟩ d ih
    have hr := w.rel
    cases y with
    | no => trivial
    | im A a => exact hr
    | ow q C c =>
      obtain ⟨e1, e2, o', e3, e4⟩ := hr
      exact ⟨e1, e2, o', by rw [upd_ne (ne_of_none e3 hp)]; exact e3, e4⟩
theorem VAll.len {F R H : Hp} {vs : List V} {ys : List Kd} (h : VAll F R H τ vs ys) : vs.length = ys.length := by
  induction h with
  | nil => rfl
  | cons _ _ _ ih => simp [ih]
theorem asg_tup {ta : TA} {g : TG} {D : L2.Ends} {σ : L2.St} {H : Hp} (h : ta σ H fun xs H1 => xs.length ≤ sizeLine ∧ ∀ p, H1 p = none → g (.ref p) σ (upd H1 p (.tup xs)) D.nx) : tAsg (tTup ta) g D σ H := h
/-- the same by a tuple that goes at once: a name among them is captured -/
theorem S1_parG {i j : Nat} {tx ty : Expr} {t1 t2 : _} {pt2 : Pos} (hX : XF G X N sc n) (hgx : PG X tx (gName i)) (hgy : PG X ty (gName j)) (hn : noStar [a, b] = true)
    (h : Vs X [a, b] τ fun ys τ1 => ∃ u v, ys = [u, v] ∧ P.nx ((τ1.set i u).set j v)) (htx : plainTg [tx, ty] = true)
    (hw : swappedStores [.Tuple [tx, ty] t1 pt] (.Tuple [a, b] t2 pt2) (envS sc) = pure none := by rfl)
    (hs : swapsWithSole [.Tuple [tx, ty] t1 pt] (.Tuple [a, b] t2 pt2) pos.line X.env = pure false := by rfl) :
    S1 X (.Assign [.Tuple [tx, ty] t1 pt] (.Tuple [a, b] t2 pt2) pos) τ P := by
  have hty : plainTg [ty] = true := by cases tx <;> first | exact htx | (simp [plainTg] at htx)
  have e2 : assignEach [ty] X.env = [(false, assign ty X.env)] := by cases ty <;> first | rfl | (simp [plainTg] at hty)
  have e1 : assignEach [tx, ty] X.env = (false, assign tx X.env) :: assignEach [ty] X.env := by cases tx <;> first | rfl | (simp [plainTg] at htx)
  refine S1.of (ps_asg (pe_tup (pa_all (star_of hn))) (pg_tup (n := 2) hX.calm (pgs_cons hgx (pgs_cons hgy pgs_nil (by rw [e2]; rfl)) (by rw [e1]; rfl)) (by rw [e1, e2]; rfl) (by rw [e1, e2]; rfl)) hs ((sw_env (by rw [hX.es]; rfl)).trans hw) (by rfl)) fun σ H F R0 R D ok q => ?_
  refine asg_tup ?_
  refine h.run σ H F R0 R _ ok fun ys τ1 vs R1 H1 ⟨u, v, e, hk⟩ l1 ok1 hv => ?_
  subst e
  refine ⟨by rw [hv.len, sizeLine_eq]; simp, fun p hp => ?_⟩
  have okn := ok1.new (o := .tup vs) hp
  cases hv.new (o := .tup vs) hp with
  | cons w1 d1 t => cases t with
    | cons w2 d2 t =>
      cases t
      refine ⟨p, _, rfl, .inl (.inl upd_same), rfl, _, _, rfl, _, _, rfl, rfl, q.nx _ _ R1 _ hk l1 ((okn.set' i w1).set' j (w2.after i fun p o => d1 p o _ (by simp)))⟩
theorem S1_parG3 {i j l : Nat} {tx ty tz : Expr} {t1 t2 : _} {pt2 : Pos} (hX : XF G X N sc n) (hgx : PG X tx (gName i)) (hgy : PG X ty (gName j)) (hgz : PG X tz (gName l)) (hn : noStar [a, b, c] = true)
    (h : Vs X [a, b, c] τ fun ys τ1 => ∃ u v w, ys = [u, v, w] ∧ P.nx (((τ1.set i u).set j v).set l w)) (htx : plainTg [tx, ty, tz] = true)
    (hw : swappedStores [.Tuple [tx, ty, tz] t1 pt] (.Tuple [a, b, c] t2 pt2) (envS sc) = pure none := by rfl)
    (hs : swapsWithSole [.Tuple [tx, ty, tz] t1 pt] (.Tuple [a, b, c] t2 pt2) pos.line X.env = pure false := by rfl) :
    S1 X (.Assign [.Tuple [tx, ty, tz] t1 pt] (.Tuple [a, b, c] t2 pt2) pos) τ P := by
  have hty : plainTg [ty, tz] = true := by cases tx <;> first | exact htx | (simp [plainTg] at htx)
  have htz : plainTg [tz] = true := by cases ty <;> first | exact hty | (simp [plainTg] at hty)
  have e3 : assignEach [tz] X.env = [(false, assign tz X.env)] := by cases tz <;> first | rfl | (simp [plainTg] at htz)
  have e2 : assignEach [ty, tz] X.env = (false, assign ty X.env) :: assignEach [tz] X.env := by cases ty <;> first | rfl | (simp [plainTg] at hty)
  have e1 : assignEach [tx, ty, tz] X.env = (false, assign tx X.env) :: assignEach [ty, tz] X.env := by cases tx <;> first | rfl | (simp [plainTg] at htx)
  refine S1.of (ps_asg (pe_tup (pa_all (star_of hn))) (pg_tup (n := 3) hX.calm (pgs_cons hgx (pgs_cons hgy (pgs_cons hgz pgs_nil (by rw [e3]; rfl)) (by rw [e2]; rfl)) (by rw [e1]; rfl)) (by rw [e1, e2, e3]; rfl) (by rw [e1, e2, e3]; rfl)) hs ((sw_env (by rw [hX.es]; rfl)).trans hw) (by rfl)) fun σ H F R0 R D ok q => ?_
  refine asg_tup ?_
  refine h.run σ H F R0 R _ ok fun ys τ1 vs R1 H1 ⟨u, v, w, e, hk⟩ l1 ok1 hv => ?_
  subst e
  refine ⟨by rw [hv.len, sizeLine_eq]; simp, fun p hp => ?_⟩
  have okn := ok1.new (o := .tup vs) hp
  cases hv.new (o := .tup vs) hp with
  | cons w1 d1 t => cases t with
    | cons w2 d2 t => cases t with
      | cons w3 d3 t =>
        cases t
        refine ⟨p, _, rfl, .inl (.inl upd_same), rfl, _, _, rfl, _, _, rfl, _, _, rfl, rfl, q.nx _ _ R1 _ hk l1 (((okn.set' i w1).set' j (w2.after i fun p o => d1 p o _ (by simp))).set' l ((w3.after i fun p o => d1 p o _ (by simp)).after j fun p o => d2 p o _ (by simp)))⟩
/-! ### a list of unlike things, at once data -/
def LstOf {β : Type} (B : DR β) (b : β) (ys : List Kd) : Prop := ∀ R H p vs, R p = some (.lst vs) → VsOk R H vs ys → B.rel R (.ref p) b
def rLTri {α β γ : Type} (A : DR α) (B : DR β) (C : DR γ) : DR (α × β × γ) := ⟨fun R v p => ∃ a x y z, v = .ref a ∧ Rd R a (.lst [x, y, z]) ∧ A.rel R x p.1 ∧ B.rel R y p.2.1 ∧ C.rel R z p.2.2,
  fun l ⟨a, x, y, z, e, h, hx, hy, hz⟩ => ⟨a, x, y, z, e, l.rd h, A.up l hx, B.up l hy, C.up l hz⟩⟩
theorem lst_tri {α β γ : Type} {A : DR α} {B : DR β} {C : DR γ} {a : α} {b : β} {c : γ} : LstOf (rLTri A B C) (a, b, c) [.im A a, .im B b, .im C c] := fun R H p vs h v => by
  cases v with
  | cons r1 v => cases v with
    | cons r2 v => cases v with
      | cons r3 v => cases v; exact ⟨p, _, _, _, rfl, .inl h, r1.2, r2.2, r3.2⟩
theorem lst_L {K : PySem.W.Frag} {α : Type} {A : DR α} {l : List α} : LstOf (rL K A) l (l.map (.im A)) := fun R H p vs h v => ⟨p, vs, rfl, .inl h, paired_of v⟩
theorem ix_tri0 {K : PySem.W.Frag} {α β γ : Type} {A : DR α} {B : DR β} {C : DR γ} {q : α × β × γ} : IxOf K (.im (rLTri A B C) q) 0 A q.1 := fun R H v l ⟨p, x, y, z, e, h, h1, h2, h3⟩ => ⟨p, _, x, e, .inl (.inl (l.rd h)), rfl, h1⟩
theorem ix_tri1 {K : PySem.W.Frag} {α β γ : Type} {A : DR α} {B : DR β} {C : DR γ} {q : α × β × γ} : IxOf K (.im (rLTri A B C) q) 1 B q.2.1 := fun R H v l ⟨p, x, y, z, e, h, h1, h2, h3⟩ => ⟨p, _, y, e, .inl (.inl (l.rd h)), rfl, h2⟩
theorem ix_tri2 {K : PySem.W.Frag} {α β γ : Type} {A : DR α} {B : DR β} {C : DR γ} {q : α × β × γ} : IxOf K (.im (rLTri A B C) q) 2 C q.2.2 := fun R H v l ⟨p, x, y, z, e, h, h1, h2, h3⟩ => ⟨p, _, z, e, .inl (.inl (l.rd h)), rfl, h3⟩
theorem unl_tri {K : PySem.W.Frag} {α β γ : Type} {A : DR α} {B : DR β} {C : DR γ} {q : α × β × γ} : UnL K (.im (rLTri A B C) q) [.im A q.1, .im B q.2.1, .im C q.2.2] := fun R H v l ⟨p, x, y, z, e, h, h1, h2, h3⟩ => ⟨p, _, e, .inl (l.rd h), .cons ⟨trivial, h1⟩ (.cons ⟨trivial, h2⟩ (.cons ⟨trivial, h3⟩ .nil))⟩
theorem E_lstD (hs : noStar es = true) (h : Items X es τ fun ys τ' => ys.length ≤ 100000 ∧ ∃ β, ∃ B : DR β, ∃ b, LstOf B b ys ∧ k (.im B b) τ') : E X (.List es pos) τ k :=
  E.of (pe_lst (pa_all (star_of hs))) fun σ H F R0 R Q ok q => Items.run h σ H F R0 R _ ok fun ys τ' vs R' H' ⟨hz, β, B, b, hl, hk⟩ le ok' hv =>
    ⟨by rw [vs_len hv, sizeLine_eq]; omega, fun p hp => by
      obtain ⟨hR, hF, ho⟩ := ok'.fresh hp
      have okn := ok'.lay (o := .lst vs) hp
      exact q _ τ' _ _ _ hk (le.trans (Le.upd hR)) okn (VOk.im (hl _ (upd H' p (.lst vs)) p vs upd_same (hv.up (Le.upd hR))))⟩
/-- a, b, c = a list -/
theorem T_lst {m : Nat} {ys : List Kd} (hX : XF G X N sc n) (hst : plainTg es = true) (hu : UnL G.K y ys) (h : Tgs X es ys τ kt) (hlen : ys.length = es.length := by rfl) : Tg X (.Tuple es m pos) y τ kt := by
  have hplain : ∀ {es : List Expr}, plainTg es = true → ∀ env, (assignEach es env).length = es.length ∧ (assignEach es env).findIdx? (·.1) = none := by
    intro es
    induction es with
    | nil => intro _ env; exact ⟨rfl, rfl⟩
    | cons e es ih =>
      intro h env
      have h' : plainTg es = true := by cases e <;> first | exact h | (simp [plainTg] at h)
      obtain ⟨h1, h2⟩ := ih h' env
      have e1 : assignEach (e :: es) env = (false, assign e env) :: assignEach es env := by cases e <;> first | rfl | (simp [plainTg] at h)
      rw [e1]
      exact ⟨by simp [h1], by rw [List.findIdx?_cons]; simp [h2]⟩
  have hpgs : ∀ {es : List Expr}, plainTg es = true → PGs X es (tgAll X es) := by
    intro es
    induction es with
    | nil => intro _; exact pgs_nil
    | cons e es ih =>
      intro h
      have h' : plainTg es = true := by cases e <;> first | exact h | (simp [plainTg] at h)
      exact pgs_cons pg_sem (ih h') (by cases e <;> first | rfl | (simp [plainTg] at h))
  obtain ⟨h1, h2⟩ := hplain hst X.env
  refine Tg.of (pg_lst hX.calm (hpgs hst) h1 h2) fun σ H F R0 R v Q ok w q => ?_
  obtain ⟨p, us, e, hq, hv⟩ := hu R H v ok.le w.rel
  exact ⟨p, us, e, by rw [hX.eK]; exact hq, (vs_len hv).trans hlen, Tgs.run h σ H F R0 R us Q ok hv q⟩
/-! ### slices -/
def cutL {α : Type} (xs : List α) (lo hi : Option Int) : List α := (xs.drop (HT.sIx xs.length 0 lo)).take (HT.sIx xs.length xs.length hi - HT.sIx xs.length 0 lo)
theorem paired_cut {R : Hp} {α : Type} {A : DR α} {xs : List V} {l : List α} (h : Paired (A.rel R) xs l) (lo hi : Option Int) : Paired (A.rel R) (cutV xs lo hi) (cutL l lo hi) := by
  have hd : ∀ {xs : List V} {l : List α} (m : Nat), Paired (A.rel R) xs l → Paired (A.rel R) (xs.drop m) (l.drop m) := by
    intro xs l m h
    induction h generalizing m with
    | nil => cases m <;> exact .nil
    | cons r t ih => cases m with
      | zero => exact .cons r t
      | succ m => exact ih m
  have ht : ∀ {xs : List V} {l : List α} (m : Nat), Paired (A.rel R) xs l → Paired (A.rel R) (xs.take m) (l.take m) := by
    intro xs l m h
    induction h generalizing m with
    | nil => cases m <;> exact .nil
    | cons r t ih => cases m with
      | zero => exact .nil
      | succ m => exact .cons r (ih m)
  have hl := PySem.Paired.length h
  unfold cutV cutL
  rw [hl]
  exact ht _ (hd _ h)
/-- an end of a slice -/
def Pt (X : Cx) : Option Expr → Tau → (Option Int → Tau → Prop) → Prop
  | none, τ, k => k none τ
  | some e, τ, k => E X e τ fun x τ1 => ∃ i, Fz x (.im rI i) ∧ k (some i) τ1
def tPt (X : Cx) : Option Expr → TO
  | none => tNoPart
  | some e => tPart (sem X e)
theorem po_pt {lo : Option Expr} : PO X lo (tPt X lo) := by
  cases lo with
  | none => exact po_none
  | some e => exact po_some pe_sem
theorem Pt.run {lo : Option Expr} {k : Option Int → Tau → Prop} (h : Pt X lo τ k) (σ : L2.St) (H F R0 R : Hp) (Q : Option Int → Hp → Prop) (ok : Ok F R0 R H σ τ) (q : ∀ o τ' R' H', k o τ' → Le R R' → Ok F R0 R' H' σ τ' → Q o H') : tPt X lo σ H Q := by
  cases lo with
  | none => exact q none τ R H h (Le.refl R) ok
  | some e =>
    refine h σ H F R0 R _ ok fun x τ1 v R1 H1 ⟨i, fz, hk⟩ l1 ok1 w1 => ?_
    obtain ⟨R2, l2, ok2, r⟩ := fz_rel ok1 w1 fz
    cases r
    exact ⟨i, rfl, q _ τ1 R2 H1 hk (l1.trans l2) ok2⟩
/-- a[lo:hi] of a list -/
def SlOf (K : PySem.W.Frag) (x : Kd) {α : Type} (A : DR α) (l : List α) : Prop := ∀ R H v, LeR R H → x.rel R H v → ∃ p xs, v = .ref p ∧ SqL K H p xs ∧ Paired (A.rel R) xs l
theorem slof_L {K : PySem.W.Frag} {α : Type} {A : DR α} {l : List α} : SlOf K (.im (rL K A) l) A l := fun R H v le ⟨p, xs, e, h, hp⟩ => ⟨p, xs, e, .inl (le.rd h), hp⟩
theorem slof_cL {K : PySem.W.Frag} {α : Type} {A : DR α} {l : List α} {q : Addr} : SlOf K (.ow q (cL A) l) A l := fun R H v le ⟨e, hR, o, ho, xs, eo, hp⟩ => by
  subst eo; exact ⟨q, xs, e, .inl (.inl ho), hp⟩
theorem E_slL {lo hi : Option Expr} {p2 : Pos} {α : Type} {A : DR α} (hX : XF G X N sc n)
    (h : T.P X a τ fun pl τ1 => Pt X lo τ1 fun o1 τ2 => Pt X hi τ2 fun o2 τ3 => ∃ x l, pl.kd τ3 = some x ∧ SlOf G.K x A l ∧ ∀ p, k (.ow p (cL A) (cutL l o1 o2)) τ3) : E X (.Subscript a (.Slice lo hi none p2) pos) τ k :=
  E.of (pe_slice sl_list pe_sem po_pt po_pt) fun σ H F R0 R Q ok q => h σ H F R0 R _ ok fun pl τ1 v R1 H1 h1 l1 ok1 at1 =>
    Pt.run h1 σ H1 F R0 R1 _ ok1 fun o1 τ2 R2 H2 h2 l2 ok2 => Pt.run h2 σ H2 F R0 R2 _ ok2 fun o2 τ3 R3 H3 ⟨x, l, ex, hs, hk⟩ l3 ok3 => by
      obtain ⟨pa, xs, e1, hq, hp⟩ := hs R3 H3 v ok3.le (Pl.rel ok3 (Pl.up (l2.trans l3) at1) ex)
      refine ⟨pa, xs, e1, by rw [hX.eK]; exact hq, fun p hpn => ?_⟩
      obtain ⟨hR, hF, ho⟩ := ok3.fresh hpn
      exact q _ τ3 _ R3 _ (hk p) ((l1.trans l2).trans l3) (ok3.new hpn) ⟨⟨rfl, hR, _, upd_same, _, rfl, paired_cut hp _ _⟩, fun p' z => by cases z; exact ⟨hF, ho⟩⟩
/-- f() -/
theorem E_call0 {x : Str} {m : Nat} {C : Ct} (hX : XF G X N sc n) (f : Fn G x m C) (hm : m ≤ n) (hg : sc.names.lookup x = some .globalImplicit) (h : C [] fun r _ => k r τ) (hdb : (x == ("__debug__" : Str)) = false := by decide) :
    E X (.Call (.Name x p) [] [] pos) τ k := by
  obtain ⟨f, fd, pr, h1, h2, h3, h4, _⟩ := f.ex
  have h4' : FnOk X.prog X.w X.K X.mg X.base CX0 m f fd pr (spOf C) := by rw [hX.ep, hX.ew, hX.eK, hX.emg, hX.eb]; exact h4
  refine E.of (pe_call0 (E := E0) h4' (hX.room.mono hm) (hX.gl hg) (hX.mgN h1) (by rw [hX.eK]; exact h2) (by rw [hX.eK]; exact h3) .nil pass0 hdb) ?_
  intro σ H F R0 R Q ok q
  have hok : Ok (keepOf H []) R R H ((([] : List V)).map some) [] := ok.enter (vs := []) (ps := []) (ks := []) trivial trivial trivial
  refine ⟨keepOf H [], R, R, [], _, hok, h, fun r ks' v R2 H2 hr l2 ok2 w2 => ?_⟩
  obtain ⟨ok3, w3⟩ := ok.leave (vs := []) (ps := []) (ks := []) trivial trivial trivial l2 ok2
  exact q r τ v R2 H2 hr l2 ok3 (w3 v r w2)
end
end T
end
section
set_option Elab.async false
set_option linter.all false
set_option autoImplicit false
set_option maxRecDepth 100000
set_option maxHeartbeats 2000000
namespace T
open PySem PySem.Spec PyProof.Rows L2

/-! ### enumerate(tuple) -/
theorem meets_enum_newB1 {v : Value} {o : Obj} {H : Heap → Prop} (B : Begins v o H) :
    Meets (Builtin.«enumerate.__new__» ⟨[.type "enumerate", v], []⟩) (fun _ R s => H s.heap ∧
      R (.ok (.ret (.ref (s.heap.push o).objs.size))) { s with heap := (s.heap.push o).push { cls := .type "enumerate", data := .fields #[.none, .bool false, .ref s.heap.objs.size, rawInt 0, .none, .none] } }) :=
  .of_wp fun prog w A R s h => by
    obtain ⟨hp, g, d, tk, os⟩ := s; obtain ⟨h1, h⟩ := h
    have hsub := sub_enumerate
    have q1 : ∀ {A' : Around} {E : Value → Shared → Prop} {Q : Value → Shared → Prop}, Q (.ref hp.objs.size) ⟨hp.push o, g, d, tk, os⟩ → wpAny (model prog w) A' (pyIter v) Q E ⟨hp, g, d, tk, os⟩ :=
      fun q => B.iter prog w _ _ ⟨hp, g, d, tk, os⟩ _ h1 q
    wp_walk using q1
    refine wpAny_stack_any fun st => wpAny_pure ?_
    split
    · rename_i c _ _ _ _ _
      cases (c == Value.type "enumerate")
      · wp_walk using q1
        exact ⟨_, rfl, h⟩
      · wp_walk using q1
        exact ⟨_, rfl, h⟩
    · wp_walk using q1
      exact ⟨_, rfl, h⟩
theorem call_enum_tuple {prog : Program} {w : World} {A : Around} {E : Value → Shared → Prop} {s : Shared} {l : Addr} {items : Array Value} {Q : Value → Shared → Prop} (hL : s.heap.IsTuple l items)
    (h : ∀ h', IsEnum h' (s.heap.objs.size + 1) s.heap.objs.size 0 .none → h'.IsTupleIter s.heap.objs.size l 0 → (∀ b o, s.heap.get? b = some o → h'.get? b = some o) → Q (.ref (s.heap.objs.size + 1)) { s with heap := h' }) :
    wpAny (model prog w) A (call (.type "enumerate") [.ref l]) Q E s := by
  refine callType_new F.called_enumerate (by decide) (F.typeCall_enumerate_1 _) (F.newCall_enumerate_1 _) (fun obj => F.args_object_init_2 obj _) F.entry_enumerate_new
    (meets_enum_newB1 (begins_tuple l items)) ⟨hL, ?_⟩
  have hz : (s.heap.push { cls := .type "tuple_iterator", data := .fields #[.ref l, .int 0 0] }).objs.size = s.heap.objs.size + 1 := Heap.size_push ..
  show _ ∧ _
  rw [hz]
  have he : IsEnum ((s.heap.push { cls := .type "tuple_iterator", data := .fields #[.ref l, .int 0 0] }).push { cls := .type "enumerate", data := .fields #[.none, .bool false, .ref s.heap.objs.size, rawInt 0, .none, .none] }) (s.heap.objs.size + 1) s.heap.objs.size 0 .none := by
    have := Heap.get?_push_size (s.heap.push { cls := .type "tuple_iterator", data := .fields #[.ref l, .int 0 0] }) (o := { cls := .type "enumerate", data := .fields #[.none, .bool false, .ref s.heap.objs.size, rawInt 0, .none, .none] }) rfl
    rw [hz] at this; exact this
  refine ⟨⟨_, he, rfl⟩, h _ he ⟨_, Heap.get?_push_of_some _ (Heap.get?_push_size _ rfl), rfl, rfl⟩ fun b o x => Heap.get?_push_of_some _ (Heap.get?_push_of_some _ x)⟩
def IteT (K : PySem.W.Frag) (a : Addr) : L2.It :=
  ⟨fun i H => ∃ (xs : List V) (x : V), SqT K H a xs ∧ xs[i]? = some x, fun i H v H' => ∃ T x, v = .ref T ∧ H T = none ∧ H' = upd H T (.tup [.int (i : Nat), x]) ∧ ∀ xs, SqT K H a xs → xs[i]? = some x, fun i H => ∃ xs : List V, SqT K H a xs ∧ xs.length ≤ i⟩
theorem turn_enumT {P : Program} {w : World} {K : PySem.W.Frag} {elts : List Expr} {kk : Nat} {tpos : Pos} (a e it : Addr) :
    Turn P w K (.Tuple elts kk tpos) (IteT K a) [e, it] e (fun i h => (∃ old, IsEnum h e it ((i : Nat) : Int) old) ∧ h.IsTupleIter it a i ∧ e ≠ it ∧ a ≠ it ∧ e ≠ a) where
  mem := by simp
  obj := fun i h st b hb => by
    obtain ⟨⟨old, he⟩, ⟨o, ho, hc, hd⟩, _⟩ := st
    have e' : b = e ∨ b = it := by simpa using hb
    rcases e' with z | z
    · rw [z]; exact ⟨_, he, fun v q => nomatch q⟩
    · rw [z]; exact ⟨o, ho, fun v q => by rw [hd] at q; cases q⟩
  keep := fun i h h' st k => let ⟨⟨old, he⟩, hi, hne⟩ := st; ⟨⟨old, k e (by simp) _ he⟩, hi.at fun o q => k it (by simp) o q, hne⟩
  item := by
    intro X hP hw hK hc i pins s σ H E I hf st hg
    subst hP hw hK
    obtain ⟨⟨old, he⟩, hit, hne, hna, hea⟩ := st
    obtain ⟨xs, x, hq, hx⟩ := hg
    obtain ⟨its, rv, p, hz⟩ := I.tuple hq
    obtain ⟨u, hu, ru⟩ := rv.get hx
    have hel : e < s.heap.objs.size := Heap.lt_size he
    have hil : it < s.heap.objs.size := by obtain ⟨_, q, _⟩ := hit; exact Heap.lt_size q
    have hlt : i < its.toArray.size := by
      have := (List.getElem?_eq_some_iff.mp hu).1
      simpa using this
    refine wpAny_pyNext_enum_itemD (Draws.tuple (prog := X.prog) (w := X.w) (A := X.A.in1) (I.ok.hd hc) it a hna its.toArray) he ⟨hit, p⟩ hlt hne (by simp [hne, hea]) fun y h' tk hy ho hst hT hsz hk => ?_
    have ey : y = u := by
      have hy' : its[i]? = some y := by simpa using hy
      rw [hu] at hy'; exact (Option.some.inj hy').symm
    subst ey
    refine ⟨_, rfl, wpAny_letOwnedTupleGo_enum (s := { s with heap := h', toks := tk + 1 }) ho fun h'' he' sb => ?_⟩
    have hT2 : h''.get? s.heap.objs.size = some { cls := .type "tuple", data := .seq #[.int i tk, y] } := (sb.2 _ (Nat.ne_of_gt hel)).trans hT
    have new : ObjOk X.prog X.w (upd H s.heap.objs.size (.tup [.int (i : Nat), x])) h'' s.heap.objs.size (.tup [.int (i : Nat), x]) :=
      ⟨by show 2 ≤ sizeLine; decide, [.int i tk, y], .cons ⟨_, rfl⟩ (.cons ru .nil), ⟨_, hT2, rfl, _, rfl⟩⟩
    have I1 : Inv X pins σ (upd H s.heap.objs.size (.tup [.int (i : Nat), x])) { s with heap := h'', toks := tk + 1 } :=
      I.turnedNew (ch := [e, it]) (fun b ob hb q => (sb.2 b (fun z => hb (by simp [z]))).trans (hk b ob (fun z => hb (by simp [z])) (fun z => hb (by simp [z])) q)) hf (Nat.le_refl _) new
    refine ⟨.ref s.heap.objs.size, _, I1, rfl, ⟨_, x, rfl, I.hok.fresh (Nat.le_refl _), rfl, fun ys hy => by rw [I.tuple_inj hy hq]; exact hx⟩, ⟨⟨y, ?_⟩, hst.1.at fun o q => (sb.2 it (Ne.symm hne)).trans q, hne, hna, hea⟩, fun b hb => ?_⟩
    · have e1 : ((i + 1 : Nat) : Int) = (i : Int) + 1 := by omega
      rw [e1]; exact he'
    · have hb' : b < s.heap.objs.size := by
        have e' : b = e ∨ b = it := by simpa using hb
        rcases e' with z | z
        · rw [z]; exact hel
        · rw [z]; exact hil
      rw [upd_ne (Nat.ne_of_lt hb')]
      exact (hf b hb).1
  done := by
    intro X hP hw hK hc i pins s σ H E I hf st hg
    subst hP hw hK
    obtain ⟨⟨old, he⟩, hit, hne, hna, hea⟩ := st
    obtain ⟨xs, hq, hx⟩ := hg
    obtain ⟨its, rv, p, hz⟩ := I.tuple hq
    obtain ⟨f0, f1, f2, f3, f4, f5⟩ := hf it (by simp)
    have hl := rv.length
    have hn : its.toArray.size ≤ i := by simp; omega
    -- the iterator stands at i, at or behind the end
    have D : Draws X.prog X.w X.A.in1 it [it, a] i (fun _ _ => False) (fun j h => h.IsTupleIter it a i ∧ h.IsTuple a its.toArray ∧ j = i) :=
      { live := fun _ _ st => let ⟨o, ho, _⟩ := st.1; ⟨o, ho⟩
        frame := fun _ _ _ st hk => ⟨st.1.at fun o e => hk it (by simp) o e, st.2.1.at fun o e => hk a (by simp) o e, st.2.2⟩
        item := fun j s Q E hj st hQ => absurd hj (by rw [st.2.2]; exact Nat.lt_irrefl _)
        done := fun s Q E st hE => wpAny_nextOf_tuple_end (I.ok.hd hc) st.1 st.2.1 (Array.getElem?_eq_none hn) hE }
    exact wpAny_pyNext_enum_endD D he ⟨hit, p, rfl⟩ fun h' eb => ⟨rfl, I.turned (t' := s.toks) (fun b o hb q => eb b o hb q) f0 f1 f3 f4 f5⟩
  self := fun A i s Q E st h => let ⟨⟨_, he⟩, _⟩ := st; wpAny_pyIter_enum he h
def iEnumT (K : PySem.W.Frag) (ta : TA) : TI := fun σ H R => ta σ H fun vs H1 => ∃ a xs, vs = [.ref a] ∧ SqT K H1 a xs ∧ R (IteT K a) H1
theorem pi_enumT {X : Cx} {e : Expr} {ta : TA} {p pos tpos : Pos} {elts : List Expr} {kk : Nat} (hg : Gl X "enumerate") (hm : X.mg "enumerate" = none) (ha : PA X [e] ta) (hs : starEach [e] X.env = [(false, eval e X.env)] := by rfl) :
    PI X (.Tuple elts kk tpos) (.Call (.Name "enumerate" p) [e] [] pos) (iEnumT X.K ta) := by
  refine ⟨fun pins s σ H R I h => ?_⟩
  refine Call_ (ld_blt I hg hm boot_enumerate (PyProof.Rows.callWith_type1 (thn (ha.run pos pins s σ H _ I h) fun us s1 ⟨vs, H1, I1, r1, q1⟩ => ?_) hs rfl))
  obtain ⟨a, xs, ex, hq, q⟩ := q1
  subst ex
  cases r1 with
  | cons r rr =>
    cases rr
    cases r
    obtain ⟨its, rv, p', hz⟩ := I1.tuple hq
    have hal : a < s1.heap.objs.size := by obtain ⟨_, e, _⟩ := p'; exact Heap.lt_size e
    refine call_enum_tuple p' fun h' he hit hk => wpAny_pyIter_enum he ?_
    have I2 : Inv X pins σ H1 { s1 with heap := h' } := I1.kept (t' := s1.toks) hk
    refine ⟨s1.heap.objs.size + 1, [s1.heap.objs.size + 1, s1.heap.objs.size], _, _, H1, rfl, I2, turn_enumT a (s1.heap.objs.size + 1) s1.heap.objs.size, ⟨⟨.none, he⟩, hit, Nat.succ_ne_self _, Nat.ne_of_lt hal, Nat.ne_of_gt (Nat.lt_succ_of_lt hal)⟩, fun b hb => ?_, q⟩
    have e' : b = s1.heap.objs.size + 1 ∨ b = s1.heap.objs.size := by simpa using hb
    have hle : s1.heap.objs.size ≤ b := by
      rcases e' with z | z
      · rw [z]; exact Nat.le_add_right _ _
      · rw [z]; exact Nat.le_refl _
    exact I1.fpOk hle (I1.hok.fresh hle)
/-! ### min(dict) -/
theorem call_minD {X : Cx} (hcalm : X.calm = true) : CallR X (.builtin "min") (fun xs H Q => ∃ (a : Addr) (kvs : List (Key × V)) (ks : List Int), xs = [.ref a] ∧ Rd H a (.dK kvs) ∧ kvs.map (·.1) = ks.map Sum.inl ∧ 0 < ks.length ∧
    ∀ m, m ∈ ks → (∀ y, y ∈ ks → m ≤ y) → Q (.int m) H) := by
  intro pins s σ H xs us Q I r q
  obtain ⟨a, kvs, ks, ex, hd, hks, h0, q⟩ := q
  subst ex
  obtain ⟨u, eu, rx⟩ := vals1 r
  subst eu
  cases rx
  obtain ⟨z, lo, vs, rel, dd⟩ := dk_rd I.hok hd
  obtain ⟨ep, hat⟩ := dd.dictAt
  have hkeys : vs.map (·.1) = ks.map Sum.inl := rel.keys.symm.trans hks
  have hl : vs.length = ks.length := by
    have e := congrArg List.length hkeys
    rw [List.length_map, List.length_map] at e
    exact e
  have hlt : a < s.heap.objs.size := hat.lt_size
  let val : Nat → Int := fun i => ks[i]?.getD 0
  refine call_min_walk (wpAny_pyIter_dict lo hat ?_)
  refine ⟨_, _, _, _, _, _, _, rfl, Walks.dictKeys (A := X.A.in1) (I.ok.hd hcalm) s.heap.objs.size a (Nat.ne_of_lt hlt) vs ep, ⟨⟨_, Heap.get?_push_size _ rfl, rfl, rfl⟩, hat.push _⟩, fun b hb => ?_, by rw [hl]; exact h0, CmpOf.ints_lt val (fun i v => ?_), fun v h' tk hP hk => ?_⟩
  · show b < (s.heap.push _).objs.size
    rw [Heap.size_push]
    rcases List.mem_cons.mp hb with rfl | hb
    · exact Nat.lt_succ_self _
    · rcases List.mem_cons.mp hb with rfl | hb
      · exact Nat.lt_succ_of_lt hlt
      · cases hb
  · rintro ⟨k, x, e1, e2⟩
    have e3 : (vs.map (·.1))[i]? = some k := by rw [List.getElem?_map, e1]; rfl
    rw [hkeys, List.getElem?_map] at e3
    cases e4 : ks[i]? with
    | none => rw [e4] at e3; cases e3
    | some y =>
      rw [e4] at e3
      have e5 : Sum.inl y = k := Option.some.inj e3
      subst e5
      rcases keyIs_shape (show keyIs (Sum.inl y) v = true from e2) with ⟨i', t, ek, ev⟩ | ⟨z, t, ek, ev⟩
      · cases ek
        exact ⟨t, by show v = .int (ks[i]?.getD 0) t; rw [e4]; exact ev⟩
      · cases ek
  · obtain ⟨k, x, e1, e2⟩ := hP
    have e3 : (vs.map (·.1))[argBest (fun i j => decide (val i < val j)) (vs.length - 1)]? = some k := by rw [List.getElem?_map, e1]; rfl
    rw [hkeys, List.getElem?_map] at e3
    obtain ⟨b1, b2⟩ := argBest_lt val (vs.length - 1)
    generalize argBest (fun i j => decide (val i < val j)) (vs.length - 1) = m at *
    cases e4 : ks[m]? with
    | none => rw [e4] at e3; cases e3
    | some y =>
      rw [e4] at e3
      have e5 : Sum.inl y = k := Option.some.inj e3
      subst e5
      rcases keyIs_shape (show keyIs (Sum.inl y) v = true from e2) with ⟨i', t, ek, ev⟩ | ⟨z, t, ek, ev⟩
      · cases ek
        have hold : ∀ b o, s.heap.get? b = some o → h'.get? b = some o := fun b o e => by
          refine hk b o (fun hm => ?_) (Heap.get?_push_of_some _ e)
          rcases List.mem_cons.mp hm with e1 | hm
          · exact absurd (e1 ▸ Heap.lt_size e) (Nat.lt_irrefl _)
          · cases hm
        subst ev
        refine ⟨.int y, H, I.kept (t' := tk) hold, ⟨t, rfl⟩, q y (List.mem_of_getElem? e4) fun w hw => ?_⟩
        obtain ⟨j, hj⟩ := List.mem_iff_getElem?.mp hw
        have hjl : j < ks.length := (List.getElem?_eq_some_iff.mp hj).1
        have := b2 j (by omega)
        show y ≤ w
        have ey : val m = y := by show ks[m]?.getD 0 = y; rw [e4]; rfl
        have ew : val j = w := by show ks[j]?.getD 0 = w; rw [hj]; rfl
        rw [ey, ew] at this
        exact this
      · cases ek
/-! ### // by any divisor of less than 9000 bits -/
def CDivB (_ j : Int) : Prop := j ≠ 0 ∧ j.natAbs.log2 < 9000
theorem op_fdivB {X : Cx} : OpR X (binaryOp .FloorDiv) (L2.rI CDivB fun i j => .int (i.fdiv j)) := opI fun _ _ _ _ _ _ _ hc q => floordiv_int hc.1 q (.inl (PyProof.noPylong_of_log2 hc.2))
theorem divB_ok {i j : Int} (h0 : j ≠ 0) (h : j.natAbs < 2 ^ 9000) : CDivB i j := ⟨h0, by
  have hj : j.natAbs ≠ 0 := by omega
  exact (Nat.log2_lt hj).mpr h⟩
section
variable {G : Gm} {X : Cx} {N : List Str} {sc : Scope} {n : Nat} {τ τ1 : Tau} {k : KK} {P : Po} {y : Kd} {e a b c tg iter elt kx vx : Expr} {es elts ifs : List Expr} {pos p tpos spos py px pz pt : Pos} {kt : Tau → Prop} {st : Stmt} {sts : List Stmt} {kk : Nat}
theorem E_fdivB (h : E X a τ fun x τ1 => ∃ i, Fz x (.im rI i) ∧ E X b τ1 fun y τ2 => ∃ j, Fz y (.im rI j) ∧ CDivB i j ∧ k (.im rI (i.fdiv j)) τ2) : E X (.BinOp a .FloorDiv b pos) τ k :=
  E.of (pe_op op_fdivB pe_sem pe_sem) (w_opI (D := rI) (f := fun i j => i.fdiv j) (fun _ _ _ => rfl) h)
/-- ways that meet again -/
theorem S_join (J : Tau → Prop) (h1 : S1 X st τ { P with nx := J }) (h2 : ∀ τ', J τ' → S X sts τ' P) : S X (st :: sts) τ P :=
  S_cons fun σ H F R0 R D ok q => h1 σ H F R0 R D ok ⟨fun τ' σ' R' H' hj => q.nx τ' σ' R' H' (h2 τ' hj), q.rt, q.bk, q.ct⟩
/-- min(d): the least key -/
theorem E_minD {β : Type} (B : DR β) (hX : XF G X N sc n) (hg : sc.names.lookup ("min" : Str) = some .globalImplicit) (hm : G.mg ("min" : Str) = none) (hs : noStar [e] = true)
    (h : T.P X e τ fun pl τ1 => ∃ x d, pl.kd τ1 = some x ∧ DOf x B d ∧ d ≠ [] ∧ ∀ m, m ∈ d.map (·.1) → (∀ y ∈ d.map (·.1), m ≤ y) → k (.im rI m) τ1) : E X (.Call (.Name "min" p) [e] [] pos) τ k :=
  E.of (pe_callB (call_minD hX.calm) (hX.gl hg) (hX.mgN hm) boot_minB (pa1 hs) (he := star_of hs _ _ (List.suffix_refl _))) fun σ H F R0 R Q ok q =>
    h σ H F R0 R _ ok fun pl τ1 v R1 H1 ⟨x, d, ex, hd, hz, hk⟩ l1 ok1 at1 => by
      obtain ⟨pa, kvs, e1, h1, h2⟩ := hd R1 H1 v ok1.le (Pl.rel ok1 at1 ex)
      have hkeys : ∀ {kvs : List (Key × V)} {d : List (Int × β)}, KVs B R1 kvs d → kvs.map (·.1) = (d.map (·.1)).map Sum.inl := by
        intro kvs d h
        unfold KVs at h
        induction h with
        | nil => rfl
        | cons r t ih => rw [List.map_cons, List.map_cons, List.map_cons, ih, r.1]
      refine ⟨pa, kvs, d.map (·.1), by rw [e1], h1, hkeys h2, ?_, fun m hm1 hm2 => q _ τ1 _ R1 H1 (hk m hm1 hm2) l1 ok1 (VOk.im rfl)⟩
      cases d with
      | nil => exact absurd rfl hz
      | cons => simp
/-- enumerate of a tuple -/
theorem itOk_enumT {K : PySem.W.Frag} {F R : Hp} {α : Type} {A : DR α} {p : Addr} {xs : List V} {l : List α} (h : SqT K R p xs) (hp : Paired (A.rel R) xs l) : ItOk (IteT K p) F R (l.mapIdx fun i a => .im (rPair K rI A) ((i : Int), a)) where
  go := fun F' R' H i _ _ l1 l2 hi => by
    rw [List.length_mapIdx, ← PySem.Paired.length hp] at hi
    exact ⟨xs, xs[i], (l2.up l1).sqT h, List.getElem?_eq_getElem hi⟩
  stop := fun F' R' H _ _ l1 l2 => ⟨xs, (l2.up l1).sqT h, by rw [List.length_mapIdx, ← PySem.Paired.length hp]; exact Nat.le_refl _⟩
  yld := fun F' R0 R' H σ τ i y x H' _ ok l1 ey ⟨T, u, e, hT, e', hy⟩ => by
    subst e; subst e'
    rw [List.getElem?_mapIdx] at ey
    cases ea : l[i]? with
    | none => rw [ea] at ey; cases ey
    | some a =>
      rw [ea] at ey
      cases ey
      have hx := hy xs ((ok.le.up l1).sqT h)
      obtain ⟨hR, _⟩ := ok.fresh hT
      exact ⟨upd R' T (.tup [V.int (i : Nat), u]), Le.upd hR, ok.lay hT, trivial, T, V.int (i : Nat), u, rfl, .inl (.inl upd_same), rfl, A.up (l1.trans (Le.upd hR)) (paired_get' hp i u a hx ea)⟩
theorem I_enumT (hX : XF G X N sc n) (hg : sc.names.lookup ("enumerate" : Str) = some .globalImplicit) (hm : G.mg ("enumerate" : Str) = none) (hs : noStar [a] = true) {k : List Kd → Tau → Prop}
    (h : E X a τ fun x τ1 => ∃ α, ∃ A : DR α, ∃ l, Fz x (.im (rT G.K A) l) ∧ k (l.mapIdx fun i a => .im (rPair G.K rI A) ((i : Int), a)) τ1) : It X (.Tuple elts kk tpos) (.Call (.Name "enumerate" p) [a] [] pos) τ k :=
  It.of (pi_enumT (hX.gl hg) (hX.mgN hm) (pa_cons pe_sem pa_nil (by cases a <;> first | rfl | (simp [noStar] at hs))) (by cases a <;> first | rfl | (simp [noStar] at hs))) fun σ H F R0 R Rr ok q => h σ H F R0 R _ ok fun x τ1 v R1 H1 ⟨α, A, l, fz, hk⟩ l1 ok1 w1 => by
    obtain ⟨R2, l2, ok2, ⟨pa, xs, e1, hq, hp⟩⟩ := fz_rel ok1 w1 fz
    refine ⟨pa, xs, by rw [e1], by rw [hX.eK]; exact ok2.le.sqT hq, ?_⟩
    rw [hX.eK]
    exact q _ _ τ1 R2 H1 hk (l1.trans l2) ok2 (itOk_enumT hq hp)
end
end T
end
section
set_option Elab.async false
set_option linter.all false
set_option autoImplicit false
set_option maxRecDepth 100000
set_option maxHeartbeats 2000000
namespace T
open PySem PySem.Spec PyProof.Rows L2 RZ
section
variable {G : Gm} {X : Cx} {N : List Str} {sc : Scope} {n : Nat} {τ τ1 : Tau} {k : KK} {P : Po} {y : Kd} {e a b c tg iter elt kx vx : Expr} {es elts ifs : List Expr} {pos p tpos spos py : Pos} {vs : List Nat} {kt : Tau → Prop} {scope : Scope} {own : List (Str × Nat)}
/-- an expression's run while the dict that a name holds is locked -/
theorem E_lockD {te : TE} {j : Nat} {β : Type} {B : DR β} {d : List (Int × β)} (hpe : PE X e te) (ht : τ[j]? = some (.im (rD B) d))
    (h : ∀ (σ : L2.St) (F R H : Hp) (Q : VK) (p : Addr) (o : Obj) (kvs : List (Key × V)), σ[j]? = some (some (.ref p)) → F p = some (.frz o (.dK kvs)) → H p = some (.frz o (.dK kvs)) → KVs B R kvs d → Ok F R R H σ τ →
      (∀ x τ' v R' H', k x τ' → Le R R' → Ok F R R' H' σ τ' → VOk F R' H' τ' v x → Q v H') → te σ H Q) : E X e τ k := fun σ H F R0 R Q ok q => by
  obtain ⟨pa, kvs, hσ, hR, hkv, hH | ⟨o, hH⟩⟩ := ok.dict ht
  · intro pins s I0
    refine (pe_lock hpe).run pins s σ H Q I0 ⟨pa, .dK kvs, hH, True.intro, fun od => ?_⟩
    have okl := ok.lock (od := od) hR True.intro hH (ok.notOwned hR)
    refine h σ (upd F pa (.frz od (.dK kvs))) R (upd H pa (.frz od (.dK kvs))) _ pa od kvs hσ upd_same upd_same hkv okl fun x τ2 v R2 H2 h2 l2 ok2 w2 => ?_
    obtain ⟨ok3, e3⟩ := ok.unlock hR hH l2 ok2
    refine ⟨e3, q x τ2 v R2 _ h2 l2 ok3 ⟨?_, fun p o => ⟨?_, (w2.own p o).2⟩⟩⟩
    · have hr := w2.rel
      cases x with
      | no => trivial
      | im A a => exact hr
      | ow q' C c =>
        obtain ⟨e1, e2, o', e4, e5⟩ := hr
        have hq : q' ≠ pa := fun z => by
          have := (w2.own q' rfl).1
          rw [z, upd_same] at this; cases this
        exact ⟨e1, e2, o', by rw [upd_ne hq]; exact e4, e5⟩
    · have h1 := (w2.own p o).1
      have hq : p ≠ pa := fun z => by rw [z, upd_same] at h1; cases h1
      rw [upd_ne hq] at h1; exact h1
  · intro pins s I0
    refine hpe.run pins s σ H Q I0 ?_
    have okl : Ok (upd F pa (.frz o (.dK kvs))) R R H σ τ := ⟨ok.len, fun a u e => by
        by_cases h : a = pa
        · subst h; rw [upd_same] at e; cases e; exact hH
        · rw [upd_ne h] at e; exact ok.fr a u e, ok.le, Le.refl R, fun a h _ => h, ok.sl, fun i k p e oo => by
        have h : p ≠ pa := fun z => ok.notOwned hR i k e (by rw [← z]; exact oo)
        rw [upd_ne h]; exact ok.ff i k p e oo, ok.inj, ok.nt⟩
    have back : ∀ {τ2 : Tau} {σ2 : L2.St} {R2 H2 : Hp}, Le R R2 → Ok (upd F pa (.frz o (.dK kvs))) R R2 H2 σ2 τ2 → Ok F R0 R2 H2 σ2 τ2 := fun {τ2 σ2 R2 H2} l ok2 => by
      have hF : ∀ a u, F a = some u → upd F pa (.frz o (.dK kvs)) a ≠ none := fun a u e => by
        by_cases h : a = pa
        · subst h; rw [upd_same]; simp
        · rw [upd_ne h, e]; simp
      refine ⟨ok2.len, fun a u e => ?_, ok2.le, ok.r0.trans l, fun a h1 h2 => ?_, ok2.sl, fun i k p e oo => ?_, ok2.inj, ok2.nt⟩
      · by_cases h : a = pa
        · subst h
          have h1 := ok.fr a u e
          rw [hH] at h1; cases h1
          exact ok2.fr a _ upd_same
        · exact ok2.fr a u (by rw [upd_ne h]; exact e)
      · cases hf : F a with
        | none => exact absurd hf h2
        | some u => exact ok2.nw a (ok.nw a h1 h2) (hF a u hf)
      · have h1 := ok2.ff i k p e oo
        have h : p ≠ pa := fun z => by rw [z, upd_same] at h1; cases h1
        rw [upd_ne h] at h1; exact h1
    refine h σ (upd F pa (.frz o (.dK kvs))) R H _ pa o kvs hσ upd_same hH hkv okl fun x τ2 v R2 H2 h2 l2 ok2 w2 => ?_
    refine q x τ2 v R2 _ h2 l2 (back l2 ok2) ⟨w2.rel, fun p oo => ⟨?_, (w2.own p oo).2⟩⟩
    have h1 := (w2.own p oo).1
    have h : p ≠ pa := fun z => by rw [z, upd_same] at h1; cases h1
    rw [upd_ne h] at h1; exact h1
theorem Ok.unwipe {F R0 R H : Hp} {σ : L2.St} {vs : List Nat} (ok' : Ok F R0 R H (wipe σ vs) τ) : Ok F R0 R H σ τ := by
  refine ⟨?_, ok'.fr, ok'.le, ok'.r0, ok'.nw, fun i kd e => ?_, ok'.ff, ok'.inj, ok'.nt⟩
  · have := ok'.len
    rw [wipe_length] at this
    exact this
  · rcases ok'.sl i kd e with z | ⟨v, hv, r⟩
    · exact .inl z
    · refine .inr ⟨v, ?_, r⟩
      cases hw : (wipe σ vs)[i]? with
      | none => rw [hw] at hv; cases hv
      | some u =>
        rw [hw] at hv
        have hu : u = some v := hv
        subst hu
        rw [(wipe_some hw).1]
        rfl
/-- a list comprehension over a dict that a name holds -/
theorem E_lcD {β β0 : Type} (B : DR β) {j : Nat} {B0 : DR β0} {d : List (Int × β0)} {ys : List Kd} (hX : XF G X N sc n) (ok : blkC N sc scope own = true) (ht : τ[j]? = some (.im (rD B0) d)) (hw : DWalk X tg iter j B0 d ys)
    (J : Nat → List β → Tau → Prop) (h0 : J 0 [] (wipeT τ (own.map (·.2)))) (hst : ∀ (i : Nat) y, ys[i]? = some y → LcTurn G X N sc scope n (own.map (·.2)) tg elt ifs B J i y)
    (hd : ∀ out τ', J ys.length out τ' → ∀ p, k (.ow p (cL B) out) τ') (hs : ∀ x, foldedSetIterable iter X.env x = pure x := by intro _; rfl) : E X (.ListComp elt [⟨tg, iter, ifs, 0⟩] scope pos) τ k :=
  E_lockD (pe_lc (own := own) (g := gB X scope tg) (tt := cB X scope ifs) (te := eB X scope elt) hX.calm (by rw [hX.eN]; exact hX.nd) pi_sem (by rw [hX.eN, hX.es]; exact blkOk_by ok)
    (fun s H C cl fp => ⟨fun pins s' σ H' v u Q I r hq => hq s H C cl fp pins s' u I r⟩) (fun s H C cl fp => ⟨fun pins s' σ H' Q I hq => hq s H C cl fp pins s' I⟩) (fun s H C cl fp => ⟨fun pins s' σ H' Q I hq => hq s H C cl fp pins s' I⟩) hs) ht
    fun σ F R H Q p o kvs hσ hF hH hkv ok q => hw F R H σ _ p o kvs hσ hF hH hkv fun J' hJ D hD =>
      lc_core' hX (Le.refl F) hJ ok J h0 hst (fun out τ' R' H' D hj l ok' w => q _ τ' (.ref D) R' H' (hd out τ' hj D) l ok'.unwipe w) D hD
/-- what a dict comprehension's turn shows -/
def DcTurn {β : Type} (G : Gm) (X : Cx) (N : List Str) (sc scope : Scope) (n : Nat) (vs : List Nat) (tg kx vx : Expr) (ifs : List Expr) (B : DR β) (J : Nat → List (Int × β) → Tau → Prop) (i : Nat) (y : Kd) : Prop :=
  ∀ (out : List (Int × β)) (τ' : Tau), J i out τ' → ∀ X', XF G X' N (relS scope sc) n → (∀ x, (scope.names.lookup x == some .cell) = true → X'.fn x = true) → TB X' vs tg y τ' fun τ2 => ∀ X', XF G X' N (relS scope sc) n → Cs X' ifs τ2 fun b τ3 =>
    (b = true → ∀ X', XF G X' N (relS scope sc) n → E X' kx τ3 fun x τ4 => ∃ i', Fz x (.im rI i') ∧ ∀ X', XF G X' N (relS scope sc) n → E X' vx τ4 fun x2 τ5 => ∃ c, Fz x2 (.im B c) ∧ out.length < 100000 ∧ J (i + 1) (dput out i' c) (wipeT τ5 vs)) ∧ (b = false → J (i + 1) out (wipeT τ3 vs))
theorem dc_core' {β : Type} {B : DR β} {scope : Scope} {J : L2.It} {F F' R0 R1 H1 : Hp} {σ : L2.St} {ys : List Kd} {Q : VK} (hX : XF G X N sc n) (hF : Le F F') (hJ : ItOk J F R1 ys) (ok1 : Ok F' R0 R1 H1 σ τ1) (Jv : Nat → List (Int × β) → Tau → Prop) (h0 : Jv 0 [] (wipeT τ1 vs))
    (hs : ∀ (i : Nat) y, ys[i]? = some y → DcTurn G X N sc scope n vs tg kx vx ifs B Jv i y)
    (hq : ∀ out τ' R' H' D, Jv ys.length out τ' → Le R1 R' → Ok F' R0 R' H' (wipe σ vs) τ' → VOk F' R' H' τ' (.ref D) (.ow D (cD B) out) → Q (.ref D) H') (D : Addr) (hD : H1 D = none) :
    ∃ Wd : Nat → Nat → Hp → Prop, (∃ m, Wd 0 m (upd H1 D (.dK []))) ∧ ∀ i m H, Wd i m H →
      (J.stop i H ∧ Q (.ref D) H) ∨ (J.go i H ∧ ∃ Nx : Hp → Prop, (∀ H', Nx H' → ∃ m', m' < m ∧ Wd (i + 1) m' H') ∧ ∀ x H', J.yld i H x H' → gB X scope tg x (wipe σ vs) H' fun σ2 H2 => wipe σ2 vs = wipe σ vs ∧ cB X scope ifs σ2 H2 fun b H3 =>
        if b = true then eB X scope kx σ2 H3 fun y H4 => eB X scope vx σ2 H4 fun z H5 => ∃ kvs k, y = kV k ∧ H5 D = some (.dK kvs) ∧ kvs.length < sizeLine ∧ Nx (upd H5 D (.dK (putK kvs k z))) else Nx H3) := by
  obtain ⟨hR1, hF1, hn1⟩ := ok1.fresh hD
  have ww : wipe (wipe σ vs) vs = wipe σ vs := by
    have key : ∀ (σ : L2.St) (us : List Nat), (∀ u ∈ us, u ∈ vs) → wipe (wipe σ us) vs = wipe σ vs := by
      intro σ us
      induction us with
      | nil => intro _; rfl
      | cons u us ih =>
        intro h
        show wipe ((wipe σ us).set u none) vs = _
        rw [wipe_set_in (h u List.mem_cons_self), ih fun w hw => h w (List.mem_cons_of_mem _ hw)]
    exact key σ vs fun _ h => h
  refine ⟨fun i m H => m = ys.length - i ∧ i ≤ ys.length ∧ ∃ out τ' R' acc, Jv i out τ' ∧ Le R1 R' ∧ Ok F' R0 R' H (wipe σ vs) τ' ∧ R' D = none ∧ H D = some (.dK acc) ∧ KVs B R' acc out ∧ ∀ (i : Nat) k, τ'[i]? = some k → ¬ owns k D,
    ⟨ys.length, by simp, Nat.zero_le _, [], wipeT τ1 vs, R1, [], h0, Le.refl R1, (ok1.new hD).wiped vs, hR1, upd_same, .nil, fun i k e o => ?_⟩, ?_⟩
  · have key : ∀ us : List Nat, ∀ (i : Nat) k, (wipeT τ1 us)[i]? = some k → ¬ owns k D := by
      intro us
      induction us with
      | nil => exact hn1
      | cons u us ih =>
        intro i k e o
        have e' : ((wipeT τ1 us).set u .no)[i]? = some k := e
        by_cases hu : u = i
        · subst hu
          by_cases hv : u < (wipeT τ1 us).length
          · rw [List.getElem?_set_self hv] at e'; cases e'; exact o
          · rw [List.getElem?_eq_none (by simpa using hv)] at e'; cases e'
        · rw [List.getElem?_set_ne hu] at e'
          exact ih i k e' o
    exact key vs i k e o
  · rintro i m H ⟨rfl, hi, out, τ', R', acc, hj, l1, ok, hRD, hHD, hp, hno⟩
    by_cases hlt : i < ys.length
    · refine .inr ⟨hJ.go F' R' H i hF ok.fr l1 ok.le hlt, fun H' => i + 1 ≤ ys.length ∧ ∃ out τ' R' acc, Jv (i + 1) out τ' ∧ Le R1 R' ∧ Ok F' R0 R' H' (wipe σ vs) τ' ∧ R' D = none ∧ H' D = some (.dK acc) ∧ KVs B R' acc out ∧ ∀ (i : Nat) k, τ'[i]? = some k → ¬ owns k D,
        fun H' ⟨h1, h2⟩ => ⟨ys.length - (i + 1), by omega, rfl, h1, h2⟩, fun x H2 hy => ?_⟩
      have okh := ok.hold (u := .dK acc) hRD hHD hno
      obtain ⟨R2, l2, ok2, im, rel⟩ := hJ.yld (upd F' D (.dK acc)) R' R' H (wipe σ vs) τ' i _ x H2 (fun a o e => Le.upd hF1 a o (hF a o e)) okh l1 (List.getElem?_eq_getElem hlt) hy
      have wv : VOk (upd F' D (.dK acc)) R2 H2 τ' x ys[i] := ⟨rel, fun p o => by
        cases hk : ys[i] with
        | no => rw [hk] at im; exact im.elim
        | im => rw [hk] at o; exact o.elim
        | ow => rw [hk] at im; exact im.elim⟩
      have turn := hs i _ (List.getElem?_eq_getElem hlt) out τ' hj
      intro s0 H0 Cc cl fp
      refine turn _ (hX.blk s0 H0 scope Cc cl fp) (fun x hx => hx) (wipe σ vs) H2 (upd F' D (.dK acc)) R' R2 x _ ok2 wv fun τ3 σ3 R3 H3 h3 e3 l3 ok3 => ⟨e3.trans ww, ?_⟩
      intro s1 H01 Cc1 cl1 fp1
      have l13 := (l1.trans l2).trans l3
      have next : ∀ {τ4 : Tau} {σ4 : L2.St} {R4 H4 : Hp} {out' : List (Int × β)}, wipe σ4 vs = wipe σ vs → Le R' R4 → Ok (upd F' D (.dK acc)) R' R4 H4 σ4 τ4 → Jv (i + 1) out' (wipeT τ4 vs) →
          Ok F' R0 R4 H4 (wipe σ vs) (wipeT τ4 vs) ∧ H4 D = some (.dK acc) ∧ R4 D = none ∧ ∀ (i : Nat) k, (wipeT τ4 vs)[i]? = some k → ¬ owns k D := fun {τ4 σ4 R4 H4 out'} ew l4 ok4 _ => by
        have okw := ok4.wiped vs
        rw [ew] at okw
        obtain ⟨a1, a2, a3, a4⟩ := ok.drop hF1 l4 okw
        exact ⟨a1, a2, a3 hRD, a4⟩
      refine h3 _ (hX.blk s1 H01 scope Cc1 cl1 fp1) σ3 H3 (upd F' D (.dK acc)) R' R3 _ ok3 fun b τ4 R4 H4 ⟨ht, hf⟩ l4 ok4 => ?_
      cases b with
      | false =>
        refine iteF ?_
        have hj4 := hf rfl
        obtain ⟨a1, a2, a3, a4⟩ := next (e3.trans ww) ((l2.trans l3).trans l4) ok4 hj4
        exact ⟨hlt, out, _, R4, acc, hj4, l13.trans l4, a1, a3, a2, L2.Paired.mapP hp fun _ _ z => ⟨z.1, B.up ((l2.trans l3).trans l4) z.2⟩, a4⟩
      | true =>
        refine iteT ?_
        intro s2 H02 Cc2 cl2 fp2
        refine ht rfl _ (hX.blk s2 H02 scope Cc2 cl2 fp2) σ3 H4 (upd F' D (.dK acc)) R' R4 _ ok4 fun x5 τ5 v5 R5 H5 ⟨i', fz, hv⟩ l5 ok5 w5 => ?_
        obtain ⟨R6, l6, ok6, rel6⟩ := fz_rel ok5 w5 fz
        intro s3 H03 Cc3 cl3 fp3
        refine hv _ (hX.blk s3 H03 scope Cc3 cl3 fp3) σ3 H5 (upd F' D (.dK acc)) R' R6 _ ok6 fun x7 τ7 v7 R7 H7 ⟨c, fz', hz, hj5⟩ l7 ok7 w7 => ?_
        obtain ⟨R8, l8, ok8, rel8⟩ := fz_rel ok7 w7 fz'
        have l28 := (((l2.trans l3).trans l4).trans (l5.trans l6)).trans (l7.trans l8)
        obtain ⟨a1, a2, a3, a4⟩ := next (e3.trans ww) l28 ok8 hj5
        have ek : v5 = kV (.inl i' : Key) := by
          have z : v5 = V.int i' := rel6
          rw [z]; rfl
        have hp8 : KVs B R8 acc out := L2.Paired.mapP hp fun _ _ z => ⟨z.1, B.up l28 z.2⟩
        refine ⟨acc, .inl i', ek, a2, by rw [sizeLine_eq, PySem.Paired.length hp]; omega, hlt, dput out i' c, _, R8, putK acc (.inl i') v7, hj5, l1.trans l28, ?_, a3, upd_same, kvs_put hp8 i' rel8, a4⟩
        refine ⟨a1.len, fun a o e => ?_, fun a o e => ?_, a1.r0, a1.nw, fun j kd e => ?_, a1.ff, a1.inj, a1.nt⟩
        · have hn : a ≠ D := fun z => by rw [z, hF1] at e; cases e
          rw [upd_ne hn]; exact a1.fr a o e
        · have hn : a ≠ D := fun z => by rw [z, a3] at e; cases e
          rw [upd_ne hn]; exact a1.le a o e
        · rcases a1.sl j kd e with z | ⟨v, hv, r⟩
          · exact .inl z
          · refine .inr ⟨v, hv, ?_⟩
            cases kd with
            | no => trivial
            | im A a => exact r
            | ow q C c =>
              obtain ⟨e1, e2, o, e4, e5⟩ := r
              exact ⟨e1, e2, o, by rw [upd_ne (fun z => a4 j _ e z)]; exact e4, e5⟩
    · have e : i = ys.length := by omega
      subst e
      refine .inl ⟨hJ.stop F' R' H hF ok.fr l1 ok.le, hq out τ' R' H D hj l1 ok ⟨⟨rfl, hRD, _, hHD, acc, rfl, hp⟩, fun p o => ?_⟩⟩
      cases o
      exact ⟨hF1, hno⟩
/-- {kx: vx for tg in iter if ..} -/
theorem E_dc {β : Type} (B : DR β) (hX : XF G X N sc n) (ok : blkC N sc scope own = true)
    (h : It X tg iter τ fun ys τ1 => ∃ J : Nat → List (Int × β) → Tau → Prop, J 0 [] (wipeT τ1 (own.map (·.2))) ∧ (∀ (i : Nat) y, ys[i]? = some y → DcTurn G X N sc scope n (own.map (·.2)) tg kx vx ifs B J i y) ∧
      ∀ out τ', J ys.length out τ' → ∀ p, k (.ow p (cD B) out) τ') (hs : ∀ x, foldedSetIterable iter X.env x = pure x := by intro _; rfl) : E X (.DictComp kx vx [⟨tg, iter, ifs, 0⟩] scope pos) τ k :=
  E.of (pe_dc (own := own) (g := gB X scope tg) (tt := cB X scope ifs) (tk := eB X scope kx) (tv := eB X scope vx) hX.calm (by rw [hX.eN]; exact hX.nd) pi_sem (by rw [hX.eN, hX.es]; exact blkOk_by ok)
    (fun s H C cl fp => ⟨fun pins s' σ H' v u Q I r hq => hq s H C cl fp pins s' u I r⟩) (fun s H C cl fp => ⟨fun pins s' σ H' Q I hq => hq s H C cl fp pins s' I⟩) (fun s H C cl fp => ⟨fun pins s' σ H' Q I hq => hq s H C cl fp pins s' I⟩) (fun s H C cl fp => ⟨fun pins s' σ H' Q I hq => hq s H C cl fp pins s' I⟩) hs) fun σ H F R0 R Q ok q =>
    h σ H F R0 R _ ok fun J ys τ1 R1 H1 ⟨Jv, h0, hs', hd⟩ l1 ok1 hJ D hD =>
      dc_core' hX (Le.refl F) hJ ok1 Jv h0 hs' (fun out τ' R' H' D hj l ok' w => q _ τ' (.ref D) R' H' (hd out τ' hj D) (l1.trans l) ok'.unwipe w) D hD
theorem E_dcD {β β0 : Type} (B : DR β) {j : Nat} {B0 : DR β0} {d : List (Int × β0)} {ys : List Kd} (hX : XF G X N sc n) (ok : blkC N sc scope own = true) (ht : τ[j]? = some (.im (rD B0) d)) (hw : DWalk X tg iter j B0 d ys)
    (J : Nat → List (Int × β) → Tau → Prop) (h0 : J 0 [] (wipeT τ (own.map (·.2)))) (hst : ∀ (i : Nat) y, ys[i]? = some y → DcTurn G X N sc scope n (own.map (·.2)) tg kx vx ifs B J i y)
    (hd : ∀ out τ', J ys.length out τ' → ∀ p, k (.ow p (cD B) out) τ') (hs : ∀ x, foldedSetIterable iter X.env x = pure x := by intro _; rfl) : E X (.DictComp kx vx [⟨tg, iter, ifs, 0⟩] scope pos) τ k :=
  E_lockD (pe_dc (own := own) (g := gB X scope tg) (tt := cB X scope ifs) (tk := eB X scope kx) (tv := eB X scope vx) hX.calm (by rw [hX.eN]; exact hX.nd) pi_sem (by rw [hX.eN, hX.es]; exact blkOk_by ok)
    (fun s H C cl fp => ⟨fun pins s' σ H' v u Q I r hq => hq s H C cl fp pins s' u I r⟩) (fun s H C cl fp => ⟨fun pins s' σ H' Q I hq => hq s H C cl fp pins s' I⟩) (fun s H C cl fp => ⟨fun pins s' σ H' Q I hq => hq s H C cl fp pins s' I⟩) (fun s H C cl fp => ⟨fun pins s' σ H' Q I hq => hq s H C cl fp pins s' I⟩) hs) ht
    fun σ F R H Q p o kvs hσ hF hH hkv ok q => hw F R H σ _ p o kvs hσ hF hH hkv fun J' hJ D hD =>
      dc_core' hX (Le.refl F) hJ ok J h0 hst (fun out τ' R' H' D hj l ok' w => q _ τ' (.ref D) R' H' (hd out τ' hj D) l ok'.unwipe w) D hD
end
end T
end
section
set_option Elab.async false
set_option linter.all false
set_option autoImplicit false
set_option maxRecDepth 100000
set_option maxHeartbeats 2000000
namespace T
open PySem PySem.Spec PyProof.Rows L2 RZ
section
variable {G : Gm} {X : Cx} {N : List Str} {sc : Scope} {n : Nat} {τ τ1 : Tau} {k : KK} {P : Po} {y : Kd} {e a b c tg iter elt kx vx : Expr} {es elts ifs : List Expr} {pos p tpos spos py : Pos} {vs : List Nat} {kt : Tau → Prop} {scope : Scope} {own : List (Str × Nat)}
/-- a value, frozen or told otherwise -/
theorem E_fz (h : E X e τ fun x τ1 => ∃ y, Fz x y ∧ k y τ1) : E X e τ k := fun σ H F R0 R Q ok q =>
  h σ H F R0 R Q ok fun x τ1 v R1 H1 ⟨y, fz, hk⟩ l1 ok1 w1 => by
    obtain ⟨R2, l2, ok2, r2, w2⟩ := VOk.freeze ok1 w1 fz
    exact q y τ1 v R2 H1 hk (l1.trans l2) ok2 w2
/-- list(d), d a dict that a name owns: its keys -/
theorem E_listD {j : Nat} {x : Str} {β : Type} {B : DR β} {q : Addr} {d : List (Int × β)} {cp : Pos} (hX : XF G X N sc n) (hg : sc.names.lookup ("list" : Str) = some .globalImplicit) (hm : G.mg ("list" : Str) = none) (hN : N[j]? = some x) (hv : Vis sc x) (ht : τ[j]? = some (.ow q (cD B) d))
    (h : ∀ p, k (.ow p (cL rI) (d.map (·.1))) τ) (hd : (x == ("__debug__" : Str)) = false := by decide) (hcd : (x == ("__classdict__" : Str)) = false := by decide) : E X (.Call (.Name "list" p) [.Name x cp] [] pos) τ k :=
  E.of (pe_callTy (call_list_dK hX.calm) (hX.gl hg) (hX.mgN hm) boot_listB (pa_cons (pn hX hN hv hd hcd) pa_nil) (he := by rfl)) fun σ H F R0 R Q ok qq => by
    obtain ⟨hs, hR, hF, o, hH, kvs, eo, hp⟩ := ok.cell ht
    subst eo
    refine ⟨.ref q, hs, q, kvs, rfl, hH, fun p hp' => ?_⟩
    obtain ⟨hR', hF', ho⟩ := ok.fresh hp'
    have hk : ∀ {kvs : List (Key × V)} {d : List (Int × β)}, KVs B R kvs d → Paired (rI.rel R) (kvs.map fun kv => kV kv.1) (d.map (·.1)) := by
      intro kvs d h
      unfold KVs at h
      induction h with
      | nil => exact .nil
      | @cons p c kvs d r t ih =>
        refine .cons ?_ ih
        show kV p.1 = V.int c.1
        rw [r.1]; rfl
    exact qq _ τ _ R _ (h p) (Le.refl R) (ok.new hp') ⟨⟨rfl, hR', _, upd_same, _, rfl, hk hp⟩, fun p' z => by cases z; exact ⟨hF', ho⟩⟩
end
/-! ### given numbers: ints, or pairs in any form -/
abbrev Giv := Sum Int (Int × Int)
def rGiv (K : PySem.W.Frag) : DR Giv := ⟨fun R v g => match g with
  | .inl i => v = .int i
  | .inr p => (rPair K rI rI).rel R v p, fun {_ _ _ g} l h => match g, h with
  | .inl _, h => h
  | .inr _, h => (rPair K rI rI).up l h⟩
def gv : Giv → Rat
  | .inl i => (i : Rat)
  | .inr p => (p.1 : Rat) / (p.2 : Rat)
def okG : Giv → Prop
  | .inl _ => True
  | .inr p => p.2 ≠ 0 ∧ p.2.natAbs < 2 ^ 9000
theorem giv_Q {K : PySem.W.Frag} {R : Hp} {v : V} {q : Rat} (h : (rQ K).rel R v q) : (rGiv K).rel R v (.inr (q.num, (q.den : Int))) := by
  obtain ⟨a, e, h⟩ := h
  exact ⟨a, _, _, e, h, rfl, rfl⟩
theorem un_giv {K : PySem.W.Frag} {p : Int × Int} : UnT K (.im (rGiv K) (.inr p)) [.im rI p.1, .im rI p.2] := fun R H v l h => un_pair (K := K) (A := rI) (B := rI) (q := p) R H v l h
theorem gv_Q (q : Rat) : gv (.inr (q.num, (q.den : Int))) = q := by
  show (q.num : Rat) / ((q.den : Int) : Rat) = q
  rw [← Rat.divInt_eq_div, Rat.num_divInt_den]
end T
end
section
set_option Elab.async false
set_option linter.all false
set_option autoImplicit false
set_option maxRecDepth 100000
set_option maxHeartbeats 4000000
namespace T
open PySem PySem.Spec PyProof.Rows L2 RZ
theorem swD_true {kx vx : Expr} {gs : List Comprehension} {scope : Scope} {pos py : Pos} {y : Str} {l : Nat} {env : PySem.Env} (hk : env.scope.kind = .function) (hy : env.scope.names.lookup y = some .local) (hl : (py.line == pos.line) = true)
    (ha : (scope.names.any fun (n, k) => n == y && (k == .local || k == .cell)) = false) : swapsWith (.DictComp kx vx gs scope pos) (some (.Name y py)) l env = pure true := by
  have ky : env.kindOf y = some .local := hy
  have hb : env.blockKind = .function := by unfold Env.blockKind; rw [hk]; rfl
  unfold swapsWith
  simp only [hb, ky, ha, Expr.pos, hl]
  rfl
theorem ps_setDc {X : Cx} {i : Nat} {y : Str} {py : Pos} {kx vx tg iter : Expr} {ifs : List Expr} {scope : Scope} {own : List (Str × Nat)} {pos spos : Pos} {wi : TI} {g : TG} {tt : TT} {tk tv : TE} (hc : X.calm = true) (hN : X.N.Nodup) (hy : X.N[i]? = some y) (hyl : X.env.scope.names.lookup y = some .local)
    (hsw : swapsWith (.DictComp kx vx [⟨tg, iter, ifs, 0⟩] scope pos) (some (.Name y py)) spos.line X.env = pure true) (hi : PI X tg iter wi) (ok : BlkOk X.N X.env.scope scope own)
    (hg : ∀ (s : Shared) (H : Hp) (C : Addr) (cl : List (Str × Addr)) (fp : List Addr), PG (X.blk s H scope (compEnvC scope cl C X.env) fp) tg g) (ht : ∀ (s : Shared) (H : Hp) (C : Addr) (cl : List (Str × Addr)) (fp : List Addr), PTs (X.blk s H scope (compEnvC scope cl C X.env) fp) ifs tt)
    (hk : ∀ (s : Shared) (H : Hp) (C : Addr) (cl : List (Str × Addr)) (fp : List Addr), PE (X.blk s H scope (compEnvC scope cl C X.env) fp) kx tk)
    (he : ∀ (s : Shared) (H : Hp) (C : Addr) (cl : List (Str × Addr)) (fp : List Addr), PE (X.blk s H scope (compEnvC scope cl C X.env) fp) vx tv) (hs : ∀ x, foldedSetIterable iter X.env x = pure x := by intro _; rfl) :
    PS X (.Assign [.Name y py] (.DictComp kx vx [⟨tg, iter, ifs, 0⟩] scope pos) spos) (tAsg (tDc wi g tt tk tv (own.map (·.2))) (gName i)) := by
  refine ⟨fun pins s σ H D I h => ?_⟩
  rw [exec_Assign_Name_used _ _ _ _ hsw]
  refine wpAny_bind (wpAny_standAt (wpAny_bind ?_))
  show wpAny _ X.A (do let _ ← comprehension (.DictComp kx vx [⟨tg, iter, ifs, 0⟩] scope pos) scope X.env (firstIterPos [⟨tg, iter, ifs, 0⟩] pos) newDict false (eval iter X.env) (some (assign (.Name y py) X.env))) _ _ s
  have h : tDc wi g tt tk tv (own.map (·.2)) σ H (fun x H1 => gName i x σ H1 D.nx) := h
  refine wpAny_bind (thn (dc_core (Qf := fun _ s' => SP X pins D .next s') hc hN I hi ok hg ht hk he hs h fun L C s' m H' I' q hn f => ?_) fun _ s' hq => wpAny_pure (wpAny_pure hq))
  show wpAny _ _ (assign (.Name y py) X.env (.ref L)) _ _ _
  refine wpAny_assign_Name (store_ok2 (v := V.ref L) I' hN hy (.inl hyl) rfl (fun s2 I2 ⟨a, sb, ha⟩ => ?_) (.inr hyl))
  obtain ⟨f0, f1, f2, f3, f4, f5⟩ := f
  have haC : C ≠ a := by
    rcases ha with z | z
    · rw [z]; exact f1
    · exact fun e => f4 y a z e.symm
  refine ⟨m, hn.sameBut sb haC, fun h3 sb3 => ?_⟩
  exact ⟨_, H', I2.turned (t' := s2.toks) (fun b o hb e => (sb3.2 b hb).trans e) f0 f1 f3 f4 f5, q⟩
section
variable {G : Gm} {X : Cx} {N : List Str} {sc : Scope} {n : Nat} {τ τ1 : Tau} {k : KK} {P : Po} {y : Kd} {e a b c tg iter elt kx vx : Expr} {es elts ifs : List Expr} {pos p tpos spos py : Pos} {vs : List Nat} {kt : Tau → Prop} {scope : Scope} {own : List (Str × Nat)}
/-- a statement's run while the dict that a name holds is locked; it ends by going on -/
theorem S1_lockD {t : TS} {st : Stmt} {j : Nat} {β : Type} {B : DR β} {d : List (Int × β)} (hpe : PS X st t) (ht : τ[j]? = some (.im (rD B) d))
    (h : ∀ (σ : L2.St) (F R H : Hp) (D : L2.Ends) (p : Addr) (o : Obj) (kvs : List (Key × V)), σ[j]? = some (some (.ref p)) → F p = some (.frz o (.dK kvs)) → H p = some (.frz o (.dK kvs)) → KVs B R kvs d → Ok F R R H σ τ →
      (∀ τ' σ' R' H', P.nx τ' → Le R R' → Ok F R R' H' σ' τ' → D.nx σ' H') → t D σ H) : S1 X st τ P := fun σ H F R0 R D ok q => by
  obtain ⟨pa, kvs, hσ, hR, hkv, hH | ⟨o, hH⟩⟩ := ok.dict ht
  · intro pins s I0
    refine (ps_lock hpe).run pins s σ H D I0 ⟨pa, .dK kvs, hH, True.intro, fun od => ?_⟩
    have okl := ok.lock (od := od) hR True.intro hH (ok.notOwned hR)
    refine h σ (upd F pa (.frz od (.dK kvs))) R (upd H pa (.frz od (.dK kvs))) _ pa od kvs hσ upd_same upd_same hkv okl fun τ2 σ2 R2 H2 h2 l2 ok2 => ?_
    obtain ⟨ok3, e3⟩ := ok.unlock hR hH l2 ok2
    exact ⟨e3, q.nx τ2 σ2 R2 _ h2 l2 ok3⟩
  · intro pins s I0
    refine hpe.run pins s σ H D I0 ?_
    have okl : Ok (upd F pa (.frz o (.dK kvs))) R R H σ τ := ⟨ok.len, fun a u e => by
        by_cases h : a = pa
        · subst h; rw [upd_same] at e; cases e; exact hH
        · rw [upd_ne h] at e; exact ok.fr a u e, ok.le, Le.refl R, fun a h _ => h, ok.sl, fun i k p e oo => by
        have h : p ≠ pa := fun z => ok.notOwned hR i k e (by rw [← z]; exact oo)
        rw [upd_ne h]; exact ok.ff i k p e oo, ok.inj, ok.nt⟩
    refine h σ (upd F pa (.frz o (.dK kvs))) R H D pa o kvs hσ upd_same hH hkv okl fun τ2 σ2 R2 H2 h2 l ok2 => q.nx τ2 σ2 R2 _ h2 l ?_
    have hF : ∀ a u, F a = some u → upd F pa (.frz o (.dK kvs)) a ≠ none := fun a u e => by
      by_cases h : a = pa
      · subst h; rw [upd_same]; simp
      · rw [upd_ne h, e]; simp
    refine ⟨ok2.len, fun a u e => ?_, ok2.le, ok.r0.trans l, fun a h1 h2 => ?_, ok2.sl, fun i k p e oo => ?_, ok2.inj, ok2.nt⟩
    · by_cases h : a = pa
      · subst h
        have h1 := ok.fr a u e
        rw [hH] at h1; cases h1
        exact ok2.fr a _ upd_same
      · exact ok2.fr a u (by rw [upd_ne h]; exact e)
    · cases hf : F a with
      | none => exact absurd hf h2
      | some u => exact ok2.nw a (ok.nw a h1 h2) (hF a u hf)
    · have h1 := ok2.ff i k p e oo
      have h : p ≠ pa := fun z => by rw [z, upd_same] at h1; cases h1
      rw [upd_ne h] at h1; exact h1
/-- name = {..} on one line, over what is walked; over a dict that a name holds -/
theorem S1_setDc {β : Type} (B : DR β) {i : Nat} {x : Str} (hX : XF G X N sc n) (hN : N[i]? = some x) (hl : sc.names.lookup x = some .local) (hk : sc.kind = .function) (ok : blkC N sc scope own = true) (hline : (py.line == pos.line) = true)
    (ha : (scope.names.any fun (m, k) => m == x && (k == .local || k == .cell)) = false)
    (h : It X tg iter τ fun ys τ1 => ∃ J : Nat → List (Int × β) → Tau → Prop, J 0 [] (wipeT τ1 (own.map (·.2))) ∧ (∀ (i : Nat) y, ys[i]? = some y → DcTurn G X N sc scope n (own.map (·.2)) tg kx vx ifs B J i y) ∧
      ∀ out τ', J ys.length out τ' → ∀ p, P.nx (τ'.set i (.ow p (cD B) out))) (hs : ∀ x, foldedSetIterable iter X.env x = pure x := by intro _; rfl) : S1 X (.Assign [.Name x py] (.DictComp kx vx [⟨tg, iter, ifs, 0⟩] scope pos) spos) τ P :=
  S1.of (ps_setDc (i := i) (own := own) (g := gB X scope tg) (tt := cB X scope ifs) (tk := eB X scope kx) (tv := eB X scope vx) hX.calm (by rw [hX.eN]; exact hX.nd) (by rw [hX.eN]; exact hN) (by rw [hX.es]; exact hl)
    (swD_true (by rw [hX.es]; exact hk) (by rw [hX.es]; exact hl) hline ha) pi_sem (by rw [hX.eN, hX.es]; exact blkOk_by ok)
    (fun s H C cl fp => ⟨fun pins s' σ H' v u Q I r hq => hq s H C cl fp pins s' u I r⟩) (fun s H C cl fp => ⟨fun pins s' σ H' Q I hq => hq s H C cl fp pins s' I⟩) (fun s H C cl fp => ⟨fun pins s' σ H' Q I hq => hq s H C cl fp pins s' I⟩) (fun s H C cl fp => ⟨fun pins s' σ H' Q I hq => hq s H C cl fp pins s' I⟩) hs) fun σ H F R0 R D ok q =>
    h σ H F R0 R _ ok fun J ys τ1 R1 H1 ⟨Jv, h0, hs', hd⟩ l1 ok1 hJ Dl hD =>
      dc_core' (Q := fun v H' => gName i v σ H' D.nx) hX (Le.refl F) hJ ok1 Jv h0 hs' (fun out τ' R' H' Dl hj l ok' w => q.nx _ _ R' H' (hd out τ' hj Dl) (l1.trans l) (Ok.set' ok'.unwipe i w)) Dl hD
theorem S1_setDcD {β β0 : Type} (B : DR β) {i j : Nat} {x : Str} {B0 : DR β0} {d : List (Int × β0)} {ys : List Kd} (hX : XF G X N sc n) (hN : N[i]? = some x) (hl : sc.names.lookup x = some .local) (hk : sc.kind = .function) (ok : blkC N sc scope own = true) (hline : (py.line == pos.line) = true)
    (ha : (scope.names.any fun (m, k) => m == x && (k == .local || k == .cell)) = false) (ht : τ[j]? = some (.im (rD B0) d)) (hw : DWalk X tg iter j B0 d ys)
    (J : Nat → List (Int × β) → Tau → Prop) (h0 : J 0 [] (wipeT τ (own.map (·.2)))) (hst : ∀ (i : Nat) y, ys[i]? = some y → DcTurn G X N sc scope n (own.map (·.2)) tg kx vx ifs B J i y)
    (hd : ∀ out τ', J ys.length out τ' → ∀ p, P.nx (τ'.set i (.ow p (cD B) out))) (hs : ∀ x, foldedSetIterable iter X.env x = pure x := by intro _; rfl) : S1 X (.Assign [.Name x py] (.DictComp kx vx [⟨tg, iter, ifs, 0⟩] scope pos) spos) τ P :=
  S1_lockD (ps_setDc (i := i) (own := own) (g := gB X scope tg) (tt := cB X scope ifs) (tk := eB X scope kx) (tv := eB X scope vx) hX.calm (by rw [hX.eN]; exact hX.nd) (by rw [hX.eN]; exact hN) (by rw [hX.es]; exact hl)
    (swD_true (by rw [hX.es]; exact hk) (by rw [hX.es]; exact hl) hline ha) pi_sem (by rw [hX.eN, hX.es]; exact blkOk_by ok)
    (fun s H C cl fp => ⟨fun pins s' σ H' v u Q I r hq => hq s H C cl fp pins s' u I r⟩) (fun s H C cl fp => ⟨fun pins s' σ H' Q I hq => hq s H C cl fp pins s' I⟩) (fun s H C cl fp => ⟨fun pins s' σ H' Q I hq => hq s H C cl fp pins s' I⟩) (fun s H C cl fp => ⟨fun pins s' σ H' Q I hq => hq s H C cl fp pins s' I⟩) hs) ht
    fun σ F R H D p o kvs hσ hF hH hkv ok q => hw F R H σ _ p o kvs hσ hF hH hkv fun J' hJ Dl hD =>
      dc_core' (Q := fun v H' => gName i v σ H' D.nx) hX (Le.refl F) hJ ok J h0 hst (fun out τ' R' H' Dl hj l ok' w => q _ _ R' H' (hd out τ' hj Dl) l (Ok.set' ok'.unwipe i w)) Dl hD
theorem S1_setLcD {β β0 : Type} (B : DR β) {i j : Nat} {x : Str} {B0 : DR β0} {d : List (Int × β0)} {ys : List Kd} (hX : XF G X N sc n) (hN : N[i]? = some x) (hl : sc.names.lookup x = some .local) (hk : sc.kind = .function) (ok : blkC N sc scope own = true) (hline : (py.line == pos.line) = true)
    (ha : (scope.names.any fun (m, k) => m == x && (k == .local || k == .cell)) = false) (ht : τ[j]? = some (.im (rD B0) d)) (hw : DWalk X tg iter j B0 d ys)
    (J : Nat → List β → Tau → Prop) (h0 : J 0 [] (wipeT τ (own.map (·.2)))) (hst : ∀ (i : Nat) y, ys[i]? = some y → LcTurn G X N sc scope n (own.map (·.2)) tg elt ifs B J i y)
    (hd : ∀ out τ', J ys.length out τ' → ∀ p, P.nx (τ'.set i (.ow p (cL B) out))) (hs : ∀ x, foldedSetIterable iter X.env x = pure x := by intro _; rfl) : S1 X (.Assign [.Name x py] (.ListComp elt [⟨tg, iter, ifs, 0⟩] scope pos) spos) τ P :=
  S1_lockD (ps_setLc (i := i) (own := own) (g := gB X scope tg) (tt := cB X scope ifs) (te := eB X scope elt) hX.calm (by rw [hX.eN]; exact hX.nd) (by rw [hX.eN]; exact hN) (by rw [hX.es]; exact hl)
    (sw_true (by rw [hX.es]; exact hk) (by rw [hX.es]; exact hl) hline ha) pi_sem (by rw [hX.eN, hX.es]; exact blkOk_by ok)
    (fun s H C cl fp => ⟨fun pins s' σ H' v u Q I r hq => hq s H C cl fp pins s' u I r⟩) (fun s H C cl fp => ⟨fun pins s' σ H' Q I hq => hq s H C cl fp pins s' I⟩) (fun s H C cl fp => ⟨fun pins s' σ H' Q I hq => hq s H C cl fp pins s' I⟩) hs) ht
    fun σ F R H D p o kvs hσ hF hH hkv ok q => hw F R H σ _ p o kvs hσ hF hH hkv fun J' hJ Dl hD =>
      lc_core' (Q := fun v H' => gName i v σ H' D.nx) hX (Le.refl F) hJ ok J h0 hst (fun out τ' R' H' Dl hj l ok' w => q _ _ R' H' (hd out τ' hj Dl) l (Ok.set' ok'.unwipe i w)) Dl hD
end
theorem rngK_get {lo : Int} {m i : Nat} {y : Kd} (h : (rngK lo m)[i]? = some y) : i < m ∧ y = .im rI (lo + (i : Int)) := by
  unfold rngK at h
  rw [List.getElem?_map] at h
  by_cases hi : i < m
  · rw [List.getElem?_range hi] at h
    exact ⟨hi, (Option.some.inj h).symm⟩
  · rw [List.getElem?_eq_none (by simpa using hi)] at h; cases h
theorem rngK0_get {m i : Nat} {y : Kd} (h : (rngK 0 m)[i]? = some y) : i < m ∧ y = .im rI (i : Int) := by
  obtain ⟨a, b⟩ := rngK_get h
  exact ⟨a, by rw [b, Int.zero_add]⟩
theorem rngK_len {lo : Int} {m : Nat} : (rngK lo m).length = m := by simp [rngK]
theorem mapK_get {α : Type} {A : DR α} {l : List α} {i : Nat} {y : Kd} (h : (l.map (Kd.im A))[i]? = some y) : ∃ a, l[i]? = some a ∧ y = .im A a := by
  rw [List.getElem?_map] at h
  cases e : l[i]? with
  | none => rw [e] at h; cases h
  | some a => rw [e] at h; exact ⟨a, rfl, (Option.some.inj h).symm⟩
/-- ways that meet again in a value -/
theorem E_via {X : Cx} {e : Expr} {τ : Tau} {k : KK} (k' : KK) (h1 : E X e τ k') (h2 : ∀ x τ', k' x τ' → k x τ') : E X e τ k := W.mono h1 h2
end T
end
section
set_option Elab.async false
set_option linter.all false
set_option autoImplicit false
set_option maxRecDepth 100000
/-! Plain data of the elimination by dicts. -/
namespace T
abbrev DRow := List (Int × Int)
/-- the number at a place -/
def dv (d : DRow) (j : Int) : Int := (dget d j).getD 0
def gcdD (d : DRow) : Nat := d.foldl (fun g p => Nat.gcd g p.2.natAbs) 0
def primD (d : DRow) : DRow := if gcdD d = 1 then d else d.map fun p => (p.1, p.2.fdiv (gcdD d : Int))
def combStep (down : Int) (f : DRow) (p : Int × Int) : DRow := if dv f p.1 - down * p.2 ≠ 0 then dput f p.1 (dv f p.1 - down * p.2) else ddrop f p.1
def combF (up down : Int) (row lead : DRow) : DRow := lead.foldl (combStep down) (row.map fun p => (p.1, up * p.2))
def combD (row lead : DRow) (a : Int) : DRow :=
  let g : Int := ((Nat.gcd (dv row a).natAbs (dv lead a).natAbs : Nat) : Int)
  primD (combF ((dv lead a).fdiv g) ((dv row a).fdiv g) row lead)
abbrev Leads := List (Int × DRow)
/-- the row behind the leads whose places it names -/
def leftOf (leads : Leads) (row : DRow) (ks : List Int) : DRow := ks.foldl (fun left a => match dget leads a with
  | some l => combD left l a
  | none => left) (primD row)
def minK : List Int → Int
  | [] => 0
  | [a] => a
  | a :: r => min a (minK r)
def clearAll (left : DRow) (first : Int) (leads : Leads) (ks : List Int) : Leads := ks.foldl (fun ls a => match dget ls a with
  | some l => if (dget l first).isSome then dput ls a (combD l left first) else ls
  | none => ls) leads
def stepRow (leads : Leads) (row : DRow) : Leads :=
  let left := leftOf leads row (row.map (·.1))
  if left = [] then leads else
    let first := minK (left.map (·.1))
    dput (clearAll left first leads (leads.map (·.1))) first left
def redu (rows : List DRow) : Leads := rows.foldl stepRow []

/-! ### dicts -/
theorem dget_cons {β : Type} (c : Int × β) (d : List (Int × β)) (i : Int) : dget (c :: d) i = if c.1 = i then some c.2 else dget d i := by
  unfold dget
  rw [List.find?_cons]
  by_cases h : c.1 = i
  · simp [h]
  · simp [h]
theorem dget_nil {β : Type} (i : Int) : dget ([] : List (Int × β)) i = none := rfl
theorem dget_mem {β : Type} {d : List (Int × β)} {i : Int} {b : β} (h : dget d i = some b) : (i, b) ∈ d := by
  induction d with
  | nil => cases h
  | cons c d ih =>
    rw [dget_cons] at h
    by_cases e : c.1 = i
    · rw [if_pos e] at h
      cases h
      subst e
      exact List.mem_cons_self
    · rw [if_neg e] at h
      exact List.mem_cons_of_mem _ (ih h)
theorem dget_none {β : Type} {d : List (Int × β)} {i : Int} : dget d i = none ↔ i ∉ d.map (·.1) := by
  induction d with
  | nil => simp [dget_nil]
  | cons c d ih =>
    rw [dget_cons]
    by_cases e : c.1 = i
    · simp [e]
    · rw [if_neg e, ih]
      simp [Ne.symm e]
theorem dget_some_of_mem {β : Type} {d : List (Int × β)} (nd : (d.map (·.1)).Nodup) {i : Int} {b : β} (h : (i, b) ∈ d) : dget d i = some b := by
  induction d with
  | nil => cases h
  | cons c d ih =>
    rw [dget_cons]
    rw [List.map_cons, List.nodup_cons] at nd
    rcases List.mem_cons.mp h with e | e
    · rw [← e, if_pos rfl]
    · have hc : c.1 ≠ i := fun z => nd.1 (by rw [z]; exact List.mem_map.mpr ⟨(i, b), e, rfl⟩)
      rw [if_neg hc]
      exact ih nd.2 e
theorem any_key {β : Type} {d : List (Int × β)} {i : Int} : (d.any fun c => decide (c.1 = i)) = true ↔ i ∈ d.map (·.1) := by
  rw [List.any_eq_true]
  constructor
  · rintro ⟨c, hc, e⟩
    exact List.mem_map.mpr ⟨c, hc, by simpa using e⟩
  · intro h
    obtain ⟨c, hc, e⟩ := List.mem_map.mp h
    exact ⟨c, hc, by simpa using e⟩
theorem dput_new {β : Type} {d : List (Int × β)} {i : Int} {b : β} (h : i ∉ d.map (·.1)) : dput d i b = d ++ [(i, b)] := by
  unfold dput
  rw [if_neg fun z => h (any_key.mp z)]
theorem dget_app {β : Type} (d e : List (Int × β)) (i : Int) : dget (d ++ e) i = (dget d i).or (dget e i) := by
  induction d with
  | nil => simp [dget_nil]
  | cons c d ih =>
    rw [List.cons_append, dget_cons, dget_cons, ih]
    by_cases e : c.1 = i
    · simp [e]
    · simp [e]
theorem dget_dput {β : Type} (d : List (Int × β)) (i j : Int) (b : β) : dget (dput d i b) j = if i = j then some b else dget d j := by
  unfold dput
  by_cases h : (d.any fun c => decide (c.1 = i)) = true
  · rw [if_pos h]
    have hi := any_key.mp h
    clear h
    induction d with
    | nil => simp at hi
    | cons c d ih =>
      rw [List.map_cons, dget_cons, dget_cons]
      by_cases hc : c.1 = i
      · subst hc
        simp only [if_true]
        by_cases hj : c.1 = j
        · simp [hj]
        · simp only [hj, if_false]
          have key : ∀ d : List (Int × β), dget (d.map fun x => if x.1 = c.1 then (x.1, b) else x) j = dget d j := by
            intro d
            induction d with
            | nil => rfl
            | cons x d ih =>
              rw [List.map_cons, dget_cons, dget_cons, ih]
              by_cases hx : x.1 = c.1
              · simp [hx, hj]
              · simp [hx]
          exact key d
      · have hi' : i ∈ d.map (·.1) := by
          rcases List.mem_cons.mp hi with e | e
          · exact absurd e.symm hc
          · exact e
        simp only [hc, if_false]
        rw [ih hi']
        by_cases hj : c.1 = j
        · have : i ≠ j := fun z => hc (hj.trans z.symm)
          simp [hj, this]
        · simp [hj]
  · rw [if_neg h, dget_app, dget_cons, dget_nil]
    have hi : dget d i = none := dget_none.mpr fun z => h (any_key.mpr z)
    by_cases hj : i = j
    · subst hj
      rw [hi]; simp
    · simp [hj]
theorem dput_keys {β : Type} (d : List (Int × β)) (i : Int) (b : β) : (dput d i b).map (·.1) = if i ∈ d.map (·.1) then d.map (·.1) else d.map (·.1) ++ [i] := by
  unfold dput
  by_cases h : i ∈ d.map (·.1)
  · rw [if_pos (any_key.mpr h), if_pos h, List.map_map]
    apply List.map_congr_left
    intro c _
    show (if c.1 = i then (c.1, b) else c).1 = c.1
    split <;> rfl
  · rw [if_neg (fun z => h (any_key.mp z)), if_neg h]
    simp
theorem dput_mem {β : Type} {d : List (Int × β)} {i : Int} {b : β} {p : Int × β} (h : p ∈ dput d i b) : p = (i, b) ∨ p ∈ d := by
  unfold dput at h
  split at h
  · obtain ⟨c, hc, e⟩ := List.mem_map.mp h
    by_cases hi : c.1 = i
    · rw [if_pos hi] at e; subst hi; exact .inl e.symm
    · rw [if_neg hi] at e; rw [← e]; exact .inr hc
  · rcases List.mem_append.mp h with e | e
    · exact .inr e
    · exact .inl (by simpa using e)
theorem ddrop_mem {β : Type} {d : List (Int × β)} {i : Int} {p : Int × β} : p ∈ ddrop d i ↔ p ∈ d ∧ p.1 ≠ i := by
  unfold ddrop
  simp [List.mem_filter]
theorem dget_ddrop {β : Type} (d : List (Int × β)) (i j : Int) : dget (ddrop d i) j = if i = j then none else dget d j := by
  unfold ddrop
  induction d with
  | nil => simp [dget_nil]
  | cons c d ih =>
    rw [List.filter_cons]
    by_cases hc : c.1 = i
    · subst hc
      simp only [ne_eq, not_true, decide_false, Bool.false_eq_true, if_false]
      rw [ih, dget_cons]
      by_cases hj : c.1 = j
      · simp [hj]
      · simp [hj]
    · simp only [ne_eq, hc, not_false_eq_true, decide_true, if_true]
      rw [dget_cons, ih, dget_cons]
      by_cases hj : c.1 = j
      · have : i ≠ j := fun z => hc (hj.trans z.symm)
        simp [hj, this]
      · simp [hj]
theorem nodup_sub {β : Type} {d : List (Int × β)} (f : Int × β → Bool) (nd : (d.map (·.1)).Nodup) : ((d.filter f).map (·.1)).Nodup := by
  induction d with
  | nil => simp
  | cons c d ih =>
    rw [List.map_cons, List.nodup_cons] at nd
    rw [List.filter_cons]
    split
    · rw [List.map_cons, List.nodup_cons]
      refine ⟨fun h => nd.1 ?_, ih nd.2⟩
      obtain ⟨x, hx, e⟩ := List.mem_map.mp h
      exact List.mem_map.mpr ⟨x, (List.mem_filter.mp hx).1, e⟩
    · exact ih nd.2
theorem nodup_dput {β : Type} {d : List (Int × β)} {i : Int} {b : β} (nd : (d.map (·.1)).Nodup) : ((dput d i b).map (·.1)).Nodup := by
  rw [dput_keys]
  split
  · exact nd
  · rename_i h
    rw [List.nodup_append]
    exact ⟨nd, by simp, fun a ha b hb => by
      have : b = i := by simpa using hb
      subst this
      intro e; subst e; exact h ha⟩
/-- a row as the elimination keeps it -/
structure GoodD (d : DRow) : Prop where
  nd : (d.map (·.1)).Nodup
  nz : ∀ p ∈ d, p.2 ≠ 0
theorem GoodD.get {d : DRow} (g : GoodD d) {j : Int} : (dget d j).isSome = true ↔ dv d j ≠ 0 := by
  unfold dv
  cases h : dget d j with
  | none => simp
  | some b => simpa using g.nz _ (dget_mem h)
theorem GoodD.some {d : DRow} (g : GoodD d) {j : Int} (h : dv d j ≠ 0) : dget d j = some (dv d j) := by
  unfold dv at *
  cases e : dget d j with
  | none => rw [e] at h; exact absurd rfl h
  | some b => rfl
theorem dv_mem {d : DRow} (nd : (d.map (·.1)).Nodup) {p : Int × Int} (h : p ∈ d) : dv d p.1 = p.2 := by
  unfold dv
  rw [dget_some_of_mem nd (b := p.2) h]
  rfl
theorem dget_map {β γ : Type} (f : β → γ) (d : List (Int × β)) (j : Int) : dget (d.map fun p => (p.1, f p.2)) j = (dget d j).map f := by
  induction d with
  | nil => rfl
  | cons c d ih =>
    rw [List.map_cons, dget_cons, dget_cons, ih]
    by_cases h : c.1 = j
    · simp [h]
    · simp [h]
theorem keys_map {β γ : Type} (f : Int × β → γ) (d : List (Int × β)) : (d.map fun p => (p.1, f p)).map (·.1) = d.map (·.1) := by
  rw [List.map_map]; rfl
theorem dv_scale (c : Int) (d : DRow) (j : Int) : dv (d.map fun p => (p.1, c * p.2)) j = c * dv d j := by
  unfold dv
  rw [dget_map (fun x => c * x)]
  cases dget d j with
  | none => simp
  | some b => rfl
/-! ### the greatest common divisor -/
theorem gfold {d : DRow} : ∀ (g : Nat), (d.foldl (fun g p => Nat.gcd g p.2.natAbs) g ∣ g) ∧ (∀ p ∈ d, ((d.foldl (fun g p => Nat.gcd g p.2.natAbs) g : Nat) : Int) ∣ p.2) ∧ ∀ c : Nat, c ∣ g → (∀ p ∈ d, (c : Int) ∣ p.2) → c ∣ d.foldl (fun g p => Nat.gcd g p.2.natAbs) g := by
  induction d with
  | nil => intro g; exact ⟨Nat.dvd_refl _, fun p h => (by cases h), fun c h _ => h⟩
  | cons x d ih =>
    intro g
    obtain ⟨h1, h2, h3⟩ := ih (Nat.gcd g x.2.natAbs)
    rw [List.foldl_cons]
    refine ⟨Nat.dvd_trans h1 (Nat.gcd_dvd_left _ _), fun p hp => ?_, fun c hc hd => h3 c (Nat.dvd_gcd hc (Int.ofNat_dvd_left.mp (hd x List.mem_cons_self))) fun p hp => hd p (List.mem_cons_of_mem _ hp)⟩
    rcases List.mem_cons.mp hp with e | e
    · subst e
      exact Int.ofNat_dvd_left.mpr (Nat.dvd_trans h1 (Nat.gcd_dvd_right _ _))
    · exact h2 p e
theorem gcdD_dvd {d : DRow} {p : Int × Int} (h : p ∈ d) : (gcdD d : Int) ∣ p.2 := (gfold 0).2.1 p h
theorem gcdD_max {d : DRow} {c : Nat} (h : ∀ p ∈ d, (c : Int) ∣ p.2) : c ∣ gcdD d := (gfold 0).2.2 c (Nat.dvd_zero c) h
theorem gcdD_dv {d : DRow} (j : Int) : (gcdD d : Int) ∣ dv d j := by
  unfold dv
  cases h : dget d j with
  | none => exact Int.dvd_zero _
  | some b => exact gcdD_dvd (dget_mem h)
theorem gcdD_pos {d : DRow} (g : GoodD d) (h : d ≠ []) : 0 < gcdD d := by
  cases d with
  | nil => exact absurd rfl h
  | cons c d =>
    rcases Nat.eq_zero_or_pos (gcdD (c :: d)) with e | e
    · have h1 := gcdD_dvd (d := c :: d) (p := c) List.mem_cons_self
      rw [e] at h1
      have h2 : c.2 = 0 := by
        obtain ⟨k, hk⟩ := h1
        simpa using hk
      exact absurd h2 (g.nz c List.mem_cons_self)
    · exact e
theorem gcdD_take {d : DRow} {i : Nat} (h : (d.take i).foldl (fun g p => Nat.gcd g p.2.natAbs) 0 = 1) : gcdD d = 1 := by
  have h1 : gcdD d ∣ gcdD (d.take i) := gcdD_max fun p hp => gcdD_dvd (List.mem_of_mem_take hp)
  have h2 : gcdD (d.take i) = 1 := h
  rw [h2] at h1
  exact Nat.dvd_one.mp h1
/-- the row divided by its common divisor -/
theorem primD_dv {d : DRow} (j : Int) : (gcdD d : Int) * dv (primD d) j = dv d j := by
  unfold primD
  by_cases h : gcdD d = 1
  · rw [if_pos h, h]; simp
  · rw [if_neg h]
    have e : dv (d.map fun p => (p.1, p.2.fdiv (gcdD d : Int))) j = (dv d j).fdiv (gcdD d : Int) := by
      unfold dv
      rw [dget_map (fun x => Int.fdiv x (gcdD d : Int))]
      cases dget d j with
      | none => simp
      | some b => rfl
    rw [e]
    obtain ⟨c, hc⟩ := gcdD_dv (d := d) j
    rw [hc]
    by_cases h0 : (gcdD d : Int) = 0
    · rw [h0]; simp
    · rw [Int.mul_fdiv_cancel_left _ h0]
theorem primD_keys {d : DRow} : (primD d).map (·.1) = d.map (·.1) := by
  unfold primD
  split
  · rfl
  · exact keys_map (fun p => p.2.fdiv (gcdD d : Int)) d
theorem GoodD.prim {d : DRow} (g : GoodD d) : GoodD (primD d) := by
  refine ⟨by rw [primD_keys]; exact g.nd, fun p hp e => ?_⟩
  have nd : ((primD d).map (·.1)).Nodup := by rw [primD_keys]; exact g.nd
  have h1 := dv_mem nd hp
  have h2 := primD_dv (d := d) p.1
  rw [h1, e, Int.mul_zero] at h2
  have hk : p.1 ∈ d.map (·.1) := by rw [← primD_keys (d := d)]; exact List.mem_map.mpr ⟨p, hp, rfl⟩
  obtain ⟨q, hq, eq⟩ := List.mem_map.mp hk
  have h3 := dv_mem g.nd hq
  rw [eq] at h3
  exact g.nz q hq (by rw [← h3, ← h2])
/-! ### one row less another -/
theorem combF_good {row lead : DRow} {up down : Int} (gr : GoodD row) (gl : GoodD lead) (hu : up ≠ 0) (hd : down ≠ 0) : ∀ (n : Nat),
    GoodD ((lead.take n).foldl (combStep down) (row.map fun p => (p.1, up * p.2))) ∧ ∀ j, dv ((lead.take n).foldl (combStep down) (row.map fun p => (p.1, up * p.2))) j = up * dv row j - down * dv (lead.take n) j := by
  intro n
  induction n with
  | zero =>
    refine ⟨⟨by rw [List.take_zero, List.foldl_nil, keys_map (fun p => up * p.2)]; exact gr.nd, fun p hp e => ?_⟩, fun j => ?_⟩
    · obtain ⟨q, hq, eq⟩ := List.mem_map.mp hp
      subst eq
      rcases Int.mul_eq_zero.mp e with z | z
      · exact hu z
      · exact gr.nz q hq z
    · rw [List.take_zero, List.foldl_nil, dv_scale]
      simp [dv, dget_nil]
  | succ n ih =>
    obtain ⟨g, hv⟩ := ih
    cases hp : lead[n]? with
    | none =>
      have e : lead.take (n + 1) = lead.take n := by rw [List.take_succ, hp]; simp
      rw [e]; exact ⟨g, hv⟩
    | some p =>
    have e : lead.take (n + 1) = lead.take n ++ [p] := by rw [List.take_succ, hp]; rfl
    have hpre : lead.take n ++ [p] <+: lead := by rw [← e]; exact List.take_prefix _ _
    rw [e]
    generalize lead.take n = pre at g hv hpre
    rw [List.foldl_append, List.foldl_cons, List.foldl_nil]
    generalize pre.foldl (combStep down) (row.map fun p => (p.1, up * p.2)) = f at g hv
    -- the place is new
    have hmem : p ∈ lead := hpre.subset (by simp)
    have hnd : ((pre ++ [p]).map (·.1)).Nodup := by
      obtain ⟨t, ht⟩ := hpre
      have h := gl.nd
      rw [← ht, List.map_append] at h
      exact (List.nodup_append.mp h).1
    have hnew : p.1 ∉ pre.map (·.1) := by
      rw [List.map_append, List.nodup_append] at hnd
      intro z
      exact hnd.2.2 p.1 z p.1 (by simp) rfl
    have h0 : dv pre p.1 = 0 := by unfold dv; rw [dget_none.mpr hnew]; rfl
    have hdv : ∀ j, dv (pre ++ [p]) j = if p.1 = j then p.2 else dv pre j := fun j => by
      unfold dv
      rw [dget_app, dget_cons, dget_nil]
      by_cases hj : p.1 = j
      · subst hj
        rw [dget_none.mpr hnew]; simp
      · simp [hj]
    have hfp := hv p.1
    rw [h0] at hfp
    unfold combStep
    by_cases hz : dv f p.1 - down * p.2 ≠ 0
    · rw [if_pos hz]
      refine ⟨⟨nodup_dput g.nd, fun q hq => ?_⟩, fun j => ?_⟩
      · rcases dput_mem hq with e | e
        · rw [e]; exact hz
        · exact g.nz q e
      · rw [hdv]
        have e1 : dv (dput f p.1 (dv f p.1 - down * p.2)) j = if p.1 = j then dv f p.1 - down * p.2 else dv f j := by
          unfold dv
          rw [dget_dput]
          split <;> rfl
        rw [e1]
        by_cases hj : p.1 = j
        · subst hj
          rw [if_pos rfl, if_pos rfl, hfp]
          omega
        · rw [if_neg hj, if_neg hj, hv]
    · rw [if_neg hz]
      have hz' : dv f p.1 - down * p.2 = 0 := Decidable.not_not.mp hz
      refine ⟨⟨nodup_sub _ g.nd, fun q hq => g.nz q (ddrop_mem.mp hq).1⟩, fun j => ?_⟩
      rw [hdv]
      have e1 : dv (ddrop f p.1) j = if p.1 = j then 0 else dv f j := by
        unfold dv
        rw [dget_ddrop]
        split <;> rfl
      rw [e1]
      by_cases hj : p.1 = j
      · subst hj
        rw [if_pos rfl, if_pos rfl]
        omega
      · rw [if_neg hj, if_neg hj, hv]
theorem combF_all {row lead : DRow} {up down : Int} (gr : GoodD row) (gl : GoodD lead) (hu : up ≠ 0) (hd : down ≠ 0) : GoodD (combF up down row lead) ∧ ∀ j, dv (combF up down row lead) j = up * dv row j - down * dv lead j :=
  by
  have := combF_good gr gl hu hd lead.length
  rw [List.take_length] at this
  exact this
/-- what combined gives -/
theorem combD_all {row lead : DRow} {a : Int} (gr : GoodD row) (gl : GoodD lead) (hr : dv row a ≠ 0) (hl : dv lead a ≠ 0) : GoodD (combD row lead a) ∧
    ∃ g u d : Int, u ≠ 0 ∧ d ≠ 0 ∧ u * dv row a = d * dv lead a ∧ (∀ j, g * dv (combD row lead a) j = u * dv row j - d * dv lead j) ∧ (combD row lead a ≠ [] → g ≠ 0) ∧ u.natAbs ≤ (dv lead a).natAbs ∧ d.natAbs ≤ (dv row a).natAbs ∧ gcdD (combD row lead a) ≤ 1 ∧ (combD row lead a = [] → ∀ j, u * dv row j = d * dv lead j) := by
  have hg0 : 0 < Nat.gcd (dv row a).natAbs (dv lead a).natAbs := Nat.gcd_pos_of_pos_left _ (by omega)
  obtain ⟨r', hr'⟩ : ((Nat.gcd (dv row a).natAbs (dv lead a).natAbs : Nat) : Int) ∣ dv row a := Int.ofNat_dvd_left.mpr (Nat.gcd_dvd_left _ _)
  obtain ⟨l', hl'⟩ : ((Nat.gcd (dv row a).natAbs (dv lead a).natAbs : Nat) : Int) ∣ dv lead a := Int.ofNat_dvd_left.mpr (Nat.gcd_dvd_right _ _)
  have key : combD row lead a = primD (combF l' r' row lead) := by
    unfold combD
    generalize Nat.gcd (dv row a).natAbs (dv lead a).natAbs = g at *
    show primD (combF ((dv lead a).fdiv (g : Int)) ((dv row a).fdiv (g : Int)) row lead) = _
    rw [hr', hl', Int.mul_fdiv_cancel_left _ (by omega), Int.mul_fdiv_cancel_left _ (by omega)]
  generalize Nat.gcd (dv row a).natAbs (dv lead a).natAbs = g at *
  have gz : (g : Int) ≠ 0 := by omega
  have r0 : r' ≠ 0 := fun z => hr (by rw [hr', z, Int.mul_zero])
  have l0 : l' ≠ 0 := fun z => hl (by rw [hl', z, Int.mul_zero])
  obtain ⟨gf, hf⟩ := combF_all gr gl l0 r0
  have bnd : ∀ x y : Int, y = (g : Int) * x → x.natAbs ≤ y.natAbs := fun x y e => by
    rw [e, Int.natAbs_mul]
    have : (g : Int).natAbs = g := Int.natAbs_natCast g
    rw [this]
    exact Nat.le_mul_of_pos_left _ hg0
  rw [key]
  refine ⟨gf.prim, (gcdD (combF l' r' row lead) : Int), l', r', l0, r0, ?_, fun j => ?_, fun hne => ?_, bnd _ _ hl', bnd _ _ hr', ?_, fun he j => ?_⟩
  · rw [hr', hl']
    rw [← Int.mul_assoc, ← Int.mul_assoc, Int.mul_comm l', Int.mul_assoc, Int.mul_comm r', Int.mul_assoc, Int.mul_comm r' l']
  · rw [primD_dv, hf]
  · have hc : combF l' r' row lead ≠ [] := fun z => hne (by
      have := primD_keys (d := combF l' r' row lead)
      rw [z] at this ⊢
      simpa using this)
    have := gcdD_pos gf hc
    omega
  · -- a common divisor of what is left, times the divisor taken out, divides all
    have hx : ∀ p ∈ combF l' r' row lead, ((gcdD (combF l' r' row lead) * gcdD (primD (combF l' r' row lead)) : Nat) : Int) ∣ p.2 := fun p hp => by
      have e1 := dv_mem gf.nd hp
      have e2 := primD_dv (d := combF l' r' row lead) p.1
      obtain ⟨c, hc⟩ := gcdD_dv (d := primD (combF l' r' row lead)) p.1
      rw [← e1, ← e2, hc, Int.natCast_mul]
      exact ⟨c, by rw [Int.mul_assoc]⟩
    have h1 := gcdD_max hx
    rcases Nat.eq_zero_or_pos (gcdD (combF l' r' row lead)) with z | z
    · have hc : combF l' r' row lead = [] := by
        rcases Decidable.em (combF l' r' row lead = []) with q | q
        · exact q
        · exact absurd (gcdD_pos gf q) (by omega)
      rw [hc]
      decide
    · have h2 := Nat.le_of_dvd z h1
      rcases Nat.lt_or_ge 1 (gcdD (primD (combF l' r' row lead))) with q | q
      · have := Nat.mul_lt_mul_of_pos_left q z
        omega
      · exact q
  · have hc : combF l' r' row lead = [] := by
      have := primD_keys (d := combF l' r' row lead)
      rw [he] at this
      simpa using this.symm
    have := hf j
    rw [hc] at this
    simp [dv, dget_nil] at this
    simp only [dv]
    omega
end T
end
section
set_option Elab.async false
set_option linter.all false
set_option maxRecDepth 100000
set_option maxHeartbeats 2000000
namespace T
open PySem PySem.Spec PyProof.Rows L2
def top (i : Nat) : Stmt := PySem.Challenge.pw_mutehelms_k07_products_and_inverses.main.body.getD i (.Pass ⟨0, 0, 0, 0⟩)
/-- the built-in names that stand unhidden -/
structure Bi (G : Gm) : Prop where
  abs : G.mg "abs" = none
  len : G.mg "len" = none
  isi : G.mg "isinstance" = none
  int : G.mg "int" = none
  str : G.mg "str" = none
  bool : G.mg "bool" = none
  tuple : G.mg "tuple" = none
  list : G.mg "list" = none
  dict : G.mg "dict" = none
  range : G.mg "range" = none
  zip : G.mg "zip" = none
  enum : G.mg "enumerate" = none
  min : G.mg "min" = none
  sorted : G.mg "sorted" = none
  repr : G.mg "repr" = none
  gcd : G.mg "gcd" = some (.builtin "math.gcd")
  lcm : G.mg "lcm" = some (.builtin "math.lcm")
  zero : ∃ a, G.mg "ZERO" = some (.ref a) ∧ ∀ R, SqT G.K R a [.int ((0 : Rat).num), .int (((0 : Rat).den : Nat) : Int)]
/-! ### common_divisor -/
def cGcd : Ct := fun ks k => ∃ i j : Int, ks = [.im rI i, .im rI j] ∧ k (.im rI ((Nat.gcd i.natAbs j.natAbs : Nat) : Int)) [.no, .no]
theorem sc5 : FnScope ["one", "other", "left", "right"] ["one", "other"] (defScope (top 6)) := ⟨rfl, rfl, rfl, by decide +kernel, rfl, by decide +kernel, by decide +kernel⟩
theorem f5 {G : Gm} {f : Addr} {fd : FuncData} (F : Fun G.K "common_divisor" "common_divisor" (top 6) f fd) (hf : G.mg "common_divisor" = some (.ref f)) (b : Binds G.K fd ["one", "other"] [])
    (B : Bi G) : Fn G "common_divisor" 1 cGcd := by
  refine Fn.of F hf b sc5 (fun ks k ⟨i, j, h, _⟩ => by rw [h]; rfl) fun X hX hfn hp ks k ⟨i, j, hks, hk⟩ => ?_
  subst hks
  refine S_cons ?_
  refine S1_set (i := 2) hX rfl rfl ?_
  refine E_abs hX rfl B.abs rfl ?_
  refine E_name (i := 0) hX rfl (.inl rfl) rfl ?_
  refine ⟨_, .im _ _, ?_⟩
  refine S_cons ?_
  refine S1_set (i := 3) hX rfl rfl ?_
  refine E_abs hX rfl B.abs rfl ?_
  refine E_name (i := 1) hX rfl (.inl rfl) rfl ?_
  refine ⟨_, .im _ _, ?_⟩
  refine S_cons ?_
  refine S1_while hp (fun m τ => ∃ l : Nat, τ = [.im rI i, .im rI j, .im rI (l : Int), .im rI (m : Int)] ∧ Nat.gcd l m = Nat.gcd i.natAbs j.natAbs) j.natAbs ⟨i.natAbs, rfl, rfl⟩ fun m τ ⟨l, e, hg⟩ => ?_
  subst e
  refine C_neI ?_
  refine E_name (i := 3) hX rfl (.inl rfl) rfl ?_
  refine ⟨_, .im _ _, ?_⟩
  refine E_int ?_
  refine ⟨_, .im _ _, ?_⟩
  refine ⟨fun hc => ?_, fun hc => ?_⟩
  · have hm : m ≠ 0 := by simpa using hc
    refine S_one ?_
    refine S1_par (i := 2) (j := 3) hX rfl rfl (by decide) rfl rfl rfl ?_
    refine E_name (i := 3) hX rfl (.inl rfl) rfl ?_
    refine E_mod ?_
    refine E_name (i := 2) hX rfl (.inl rfl) rfl ?_
    refine ⟨_, .im _ _, ?_⟩
    refine E_name (i := 3) hX rfl (.inl rfl) rfl ?_
    refine ⟨_, .im _ _, by omega, ?_⟩
    refine ⟨_, _, rfl, l % m, Nat.mod_lt _ (by omega), m, ?_, ?_⟩
    · rw [Int.natCast_emod]; rfl
    · rw [← hg, Nat.gcd_comm l m, Nat.gcd_rec m l]; exact Nat.gcd_comm _ _
  · have hm : m = 0 := by simpa using hc
    subst hm
    refine S_one ?_
    refine S1_ret ?_
    refine E_name (i := 2) hX rfl (.inl rfl) rfl ?_
    rw [Nat.gcd_zero_right] at hg
    rw [hg]
    exact fin_no hk
/-! ### lowest, lowered -/
theorem low_num {t b : Int} (hb : b ≠ 0) : t.fdiv (if b < 0 then -((Nat.gcd t.natAbs b.natAbs : Nat) : Int) else ((Nat.gcd t.natAbs b.natAbs : Nat) : Int)) = ((t : Rat) / (b : Rat)).num := by
  rw [← Rat.divInt_eq_div, Rat.num_divInt]
  have hg : ((b.gcd t : Nat) : Int) = ((Nat.gcd t.natAbs b.natAbs : Nat) : Int) := by rw [Int.gcd, Nat.gcd_comm]
  rw [hg]
  have hgd : ((Nat.gcd t.natAbs b.natAbs : Nat) : Int) ∣ t := by
    exact Int.ofNat_dvd_left.mpr (Nat.gcd_dvd_left _ _)
  have hg0 : 0 < Nat.gcd t.natAbs b.natAbs := Nat.gcd_pos_of_pos_right _ (by omega)
  generalize Nat.gcd t.natAbs b.natAbs = g at *
  obtain ⟨c, hc⟩ := hgd
  have g0 : (g : Int) ≠ 0 := by omega
  by_cases h : b < 0
  · rw [if_pos h, Int.sign_eq_neg_one_of_neg h, hc]
    have e1 : (g : Int) * c = (-(g : Int)) * (-c) := by rw [Int.neg_mul_neg]
    have e2 : -1 * ((g : Int) * c) = (g : Int) * (-c) := by rw [Int.mul_neg]; omega
    rw [e2, Int.mul_ediv_cancel_left _ g0]
    rw [e1, Int.mul_fdiv_cancel_left _ (by omega)]
  · rw [if_neg h, Int.sign_eq_one_of_pos (by omega), hc, Int.one_mul, Int.mul_ediv_cancel_left _ g0, Int.mul_fdiv_cancel_left _ g0]
theorem low_den {t b : Int} (hb : b ≠ 0) : b.fdiv (if b < 0 then -((Nat.gcd t.natAbs b.natAbs : Nat) : Int) else ((Nat.gcd t.natAbs b.natAbs : Nat) : Int)) = ((((t : Rat) / (b : Rat)).den : Nat) : Int) := by
  rw [← Rat.divInt_eq_div, Rat.den_divInt, if_neg hb]
  have hg : b.gcd t = Nat.gcd t.natAbs b.natAbs := by rw [Int.gcd, Nat.gcd_comm]
  rw [hg]
  have hgd : Nat.gcd t.natAbs b.natAbs ∣ b.natAbs := Nat.gcd_dvd_right _ _
  have hg0 : 0 < Nat.gcd t.natAbs b.natAbs := Nat.gcd_pos_of_pos_right _ (by omega)
  generalize Nat.gcd t.natAbs b.natAbs = g at *
  obtain ⟨c, hc⟩ := hgd
  have g0 : (g : Int) ≠ 0 := by omega
  rw [hc, Nat.mul_div_cancel_left _ hg0]
  by_cases h : b < 0
  · rw [if_pos h]
    have e1 : b = (-(g : Int)) * (c : Int) := by
      have : ((b.natAbs : Nat) : Int) = -b := by omega
      have e : ((g * c : Nat) : Int) = -b := by rw [← hc]; exact this
      rw [Int.natCast_mul] at e
      rw [Int.neg_mul]; omega
    rw [e1, Int.mul_fdiv_cancel_left _ (by omega)]
  · rw [if_neg h]
    have e1 : b = (g : Int) * (c : Int) := by
      have : ((b.natAbs : Nat) : Int) = b := by omega
      have e : ((g * c : Nat) : Int) = b := by rw [← hc]; exact this
      rw [Int.natCast_mul] at e
      omega
    rw [e1, Int.mul_fdiv_cancel_left _ g0]
theorem gcd_lt {t b : Int} (hb : b ≠ 0) {m : Nat} (h : b.natAbs < m) : (if b < 0 then -((Nat.gcd t.natAbs b.natAbs : Nat) : Int) else ((Nat.gcd t.natAbs b.natAbs : Nat) : Int)).natAbs < m ∧ (if b < 0 then -((Nat.gcd t.natAbs b.natAbs : Nat) : Int) else ((Nat.gcd t.natAbs b.natAbs : Nat) : Int)) ≠ 0 := by
  have h1 : Nat.gcd t.natAbs b.natAbs ≤ b.natAbs := Nat.gcd_le_right _ (by omega)
  have h0 : 0 < Nat.gcd t.natAbs b.natAbs := Nat.gcd_pos_of_pos_right _ (by omega)
  generalize Nat.gcd t.natAbs b.natAbs = g at *
  split <;> omega
def cLow : Ct := fun ks k => ∃ t b : Int, ks = [.im rI t, .im rI b] ∧ b ≠ 0 ∧ b.natAbs < 2 ^ 9000 ∧ ∀ K, k (.im (rQ K) ((t : Rat) / (b : Rat))) [.no, .no]
def cLowK (K : PySem.W.Frag) : Ct := fun ks k => ∃ t b : Int, ks = [.im rI t, .im rI b] ∧ b ≠ 0 ∧ b.natAbs < 2 ^ 9000 ∧ k (.im (rQ K) ((t : Rat) / (b : Rat))) [.no, .no]
theorem sc6 : FnScope ["top", "bottom", "common"] ["top", "bottom"] (defScope (top 7)) := ⟨rfl, rfl, rfl, by decide +kernel, rfl, by decide +kernel, by decide +kernel⟩
theorem f6 {G : Gm} {f : Addr} {fd : FuncData} (F : Fun G.K "lowest" "lowest" (top 7) f fd) (hf : G.mg "lowest" = some (.ref f)) (b : Binds G.K fd ["top", "bottom"] [])
    (B : Bi G) (h1 : Fn G "common_divisor" 1 cGcd) : Fn G "lowest" 2 (cLowK G.K) := by
  refine Fn.of F hf b sc6 (fun ks k ⟨t, b, h, _⟩ => by rw [h]; rfl) fun X hX hfn hp ks k ⟨t, b, hks, hb0, hbz, hk⟩ => ?_
  subst hks
  refine S_cons ?_
  refine S1_if ?_
  refine C_eqI ?_
  refine E_name (i := 1) hX rfl (.inl rfl) rfl ?_  -- bottom
  refine ⟨_, .im _ _, ?_⟩
  refine E_int ?_
  refine ⟨_, .im _ _, ?_⟩
  refine ⟨fun hc => ?_, fun hc => ?_⟩
  · have hb1 : b = 1 := by simpa using hc
    subst hb1
    refine S_one ?_
    refine S1_ret ?_
    refine E_tup hX rfl (by decide) ?_
    refine E_name (i := 0) hX rfl (.inl rfl) rfl ?_  -- top
    refine ⟨_, .im _ _, ?_⟩
    refine E_int ?_
    refine ⟨_, .im _ _, ?_⟩
    refine ⟨by simp, _, _, _, tup_Q (q := (t : Rat) / ((1 : Int) : Rat)) ?_ ?_, fin_no hk⟩
    · have := low_num (t := t) (b := 1) (by decide)
      simpa using this
    · have := low_den (t := t) (b := 1) (by decide)
      simpa using this
  refine S_nil ?_
  -- common = common_divisor(top, bottom)
  refine S_cons ?_
  refine S1_set (i := 2) hX rfl rfl ?_  -- common
  refine E_call hX h1 (by omega) rfl rfl ?_
  refine A_cons rfl ?_
  refine P_name (i := 0) hX rfl (.inl rfl) rfl (by intro z; cases z) ?_  -- top
  refine A_cons rfl ?_
  refine P_name (i := 1) hX rfl (.inl rfl) rfl (by intro z; cases z) ?_  -- bottom
  refine A_nil ?_
  refine ⟨[_, _], ⟨rfl, rfl, trivial⟩, trivial, _, _, rfl, ?_⟩
  -- if bottom < 0:
  refine S_join (fun τ => τ = [.im rI t, .im rI b, .im rI (if b < 0 then -((Nat.gcd t.natAbs b.natAbs : Nat) : Int) else ((Nat.gcd t.natAbs b.natAbs : Nat) : Int))]) ?_ fun τ hτ => ?_
  · refine S1_if ?_
    refine C_lt ?_
    refine E_name (i := 1) hX rfl (.inl rfl) rfl ?_  -- bottom
    refine ⟨_, .im _ _, ?_⟩
    refine E_int ?_
    refine ⟨_, .im _ _, ?_⟩
    refine ⟨fun hc => ?_, fun hc => ?_⟩
    · -- common = -common
      refine S_one ?_
      refine S1_set (i := 2) hX rfl rfl ?_  -- common
      refine E_neg ?_
      refine E_name (i := 2) hX rfl (.inl rfl) rfl ?_  -- common
      refine ⟨_, .im _ _, ?_⟩
      show _ = _
      rw [if_pos (by simpa using hc)]
      rfl
    · refine S_nil ?_
      show _ = _
      rw [if_neg (by simpa using hc)]
      rfl
  subst hτ
  obtain ⟨g1, g2⟩ := gcd_lt (t := t) hb0 hbz
  -- return (top // common, bottom // common)
  refine S_one ?_
  refine S1_ret ?_
  refine E_tup hX rfl (by decide) ?_
  refine E_fdivB ?_
  refine E_name (i := 0) hX rfl (.inl rfl) rfl ?_  -- top
  refine ⟨_, .im _ _, ?_⟩
  refine E_name (i := 2) hX rfl (.inl rfl) rfl ?_  -- common
  refine ⟨_, .im _ _, divB_ok g2 g1, ?_⟩
  refine ⟨_, .im _ _, ?_⟩
  refine E_fdivB ?_
  refine E_name (i := 1) hX rfl (.inl rfl) rfl ?_  -- bottom
  refine ⟨_, .im _ _, ?_⟩
  refine E_name (i := 2) hX rfl (.inl rfl) rfl ?_  -- common
  refine ⟨_, .im _ _, divB_ok g2 g1, ?_⟩
  refine ⟨_, .im _ _, ?_⟩
  exact ⟨by simp, _, _, _, tup_Q (low_num hb0) (low_den hb0), fin_no hk⟩
theorem sc7 : FnScope ["top", "bottom", "common"] ["top", "bottom"] (defScope (top 8)) := ⟨rfl, rfl, rfl, by decide +kernel, rfl, by decide +kernel, by decide +kernel⟩
theorem f7 {G : Gm} {f : Addr} {fd : FuncData} (F : Fun G.K "lowered" "lowered" (top 8) f fd) (hf : G.mg "lowered" = some (.ref f)) (b : Binds G.K fd ["top", "bottom"] [])
    (B : Bi G) : Fn G "lowered" 1 (cLowK G.K) := by
  refine Fn.of F hf b sc7 (fun ks k ⟨t, b, h, _⟩ => by rw [h]; rfl) fun X hX hfn hp ks k ⟨t, b, hks, hb0, hbz, hk⟩ => ?_
  subst hks
  -- common = gcd(top, bottom)
  refine S_cons ?_
  refine S1_set (i := 2) hX rfl rfl ?_  -- common
  refine E_gcd hX rfl B.gcd rfl ?_
  refine E_name (i := 0) hX rfl (.inl rfl) rfl ?_  -- top
  refine ⟨_, .im _ _, ?_⟩
  refine E_name (i := 1) hX rfl (.inl rfl) rfl ?_  -- bottom
  refine ⟨_, .im _ _, ?_⟩
  -- if bottom < 0:
  refine S_join (fun τ => τ = [.im rI t, .im rI b, .im rI (if b < 0 then -((Nat.gcd t.natAbs b.natAbs : Nat) : Int) else ((Nat.gcd t.natAbs b.natAbs : Nat) : Int))]) ?_ fun τ hτ => ?_
  · refine S1_if ?_
    refine C_lt ?_
    refine E_name (i := 1) hX rfl (.inl rfl) rfl ?_  -- bottom
    refine ⟨_, .im _ _, ?_⟩
    refine E_int ?_
    refine ⟨_, .im _ _, ?_⟩
    refine ⟨fun hc => ?_, fun hc => ?_⟩
    · refine S_one ?_
      refine S1_set (i := 2) hX rfl rfl ?_  -- common
      refine E_neg ?_
      refine E_name (i := 2) hX rfl (.inl rfl) rfl ?_  -- common
      refine ⟨_, .im _ _, ?_⟩
      show _ = _
      rw [if_pos (by simpa using hc)]
      rfl
    · refine S_nil ?_
      show _ = _
      rw [if_neg (by simpa using hc)]
      rfl
  subst hτ
  obtain ⟨g1, g2⟩ := gcd_lt (t := t) hb0 hbz
  refine S_one ?_
  refine S1_ret ?_
  refine E_tup hX rfl (by decide) ?_
  refine E_fdivB ?_
  refine E_name (i := 0) hX rfl (.inl rfl) rfl ?_  -- top
  refine ⟨_, .im _ _, ?_⟩
  refine E_name (i := 2) hX rfl (.inl rfl) rfl ?_  -- common
  refine ⟨_, .im _ _, divB_ok g2 g1, ?_⟩
  refine ⟨_, .im _ _, ?_⟩
  refine E_fdivB ?_
  refine E_name (i := 1) hX rfl (.inl rfl) rfl ?_  -- bottom
  refine ⟨_, .im _ _, ?_⟩
  refine E_name (i := 2) hX rfl (.inl rfl) rfl ?_  -- common
  refine ⟨_, .im _ _, divB_ok g2 g1, ?_⟩
  refine ⟨_, .im _ _, ?_⟩
  exact ⟨by simp, _, _, _, tup_Q (low_num hb0) (low_den hb0), fin_no hk⟩
end T
end
section
set_option Elab.async false
set_option linter.all false
set_option maxRecDepth 100000
set_option exponentiation.threshold 10000
set_option maxHeartbeats 2000000
namespace T
open PySem PySem.Spec PyProof.Rows L2
theorem take_get {α : Type} {l : List α} {i : Nat} {y : α} (h : l[i]? = some y) : l.take (i + 1) = l.take i ++ [y] := by rw [List.take_succ, h]; rfl
/-! ### made, made_row -/
def cMade (K : PySem.W.Frag) : Ct := fun ks k => ∃ g : Giv, ks = [.im (rGiv K) g] ∧ okG g ∧ k (.im (rQ K) (gv g)) [.no]
theorem sc8 : FnScope ["value", "top", "bottom"] ["value"] (defScope (top 9)) := ⟨rfl, rfl, rfl, by decide +kernel, rfl, by decide +kernel, by decide +kernel⟩
theorem f8 {G : Gm} {f : Addr} {fd : FuncData} (F : Fun G.K "made" "made" (top 9) f fd) (hf : G.mg "made" = some (.ref f)) (b : Binds G.K fd ["value"] [])
    (B : Bi G) (h1 : Fn G "lowest" 2 (cLowK G.K)) : Fn G "made" 3 (cMade G.K) := by
  refine Fn.of F hf b sc8 (fun ks k ⟨g, h, _⟩ => by rw [h]; rfl) fun X hX hfn hp ks k ⟨g, hks, hg, hk⟩ => ?_
  subst hks
  refine S_cons ?_
  refine S1_if ?_
  refine C_val ?_
  refine E_isi hX rfl B.isi rfl B.int rfl rfl ?_
  refine E_name (i := 0) hX rfl (.inl rfl) rfl ?_  -- value
  cases g with
  | inl i =>
    refine ⟨.im rI i, _, true, .cv fun R v h => h, ty_I, rfl, ?_⟩
    refine ⟨_, .im _ _, ?_⟩
    refine ⟨fun hc => ?_, fun hc => by cases hc⟩
    refine S_one ?_
    refine S1_ret ?_
    refine E_tup hX rfl (by decide) ?_
    refine E_name (i := 0) hX rfl (.inl rfl) rfl ?_  -- value
    refine ⟨.im rI i, .cv fun R v h => h, ?_⟩
    refine E_int ?_
    refine ⟨_, .im _ _, ?_⟩
    exact ⟨by simp, _, _, _, tup_Q (q := (i : Rat)) (by simp) (by simp), fin_no hk⟩
  | inr p =>
    refine ⟨.im (rPair G.K rI rI) p, _, false, .cv fun R v h => h, ty_P, rfl, ?_⟩
    refine ⟨_, .im _ _, ?_⟩
    refine ⟨fun hc => by (cases hc), fun hc => ?_⟩
    refine S_nil ?_
    refine S_cons ?_
    refine S1_asg ?_
    refine E_name (i := 0) hX rfl (.inl rfl) rfl ?_  -- value
    refine T_tup hX rfl un_giv ?_
    refine T_name (i := 1) hX rfl rfl ?_  -- top
    refine T_name (i := 2) hX rfl rfl ?_  -- bottom
    refine S_one ?_
    refine S1_ret ?_
    refine E_call hX h1 (by omega) rfl rfl ?_
    refine A_cons rfl ?_
    refine P_name (i := 1) hX rfl (.inl rfl) rfl (by intro z; cases z) ?_  -- top
    refine A_cons rfl ?_
    refine P_name (i := 2) hX rfl (.inl rfl) rfl (by intro z; cases z) ?_  -- bottom
    refine A_nil ?_
    exact ⟨[_, _], ⟨rfl, rfl, trivial⟩, trivial, _, _, rfl, hg.1, hg.2, fin_no hk⟩
def cRow (K : PySem.W.Frag) : Ct := fun ks k => ∃ l : List Giv, ks = [.im (rLT K (rGiv K)) l] ∧ (∀ g ∈ l, okG g) ∧ l.length ≤ 1000 ∧ k (.im (rT K (rQ K)) (l.map gv)) [.no]
theorem sc9 : FnScope ["values", "value"] ["values"] (defScope (top 10)) := ⟨rfl, rfl, rfl, by decide +kernel, rfl, by decide +kernel, by decide +kernel⟩
theorem f9 {G : Gm} {f : Addr} {fd : FuncData} (F : Fun G.K "made_row" "made_row" (top 10) f fd) (hf : G.mg "made_row" = some (.ref f)) (b : Binds G.K fd ["values"] [])
    (B : Bi G) (h1 : Fn G "made" 3 (cMade G.K)) : Fn G "made_row" 4 (cRow G.K) := by
  refine Fn.of F hf b sc9 (fun ks k ⟨l, h, _⟩ => by rw [h]; rfl) fun X hX hfn hp ks k ⟨l, hks, hl, hz, hk⟩ => ?_
  subst hks
  refine S_one ?_
  refine S1_ret ?_
  refine E_tuple (rQ G.K) hX rfl B.tuple rfl ?_
  refine E_lc (own := [("value", 1)]) (rQ G.K) hX rfl ?_  -- [made(value) for value in values]
  refine I_nameLT (i := 0) hX rfl (.inl rfl) rfl ?_
  refine ⟨fun i out τ => out = (l.take i).map gv ∧ τ = [.im (rLT G.K (rGiv G.K)) l, .no], ⟨by simp, rfl⟩, fun i y hy => ?_, fun out τ hJ p => ?_⟩
  · rintro out τ ⟨ho, hτ⟩ X1 hX1 hf1
    subst hτ
    rw [List.getElem?_map] at hy
    cases hg : l[i]? with
    | none => rw [hg] at hy; cases hy
    | some g =>
    rw [hg] at hy
    cases hy
    have hi := (List.getElem?_eq_some_iff.mp hg).1
    refine TB_name (i := 1) hX1 rfl rfl (by decide) ?_  -- value
    intro X2 hX2
    refine Cs_nil ?_
    refine ⟨fun _ X3 hX3 => ?_, fun h => by cases h⟩
    refine E_call hX3 h1 (by omega) rfl rfl ?_
    refine A_cons rfl ?_
    refine P_name (i := 1) hX3 rfl (.inl rfl) rfl (by intro z; cases z) ?_  -- value
    refine A_nil ?_
    refine ⟨[_], ⟨rfl, trivial⟩, trivial, g, rfl, hl g (List.mem_of_getElem? hg), ?_⟩
    refine ⟨_, .im _ _, ?_, ?_, rfl⟩
    · rw [ho, List.length_map, List.length_take]; omega
    · rw [ho, take_get hg, List.map_append]; rfl
  · obtain ⟨ho, hτ⟩ := hJ
    rw [List.length_map, List.take_length] at ho
    subst ho
    exact ⟨_, .inl (.ow frz_L), fin_no hk⟩
/-! ### whole_row -/
def lcmDen (row : List Rat) : Nat := row.foldl (fun c q => Nat.lcm c q.den) 1
def wholeF (c : Nat) (p : Int × Rat) : Option (Int × Int) := if p.2.num ≠ 0 then some (p.1, p.2.num * ((c : Int).fdiv (p.2.den : Int))) else none
def wholeRow (row : List Rat) : DRow := (row.mapIdx fun i q => ((i : Int), q)).filterMap (wholeF (lcmDen row))
def cWhole (K : PySem.W.Frag) : Ct := fun ks k => ∃ row : List Rat, ks = [.im (rT K (rQ K)) row] ∧ (∃ m : Nat, 0 < m ∧ m < 2 ^ 1000 ∧ ∀ q ∈ row, q.den ∣ m ∧ q.num.natAbs < 2 ^ 1000) ∧ row.length ≤ 1000 ∧ ∀ p, k (.ow p (cD rI) (wholeRow row)) [.no]
theorem lcm_dvd {row : List Rat} {m : Nat} (h : ∀ q ∈ row, q.den ∣ m) : ∀ c, c ∣ m → row.foldl (fun c q => Nat.lcm c q.den) c ∣ m := by
  induction row with
  | nil => intro c hc; exact hc
  | cons q row ih =>
    intro c hc
    rw [List.foldl_cons]
    exact ih (fun x hx => h x (List.mem_cons_of_mem _ hx)) _ (Nat.lcm_dvd hc (h q List.mem_cons_self))
theorem whole_keys {c : Nat} : ∀ (l : List (Int × Rat)) {p : Int × Int}, p ∈ l.filterMap (wholeF c) → p.1 ∈ l.map (·.1) := by
  intro l p h
  obtain ⟨q, hq, e⟩ := List.mem_filterMap.mp h
  unfold wholeF at e
  split at e
  · cases e; exact List.mem_map.mpr ⟨q, hq, rfl⟩
  · cases e
theorem sc10 : FnScope ["row", "common", "_", "bottom", "at", "top"] ["row"] (defScope (top 11)) := ⟨rfl, rfl, rfl, by decide +kernel, rfl, by decide +kernel, by decide +kernel⟩
theorem f10 {G : Gm} {f : Addr} {fd : FuncData} (F : Fun G.K "whole_row" "whole_row" (top 11) f fd) (hf : G.mg "whole_row" = some (.ref f)) (b : Binds G.K fd ["row"] [])
    (B : Bi G) : Fn G "whole_row" 1 (cWhole G.K) := by
  refine Fn.of F hf b sc10 (fun ks k ⟨row, h, _⟩ => by rw [h]; rfl) fun X hX hfn hp ks k ⟨row, hks, ⟨m, hm0, hmz, hq⟩, hlen, hk⟩ => ?_
  subst hks
  have hcd : ∀ i, (row.take i).foldl (fun c q => Nat.lcm c q.den) 1 ∣ m := fun i => lcm_dvd (fun q h => (hq q (List.mem_of_mem_take h)).1) 1 (Nat.one_dvd m)
  -- common = 1
  refine S_cons ?_
  refine S1_setC (i := 1) hX hfn rfl rfl ?_  -- common
  refine E_int ?_
  -- for _, bottom in row:
  refine S_cons ?_
  refine S1_for hX hp ?_
  refine I_tup hX ?_
  refine E_name (i := 0) hX rfl (.inl rfl) rfl ?_  -- row
  refine ⟨_, _, _, .im _ _, ?_⟩
  refine ⟨fun i τ => ∃ x2 x3, τ = [.im (rT G.K (rQ G.K)) row, .im rI (((row.take i).foldl (fun c q => Nat.lcm c q.den) 1 : Nat) : Int), x2, x3, .no, .no], ⟨_, _, rfl⟩, fun i y τ hy hI => ?_, fun τ hI => ?_⟩
  · obtain ⟨x2, x3, hτ⟩ := hI
    subst hτ
    rw [List.getElem?_map] at hy
    cases hg : row[i]? with
    | none => rw [hg] at hy; cases hy
    | some q =>
    rw [hg] at hy
    cases hy
    have hqm := hq q (List.mem_of_getElem? hg)
    refine T_tup hX rfl un_Q ?_
    refine T_name (i := 2) hX rfl rfl ?_  -- _
    refine T_name (i := 3) hX rfl rfl ?_  -- bottom
    -- common = lcm(common, bottom)
    refine S_one ?_
    refine S1_setC (i := 1) hX hfn rfl rfl ?_  -- common
    refine E_lcm hX rfl B.lcm rfl ?_
    refine E_name (i := 1) hX rfl (.inr (.inl rfl)) rfl ?_  -- common
    refine ⟨_, .im _ _, ?_⟩
    refine E_name (i := 3) hX rfl (.inl rfl) rfl ?_  -- bottom
    refine ⟨_, .im _ _, ?_, ?_, .im rI q.num, .im rI (q.den : Int), ?_⟩
    · have := Nat.le_of_dvd hm0 (hcd i)
      rw [Int.natAbs_natCast]
      exact Nat.lt_of_le_of_lt this (Nat.lt_trans hmz (Nat.pow_lt_pow_right (by omega) (by omega)))
    · have := Nat.le_of_dvd hm0 hqm.1
      rw [Int.natAbs_natCast]
      exact Nat.lt_of_le_of_lt this (Nat.lt_trans hmz (Nat.pow_lt_pow_right (by omega) (by omega)))
    · rw [take_get hg, List.foldl_append]
      simp only [Int.natAbs_natCast]
      rfl
  obtain ⟨x2, x3, hτ⟩ := hI
  rw [List.length_map, List.take_length] at hτ
  subst hτ
  have hcz : lcmDen row < 2 ^ 1000 := by
    have := Nat.le_of_dvd hm0 (hcd row.length)
    rw [List.take_length] at this
    exact Nat.lt_of_le_of_lt this hmz
  -- return {..}
  refine S_one ?_
  refine S1_ret ?_
  refine E_dc (own := [("at", 4), ("top", 5), ("bottom", 3)]) rI hX rfl ?_
  refine I_enumT hX rfl B.enum rfl ?_
  refine E_name (i := 0) hX rfl (.inl rfl) rfl ?_  -- row
  refine ⟨_, _, _, .im _ _, ?_⟩
  refine ⟨fun i out τ => out = ((row.mapIdx fun i q => ((i : Int), q)).take i).filterMap (wholeF (lcmDen row)) ∧ τ = [.im (rT G.K (rQ G.K)) row, .im rI (lcmDen row : Int), x2, .no, .no, .no], ⟨by simp, rfl⟩, fun i y hy => ?_, fun out τ hJ p => ?_⟩
  · rintro out τ ⟨ho, hτ⟩ X1 hX1 hf1
    subst hτ
    rw [List.getElem?_mapIdx] at hy
    cases hg : row[i]? with
    | none => rw [hg] at hy; cases hy
    | some q =>
    rw [hg] at hy
    cases hy
    have hi := (List.getElem?_eq_some_iff.mp hg).1
    have hqm := hq q (List.mem_of_getElem? hg)
    have hgi : (row.mapIdx fun i q => ((i : Int), q))[i]? = some ((i : Int), q) := by rw [List.getElem?_mapIdx, hg]; rfl
    have hout : out.length < 100000 := by
      rw [ho]
      refine Nat.lt_of_le_of_lt (List.length_filterMap_le _ _) ?_
      rw [List.length_take]; omega
    refine TB_tup hX1 rfl un_pair ?_
    refine TB_name (i := 4) hX1 rfl rfl (by decide) ?_  -- at
    refine TB_tup hX1 rfl un_Q ?_
    refine TB_name (i := 5) hX1 rfl rfl (by decide) ?_  -- top
    refine TB_name (i := 3) hX1 rfl rfl (by decide) ?_  -- bottom
    intro X2 hX2
    refine Cs_one ?_
    refine C_neI ?_
    refine E_name (i := 5) hX2 rfl (.inl rfl) rfl ?_  -- top
    refine ⟨_, .im _ _, ?_⟩
    refine E_int ?_
    refine ⟨_, .im _ _, ?_⟩
    refine ⟨fun hb X3 hX3 => ?_, fun hb => ?_⟩
    · have hn0 : q.num ≠ 0 := by simpa using hb
      have hd0 : (q.den : Int) ≠ 0 := by have := q.den_pos; omega
      have hdz : q.den < 2 ^ 1000 := Nat.lt_of_le_of_lt (Nat.le_of_dvd hm0 hqm.1) hmz
      have hdv : ((lcmDen row : Int).fdiv (q.den : Int)).natAbs < 2 ^ 1000 := by
        rw [Int.fdiv_eq_ediv_of_nonneg _ (by omega)]
        have : ((lcmDen row : Int) / (q.den : Int)) = ((lcmDen row / q.den : Nat) : Int) := by rw [Int.natCast_ediv]
        rw [this, Int.natAbs_natCast]
        exact Nat.lt_of_le_of_lt (Nat.div_le_self _ _) hcz
      refine E_name (i := 4) hX3 rfl (.inl rfl) rfl ?_  -- at
      refine ⟨_, .im _ _, fun X4 hX4 => ?_⟩
      refine E_mul ?_
      refine E_name (i := 5) hX4 rfl (.inl rfl) rfl ?_  -- top
      refine ⟨_, .im _ _, ?_⟩
      refine E_fdivB ?_
      refine E_name (i := 1) hX4 rfl (.inr (.inl rfl)) rfl ?_  -- common
      refine ⟨_, .im _ _, ?_⟩
      refine E_name (i := 3) hX4 rfl (.inl rfl) rfl ?_  -- bottom
      refine ⟨_, .im _ _, divB_ok hd0 (by rw [Int.natAbs_natCast]; exact Nat.lt_trans hdz (by exact Nat.pow_lt_pow_right (by omega) (by omega))), ?_⟩
      refine ⟨_, .im _ _, mulx_ok hqm.2 hdv (by omega), ?_⟩
      refine ⟨_, .im _ _, hout, ?_, rfl⟩
      rw [dput_new, take_get hgi, List.filterMap_append, ho]
      · congr 1
        show _ = [((i : Int), q)].filterMap (wholeF (lcmDen row))
        rw [List.filterMap_cons]
        unfold wholeF
        rw [if_pos hn0]
        rfl
      · rw [ho]
        intro z
        obtain ⟨p, hp1, hp2⟩ := List.mem_map.mp z
        have h3 := whole_keys _ hp1
        obtain ⟨r, hr1, hr2⟩ := List.mem_map.mp h3
        obtain ⟨j, hj⟩ := List.mem_iff_getElem?.mp hr1
        rw [List.getElem?_take] at hj
        split at hj
        · rename_i hji
          rw [List.getElem?_mapIdx] at hj
          cases hh : row[j]? with
          | none => rw [hh] at hj; cases hj
          | some w =>
            rw [hh] at hj
            cases hj
            have : ((j : Nat) : Int) = (i : Int) := hr2.trans hp2
            omega
        · cases hj
    · have hn0 : q.num = 0 := by simpa using hb
      refine ⟨?_, rfl⟩
      rw [take_get hgi, List.filterMap_append, ho]
      have : [((i : Int), q)].filterMap (wholeF (lcmDen row)) = [] := by
        rw [List.filterMap_cons]
        unfold wholeF
        rw [if_neg (by simp [hn0])]
        rfl
      rw [this, List.append_nil]
  · obtain ⟨ho, hτ⟩ := hJ
    have e : out = wholeRow row := by
      rw [ho, List.length_mapIdx]
      unfold wholeRow
      rw [List.take_of_length_le (by simp)]
    subst e
    exact fin_no (hk p)
end T
end
section
set_option Elab.async false
set_option linter.all false
set_option maxRecDepth 100000
set_option maxHeartbeats 2000000
set_option exponentiation.threshold 10000
namespace T
open PySem PySem.Spec PyProof.Rows L2
def BdD (m : Nat) (d : DRow) : Prop := ∀ p ∈ d, p.2.natAbs < 2 ^ m
theorem BdD.dv {m : Nat} {d : DRow} (h : BdD m d) (j : Int) : (dv d j).natAbs < 2 ^ m := by
  unfold T.dv
  cases e : dget d j with
  | none => exact Nat.pow_pos (by decide)
  | some b => exact h _ (dget_mem e)
theorem BdD.gcd {m : Nat} {d : DRow} (g : GoodD d) (h : BdD m d) : gcdD d < 2 ^ m := by
  cases d with
  | nil => exact Nat.pow_pos (by decide)
  | cons c d =>
    have h1 : c.2 ≠ 0 := g.nz c List.mem_cons_self
    have h2 := Int.ofNat_dvd_left.mp (gcdD_dvd (d := c :: d) (p := c) List.mem_cons_self)
    exact Nat.lt_of_le_of_lt (Nat.le_of_dvd (by omega) h2) (h c List.mem_cons_self)
theorem take_key {d : DRow} (nd : (d.map (·.1)).Nodup) {i : Nat} {p : Int × Int} (h : d[i]? = some p) : p.1 ∉ (d.take i).map (·.1) := by
  have e := take_get h
  have h1 : ((d.take (i + 1)).map (·.1)).Nodup := by
    rw [List.map_take]
    exact nd.sublist (List.take_sublist _ _)
  rw [e, List.map_append, List.nodup_append] at h1
  intro z
  exact h1.2.2 p.1 z p.1 (by simp) rfl
/-! ### primitive -/
def cPrim : Ct := fun ks k => ∃ d : DRow, ks = [.im (rD rI) d] ∧ GoodD d ∧ BdD 9000 d ∧ d.length ≤ 5000 ∧ k (.im (rD rI) (primD d)) [.no]
theorem sc11 : FnScope ["row", "common", "number", "at"] ["row"] (defScope (top 12)) := ⟨rfl, rfl, rfl, by decide +kernel, rfl, by decide +kernel, by decide +kernel⟩
theorem f11 {G : Gm} {f : Addr} {fd : FuncData} (F : Fun G.K "primitive" "primitive" (top 12) f fd) (hf : G.mg "primitive" = some (.ref f)) (b : Binds G.K fd ["row"] [])
    (B : Bi G) : Fn G "primitive" 1 cPrim := by
  refine Fn.of F hf b sc11 (fun ks k ⟨d, h, _⟩ => by rw [h]; rfl) fun X hX hfn hp ks k ⟨d, hks, hg, hb, hz, hk⟩ => ?_
  subst hks
  -- common = 0
  refine S_cons ?_
  refine S1_setC (i := 1) hX hfn rfl rfl ?_  -- common
  refine E_int ?_
  -- for number in row.values():
  refine S_cons ?_
  refine S1_forD (j := 0) (B := rI) (d := d) hX hp rfl (dw_vals hX rfl (.inl rfl)) (fun i τ => ∃ x2, τ = [.im (rD rI) d, .im rI (((d.take i).foldl (fun g p => Nat.gcd g p.2.natAbs) 0 : Nat) : Int), x2, .no]) ⟨_, rfl⟩ (fun i y τ hy hI => ?_) (fun τ hI => ?_)
  · obtain ⟨x2, hτ⟩ := hI
    subst hτ
    rw [List.getElem?_map] at hy
    cases hp' : d[i]? with
    | none => rw [hp'] at hy; cases hy
    | some p =>
    rw [hp'] at hy
    cases hy
    refine T_name (i := 2) hX rfl rfl ?_  -- number
    -- common = gcd(common, number)
    refine S_cons ?_
    refine S1_setC (i := 1) hX hfn rfl rfl ?_  -- common
    refine E_gcd hX rfl B.gcd rfl ?_
    refine E_name (i := 1) hX rfl (.inr (.inl rfl)) rfl ?_  -- common
    refine ⟨_, .im _ _, ?_⟩
    refine E_name (i := 2) hX rfl (.inl rfl) rfl ?_  -- number
    refine ⟨_, .im _ _, ?_⟩
    -- if common == 1:
    refine S_one ?_
    refine S1_if ?_
    refine C_eqI ?_
    refine E_name (i := 1) hX rfl (.inr (.inl rfl)) rfl ?_  -- common
    refine ⟨_, .im _ _, ?_⟩
    refine E_int ?_
    refine ⟨_, .im _ _, ?_⟩
    have e1 : Nat.gcd ((((d.take i).foldl (fun g p => Nat.gcd g p.2.natAbs) 0 : Nat) : Int)).natAbs p.2.natAbs = (d.take (i + 1)).foldl (fun g p => Nat.gcd g p.2.natAbs) 0 := by
      rw [Int.natAbs_natCast, take_get hp', List.foldl_append]; rfl
    refine ⟨fun hc => ?_, fun hc => ?_⟩
    · have hc' : (d.take (i + 1)).foldl (fun g p => Nat.gcd g p.2.natAbs) 0 = 1 := by
        have := of_decide_eq_true hc
        rw [e1] at this
        omega
      refine S_one ?_
      refine S1_ret ?_
      refine E_name (i := 0) hX rfl (.inl rfl) rfl ?_  -- row
      have e : primD d = d := by unfold primD; rw [if_pos (gcdD_take hc')]
      rw [e] at hk
      exact fin_no hk
    · refine S_nil ?_
      refine ⟨.im rI p.2, ?_⟩
      rw [e1]
      rfl
  obtain ⟨x2, hτ⟩ := hI
  rw [List.length_map, List.take_length] at hτ
  subst hτ
  -- return {at: number // common for at, number in row.items()}
  refine S_one ?_
  refine S1_ret ?_
  refine E_fz ?_
  refine E_dcD (own := [("at", 3), ("number", 2)]) rI hX rfl (j := 0) (B0 := rI) (d := d) rfl (dw_items hX rfl (.inl rfl))
    (fun i out τ => out = (d.take i).map (fun p => (p.1, p.2.fdiv (gcdD d : Int))) ∧ τ = [.im (rD rI) d, .im rI (gcdD d : Int), .no, .no]) ⟨by simp, rfl⟩ (fun i y hy => ?_) (fun out τ hJ p => ?_)
  · rintro out τ ⟨ho, hτ⟩ X1 hX1 hf1
    subst hτ
    rw [List.getElem?_map] at hy
    cases hp' : d[i]? with
    | none => rw [hp'] at hy; cases hy
    | some p =>
    rw [hp'] at hy
    cases hy
    have hi := (List.getElem?_eq_some_iff.mp hp').1
    have hne : d ≠ [] := fun z => by rw [z] at hp'; cases hp'
    refine TB_tup hX1 rfl un_pair ?_
    refine TB_name (i := 3) hX1 rfl rfl (by decide) ?_  -- at
    refine TB_name (i := 2) hX1 rfl rfl (by decide) ?_  -- number
    intro X2 hX2
    refine Cs_nil ?_
    refine ⟨fun _ X3 hX3 => ?_, fun h => by cases h⟩
    refine E_name (i := 3) hX3 rfl (.inl rfl) rfl ?_  -- at
    refine ⟨_, .im _ _, fun X4 hX4 => ?_⟩
    refine E_fdivB ?_
    refine E_name (i := 2) hX4 rfl (.inl rfl) rfl ?_  -- number
    refine ⟨_, .im _ _, ?_⟩
    refine E_name (i := 1) hX4 rfl (.inr (.inl rfl)) rfl ?_  -- common
    refine ⟨_, .im _ _, divB_ok (by have := gcdD_pos hg hne; omega) (by rw [Int.natAbs_natCast]; exact hb.gcd hg), ?_⟩
    refine ⟨_, .im _ _, ?_, ?_, rfl⟩
    · rw [ho, List.length_map, List.length_take]; omega
    · rw [dput_new, ho, take_get hp', List.map_append]
      · rfl
      · rw [ho, keys_map (fun p : Int × Int => p.2.fdiv (gcdD d : Int))]
        exact take_key hg.nd hp'
  · obtain ⟨ho, hτ⟩ := hJ
    rw [List.length_map, List.take_length] at ho
    refine ⟨_, .ow frz_D, ?_⟩
    have e : out = primD d := by
      rw [ho]
      unfold primD
      by_cases h1 : gcdD d = 1
      · rw [if_pos h1, h1]
        have : ∀ p : Int × Int, (p.1, p.2.fdiv ((1 : Nat) : Int)) = p := fun p => by simp [Int.fdiv_one]
        rw [List.map_congr_left (g := id) (fun p _ => this p)]
        simp
      · rw [if_neg h1]
    rw [e]
    exact fin_no hk
/-! ### combined -/
def cComb : Ct := fun ks k => ∃ (row lead : DRow) (a : Int), ks = [.im (rD rI) row, .im (rD rI) lead, .im rI a] ∧ GoodD row ∧ GoodD lead ∧ dv row a ≠ 0 ∧ dv lead a ≠ 0 ∧ BdD 4000 row ∧ BdD 4000 lead ∧ row.length ≤ 1000 ∧ lead.length ≤ 1000 ∧
  k (.im (rD rI) (combD row lead a)) [.no, .no, .no]
theorem combF_len {up down : Int} {row lead : DRow} : (combF up down row lead).length ≤ row.length + lead.length := by
  unfold combF
  have key : ∀ (l f : DRow), (l.foldl (combStep down) f).length ≤ f.length + l.length := by
    intro l
    induction l with
    | nil => intro f; exact Nat.le_refl _
    | cons p l ih =>
      intro f
      rw [List.foldl_cons]
      refine Nat.le_trans (ih _) ?_
      have : (combStep down f p).length ≤ f.length + 1 := by
        unfold combStep
        split
        · unfold dput
          split
          · simp
          · simp
        · unfold ddrop
          exact Nat.le_succ_of_le (List.length_filter_le _ _)
      rw [List.length_cons]
      omega
  have := key lead (row.map fun p => (p.1, up * p.2))
  rw [List.length_map] at this
  exact this
theorem sc12 : FnScope ["row", "lead_row", "at", "common", "up", "down", "found", "place", "number", "value"] ["row", "lead_row", "at"] (defScope (top 13)) := ⟨rfl, rfl, rfl, by decide +kernel, rfl, by decide +kernel, by decide +kernel⟩
theorem f12 {G : Gm} {f : Addr} {fd : FuncData} (F : Fun G.K "combined" "combined" (top 13) f fd) (hf : G.mg "combined" = some (.ref f)) (b : Binds G.K fd ["row", "lead_row", "at"] [])
    (B : Bi G) (h1 : Fn G "primitive" 1 cPrim) : Fn G "combined" 2 cComb := by
  refine Fn.of F hf b sc12 (fun ks k ⟨row, lead, a, h, _⟩ => by rw [h]; rfl) fun X hX hfn hp ks k ⟨row, lead, a, hks, gr, gl, hr, hl, br, bl, zr, zl, hk⟩ => ?_
  subst hks
  have hg0 : 0 < Nat.gcd (dv row a).natAbs (dv lead a).natAbs := Nat.gcd_pos_of_pos_left _ (by omega)
  have hgz : Nat.gcd (dv row a).natAbs (dv lead a).natAbs < 2 ^ 4000 := Nat.lt_of_le_of_lt (Nat.gcd_le_left _ (by omega)) (br.dv a)
  have small : ∀ x : Int, ((Nat.gcd (dv row a).natAbs (dv lead a).natAbs : Nat) : Int) ∣ x → x.natAbs < 2 ^ 4000 → x ≠ 0 → (x.fdiv ((Nat.gcd (dv row a).natAbs (dv lead a).natAbs : Nat) : Int)).natAbs < 2 ^ 4000 ∧ x.fdiv ((Nat.gcd (dv row a).natAbs (dv lead a).natAbs : Nat) : Int) ≠ 0 := fun x hx hxz hx0 => by
    generalize Nat.gcd (dv row a).natAbs (dv lead a).natAbs = g at *
    obtain ⟨c, hc⟩ := hx
    rw [hc, Int.mul_fdiv_cancel_left _ (by omega)]
    rw [hc, Int.natAbs_mul, Int.natAbs_natCast] at hxz
    refine ⟨Nat.lt_of_le_of_lt (Nat.le_mul_of_pos_left _ hg0) hxz, fun z => hx0 (by rw [hc, z, Int.mul_zero])⟩
  obtain ⟨du, du0⟩ := small (dv lead a) (Int.ofNat_dvd_left.mpr (Nat.gcd_dvd_right _ _)) (bl.dv a) hl
  obtain ⟨dd, dd0⟩ := small (dv row a) (Int.ofNat_dvd_left.mpr (Nat.gcd_dvd_left _ _)) (br.dv a) hr
  -- common = gcd(row[at], lead_row[at])
  refine S_cons ?_
  refine S1_set (i := 3) hX rfl rfl ?_  -- common
  refine E_gcd hX rfl B.gcd rfl ?_
  refine E_dget (B := rI) hX (fun _ _ => rfl) ?_
  refine P_name (i := 0) hX rfl (.inl rfl) rfl (by intro z; cases z) ?_  -- row
  refine E_name (i := 2) hX rfl (.inl rfl) rfl ?_  -- at
  refine ⟨_, .im _ _, _, _, _, rfl, dof_im, gr.some hr, ?_⟩
  refine ⟨_, .im _ _, ?_⟩
  refine E_dget (B := rI) hX (fun _ _ => rfl) ?_
  refine P_name (i := 1) hX rfl (.inl rfl) rfl (by intro z; cases z) ?_  -- lead_row
  refine E_name (i := 2) hX rfl (.inl rfl) rfl ?_  -- at
  refine ⟨_, .im _ _, _, _, _, rfl, dof_im, gl.some hl, ?_⟩
  refine ⟨_, .im _ _, ?_⟩
  -- up = lead_row[at] // common
  refine S_cons ?_
  refine S1_setC (i := 4) hX hfn rfl rfl ?_  -- up
  refine E_fdivB ?_
  refine E_dget (B := rI) hX (fun _ _ => rfl) ?_
  refine P_name (i := 1) hX rfl (.inl rfl) rfl (by intro z; cases z) ?_  -- lead_row
  refine E_name (i := 2) hX rfl (.inl rfl) rfl ?_  -- at
  refine ⟨_, .im _ _, _, _, _, rfl, dof_im, gl.some hl, ?_⟩
  refine ⟨_, .im _ _, ?_⟩
  refine E_name (i := 3) hX rfl (.inl rfl) rfl ?_  -- common
  refine ⟨_, .im _ _, divB_ok (by omega) (by rw [Int.natAbs_natCast]; exact Nat.lt_of_lt_of_le hgz (Nat.pow_le_pow_right (by omega) (by omega))), ?_⟩
  -- down = row[at] // common
  refine S_cons ?_
  refine S1_set (i := 5) hX rfl rfl ?_  -- down
  refine E_fdivB ?_
  refine E_dget (B := rI) hX (fun _ _ => rfl) ?_
  refine P_name (i := 0) hX rfl (.inl rfl) rfl (by intro z; cases z) ?_  -- row
  refine E_name (i := 2) hX rfl (.inl rfl) rfl ?_  -- at
  refine ⟨_, .im _ _, _, _, _, rfl, dof_im, gr.some hr, ?_⟩
  refine ⟨_, .im _ _, ?_⟩
  refine E_name (i := 3) hX rfl (.inl rfl) rfl ?_  -- common
  refine ⟨_, .im _ _, divB_ok (by omega) (by rw [Int.natAbs_natCast]; exact Nat.lt_of_lt_of_le hgz (Nat.pow_le_pow_right (by omega) (by omega))), ?_⟩
  have ec : combD row lead a = primD (combF ((dv lead a).fdiv ((Nat.gcd (dv row a).natAbs (dv lead a).natAbs : Nat) : Int)) ((dv row a).fdiv ((Nat.gcd (dv row a).natAbs (dv lead a).natAbs : Nat) : Int)) row lead) := rfl
  rw [ec] at hk
  generalize hup : (dv lead a).fdiv ((Nat.gcd (dv row a).natAbs (dv lead a).natAbs : Nat) : Int) = up at *
  generalize hdn : (dv row a).fdiv ((Nat.gcd (dv row a).natAbs (dv lead a).natAbs : Nat) : Int) = down at *
  generalize hcm : ((Nat.gcd (dv row a).natAbs (dv lead a).natAbs : Nat) : Int) = cm at *
  -- found = {place: up * number for place, number in row.items()}
  refine S_cons ?_
  refine S1_setDcD (own := [("place", 7), ("number", 8)]) rI (i := 6) (j := 0) (B0 := rI) (d := row) hX rfl rfl rfl rfl rfl rfl rfl (dw_items hX rfl (.inl rfl))
    (fun i out τ => out = (row.take i).map (fun p => (p.1, up * p.2)) ∧ τ = [.im (rD rI) row, .im (rD rI) lead, .im rI a, .im rI cm, .im rI up, .im rI down, .no, .no, .no, .no]) ⟨by simp, rfl⟩ (fun i y hy => ?_) (fun out τ hJ p => ?_)
  · rintro out τ ⟨ho, hτ⟩ X1 hX1 hf1
    subst hτ
    rw [List.getElem?_map] at hy
    cases hp' : row[i]? with
    | none => rw [hp'] at hy; cases hy
    | some p =>
    rw [hp'] at hy
    cases hy
    have hi := (List.getElem?_eq_some_iff.mp hp').1
    refine TB_tup hX1 rfl un_pair ?_
    refine TB_name (i := 7) hX1 rfl rfl (by decide) ?_  -- place
    refine TB_name (i := 8) hX1 rfl rfl (by decide) ?_  -- number
    intro X2 hX2
    refine Cs_nil ?_
    refine ⟨fun _ X3 hX3 => ?_, fun h => by cases h⟩
    refine E_name (i := 7) hX3 rfl (.inl rfl) rfl ?_  -- place
    refine ⟨_, .im _ _, fun X4 hX4 => ?_⟩
    refine E_mul ?_
    refine E_name (i := 4) hX4 rfl (.inr (.inl rfl)) rfl ?_  -- up
    refine ⟨_, .im _ _, ?_⟩
    refine E_name (i := 8) hX4 rfl (.inl rfl) rfl ?_  -- number
    refine ⟨_, .im _ _, mulx_ok du (br p (List.mem_of_getElem? hp')) (by omega), ?_⟩
    refine ⟨_, .im _ _, ?_, ?_, rfl⟩
    · rw [ho, List.length_map, List.length_take]; omega
    · rw [dput_new, ho, take_get hp', List.map_append]
      · rfl
      · rw [ho, keys_map (fun p : Int × Int => up * p.2)]
        exact take_key gr.nd hp'
  obtain ⟨ho, hτ⟩ := hJ
  rw [List.length_map, List.take_length] at ho
  subst ho
  subst hτ
  -- for place, number in lead_row.items():
  refine S_cons ?_
  refine S1_forD (j := 1) (B := rI) (d := lead) hX hp rfl (dw_items hX rfl (.inl rfl)) (fun i τ => ∃ x7 x8 x9, τ = [.im (rD rI) row, .im (rD rI) lead, .im rI a, .im rI cm, .im rI up, .im rI down, .ow p (cD rI) ((lead.take i).foldl (combStep down) (row.map fun p => (p.1, up * p.2))), x7, x8, x9])
    ⟨_, _, _, rfl⟩ (fun i y τ hy hI => ?_) (fun τ hI => ?_)
  · obtain ⟨x7, x8, x9, hτ⟩ := hI
    subst hτ
    rw [List.getElem?_map] at hy
    cases hp' : lead[i]? with
    | none => rw [hp'] at hy; cases hy
    | some q =>
    rw [hp'] at hy
    cases hy
    obtain ⟨gf, hf'⟩ := combF_good gr gl du0 dd0 i
    have hstep : (lead.take (i + 1)).foldl (combStep down) (row.map fun p => (p.1, up * p.2)) = combStep down ((lead.take i).foldl (combStep down) (row.map fun p => (p.1, up * p.2))) q := by
      rw [take_get hp', List.foldl_append]; rfl
    have hlen : ((lead.take i).foldl (combStep down) (row.map fun p => (p.1, up * p.2))).length ≤ 2000 := by
      have := combF_len (up := up) (down := down) (row := row) (lead := lead.take i)
      unfold combF at this
      rw [List.length_take] at this
      omega
    have h0 : dv (lead.take i) q.1 = 0 := by unfold dv; rw [dget_none.mpr (take_key gl.nd hp')]; rfl
    have hfq := hf' q.1
    rw [h0] at hfq
    have hq0 := gl.nz q (List.mem_of_getElem? hp')
    have hqz := bl q (List.mem_of_getElem? hp')
    generalize (lead.take i).foldl (combStep down) (row.map fun p => (p.1, up * p.2)) = f at *
    refine T_tup hX rfl un_pair ?_
    refine T_name (i := 7) hX rfl rfl ?_  -- place
    refine T_name (i := 8) hX rfl rfl ?_  -- number
    -- value = found.get(place, 0) - down * number
    refine S_cons ?_
    refine S1_set (i := 9) hX rfl rfl ?_  -- value
    refine E_sub ?_
    refine E_dget2 (B := rI) hX ⟨rfl, rfl, rfl, rfl⟩ ?_
    refine P_name (i := 6) hX rfl (.inl rfl) rfl (by intro z; cases z) ?_  -- found
    refine ⟨⟨_, _, rfl, dof_ow⟩, ?_⟩
    refine E_name (i := 7) hX rfl (.inl rfl) rfl ?_  -- place
    refine ⟨_, .im _ _, ?_⟩
    refine E_int ?_
    refine ⟨_, .im _ _, _, f, rfl, dof_ow, ?_⟩
    refine ⟨_, .im _ _, ?_⟩
    refine E_mul ?_
    refine E_name (i := 5) hX rfl (.inl rfl) rfl ?_  -- down
    refine ⟨_, .im _ _, ?_⟩
    refine E_name (i := 8) hX rfl (.inl rfl) rfl ?_  -- number
    refine ⟨_, .im _ _, mulx_ok dd hqz (by omega), ?_⟩
    refine ⟨_, .im _ _, ?_⟩
    -- if value != 0:
    refine S_one ?_
    refine S1_if ?_
    refine C_neI ?_
    refine E_name (i := 9) hX rfl (.inl rfl) rfl ?_  -- value
    refine ⟨_, .im _ _, ?_⟩
    refine E_int ?_
    refine ⟨_, .im _ _, ?_⟩
    refine ⟨fun hc => ?_, fun hc => ?_⟩
    · have hc' : dv f q.1 - down * q.2 ≠ 0 := by simpa [dv] using hc
      refine S_one ?_
      refine S1_dput (j := 6) (B := rI) (q := p) hX rfl (.inl rfl) ?_
      refine E_name (i := 9) hX rfl (.inl rfl) rfl ?_  -- value
      refine ⟨_, .im _ _, _, rfl, ?_⟩
      refine E_name (i := 7) hX rfl (.inl rfl) rfl ?_  -- place
      refine ⟨_, .im _ _, _, rfl, by omega, ?_⟩
      refine ⟨.im rI q.1, .im rI q.2, .im rI (dv f q.1 - down * q.2), ?_⟩
      rw [hstep]
      unfold combStep
      rw [if_pos hc']
      rfl
    · have hc' : ¬ dv f q.1 - down * q.2 ≠ 0 := by simpa [dv] using hc
      have hne : dv f q.1 ≠ 0 := by
        have : down * q.2 ≠ 0 := Int.mul_ne_zero dd0 hq0
        omega
      refine S_one ?_
      refine S1_expr ?_
      refine E_dpop (j := 6) (B := rI) (q := p) hX rfl (.inl rfl) rfl ⟨rfl, rfl, rfl, rfl⟩ ?_
      refine E_name (i := 7) hX rfl (.inl rfl) rfl ?_  -- place
      refine ⟨_, .im _ _, _, _, rfl, gf.some hne, ?_⟩
      refine ⟨.im rI q.1, .im rI q.2, .im rI (dv f q.1 - down * q.2), ?_⟩
      rw [hstep]
      unfold combStep
      rw [if_neg hc']
      rfl
  obtain ⟨x7, x8, x9, hτ⟩ := hI
  rw [List.length_map, List.take_length] at hτ
  subst hτ
  obtain ⟨gf, hf'⟩ := combF_all gr gl du0 dd0
  -- return primitive(found)
  refine S_one ?_
  refine S1_ret ?_
  refine E_call hX h1 (by omega) rfl rfl ?_
  refine A_cons rfl ?_
  refine P_val ?_
  refine E_frz (i := 6) hX rfl (.inl rfl) rfl frz_D ?_
  refine ⟨_, _, _, .im _ _, ?_⟩
  refine A_nil ?_
  refine ⟨[_], ⟨rfl, trivial⟩, trivial, combF up down row lead, rfl, gf, fun r hr' => ?_, ?_, fin_no hk⟩
  · have e := dv_mem gf.nd hr'
    rw [← e, hf']
    have a1 : (up * dv row r.1).natAbs < 2 ^ 8000 := by
      rw [Int.natAbs_mul]
      have := Nat.mul_lt_mul'' du (br.dv r.1)
      rw [← Nat.pow_add] at this
      exact this
    have a2 : (down * dv lead r.1).natAbs < 2 ^ 8000 := by
      rw [Int.natAbs_mul]
      have := Nat.mul_lt_mul'' dd (bl.dv r.1)
      rw [← Nat.pow_add] at this
      exact this
    have a3 : (2 : Nat) ^ 8000 + 2 ^ 8000 ≤ 2 ^ 9000 := by
      rw [← Nat.two_mul, ← Nat.pow_succ']
      exact Nat.pow_le_pow_right (by omega) (by omega)
    generalize (2 : Nat) ^ 8000 = z at *
    generalize (2 : Nat) ^ 9000 = z' at *
    omega
  · have := combF_len (up := up) (down := down) (row := row) (lead := lead)
    omega
end T
end
section
set_option Elab.async false
set_option linter.all false
set_option autoImplicit false
set_option maxRecDepth 100000
/-! Plain law: rows over the rationals, spans, reduced rows. -/
namespace T
abbrev Vec := Int → Rat
def vec (d : DRow) : Vec := fun j => (dv d j : Rat)
inductive Span (P : Vec → Prop) : Vec → Prop
  | zero : Span P (fun _ => 0)
  | add {x y : Vec} (c : Rat) (hx : P x) (hy : Span P y) : Span P (fun j => c * x j + y j)
theorem Span.cast {P : Vec → Prop} {x y : Vec} (h : Span P x) (e : ∀ j, x j = y j) : Span P y := by
  have : x = y := funext e
  rw [← this]; exact h
theorem Span.plus {P : Vec → Prop} {x y : Vec} (hx : Span P x) (hy : Span P y) : Span P (fun j => x j + y j) := by
  induction hx with
  | zero => exact hy.cast fun j => by grind
  | @add u v c hu _ ih => exact (Span.add c hu ih).cast fun j => by grind
theorem Span.smul {P : Vec → Prop} {x : Vec} (hx : Span P x) (c : Rat) : Span P (fun j => c * x j) := by
  induction hx with
  | zero => exact Span.zero.cast fun j => by grind
  | @add u v d hu _ ih => exact (Span.add (c * d) hu ih).cast fun j => by grind
theorem Span.of {P : Vec → Prop} {x : Vec} (hx : P x) : Span P x := (Span.add 1 hx .zero).cast fun j => by grind
theorem Span.mono {P Q : Vec → Prop} (h : ∀ x, P x → Span Q x) {x : Vec} (hx : Span P x) : Span Q x := by
  induction hx with
  | zero => exact .zero
  | @add u v c hu _ ih => exact ((h u hu).smul c).plus ih
theorem Span.split {P : Vec → Prop} {r x : Vec} (hx : Span (fun v => P v ∨ v = r) x) : ∃ c : Rat, Span P (fun j => x j - c * r j) := by
  induction hx with
  | zero => exact ⟨0, Span.zero.cast fun j => by grind⟩
  | @add u v c hu _ ih =>
    obtain ⟨d, hd⟩ := ih
    rcases hu with hu | hu
    · exact ⟨d, (Span.add c hu hd).cast fun j => by grind⟩
    · subst hu
      exact ⟨d + c, hd.cast fun j => by grind⟩
def Sp (l : List DRow) : Vec → Prop := Span fun v => ∃ d ∈ l, v = vec d
theorem Sp.snoc {l : List DRow} {r : DRow} {x : Vec} : Sp (l ++ [r]) x ↔ Span (fun v => (∃ d ∈ l, v = vec d) ∨ v = vec r) x := by
  constructor
  · intro h
    refine Span.mono (fun v ⟨d, hd, e⟩ => ?_) h
    rcases List.mem_append.mp hd with z | z
    · exact .of (.inl ⟨d, z, e⟩)
    · have : d = r := by simpa using z
      subst this
      exact .of (.inr e)
  · intro h
    refine Span.mono (fun v hv => ?_) h
    rcases hv with ⟨d, hd, e⟩ | e
    · exact .of ⟨d, List.mem_append_left _ hd, e⟩
    · exact .of ⟨r, by simp, e⟩
theorem Sp.left {l : List DRow} {r : DRow} {x : Vec} (h : Sp l x) : Sp (l ++ [r]) x := Sp.snoc.mpr (Span.mono (fun v hv => .of (.inl hv)) h)
theorem Sp.last {l : List DRow} {r : DRow} : Sp (l ++ [r]) (vec r) := Sp.snoc.mpr (.of (.inr rfl))
theorem Sp.out {l : List DRow} {r : DRow} {x : Vec} (h : Sp (l ++ [r]) x) : ∃ c : Rat, Sp l (fun j => x j - c * vec r j) := (Sp.snoc.mp h).split

/-! ### sizes -/
theorem gcd_mul_dvd {d : DRow} {c s : Nat} : ∀ g : Nat, c ∣ s * g → (∀ p ∈ d, c ∣ s * p.2.natAbs) → c ∣ s * d.foldl (fun g p => Nat.gcd g p.2.natAbs) g := by
  induction d with
  | nil => intro g h _; exact h
  | cons x d ih =>
    intro g hg hd
    rw [List.foldl_cons]
    refine ih _ ?_ fun p hp => hd p (List.mem_cons_of_mem _ hp)
    rw [← Nat.gcd_mul_left]
    exact Nat.dvd_gcd hg (hd x List.mem_cons_self)
/-- a row without a common divisor is the smallest of its multiples -/
theorem prim_le {d : DRow} (g : GoodD d) (hp : gcdD d ≤ 1) (hne : d ≠ []) {s t : Int} (hs : s ≠ 0) {z : Int → Int} (h : ∀ j, s * dv d j = t * z j) (j : Int) : (dv d j).natAbs ≤ (z j).natAbs := by
  have h1 : gcdD d = 1 := by have := gcdD_pos g hne; omega
  have hd : ∀ p ∈ d, t.natAbs ∣ s.natAbs * p.2.natAbs := fun p hp => by
    have e := h p.1
    rw [dv_mem g.nd hp] at e
    rw [← Int.natAbs_mul, e, Int.natAbs_mul]
    exact Nat.dvd_mul_right _ _
  have h2 : t.natAbs ∣ s.natAbs * gcdD d := gcd_mul_dvd 0 (by simp) hd
  rw [h1, Nat.mul_one] at h2
  obtain ⟨c, hc⟩ := h2
  have hc0 : c ≠ 0 := fun z => by rw [z, Nat.mul_zero] at hc; omega
  have ht0 : t.natAbs ≠ 0 := fun z => by rw [z, Nat.zero_mul] at hc; omega
  have e : s.natAbs * (dv d j).natAbs = t.natAbs * (z j).natAbs := by rw [← Int.natAbs_mul, ← Int.natAbs_mul, h j]
  rw [hc, Nat.mul_assoc] at e
  have e2 := Nat.eq_of_mul_eq_mul_left (by omega) e
  rw [← e2]
  exact Nat.le_mul_of_pos_left _ (by omega)
theorem minK_mem : ∀ {l : List Int}, l ≠ [] → minK l ∈ l ∧ ∀ a ∈ l, minK l ≤ a
  | [], h => absurd rfl h
  | [a], _ => by simp [minK]
  | a :: b :: r, _ => by
    obtain ⟨h1, h2⟩ := minK_mem (l := b :: r) (by simp)
    have e : minK (a :: b :: r) = min a (minK (b :: r)) := rfl
    rw [e]
    refine ⟨?_, fun x hx => ?_⟩
    · rcases Int.le_total a (minK (b :: r)) with q | q
      · rw [Int.min_eq_left q]; exact List.mem_cons_self
      · rw [Int.min_eq_right q]; exact List.mem_cons_of_mem _ h1
    · rcases List.mem_cons.mp hx with z | z
      · subst z; exact Int.min_le_left _ _
      · exact Int.le_trans (Int.min_le_right _ _) (h2 x z)
/-! ### the leads -/
/-- keys within the width -/
def KeysIn (w : Nat) (d : DRow) : Prop := ∀ p ∈ d, 0 ≤ p.1 ∧ p.1 < (w : Int)
theorem KeysIn.dv {w : Nat} {d : DRow} (h : KeysIn w d) {j : Int} (hj : dv d j ≠ 0) : 0 ≤ j ∧ j < (w : Int) := by
  unfold T.dv at hj
  cases e : dget d j with
  | none => rw [e] at hj; exact absurd rfl hj
  | some b => exact h _ (dget_mem e)
structure LI (w M : Nat) (l : List DRow) (ls : Leads) : Prop where
  nd : (ls.map (·.1)).Nodup
  good : ∀ p ∈ ls, GoodD p.2
  keys : ∀ p ∈ ls, KeysIn w p.2
  at' : ∀ p ∈ ls, dv p.2 p.1 ≠ 0
  prim : ∀ p ∈ ls, gcdD p.2 ≤ 1
  red : ∀ p ∈ ls, ∀ q ∈ ls, p.1 ≠ q.1 → dv p.2 q.1 = 0
  low : ∀ p ∈ ls, ∀ j, j < p.1 → dv p.2 j = 0
  sub : ∀ p ∈ ls, Sp l (vec p.2)
  gen : ∀ x, Sp l x → (∀ p ∈ ls, x p.1 = 0) → ∀ j, x j = 0
  bnd : ∃ D : Int, D ≠ 0 ∧ D.natAbs ≤ M ∧ ∀ p ∈ ls, ∃ z : Int → Int, (∀ j, (z j).natAbs ≤ M) ∧ ∀ j, z j * dv p.2 p.1 = D * dv p.2 j
theorem LI.ne {w M : Nat} {l : List DRow} {ls : Leads} (h : LI w M l ls) {p : Int × DRow} (hp : p ∈ ls) : p.2 ≠ [] := fun z => by
  have := h.at' p hp
  rw [z] at this
  exact this rfl
theorem LI.size {w M : Nat} {l : List DRow} {ls : Leads} (h : LI w M l ls) {p : Int × DRow} (hp : p ∈ ls) (j : Int) : (dv p.2 j).natAbs ≤ M := by
  obtain ⟨D, hD, hDM, hz⟩ := h.bnd
  obtain ⟨z, hzM, hz⟩ := hz p hp
  exact Nat.le_trans (prim_le (h.good p hp) (h.prim p hp) (h.ne hp) hD (t := dv p.2 p.1) (z := z) (fun j => by rw [← hz j]; exact Int.mul_comm _ _) j) (hzM j)
theorem Sp.nil {x : Vec} (h : Sp [] x) (j : Int) : x j = 0 := by
  induction h with
  | zero => rfl
  | @add u v c hu _ _ => obtain ⟨d, hd, _⟩ := hu; cases hd
theorem LI.nil {w : Nat} : LI w 1 [] [] where
  nd := by simp
  good := by simp
  keys := by simp
  at' := by simp
  prim := by simp
  red := by simp
  low := by simp
  sub := by simp
  gen := fun x hx _ j => Sp.nil hx j
  bnd := ⟨1, by decide, by decide, by simp⟩
theorem LI.len {w M : Nat} {l : List DRow} {ls : Leads} (h : LI w M l ls) : ls.length ≤ w := by
  have h1 : ∀ a ∈ ls.map (·.1), 0 ≤ a ∧ a < (w : Int) := fun a ha => by
    obtain ⟨p, hp, e⟩ := List.mem_map.mp ha
    have := (h.keys p hp).dv (h.at' p hp)
    rw [← e]; exact this
  have key : ∀ (w : Nat) (ks : List Int), ks.Nodup → (∀ a ∈ ks, 0 ≤ a ∧ a < (w : Int)) → ks.length ≤ w := by
    intro w
    induction w with
    | zero =>
      intro ks _ hk
      cases ks with
      | nil => exact Nat.le_refl _
      | cons a r => have := hk a List.mem_cons_self; omega
    | succ w ih =>
      intro ks nd hk
      have h2 := ih (ks.erase (w : Int)) (nd.erase _) fun a ha => by
        have hm := List.mem_of_mem_erase ha
        have hne : a ≠ (w : Int) := fun z => by
          subst z
          exact (nd.not_mem_erase) ha
        have := hk a hm
        omega
      have h3 : ks.length ≤ (ks.erase (w : Int)).length + 1 := by
        rw [List.length_erase]
        split <;> omega
      omega
  have := key w _ h.nd h1
  rwa [List.length_map] at this
theorem LI.get {w M : Nat} {l : List DRow} {ls : Leads} (h : LI w M l ls) {p : Int × DRow} (hp : p ∈ ls) : dget ls p.1 = some p.2 := dget_some_of_mem h.nd hp
/-- what is left of a row behind the leads whose places ks are -/
structure LeftI (Pr : Prop) (w : Nat) (l : List DRow) (ls : Leads) (r : DRow) (D : Int) (ks : List Int) (K : Nat) (left : DRow) : Prop where
  good : GoodD left
  keys : KeysIn w left
  prim : gcdD left ≤ 1 ∨ (Pr ∧ left = r)
  z : ∃ (s t : Int) (z : Int → Int), s ≠ 0 ∧ t ≠ 0 ∧ (∀ j, s * dv left j = t * z j) ∧ (∀ j, (z j).natAbs ≤ K) ∧ (∀ p ∈ ls, z p.1 = if p.1 ∈ ks then 0 else D * dv r p.1) ∧ Sp l (fun j => (D : Rat) * vec r j - (z j : Rat))
theorem LeftI.size {Pr : Prop} {w K : Nat} {l : List DRow} {ls : Leads} {r left : DRow} {D : Int} {ks : List Int} (h : LeftI Pr w l ls r D ks K left) (hr : Pr → ∀ j, (dv r j).natAbs ≤ K) (j : Int) : (dv left j).natAbs ≤ K := by
  obtain ⟨s, t, z, hs, ht, hz, hK, _⟩ := h.z
  rcases h.prim with hp | ⟨p, e⟩
  · by_cases e : left = []
    · rw [e]; exact Nat.zero_le _
    · exact Nat.le_trans (prim_le h.good hp e hs hz j) (hK j)
  · rw [e]; exact hr p j
theorem primD_prim {d : DRow} (g : GoodD d) : gcdD (primD d) ≤ 1 := by
  have hx : ∀ p ∈ d, ((gcdD d * gcdD (primD d) : Nat) : Int) ∣ p.2 := fun p hp => by
    have e1 := dv_mem g.nd hp
    have e2 := primD_dv (d := d) p.1
    obtain ⟨c, hc⟩ := gcdD_dv (d := primD d) p.1
    rw [← e1, ← e2, hc, Int.natCast_mul]
    exact ⟨c, by rw [Int.mul_assoc]⟩
  have h1 := gcdD_max hx
  rcases Nat.eq_zero_or_pos (gcdD d) with z | z
  · have hc : d = [] := by
      rcases Decidable.em (d = []) with q | q
      · exact q
      · exact absurd (gcdD_pos g q) (by omega)
    rw [hc]; decide
  · have h2 := Nat.le_of_dvd z h1
    rcases Nat.lt_or_ge 1 (gcdD (primD d)) with q | q
    · have := Nat.mul_lt_mul_of_pos_left q z
      omega
    · exact q
theorem KeysIn.prim {w : Nat} {d : DRow} (h : KeysIn w d) : KeysIn w (primD d) := fun p hp => by
  have hk : p.1 ∈ d.map (·.1) := by rw [← primD_keys (d := d)]; exact List.mem_map.mpr ⟨p, hp, rfl⟩
  obtain ⟨q, hq, e⟩ := List.mem_map.mp hk
  rw [← e]; exact h q hq
theorem leftI_nil {w M B : Nat} {l : List DRow} {ls : Leads} {r : DRow} {D : Int} (gr : GoodD r) (kr : KeysIn w r) (hB : ∀ j, (dv r j).natAbs ≤ B) (hD0 : D ≠ 0) (hD : D.natAbs ≤ M) : LeftI False w l ls r D [] (B * M) (primD r) := by
  refine ⟨gr.prim, kr.prim, .inl (primD_prim gr), ?_⟩
  by_cases e : r = []
  · refine ⟨1, 1, fun _ => 0, by decide, by decide, fun j => ?_, fun j => by simp, fun p hp => ?_, Span.zero.cast fun j => ?_⟩
    · rw [e]; rfl
    · rw [e]; simp [dv, dget_nil]
    · rw [e]; simp [vec, dv, dget_nil]; grind
  · have hg := gcdD_pos gr e
    refine ⟨D * (gcdD r : Int), 1, fun j => D * dv r j, Int.mul_ne_zero hD0 (by omega), by decide, fun j => ?_, fun j => ?_, fun p hp => by simp, Span.zero.cast fun j => ?_⟩
    · rw [Int.mul_assoc, primD_dv, Int.one_mul]
    · rw [Int.natAbs_mul, Nat.mul_comm]
      exact Nat.mul_le_mul (hB j) hD
    · unfold vec
      rw [Rat.intCast_mul]
      grind
theorem keys_of_dv {w : Nat} {d : DRow} (g : GoodD d) (h : ∀ j, dv d j ≠ 0 → 0 ≤ j ∧ j < (w : Int)) : KeysIn w d := fun p hp => h p.1 (by rw [dv_mem g.nd hp]; exact g.nz p hp)
theorem comb_keys {w : Nat} {row lead : DRow} {a : Int} (gr : GoodD row) (gl : GoodD lead) (hr : dv row a ≠ 0) (hl : dv lead a ≠ 0) (kr : KeysIn w row) (kl : KeysIn w lead) : KeysIn w (combD row lead a) := by
  obtain ⟨g1, g, u, d, hu, hd, he, hj, hne, _⟩ := combD_all gr gl hr hl
  refine keys_of_dv g1 fun j hz => ?_
  have hn : combD row lead a ≠ [] := fun z => by rw [z] at hz; exact hz rfl
  have h0 : g * dv (combD row lead a) j ≠ 0 := Int.mul_ne_zero (hne hn) hz
  rw [hj] at h0
  by_cases h1 : dv row j = 0
  · by_cases h2 : dv lead j = 0
    · rw [h1, h2] at h0; simp at h0
    · exact kl.dv h2
  · exact kr.dv h1
/-- one more place of the row -/
theorem leftI_step {Pr : Prop} {w M K : Nat} {l : List DRow} {ls : Leads} {r left : DRow} {D : Int} {ks : List Int} {a : Int} (h : LI w M l ls) (gr : GoodD r) {B : Nat} (hB : ∀ j, (dv r j).natAbs ≤ B) (hD0 : D ≠ 0)
    (hDz : ∀ p ∈ ls, ∃ z : Int → Int, (∀ j, (z j).natAbs ≤ M) ∧ ∀ j, z j * dv p.2 p.1 = D * dv p.2 j) (ha : a ∉ ks) (hr : dv r a ≠ 0) (I : LeftI Pr w l ls r D ks K left) :
    LeftI Pr w l ls r D (ks ++ [a]) (K + B * M) (match dget ls a with
      | some q => combD left q a
      | none => left) := by
  obtain ⟨s, t, z, hs, ht, hz, hK, hb, hsp⟩ := I.z
  cases e : dget ls a with
  | none =>
    refine ⟨I.good, I.keys, I.prim, s, t, z, hs, ht, hz, fun j => Nat.le_trans (hK j) (Nat.le_add_right _ _), fun p hp => ?_, hsp⟩
    have hne : p.1 ≠ a := fun q => dget_none.mp e (by rw [← q]; exact List.mem_map.mpr ⟨p, hp, rfl⟩)
    rw [hb p hp]
    by_cases hk : p.1 ∈ ks
    · rw [if_pos hk, if_pos (List.mem_append_left _ hk)]
    · rw [if_neg hk, if_neg (by simp [hk, hne])]
  | some q =>
    have hm : (a, q) ∈ ls := dget_mem e
    have hza : z a = D * dv r a := by
      have := hb (a, q) hm
      rw [if_neg ha] at this
      exact this
    have hza0 : z a ≠ 0 := by rw [hza]; exact Int.mul_ne_zero hD0 hr
    have hla : dv left a ≠ 0 := fun y => by
      have := hz a
      rw [y, Int.mul_zero] at this
      exact absurd this.symm (Int.mul_ne_zero ht hza0)
    have hqa : dv q a ≠ 0 := h.at' (a, q) hm
    have gq := h.good (a, q) hm
    obtain ⟨g1, g, u, d, hu, hd, he, hj, hne, _, _, hpr, hemp⟩ := combD_all I.good gq hla hqa
    obtain ⟨Z, hZM, hZ⟩ := hDz (a, q) hm
    show LeftI Pr w l ls r D (ks ++ [a]) (K + B * M) (combD left q a)
    -- the new integer row: z less r[a] times the lead's
    have hznew : ∀ j, (u * t) * (z j - dv r a * Z j) = s * (u * dv left j - d * dv q j) := fun j => by
      have e1 : Z j * dv q a = D * dv q j := hZ j
      have e2 := hz j
      have e3 := hz a
      rw [hza] at e3
      -- u s left a = s d q a ; s left a = t D r a
      have e4 : u * (t * (D * dv r a)) = s * (d * dv q a) := by rw [← e3]; grind
      -- times q a
      apply Int.eq_of_mul_eq_mul_left hqa
      have e5 : dv q a * (u * t * (z j - dv r a * Z j)) = dv q a * (u * (t * z j)) - u * t * dv r a * (Z j * dv q a) := by grind
      rw [e5, e1, ← e2]
      have e6 : u * t * dv r a * (D * dv q j) = (u * (t * (D * dv r a))) * dv q j := by grind
      rw [e6, e4]
      grind
    refine ⟨g1, comb_keys I.good gq hla hqa I.keys (h.keys (a, q) hm), .inl hpr, ?_⟩
    have hK' : ∀ j, (z j - dv r a * Z j).natAbs ≤ K + B * M := fun j => by
      have h1 := hK j
      have h2 : (dv r a * Z j).natAbs ≤ B * M := by rw [Int.natAbs_mul]; exact Nat.mul_le_mul (hB a) (hZM j)
      omega
    have hbnew : ∀ p ∈ ls, z p.1 - dv r a * Z p.1 = if p.1 ∈ ks ++ [a] then 0 else D * dv r p.1 := fun p hp => by
      by_cases hpa : p.1 = a
      · have : Z a = D := by
          have := hZ a
          exact Int.eq_of_mul_eq_mul_right hqa this
        rw [hpa, if_pos (by simp), hza, this, Int.mul_comm D]
        omega
      · have h0 : dv q p.1 = 0 := h.red (a, q) hm p hp (Ne.symm hpa)
        have hZ0 : Z p.1 = 0 := by
          have := hZ p.1
          rw [h0, Int.mul_zero] at this
          rcases Int.mul_eq_zero.mp this with y | y
          · exact y
          · exact absurd y hqa
        rw [hZ0, Int.mul_zero, Int.sub_zero, hb p hp]
        by_cases hk : p.1 ∈ ks
        · rw [if_pos hk, if_pos (List.mem_append_left _ hk)]
        · rw [if_neg hk, if_neg (by simp [hk, hpa])]
    have hspn : Sp l (fun j => (D : Rat) * vec r j - ((z j - dv r a * Z j : Int) : Rat)) := by
      have h2 : Sp l (fun j => ((dv r a * D : Int) : Rat) / (dv q a : Rat) * vec q j) := Span.smul (h.sub (a, q) hm) _
      refine (Span.plus hsp h2).cast fun j => ?_
      have e1 : (Z j : Rat) * (dv q a : Rat) = (D : Rat) * (dv q j : Rat) := by
        have := congrArg (fun x : Int => (x : Rat)) (hZ j)
        simpa [Rat.intCast_mul] using this
      have hq0 : (dv q a : Rat) ≠ 0 := by
        intro y
        exact hqa (by exact_mod_cast y)
      simp only [vec, Rat.intCast_mul, Rat.intCast_sub]
      grind
    by_cases hc : combD left q a = []
    · have h0 := hemp hc
      have hz0 : ∀ j, z j - dv r a * Z j = 0 := fun j => by
        have := hznew j
        rw [h0 j, Int.sub_self, Int.mul_zero] at this
        rcases Int.mul_eq_zero.mp this with y | y
        · exact absurd y (Int.mul_ne_zero hu ht)
        · exact y
      refine ⟨1, 1, fun j => z j - dv r a * Z j, by decide, by decide, fun j => ?_, hK', hbnew, hspn⟩
      show 1 * dv (combD left q a) j = 1 * (z j - dv r a * Z j)
      rw [hc, hz0 j]
      rfl
    · refine ⟨s * g, u * t, fun j => z j - dv r a * Z j, Int.mul_ne_zero hs (hne hc), Int.mul_ne_zero hu ht, fun j => ?_, hK', hbnew, hspn⟩
      rw [Int.mul_assoc, hj j, ← hznew j]
/-- leftOf, by the places done -/
theorem leftI_all {w M B : Nat} {l : List DRow} {ls : Leads} {r : DRow} {D : Int} (h : LI w M l ls) (gr : GoodD r) (kr : KeysIn w r) (hB : ∀ j, (dv r j).natAbs ≤ B) (hD0 : D ≠ 0) (hD : D.natAbs ≤ M)
    (hDz : ∀ p ∈ ls, ∃ z : Int → Int, (∀ j, (z j).natAbs ≤ M) ∧ ∀ j, z j * dv p.2 p.1 = D * dv p.2 j) : ∀ n : Nat, LeftI False w l ls r D ((r.map (·.1)).take n) (B * M + n * (B * M)) (leftOf ls r ((r.map (·.1)).take n)) := by
  intro n
  induction n with
  | zero =>
    have := leftI_nil (l := l) (ls := ls) gr kr hB hD0 hD
    simpa [leftOf] using this
  | succ n ih =>
    cases e : (r.map (·.1))[n]? with
    | none =>
      have e2 : (r.map (·.1)).take (n + 1) = (r.map (·.1)).take n := by rw [List.take_succ, e]; simp
      rw [e2]
      obtain ⟨s, t, z, a1, a2, a3, a4, a5, a6⟩ := ih.z
      exact ⟨ih.good, ih.keys, ih.prim, s, t, z, a1, a2, a3, fun j => Nat.le_trans (a4 j) (Nat.add_le_add_left (Nat.mul_le_mul_right _ (Nat.le_succ n)) _), a5, a6⟩
    | some a =>
      have e2 : (r.map (·.1)).take (n + 1) = (r.map (·.1)).take n ++ [a] := by rw [List.take_succ, e]; rfl
      have ha : a ∉ (r.map (·.1)).take n := by
        have hnd : ((r.map (·.1)).take (n + 1)).Nodup := gr.nd.sublist (List.take_sublist _ _)
        rw [e2, List.nodup_append] at hnd
        intro z
        exact hnd.2.2 a z a (by simp) rfl
      have hra : dv r a ≠ 0 := by
        obtain ⟨p, hp, ep⟩ := List.mem_map.mp (List.mem_of_getElem? e)
        rw [← ep, dv_mem gr.nd hp]
        exact gr.nz p hp
      have st := leftI_step h gr hB hD0 hDz ha hra ih
      have e3 : leftOf ls r ((r.map (·.1)).take (n + 1)) = (match dget ls a with
        | some q => combD (leftOf ls r ((r.map (·.1)).take n)) q a
        | none => leftOf ls r ((r.map (·.1)).take n)) := by
        rw [e2]
        unfold leftOf
        rw [List.foldl_append]
        rfl
      rw [e3, e2]
      have e4 : B * M + (n + 1) * (B * M) = B * M + n * (B * M) + B * M := by rw [Nat.succ_mul]; omega
      rw [e4]
      exact st
/-- one lead behind the new one -/
def clr (left : DRow) (f : Int) (d : DRow) : DRow := if (dget d f).isSome then combD d left f else d
theorem dput_map {β : Type} (g : Int → β → β) {ls : List (Int × β)} (nd : (ls.map (·.1)).Nodup) {a : Int} {v : β} (ha : a ∈ ls.map (·.1)) : dput (ls.map fun p => (p.1, g p.1 p.2)) a v = ls.map fun p => (p.1, if p.1 = a then v else g p.1 p.2) := by
  unfold dput
  have : (List.map (fun p => (p.1, g p.1 p.2)) ls).any (fun c => decide (c.1 = a)) = true := by
    rw [any_key, keys_map (fun p => g p.1 p.2)]; exact ha
  rw [if_pos this, List.map_map]
  apply List.map_congr_left
  intro p _
  show (if p.1 = a then (p.1, v) else (p.1, g p.1 p.2)) = _
  split <;> rfl
theorem clear_all {left : DRow} {f : Int} {ls : Leads} (nd : (ls.map (·.1)).Nodup) : ∀ n : Nat, clearAll left f ls ((ls.map (·.1)).take n) = ls.map fun p => (p.1, if p.1 ∈ (ls.map (·.1)).take n then clr left f p.2 else p.2) := by
  intro n
  induction n with
  | zero =>
    rw [List.take_zero]
    show ls = _
    conv => lhs; rw [← List.map_id ls]
    apply List.map_congr_left
    intro p _
    rw [if_neg (by simp)]
    rfl
  | succ n ih =>
    cases e : (ls.map (·.1))[n]? with
    | none =>
      have e2 : (ls.map (·.1)).take (n + 1) = (ls.map (·.1)).take n := by rw [List.take_succ, e]; simp
      rw [e2]; exact ih
    | some a =>
      have e2 : (ls.map (·.1)).take (n + 1) = (ls.map (·.1)).take n ++ [a] := by rw [List.take_succ, e]; rfl
      have ha : a ∉ (ls.map (·.1)).take n := by
        have hnd : ((ls.map (·.1)).take (n + 1)).Nodup := nd.sublist (List.take_sublist _ _)
        rw [e2, List.nodup_append] at hnd
        intro z
        exact hnd.2.2 a z a (by simp) rfl
      have ham := List.mem_of_getElem? e
      obtain ⟨q, hq, eq⟩ := List.mem_map.mp ham
      have hget : dget (ls.map fun p => (p.1, if p.1 ∈ (ls.map (·.1)).take n then clr left f p.2 else p.2)) a = some q.2 := by
        refine dget_some_of_mem ?_ ?_
        · rw [keys_map (fun p : Int × DRow => if p.1 ∈ (ls.map (·.1)).take n then clr left f p.2 else p.2)]; exact nd
        · refine List.mem_map.mpr ⟨q, hq, ?_⟩
          rw [eq, if_neg ha]
      have e3 : clearAll left f ls ((ls.map (·.1)).take (n + 1)) = (match dget (clearAll left f ls ((ls.map (·.1)).take n)) a with
        | some l => if (dget l f).isSome then dput (clearAll left f ls ((ls.map (·.1)).take n)) a (combD l left f) else clearAll left f ls ((ls.map (·.1)).take n)
        | none => clearAll left f ls ((ls.map (·.1)).take n)) := by
        rw [e2]
        unfold clearAll
        rw [List.foldl_append]
        rfl
      rw [e3, ih, hget]
      show (if (dget q.2 f).isSome then dput (ls.map fun p => (p.1, if p.1 ∈ (ls.map (·.1)).take n then clr left f p.2 else p.2)) a (combD q.2 left f) else ls.map fun p => (p.1, if p.1 ∈ (ls.map (·.1)).take n then clr left f p.2 else p.2)) = _
      have hun : ∀ p ∈ ls, p.1 = a → p.2 = q.2 := fun p hp ep => by
        have h1 := dget_some_of_mem nd (show (a, p.2) ∈ ls by rw [← ep]; exact hp)
        have h2 := dget_some_of_mem nd (show (a, q.2) ∈ ls by rw [← eq]; exact hq)
        rw [h1] at h2
        exact Option.some.inj h2
      by_cases hf : (dget q.2 f).isSome = true
      · rw [if_pos hf, dput_map (fun i d => if i ∈ (ls.map (·.1)).take n then clr left f d else d) nd ham, e2]
        apply List.map_congr_left
        intro p hp
        by_cases hpa : p.1 = a
        · rw [if_pos hpa, if_pos (by simp [hpa]), hun p hp hpa]
          unfold clr
          rw [if_pos hf]
        · rw [if_neg hpa]
          by_cases hk : p.1 ∈ (ls.map (·.1)).take n
          · rw [if_pos hk, if_pos (List.mem_append_left _ hk)]
          · rw [if_neg hk, if_neg (by simp [hk, hpa])]
      · rw [if_neg hf, e2]
        apply List.map_congr_left
        intro p hp
        by_cases hpa : p.1 = a
        · rw [if_neg (by rw [hpa]; exact ha), if_pos (by simp [hpa]), hun p hp hpa]
          unfold clr
          rw [if_neg hf]
        · by_cases hk : p.1 ∈ (ls.map (·.1)).take n
          · rw [if_pos hk, if_pos (List.mem_append_left _ hk)]
          · rw [if_neg hk, if_neg (by simp [hk, hpa])]
theorem LI.mono {w M M' : Nat} {l : List DRow} {ls : Leads} (h : LI w M l ls) (hM : M ≤ M') : LI w M' l ls where
  nd := h.nd
  good := h.good
  keys := h.keys
  at' := h.at'
  prim := h.prim
  red := h.red
  low := h.low
  sub := h.sub
  gen := h.gen
  bnd := by
    obtain ⟨D, h1, h2, h3⟩ := h.bnd
    exact ⟨D, h1, Nat.le_trans h2 hM, fun p hp => by
      obtain ⟨z, a, b⟩ := h3 p hp
      exact ⟨z, fun j => Nat.le_trans (a j) hM, b⟩⟩
theorem dv_key {r : DRow} {j : Int} (h : j ∉ r.map (·.1)) : dv r j = 0 := by unfold dv; rw [dget_none.mpr h]; rfl
/-- what is left behind all places -/
theorem left_done {w M B : Nat} {l : List DRow} {ls : Leads} {r : DRow} (h : LI w M l ls) (gr : GoodD r) (kr : KeysIn w r) (hB : ∀ j, (dv r j).natAbs ≤ B) :
    ∃ D : Int, D ≠ 0 ∧ D.natAbs ≤ M ∧ (∀ p ∈ ls, ∃ z : Int → Int, (∀ j, (z j).natAbs ≤ M) ∧ ∀ j, z j * dv p.2 p.1 = D * dv p.2 j) ∧
      GoodD (leftOf ls r (r.map (·.1))) ∧ KeysIn w (leftOf ls r (r.map (·.1))) ∧ gcdD (leftOf ls r (r.map (·.1))) ≤ 1 ∧
      ∃ (s t : Int) (z : Int → Int), s ≠ 0 ∧ t ≠ 0 ∧ (∀ j, s * dv (leftOf ls r (r.map (·.1))) j = t * z j) ∧ (∀ j, (z j).natAbs ≤ (w + 1) * (B * M)) ∧ (∀ p ∈ ls, z p.1 = 0) ∧ Sp l (fun j => (D : Rat) * vec r j - (z j : Rat)) := by
  obtain ⟨D, hD0, hDM, hDz⟩ := h.bnd
  have I := leftI_all h gr kr hB hD0 hDM hDz (r.map (·.1)).length
  rw [List.take_length] at I
  obtain ⟨s, t, z, hs, ht, hz, hK, hb, hsp⟩ := I.z
  have hlen : r.length ≤ w := by
    have key : ∀ (w : Nat) (ks : List Int), ks.Nodup → (∀ a ∈ ks, 0 ≤ a ∧ a < (w : Int)) → ks.length ≤ w := by
      intro w
      induction w with
      | zero =>
        intro ks _ hk
        cases ks with
        | nil => exact Nat.le_refl _
        | cons a r => have := hk a List.mem_cons_self; omega
      | succ w ih =>
        intro ks nd hk
        have h2 := ih (ks.erase (w : Int)) (nd.erase _) fun a ha => by
          have hm := List.mem_of_mem_erase ha
          have hne : a ≠ (w : Int) := fun z => by
            subst z
            exact (nd.not_mem_erase) ha
          have := hk a hm
          omega
        have h3 : ks.length ≤ (ks.erase (w : Int)).length + 1 := by
          rw [List.length_erase]
          split <;> omega
        omega
    have := key w (r.map (·.1)) gr.nd fun a ha => by
      obtain ⟨p, hp, e⟩ := List.mem_map.mp ha
      rw [← e]; exact kr p hp
    rwa [List.length_map] at this
  refine ⟨D, hD0, hDM, hDz, I.good, I.keys, I.prim.elim id (fun y => y.1.elim), s, t, z, hs, ht, hz, fun j => Nat.le_trans (hK j) ?_, fun p hp => ?_, hsp⟩
  · rw [List.length_map, Nat.add_comm (B * M), ← Nat.succ_mul]
    exact Nat.mul_le_mul_right _ (Nat.succ_le_succ hlen)
  · rw [hb p hp]
    split
    · rfl
    · rename_i hn
      rw [dv_key hn, Int.mul_zero]
theorem clr_all {w M : Nat} {l : List DRow} {ls : Leads} (h : LI w M l ls) {left : DRow} {f : Int} (gl : GoodD left) (hf : dv left f ≠ 0) (hz : ∀ p ∈ ls, dv left p.1 = 0) {p : Int × DRow} (hp : p ∈ ls) :
    GoodD (clr left f p.2) ∧ gcdD (clr left f p.2) ≤ 1 ∧ ∃ g u d : Int, g ≠ 0 ∧ u ≠ 0 ∧ (∀ j, g * dv (clr left f p.2) j = u * dv p.2 j - d * dv left j) ∧ u * dv p.2 f = d * dv left f ∧ dv (clr left f p.2) p.1 ≠ 0 := by
  unfold clr
  by_cases hs : (dget p.2 f).isSome = true
  · rw [if_pos hs]
    have hpf := (h.good p hp).get.mp hs
    obtain ⟨g1, g, u, d, hu, hd, he, hj, hne, _, _, hpr, hemp⟩ := combD_all (h.good p hp) gl hpf hf
    have hn : combD p.2 left f ≠ [] := fun y => by
      have := hemp y p.1
      rw [hz p hp, Int.mul_zero] at this
      exact absurd this (Int.mul_ne_zero hu (h.at' p hp))
    refine ⟨g1, hpr, g, u, d, hne hn, hu, hj, he, fun y => ?_⟩
    have := hj p.1
    rw [y, hz p hp, Int.mul_zero, Int.mul_zero, Int.sub_zero] at this
    exact absurd this.symm (Int.mul_ne_zero hu (h.at' p hp))
  · rw [if_neg hs]
    have h0 : dv p.2 f = 0 := by
      rcases Decidable.em (dv p.2 f = 0) with q | q
      · exact q
      · exact absurd ((h.good p hp).get.mpr q) hs
    refine ⟨h.good p hp, h.prim p hp, 1, 1, 0, by decide, by decide, fun j => by omega, by rw [h0]; omega, h.at' p hp⟩
theorem LI.step {w M B : Nat} {l : List DRow} {ls : Leads} {r : DRow} (h : LI w M l ls) (hM : 1 ≤ M) (hB1 : 1 ≤ B) (gr : GoodD r) (kr : KeysIn w r) (hB : ∀ j, (dv r j).natAbs ≤ B) : (stepRow ls r = ls ∧ LI w M (l ++ [r]) ls) ∨ ((stepRow ls r).length = ls.length + 1 ∧ LI w (2 * (M * ((w + 1) * (B * M)))) (l ++ [r]) (stepRow ls r)) := by
  obtain ⟨D, hD0, hDM, hDz, gl, kl, pl, s, t, z, hs, ht, hz, hK, hz0, hsp⟩ := left_done h gr kr hB
  unfold stepRow
  generalize hleft : leftOf ls r (r.map (·.1)) = left at *
  have hDr : (D : Rat) ≠ 0 := by intro y; exact hD0 (by exact_mod_cast y)
  have hMM : M ≤ 2 * (M * ((w + 1) * (B * M))) := by
    have h1 : 1 ≤ (w + 1) * (B * M) := Nat.mul_pos (by omega) (Nat.mul_pos hB1 hM)
    have h2 := Nat.le_mul_of_pos_right M h1
    omega
  by_cases he : left = []
  · simp only [he, if_true]
    have hzz : ∀ j, z j = 0 := fun j => by
      have := hz j
      rw [he] at this
      have h0 : t * z j = 0 := by rw [← this]; simp [dv, dget_nil]
      rcases Int.mul_eq_zero.mp h0 with y | y
      · exact absurd y ht
      · exact y
    have hr : Sp l (vec r) := (Span.smul hsp (1 / (D : Rat))).cast fun j => by
      rw [hzz j]
      grind
    exact .inl ⟨trivial, h.nd, h.good, h.keys, h.at', h.prim, h.red, h.low, fun p hp => (h.sub p hp).left, fun x hx hx0 => by
      obtain ⟨c, hc⟩ := hx.out
      refine h.gen x ((Span.plus hc (Span.smul hr c)).cast fun j => by grind) hx0, h.bnd⟩
  · simp only [he, if_false]
    have hk := minK_mem (l := left.map (·.1)) (by simpa using he)
    generalize hfe : minK (left.map (·.1)) = f at *
    obtain ⟨q, hq, eq⟩ := List.mem_map.mp hk.1
    have hf : dv left f ≠ 0 := by rw [← eq, dv_mem gl.nd hq]; exact gl.nz q hq
    have hlow : ∀ j, j < f → dv left j = 0 := fun j hj => dv_key fun y => by have := hk.2 j y; omega
    have hzf : z f ≠ 0 := fun y => by
      have := hz f
      rw [y, Int.mul_zero] at this
      exact absurd this (Int.mul_ne_zero hs hf)
    have hl0 : ∀ p ∈ ls, dv left p.1 = 0 := fun p hp => by
      have := hz p.1
      rw [hz0 p hp, Int.mul_zero] at this
      rcases Int.mul_eq_zero.mp this with y | y
      · exact absurd y hs
      · exact y
    have hfk : f ∉ ls.map (·.1) := fun y => by
      obtain ⟨p, hp, e⟩ := List.mem_map.mp y
      exact hf (by rw [← e]; exact hl0 p hp)
    have hclear : clearAll left f ls (ls.map (·.1)) = ls.map fun p => (p.1, clr left f p.2) := by
      have := clear_all (left := left) (f := f) h.nd (ls.map (·.1)).length
      rw [List.take_length] at this
      rw [this]
      apply List.map_congr_left
      intro p hp
      rw [if_pos (List.mem_map.mpr ⟨p, hp, rfl⟩)]
    rw [hclear, dput_new (by rw [keys_map (fun p : Int × DRow => clr left f p.2)]; exact hfk)]
    -- the new row z in the span
    have hzsp : Sp (l ++ [r]) (fun j => (z j : Rat)) := (Span.plus (Span.smul Sp.last (D : Rat)) (Span.smul hsp.left (-1))).cast fun j => by grind
    have hleftz : ∀ j, (dv left j : Rat) = (t : Rat) / (s : Rat) * (z j : Rat) := fun j => by
      have hs' : (s : Rat) ≠ 0 := by intro y; exact hs (by exact_mod_cast y)
      have : (s : Rat) * (dv left j : Rat) = (t : Rat) * (z j : Rat) := by
        have := congrArg (fun x : Int => (x : Rat)) (hz j)
        simpa [Rat.intCast_mul] using this
      grind
    have hlsp : Sp (l ++ [r]) (vec left) := (Span.smul hzsp ((t : Rat) / (s : Rat))).cast fun j => by
      show _ = (dv left j : Rat)
      rw [hleftz j]
    have hmem : ∀ {P : Int × DRow → Prop}, (∀ p ∈ ls, P (p.1, clr left f p.2)) → P (f, left) → ∀ p ∈ (ls.map fun p => (p.1, clr left f p.2)) ++ [(f, left)], P p := fun {P} h1 h2 p hp => by
      rcases List.mem_append.mp hp with y | y
      · obtain ⟨q, hq, e⟩ := List.mem_map.mp y
        rw [← e]; exact h1 q hq
      · have : p = (f, left) := by simpa using y
        rw [this]; exact h2
    have c := fun p hp => clr_all h gl hf hl0 (p := p) hp
    have cdv : ∀ p ∈ ls, ∀ j, dv p.2 j = 0 → dv left j = 0 → dv (clr left f p.2) j = 0 := fun p hp j h1 h2 => by
      obtain ⟨_, _, g, u, d, hg, hu, hj, _, _⟩ := c p hp
      have := hj j
      rw [h1, h2, Int.mul_zero, Int.mul_zero, Int.sub_zero] at this
      rcases Int.mul_eq_zero.mp this with y | y
      · exact absurd y hg
      · exact y
    have cf : ∀ p ∈ ls, dv (clr left f p.2) f = 0 := fun p hp => by
      obtain ⟨_, _, g, u, d, hg, hu, hj, he', _⟩ := c p hp
      have := hj f
      rw [he', Int.sub_self] at this
      rcases Int.mul_eq_zero.mp this with y | y
      · exact absurd y hg
      · exact y
    refine .inr ⟨by rw [List.length_append, List.length_map]; rfl, ?_⟩
    refine ⟨?_, hmem (fun p hp => (c p hp).1) gl, hmem (fun p hp => ?_) kl, hmem (fun p hp => ?_) hf, hmem (fun p hp => (c p hp).2.1) pl, hmem (fun p hp => hmem (fun q hq hne => ?_) fun hne => cf p hp) (hmem (fun q hq hne => hl0 q hq) fun hne => absurd rfl hne),
      hmem (fun p hp j hj => ?_) hlow, hmem (fun p hp => ?_) hlsp, fun x hx hx0 => ?_, D * z f, Int.mul_ne_zero hD0 hzf, ?_, hmem (fun p hp => ?_) ?_⟩
    · rw [List.map_append, keys_map (fun p : Int × DRow => clr left f p.2), List.nodup_append]
      refine ⟨h.nd, by simp, fun a ha b hb e => ?_⟩
      have : b = f := by simpa using hb
      subst this
      subst e
      exact hfk ha
    · refine keys_of_dv (c p hp).1 fun j hj => ?_
      by_cases h1 : dv p.2 j = 0
      · by_cases h2 : dv left j = 0
        · exact absurd (cdv p hp j h1 h2) hj
        · exact kl.dv h2
      · exact (h.keys p hp).dv h1
    · obtain ⟨_, _, g, u, d, hg, hu, hj, he', hn⟩ := c p hp
      exact hn
    · exact cdv p hp q.1 (h.red p hp q hq hne) (hl0 q hq)
    · -- below a lead's place nothing
      obtain ⟨_, _, g, u, d, hg, hu, hjj, he', hn⟩ := c p hp
      have h1 := h.low p hp j hj
      by_cases h2 : dv left j = 0
      · exact cdv p hp j h1 h2
      · -- then f ≤ j < p.1, and the lead has nothing at f
        have hfj : f ≤ j := by
          rcases Int.lt_or_le j f with y | y
          · exact absurd (hlow j y) h2
          · exact y
        have hpf : dv p.2 f = 0 := h.low p hp f (by have : j < p.1 := hj; omega)
        rw [hpf, Int.mul_zero] at he'
        have hd : d = 0 := by
          rcases Int.mul_eq_zero.mp he'.symm with y | y
          · exact y
          · exact absurd y hf
        have := hjj j
        rw [h1, hd, Int.mul_zero, Int.zero_mul, Int.sub_zero] at this
        rcases Int.mul_eq_zero.mp this with y | y
        · exact absurd y hg
        · exact y
    · obtain ⟨_, _, g, u, d, hg, hu, hjj, he', hn⟩ := c p hp
      have hg' : (g : Rat) ≠ 0 := by intro y; exact hg (by exact_mod_cast y)
      refine (Span.plus (Span.smul (h.sub p hp).left ((u : Rat) / (g : Rat))) (Span.smul hlsp (-(d : Rat) / (g : Rat)))).cast fun j => ?_
      have : (g : Rat) * (dv (clr left f p.2) j : Rat) = (u : Rat) * (dv p.2 j : Rat) - (d : Rat) * (dv left j : Rat) := by
        have := congrArg (fun x : Int => (x : Rat)) (hjj j)
        simpa [Rat.intCast_mul, Rat.intCast_sub] using this
      show _ = (dv (clr left f p.2) j : Rat)
      simp only [vec]
      grind
    · -- nothing else
      obtain ⟨cc, hc⟩ := hx.out
      have hy : Sp l (fun j => x j - cc * vec r j + cc / (D : Rat) * ((D : Rat) * vec r j - (z j : Rat))) := Span.plus hc (Span.smul hsp (cc / (D : Rat)))
      have hy0 := h.gen _ hy fun p hp => by
        have h1 := hx0 (p.1, clr left f p.2) (List.mem_append_left _ (List.mem_map.mpr ⟨p, hp, rfl⟩))
        have h2 := hz0 p hp
        have h1' : x p.1 = 0 := h1
        simp only [h1', h2]
        grind
      have hxf : x f = 0 := hx0 (f, left) (List.mem_append_right _ (by simp))
      have hzf' : (z f : Rat) ≠ 0 := by intro y; exact hzf (by exact_mod_cast y)
      have hcc : cc = 0 := by
        have := hy0 f
        rw [hxf] at this
        have h3 : cc / (D : Rat) * (z f : Rat) = 0 := by grind
        grind
      intro j
      have := hy0 j
      rw [hcc] at this
      grind
    · rw [Int.natAbs_mul]
      have := Nat.mul_le_mul hDM (hK f)
      omega
    · -- the lead less the new row
      obtain ⟨Z, hZM, hZ⟩ := hDz p hp
      obtain ⟨_, _, g, u, d, hg, hu, hjj, he', hn⟩ := c p hp
      refine ⟨fun j => z f * Z j - Z f * z j, fun j => ?_, fun j => ?_⟩
      · have a1 : (z f * Z j).natAbs ≤ M * ((w + 1) * (B * M)) := by rw [Int.natAbs_mul, Nat.mul_comm]; exact Nat.mul_le_mul (hZM j) (hK f)
        have a2 : (Z f * z j).natAbs ≤ M * ((w + 1) * (B * M)) := by rw [Int.natAbs_mul]; exact Nat.mul_le_mul (hZM f) (hK j)
        show (z f * Z j - Z f * z j).natAbs ≤ _
        omega
      · show (z f * Z j - Z f * z j) * dv (clr left f p.2) p.1 = D * z f * dv (clr left f p.2) j
        apply Int.eq_of_mul_eq_mul_left hg
        have e1 : g * ((z f * Z j - Z f * z j) * dv (clr left f p.2) p.1) = (z f * Z j - Z f * z j) * (g * dv (clr left f p.2) p.1) := by grind
        have e2 : g * (D * z f * dv (clr left f p.2) j) = D * z f * (g * dv (clr left f p.2) j) := by grind
        rw [e1, e2, hjj p.1, hjj j, hl0 p hp, Int.mul_zero, Int.sub_zero]
        -- u and d, by what they do at f
        apply Int.eq_of_mul_eq_mul_left (Int.mul_ne_zero hs (h.at' p hp))
        have f1 := hZ j
        have f2 := hZ f
        have f3 := hz j
        have f4 := hz f
        -- s left j z f = t z j z f = s left f z j
        have f5 : dv left j * z f = dv left f * z j := by
          apply Int.eq_of_mul_eq_mul_left hs
          grind
        have g1 : s * dv p.2 p.1 * ((z f * Z j - Z f * z j) * (u * dv p.2 p.1)) = s * u * dv p.2 p.1 * (z f * (Z j * dv p.2 p.1) - z j * (Z f * dv p.2 p.1)) := by grind
        have g2 : s * dv p.2 p.1 * (D * z f * (u * dv p.2 j - d * dv left j)) = s * dv p.2 p.1 * D * (u * (z f * dv p.2 j) - d * (dv left j * z f)) := by grind
        rw [g1, g2, f1, f2, f5]
        have g3 : d * (dv left f * z j) = u * dv p.2 f * z j := by rw [he']; grind
        rw [g3]
        grind
    · refine ⟨fun j => D * z j, fun j => ?_, fun j => ?_⟩
      · show (D * z j).natAbs ≤ _
        rw [Int.natAbs_mul]
        have := Nat.mul_le_mul hDM (hK j)
        omega
      · show D * z j * dv left f = D * z f * dv left j
        apply Int.eq_of_mul_eq_mul_left hs
        have f3 := hz j
        have f4 := hz f
        grind
theorem keys_len : ∀ (w : Nat) (ks : List Int), ks.Nodup → (∀ a ∈ ks, 0 ≤ a ∧ a < (w : Int)) → ks.length ≤ w := by
  intro w
  induction w with
  | zero =>
    intro ks _ hk
    cases ks with
    | nil => exact Nat.le_refl _
    | cons a r => have := hk a List.mem_cons_self; omega
  | succ w ih =>
    intro ks nd hk
    have h2 := ih (ks.erase (w : Int)) (nd.erase _) fun a ha => by
      have hm := List.mem_of_mem_erase ha
      have hne : a ≠ (w : Int) := fun z => by
        subst z
        exact (nd.not_mem_erase) ha
      have := hk a hm
      omega
    have h3 : ks.length ≤ (ks.erase (w : Int)).length + 1 := by
      rw [List.length_erase]
      split <;> omega
    omega
theorem KeysIn.len {w : Nat} {d : DRow} (g : GoodD d) (h : KeysIn w d) : d.length ≤ w := by
  have := keys_len w (d.map (·.1)) g.nd fun a ha => by
    obtain ⟨p, hp, e⟩ := List.mem_map.mp ha
    rw [← e]; exact h p hp
  rwa [List.length_map] at this
theorem LeftI.ne {Pr : Prop} {w K : Nat} {l : List DRow} {ls : Leads} {r left : DRow} {D : Int} {ks : List Int} (h : LeftI Pr w l ls r D ks K left) (hD : D ≠ 0) {p : Int × DRow} (hp : p ∈ ls) (hk : p.1 ∉ ks) (hr : dv r p.1 ≠ 0) : dv left p.1 ≠ 0 := by
  obtain ⟨s, t, z, hs, ht, hz, _, hb, _⟩ := h.z
  intro y
  have h1 := hz p.1
  have h2 := hb p hp
  rw [if_neg hk] at h2
  rw [y, h2, Int.mul_zero] at h1
  exact absurd h1.symm (Int.mul_ne_zero ht (Int.mul_ne_zero hD hr))
theorem minK_uniq {l : List Int} {m : Int} (hm : m ∈ l) (h : ∀ a ∈ l, m ≤ a) : m = minK l := by
  have hne : l ≠ [] := fun z => by rw [z] at hm; cases hm
  obtain ⟨h1, h2⟩ := minK_mem hne
  have := h _ h1
  have := h2 _ hm
  omega
/-! ### all rows -/
def Mk (w B : Nat) : Nat → Nat
  | 0 => 1
  | k + 1 => 2 * (Mk w B k * ((w + 1) * (B * Mk w B k)))
theorem Mk_pos {w B : Nat} (hB : 1 ≤ B) : ∀ k, 1 ≤ Mk w B k
  | 0 => Nat.le_refl _
  | k + 1 => by
    have := Mk_pos (w := w) hB k
    have h1 : 1 ≤ (w + 1) * (B * Mk w B k) := Nat.mul_pos (by omega) (Nat.mul_pos hB this)
    have h2 := Nat.mul_pos this h1
    show 1 ≤ 2 * _
    omega
/-- the rows that the elimination is given -/
structure RowsOk (w B : Nat) (rows : List DRow) : Prop where
  good : ∀ d ∈ rows, GoodD d
  keys : ∀ d ∈ rows, KeysIn w d
  size : ∀ d ∈ rows, ∀ j, (dv d j).natAbs ≤ B
theorem redu_take {w B : Nat} {rows : List DRow} (hB : 1 ≤ B) (h : RowsOk w B rows) : ∀ i, LI w (Mk w B (redu (rows.take i)).length) (rows.take i) (redu (rows.take i)) := by
  intro i
  induction i with
  | zero => exact LI.nil
  | succ i ih =>
    cases e : rows[i]? with
    | none =>
      have e2 : rows.take (i + 1) = rows.take i := by rw [List.take_succ, e]; simp
      rw [e2]; exact ih
    | some r =>
      have e2 : rows.take (i + 1) = rows.take i ++ [r] := by rw [List.take_succ, e]; rfl
      have hr := List.mem_of_getElem? e
      have e3 : redu (rows.take (i + 1)) = stepRow (redu (rows.take i)) r := by
        rw [e2]; unfold redu; rw [List.foldl_append]; rfl
      rw [e3, e2]
      rcases ih.step (Mk_pos hB _) hB (h.good r hr) (h.keys r hr) (h.size r hr) with ⟨e4, h4⟩ | ⟨e4, h4⟩
      · rw [e4]; exact h4
      · rw [e4]; exact h4
theorem Mk_bits {w b : Nat} (hw : w ≤ 7) : ∀ k, Mk w (2 ^ b) k ≤ 2 ^ ((2 ^ k - 1) * (b + 4))
  | 0 => by simp [Mk]
  | k + 1 => by
    have ih := Mk_bits (b := b) hw k
    show 2 * (Mk w (2 ^ b) k * ((w + 1) * (2 ^ b * Mk w (2 ^ b) k))) ≤ _
    have h1 : (w + 1) * (2 ^ b * Mk w (2 ^ b) k) ≤ 2 ^ 3 * (2 ^ b * 2 ^ ((2 ^ k - 1) * (b + 4))) := Nat.mul_le_mul (by omega) (Nat.mul_le_mul_left _ ih)
    have h2 := Nat.mul_le_mul_left 2 (Nat.mul_le_mul ih h1)
    refine Nat.le_trans h2 (Nat.le_of_eq ?_)
    have e : (2 : Nat) ^ (k + 1) - 1 = (2 ^ k - 1) + (2 ^ k - 1) + 1 := by
      have : 1 ≤ 2 ^ k := Nat.one_le_two_pow
      rw [Nat.pow_succ]; omega
    rw [e]
    have e5 : ((2 ^ k - 1) + (2 ^ k - 1) + 1) * (b + 4) = 1 + ((2 ^ k - 1) * (b + 4) + (3 + (b + (2 ^ k - 1) * (b + 4)))) := by
      rw [Nat.add_mul, Nat.add_mul]; omega
    rw [e5, Nat.pow_add, Nat.pow_add, Nat.pow_add, Nat.pow_add]
theorem Mk_small {w b k : Nat} (hw : w ≤ 6) (hb : b ≤ 50) (hk : k ≤ w) : (w + 1) * (2 ^ b * Mk w (2 ^ b) k) < 2 ^ 4000 ∧ Mk w (2 ^ b) k < 2 ^ 4000 := by
  have h1 := Mk_bits (w := w) (b := b) (by omega) k
  have h2 : (2 ^ k - 1) * (b + 4) ≤ 63 * 54 := by
    have : 2 ^ k ≤ 2 ^ 6 := Nat.pow_le_pow_right (by omega) (by omega)
    have e : (2 : Nat) ^ 6 = 64 := by decide
    exact Nat.mul_le_mul (by omega) (by omega)
  have h3 : Mk w (2 ^ b) k ≤ 2 ^ (63 * 54) := Nat.le_trans h1 (Nat.pow_le_pow_right (by omega) h2)
  have h4 : (w + 1) * (2 ^ b * Mk w (2 ^ b) k) ≤ 2 ^ 3 * (2 ^ 50 * 2 ^ (63 * 54)) := Nat.mul_le_mul (by omega) (Nat.mul_le_mul (Nat.pow_le_pow_right (by omega) hb) h3)
  rw [← Nat.pow_add, ← Nat.pow_add] at h4
  exact ⟨Nat.lt_of_le_of_lt h4 (Nat.pow_lt_pow_right (by omega) (by omega)), Nat.lt_of_le_of_lt h3 (Nat.pow_lt_pow_right (by omega) (by omega))⟩
/-! ### a row asked of finished leads (within) -/
theorem leftI_nil' {w M B : Nat} {l : List DRow} {ls : Leads} {r : DRow} {D : Int} (gr : GoodD r) (kr : KeysIn w r) (hB : ∀ j, (dv r j).natAbs ≤ B) (hD0 : D ≠ 0) (hD : D.natAbs ≤ M) : LeftI True w l ls r D [] (B * M) r := by
  refine ⟨gr, kr, .inr ⟨trivial, rfl⟩, D, 1, fun j => D * dv r j, hD0, by decide, fun j => by rw [Int.one_mul], fun j => ?_, fun p hp => by simp, Span.zero.cast fun j => ?_⟩
  · rw [Int.natAbs_mul, Nat.mul_comm]
    exact Nat.mul_le_mul (hB j) hD
  · unfold vec
    rw [Rat.intCast_mul]
    grind
/-- the row behind the leads, the places ks in turn -/
def askOf (leads : Leads) (row : DRow) (ks : List Int) : DRow := ks.foldl (fun left a => match dget leads a with
  | some l => combD left l a
  | none => left) row
theorem askI_all {w M B : Nat} {l : List DRow} {ls : Leads} {r : DRow} {D : Int} {ks : List Int} (h : LI w M l ls) (gr : GoodD r) (kr : KeysIn w r) (hB : ∀ j, (dv r j).natAbs ≤ B) (hD0 : D ≠ 0) (hD : D.natAbs ≤ M)
    (hDz : ∀ p ∈ ls, ∃ z : Int → Int, (∀ j, (z j).natAbs ≤ M) ∧ ∀ j, z j * dv p.2 p.1 = D * dv p.2 j) (hks : ks.Perm (r.map (·.1))) : ∀ n : Nat, LeftI True w l ls r D (ks.take n) (B * M + n * (B * M)) (askOf ls r (ks.take n)) := by
  have knd : ks.Nodup := hks.nodup_iff.mpr gr.nd
  intro n
  induction n with
  | zero =>
    have := leftI_nil' (l := l) (ls := ls) gr kr hB hD0 hD
    simpa [askOf] using this
  | succ n ih =>
    cases e : ks[n]? with
    | none =>
      have e2 : ks.take (n + 1) = ks.take n := by rw [List.take_succ, e]; simp
      rw [e2]
      obtain ⟨s, t, z, a1, a2, a3, a4, a5, a6⟩ := ih.z
      exact ⟨ih.good, ih.keys, ih.prim, s, t, z, a1, a2, a3, fun j => Nat.le_trans (a4 j) (Nat.add_le_add_left (Nat.mul_le_mul_right _ (Nat.le_succ n)) _), a5, a6⟩
    | some a =>
      have e2 : ks.take (n + 1) = ks.take n ++ [a] := by rw [List.take_succ, e]; rfl
      have ha : a ∉ ks.take n := by
        have hnd : (ks.take (n + 1)).Nodup := knd.sublist (List.take_sublist _ _)
        rw [e2, List.nodup_append] at hnd
        intro z
        exact hnd.2.2 a z a (by simp) rfl
      have hra : dv r a ≠ 0 := by
        obtain ⟨p, hp, ep⟩ := List.mem_map.mp (hks.mem_iff.mp (List.mem_of_getElem? e))
        rw [← ep, dv_mem gr.nd hp]
        exact gr.nz p hp
      have st := leftI_step h gr hB hD0 hDz ha hra ih
      have e3 : askOf ls r (ks.take (n + 1)) = (match dget ls a with
        | some q => combD (askOf ls r (ks.take n)) q a
        | none => askOf ls r (ks.take n)) := by
        rw [e2]
        unfold askOf
        rw [List.foldl_append]
        rfl
      rw [e3, e2]
      have e4 : B * M + (n + 1) * (B * M) = B * M + n * (B * M) + B * M := by rw [Nat.succ_mul]; omega
      rw [e4]
      exact st
/-- nothing is left of a row exactly if it lies in the span -/
theorem ask_nil {w M B : Nat} {l : List DRow} {ls : Leads} {r : DRow} {ks : List Int} (h : LI w M l ls) (gr : GoodD r) (kr : KeysIn w r) (hB : ∀ j, (dv r j).natAbs ≤ B) (hks : ks.Perm (r.map (·.1))) : askOf ls r ks = [] ↔ Sp l (vec r) := by
  obtain ⟨D, hD0, hDM, hDz⟩ := h.bnd
  have I := askI_all h gr kr hB hD0 hDM hDz hks ks.length
  rw [List.take_length] at I
  obtain ⟨s, t, z, hs, ht, hz, _, hb, hsp⟩ := I.z
  have hDr : (D : Rat) ≠ 0 := by intro y; exact hD0 (by exact_mod_cast y)
  have hz0 : ∀ p ∈ ls, z p.1 = 0 := fun p hp => by
    rw [hb p hp]
    split
    · rfl
    · rename_i hn
      have : p.1 ∉ r.map (·.1) := fun y => hn (hks.mem_iff.mpr y)
      rw [dv_key this, Int.mul_zero]
  constructor
  · intro he
    have hzz : ∀ j, z j = 0 := fun j => by
      have := hz j
      rw [he] at this
      have h0 : t * z j = 0 := by rw [← this]; simp [dv, dget_nil]
      rcases Int.mul_eq_zero.mp h0 with y | y
      · exact absurd y ht
      · exact y
    exact (Span.smul hsp (1 / (D : Rat))).cast fun j => by
      rw [hzz j]
      grind
  · intro hr
    have hzs : Sp l (fun j => (z j : Rat)) := (Span.plus (Span.smul hr (D : Rat)) (Span.smul hsp (-1))).cast fun j => by grind
    have hzz := h.gen _ hzs fun p hp => by rw [hz0 p hp]; rfl
    rcases Decidable.em (askOf ls r ks = []) with q | q
    · exact q
    · exfalso
      cases hc : askOf ls r ks with
      | nil => exact q hc
      | cons c d =>
        have hm : c ∈ askOf ls r ks := by rw [hc]; exact List.mem_cons_self
        have h1 := hz c.1
        rw [dv_mem I.good.nd hm] at h1
        have h2 : z c.1 = 0 := by have := hzz c.1; exact_mod_cast this
        rw [h2, Int.mul_zero] at h1
        rcases Int.mul_eq_zero.mp h1 with y | y
        · exact hs y
        · exact I.good.nz c hm y
end T
end
section
set_option Elab.async false
set_option linter.all false
set_option maxRecDepth 100000
set_option maxHeartbeats 2000000
set_option exponentiation.threshold 10000
namespace T
open PySem PySem.Spec PyProof.Rows L2
theorem bdD_of {m : Nat} {d : DRow} (g : GoodD d) (h : ∀ j, (dv d j).natAbs < 2 ^ m) : BdD m d := fun p hp => by
  rw [← dv_mem g.nd hp]; exact h p.1
/-! ### whole_reduced -/
/-- rows of numbers up to b.1 whose reduced rows stay below b.2 -/
structure Cert (w : Nat) (b : Nat × Nat) (l : List DRow) : Prop where
  rows : RowsOk w b.1 l
  lis : ∀ i, LI w b.2 (l.take i) (redu (l.take i))
  w6 : w ≤ 8
  small : (w + 1) * (b.1 * b.2) < 2 ^ 4000
  pos : 1 ≤ b.1 ∧ 1 ≤ b.2
theorem Cert.m1 {w : Nat} {b : Nat × Nat} {rows : List DRow} (h : Cert w b rows) : b.1 < 2 ^ 4000 :=
  Nat.lt_of_le_of_lt (Nat.le_trans (Nat.le_mul_of_pos_right _ h.pos.2) (Nat.le_mul_of_pos_left _ (Nat.succ_pos w))) h.small
theorem Cert.m2 {w : Nat} {b : Nat × Nat} {rows : List DRow} (h : Cert w b rows) : b.2 < 2 ^ 4000 :=
  Nat.lt_of_le_of_lt (Nat.le_trans (Nat.le_mul_of_pos_left _ h.pos.1) (Nat.le_mul_of_pos_left _ (Nat.succ_pos w))) h.small
def cRedu (K : PySem.W.Frag) : Ct := fun ks k => ∃ (rows : List DRow) (w : Nat) (b : Nat × Nat), ks = [.im (rL K (rD rI)) rows] ∧ Cert w b rows ∧ ∀ (p : Addr) (ys : List Int), ys.Perm ((redu rows).map (·.1)) → ys.Pairwise (· ≤ ·) →
  k (.ow p (cD (rD rI)) (ys.map fun a => (a, (dget (redu rows) a).getD []))) [.no]
theorem sc13 : FnScope ["rows", "leads", "row", "left", "at", "first"] ["rows"] (defScope (top 14)) := ⟨rfl, rfl, rfl, by decide +kernel, rfl, by decide +kernel, by decide +kernel⟩
theorem f13 {G : Gm} {f : Addr} {fd : FuncData} (F : Fun G.K "whole_reduced" "whole_reduced" (top 14) f fd) (hf : G.mg "whole_reduced" = some (.ref f)) (b : Binds G.K fd ["rows"] [])
    (B : Bi G) (h1 : Fn G "primitive" 1 cPrim) (h2 : Fn G "combined" 2 cComb) : Fn G "whole_reduced" 3 (cRedu G.K) := by
  refine Fn.of F hf b sc13 (fun ks k ⟨rows, w, b, h, _⟩ => by rw [h]; rfl) fun X hX hfn hp ks k ⟨rows, w, b, hks, cert, hk⟩ => ?_
  subst hks
  have hrows := cert.rows
  have hw := cert.w6
  have hB9 := cert.m1
  have hLI := cert.lis
  -- leads = {}
  refine S_cons ?_
  refine S1_setC (i := 1) hX hfn rfl rfl ?_  -- leads
  refine E_dnew' (rD rI) fun p => ?_
  -- for row in rows:
  refine S_cons ?_
  refine S1_for hX hp ?_
  refine I_list hX ?_
  refine E_name (i := 0) hX rfl (.inl rfl) rfl ?_  -- rows
  refine ⟨_, _, _, .im _ _, ?_⟩
  refine ⟨fun i τ => ∃ x2 x3 x4 x5, τ = [.im (rL G.K (rD rI)) rows, .ow p (cD (rD rI)) (redu (rows.take i)), x2, x3, x4, x5], ⟨_, _, _, _, rfl⟩, fun i y τ hy hI => ?_, fun τ hI => ?_⟩
  · obtain ⟨x2, x3, x4, x5, hτ⟩ := hI
    subst hτ
    rw [List.getElem?_map] at hy
    cases hr : rows[i]? with
    | none => rw [hr] at hy; cases hy
    | some row =>
    rw [hr] at hy
    cases hy
    have hm := List.mem_of_getElem? hr
    have gr := hrows.good row hm
    have kr := hrows.keys row hm
    have sr := hrows.size row hm
    have L := hLI i
    have hstep : redu (rows.take (i + 1)) = stepRow (redu (rows.take i)) row := by
      rw [take_get hr]; unfold redu; rw [List.foldl_append]; rfl
    generalize redu (rows.take i) = ls at *
    have M1 := cert.small
    have M2 := cert.m2
    obtain ⟨D, hD0, hDM, hDz⟩ := L.bnd
    have I := leftI_all L gr kr sr hD0 hDM hDz
    have Kz : ∀ n, n ≤ row.length → b.1 * b.2 + n * (b.1 * b.2) < 2 ^ 4000 := fun n hn => by
      refine Nat.lt_of_le_of_lt ?_ M1
      rw [Nat.add_comm, ← Nat.succ_mul]
      exact Nat.mul_le_mul_right _ (Nat.succ_le_succ (Nat.le_trans hn (kr.len gr)))
    have lsz : ∀ q ∈ ls, BdD 4000 q.2 := fun q hq => bdD_of (L.good q hq) fun j => Nat.lt_of_le_of_lt (L.size hq j) M2
    have lln : ∀ q ∈ ls, q.2.length ≤ 1000 := fun q hq => Nat.le_trans ((L.keys q hq).len (L.good q hq)) (by omega)
    refine T_name (i := 2) hX rfl rfl ?_  -- row
    -- left = primitive(row)
    refine S_cons ?_
    refine S1_set (i := 3) hX rfl rfl ?_  -- left
    refine E_call hX h1 (by omega) rfl rfl ?_
    refine A_cons rfl ?_
    refine P_name (i := 2) hX rfl (.inl rfl) rfl (by intro z; cases z) ?_  -- row
    refine A_nil ?_
    refine ⟨[_], ⟨rfl, trivial⟩, trivial, row, rfl, gr, bdD_of gr (fun j => Nat.lt_of_le_of_lt (sr j) (Nat.lt_trans hB9 (Nat.pow_lt_pow_right (by omega) (by omega)))), Nat.le_trans (kr.len gr) (by omega), ?_⟩
    -- for at in row:
    refine S_cons ?_
    refine S1_forD (j := 2) (B := rI) (d := row) hX hp rfl (dw_keys hX rfl (.inl rfl)) (fun n τ => ∃ x4, τ = [.im (rL G.K (rD rI)) rows, .ow p (cD (rD rI)) ls, .im (rD rI) row, .im (rD rI) (leftOf ls row ((row.map (·.1)).take n)), x4, x5]) ⟨_, rfl⟩ (fun n y τ hy hI => ?_) (fun τ hI => ?_)
    · obtain ⟨x4, hτ⟩ := hI
      subst hτ
      rw [List.getElem?_map] at hy
      cases hq : row[n]? with
      | none => rw [hq] at hy; cases hy
      | some q =>
      rw [hq] at hy
      cases hy
      have hqk : (row.map (·.1))[n]? = some q.1 := by rw [List.getElem?_map, hq]; rfl
      have hnl : n < row.length := (List.getElem?_eq_some_iff.mp hq).1
      have hra : dv row q.1 ≠ 0 := by rw [dv_mem gr.nd (List.mem_of_getElem? hq)]; exact gr.nz q (List.mem_of_getElem? hq)
      have hak : q.1 ∉ (row.map (·.1)).take n := by rw [← List.map_take]; exact take_key gr.nd hq
      have hl' : leftOf ls row ((row.map (·.1)).take (n + 1)) = (match dget ls q.1 with
          | some l => combD (leftOf ls row ((row.map (·.1)).take n)) l q.1
          | none => leftOf ls row ((row.map (·.1)).take n)) := by
        rw [take_get hqk]
        unfold leftOf
        rw [List.foldl_append]
        rfl
      have In := I n
      refine T_name (i := 4) hX rfl rfl ?_  -- at
      refine S_one ?_
      refine S1_if ?_
      refine C_din (B := rD rI) hX ?_
      refine E_name (i := 4) hX rfl (.inl rfl) rfl ?_  -- at
      refine ⟨_, .im _ _, ?_⟩
      refine P_name (i := 1) hX rfl (.inr (.inl rfl)) rfl (by intro z; cases z) ?_  -- leads
      refine ⟨_, _, rfl, dof_ow, ?_⟩
      refine ⟨fun hc => ?_, fun hc => ?_⟩
      · obtain ⟨l, hl⟩ := Option.isSome_iff_exists.mp hc
        have hlm := dget_mem hl
        -- left = combined(left, leads[at], at)
        refine S_one ?_
        refine S1_set (i := 3) hX rfl rfl ?_  -- left
        refine E_call hX h2 (by omega) rfl rfl ?_
        refine A_cons rfl ?_
        refine P_name (i := 3) hX rfl (.inl rfl) rfl (by intro z; cases z) ?_  -- left
        refine A_cons rfl ?_
        refine P_val ?_
        refine E_dget (B := rD rI) hX (fun _ _ => rfl) ?_
        refine P_name (i := 1) hX rfl (.inr (.inl rfl)) rfl (by intro z; cases z) ?_  -- leads
        refine E_name (i := 4) hX rfl (.inl rfl) rfl ?_  -- at
        refine ⟨_, .im _ _, _, _, _, rfl, dof_ow, hl, ?_⟩
        refine ⟨_, _, _, .im _ _, ?_⟩
        refine A_cons rfl ?_
        refine P_name (i := 4) hX rfl (.inl rfl) rfl (by intro z; cases z) ?_  -- at
        refine A_nil ?_
        refine ⟨[_, _, _], ⟨rfl, rfl, rfl, trivial⟩, trivial, _, _, _, rfl, In.good, L.good _ hlm, In.ne hD0 hlm hak hra, L.at' _ hlm, bdD_of In.good (fun j => Nat.lt_of_le_of_lt (In.size (fun y => y.elim) j) (Kz n (by omega))), lsz _ hlm, Nat.le_trans (In.keys.len In.good) (by omega), lln _ hlm, ?_⟩
        refine ⟨.im rI q.1, ?_⟩
        rw [hl', hl]
        rfl
      · refine S_nil ?_
        refine ⟨.im rI q.1, ?_⟩
        have hn : dget ls q.1 = none := by
          cases e : dget ls q.1 with
          | none => rfl
          | some l => rw [e] at hc; cases hc
        rw [hl', hn]
        rfl
    obtain ⟨x4, hτ⟩ := hI
    rw [List.length_map] at hτ
    have hfull : (row.map (·.1)).take row.length = row.map (·.1) := List.take_of_length_le (by rw [List.length_map]; exact Nat.le_refl _)
    rw [hfull] at hτ
    subst hτ
    have In := I row.length
    rw [hfull] at In
    have leftz := bdD_of In.good (fun j => Nat.lt_of_le_of_lt (In.size (fun y => y.elim) j) (Kz row.length (Nat.le_refl _)))
    have leftl : (leftOf ls row (row.map (·.1))).length ≤ 1000 := Nat.le_trans (In.keys.len In.good) (by omega)
    have hstep' : redu (rows.take (i + 1)) = (if leftOf ls row (row.map (·.1)) = [] then ls else dput (clearAll (leftOf ls row (row.map (·.1))) (minK ((leftOf ls row (row.map (·.1))).map (·.1))) ls (ls.map (·.1))) (minK ((leftOf ls row (row.map (·.1))).map (·.1))) (leftOf ls row (row.map (·.1)))) := hstep
    have gl := In.good
    generalize leftOf ls row (row.map (·.1)) = left at *
    -- if len(left) > 0:
    refine S_one ?_
    refine S1_if ?_
    refine C_gt ?_
    refine E_len hX rfl B.len rfl ?_
    refine P_name (i := 3) hX rfl (.inl rfl) rfl (by intro z; cases z) ?_  -- left
    refine ⟨_, _, rfl, len_D, ?_⟩
    refine ⟨_, .im _ _, ?_⟩
    refine E_int ?_
    refine ⟨_, .im _ _, ?_⟩
    refine ⟨fun hc => ?_, fun hc => ?_⟩
    · have hne : left ≠ [] := fun z => by rw [z] at hc; cases hc
      rw [if_neg hne] at hstep'
      -- first = min(left)
      refine S_cons ?_
      refine S1_set (i := 5) hX rfl rfl ?_  -- first
      refine E_minD rI hX rfl B.min rfl ?_
      refine P_name (i := 3) hX rfl (.inl rfl) rfl (by intro z; cases z) ?_  -- left
      refine ⟨_, left, rfl, dof_im, hne, fun m hm1 hm2 => ?_⟩
      have hmK := minK_uniq hm1 hm2
      rw [← hmK] at hstep'
      have hlf : dv left m ≠ 0 := by
        obtain ⟨q, hq, e⟩ := List.mem_map.mp hm1
        rw [← e, dv_mem gl.nd hq]; exact gl.nz q hq
      -- for at in list(leads):
      refine S_cons ?_
      refine S1_for hX hp ?_
      refine I_list hX ?_
      refine E_listD (j := 1) hX rfl B.list rfl (.inr (.inl rfl)) rfl fun q => ?_
      refine ⟨_, _, _, .ow frz_L, ?_⟩
      refine ⟨fun n τ => ∃ x4, τ = [.im (rL G.K (rD rI)) rows, .ow p (cD (rD rI)) (clearAll left m ls ((ls.map (·.1)).take n)), .im (rD rI) row, .im (rD rI) left, x4, .im rI m], ⟨_, rfl⟩, fun n y τ hy hI => ?_, fun τ hI => ?_⟩
      · obtain ⟨x4, hτ⟩ := hI
        subst hτ
        rw [List.getElem?_map] at hy
        cases ha : (ls.map (·.1))[n]? with
        | none => rw [ha] at hy; cases hy
        | some a =>
        rw [ha] at hy
        cases hy
        obtain ⟨q0, hq0, hq0e⟩ : ∃ q0, ls[n]? = some q0 ∧ q0.1 = a := by
          rw [List.getElem?_map] at ha
          cases e : ls[n]? with
          | none => rw [e] at ha; cases ha
          | some q0 => rw [e] at ha; exact ⟨q0, rfl, Option.some.inj ha⟩
        have hqm := List.mem_of_getElem? hq0
        have han : a ∉ (ls.map (·.1)).take n := by rw [← hq0e, ← List.map_take]; exact (by
          have hnd : ((ls.map (·.1)).take (n + 1)).Nodup := L.nd.sublist (List.take_sublist _ _)
          rw [take_get ha, List.nodup_append] at hnd
          rw [List.map_take]
          intro z
          rw [hq0e] at z
          exact hnd.2.2 a z a (by simp) rfl)
        have hget : dget (clearAll left m ls ((ls.map (·.1)).take n)) a = some q0.2 := by
          rw [clear_all L.nd]
          refine dget_some_of_mem ?_ ?_
          · rw [keys_map (fun p : Int × DRow => if p.1 ∈ (ls.map (·.1)).take n then clr left m p.2 else p.2)]; exact L.nd
          · refine List.mem_map.mpr ⟨q0, hqm, ?_⟩
            rw [hq0e, if_neg han]
        have hlen : (clearAll left m ls ((ls.map (·.1)).take n)).length < 100000 := by
          rw [clear_all L.nd, List.length_map]
          have := L.len
          omega
        have hcl : clearAll left m ls ((ls.map (·.1)).take (n + 1)) = (if (dget q0.2 m).isSome then dput (clearAll left m ls ((ls.map (·.1)).take n)) a (combD q0.2 left m) else clearAll left m ls ((ls.map (·.1)).take n)) := by
          have e3 : clearAll left m ls ((ls.map (·.1)).take (n + 1)) = (match dget (clearAll left m ls ((ls.map (·.1)).take n)) a with
            | some l => if (dget l m).isSome then dput (clearAll left m ls ((ls.map (·.1)).take n)) a (combD l left m) else clearAll left m ls ((ls.map (·.1)).take n)
            | none => clearAll left m ls ((ls.map (·.1)).take n)) := by
            rw [take_get ha]
            unfold clearAll
            rw [List.foldl_append]
            rfl
          rw [e3, hget]
        generalize clearAll left m ls ((ls.map (·.1)).take n) = cl at *
        refine T_name (i := 4) hX rfl rfl ?_  -- at
        -- if first in leads[at]:
        refine S_one ?_
        refine S1_if ?_
        refine C_din (B := rI) hX ?_
        refine E_name (i := 5) hX rfl (.inl rfl) rfl ?_  -- first
        refine ⟨_, .im _ _, ?_⟩
        refine P_val ?_
        refine E_dget (B := rD rI) hX (fun _ _ => rfl) ?_
        refine P_name (i := 1) hX rfl (.inr (.inl rfl)) rfl (by intro z; cases z) ?_  -- leads
        refine E_name (i := 4) hX rfl (.inl rfl) rfl ?_  -- at
        refine ⟨_, .im _ _, _, _, _, rfl, dof_ow, hget, ?_⟩
        refine ⟨_, _, _, .im _ _, ?_⟩
        refine ⟨_, _, rfl, dof_im, ?_⟩
        refine ⟨fun hc => ?_, fun hc => ?_⟩
        · -- leads[at] = combined(leads[at], left, first)
          refine S_one ?_
          refine S1_dput (j := 1) (B := rD rI) (q := p) hX rfl (.inr (.inl rfl)) ?_
          refine E_call hX h2 (by omega) rfl rfl ?_
          refine A_cons rfl ?_
          refine P_val ?_
          refine E_dget (B := rD rI) hX (fun _ _ => rfl) ?_
          refine P_name (i := 1) hX rfl (.inr (.inl rfl)) rfl (by intro z; cases z) ?_  -- leads
          refine E_name (i := 4) hX rfl (.inl rfl) rfl ?_  -- at
          refine ⟨_, .im _ _, _, _, _, rfl, dof_ow, hget, ?_⟩
          refine ⟨_, _, _, .im _ _, ?_⟩
          refine A_cons rfl ?_
          refine P_name (i := 3) hX rfl (.inl rfl) rfl (by intro z; cases z) ?_  -- left
          refine A_cons rfl ?_
          refine P_name (i := 5) hX rfl (.inl rfl) rfl (by intro z; cases z) ?_  -- first
          refine A_nil ?_
          refine ⟨[_, _, _], ⟨rfl, rfl, rfl, trivial⟩, trivial, _, _, _, rfl, L.good _ hqm, gl, (L.good _ hqm).get.mp hc, hlf, lsz _ hqm, leftz, lln _ hqm, leftl, ?_⟩
          refine ⟨_, .im _ _, _, rfl, ?_⟩
          refine E_name (i := 4) hX rfl (.inl rfl) rfl ?_  -- at
          refine ⟨_, .im _ _, _, rfl, hlen, ?_⟩
          refine ⟨.im rI a, ?_⟩
          rw [hcl, if_pos hc]
          rfl
        · refine S_nil ?_
          refine ⟨.im rI a, ?_⟩
          rw [hcl, if_neg (by rw [hc]; simp)]
          rfl
      obtain ⟨x4, hτ⟩ := hI
      rw [List.length_map, List.length_map] at hτ
      have hfull2 : (ls.map (·.1)).take ls.length = ls.map (·.1) := List.take_of_length_le (by rw [List.length_map]; exact Nat.le_refl _)
      rw [hfull2] at hτ
      subst hτ
      -- leads[first] = left
      refine S_one ?_
      refine S1_dput (j := 1) (B := rD rI) (q := p) hX rfl (.inr (.inl rfl)) ?_
      refine E_name (i := 3) hX rfl (.inl rfl) rfl ?_  -- left
      refine ⟨_, .im _ _, _, rfl, ?_⟩
      refine E_name (i := 5) hX rfl (.inl rfl) rfl ?_  -- first
      refine ⟨_, .im _ _, _, rfl, ?_, ?_⟩
      · have h3 := clear_all (left := left) (f := m) L.nd ls.length
        rw [hfull2] at h3
        rw [h3, List.length_map]
        have := L.len
        omega
      · refine ⟨.im (rD rI) row, .im (rD rI) left, x4, .im rI m, ?_⟩
        rw [hstep']
        rfl
    · have hne : left = [] := by
        cases left with
        | nil => rfl
        | cons c d => exact absurd hc (by simp)
      rw [if_pos hne] at hstep'
      refine S_nil ?_
      refine ⟨.im (rD rI) row, .im (rD rI) left, x4, x5, ?_⟩
      rw [hstep']
  obtain ⟨x2, x3, x4, x5, hτ⟩ := hI
  rw [List.length_map, List.take_length] at hτ
  subst hτ
  have L := hLI rows.length
  rw [List.take_length] at L
  -- return {at: leads[at] for at in sorted(leads)}
  refine S_one ?_
  refine S1_ret ?_
  refine E_dc (own := [("at", 4)]) (rD rI) hX rfl ?_
  refine I_list hX ?_
  refine E_sortedD (rD rI) hX rfl B.sorted rfl ?_
  refine P_name (i := 1) hX rfl (.inr (.inl rfl)) rfl (by intro z; cases z) ?_  -- leads
  refine ⟨_, _, rfl, dof_ow, by have := L.len; omega, fun ys q hperm hsort => ?_⟩
  refine ⟨_, _, _, .ow frz_L, ?_⟩
  have hynd : ys.Nodup := hperm.nodup_iff.mpr L.nd
  refine ⟨fun i out τ => out = (ys.take i).map (fun a => (a, (dget (redu rows) a).getD [])) ∧ τ = [.im (rL G.K (rD rI)) rows, .ow p (cD (rD rI)) (redu rows), x2, x3, .no, x5], ⟨by simp, rfl⟩, fun i y hy => ?_, fun out τ hJ r => ?_⟩
  · rintro out τ ⟨ho, hτ⟩ X1 hX1 hf1
    subst hτ
    rw [List.getElem?_map] at hy
    cases ha : ys[i]? with
    | none => rw [ha] at hy; cases hy
    | some a =>
    rw [ha] at hy
    cases hy
    have hak : a ∈ (redu rows).map (·.1) := hperm.mem_iff.mp (List.mem_of_getElem? ha)
    obtain ⟨d, hd⟩ : ∃ d, dget (redu rows) a = some d := by
      cases e : dget (redu rows) a with
      | none => exact absurd hak (dget_none.mp e)
      | some d => exact ⟨d, rfl⟩
    have hylen : ys.length = (redu rows).length := by rw [hperm.length_eq, List.length_map]
    refine TB_name (i := 4) hX1 rfl rfl (by decide) ?_  -- at
    intro X2 hX2
    refine Cs_nil ?_
    refine ⟨fun _ X3 hX3 => ?_, fun h => by cases h⟩
    refine E_name (i := 4) hX3 rfl (.inl rfl) rfl ?_  -- at
    refine ⟨_, .im _ _, fun X4 hX4 => ?_⟩
    refine E_dget (B := rD rI) hX4 (fun _ _ => rfl) ?_
    refine P_name (i := 1) hX4 rfl (.inr (.inl rfl)) rfl (by intro z; cases z) ?_  -- leads
    refine E_name (i := 4) hX4 rfl (.inl rfl) rfl ?_  -- at
    refine ⟨_, .im _ _, _, _, _, rfl, dof_ow, hd, ?_⟩
    refine ⟨_, .im _ _, ?_, ?_, rfl⟩
    · rw [ho, List.length_map, List.length_take]
      have := L.len
      omega
    · rw [dput_new, ho, take_get ha, List.map_append]
      · show _ = _ ++ [(a, (dget (redu rows) a).getD [])]
        rw [hd]
        rfl
      · rw [ho, List.map_map]
        intro z
        have z' : a ∈ ys.take i := by
          obtain ⟨b, hb, e⟩ := List.mem_map.mp z
          have e' : b = a := e
          rw [← e']; exact hb
        have hnd : (ys.take (i + 1)).Nodup := hynd.sublist (List.take_sublist _ _)
        rw [take_get ha, List.nodup_append] at hnd
        exact hnd.2.2 a z' a (by simp) rfl
  · obtain ⟨ho, hτ⟩ := hJ
    rw [List.length_map, List.take_length] at ho
    rw [ho]
    exact fin_no (hk r ys hperm hsort)
end T
end
section
set_option Elab.async false
set_option linter.all false
set_option maxRecDepth 100000
set_option maxHeartbeats 2000000
set_option exponentiation.threshold 10000
namespace T
open PySem PySem.Spec PyProof.Rows L2
abbrev Mat := List (List Giv)
def rMat (K : PySem.W.Frag) : DR Mat := rL K (rLT K (rGiv K))
def qmat (m : Mat) : List (List Rat) := m.map (·.map gv)
def widthOf : Mat → Nat
  | [] => 0
  | l :: _ => l.length
structure GivOk (w : Nat) (m : Mat) : Prop where
  len : ∀ l ∈ m, l.length = w
  ok : ∀ l ∈ m, ∀ g ∈ l, okG g
  few : m.length ≤ 1000
  wide : w ≤ 1000
/-- numbers that whole_row takes -/
def NumOk (row : List Rat) : Prop := ∃ m : Nat, 0 < m ∧ m < 2 ^ 1000 ∧ ∀ q ∈ row, q.den ∣ m ∧ q.num.natAbs < 2 ^ 1000
structure QOk (w : Nat) (b : Nat × Nat) (qs : List (List Rat)) : Prop where
  num : ∀ row ∈ qs, NumOk row ∧ row.length ≤ 1000
  cert : Cert w b (qs.map wholeRow)
  few : qs.length ≤ 1000
theorem QOk.rows {w : Nat} {b : Nat × Nat} {qs : List (List Rat)} (h : QOk w b qs) : RowsOk w b.1 (qs.map wholeRow) := h.cert.rows
theorem QOk.w6 {w : Nat} {b : Nat × Nat} {qs : List (List Rat)} (h : QOk w b qs) : w ≤ 8 := h.cert.w6
def LeadsOut (rows : List DRow) (out : Leads) : Prop := ∃ ys : List Int, ys.Perm ((redu rows).map (·.1)) ∧ ys.Pairwise (· ≤ ·) ∧ out = ys.map fun a => (a, (dget (redu rows) a).getD [])
theorem LeadsOut.get {w : Nat} {b : Nat × Nat} {rows : List DRow} {out : Leads} (hr : Cert w b rows) (h : LeadsOut rows out) (a : Int) : dget out a = dget (redu rows) a := by
  obtain ⟨ys, hp, _, e⟩ := h
  have L := hr.lis rows.length
  rw [List.take_length] at L
  subst e
  cases hd : dget (redu rows) a with
  | none =>
    rw [dget_none]
    rw [dget_none] at hd
    intro z
    obtain ⟨p, hp', e⟩ := List.mem_map.mp z
    obtain ⟨c, hc, e2⟩ := List.mem_map.mp hp'
    subst e2
    have e3 : c = a := e
    subst e3
    exact hd (hp.mem_iff.mp hc)
  | some d =>
    refine dget_some_of_mem ?_ ?_
    · have : (ys.map fun a => (a, (dget (redu rows) a).getD [])).map (·.1) = ys := by
        rw [List.map_map]
        conv => rhs; rw [← List.map_id ys]
        rfl
      rw [this]
      exact hp.nodup_iff.mpr L.nd
    · refine List.mem_map.mpr ⟨a, hp.mem_iff.mpr (List.mem_map.mpr ⟨(a, d), dget_mem hd, rfl⟩), ?_⟩
      rw [hd]; rfl
theorem LeadsOut.len {rows : List DRow} {out : Leads} (h : LeadsOut rows out) : out.length = (redu rows).length := by
  obtain ⟨ys, hp, _, e⟩ := h
  rw [e, List.length_map, hp.length_eq, List.length_map]
theorem LeadsOut.mem {w : Nat} {b : Nat × Nat} {rows : List DRow} {out : Leads} (hr : Cert w b rows) (h : LeadsOut rows out) {p : Int × DRow} (hp : p ∈ out) : p ∈ redu rows := by
  have L := hr.lis rows.length
  rw [List.take_length] at L
  obtain ⟨ys, hperm, _, e⟩ := h
  subst e
  obtain ⟨c, hc, e2⟩ := List.mem_map.mp hp
  subst e2
  obtain ⟨q, hq, e3⟩ := List.mem_map.mp (hperm.mem_iff.mp hc)
  subst e3
  rw [L.get hq]
  exact hq
/-! ### width_of, made_rows, made_matrix -/
def cWidth (K : PySem.W.Frag) : Ct := fun ks k => ∃ m : Mat, ks = [.im (rMat K) m] ∧ k (.im rI (widthOf m : Int)) [.no]
theorem sc17 : FnScope ["rows"] ["rows"] (defScope (top 18)) := ⟨rfl, rfl, rfl, by decide +kernel, rfl, by decide +kernel, by decide +kernel⟩
theorem f17 {G : Gm} {f : Addr} {fd : FuncData} (F : Fun G.K "width_of" "width_of" (top 18) f fd) (hf : G.mg "width_of" = some (.ref f)) (b : Binds G.K fd ["rows"] [])
    (B : Bi G) : Fn G "width_of" 1 (cWidth G.K) := by
  refine Fn.of F hf b sc17 (fun ks k ⟨m, h, _⟩ => by rw [h]; rfl) fun X hX hfn hp ks k ⟨m, hks, hk⟩ => ?_
  subst hks
  refine S_one ?_
  refine S1_ret ?_
  refine E_if ?_
  refine C_gt ?_
  refine E_len hX rfl B.len rfl ?_
  refine P_name (i := 0) hX rfl (.inl rfl) rfl (by intro z; cases z) ?_  -- rows
  refine ⟨_, _, rfl, len_L, ?_⟩
  refine ⟨_, .im _ _, ?_⟩
  refine E_int ?_
  refine ⟨_, .im _ _, ?_⟩
  refine ⟨fun hc => ?_, fun hc => ?_⟩
  · cases m with
    | nil => cases hc
    | cons l m =>
      refine E_len hX rfl B.len rfl ?_
      refine P_val ?_
      refine E_ix hX (fun _ _ => rfl) ?_
      refine P_name (i := 0) hX rfl (.inl rfl) rfl (by intro z; cases z) ?_  -- rows
      refine E_int ?_
      refine ⟨_, .im _ _, _, rfl, _, _, l, ix_L (by simp [atI, ixN]), ?_⟩
      refine ⟨_, _, _, .im _ _, ?_⟩
      exact ⟨_, _, rfl, len_LT, fin_no hk⟩
  · cases m with
    | nil => refine E_int ?_; exact fin_no hk
    | cons l m => exact absurd hc (by simp)
def cMadeRows (K : PySem.W.Frag) : Ct := fun ks k => ∃ (m : Mat) (w : Nat), ks = [.im (rMat K) m, .im rI (w : Int)] ∧ GivOk w m ∧ ∀ p, k (.ow p (cL (rT K (rQ K))) (qmat m)) [.no, .no]
theorem sc15 : FnScope ["rows", "width", "row"] ["rows", "width"] (defScope (top 16)) := ⟨rfl, rfl, rfl, by decide +kernel, rfl, by decide +kernel, by decide +kernel⟩
theorem f15 {G : Gm} {f : Addr} {fd : FuncData} (F : Fun G.K "made_rows" "made_rows" (top 16) f fd) (hf : G.mg "made_rows" = some (.ref f)) (b : Binds G.K fd ["rows", "width"] [])
    (B : Bi G) (h1 : Fn G "made_row" 4 (cRow G.K)) : Fn G "made_rows" 5 (cMadeRows G.K) := by
  refine Fn.of F hf b sc15 (fun ks k ⟨m, w, h, _⟩ => by rw [h]; rfl) fun X hX hfn hp ks k ⟨m, w, hks, hm, hk⟩ => ?_
  subst hks
  -- for row in rows:
  refine S_cons ?_
  refine S1_for hX hp ?_
  refine I_list hX ?_
  refine E_name (i := 0) hX rfl (.inl rfl) rfl ?_  -- rows
  refine ⟨_, _, _, .im _ _, ?_⟩
  refine ⟨fun i τ => ∃ x2, τ = [.im (rMat G.K) m, .im rI (w : Int), x2], ⟨_, rfl⟩, fun i y τ hy hI => ?_, fun τ hI => ?_⟩
  · obtain ⟨x2, hτ⟩ := hI
    subst hτ
    rw [List.getElem?_map] at hy
    cases hl : m[i]? with
    | none => rw [hl] at hy; cases hy
    | some l =>
    rw [hl] at hy
    cases hy
    refine T_name (i := 2) hX rfl rfl ?_  -- row
    refine S_one ?_
    refine S1_if ?_
    refine C_neI ?_
    refine E_len hX rfl B.len rfl ?_
    refine P_name (i := 2) hX rfl (.inl rfl) rfl (by intro z; cases z) ?_  -- row
    refine ⟨_, _, rfl, len_LT, ?_⟩
    refine ⟨_, .im _ _, ?_⟩
    refine E_name (i := 1) hX rfl (.inl rfl) rfl ?_  -- width
    refine ⟨_, .im _ _, ?_⟩
    have hlw := hm.len l (List.mem_of_getElem? hl)
    refine ⟨fun hc => ?_, fun hc => ?_⟩
    · rw [hlw] at hc; simp at hc
    · refine S_nil ?_
      exact ⟨_, rfl⟩
  obtain ⟨x2, hτ⟩ := hI
  subst hτ
  -- return [made_row(row) for row in rows]
  refine S_one ?_
  refine S1_ret ?_
  refine E_lc (own := [("row", 2)]) (rT G.K (rQ G.K)) hX rfl ?_
  refine I_list hX ?_
  refine E_name (i := 0) hX rfl (.inl rfl) rfl ?_  -- rows
  refine ⟨_, _, _, .im _ _, ?_⟩
  refine ⟨fun i out τ => out = qmat (m.take i) ∧ τ = [.im (rMat G.K) m, .im rI (w : Int), .no], ⟨by simp [qmat], rfl⟩, fun i y hy => ?_, fun out τ hJ p => ?_⟩
  · rintro out τ ⟨ho, hτ⟩ X1 hX1 hf1
    subst hτ
    rw [List.getElem?_map] at hy
    cases hl : m[i]? with
    | none => rw [hl] at hy; cases hy
    | some l =>
    rw [hl] at hy
    cases hy
    have hlm := List.mem_of_getElem? hl
    refine TB_name (i := 2) hX1 rfl rfl (by decide) ?_  -- row
    intro X2 hX2
    refine Cs_nil ?_
    refine ⟨fun _ X3 hX3 => ?_, fun h => by cases h⟩
    refine E_call hX3 h1 (by omega) rfl rfl ?_
    refine A_cons rfl ?_
    refine P_name (i := 2) hX3 rfl (.inl rfl) rfl (by intro z; cases z) ?_  -- row
    refine A_nil ?_
    refine ⟨[_], ⟨rfl, trivial⟩, trivial, l, rfl, hm.ok l hlm, by rw [hm.len l hlm]; exact hm.wide, ?_⟩
    refine ⟨_, .im _ _, ?_, ?_, rfl⟩
    · rw [ho]
      unfold qmat
      rw [List.length_map, List.length_take]
      have := hm.few
      omega
    · rw [ho, take_get hl]
      unfold qmat
      rw [List.map_append]
      rfl
  · obtain ⟨ho, hτ⟩ := hJ
    rw [List.length_map, List.take_length] at ho
    rw [ho]
    exact fin_no (hk p)
def cMadeMat (K : PySem.W.Frag) : Ct := fun ks k => ∃ m : Mat, ks = [.im (rMat K) m] ∧ GivOk (widthOf m) m ∧ ∀ p, k (.ow p (cL (rT K (rQ K))) (qmat m)) [.no]
theorem sc16 : FnScope ["rows"] ["rows"] (defScope (top 17)) := ⟨rfl, rfl, rfl, by decide +kernel, rfl, by decide +kernel, by decide +kernel⟩
theorem f16 {G : Gm} {f : Addr} {fd : FuncData} (F : Fun G.K "made_matrix" "made_matrix" (top 17) f fd) (hf : G.mg "made_matrix" = some (.ref f)) (b : Binds G.K fd ["rows"] [])
    (B : Bi G) (h1 : Fn G "made_rows" 5 (cMadeRows G.K)) (h2 : Fn G "width_of" 1 (cWidth G.K)) : Fn G "made_matrix" 6 (cMadeMat G.K) := by
  refine Fn.of F hf b sc16 (fun ks k ⟨m, h, _⟩ => by rw [h]; rfl) fun X hX hfn hp ks k ⟨m, hks, hm, hk⟩ => ?_
  subst hks
  refine S_one ?_
  refine S1_ret ?_
  refine E_call hX h1 (by omega) rfl rfl ?_
  refine A_cons rfl ?_
  refine P_name (i := 0) hX rfl (.inl rfl) rfl (by intro z; cases z) ?_  -- rows
  refine A_cons rfl ?_
  refine P_val ?_
  refine E_call hX h2 (by omega) rfl rfl ?_
  refine A_cons rfl ?_
  refine P_name (i := 0) hX rfl (.inl rfl) rfl (by intro z; cases z) ?_  -- rows
  refine A_nil ?_
  refine ⟨[_], ⟨rfl, trivial⟩, trivial, m, rfl, ?_⟩
  refine ⟨_, _, _, .im _ _, ?_⟩
  refine A_nil ?_
  exact ⟨[_, _], ⟨rfl, rfl, trivial⟩, trivial, m, widthOf m, rfl, hm, fun p => fin_no (hk p)⟩
/-! ### leads_of, lead_rows -/
def cLeads (K : PySem.W.Frag) : Ct := fun ks k => ∃ (qs : List (List Rat)) (w : Nat) (b : Nat × Nat), ks = [.im (rL K (rT K (rQ K))) qs] ∧ QOk w b qs ∧ ∀ p out, LeadsOut (qs.map wholeRow) out → k (.ow p (cD (rD rI)) out) [.no]
theorem sc18 : FnScope ["rows", "row"] ["rows"] (defScope (top 19)) := ⟨rfl, rfl, rfl, by decide +kernel, rfl, by decide +kernel, by decide +kernel⟩
theorem f18 {G : Gm} {f : Addr} {fd : FuncData} (F : Fun G.K "leads_of" "leads_of" (top 19) f fd) (hf : G.mg "leads_of" = some (.ref f)) (b : Binds G.K fd ["rows"] [])
    (B : Bi G) (h1 : Fn G "whole_reduced" 3 (cRedu G.K)) (h2 : Fn G "whole_row" 1 (cWhole G.K)) : Fn G "leads_of" 4 (cLeads G.K) := by
  refine Fn.of F hf b sc18 (fun ks k ⟨qs, w, b, h, _⟩ => by rw [h]; rfl) fun X hX hfn hp ks k ⟨qs, w, b, hks, hq, hk⟩ => ?_
  subst hks
  refine S_one ?_
  refine S1_ret ?_
  refine E_call hX h1 (by omega) rfl rfl ?_
  refine A_cons rfl ?_
  refine P_val ?_
  refine E_lc (own := [("row", 1)]) (rD rI) hX rfl ?_
  refine I_list hX ?_
  refine E_name (i := 0) hX rfl (.inl rfl) rfl ?_  -- rows
  refine ⟨_, _, _, .im _ _, ?_⟩
  refine ⟨fun i out τ => out = (qs.take i).map wholeRow ∧ τ = [.im (rL G.K (rT G.K (rQ G.K))) qs, .no], ⟨by simp, rfl⟩, fun i y hy => ?_, fun out τ hJ p => ?_⟩
  · rintro out τ ⟨ho, hτ⟩ X1 hX1 hf1
    subst hτ
    rw [List.getElem?_map] at hy
    cases hl : qs[i]? with
    | none => rw [hl] at hy; cases hy
    | some row =>
    rw [hl] at hy
    cases hy
    have hlm := List.mem_of_getElem? hl
    refine TB_name (i := 1) hX1 rfl rfl (by decide) ?_  -- row
    intro X2 hX2
    refine Cs_nil ?_
    refine ⟨fun _ X3 hX3 => ?_, fun h => by cases h⟩
    refine E_call hX3 h2 (by omega) rfl rfl ?_
    refine A_cons rfl ?_
    refine P_name (i := 1) hX3 rfl (.inl rfl) rfl (by intro z; cases z) ?_  -- row
    refine A_nil ?_
    refine ⟨[_], ⟨rfl, trivial⟩, trivial, row, rfl, (hq.num row hlm).1, (hq.num row hlm).2, fun p => ?_⟩
    refine ⟨_, .ow frz_D, ?_, ?_, rfl⟩
    · rw [ho, List.length_map, List.length_take]
      have := hq.few
      omega
    · rw [ho, take_get hl, List.map_append]; rfl
  obtain ⟨ho, hτ⟩ := hJ
  rw [List.length_map, List.take_length] at ho
  subst ho
  refine ⟨_, _, _, .ow (frz_L (K := G.K)), ?_⟩
  refine A_nil ?_
  exact ⟨[_], ⟨rfl, trivial⟩, trivial, _, w, b, rfl, hq.cert, fun p ys h1 h2 => fin_no (hk p _ ⟨ys, h1, h2, rfl⟩)⟩
def leadRows (w : Nat) (ls : Leads) : List (List Rat) := ls.map fun p => (List.range w).map fun (j : Nat) => (dv p.2 (j : Int) : Rat) / (dv p.2 p.1 : Rat)
def cLeadRows (K : PySem.W.Frag) : Ct := fun ks k => ∃ (ls : Leads) (w : Nat), ks = [.im (rD (rD rI)) ls, .im rI (w : Int)] ∧ (∀ p ∈ ls, GoodD p.2 ∧ dv p.2 p.1 ≠ 0 ∧ BdD 4000 p.2) ∧ ls.length ≤ 1000 ∧ w ≤ 1000 ∧ ∀ p, k (.ow p (cL (rT K (rQ K))) (leadRows w ls)) [.no, .no]
end T
end
section
set_option Elab.async false
set_option linter.all false
set_option maxRecDepth 100000
set_option maxHeartbeats 2000000
set_option exponentiation.threshold 10000
namespace T
open PySem PySem.Spec PyProof.Rows L2
theorem LeadsOut.ok {w : Nat} {b : Nat × Nat} {qs : List (List Rat)} {out : Leads} (hq : QOk w b qs) (h : LeadsOut (qs.map wholeRow) out) : (∀ p ∈ out, GoodD p.2 ∧ dv p.2 p.1 ≠ 0 ∧ BdD 4000 p.2) ∧ out.length ≤ 8 := by
  have L := hq.cert.lis (qs.map wholeRow).length
  rw [List.take_length] at L
  refine ⟨fun p hp => ?_, by rw [h.len]; exact Nat.le_trans L.len hq.w6⟩
  have hm := h.mem hq.cert hp
  exact ⟨L.good p hm, L.at' p hm, bdD_of (L.good p hm) fun j => Nat.lt_of_le_of_lt (L.size hm j) hq.cert.m2⟩
/-! ### reduced, rank -/
def cReduced (K : PySem.W.Frag) : Ct := fun ks k => ∃ (m : Mat) (w : Nat) (b : Nat × Nat), ks = [.im (rMat K) m] ∧ GivOk (widthOf m) m ∧ QOk w b (qmat m) ∧ ∀ p out, LeadsOut ((qmat m).map wholeRow) out → k (.ow p (cL (rT K (rQ K))) (leadRows (widthOf m) out)) [.no]
def cRank (K : PySem.W.Frag) : Ct := fun ks k => ∃ (m : Mat) (w : Nat) (b : Nat × Nat), ks = [.im (rMat K) m] ∧ GivOk (widthOf m) m ∧ QOk w b (qmat m) ∧ k (.im rI ((redu ((qmat m).map wholeRow)).length : Int)) [.no]
/-! ### within -/
def cWithin (K : PySem.W.Frag) : Ct := fun ks k => ∃ (m : Mat) (r : List Giv) (w : Nat) (b : Nat × Nat), ks = [.im (rMat K) m, .im (rLT K (rGiv K)) r] ∧ GivOk (widthOf m) m ∧ QOk w b (qmat m) ∧ (∀ g ∈ r, okG g) ∧ r.length ≤ 1000 ∧ (m = [] ∨ r.length = widthOf m) ∧
  NumOk (r.map gv) ∧ RowsOk w b.1 [wholeRow (r.map gv)] ∧ ∀ c : Bool, (c = true ↔ Sp ((qmat m).map wholeRow) (vec (wholeRow (r.map gv)))) → k (.im rB c) [.no, .no]
end T
end
section
set_option Elab.async false
set_option linter.all false
set_option autoImplicit false
set_option maxRecDepth 100000
set_option maxHeartbeats 2000000
namespace T
open PySem PySem.Spec PyProof.Rows L2
/-! ### the laws' bag: [cells, place, digits, mixed, count] -/
structure Bag where
  cells : List Int
  pos : Int
  big : Int
  mixed : Int
  count : Int
def Bag.num (b : Bag) (i : Int) : Int := if i = 1 then b.pos else if i = 2 then b.big else if i = 3 then b.mixed else b.count
def Bag.put (b : Bag) (i v : Int) : Bag := if i = 1 then { b with pos := v } else if i = 2 then { b with big := v } else if i = 3 then { b with mixed := v } else { b with count := v }
def cBag (K : PySem.W.Frag) : CR Bag := ⟨fun R o b => ∃ v, o = .lst [v, .int b.pos, .int b.big, .int b.mixed, .int b.count] ∧ (rL K rI).rel R v b.cells, fun l ⟨v, e, h⟩ => ⟨v, e, DR.up _ l h⟩, fun ⟨v, e, _⟩ => ⟨fun ps z => (by rw [e] at z; cases z), fun f z => (by rw [e] at z; cases z)⟩⟩
/-- n draws so far -/
structure Bg (n : Nat) (b : Bag) : Prop where
  pos : 0 ≤ b.pos
  m0 : 0 ≤ b.mixed
  m1 : b.mixed < 2 ^ 31
  cnt : b.count = (n : Int)
theorem ix_bag0 {K : PySem.W.Frag} {b : Bag} {q : Addr} : IxOf K (.ow q (cBag K) b) 0 (rL K rI) b.cells := fun R H v le ⟨e, hR, o, ho, u, eo, hu⟩ => by
  subst eo; exact ⟨q, _, u, e, .inl (.inl (.inl ho)), rfl, hu⟩
theorem ix_bag {K : PySem.W.Frag} {b : Bag} {q : Addr} {i : Int} (hi : i = 1 ∨ i = 2 ∨ i = 3 ∨ i = 4) : IxOf K (.ow q (cBag K) b) i rI (b.num i) := fun R H v le ⟨e, hR, o, ho, u, eo, hu⟩ => by
  subst eo
  rcases hi with h | h | h | h
  · subst h; exact ⟨q, _, .int b.pos, e, .inl (.inl (.inl ho)), rfl, rfl⟩
  · subst h; exact ⟨q, _, .int b.big, e, .inl (.inl (.inl ho)), rfl, rfl⟩
  · subst h; exact ⟨q, _, .int b.mixed, e, .inl (.inl (.inl ho)), rfl, rfl⟩
  · subst h; exact ⟨q, _, .int b.count, e, .inl (.inl (.inl ho)), rfl, rfl⟩
section
variable {G : Gm} {X : Cx} {N : List Str} {sc : Scope} {n : Nat} {τ τ1 : Tau} {k : KK} {P : Po} {y : Kd} {e a b c tg iter elt kx vx : Expr} {es elts ifs : List Expr} {pos p tpos spos py : Pos} {vs : List Nat} {kt : Tau → Prop}
/-- bag[i], a number -/
theorem E_bag {j : Nat} {x : Str} {q : Addr} {bg : Bag} {i : Int} {ij : _} {ip : Pos} (hX : XF G X N sc n) (hN : N[j]? = some x) (hv : Vis sc x) (ht : τ[j]? = some (.ow q (cBag G.K) bg)) (h : k (.im rI (bg.num i)) τ) (hi : i = 1 ∨ i = 2 ∨ i = 3 ∨ i = 4 := by decide)
    (hd : (x == ("__debug__" : Str)) = false := by decide) (hcd : (x == ("__classdict__" : Str)) = false := by decide) : E X (.Subscript (.Name x p) (.Constant (.int i) ij ip) pos) τ k :=
  E_ix hX (fun _ _ => rfl) (P_name hX hN hv ht (by intro z; cases z) (E_int ⟨_, .im _ _, _, ht, _, _, _, ix_bag hi, h⟩) hd hcd)
/-- bag[i] = e -/
theorem S1_bag {j : Nat} {x : Str} {q : Addr} {i : Int} {ij : _} {ip pos' : Pos} (hX : XF G X N sc n) (hN : N[j]? = some x) (hv : Vis sc x)
    (h : E X c τ fun z τ1 => ∃ w, Fz z (.im rI w) ∧ ∃ bg, τ1[j]? = some (.ow q (cBag G.K) bg) ∧ P.nx (τ1.set j (.ow q (cBag G.K) (bg.put i w)))) (hi : i = 1 ∨ i = 2 ∨ i = 3 ∨ i = 4 := by decide)
    (hs : swapsWithSole [.Subscript (.Name x p) (.Constant (.int i) ij ip) pos'] c pos.line X.env = pure false := by rfl) (hw : swappedStores [.Subscript (.Name x p) (.Constant (.int i) ij ip) pos'] c X.env = pure none := by rfl)
    (hd : (x == ("__debug__" : Str)) = false := by decide) (hcd : (x == ("__classdict__" : Str)) = false := by decide) :
    S1 X (.Assign [.Subscript (.Name x p) (.Constant (.int i) ij ip) pos'] c pos) τ P :=
  S1.of (ps_asg pe_sem (pg_sub (pn hX hN hv hd hcd) pe_int set_list (by intro _; rfl)) hs hw (by rfl)) fun σ H F R0 R D ok qq => h σ H F R0 R _ ok fun z τ1 v R1 H1 ⟨w, fz, bg, ht, hk⟩ l1 ok1 w1 => by
    obtain ⟨R2, l2, ok2, r2⟩ := fz_rel ok1 w1 fz
    cases r2
    obtain ⟨hs0, hR, hF, o, hH, u, eo, hu⟩ := ok2.cell ht
    subst eo
    refine ⟨.ref q, hs0, ?_⟩
    rcases hi with h | h | h | h
    · subst h
      exact ⟨q, _, 1, 1, rfl, rfl, hH, rfl, qq.nx _ σ R2 _ hk (l1.trans l2) (ok2.write ht ⟨u, rfl, hu⟩)⟩
    · subst h
      exact ⟨q, _, 2, 2, rfl, rfl, hH, rfl, qq.nx _ σ R2 _ hk (l1.trans l2) (ok2.write ht ⟨u, rfl, hu⟩)⟩
    · subst h
      exact ⟨q, _, 3, 3, rfl, rfl, hH, rfl, qq.nx _ σ R2 _ hk (l1.trans l2) (ok2.write ht ⟨u, rfl, hu⟩)⟩
    · subst h
      exact ⟨q, _, 4, 4, rfl, rfl, hH, rfl, qq.nx _ σ R2 _ hk (l1.trans l2) (ok2.write ht ⟨u, rfl, hu⟩)⟩
/-- [cells, place, digits, mixed, count] -/
theorem E_lstBag {e0 e1 e2 e3 e4 : Expr} (hs : noStar [e0, e1, e2, e3, e4] = true) (h : Items X [e0, e1, e2, e3, e4] τ fun ys τ' => ∃ (cs : List Int) (a b c d : Int), ys = [.im (rL G.K rI) cs, .im rI a, .im rI b, .im rI c, .im rI d] ∧ ∀ p, k (.ow p (cBag G.K) ⟨cs, a, b, c, d⟩) τ') : E X (.List [e0, e1, e2, e3, e4] pos) τ k :=
  E.of (pe_lst (pa_all (star_of hs))) fun σ H F R0 R Q ok q => Items.run h σ H F R0 R _ ok fun ys τ' vs R' H' ⟨cs, a, b, c, d, e, hk⟩ le ok' hv =>
    ⟨by rw [vs_len hv, e, sizeLine_eq]; simp, fun p hp => by
      obtain ⟨hR, hF, ho⟩ := ok'.fresh hp
      subst e
      cases hv with
      | cons r0 hv => cases hv with
        | cons r1 hv => cases hv with
          | cons r2 hv => cases hv with
            | cons r3 hv => cases hv with
              | cons r4 hv =>
                cases hv
                obtain ⟨_, r1⟩ := r1
                obtain ⟨_, r2⟩ := r2
                obtain ⟨_, r3⟩ := r3
                obtain ⟨_, r4⟩ := r4
                cases r1; cases r2; cases r3; cases r4
                exact q _ τ' _ _ _ (hk p) le (ok'.new hp) ⟨⟨rfl, hR, _, upd_same, _, rfl, r0.2⟩, fun p' z => by cases z; exact ⟨hF, ho⟩⟩⟩
end
end T
end
section
set_option Elab.async false
set_option linter.all false
set_option maxRecDepth 100000
set_option maxHeartbeats 2000000
set_option exponentiation.threshold 10000
namespace T
open PySem PySem.Spec PyProof.Rows L2
/-! ### the bag -/
/-- the script: a list of whole numbers, known to the top or to nobody -/
def rSc (K : PySem.W.Frag) : DR (List Int) := ⟨fun R v l => ∃ p xs, v = .ref p ∧ SqL K R p xs ∧ Paired (rI.rel R) xs l, fun l ⟨p, xs, e, h, hp⟩ => ⟨p, xs, e, l.sqL h, paired_up rI l hp⟩⟩
theorem slof_Sc {K : PySem.W.Frag} {l : List Int} : SlOf K (.im (rSc K) l) rI l := fun R H v le ⟨p, xs, e, h, hp⟩ => ⟨p, xs, e, le.sqL h, hp⟩
def cBagNew (K : PySem.W.Frag) : Ct := fun ks k => ∃ l : List Int, ks = [.im (rSc K) l] ∧ l.length ≤ 1000 ∧ ∀ p b, Bg 0 b → k (.ow p (cBag K) b) [.no]
theorem sc24 : FnScope ["script", "mixed", "cell"] ["script"] (defScope (top 30)) := ⟨rfl, rfl, rfl, by decide +kernel, rfl, by decide +kernel, by decide +kernel⟩
theorem f24 {G : Gm} {f : Addr} {fd : FuncData} (F : Fun G.K "_law_bag" "_law_bag" (top 30) f fd) (hf : G.mg "_law_bag" = some (.ref f)) (b : Binds G.K fd ["script"] [])
    (B : Bi G) : Fn G "_law_bag" 1 (cBagNew G.K) := by
  refine Fn.of F hf b sc24 (fun ks k ⟨l, h, _⟩ => by rw [h]; rfl) fun X hX hfn hp ks k ⟨l, hks, hl, hk⟩ => ?_
  subst hks
  have cl : ∀ o1 o2 : Option Int, (cutL l o1 o2).length ≤ 1000 := fun o1 o2 => by
    unfold cutL
    rw [List.length_take, List.length_drop]; omega
  -- mixed = 17793
  refine S_cons ?_
  refine S1_set (i := 1) hX rfl rfl ?_  -- mixed
  refine E_int ?_
  -- for cell in script[:63]:
  refine S_cons ?_
  refine S1_for hX hp ?_
  refine I_list hX ?_
  refine E_slL (A := rI) hX ?_
  refine P_name (i := 0) hX rfl (.inl rfl) rfl (by intro z; cases z) ?_  -- script
  refine E_int ?_
  refine ⟨_, .im _ _, ?_⟩
  refine ⟨_, _, rfl, slof_Sc, fun p => ?_⟩
  refine ⟨_, _, _, .ow (frz_L (K := G.K)), ?_⟩
  refine ⟨fun i τ => ∃ m x2, 0 ≤ m ∧ m < 2 ^ 31 ∧ τ = [.im (rSc G.K) l, .im rI m, x2], ⟨17793, _, by decide, by decide, rfl⟩, fun i y τ hy hI => ?_, fun τ hI => ?_⟩
  · obtain ⟨m, x2, m0, m1, hτ⟩ := hI
    subst hτ
    obtain ⟨c, hc, ey⟩ := mapK_get hy
    subst ey
    refine T_name (i := 2) hX rfl rfl ?_  -- cell
    refine S_one ?_
    refine S1_set (i := 1) hX rfl rfl ?_  -- mixed
    refine E_mod ?_
    refine E_int1 hX rfl B.int rfl ?_
    refine E_add ?_
    refine E_add ?_
    refine E_mul ?_
    refine E_name (i := 1) hX rfl (.inl rfl) rfl ?_  -- mixed
    refine ⟨_, .im _ _, ?_⟩
    refine E_int ?_
    refine ⟨_, .im _ _, mulx_ok (a := 31) (b := 31) (by omega) (by decide) (by omega), ?_⟩
    refine ⟨_, .im _ _, ?_⟩
    refine E_mod ?_
    refine E_int1 hX rfl B.int rfl ?_
    refine E_name (i := 2) hX rfl (.inl rfl) rfl ?_  -- cell
    refine ⟨_, .im _ _, ?_⟩
    refine ⟨_, .im _ _, ?_⟩
    refine E_int ?_
    refine ⟨_, .im _ _, by decide, ?_⟩
    refine ⟨_, .im _ _, ?_⟩
    refine ⟨_, .im _ _, ?_⟩
    refine E_int ?_
    refine ⟨_, .im _ _, ?_⟩
    refine ⟨_, .im _ _, ?_⟩
    refine ⟨_, .im _ _, ?_⟩
    refine E_int ?_
    refine ⟨_, .im _ _, by decide, ?_⟩
    exact ⟨_, .im rI c, by omega, by omega, rfl⟩
  obtain ⟨m, x2, m0, m1, hτ⟩ := hI
  subst hτ
  -- return [[int(cell) for cell in script[:63]], 0, 0, mixed, 0]
  refine S_one ?_
  refine S1_ret ?_
  refine E_lstBag (G := G) rfl ?_
  refine E_lc (own := [("cell", 2)]) rI hX rfl ?_
  refine I_list hX ?_
  refine E_slL (A := rI) hX ?_
  refine P_name (i := 0) hX rfl (.inl rfl) rfl (by intro z; cases z) ?_  -- script
  refine E_int ?_
  refine ⟨_, .im _ _, ?_⟩
  refine ⟨_, _, rfl, slof_Sc, fun p => ?_⟩
  refine ⟨_, _, _, .ow (frz_L (K := G.K)), ?_⟩
  refine ⟨fun i out τ => out = (cutL l none (some 63)).take i ∧ τ = [.im (rSc G.K) l, .im rI m, .no], ⟨rfl, rfl⟩, fun i y hy => ?_, fun out τ hJ p => ?_⟩
  · rintro out τ ⟨ho, hτ⟩ X1 hX1 hf1
    subst hτ
    obtain ⟨c, hc, ey⟩ := mapK_get hy
    subst ey
    refine TB_name (i := 2) hX1 rfl rfl (by decide) ?_  -- cell
    intro X2 hX2
    refine Cs_nil ?_
    refine ⟨fun _ X3 hX3 => ?_, fun h => by cases h⟩
    refine E_int1 hX3 rfl B.int rfl ?_
    refine E_name (i := 2) hX3 rfl (.inl rfl) rfl ?_  -- cell
    refine ⟨_, .im _ _, ?_⟩
    refine ⟨_, .im _ _, ?_, ?_, rfl⟩
    · rw [ho, List.length_take]
      have := cl none (some 63)
      omega
    · rw [ho, take_get hc]
  obtain ⟨ho, hτ⟩ := hJ
  subst hτ
  refine ⟨_, .ow (frz_L (K := G.K)), ?_⟩
  refine E_int ?_
  refine ⟨_, .im _ _, ?_⟩
  refine E_int ?_
  refine ⟨_, .im _ _, ?_⟩
  refine E_name (i := 1) hX rfl (.inl rfl) rfl ?_  -- mixed
  refine ⟨_, .im _ _, ?_⟩
  refine E_int ?_
  refine ⟨_, .im _ _, ?_⟩
  exact ⟨_, _, _, _, _, rfl, fun p => fin_no (hk p _ ⟨Int.le_refl 0, m0, m1, rfl⟩)⟩
def cDraw (K : PySem.W.Frag) : Ct := fun ks k => ∃ (p : Addr) (b : Bag) (n : Nat) (m : Int), ks = [.ow p (cBag K) b, .im rI m] ∧ Bg n b ∧ n < 2 ^ 30 ∧ 0 < m ∧ m < 2 ^ 30 ∧ ∀ (d : Nat) (b' : Bag), (d : Int) < m → Bg (n + 1) b' → k (.im rI (d : Int)) [.ow p (cBag K) b', .no]
theorem fin_bag {p : Addr} {C : CR Bag} {b b' : Bag} {x : Kd} {xs : List Kd} {τ : Tau} {k : Kd → List Kd → Prop} {y : Kd} (j : Nat) (hj : τ[j]? = some (.ow p C b')) (h : k y (.ow p C b' :: List.replicate xs.length .no)) : Fin (.ow p C b :: xs) k y τ := by
  refine ⟨_, h, by simp, fun i z e => ?_⟩
  cases i with
  | zero =>
    cases e
    exact .inr ⟨⟨j, hj⟩, _, p, rfl, rfl, rfl⟩
  | succ i =>
    have e' : (List.replicate xs.length Kd.no)[i]? = some z := e
    obtain ⟨_, e2⟩ := List.getElem?_eq_some_iff.mp e'
    rw [List.getElem_replicate] at e2
    exact .inl e2.symm
theorem sc25 : FnScope ["bag", "many", "cell", "digit", "mixed"] ["bag", "many"] (defScope (top 31)) := ⟨rfl, rfl, rfl, by decide +kernel, rfl, by decide +kernel, by decide +kernel⟩
theorem f25 {G : Gm} {f : Addr} {fd : FuncData} (F : Fun G.K "_law_draw" "_law_draw" (top 31) f fd) (hf : G.mg "_law_draw" = some (.ref f)) (b : Binds G.K fd ["bag", "many"] [])
    (B : Bi G) : Fn G "_law_draw" 1 (cDraw G.K) := by
  refine Fn.of F hf b sc25 (fun ks k ⟨p, b, n, m, h, _⟩ => by rw [h]; rfl) fun X hX hfn hp ks k ⟨p, b, n, m, hks, hb, hn, hm0, hm1, hk⟩ => ?_
  subst hks
  have dk : ∀ (x : Int) (b' : Bag), 0 ≤ x → x < m → Bg (n + 1) b' → k (.im rI x) [.ow p (cBag G.K) b', .no] := fun x b' h0 h1 hb' => by
    have e : x = ((x.toNat : Nat) : Int) := by omega
    rw [e]
    exact hk x.toNat b' (by omega) hb'
  -- bag[4] = bag[4] + 1
  refine S_cons ?_
  refine S1_bag (q := p) (j := 0) (i := 4) hX rfl (.inl rfl) ?_
  refine E_add ?_
  refine E_bag (j := 0) (i := 4) hX rfl (.inl rfl) rfl ?_
  refine ⟨_, .im _ _, ?_⟩
  refine E_int ?_
  refine ⟨_, .im _ _, ?_⟩
  refine ⟨_, .im _ _, _, rfl, ?_⟩
  have hb1 : Bg (n + 1) (b.put 4 (b.num 4 + 1)) := ⟨hb.pos, hb.m0, hb.m1, by
    show b.count + 1 = _
    rw [hb.cnt]; rfl⟩
  generalize b.put 4 (b.num 4 + 1) = b1 at hb1
  -- if bag[2] == 0 and bag[1] < len(bag[0]):
  refine S_join (fun τ => ∃ b2 x2, Bg (n + 1) b2 ∧ τ = [.ow p (cBag G.K) b2, .im rI m, x2, .no, .no]) ?_ fun τ ⟨b2, x2, hb2, hτ⟩ => ?_
  · refine S1_if ?_
    refine C_and2 ?_
    refine C_eqI ?_
    refine E_bag (j := 0) (i := 2) hX rfl (.inl rfl) rfl ?_
    refine ⟨_, .im _ _, ?_⟩
    refine E_int ?_
    refine ⟨_, .im _ _, ?_⟩
    refine ⟨fun _ => ?_, fun _ => ?_⟩
    rotate_left
    · exact ⟨fun h => Bool.noConfusion h, fun _ => S_nil ⟨b1, _, hb1, rfl⟩⟩
    refine C_lt ?_
    refine E_bag (j := 0) (i := 1) hX rfl (.inl rfl) rfl ?_
    refine ⟨_, .im _ _, ?_⟩
    refine E_len hX rfl B.len rfl ?_
    refine P_val ?_
    refine E_ix hX (fun _ _ => rfl) ?_
    refine P_name (i := 0) hX rfl (.inl rfl) rfl (by intro z; cases z) ?_  -- bag
    refine E_int ?_
    refine ⟨_, .im _ _, _, rfl, _, _, _, ix_bag0, ?_⟩
    refine ⟨_, _, _, .im _ _, ?_⟩
    refine ⟨_, _, rfl, len_L, ?_⟩
    refine ⟨_, .im _ _, ?_⟩
    refine ⟨fun hc => ?_, fun hc => S_nil ⟨b1, _, hb1, rfl⟩⟩
    have hlt : b1.pos < (b1.cells.length : Int) := by
      have := of_decide_eq_true hc
      exact this
    have hp0 := hb1.pos
    obtain ⟨c, hc⟩ : ∃ c, atI b1.cells b1.pos = some c := by
      have e : b1.pos = ((b1.pos.toNat : Nat) : Int) := by omega
      have hl : b1.pos.toNat < b1.cells.length := by omega
      rw [e]
      exact ⟨_, atI_nat (List.getElem?_eq_getElem hl)⟩
    -- cell = bag[0][bag[1]]
    refine S_cons ?_
    refine S1_set (i := 2) hX rfl rfl ?_  -- cell
    refine E_ix hX (fun _ _ => rfl) ?_
    refine P_val ?_
    refine E_ix hX (fun _ _ => rfl) ?_
    refine P_name (i := 0) hX rfl (.inl rfl) rfl (by intro z; cases z) ?_  -- bag
    refine E_int ?_
    refine ⟨_, .im _ _, _, rfl, _, _, _, ix_bag0, ?_⟩
    refine ⟨_, _, _, .im _ _, ?_⟩
    refine E_bag (j := 0) (i := 1) hX rfl (.inl rfl) rfl ?_
    refine ⟨_, .im _ _, _, rfl, _, _, c, ix_L hc, ?_⟩
    -- bag[1] = bag[1] + 1
    refine S_cons ?_
    refine S1_bag (q := p) (j := 0) (i := 1) hX rfl (.inl rfl) ?_
    refine E_add ?_
    refine E_bag (j := 0) (i := 1) hX rfl (.inl rfl) rfl ?_
    refine ⟨_, .im _ _, ?_⟩
    refine E_int ?_
    refine ⟨_, .im _ _, ?_⟩
    refine ⟨_, .im _ _, _, rfl, ?_⟩
    have hb3 : Bg (n + 1) (b1.put 1 (b1.num 1 + 1)) := ⟨by
      show 0 ≤ b1.pos + 1
      omega, hb1.m0, hb1.m1, hb1.cnt⟩
    generalize b1.put 1 (b1.num 1 + 1) = b3 at hb3
    -- if cell >= 10 ** 18:
    refine S_one ?_
    refine S1_if ?_
    refine C_ge ?_
    refine E_name (i := 2) hX rfl (.inl rfl) rfl ?_  -- cell
    refine ⟨_, .im _ _, ?_⟩
    refine E_pow ?_
    refine E_int ?_
    refine ⟨_, .im _ _, ?_⟩
    refine E_int ?_
    refine ⟨_, .im _ _, ⟨by decide, by decide, by decide⟩, ?_⟩
    refine ⟨_, .im _ _, ?_⟩
    refine ⟨fun hc => ?_, fun hc => ?_⟩
    · refine S_one ?_
      refine S1_bag (q := p) (j := 0) (i := 2) hX rfl (.inl rfl) ?_
      refine E_name (i := 2) hX rfl (.inl rfl) rfl ?_  -- cell
      refine ⟨_, .im _ _, _, rfl, ?_⟩
      exact ⟨b3.put 2 c, _, ⟨hb3.pos, hb3.m0, hb3.m1, hb3.cnt⟩, rfl⟩
    · refine S_one ?_
      refine S1_bag (q := p) (j := 0) (i := 3) hX rfl (.inl rfl) ?_
      refine E_mod ?_
      refine E_int1 hX rfl B.int rfl ?_
      refine E_add ?_
      refine E_add ?_
      refine E_mul ?_
      refine E_bag (j := 0) (i := 3) hX rfl (.inl rfl) rfl ?_
      refine ⟨_, .im _ _, ?_⟩
      refine E_int ?_
      refine ⟨_, .im _ _, mulx_ok (a := 31) (b := 31) (by have h1 := hb3.m0; have h2 := hb3.m1; show b3.mixed.natAbs < _; omega) (by decide) (by omega), ?_⟩
      refine ⟨_, .im _ _, ?_⟩
      refine E_mul ?_
      refine E_mod ?_
      refine E_int1 hX rfl B.int rfl ?_
      refine E_name (i := 2) hX rfl (.inl rfl) rfl ?_  -- cell
      refine ⟨_, .im _ _, ?_⟩
      refine ⟨_, .im _ _, ?_⟩
      refine E_int ?_
      refine ⟨_, .im _ _, by decide, ?_⟩
      refine ⟨_, .im _ _, ?_⟩
      refine E_int ?_
      refine ⟨_, .im _ _, mulx_ok (a := 32) (b := 31) (by omega) (by decide) (by omega), ?_⟩
      refine ⟨_, .im _ _, ?_⟩
      refine ⟨_, .im _ _, ?_⟩
      refine E_int ?_
      refine ⟨_, .im _ _, ?_⟩
      refine ⟨_, .im _ _, ?_⟩
      refine ⟨_, .im _ _, ?_⟩
      refine E_int ?_
      refine ⟨_, .im _ _, by decide, ?_⟩
      refine ⟨_, .im _ _, _, rfl, ?_⟩
      refine ⟨b3.put 3 ((b3.num 3 * 69073 + c % 2147483587 * 30013 + 223) % 2147483579), _, ⟨hb3.pos, ?_, ?_, hb3.cnt⟩, rfl⟩
      · exact Int.emod_nonneg _ (by decide)
      · exact Int.lt_trans (Int.emod_lt_of_pos _ (by decide)) (by decide)
  subst hτ
  -- if bag[2] > 0:
  refine S_cons ?_
  refine S1_if ?_
  refine C_gt ?_
  refine E_bag (j := 0) (i := 2) hX rfl (.inl rfl) rfl ?_
  refine ⟨_, .im _ _, ?_⟩
  refine E_int ?_
  refine ⟨_, .im _ _, ?_⟩
  refine ⟨fun hc => ?_, fun hc => ?_⟩
  · -- digit = int(bag[2]) % many
    refine S_cons ?_
    refine S1_set (i := 3) hX rfl rfl ?_  -- digit
    refine E_mod ?_
    refine E_int1 hX rfl B.int rfl ?_
    refine E_bag (j := 0) (i := 2) hX rfl (.inl rfl) rfl ?_
    refine ⟨_, .im _ _, ?_⟩
    refine ⟨_, .im _ _, ?_⟩
    refine E_name (i := 1) hX rfl (.inl rfl) rfl ?_  -- many
    refine ⟨_, .im _ _, hm0, ?_⟩
    -- bag[2] = bag[2] // many
    refine S_cons ?_
    refine S1_bag (q := p) (j := 0) (i := 2) hX rfl (.inl rfl) ?_
    refine E_fdivB ?_
    refine E_bag (j := 0) (i := 2) hX rfl (.inl rfl) rfl ?_
    refine ⟨_, .im _ _, ?_⟩
    refine E_name (i := 1) hX rfl (.inl rfl) rfl ?_  -- many
    refine ⟨_, .im _ _, divB_ok (by omega) (Nat.lt_trans (show m.natAbs < 2 ^ 30 by omega) (Nat.pow_lt_pow_right (by omega) (by omega))), ?_⟩
    refine ⟨_, .im _ _, _, rfl, ?_⟩
    -- return digit
    refine S_one ?_
    refine S1_ret ?_
    refine E_name (i := 3) hX rfl (.inl rfl) rfl ?_  -- digit
    exact fin_bag (x := .no) (xs := [.im rI m]) 0 rfl (dk _ _ (Int.emod_nonneg _ (by omega)) (Int.emod_lt_of_pos _ hm0) ⟨hb2.pos, hb2.m0, hb2.m1, hb2.cnt⟩)
  refine S_nil ?_
  have c0 := hb2.cnt
  have c1 := hb2.m0
  have c2 := hb2.m1
  -- mixed = int(bag[3] + bag[4] * 1299721) % 2147483647
  refine S_cons ?_
  refine S1_set (i := 4) hX rfl rfl ?_  -- mixed
  refine E_mod ?_
  refine E_int1 hX rfl B.int rfl ?_
  refine E_add ?_
  refine E_bag (j := 0) (i := 3) hX rfl (.inl rfl) rfl ?_
  refine ⟨_, .im _ _, ?_⟩
  refine E_mul ?_
  refine E_bag (j := 0) (i := 4) hX rfl (.inl rfl) rfl ?_
  refine ⟨_, .im _ _, ?_⟩
  refine E_int ?_
  refine ⟨_, .im _ _, mulx_ok (a := 31) (b := 31) (by show b2.count.natAbs < _; omega) (by decide) (by omega), ?_⟩
  refine ⟨_, .im _ _, ?_⟩
  refine ⟨_, .im _ _, ?_⟩
  refine ⟨_, .im _ _, ?_⟩
  refine E_int ?_
  refine ⟨_, .im _ _, by decide, ?_⟩
  -- mixed = int(mixed ** 5) % 2147483647
  refine S_cons ?_
  refine S1_set (i := 4) hX rfl rfl ?_  -- mixed
  refine E_mod ?_
  refine E_int1 hX rfl B.int rfl ?_
  refine E_pow ?_
  refine E_name (i := 4) hX rfl (.inl rfl) rfl ?_  -- mixed
  refine ⟨_, .im _ _, ?_⟩
  refine E_int ?_
  refine ⟨_, .im _ _, ⟨by decide, by decide, by omega⟩, ?_⟩
  refine ⟨_, .im _ _, ?_⟩
  refine ⟨_, .im _ _, ?_⟩
  refine E_int ?_
  refine ⟨_, .im _ _, by decide, ?_⟩
  -- return int(mixed // 97) % many
  refine S_one ?_
  refine S1_ret ?_
  refine E_mod ?_
  refine E_int1 hX rfl B.int rfl ?_
  refine E_fdivB ?_
  refine E_name (i := 4) hX rfl (.inl rfl) rfl ?_  -- mixed
  refine ⟨_, .im _ _, ?_⟩
  refine E_int ?_
  refine ⟨_, .im _ _, divB_ok (by decide) (Nat.lt_trans (show (97 : Int).natAbs < 2 ^ 30 by decide) (Nat.pow_lt_pow_right (by omega) (by omega))), ?_⟩
  refine ⟨_, .im _ _, ?_⟩
  refine ⟨_, .im _ _, ?_⟩
  refine E_name (i := 1) hX rfl (.inl rfl) rfl ?_  -- many
  refine ⟨_, .im _ _, hm0, ?_⟩
  exact fin_bag (x := .no) (xs := [.im rI m]) 0 rfl (dk _ _ (Int.emod_nonneg _ (by omega)) (Int.emod_lt_of_pos _ hm0) hb2)
end T
end
section
set_option Elab.async false
set_option linter.all false
set_option autoImplicit false
set_option maxRecDepth 100000
set_option maxHeartbeats 2000000
namespace T
open PySem PySem.Spec PyProof.Rows L2
section
variable {G : Gm} {X : Cx} {N : List Str} {sc : Scope} {n : Nat} {τ τ1 : Tau} {k : KK} {P : Po} {y : Kd} {e a b c : Expr} {pos p : Pos}
/-- x.bit_length() -/
theorem E_bits {apos : Pos} (h : E X a τ fun x τ1 => ∃ i, Fz x (.im rI i) ∧ k (.im rI (Builtin.Int.intBits i : Nat)) τ1) (hbase : attributeBase a "bit_length" X.env (eval a X.env) = eval a X.env := by rfl) (hline : (apos.endLine == pos.line) = true := by rfl) :
    E X (.Call (.Attribute a "bit_length" apos) [] [] pos) τ k :=
  E.of (pe_bits pe_sem hbase hline) fun σ H F R0 R Q ok q => h σ H F R0 R _ ok fun x τ1 v R1 H1 ⟨i, fz, hk⟩ l1 ok1 w1 => by
    obtain ⟨R2, l2, ok2, r2⟩ := fz_rel ok1 w1 fz
    cases r2
    exact ⟨i, rfl, q _ τ1 _ R2 H1 hk (l1.trans l2) ok2 (VOk.im rfl)⟩
/-- a name's own cell handed on: the slot is forgotten -/
theorem E_own {i : Nat} {x : Str} {γ : Type} {q : Addr} {C : CR γ} {c0 : γ} (hX : XF G X N sc n) (hN : N[i]? = some x) (hv : Vis sc x) (ht : τ[i]? = some (.ow q C c0)) (h : k (.ow q C c0) (τ.set i .no))
    (hd : (x == ("__debug__" : Str)) = false := by decide) (hcd : (x == ("__classdict__" : Str)) = false := by decide) : E X (.Name x pos) τ k :=
  E.of (pe_var (i := i) (by rw [hX.eN]; exact hN) (hX.vis hv) hd hcd) fun σ H F R0 R Q ok qq => by
    obtain ⟨hs, hR, hF, o, hH, hc⟩ := ok.cell ht
    refine ⟨.ref q, hs, qq _ _ _ R H h (Le.refl R) (ok.forget i) ⟨⟨rfl, hR, o, hH, hc⟩, fun p' z => ?_⟩⟩
    cases z
    refine ⟨hF, fun j l el hl => ?_⟩
    by_cases hj : i = j
    · subst hj
      by_cases hi : i < τ.length
      · rw [List.getElem?_set_self hi] at el; cases el; exact hl
      · rw [List.getElem?_eq_none (by simpa using hi)] at el; cases el
    · rw [List.getElem?_set_ne hj] at el
      exact hj (ok.inj i j _ l q ht el rfl hl)
theorem intBits_lt (i : Int) : i.natAbs < 2 ^ Builtin.Int.intBits i := by
  unfold Builtin.Int.intBits
  split
  · rename_i h
    have : i = 0 := by simpa using h
    subst this; decide
  · rename_i h
    have h0 : i.natAbs ≠ 0 := by
      intro z
      exact h (by simpa using z)
    exact (Nat.log2_lt h0).mp (Nat.lt_succ_self _)
end
end T
end
section
set_option Elab.async false
set_option linter.all false
set_option maxRecDepth 100000
set_option maxHeartbeats 2000000
set_option exponentiation.threshold 10000
namespace T
open PySem PySem.Spec PyProof.Rows L2
/-! ### _law_of, _law_mixed -/
def cOf (K : PySem.W.Frag) : Ct := fun ks k => ∃ (α : Type) (A : DR α) (l : List α) (p : Addr) (b : Bag) (n : Nat), ks = [.ow p (cBag K) b, .im (rL K A) l] ∧ Bg n b ∧ n < 2 ^ 30 ∧ 0 < l.length ∧ l.length < 1000 ∧ ∀ a ∈ l, ∀ b', Bg (n + 1) b' → k (.im A a) [.ow p (cBag K) b', .no]
theorem sc26 : FnScope ["bag", "menu"] ["bag", "menu"] (defScope (top 32)) := ⟨rfl, rfl, rfl, by decide +kernel, rfl, by decide +kernel, by decide +kernel⟩
theorem f26 {G : Gm} {f : Addr} {fd : FuncData} (F : Fun G.K "_law_of" "_law_of" (top 32) f fd) (hf : G.mg "_law_of" = some (.ref f)) (b : Binds G.K fd ["bag", "menu"] [])
    (B : Bi G) (h1 : Fn G "_law_draw" 1 (cDraw G.K)) : Fn G "_law_of" 2 (cOf G.K) := by
  refine Fn.of F hf b sc26 (fun ks k ⟨α, A, l, p, b, n, h, _⟩ => by rw [h]; rfl) fun X hX hfn hp ks k ⟨α, A, l, p, b, n, hks, hb, hn, hl0, hl1, hk⟩ => ?_
  subst hks
  refine S_one ?_
  refine S1_ret ?_
  refine E_ix hX (fun _ _ => rfl) ?_
  refine P_name (i := 1) hX rfl (.inl rfl) rfl (by intro z; cases z) ?_  -- menu
  refine E_call hX h1 (by omega) rfl rfl ?_
  refine A_cons rfl ?_
  refine P_name (i := 0) hX rfl (.inl rfl) rfl (by intro z; cases z) ?_  -- bag
  refine A_cons rfl ?_
  refine P_val ?_
  refine E_len hX rfl B.len rfl ?_
  refine P_name (i := 1) hX rfl (.inl rfl) rfl (by intro z; cases z) ?_  -- menu
  refine ⟨_, _, rfl, len_L, ?_⟩
  refine ⟨_, _, _, .im _ _, ?_⟩
  refine A_nil ?_
  refine ⟨[_, _], ⟨rfl, rfl, trivial⟩, trivial, p, b, n, _, rfl, hb, hn, by omega, by omega, fun d b' hd hb' => ?_⟩
  have hdl : d < l.length := by omega
  have e : l[d]? = some l[d] := List.getElem?_eq_getElem hdl
  refine ⟨_, .im _ _, _, rfl, _, _, _, ix_L (atI_nat e), ?_⟩
  exact fin_bag (x := .no) (xs := [.im (rL G.K A) l]) 0 rfl (hk _ (List.getElem_mem hdl) b' hb')
theorem cons_erase_perm {α : Type} {l : List α} {d : Nat} (h : d < l.length) : (l[d] :: l.eraseIdx d).Perm l := by
  have e : l = l.take d ++ l[d] :: l.drop (d + 1) := by simp
  have e2 : l.eraseIdx d = l.take d ++ l.drop (d + 1) := List.eraseIdx_eq_take_drop_succ l d
  rw [e2]
  conv => rhs; rw [e]
  exact List.perm_middle.symm
def cMixed (K : PySem.W.Frag) : Ct := fun ks k => ∃ (α : Type) (A : DR α) (l : List α) (p : Addr) (b : Bag) (n : Nat), ks = [.ow p (cBag K) b, .im (rL K A) l] ∧ Bg n b ∧ n + l.length < 2 ^ 30 ∧ l.length < 1000 ∧ ∀ q l' b', l'.Perm l → Bg (n + l.length) b' → k (.ow q (cL A) l') [.ow p (cBag K) b', .no]
/-! ### _law_gcd, _law_frac -/
def cGcdL : Ct := fun ks k => ∃ i j : Int, ks = [.im rI i, .im rI j] ∧ j.natAbs < 2 ^ 100000 ∧ k (.im rI ((Nat.gcd i.natAbs j.natAbs : Nat) : Int)) [.no, .no]
theorem sc29 : FnScope ["up", "low", "turn"] ["up", "low"] (defScope (top 34)) := ⟨rfl, rfl, rfl, by decide +kernel, rfl, by decide +kernel, by decide +kernel⟩
theorem euclid_half {u l : Nat} (h : l < u) (h0 : 0 < l) : 2 * (u % l) ≤ u := by
  have h1 := Nat.mod_lt u h0
  have h2 := Nat.div_add_mod u l
  have h3 : 1 ≤ u / l := (Nat.one_le_div_iff h0).mpr (by omega)
  have h4 := Nat.mul_le_mul_left l h3
  omega
theorem f29 {G : Gm} {f : Addr} {fd : FuncData} (F : Fun G.K "_law_gcd" "_law_gcd" (top 34) f fd) (hf : G.mg "_law_gcd" = some (.ref f)) (b : Binds G.K fd ["up", "low"] [])
    (B : Bi G) : Fn G "_law_gcd" 1 cGcdL := by
  refine Fn.of F hf b sc29 (fun ks k ⟨i, j, h, _⟩ => by rw [h]; rfl) fun X hX hfn hp ks k ⟨i, j, hks, hj, hk⟩ => ?_
  subst hks
  have hL : Builtin.Int.intBits ((j.natAbs : Nat) : Int) ≤ 100000 := PyProof.Rows.intBits_le (by rw [Int.natAbs_natCast]; exact hj)
  have hlow := intBits_lt ((j.natAbs : Nat) : Int)
  rw [Int.natAbs_natCast] at hlow
  -- up, low = (abs(up), abs(low))
  refine S_cons ?_
  refine S1_par (i := 0) (j := 1) hX rfl rfl (by decide) rfl rfl rfl ?_
  refine E_abs hX rfl B.abs rfl ?_
  refine E_name (i := 0) hX rfl (.inl rfl) rfl ?_  -- up
  refine ⟨_, .im _ _, ?_⟩
  refine E_abs hX rfl B.abs rfl ?_
  refine E_name (i := 1) hX rfl (.inl rfl) rfl ?_  -- low
  refine ⟨_, .im _ _, ?_⟩
  refine ⟨_, _, rfl, ?_⟩
  -- for turn in range(4 * (low.bit_length() + 2)):
  refine S_cons ?_
  refine S1_for hX hp ?_
  refine I_rng1 hX rfl B.range rfl ?_
  refine E_mul ?_
  refine E_int ?_
  refine ⟨_, .im _ _, ?_⟩
  refine E_add ?_
  refine E_bits ?_
  refine E_name (i := 1) hX rfl (.inl rfl) rfl ?_
  refine ⟨_, .im _ _, ?_⟩
  refine ⟨_, .im _ _, ?_⟩
  refine E_int ?_
  refine ⟨_, .im _ _, ?_⟩
  generalize hLe : Builtin.Int.intBits ((j.natAbs : Nat) : Int) = L at *
  refine ⟨_, .im _ _, mulx_ok (a := 5) (b := 31) (by decide) (by omega) (by omega), ?_⟩
  refine ⟨_, .im _ _, by omega, by omega, ?_⟩
  have hturn : (4 * ((L : Int) + 2)).toNat = 4 * (L + 2) := by omega
  rw [hturn]
  refine ⟨fun n τ => ∃ (u l : Nat) (x2 : Kd), Nat.gcd u l = Nat.gcd i.natAbs j.natAbs ∧ (n % 2 = 0 → l * 2 ^ (n / 2) ≤ j.natAbs) ∧ (n % 2 = 1 → l < u ∧ u * 2 ^ (n / 2) ≤ j.natAbs) ∧ τ = [.im rI (u : Int), .im rI (l : Int), x2], ⟨i.natAbs, j.natAbs, _, rfl, (fun _ => by simp), (fun h => by simp at h), rfl⟩, fun n y τ hy hI => ?_, fun τ hI => ?_⟩
  · obtain ⟨u, l, x2, hg, he, ho, hτ⟩ := hI
    subst hτ
    obtain ⟨hn, ey⟩ := rngK0_get hy
    subst ey
    refine T_name (i := 2) hX rfl rfl ?_  -- turn
    refine S_cons ?_
    refine S1_if ?_
    refine C_eqI ?_
    refine E_name (i := 1) hX rfl (.inl rfl) rfl ?_  -- low
    refine ⟨_, .im _ _, ?_⟩
    refine E_int ?_
    refine ⟨_, .im _ _, ?_⟩
    refine ⟨fun hc => ?_, fun hc => ?_⟩
    · have hl0 : l = 0 := by
        have := of_decide_eq_true hc
        omega
      subst hl0
      refine S_one ?_
      refine S1_ret ?_
      refine E_name (i := 0) hX rfl (.inl rfl) rfl ?_  -- up
      rw [Nat.gcd_zero_right] at hg
      rw [hg]
      exact fin_no hk
    refine S_nil ?_
    have hl0 : 0 < l := by
      have : ¬ ((l : Int) = 0) := of_decide_eq_false hc
      omega
    -- up, low = (low, int(up) % low)
    refine S_one ?_
    refine S1_par (i := 0) (j := 1) hX rfl rfl (by decide) rfl rfl rfl ?_
    refine E_name (i := 1) hX rfl (.inl rfl) rfl ?_  -- low
    refine E_mod ?_
    refine E_int1 hX rfl B.int rfl ?_
    refine E_name (i := 0) hX rfl (.inl rfl) rfl ?_  -- up
    refine ⟨_, .im _ _, ?_⟩
    refine ⟨_, .im _ _, ?_⟩
    refine E_name (i := 1) hX rfl (.inl rfl) rfl ?_  -- low
    refine ⟨_, .im _ _, by omega, ?_⟩
    refine ⟨_, _, rfl, l, u % l, .im rI (n : Int), ?_, fun h => ?_, fun h => ⟨Nat.mod_lt _ hl0, ?_⟩, ?_⟩
    · rw [← hg, Nat.gcd_comm u l, Nat.gcd_rec l u]; exact Nat.gcd_comm _ _
    · -- n odd
      obtain ⟨h1, h2⟩ := ho (by omega)
      have h3 := euclid_half h1 hl0
      have e : (n + 1) / 2 = n / 2 + 1 := by omega
      rw [e, Nat.pow_succ]
      have h4 := Nat.mul_le_mul_right (2 ^ (n / 2)) h3
      have e2 : u % l * (2 ^ (n / 2) * 2) = 2 * (u % l) * 2 ^ (n / 2) := by
        rw [Nat.mul_comm (2 ^ (n / 2)) 2, ← Nat.mul_assoc, Nat.mul_comm (u % l) 2]
      rw [e2]
      exact Nat.le_trans h4 h2
    · have h1 := he (by omega)
      have e : (n + 1) / 2 = n / 2 := by omega
      rw [e]
      exact h1
    · rw [Int.natCast_emod]; rfl
  obtain ⟨u, l, x2, hg, he, ho, hτ⟩ := hI
  rw [rngK_len] at he
  subst hτ
  have hl0 : l = 0 := by
    have h1 := he (by omega)
    have e : 4 * (L + 2) / 2 = L + (L + 4) := by omega
    rw [e, Nat.pow_add] at h1
    rcases Nat.eq_zero_or_pos l with q | q
    · exact q
    · have h2 : 2 ^ L ≤ l * (2 ^ L * 2 ^ (L + 4)) := by
        have h3 : 1 ≤ 2 ^ (L + 4) := Nat.one_le_two_pow
        have h4 := Nat.mul_le_mul_left (2 ^ L) h3
        have h5 := Nat.le_mul_of_pos_left (2 ^ L * 2 ^ (L + 4)) q
        omega
      omega
  subst hl0
  refine S_one ?_
  refine S1_ret ?_
  refine E_name (i := 0) hX rfl (.inl rfl) rfl ?_  -- up
  rw [Nat.gcd_zero_right] at hg
  rw [hg]
  exact fin_no hk
end T
end
section
set_option Elab.async false
set_option linter.all false
set_option autoImplicit false
set_option maxRecDepth 100000
set_option maxHeartbeats 2000000
namespace T
open PySem PySem.Spec PyProof.Rows L2
theorem gives_int_gt_bi (p : Bool) (b : Int) (u : Tok) : Gives (Builtin.«int.__gt__» ⟨[.bool p, .int b u], []⟩) (.val (Value.bool ((fun x1 x2 => decide (x1 > x2)) (if p = true then (1 : Int) else 0) b))) :=
  .of_wp fun M A E s Q h => by obtain ⟨hp, g, d, tk, os⟩ := s; wp_walk; exact ⟨_, rfl, h⟩
theorem gt_bi {prog : Program} {w : World} {A : Around} {E : Value → Shared → Prop} {s : Shared} {p : Bool} {b : Int} {u : Tok} {Q : Value → Shared → Prop} (h : Q (.bool (decide (b < (if p then 1 else 0)))) s) : wpAny (model prog w) A (compareOp .Gt (.bool p) (.int b u)) Q E s :=
  by
  show wpAny _ _ (richCompare .Gt (.bool p) (.int b u)) _ _ _
  exact wpAny_richCompare_left (typeIs_bool' s p) (typeIs_int s b u) (by decide) (by rw [isSubtype_type]; kernel_rfl) F.slot_bool_gt
    (call_gives F.slot_bool_gt (typeIs_bool' s p) F.entry_int_gt (F.args_int_gt_2 _ _) (gives_int_gt_bi p b u) (Made.post_and (by intro hq; cases hq) h))
theorem op_gtBI {X : Cx} : OpR X (compareOp .Gt) (fun x y H Q => ∃ c j, x = .bl c ∧ y = .int j ∧ Q (.bl (decide (j < (if c then 1 else 0)))) H) := by
  intro pins s σ H x y v u Q I rx ry h
  obtain ⟨c, j, rfl, rfl, q⟩ := h
  cases rx
  obtain ⟨t, rfl⟩ := ry
  exact gt_bi ⟨.bl _, H, I, rfl, q⟩
section
variable {G : Gm} {X : Cx} {N : List Str} {sc : Scope} {n : Nat} {τ τ1 : Tau} {k : KK} {P : Po} {y : Kd} {e a b c : Expr} {pos p : Pos}
/-- a truth value > a number, as a test -/
theorem C_gtBI {kt : Bool → Tau → Prop} (h : E X a τ fun x τ1 => ∃ i, Fz x (.im rB i) ∧ E X b τ1 fun y τ2 => ∃ j, Fz y (.im rI j) ∧ kt (decide (j < (if i then 1 else 0))) τ2) : C X (.Compare a [.Gt] [b] pos) τ kt :=
  C_cmp op_gtBI (nomark _) (w_op (A := rB) (B := rI) (k1 := fun _ _ => True) (h.mono fun x τ1 ⟨i, fz, hb⟩ => ⟨i, fz, hb.mono fun y τ2 ⟨j, fz', hk⟩ => ⟨j, fz', fun σ H F R0 R Q v u ok r1 r2 q => by
    cases r1; cases r2
    exact ⟨i, j, rfl, rfl, q _ τ2 _ R H ⟨_, .im _ _, hk⟩ (Le.refl R) ok (VOk.im rfl)⟩⟩⟩))
end
end T
end
section
set_option Elab.async false
set_option linter.all false
set_option maxRecDepth 100000
set_option maxHeartbeats 2000000
set_option exponentiation.threshold 10000
namespace T
open PySem PySem.Spec PyProof.Rows L2
theorem lt_pow {n a b : Nat} (h : n < 2 ^ a) (hab : a ≤ b) : n < 2 ^ b := Nat.lt_of_lt_of_le h (Nat.pow_le_pow_right (by omega) hab)
theorem mul_lt_pow {x y : Int} {a b c : Nat} (hx : x.natAbs < 2 ^ a) (hy : y.natAbs < 2 ^ b) (h : a + b ≤ c) : (x * y).natAbs < 2 ^ c := by
  rw [Int.natAbs_mul]
  have := Nat.mul_lt_mul'' hx hy
  rw [← Nat.pow_add] at this
  exact lt_pow this h
/-! ### _law_frac, _law_plus, _law_mul -/
theorem sc30 : FnScope ["up", "low", "most"] ["up", "low"] (defScope (top 35)) := ⟨rfl, rfl, rfl, by decide +kernel, rfl, by decide +kernel, by decide +kernel⟩
theorem f30 {G : Gm} {f : Addr} {fd : FuncData} (F : Fun G.K "_law_frac" "_law_frac" (top 35) f fd) (hf : G.mg "_law_frac" = some (.ref f)) (b : Binds G.K fd ["up", "low"] [])
    (B : Bi G) (h1 : Fn G "_law_gcd" 1 cGcdL) : Fn G "_law_frac" 2 (cLowK G.K) := by
  refine Fn.of F hf b sc30 (fun ks k ⟨t, b, h, _⟩ => by rw [h]; rfl) fun X hX hfn hp ks k ⟨t, b, hks, hb0, hbz, hk⟩ => ?_
  subst hks
  refine S_cons ?_
  refine S1_set (i := 2) hX rfl rfl ?_  -- most
  refine E_call hX h1 (by omega) rfl rfl ?_
  refine A_cons rfl ?_
  refine P_name (i := 0) hX rfl (.inl rfl) rfl (by intro z; cases z) ?_  -- up
  refine A_cons rfl ?_
  refine P_name (i := 1) hX rfl (.inl rfl) rfl (by intro z; cases z) ?_  -- low
  refine A_nil ?_
  refine ⟨[_, _], ⟨rfl, rfl, trivial⟩, trivial, _, _, rfl, lt_pow hbz (by omega), ?_⟩
  -- if low < 0:
  refine S_join (fun τ => τ = [.im rI t, .im rI b, .im rI (if b < 0 then -((Nat.gcd t.natAbs b.natAbs : Nat) : Int) else ((Nat.gcd t.natAbs b.natAbs : Nat) : Int))]) ?_ fun τ hτ => ?_
  · refine S1_if ?_
    refine C_lt ?_
    refine E_name (i := 1) hX rfl (.inl rfl) rfl ?_  -- low
    refine ⟨_, .im _ _, ?_⟩
    refine E_int ?_
    refine ⟨_, .im _ _, ?_⟩
    refine ⟨fun hc => ?_, fun hc => ?_⟩
    · refine S_one ?_
      refine S1_set (i := 2) hX rfl rfl ?_
      refine E_sub ?_
      refine E_int ?_
      refine ⟨_, .im _ _, ?_⟩
      refine E_name (i := 2) hX rfl (.inl rfl) rfl ?_
      refine ⟨_, .im _ _, ?_⟩
      show _ = _
      rw [if_pos (by simpa using hc), Int.zero_sub]
      rfl
    · refine S_nil ?_
      show _ = _
      rw [if_neg (by simpa using hc)]
      rfl
  subst hτ
  obtain ⟨g1, g2⟩ := gcd_lt (t := t) hb0 hbz
  refine S_one ?_
  refine S1_ret ?_
  refine E_tup hX rfl (by decide) ?_
  refine E_fdivB ?_
  refine E_name (i := 0) hX rfl (.inl rfl) rfl ?_
  refine ⟨_, .im _ _, ?_⟩
  refine E_name (i := 2) hX rfl (.inl rfl) rfl ?_
  refine ⟨_, .im _ _, divB_ok g2 g1, ?_⟩
  refine ⟨_, .im _ _, ?_⟩
  refine E_fdivB ?_
  refine E_name (i := 1) hX rfl (.inl rfl) rfl ?_
  refine ⟨_, .im _ _, ?_⟩
  refine E_name (i := 2) hX rfl (.inl rfl) rfl ?_
  refine ⟨_, .im _ _, divB_ok g2 g1, ?_⟩
  refine ⟨_, .im _ _, ?_⟩
  exact ⟨by simp, _, _, _, tup_Q (low_num hb0) (low_den hb0), fin_no hk⟩
/-- a number of moderate size -/
def QB (q : Rat) : Prop := q.num.natAbs < 2 ^ 1000 ∧ q.den < 2 ^ 1000
theorem q_eq (q : Rat) : q = (q.num : Rat) / ((q.den : Int) : Rat) := by rw [← Rat.divInt_eq_div, Rat.num_divInt_den]
theorem den0 (q : Rat) : (q.den : Int) ≠ 0 := by have := q.den_pos; omega
theorem den0' (q : Rat) : ((q.den : Int) : Rat) ≠ 0 := by
  have := den0 q
  intro z
  exact this (by exact_mod_cast z)
theorem q_add (p q : Rat) : ((p.num * (q.den : Int) + q.num * (p.den : Int) : Int) : Rat) / (((p.den : Int) * (q.den : Int) : Int) : Rat) = p + q := by
  have h1 := q_eq p
  have h2 := q_eq q
  have h3 := den0' p
  have h4 := den0' q
  rw [Rat.intCast_add, Rat.intCast_mul, Rat.intCast_mul, Rat.intCast_mul]
  generalize (p.num : Rat) = a at *
  generalize ((p.den : Int) : Rat) = b at *
  generalize (q.num : Rat) = c at *
  generalize ((q.den : Int) : Rat) = d at *
  subst h1 h2
  grind
theorem q_mul (p q : Rat) : ((p.num * q.num : Int) : Rat) / (((p.den : Int) * (q.den : Int) : Int) : Rat) = p * q := by
  have h1 := q_eq p
  have h2 := q_eq q
  have h3 := den0' p
  have h4 := den0' q
  rw [Rat.intCast_mul, Rat.intCast_mul]
  generalize (p.num : Rat) = a at *
  generalize ((p.den : Int) : Rat) = b at *
  generalize (q.num : Rat) = c at *
  generalize ((q.den : Int) : Rat) = d at *
  subst h1 h2
  grind
def cPlus (K : PySem.W.Frag) : Ct := fun ks k => ∃ p q : Rat, ks = [.im (rQ K) p, .im (rQ K) q] ∧ QB p ∧ QB q ∧ k (.im (rQ K) (p + q)) [.no, .no]
theorem sc31 : FnScope ["p", "q"] ["p", "q"] (defScope (top 36)) := ⟨rfl, rfl, rfl, by decide +kernel, rfl, by decide +kernel, by decide +kernel⟩
theorem f31 {G : Gm} {f : Addr} {fd : FuncData} (F : Fun G.K "_law_plus" "_law_plus" (top 36) f fd) (hf : G.mg "_law_plus" = some (.ref f)) (b : Binds G.K fd ["p", "q"] [])
    (B : Bi G) (h1 : Fn G "_law_frac" 2 (cLowK G.K)) : Fn G "_law_plus" 3 (cPlus G.K) := by
  refine Fn.of F hf b sc31 (fun ks k ⟨p, q, h, _⟩ => by rw [h]; rfl) fun X hX hfn hp ks k ⟨p, q, hks, hpb, hqb, hk⟩ => ?_
  subst hks
  have dz : ((p.den : Int) * (q.den : Int)).natAbs < 2 ^ 2000 := mul_lt_pow (by rw [Int.natAbs_natCast]; exact hpb.2) (by rw [Int.natAbs_natCast]; exact hqb.2) (by omega)
  refine S_one ?_
  refine S1_ret ?_
  refine E_call hX h1 (by omega) rfl rfl ?_
  refine A_cons rfl ?_
  refine P_val ?_
  refine E_add ?_
  refine E_mul ?_
  refine E_ix hX (fun _ _ => rfl) ?_
  refine P_name (i := 0) hX rfl (.inl rfl) rfl (by intro z; cases z) ?_  -- p
  refine E_int ?_
  refine ⟨_, .im _ _, _, rfl, _, _, _, ix_Q0, ?_⟩
  refine ⟨_, .im _ _, ?_⟩
  refine E_ix hX (fun _ _ => rfl) ?_
  refine P_name (i := 1) hX rfl (.inl rfl) rfl (by intro z; cases z) ?_  -- q
  refine E_int ?_
  refine ⟨_, .im _ _, _, rfl, _, _, _, ix_Q1, ?_⟩
  refine ⟨_, .im _ _, mulx_ok hpb.1 (by rw [Int.natAbs_natCast]; exact hqb.2) (by omega), ?_⟩
  refine ⟨_, .im _ _, ?_⟩
  refine E_mul ?_
  refine E_ix hX (fun _ _ => rfl) ?_
  refine P_name (i := 1) hX rfl (.inl rfl) rfl (by intro z; cases z) ?_  -- q
  refine E_int ?_
  refine ⟨_, .im _ _, _, rfl, _, _, _, ix_Q0, ?_⟩
  refine ⟨_, .im _ _, ?_⟩
  refine E_ix hX (fun _ _ => rfl) ?_
  refine P_name (i := 0) hX rfl (.inl rfl) rfl (by intro z; cases z) ?_  -- p
  refine E_int ?_
  refine ⟨_, .im _ _, _, rfl, _, _, _, ix_Q1, ?_⟩
  refine ⟨_, .im _ _, mulx_ok hqb.1 (by rw [Int.natAbs_natCast]; exact hpb.2) (by omega), ?_⟩
  refine ⟨_, .im _ _, ?_⟩
  refine ⟨_, _, _, .im _ _, ?_⟩
  refine A_cons rfl ?_
  refine P_val ?_
  refine E_mul ?_
  refine E_ix hX (fun _ _ => rfl) ?_
  refine P_name (i := 0) hX rfl (.inl rfl) rfl (by intro z; cases z) ?_  -- p
  refine E_int ?_
  refine ⟨_, .im _ _, _, rfl, _, _, _, ix_Q1, ?_⟩
  refine ⟨_, .im _ _, ?_⟩
  refine E_ix hX (fun _ _ => rfl) ?_
  refine P_name (i := 1) hX rfl (.inl rfl) rfl (by intro z; cases z) ?_  -- q
  refine E_int ?_
  refine ⟨_, .im _ _, _, rfl, _, _, _, ix_Q1, ?_⟩
  refine ⟨_, .im _ _, mulx_ok (by rw [Int.natAbs_natCast]; exact hpb.2) (by rw [Int.natAbs_natCast]; exact hqb.2) (by omega), ?_⟩
  refine ⟨_, _, _, .im _ _, ?_⟩
  refine A_nil ?_
  refine ⟨[_, _], ⟨rfl, rfl, trivial⟩, trivial, _, _, rfl, Int.mul_ne_zero (den0 p) (den0 q), lt_pow dz (by omega), ?_⟩
  rw [q_add]
  exact fin_no hk
def cMulQ (K : PySem.W.Frag) : Ct := fun ks k => ∃ p q : Rat, ks = [.im (rQ K) p, .im (rQ K) q] ∧ QB p ∧ QB q ∧ k (.im (rQ K) (p * q)) [.no, .no]
theorem sc32 : FnScope ["p", "q"] ["p", "q"] (defScope (top 37)) := ⟨rfl, rfl, rfl, by decide +kernel, rfl, by decide +kernel, by decide +kernel⟩
theorem f32 {G : Gm} {f : Addr} {fd : FuncData} (F : Fun G.K "_law_mul" "_law_mul" (top 37) f fd) (hf : G.mg "_law_mul" = some (.ref f)) (b : Binds G.K fd ["p", "q"] [])
    (B : Bi G) (h1 : Fn G "_law_frac" 2 (cLowK G.K)) : Fn G "_law_mul" 3 (cMulQ G.K) := by
  refine Fn.of F hf b sc32 (fun ks k ⟨p, q, h, _⟩ => by rw [h]; rfl) fun X hX hfn hp ks k ⟨p, q, hks, hpb, hqb, hk⟩ => ?_
  subst hks
  have dz : ((p.den : Int) * (q.den : Int)).natAbs < 2 ^ 2000 := mul_lt_pow (by rw [Int.natAbs_natCast]; exact hpb.2) (by rw [Int.natAbs_natCast]; exact hqb.2) (by omega)
  refine S_one ?_
  refine S1_ret ?_
  refine E_call hX h1 (by omega) rfl rfl ?_
  refine A_cons rfl ?_
  refine P_val ?_
  refine E_mul ?_
  refine E_ix hX (fun _ _ => rfl) ?_
  refine P_name (i := 0) hX rfl (.inl rfl) rfl (by intro z; cases z) ?_  -- p
  refine E_int ?_
  refine ⟨_, .im _ _, _, rfl, _, _, _, ix_Q0, ?_⟩
  refine ⟨_, .im _ _, ?_⟩
  refine E_ix hX (fun _ _ => rfl) ?_
  refine P_name (i := 1) hX rfl (.inl rfl) rfl (by intro z; cases z) ?_  -- q
  refine E_int ?_
  refine ⟨_, .im _ _, _, rfl, _, _, _, ix_Q0, ?_⟩
  refine ⟨_, .im _ _, mulx_ok hpb.1 hqb.1 (by omega), ?_⟩
  refine ⟨_, _, _, .im _ _, ?_⟩
  refine A_cons rfl ?_
  refine P_val ?_
  refine E_mul ?_
  refine E_ix hX (fun _ _ => rfl) ?_
  refine P_name (i := 0) hX rfl (.inl rfl) rfl (by intro z; cases z) ?_  -- p
  refine E_int ?_
  refine ⟨_, .im _ _, _, rfl, _, _, _, ix_Q1, ?_⟩
  refine ⟨_, .im _ _, ?_⟩
  refine E_ix hX (fun _ _ => rfl) ?_
  refine P_name (i := 1) hX rfl (.inl rfl) rfl (by intro z; cases z) ?_  -- q
  refine E_int ?_
  refine ⟨_, .im _ _, _, rfl, _, _, _, ix_Q1, ?_⟩
  refine ⟨_, .im _ _, mulx_ok (by rw [Int.natAbs_natCast]; exact hpb.2) (by rw [Int.natAbs_natCast]; exact hqb.2) (by omega), ?_⟩
  refine ⟨_, _, _, .im _ _, ?_⟩
  refine A_nil ?_
  refine ⟨[_, _], ⟨rfl, rfl, trivial⟩, trivial, _, _, rfl, Int.mul_ne_zero (den0 p) (den0 q), lt_pow dz (by omega), ?_⟩
  rw [q_mul]
  exact fin_no hk
/-! ### _law_small -/
def Sm (o : Bool) (q : Rat) : Prop := q.num.natAbs ≤ 5 ∧ q.den ∣ (if o then 12 else 1)
theorem sm_frac {t d : Int} (ht : t ∈ [1, -1, 3, -3, 2, -5]) (hd : d ∈ [2, 3, 4]) : Sm true ((t : Rat) / (d : Rat)) := by
  have hd0 : d ≠ 0 := by
    intro z; subst z; simp at hd
  have e1 := low_num (t := t) hd0
  have e2 := low_den (t := t) hd0
  have key : ∀ t ∈ ([1, -1, 3, -3, 2, -5] : List Int), ∀ d ∈ ([2, 3, 4] : List Int), (t.fdiv (if d < 0 then -((Nat.gcd t.natAbs d.natAbs : Nat) : Int) else ((Nat.gcd t.natAbs d.natAbs : Nat) : Int))).natAbs ≤ 5 ∧
      (d.fdiv (if d < 0 then -((Nat.gcd t.natAbs d.natAbs : Nat) : Int) else ((Nat.gcd t.natAbs d.natAbs : Nat) : Int))).natAbs ∣ 12 := by decide
  obtain ⟨k1, k2⟩ := key t ht d hd
  refine ⟨by rw [← e1]; exact k1, ?_⟩
  have e3 : ((t : Rat) / (d : Rat)).den = (((t : Rat) / (d : Rat)).den : Int).natAbs := by rw [Int.natAbs_natCast]
  rw [e3, ← e2]
  exact k2
theorem sm_int {o : Bool} {t : Int} (h : t.natAbs ≤ 5) : Sm o (t : Rat) := ⟨by rw [Rat.num_intCast]; exact h, by rw [Rat.den_intCast]; exact Nat.one_dvd _⟩
theorem Sm.qb {o : Bool} {q : Rat} (h : Sm o q) : QB q := by
  refine ⟨Nat.lt_of_le_of_lt h.1 (lt_pow (a := 3) (by decide) (by omega)), ?_⟩
  have h2 : q.den ∣ 12 := Nat.dvd_trans h.2 (by cases o <;> decide)
  exact Nat.lt_of_le_of_lt (Nat.le_of_dvd (by decide) h2) (lt_pow (a := 4) (by decide) (by omega))
def cSmall (K : PySem.W.Frag) : Ct := fun ks k => ∃ (p : Addr) (b : Bag) (n : Nat) (o : Bool), ks = [.ow p (cBag K) b, .im rB o] ∧ Bg n b ∧ n + 3 < 2 ^ 30 ∧ ∀ (q : Rat) (b' : Bag) (n' : Nat), Sm o q → n ≤ n' → n' ≤ n + 3 → Bg n' b' → k (.im (rQ K) q) [.ow p (cBag K) b', .no]
theorem sc33 : FnScope ["bag", "odd"] ["bag", "odd"] (defScope (top 38)) := ⟨rfl, rfl, rfl, by decide +kernel, rfl, by decide +kernel, by decide +kernel⟩
theorem f33 {G : Gm} {f : Addr} {fd : FuncData} (F : Fun G.K "_law_small" "_law_small" (top 38) f fd) (hf : G.mg "_law_small" = some (.ref f)) (b : Binds G.K fd ["bag", "odd"] [])
    (B : Bi G) (h1 : Fn G "_law_frac" 2 (cLowK G.K)) (h2 : Fn G "_law_of" 2 (cOf G.K)) (h3 : Fn G "_law_draw" 1 (cDraw G.K)) : Fn G "_law_small" 3 (cSmall G.K) := by
  refine Fn.of F hf b sc33 (fun ks k ⟨p, b, n, o, h, _⟩ => by rw [h]; rfl) fun X hX hfn hp ks k ⟨p, b, n, o, hks, hb, hn, hk⟩ => ?_
  subst hks
  -- if odd and _law_draw(bag, 3) == 0:
  refine S_join (fun τ => ∃ b1 n1, Bg n1 b1 ∧ n ≤ n1 ∧ n1 ≤ n + 1 ∧ τ = [.ow p (cBag G.K) b1, .im rB o]) ?_ fun τ ⟨b1, n1, hb1, hn1, hn2, hτ⟩ => ?_
  · refine S1_if ?_
    refine C_and2 ?_
    refine C_val ?_
    refine E_name (i := 1) hX rfl (.inl rfl) rfl ?_  -- odd
    refine ⟨_, .im _ _, ?_⟩
    refine ⟨fun ho => ?_, fun hc => ?_⟩
    rotate_left
    · exact ⟨fun h => Bool.noConfusion h, fun _ => S_nil ⟨b, n, hb, Nat.le_refl _, by omega, rfl⟩⟩
    refine C_eqI ?_
    refine E_call hX h3 (by omega) rfl rfl ?_
    refine A_cons rfl ?_
    refine P_name (i := 0) hX rfl (.inl rfl) rfl (by intro z; cases z) ?_  -- bag
    refine A_cons rfl ?_
    refine P_val ?_
    refine E_int ?_
    refine ⟨_, _, _, .im _ _, ?_⟩
    refine A_nil ?_
    refine ⟨[_, _], ⟨rfl, rfl, trivial⟩, trivial, p, b, n, 3, rfl, hb, by omega, by decide, by decide, fun d b1 hd hb1 => ?_⟩
    refine ⟨_, .im _ _, ?_⟩
    refine E_int ?_
    refine ⟨_, .im _ _, ?_⟩
    refine ⟨fun hc => ?_, fun hc => S_nil ⟨b1, n + 1, hb1, by omega, by omega, rfl⟩⟩
    -- return _law_frac(..)
    refine S_one ?_
    refine S1_ret ?_
    refine E_call hX h1 (by omega) rfl rfl ?_
    refine A_cons rfl ?_
    refine P_val ?_
    refine E_call hX h2 (by omega) rfl rfl ?_
    refine A_cons rfl ?_
    refine P_name (i := 0) hX rfl (.inl rfl) rfl (by intro z; cases z) ?_  -- bag
    refine A_cons rfl ?_
    refine P_val ?_
    refine E_lst rfl (A := rI) ?_
    refine E_int ?_
    refine ⟨_, .im _ _, ?_⟩
    refine E_neg ?_
    refine E_int ?_
    refine ⟨_, .im _ _, ?_⟩
    refine ⟨_, .im _ _, ?_⟩
    refine E_int ?_
    refine ⟨_, .im _ _, ?_⟩
    refine E_neg ?_
    refine E_int ?_
    refine ⟨_, .im _ _, ?_⟩
    refine ⟨_, .im _ _, ?_⟩
    refine E_int ?_
    refine ⟨_, .im _ _, ?_⟩
    refine E_neg ?_
    refine E_int ?_
    refine ⟨_, .im _ _, ?_⟩
    refine ⟨_, .im _ _, ?_⟩
    refine ⟨by simp, [1, -1, 3, -3, 2, -5], rfl, fun q => ?_⟩
    refine ⟨_, _, _, .ow (frz_L (K := G.K)), ?_⟩
    refine A_nil ?_
    refine ⟨[_, _], ⟨rfl, rfl, trivial⟩, trivial, Int, rI, _, p, b1, n + 1, rfl, hb1, by omega, by decide, by decide, fun t ht b2 hb2 => ?_⟩
    refine ⟨_, _, _, .im _ _, ?_⟩
    refine A_cons rfl ?_
    refine P_val ?_
    refine E_if ?_
    refine C_gtBI ?_
    refine E_name (i := 1) hX rfl (.inl rfl) rfl ?_  -- odd
    refine ⟨_, .im _ _, ?_⟩
    refine E_int ?_
    refine ⟨_, .im _ _, ?_⟩
    refine ⟨fun hc => by rw [ho] at hc; simp at hc, fun hc => ?_⟩
    refine E_call hX h2 (by omega) rfl rfl ?_
    refine A_cons rfl ?_
    refine P_name (i := 0) hX rfl (.inl rfl) rfl (by intro z; cases z) ?_  -- bag
    refine A_cons rfl ?_
    refine P_val ?_
    refine E_lst rfl (A := rI) ?_
    refine E_int ?_
    refine ⟨_, .im _ _, ?_⟩
    refine E_int ?_
    refine ⟨_, .im _ _, ?_⟩
    refine E_int ?_
    refine ⟨_, .im _ _, ?_⟩
    refine ⟨by simp, [2, 3, 4], rfl, fun q2 => ?_⟩
    refine ⟨_, _, _, .ow (frz_L (K := G.K)), ?_⟩
    refine A_nil ?_
    refine ⟨[_, _], ⟨rfl, rfl, trivial⟩, trivial, Int, rI, _, p, b2, n + 1 + 1, rfl, hb2, by omega, by decide, by decide, fun d ht2 b3 hb3 => ?_⟩
    refine ⟨_, _, _, .im _ _, ?_⟩
    refine A_nil ?_
    have hd0 : d ≠ 0 := by intro z; subst z; simp at ht2
    have hdz : d.natAbs < 2 ^ 3 := by
      have key : ∀ d ∈ ([2, 3, 4] : List Int), d.natAbs < 2 ^ 3 := by decide
      exact key d ht2
    refine ⟨[_, _], ⟨rfl, rfl, trivial⟩, trivial, t, d, rfl, hd0, lt_pow hdz (by omega), ?_⟩
    have hs : Sm o ((t : Rat) / (d : Rat)) := by rw [ho]; exact sm_frac ht ht2
    exact fin_bag (x := .no) (xs := [.im rB o]) 0 rfl (hk _ b3 (n + 1 + 1 + 1) hs (by omega) (by omega) hb3)
  subst hτ
  -- return (_law_of(bag, ..), 1)
  refine S_one ?_
  refine S1_ret ?_
  refine E_tup hX rfl (by decide) ?_
  refine E_call hX h2 (by omega) rfl rfl ?_
  refine A_cons rfl ?_
  refine P_name (i := 0) hX rfl (.inl rfl) rfl (by intro z; cases z) ?_  -- bag
  refine A_cons rfl ?_
  refine P_val ?_
  refine E_lst rfl (A := rI) ?_
  refine E_int ?_
  refine ⟨_, .im _ _, ?_⟩
  refine E_int ?_
  refine ⟨_, .im _ _, ?_⟩
  refine E_neg ?_
  refine E_int ?_
  refine ⟨_, .im _ _, ?_⟩
  refine ⟨_, .im _ _, ?_⟩
  refine E_int ?_
  refine ⟨_, .im _ _, ?_⟩
  refine E_int ?_
  refine ⟨_, .im _ _, ?_⟩
  refine E_int ?_
  refine ⟨_, .im _ _, ?_⟩
  refine E_int ?_
  refine ⟨_, .im _ _, ?_⟩
  refine E_neg ?_
  refine E_int ?_
  refine ⟨_, .im _ _, ?_⟩
  refine ⟨_, .im _ _, ?_⟩
  refine E_int ?_
  refine ⟨_, .im _ _, ?_⟩
  refine ⟨by simp, [1, 0, -1, 0, 2, 0, 1, -2, 1], rfl, fun q => ?_⟩
  refine ⟨_, _, _, .ow (frz_L (K := G.K)), ?_⟩
  refine A_nil ?_
  refine ⟨[_, _], ⟨rfl, rfl, trivial⟩, trivial, Int, rI, _, p, b1, n1, rfl, hb1, by omega, by decide, by decide, fun t ht b2 hb2 => ?_⟩
  refine ⟨_, .im _ _, ?_⟩
  refine E_int ?_
  refine ⟨_, .im _ _, ?_⟩
  have ht5 : t.natAbs ≤ 5 := by
    have key : ∀ t ∈ ([1, 0, -1, 0, 2, 0, 1, -2, 1] : List Int), t.natAbs ≤ 5 := by decide
    exact key t ht
  refine ⟨by simp, _, _, _, tup_Q (q := (t : Rat)) (by simp) (by simp), ?_⟩
  exact fin_bag (x := .no) (xs := [.im rB o]) 0 rfl (hk _ b2 (n1 + 1) (sm_int ht5) (by omega) (by omega) hb2)
end T
end
section
set_option Elab.async false
set_option linter.all false
set_option maxRecDepth 100000
set_option maxHeartbeats 2000000
set_option exponentiation.threshold 10000
namespace T
open PySem PySem.Spec PyProof.Rows L2
/-! ### _law_give, _law_gives -/
/-- a number as it is handed in, of few digits -/
def okH : Giv → Prop
  | .inl i => i.natAbs < 2 ^ 1900
  | .inr p => p.2 ≠ 0 ∧ p.1.natAbs < 2 ^ 1900 ∧ p.2.natAbs < 2 ^ 1900
theorem okH.ok : ∀ {g : Giv}, okH g → okG g
  | .inl _, _ => trivial
  | .inr _, h => ⟨h.1, Nat.lt_of_lt_of_le h.2.2 (Nat.pow_le_pow_right (by omega) (by omega))⟩
def cGive (K : PySem.W.Frag) : Ct := fun ks k => ∃ (p : Addr) (b : Bag) (n : Nat) (q : Rat), ks = [.ow p (cBag K) b, .im (rQ K) q] ∧ Bg n b ∧ n + 2 < 2 ^ 30 ∧ QB q ∧ ∀ (g : Giv) (b' : Bag) (n' : Nat), gv g = q → okH g → n ≤ n' → n' ≤ n + 2 → Bg n' b' → k (.im (rGiv K) g) [.ow p (cBag K) b', .no]
theorem gv_mul {q : Rat} {m : Int} (hm : m ≠ 0) : gv (.inr (q.num * m, (q.den : Int) * m)) = q := by
  show ((q.num * m : Int) : Rat) / (((q.den : Int) * m : Int) : Rat) = q
  have h1 := q_eq q
  have h3 := den0' q
  have h4 : (m : Rat) ≠ 0 := by intro z; exact hm (by exact_mod_cast z)
  rw [Rat.intCast_mul, Rat.intCast_mul]
  generalize (q.num : Rat) = a at *
  generalize ((q.den : Int) : Rat) = d at *
  subst h1
  grind
theorem sc34 : FnScope ["bag", "p", "many"] ["bag", "p"] (defScope (top 39)) := ⟨rfl, rfl, rfl, by decide +kernel, rfl, by decide +kernel, by decide +kernel⟩
theorem f34 {G : Gm} {f : Addr} {fd : FuncData} (F : Fun G.K "_law_give" "_law_give" (top 39) f fd) (hf : G.mg "_law_give" = some (.ref f)) (b : Binds G.K fd ["bag", "p"] [])
    (B : Bi G) (h2 : Fn G "_law_of" 2 (cOf G.K)) (h3 : Fn G "_law_draw" 1 (cDraw G.K)) : Fn G "_law_give" 3 (cGive G.K) := by
  refine Fn.of F hf b sc34 (fun ks k ⟨p, b, n, q, h, _⟩ => by rw [h]; rfl) fun X hX hfn hp ks k ⟨p, b, n, q, hks, hb, hn, hq, hk⟩ => ?_
  subst hks
  -- if p[1] == 1 and _law_draw(bag, 2) == 0:
  refine S_join (fun τ => ∃ b1 n1, Bg n1 b1 ∧ n ≤ n1 ∧ n1 ≤ n + 1 ∧ τ = [.ow p (cBag G.K) b1, .im (rQ G.K) q, .no]) ?_ fun τ ⟨b1, n1, hb1, hn1, hn2, hτ⟩ => ?_
  · refine S1_if ?_
    refine C_and2 ?_
    refine C_eqI ?_
    refine E_ix hX (fun _ _ => rfl) ?_
    refine P_name (i := 1) hX rfl (.inl rfl) rfl (by intro z; cases z) ?_  -- p
    refine E_int ?_
    refine ⟨_, .im _ _, _, rfl, _, _, _, ix_Q1, ?_⟩
    refine ⟨_, .im _ _, ?_⟩
    refine E_int ?_
    refine ⟨_, .im _ _, ?_⟩
    refine ⟨fun ho => ?_, fun hc => ?_⟩
    rotate_left
    · exact ⟨fun h => Bool.noConfusion h, fun _ => S_nil ⟨b, n, hb, Nat.le_refl _, by omega, rfl⟩⟩
    refine C_eqI ?_
    refine E_call hX h3 (by omega) rfl rfl ?_
    refine A_cons rfl ?_
    refine P_name (i := 0) hX rfl (.inl rfl) rfl (by intro z; cases z) ?_  -- bag
    refine A_cons rfl ?_
    refine P_val ?_
    refine E_int ?_
    refine ⟨_, _, _, .im _ _, ?_⟩
    refine A_nil ?_
    refine ⟨[_, _], ⟨rfl, rfl, trivial⟩, trivial, p, b, n, 2, rfl, hb, by omega, by decide, by decide, fun d b1 hd hb1 => ?_⟩
    refine ⟨_, .im _ _, ?_⟩
    refine E_int ?_
    refine ⟨_, .im _ _, ?_⟩
    refine ⟨fun hc => ?_, fun hc => S_nil ⟨b1, n + 1, hb1, by omega, by omega, rfl⟩⟩
    -- return p[0]
    refine S_one ?_
    refine S1_ret ?_
    refine E_fz ?_
    refine E_ix hX (fun _ _ => rfl) ?_
    refine P_name (i := 1) hX rfl (.inl rfl) rfl (by intro z; cases z) ?_  -- p
    refine E_int ?_
    refine ⟨_, .im _ _, _, rfl, _, _, _, ix_Q0, ?_⟩
    refine ⟨.im (rGiv G.K) (.inl q.num), .cv fun R v h => h, ?_⟩
    have hd1 : (q.den : Int) = 1 := of_decide_eq_true ho
    have hgv : gv (.inl q.num) = q := by
      show (q.num : Rat) = q
      refine Rat.ext (Rat.num_intCast _) ?_
      rw [Rat.den_intCast]
      omega
    exact fin_bag (x := .no) (xs := [.im (rQ G.K) q]) 0 rfl (hk _ b1 (n + 1) hgv (show q.num.natAbs < 2 ^ 1900 from Nat.lt_of_lt_of_le hq.1 (Nat.pow_le_pow_right (by omega) (by omega))) (by omega) (by omega) hb1)
  subst hτ
  -- many = _law_of(bag, [1, 1, 1, 2, -1, -3])
  refine S_cons ?_
  refine S1_set (i := 2) hX rfl rfl ?_  -- many
  refine E_call hX h2 (by omega) rfl rfl ?_
  refine A_cons rfl ?_
  refine P_name (i := 0) hX rfl (.inl rfl) rfl (by intro z; cases z) ?_  -- bag
  refine A_cons rfl ?_
  refine P_val ?_
  refine E_lst rfl (A := rI) ?_
  refine E_int ?_
  refine ⟨_, .im _ _, ?_⟩
  refine E_int ?_
  refine ⟨_, .im _ _, ?_⟩
  refine E_int ?_
  refine ⟨_, .im _ _, ?_⟩
  refine E_int ?_
  refine ⟨_, .im _ _, ?_⟩
  refine E_neg ?_
  refine E_int ?_
  refine ⟨_, .im _ _, ?_⟩
  refine ⟨_, .im _ _, ?_⟩
  refine E_neg ?_
  refine E_int ?_
  refine ⟨_, .im _ _, ?_⟩
  refine ⟨_, .im _ _, ?_⟩
  refine ⟨by simp, [1, 1, 1, 2, -1, -3], rfl, fun r => ?_⟩
  refine ⟨_, _, _, .ow (frz_L (K := G.K)), ?_⟩
  refine A_nil ?_
  refine ⟨[_, _], ⟨rfl, rfl, trivial⟩, trivial, Int, rI, _, p, b1, n1, rfl, hb1, by omega, by decide, by decide, fun m hm b2 hb2 => ?_⟩
  have hm0 : m ≠ 0 ∧ m.natAbs < 2 ^ 2 := by
    have key : ∀ m ∈ ([1, 1, 1, 2, -1, -3] : List Int), m ≠ 0 ∧ m.natAbs < 2 ^ 2 := by decide
    exact key m hm
  -- return (p[0] * many, p[1] * many)
  refine S_one ?_
  refine S1_ret ?_
  refine E_fz ?_
  refine E_tup hX rfl (by decide) ?_
  refine E_mul ?_
  refine E_ix hX (fun _ _ => rfl) ?_
  refine P_name (i := 1) hX rfl (.inl rfl) rfl (by intro z; cases z) ?_  -- p
  refine E_int ?_
  refine ⟨_, .im _ _, _, rfl, _, _, _, ix_Q0, ?_⟩
  refine ⟨_, .im _ _, ?_⟩
  refine E_name (i := 2) hX rfl (.inl rfl) rfl ?_  -- many
  refine ⟨_, .im _ _, mulx_ok hq.1 hm0.2 (by omega), ?_⟩
  refine ⟨_, .im _ _, ?_⟩
  refine E_mul ?_
  refine E_ix hX (fun _ _ => rfl) ?_
  refine P_name (i := 1) hX rfl (.inl rfl) rfl (by intro z; cases z) ?_  -- p
  refine E_int ?_
  refine ⟨_, .im _ _, _, rfl, _, _, _, ix_Q1, ?_⟩
  refine ⟨_, .im _ _, ?_⟩
  refine E_name (i := 2) hX rfl (.inl rfl) rfl ?_  -- many
  refine ⟨_, .im _ _, mulx_ok (by rw [Int.natAbs_natCast]; exact hq.2) hm0.2 (by omega), ?_⟩
  refine ⟨_, .im _ _, ?_⟩
  refine ⟨by simp, _, _, _, tup_pair, ?_⟩
  refine ⟨.im (rGiv G.K) (.inr (q.num * m, (q.den : Int) * m)), .cv fun R v h => h, ?_⟩
  have hok : okH (.inr (q.num * m, (q.den : Int) * m)) := ⟨Int.mul_ne_zero (den0 q) hm0.1, mul_lt_pow hq.1 hm0.2 (by omega), mul_lt_pow (by rw [Int.natAbs_natCast]; exact hq.2) hm0.2 (by omega)⟩
  exact fin_bag (x := .no) (xs := [.im (rQ G.K) q]) 0 rfl (hk _ b2 (n1 + 1) (gv_mul hm0.1) hok (by omega) (by omega) hb2)
def cGives (K : PySem.W.Frag) : Ct := fun ks k => ∃ (p : Addr) (b : Bag) (n : Nat) (l : List Rat), ks = [.ow p (cBag K) b, .im (rLT K (rQ K)) l] ∧ Bg n b ∧ n + 2 * l.length + 1 < 2 ^ 30 ∧ l.length ≤ 1000 ∧ (∀ q ∈ l, QB q) ∧
  ∀ (gs : List Giv) (b' : Bag) (n' : Nat), gs.map gv = l → (∀ g ∈ gs, okH g) → n ≤ n' → n' ≤ n + 2 * l.length + 1 → Bg n' b' → k (.im (rLT K (rGiv K)) gs) [.ow p (cBag K) b', .no]
theorem sc35 : FnScope ["bag", "ps", "made_v", "p"] ["bag", "ps"] (defScope (top 40)) := ⟨rfl, rfl, rfl, by decide +kernel, rfl, by decide +kernel, by decide +kernel⟩
theorem f35 {G : Gm} {f : Addr} {fd : FuncData} (F : Fun G.K "_law_gives" "_law_gives" (top 40) f fd) (hf : G.mg "_law_gives" = some (.ref f)) (b : Binds G.K fd ["bag", "ps"] [])
    (B : Bi G) (h1 : Fn G "_law_give" 3 (cGive G.K)) (h3 : Fn G "_law_draw" 1 (cDraw G.K)) : Fn G "_law_gives" 4 (cGives G.K) := by
  refine Fn.of F hf b sc35 (fun ks k ⟨p, b, n, l, h, _⟩ => by rw [h]; rfl) fun X hX hfn hp ks k ⟨p, b, n, l, hks, hb, hn, hl, hq, hk⟩ => ?_
  subst hks
  -- made_v = [_law_give(bag, p) for p in ps]
  refine S_cons ?_
  refine S1_setLc (own := [("p", 3)]) (rGiv G.K) (i := 2) hX rfl rfl rfl rfl rfl rfl ?_
  refine I_nameLT (i := 1) hX rfl (.inl rfl) rfl ?_
  refine ⟨fun i out τ => out.map gv = l.take i ∧ (∀ g ∈ out, okH g) ∧ ∃ b' n', n ≤ n' ∧ n' ≤ n + 2 * i ∧ Bg n' b' ∧ τ = [.ow p (cBag G.K) b', .im (rLT G.K (rQ G.K)) l, .no, .no], ⟨rfl, by simp, b, n, Nat.le_refl _, by omega, hb, rfl⟩, fun i y hy => ?_, fun out τ hJ q => ?_⟩
  · rintro out τ ⟨ho, hok, b1, n1, hn1, hn2, hb1, hτ⟩ X1 hX1 hf1
    subst hτ
    obtain ⟨q, hqi, ey⟩ := mapK_get hy
    subst ey
    have hi := (List.getElem?_eq_some_iff.mp hqi).1
    have hol : out.length = i := by
      have := congrArg List.length ho
      rw [List.length_map, List.length_take] at this
      omega
    refine TB_name (i := 3) hX1 rfl rfl (by decide) ?_  -- p
    intro X2 hX2
    refine Cs_nil ?_
    refine ⟨fun _ X3 hX3 => ?_, fun h => by cases h⟩
    refine E_call hX3 h1 (by omega) rfl rfl ?_
    refine A_cons rfl ?_
    refine P_name (i := 0) hX3 rfl (.inr (.inl rfl)) rfl (by intro z; cases z) ?_  -- bag
    refine A_cons rfl ?_
    refine P_name (i := 3) hX3 rfl (.inl rfl) rfl (by intro z; cases z) ?_  -- p
    refine A_nil ?_
    refine ⟨[_, _], ⟨rfl, rfl, trivial⟩, trivial, p, b1, n1, q, rfl, hb1, by omega, hq q (List.mem_of_getElem? hqi), fun g b2 n2 hgv hg hn3 hn4 hb2 => ?_⟩
    refine ⟨_, .im _ _, by omega, ?_, fun x hx => ?_, b2, n2, by omega, by omega, hb2, rfl⟩
    · rw [List.map_append, ho, take_get hqi, ← hgv]; rfl
    · rcases List.mem_append.mp hx with z | z
      · exact hok x z
      · have : x = g := by simpa using z
        rw [this]; exact hg
  obtain ⟨ho, hok, b1, n1, hn1, hn2, hb1, hτ⟩ := hJ
  rw [List.length_map] at ho hn2
  rw [List.take_length] at ho
  subst hτ
  -- return made_v if _law_draw(bag, 2) == 0 else tuple(made_v)
  refine S_one ?_
  refine S1_ret ?_
  refine E_fz ?_
  refine E_if ?_
  refine C_eqI ?_
  refine E_call hX h3 (by omega) rfl rfl ?_
  refine A_cons rfl ?_
  refine P_name (i := 0) hX rfl (.inr (.inl rfl)) rfl (by intro z; cases z) ?_  -- bag
  refine A_cons rfl ?_
  refine P_val ?_
  refine E_int ?_
  refine ⟨_, _, _, .im _ _, ?_⟩
  refine A_nil ?_
  refine ⟨[_, _], ⟨rfl, rfl, trivial⟩, trivial, p, b1, n1, 2, rfl, hb1, by omega, by decide, by decide, fun d b2 hd hb2 => ?_⟩
  refine ⟨_, .im _ _, ?_⟩
  refine E_int ?_
  refine ⟨_, .im _ _, ?_⟩
  refine ⟨fun hc => ?_, fun hc => ?_⟩
  · refine E_frz (i := 2) hX rfl (.inl rfl) rfl (frz_L (K := G.K)) ?_
    refine ⟨.im (rLT G.K (rGiv G.K)) out, .cv fun R v h => .inl h, ?_⟩
    exact fin_bag (x := .no) (xs := [.im (rLT G.K (rQ G.K)) l]) 0 rfl (hk out b2 (n1 + 1) ho hok (by omega) (by omega) hb2)
  · refine E_tuple (rGiv G.K) hX rfl B.tuple rfl ?_
    refine E_frz (i := 2) hX rfl (.inl rfl) rfl (frz_L (K := G.K)) ?_
    refine ⟨out, .inl (.im _ _), ?_⟩
    refine ⟨.im (rLT G.K (rGiv G.K)) out, .cv fun R v h => .inr h, ?_⟩
    exact fin_bag (x := .no) (xs := [.im (rLT G.K (rQ G.K)) l]) 0 rfl (hk out b2 (n1 + 1) ho hok (by omega) (by omega) hb2)
end T
end
section
set_option Elab.async false
set_option linter.all false
set_option autoImplicit false
set_option maxRecDepth 100000
/-! Plain law: the law's own elimination by lists of whole numbers. -/
namespace T
abbrev IRow := List Int
def ia (ks : IRow) (j : Int) : Int := if 0 ≤ j then ks[j.toNat]?.getD 0 else 0
def iv (ks : IRow) : Vec := fun j => (ia ks j : Rat)
def gcdL (ks : IRow) : Nat := ks.foldl (fun g k => Nat.gcd g k.natAbs) 0
def primL (ks : IRow) : IRow := if 1 < gcdL ks then ks.map fun k => k.fdiv (gcdL ks : Int) else ks
def clrL (ks lead : IRow) (col : Int) : IRow := if ia ks col = 0 then ks else primL (List.zipWith (fun k j => k * ia lead col - j * ia ks col) ks lead)
theorem ia_nat (ks : IRow) (n : Nat) : ia ks (n : Int) = ks[n]?.getD 0 := by unfold ia; rw [if_pos (by omega), Int.toNat_natCast]
theorem ia_neg {ks : IRow} {j : Int} (h : j < 0) : ia ks j = 0 := by unfold ia; rw [if_neg (by omega)]
theorem ia_big {ks : IRow} {j : Int} (h : (ks.length : Int) ≤ j) : ia ks j = 0 := by
  unfold ia
  split
  · rw [List.getElem?_eq_none (by omega)]; rfl
  · rfl
theorem ia_map (f : Int → Int) (hf : f 0 = 0) (ks : IRow) (j : Int) : ia (ks.map f) j = f (ia ks j) := by
  unfold ia
  split
  · rw [List.getElem?_map]
    cases ks[j.toNat]? with
    | none => exact hf.symm
    | some k => rfl
  · exact hf.symm
theorem ia_mem {ks : IRow} {j : Int} (h : ia ks j ≠ 0) : ia ks j ∈ ks := by
  unfold ia at *
  split
  · rename_i h0
    rw [if_pos h0] at h
    cases e : ks[j.toNat]? with
    | none => rw [e] at h; exact absurd rfl h
    | some k => exact List.mem_of_getElem? e
  · rename_i h0
    rw [if_neg h0] at h; exact absurd rfl h
theorem ia_zip {f : Int → Int → Int} (hf : f 0 0 = 0) {a b : IRow} (h : a.length = b.length) (j : Int) : ia (List.zipWith f a b) j = f (ia a j) (ia b j) := by
  unfold ia
  split
  · rw [List.getElem?_zipWith]
    by_cases hj : j.toNat < a.length
    · rw [List.getElem?_eq_getElem hj, List.getElem?_eq_getElem (by omega)]
      rfl
    · rw [List.getElem?_eq_none (by omega), List.getElem?_eq_none (l := b) (by omega)]
      exact hf.symm
  · exact hf.symm
theorem gcdL_dvd : ∀ (ks : IRow) (g : Nat), (ks.foldl (fun g k => Nat.gcd g k.natAbs) g ∣ g) ∧ ∀ k ∈ ks, ((ks.foldl (fun g k => Nat.gcd g k.natAbs) g : Nat) : Int) ∣ k := by
  intro ks
  induction ks with
  | nil => intro g; exact ⟨Nat.dvd_refl _, fun k h => by cases h⟩
  | cons x ks ih =>
    intro g
    obtain ⟨h1, h2⟩ := ih (Nat.gcd g x.natAbs)
    rw [List.foldl_cons]
    refine ⟨Nat.dvd_trans h1 (Nat.gcd_dvd_left _ _), fun k hk => ?_⟩
    rcases List.mem_cons.mp hk with e | e
    · subst e; exact Int.ofNat_dvd_left.mpr (Nat.dvd_trans h1 (Nat.gcd_dvd_right _ _))
    · exact h2 k e
theorem gcdL_le {ks : IRow} {m : Nat} (h : ∀ k ∈ ks, k.natAbs < m) (hm : 0 < m) : gcdL ks < m := by
  rcases Nat.eq_zero_or_pos (gcdL ks) with z | z
  · omega
  · -- some entry is not 0
    rcases Decidable.em (∃ k ∈ ks, k ≠ 0) with ⟨k, hk, h0⟩ | hn
    · have := Int.ofNat_dvd_left.mp ((gcdL_dvd ks 0).2 k hk)
      exact Nat.lt_of_le_of_lt (Nat.le_of_dvd (by omega) this) (h k hk)
    · have key : ∀ (ks : IRow), (∀ k ∈ ks, k = 0) → ks.foldl (fun g k => Nat.gcd g k.natAbs) 0 = 0 := by
        intro ks
        induction ks with
        | nil => intro _; rfl
        | cons x ks ih =>
          intro hx
          rw [List.foldl_cons, hx x List.mem_cons_self]
          exact ih fun k hk => hx k (List.mem_cons_of_mem _ hk)
      have : gcdL ks = 0 := key ks fun k hk => by
        rcases Decidable.em (k = 0) with q | q
        · exact q
        · exact absurd ⟨k, hk, q⟩ hn
      omega
theorem primL_all (ks : IRow) : (primL ks).length = ks.length ∧ ∃ c : Int, c ≠ 0 ∧ (∀ j, c * ia (primL ks) j = ia ks j) ∧ ∀ j, (ia (primL ks) j).natAbs ≤ (ia ks j).natAbs := by
  unfold primL
  by_cases h : 1 < gcdL ks
  · rw [if_pos h]
    have hg : (gcdL ks : Int) ≠ 0 := by omega
    have e : ∀ j, (gcdL ks : Int) * ia (ks.map fun k => k.fdiv (gcdL ks : Int)) j = ia ks j := fun j => by
      rw [ia_map (fun k => k.fdiv (gcdL ks : Int)) (by simp)]
      by_cases hj : ia ks j = 0
      · rw [hj]; simp
      · obtain ⟨c, hc⟩ := (gcdL_dvd ks 0).2 _ (ia_mem hj)
        have hc' : ia ks j = (gcdL ks : Int) * c := hc
        rw [hc', Int.mul_fdiv_cancel_left _ hg]
    refine ⟨by simp, (gcdL ks : Int), hg, e, fun j => ?_⟩
    rw [← e j, Int.natAbs_mul, Int.natAbs_natCast]
    exact Nat.le_mul_of_pos_left _ (by omega)
  · rw [if_neg h]
    exact ⟨rfl, 1, by decide, fun j => Int.one_mul _, fun j => Nat.le_refl _⟩
theorem clrL_all {ks lead : IRow} {col : Int} {A B : Nat} (hl : ks.length = lead.length) (h0 : ia lead col ≠ 0) (hA : ∀ j, (ia ks j).natAbs ≤ A) (hB : ∀ j, (ia lead j).natAbs ≤ B) (hB1 : 1 ≤ B) :
    (clrL ks lead col).length = ks.length ∧ (∃ c u d : Int, c ≠ 0 ∧ u ≠ 0 ∧ (∀ j, c * ia (clrL ks lead col) j = u * ia ks j - d * ia lead j) ∧ u * ia ks col = d * ia lead col) ∧ ∀ j, (ia (clrL ks lead col) j).natAbs ≤ 2 * (A * B) := by
  unfold clrL
  by_cases h : ia ks col = 0
  · rw [if_pos h]
    refine ⟨rfl, ⟨1, 1, 0, by decide, by decide, fun j => by omega, by rw [h]; omega⟩, fun j => ?_⟩
    have := hA j
    have := Nat.le_mul_of_pos_right A hB1
    omega
  · rw [if_neg h]
    obtain ⟨p1, c, hc, p2, p3⟩ := primL_all (List.zipWith (fun k j => k * ia lead col - j * ia ks col) ks lead)
    have hz : ∀ j, ia (List.zipWith (fun k j => k * ia lead col - j * ia ks col) ks lead) j = ia ks j * ia lead col - ia lead j * ia ks col := fun j => ia_zip (by simp) hl j
    refine ⟨by rw [p1, List.length_zipWith, hl, Nat.min_self], ⟨c, ia lead col, ia ks col, hc, h0, fun j => ?_, Int.mul_comm _ _⟩, fun j => ?_⟩
    · rw [p2, hz, Int.mul_comm (ia ks j), Int.mul_comm (ia lead j)]
    · refine Nat.le_trans (p3 j) ?_
      rw [hz]
      have a1 : (ia ks j * ia lead col).natAbs ≤ A * B := by rw [Int.natAbs_mul]; exact Nat.mul_le_mul (hA j) (hB col)
      have a2 : (ia lead j * ia ks col).natAbs ≤ A * B := by rw [Int.natAbs_mul, Nat.mul_comm]; exact Nat.mul_le_mul (hA col) (hB j)
      omega
/-! ### what the law's steps keep -/
structure SI (w : Nat) (V : Vec → Prop) (M N : Nat) (col : Nat) (left done : List IRow) (leads : List Int) : Prop where
  lw : ∀ l ∈ left, l.length = w
  dw : ∀ l ∈ done, l.length = w
  len : done.length = leads.length
  asc : leads.Pairwise (· < ·)
  lt : ∀ c ∈ leads, 0 ≤ c ∧ c < (col : Int)
  lv : ∀ l ∈ left, Span V (iv l)
  dv : ∀ l ∈ done, Span V (iv l)
  lz : ∀ l ∈ left, ∀ j, j < (col : Int) → ia l j = 0
  one : ∀ (i : Nat) (d : IRow) (c : Int), done[i]? = some d → leads[i]? = some c → ia d c ≠ 0 ∧ ∀ j, j < c → ia d j = 0
  red : ∀ (i k : Nat) (d : IRow) (c : Int), done[i]? = some d → leads[k]? = some c → i ≠ k → ia d c = 0
  gen : ∀ x, Span V x → (∀ c ∈ leads, x c = 0) → Span (fun v => ∃ l ∈ left, v = iv l) x
  lM : ∀ l ∈ left, ∀ j, (ia l j).natAbs ≤ M
  dN : ∀ l ∈ done, ∀ j, (ia l j).natAbs ≤ N
theorem SI.skip {w M N col : Nat} {V : Vec → Prop} {left done : List IRow} {leads : List Int} (h : SI w V M N col left done leads) (hz : ∀ l ∈ left, ia l (col : Int) = 0) : SI w V M N (col + 1) left done leads where
  lw := h.lw
  dw := h.dw
  len := h.len
  asc := h.asc
  lt := fun c hc => by have := h.lt c hc; omega
  lv := h.lv
  dv := h.dv
  lz := fun l hl j hj => by
    rcases Int.lt_or_le j (col : Int) with q | q
    · exact h.lz l hl j q
    · have : j = (col : Int) := by omega
      rw [this]; exact hz l hl
  one := h.one
  red := h.red
  gen := h.gen
  lM := h.lM
  dN := h.dN
theorem Span.idem {V : Vec → Prop} {x : Vec} (h : Span (Span V) x) : Span V x := Span.mono (fun _ h => h) h
theorem SI.step {w M N col : Nat} {V : Vec → Prop} {left rest done : List IRow} {leads : List Int} {lead0 lead : IRow} {s : Int} (h : SI w V M N col left done leads) (hw : col < w) (hp : (lead0 :: rest).Perm left) (hs : s = 1 ∨ s = -1) (hsl : ∀ j, ia lead j = s * ia lead0 j) (hll : lead.length = w)
    (h0 : ia lead (col : Int) ≠ 0) (hM : 1 ≤ M) : SI w V (2 * (M * M)) (2 * (N * M) + M) (col + 1) (rest.map fun ks => clrL ks lead (col : Int)) ((done.map fun ks => clrL ks lead (col : Int)) ++ [lead]) (leads ++ [(col : Int)]) := by
  have hmem : ∀ l ∈ rest, l ∈ left := fun l hl => hp.mem_iff.mp (List.mem_cons_of_mem _ hl)
  have hl0 : lead0 ∈ left := hp.mem_iff.mp List.mem_cons_self
  have lM : ∀ j, (ia lead j).natAbs ≤ M := fun j => by
    have := h.lM lead0 hl0 j
    rw [hsl, Int.natAbs_mul]
    rcases hs with e | e <;> (subst e; simpa using this)
  have lz : ∀ j, j < (col : Int) → ia lead j = 0 := fun j hj => by rw [hsl, h.lz lead0 hl0 j hj, Int.mul_zero]
  have lv : Span V (iv lead) := (Span.smul (h.lv lead0 hl0) (s : Rat)).cast fun j => by
    show _ = (ia lead j : Rat)
    rw [hsl, Rat.intCast_mul]
    rfl
  have cl := fun ks (hk : ks ∈ rest) => clrL_all (col := (col : Int)) (A := M) (B := M) ((h.lw ks (hmem ks hk)).trans hll.symm) h0 (h.lM ks (hmem ks hk)) lM hM
  have cd := fun ks (hk : ks ∈ done) => clrL_all (col := (col : Int)) (A := N) (B := M) ((h.dw ks hk).trans hll.symm) h0 (h.dN ks hk) lM hM
  -- a cleared row at a place at which row and lead are 0
  have zero : ∀ {ks : IRow} {j : Int}, (∃ c u d : Int, c ≠ 0 ∧ u ≠ 0 ∧ (∀ j, c * ia (clrL ks lead (col : Int)) j = u * ia ks j - d * ia lead j) ∧ u * ia ks (col : Int) = d * ia lead (col : Int)) → ia ks j = 0 → ia lead j = 0 → ia (clrL ks lead (col : Int)) j = 0 := fun {ks j} ⟨c, u, d, hc, hu, e, _⟩ h1 h2 => by
    have := e j
    rw [h1, h2, Int.mul_zero, Int.mul_zero, Int.sub_zero] at this
    rcases Int.mul_eq_zero.mp this with y | y
    · exact absurd y hc
    · exact y
  have atcol : ∀ {ks : IRow}, (∃ c u d : Int, c ≠ 0 ∧ u ≠ 0 ∧ (∀ j, c * ia (clrL ks lead (col : Int)) j = u * ia ks j - d * ia lead j) ∧ u * ia ks (col : Int) = d * ia lead (col : Int)) → ia (clrL ks lead (col : Int)) (col : Int) = 0 := fun {ks} ⟨c, u, d, hc, hu, e, he⟩ => by
    have := e (col : Int)
    rw [he, Int.sub_self] at this
    rcases Int.mul_eq_zero.mp this with y | y
    · exact absurd y hc
    · exact y
  have spn : ∀ {ks : IRow}, (∃ c u d : Int, c ≠ 0 ∧ u ≠ 0 ∧ (∀ j, c * ia (clrL ks lead (col : Int)) j = u * ia ks j - d * ia lead j) ∧ u * ia ks (col : Int) = d * ia lead (col : Int)) → Span V (iv ks) → Span V (iv (clrL ks lead (col : Int))) := fun {ks} ⟨c, u, d, hc, hu, e, _⟩ hk => by
    have hc' : (c : Rat) ≠ 0 := by intro y; exact hc (by exact_mod_cast y)
    refine (Span.plus (Span.smul hk ((u : Rat) / (c : Rat))) (Span.smul lv (-(d : Rat) / (c : Rat)))).cast fun j => ?_
    have : (c : Rat) * (ia (clrL ks lead (col : Int)) j : Rat) = (u : Rat) * (ia ks j : Rat) - (d : Rat) * (ia lead j : Rat) := by
      have := congrArg (fun x : Int => (x : Rat)) (e j)
      simpa [Rat.intCast_mul, Rat.intCast_sub] using this
    show _ = (ia (clrL ks lead (col : Int)) j : Rat)
    simp only [iv]
    grind
  have leadN : ∀ {c : Int}, c ∈ leads → ia lead c = 0 := fun {c} hc => lz c (h.lt c hc).2
  -- the i-th done row now
  have dget : ∀ (i : Nat) (d : IRow), ((done.map fun ks => clrL ks lead (col : Int)) ++ [lead])[i]? = some d → (∃ d0, done[i]? = some d0 ∧ d = clrL d0 lead (col : Int)) ∨ (i = done.length ∧ d = lead) := fun i d e => by
    rcases Nat.lt_or_ge i done.length with q | q
    · rw [List.getElem?_append_left (by rw [List.length_map]; exact q), List.getElem?_map] at e
      cases e0 : done[i]? with
      | none => rw [e0] at e; cases e
      | some d0 => rw [e0] at e; exact .inl ⟨d0, rfl, (Option.some.inj e).symm⟩
    · rw [List.getElem?_append_right (by rw [List.length_map]; exact q), List.length_map] at e
      have hi : i - done.length = 0 := by
        rcases Nat.eq_zero_or_pos (i - done.length) with z | z
        · exact z
        · rw [List.getElem?_eq_none (by simp; omega)] at e; cases e
      rw [hi] at e
      exact .inr ⟨by omega, (Option.some.inj e).symm⟩
  have lget : ∀ (i : Nat) (c : Int), (leads ++ [(col : Int)])[i]? = some c → leads[i]? = some c ∨ (i = leads.length ∧ c = (col : Int)) := fun i c e => by
    rcases Nat.lt_or_ge i leads.length with q | q
    · rw [List.getElem?_append_left q] at e; exact .inl e
    · rw [List.getElem?_append_right q] at e
      have hi : i - leads.length = 0 := by
        rcases Nat.eq_zero_or_pos (i - leads.length) with z | z
        · exact z
        · rw [List.getElem?_eq_none (by simp; omega)] at e; cases e
      rw [hi] at e
      exact .inr ⟨by omega, (Option.some.inj e).symm⟩
  refine ⟨fun l hl => ?_, fun l hl => ?_, by simp [h.len], ?_, fun c hc => ?_, fun l hl => ?_, fun l hl => ?_, fun l hl j hj => ?_, fun i d c e1 e2 => ?_, fun i k d c e1 e2 hne => ?_, fun x hx hx0 => ?_, fun l hl j => ?_, fun l hl j => ?_⟩
  · obtain ⟨ks, hk, e⟩ := List.mem_map.mp hl
    rw [← e, (cl ks hk).1]; exact h.lw ks (hmem ks hk)
  · rcases List.mem_append.mp hl with q | q
    · obtain ⟨ks, hk, e⟩ := List.mem_map.mp q
      rw [← e, (cd ks hk).1]; exact h.dw ks hk
    · have : l = lead := by simpa using q
      rw [this]; exact hll
  · rw [List.pairwise_append]
    refine ⟨h.asc, by simp, fun a ha b hb => ?_⟩
    have : b = (col : Int) := by simpa using hb
    rw [this]; exact (h.lt a ha).2
  · rcases List.mem_append.mp hc with q | q
    · have := h.lt c q; omega
    · have : c = (col : Int) := by simpa using q
      omega
  · obtain ⟨ks, hk, e⟩ := List.mem_map.mp hl
    rw [← e]; exact spn (cl ks hk).2.1 (h.lv ks (hmem ks hk))
  · rcases List.mem_append.mp hl with q | q
    · obtain ⟨ks, hk, e⟩ := List.mem_map.mp q
      rw [← e]; exact spn (cd ks hk).2.1 (h.dv ks hk)
    · have : l = lead := by simpa using q
      rw [this]; exact lv
  · obtain ⟨ks, hk, e⟩ := List.mem_map.mp hl
    rw [← e]
    rcases Int.lt_or_le j (col : Int) with q | q
    · exact zero (cl ks hk).2.1 (h.lz ks (hmem ks hk) j q) (lz j q)
    · have : j = (col : Int) := by omega
      rw [this]; exact atcol (cl ks hk).2.1
  · rcases dget i d e1 with ⟨d0, hd0, ed⟩ | ⟨hi, ed⟩
    · have hil : i < done.length := (List.getElem?_eq_some_iff.mp hd0).1
      rcases lget i c e2 with hc | ⟨hi2, _⟩
      · obtain ⟨o1, o2⟩ := h.one i d0 c hd0 hc
        have hcm := List.mem_of_getElem? hc
        obtain ⟨c1, u, dd, hc1, hu, e, he⟩ := (cd d0 (List.mem_of_getElem? hd0)).2.1
        rw [ed]
        refine ⟨fun y => ?_, fun j hj => zero ⟨c1, u, dd, hc1, hu, e, he⟩ (o2 j hj) (lz j (by have := (h.lt c hcm).2; omega))⟩
        have := e c
        rw [y, leadN hcm, Int.mul_zero, Int.mul_zero, Int.sub_zero] at this
        exact absurd this.symm (Int.mul_ne_zero hu o1)
      · have := h.len; omega
    · rcases lget i c e2 with hc | ⟨hi2, ec⟩
      · have := (List.getElem?_eq_some_iff.mp hc).1
        have := h.len
        omega
      · rw [ed, ec]; exact ⟨h0, lz⟩
  · rcases dget i d e1 with ⟨d0, hd0, ed⟩ | ⟨hi, ed⟩
    · rw [ed]
      rcases lget k c e2 with hc | ⟨hi2, ec⟩
      · exact zero (cd d0 (List.mem_of_getElem? hd0)).2.1 (h.red i k d0 c hd0 hc hne) (leadN (List.mem_of_getElem? hc))
      · rw [ec]; exact atcol (cd d0 (List.mem_of_getElem? hd0)).2.1
    · rcases lget k c e2 with hc | ⟨hi2, ec⟩
      · rw [ed]; exact leadN (List.mem_of_getElem? hc)
      · have := h.len; omega
  · -- nothing else
    have h1 := h.gen x hx fun c hc => hx0 c (List.mem_append_left _ hc)
    have h2 : x (col : Int) = 0 := hx0 _ (List.mem_append_right _ (by simp))
    have hl0' : (ia lead (col : Int) : Rat) ≠ 0 := by intro y; exact h0 (by exact_mod_cast y)
    have key : ∀ x, Span (fun v => ∃ l ∈ left, v = iv l) x → Span (fun v => ∃ l ∈ rest.map (fun ks => clrL ks lead (col : Int)), v = iv l) (fun j => x j - x (col : Int) / (ia lead (col : Int) : Rat) * (ia lead j : Rat)) := by
      intro x hx
      induction hx with
      | zero => exact Span.zero.cast fun j => by grind
      | @add u v c hu _ ih =>
        obtain ⟨l, hl, e⟩ := hu
        subst e
        have hone : Span (fun v => ∃ l ∈ rest.map (fun ks => clrL ks lead (col : Int)), v = iv l) (fun j => (ia l j : Rat) - (ia l (col : Int) : Rat) / (ia lead (col : Int) : Rat) * (ia lead j : Rat)) := by
          rcases List.mem_cons.mp (hp.mem_iff.mpr hl) with q | q
          · subst q
            have hs0 : (s : Rat) ≠ 0 := by rcases hs with e | e <;> (subst e; decide)
            have hll0 : (ia l (col : Int) : Rat) ≠ 0 := by
              intro y
              apply h0
              rw [hsl]
              have : ia l (col : Int) = 0 := by exact_mod_cast y
              rw [this, Int.mul_zero]
            refine Span.zero.cast fun j => ?_
            rw [hsl, hsl, Rat.intCast_mul, Rat.intCast_mul]
            grind
          · obtain ⟨c1, u, d, hc1, hu, e, he⟩ := (cl l q).2.1
            have hu' : (u : Rat) ≠ 0 := by intro y; exact hu (by exact_mod_cast y)
            refine (Span.smul (Span.of ⟨_, List.mem_map.mpr ⟨l, q, rfl⟩, rfl⟩) ((c1 : Rat) / (u : Rat))).cast fun j => ?_
            have e1 : (c1 : Rat) * (ia (clrL l lead (col : Int)) j : Rat) = (u : Rat) * (ia l j : Rat) - (d : Rat) * (ia lead j : Rat) := by
              have := congrArg (fun x : Int => (x : Rat)) (e j)
              simpa [Rat.intCast_mul, Rat.intCast_sub] using this
            have e2 : (u : Rat) * (ia l (col : Int) : Rat) = (d : Rat) * (ia lead (col : Int) : Rat) := by
              have := congrArg (fun x : Int => (x : Rat)) he
              simpa [Rat.intCast_mul] using this
            simp only [iv]
            grind
        refine (Span.plus (Span.smul hone c) ih).cast fun j => ?_
        simp only [iv]
        grind
    refine (key x h1).cast fun j => ?_
    rw [h2]
    grind
  · obtain ⟨ks, hk, e⟩ := List.mem_map.mp hl
    rw [← e]; exact (cl ks hk).2.2 j
  · rcases List.mem_append.mp hl with q | q
    · obtain ⟨ks, hk, e⟩ := List.mem_map.mp q
      rw [← e]
      have := (cd ks hk).2.2 j
      omega
    · have : l = lead := by simpa using q
      rw [this]
      have := lM j
      omega
/-! ### the numbers of a row of fractions -/
def qv (row : List Rat) : Vec := fun j => if 0 ≤ j then row[j.toNat]?.getD 0 else 0
def lcmD (row : List Rat) : Nat := row.foldl (fun c q => Nat.lcm c q.den) 1
def wnum (row : List Rat) (q : Rat) : Int := q.num * ((lcmD row : Int).fdiv (q.den : Int))
def wholeL (row : List Rat) : IRow := primL (row.map (wnum row))
def WB (b : Nat) (row : List Rat) : Prop := ∀ q ∈ row, (wnum row q).natAbs ≤ 2 ^ b
theorem lcmD_dvd : ∀ (row : List Rat) (c : Nat), c ∣ row.foldl (fun c q => Nat.lcm c q.den) c ∧ ∀ q ∈ row, q.den ∣ row.foldl (fun c q => Nat.lcm c q.den) c := by
  intro row
  induction row with
  | nil => intro c; exact ⟨Nat.dvd_refl _, fun q h => by cases h⟩
  | cons x row ih =>
    intro c
    obtain ⟨h1, h2⟩ := ih (Nat.lcm c x.den)
    rw [List.foldl_cons]
    refine ⟨Nat.dvd_trans (Nat.dvd_lcm_left _ _) h1, fun q hq => ?_⟩
    rcases List.mem_cons.mp hq with e | e
    · subst e; exact Nat.dvd_trans (Nat.dvd_lcm_right _ _) h1
    · exact h2 q e
theorem lcmD_pos (row : List Rat) : 0 < lcmD row := by
  have key : ∀ (row : List Rat) (c : Nat), 0 < c → 0 < row.foldl (fun c q => Nat.lcm c q.den) c := by
    intro row
    induction row with
    | nil => intro c h; exact h
    | cons x row ih =>
      intro c h
      exact ih _ (Nat.lcm_pos h x.den_pos)
  exact key row 1 (by decide)
/-- a whole number is the fraction times the common denominator -/
theorem wnum_eq {row : List Rat} {q : Rat} (h : q ∈ row) : (wnum row q : Rat) = ((lcmD row : Int) : Rat) * q := by
  unfold wnum
  have hd : (q.den : Int) ≠ 0 := by have := q.den_pos; omega
  obtain ⟨c, hc⟩ := (lcmD_dvd row 1).2 q h
  have e : (lcmD row : Int) = (q.den : Int) * (c : Int) := by
    have : lcmD row = q.den * c := hc
    rw [this, Int.natCast_mul]
  rw [e, Int.mul_fdiv_cancel_left _ hd]
  have hq : q = (q.num : Rat) / ((q.den : Int) : Rat) := by rw [← Rat.divInt_eq_div, Rat.num_divInt_den]
  have hdr : ((q.den : Int) : Rat) ≠ 0 := by intro z; exact hd (by exact_mod_cast z)
  rw [Rat.intCast_mul, Rat.intCast_mul]
  generalize (q.num : Rat) = a at *
  generalize ((q.den : Int) : Rat) = d at *
  subst hq
  grind
theorem ia_wnum (row : List Rat) (j : Int) : (ia (row.map (wnum row)) j : Rat) = ((lcmD row : Int) : Rat) * qv row j := by
  unfold ia qv
  split
  · rw [List.getElem?_map]
    cases e : row[j.toNat]? with
    | none => simp
    | some q => exact wnum_eq (List.mem_of_getElem? e)
  · simp
theorem wholeL_all {b : Nat} {row : List Rat} (h : WB b row) : (wholeL row).length = row.length ∧ (∃ c : Rat, c ≠ 0 ∧ ∀ j, (ia (wholeL row) j : Rat) = c * qv row j) ∧ ∀ j, (ia (wholeL row) j).natAbs ≤ 2 ^ b := by
  obtain ⟨h1, c, hc, h2, h3⟩ := primL_all (row.map (wnum row))
  refine ⟨by rw [wholeL, h1, List.length_map], ⟨((lcmD row : Int) : Rat) / (c : Rat), ?_, fun j => ?_⟩, fun j => ?_⟩
  · have hc' : (c : Rat) ≠ 0 := by intro y; exact hc (by exact_mod_cast y)
    have hl : ((lcmD row : Int) : Rat) ≠ 0 := by
      intro y
      have h1 := lcmD_pos row
      have h2 : (lcmD row : Int) = 0 := by exact_mod_cast y
      omega
    grind
  · have hc' : (c : Rat) ≠ 0 := by intro y; exact hc (by exact_mod_cast y)
    have e1 := ia_wnum row j
    have e2 : (c : Rat) * (ia (primL (row.map (wnum row))) j : Rat) = (ia (row.map (wnum row)) j : Rat) := by
      have := congrArg (fun x : Int => (x : Rat)) (h2 j)
      simpa [Rat.intCast_mul] using this
    show (ia (primL (row.map (wnum row))) j : Rat) = _
    grind
  · refine Nat.le_trans (h3 j) ?_
    by_cases hz : ia (row.map (wnum row)) j = 0
    · rw [hz]; exact Nat.zero_le _
    · obtain ⟨q, hq, e⟩ := List.mem_map.mp (ia_mem hz)
      rw [← e]; exact h q hq
def MV (mat : List (List Rat)) : Vec → Prop := fun v => ∃ r ∈ mat, v = qv r
def ML (b : Nat) : Nat → Nat
  | 0 => 2 ^ b
  | k + 1 => 2 * (ML b k * ML b k)
def NL (b : Nat) : Nat → Nat
  | 0 => 0
  | k + 1 => 2 * (NL b k * ML b k) + ML b k
theorem SI.init {w b : Nat} {mat : List (List Rat)} (hw : ∀ r ∈ mat, r.length = w) (hb : ∀ r ∈ mat, WB b r) : SI w (MV mat) (ML b 0) (NL b 0) 0 (mat.map wholeL) [] [] where
  lw := fun l hl => by
    obtain ⟨r, hr, e⟩ := List.mem_map.mp hl
    rw [← e, (wholeL_all (hb r hr)).1]; exact hw r hr
  dw := by simp
  len := rfl
  asc := .nil
  lt := by simp
  lv := fun l hl => by
    obtain ⟨r, hr, e⟩ := List.mem_map.mp hl
    obtain ⟨c, hc, e2⟩ := (wholeL_all (hb r hr)).2.1
    rw [← e]
    exact (Span.smul (Span.of ⟨r, hr, rfl⟩) c).cast fun j => (e2 j).symm
  dv := by simp
  lz := fun l hl j hj => ia_neg (by omega)
  one := fun i d c h => by simp at h
  red := fun i k d c h => by simp at h
  gen := fun x hx _ => Span.mono (fun v ⟨r, hr, e⟩ => by
    obtain ⟨c, hc, e2⟩ := (wholeL_all (hb r hr)).2.1
    subst e
    refine (Span.smul (Span.of ⟨wholeL r, List.mem_map.mpr ⟨r, hr, rfl⟩, rfl⟩) (1 / c)).cast fun j => ?_
    show 1 / c * (ia (wholeL r) j : Rat) = _
    rw [e2]
    grind) hx
  lM := fun l hl j => by
    obtain ⟨r, hr, e⟩ := List.mem_map.mp hl
    rw [← e]; exact (wholeL_all (hb r hr)).2.2 j
  dN := by simp
theorem ML_pos (b : Nat) : ∀ k, 1 ≤ ML b k
  | 0 => Nat.one_le_two_pow
  | k + 1 => by
    have h1 := Nat.mul_pos (ML_pos b k) (ML_pos b k)
    show 1 ≤ 2 * (ML b k * ML b k)
    omega
theorem NL_lt (b : Nat) : ∀ k, NL b k < ML b k
  | 0 => Nat.two_pow_pos b
  | k + 1 => by
    have ih := NL_lt b k
    have hp := ML_pos b k
    show 2 * (NL b k * ML b k) + ML b k < 2 * (ML b k * ML b k)
    have h1 : (NL b k + 1) * ML b k ≤ ML b k * ML b k := Nat.mul_le_mul_right _ ih
    rw [Nat.add_mul, Nat.one_mul] at h1
    omega
theorem ML_bits (b : Nat) : ∀ k, ML b k < 2 ^ (2 ^ k * (b + 1))
  | 0 => by
    show 2 ^ b < 2 ^ (1 * (b + 1))
    rw [Nat.one_mul]
    exact Nat.pow_lt_pow_right (by omega) (by omega)
  | k + 1 => by
    have key : ∀ k, ML b k ≤ 2 ^ (2 ^ k * (b + 1) - 1) := by
      intro k
      induction k with
      | zero => show 2 ^ b ≤ 2 ^ (1 * (b + 1) - 1); rw [Nat.one_mul, Nat.add_sub_cancel]; exact Nat.le_refl _
      | succ k ih =>
        have h1 := Nat.mul_le_mul ih ih
        rw [← Nat.pow_add] at h1
        have h2 : 2 * (ML b k * ML b k) ≤ 2 ^ 1 * 2 ^ (2 ^ k * (b + 1) - 1 + (2 ^ k * (b + 1) - 1)) := by omega
        rw [← Nat.pow_add] at h2
        refine Nat.le_trans h2 (Nat.pow_le_pow_right (by omega) ?_)
        have h3 : 1 ≤ 2 ^ k * (b + 1) := Nat.mul_pos (Nat.two_pow_pos k) (by omega)
        have h4 : 2 ^ (k + 1) * (b + 1) = 2 ^ k * (b + 1) + 2 ^ k * (b + 1) := by rw [Nat.pow_succ, Nat.mul_assoc, Nat.mul_comm 2, ← Nat.mul_assoc]; omega
        omega
    have h3 : 1 ≤ 2 ^ (k + 1) * (b + 1) := Nat.mul_pos (Nat.two_pow_pos _) (by omega)
    exact Nat.lt_of_le_of_lt (key (k + 1)) (Nat.pow_lt_pow_right (by omega) (by omega))
theorem ML_small {b k : Nat} (hb : b ≤ 50) (hk : k ≤ 6) : ML b k < 2 ^ 3990 := by
  refine Nat.lt_of_lt_of_le (ML_bits b k) (Nat.pow_le_pow_right (by omega) ?_)
  have h1 : 2 ^ k ≤ 2 ^ 6 := Nat.pow_le_pow_right (by omega) hk
  have h2 := Nat.mul_le_mul h1 (show b + 1 ≤ 51 by omega)
  have : (2 : Nat) ^ 6 * 51 ≤ 3990 := by decide
  omega
theorem SI.few {w M N col : Nat} {V : Vec → Prop} {left done : List IRow} {leads : List Int} (h : SI w V M N col left done leads) : leads.length ≤ col :=
  keys_len col leads (h.asc.imp fun hab => by omega) fun a ha => h.lt a ha
end T
end
section
set_option Elab.async false
set_option linter.all false
set_option maxRecDepth 100000
set_option maxHeartbeats 2000000
set_option exponentiation.threshold 10000
namespace T
open PySem PySem.Spec PyProof.Rows L2
/-! ### _law_prime, _law_whole, _law_clear -/
def cPrimeL (K : PySem.W.Frag) : Ct := fun ks k => ∃ l : IRow, ks = [.im (rL K rI) l] ∧ (∀ x ∈ l, x.natAbs < 2 ^ 9000) ∧ l.length ≤ 1000 ∧ k (.im (rL K rI) (primL l)) [.no]
theorem gcdL_one {l : IRow} {i : Nat} {x : Int} (h : (l.take i).foldl (fun g k => Nat.gcd g k.natAbs) 0 = 1) (hx : l[i]? = some x) : (l.take (i + 1)).foldl (fun g k => Nat.gcd g k.natAbs) 0 = 1 := by
  rw [take_get hx, List.foldl_append, h]
  exact Nat.gcd_one_left _
theorem sc36 : FnScope ["ks", "most", "k"] ["ks"] (defScope (top 42)) := ⟨rfl, rfl, rfl, by decide +kernel, rfl, by decide +kernel, by decide +kernel⟩
theorem f36 {G : Gm} {f : Addr} {fd : FuncData} (F : Fun G.K "_law_prime" "_law_prime" (top 42) f fd) (hf : G.mg "_law_prime" = some (.ref f)) (b : Binds G.K fd ["ks"] [])
    (B : Bi G) (h1 : Fn G "_law_gcd" 1 cGcdL) : Fn G "_law_prime" 2 (cPrimeL G.K) := by
  refine Fn.of F hf b sc36 (fun ks k ⟨l, h, _⟩ => by rw [h]; rfl) fun X hX hfn hp ks k ⟨l, hks, hz, hl, hk⟩ => ?_
  subst hks
  -- most = 0
  refine S_cons ?_
  refine S1_setC (i := 1) hX hfn rfl rfl ?_  -- most
  refine E_int ?_
  -- for k in ks:
  refine S_cons ?_
  refine S1_for hX hp ?_
  refine I_list hX ?_
  refine E_name (i := 0) hX rfl (.inl rfl) rfl ?_  -- ks
  refine ⟨_, _, _, .im _ _, ?_⟩
  refine ⟨fun i τ => ∃ x2, τ = [.im (rL G.K rI) l, .im rI (((l.take i).foldl (fun g k => Nat.gcd g k.natAbs) 0 : Nat) : Int), x2], ⟨_, rfl⟩, fun i y τ hy hI => ?_, fun τ hI => ?_⟩
  · obtain ⟨x2, hτ⟩ := hI
    subst hτ
    obtain ⟨x, hx, ey⟩ := mapK_get hy
    subst ey
    refine T_name (i := 2) hX rfl rfl ?_  -- k
    refine S_one ?_
    refine S1_if ?_
    refine C_neI ?_
    refine E_name (i := 1) hX rfl (.inr (.inl rfl)) rfl ?_  -- most
    refine ⟨_, .im _ _, ?_⟩
    refine E_int ?_
    refine ⟨_, .im _ _, ?_⟩
    refine ⟨fun hc => ?_, fun hc => ?_⟩
    · refine S_one ?_
      refine S1_setC (i := 1) hX hfn rfl rfl ?_  -- most
      refine E_call hX h1 (by omega) rfl rfl ?_
      refine A_cons rfl ?_
      refine P_name (i := 1) hX rfl (.inr (.inl rfl)) rfl (by intro z; cases z) ?_  -- most
      refine A_cons rfl ?_
      refine P_name (i := 2) hX rfl (.inl rfl) rfl (by intro z; cases z) ?_  -- k
      refine A_nil ?_
      refine ⟨[_, _], ⟨rfl, rfl, trivial⟩, trivial, _, _, rfl, lt_pow (hz x (List.mem_of_getElem? hx)) (by omega), ?_⟩
      refine ⟨.im rI x, ?_⟩
      rw [Int.natAbs_natCast, take_get hx, List.foldl_append]
      rfl
    · refine S_nil ?_
      refine ⟨.im rI x, ?_⟩
      have h1' : (l.take i).foldl (fun g k => Nat.gcd g k.natAbs) 0 = 1 := by
        have := of_decide_eq_true (by simpa using hc : decide ((((l.take i).foldl (fun g k => Nat.gcd g k.natAbs) 0 : Nat) : Int) = 1) = true)
        omega
      rw [gcdL_one h1' hx, h1']
      rfl
  obtain ⟨x2, hτ⟩ := hI
  rw [List.length_map, List.take_length] at hτ
  subst hτ
  -- return [k // most for k in ks] if most > 1 else ks
  refine S_one ?_
  refine S1_ret ?_
  refine E_fz ?_
  refine E_if ?_
  refine C_gt ?_
  refine E_name (i := 1) hX rfl (.inr (.inl rfl)) rfl ?_  -- most
  refine ⟨_, .im _ _, ?_⟩
  refine E_int ?_
  refine ⟨_, .im _ _, ?_⟩
  refine ⟨fun hc => ?_, fun hc => ?_⟩
  · have hg : 1 < gcdL l := by
      have := of_decide_eq_true hc
      unfold gcdL
      omega
    refine E_lc (own := [("k", 2)]) rI hX rfl ?_
    refine I_list hX ?_
    refine E_name (i := 0) hX rfl (.inl rfl) rfl ?_  -- ks
    refine ⟨_, _, _, .im _ _, ?_⟩
    refine ⟨fun i out τ => out = (l.take i).map (fun k => k.fdiv (gcdL l : Int)) ∧ τ = [.im (rL G.K rI) l, .im rI (gcdL l : Int), .no], ⟨by simp, rfl⟩, fun i y hy => ?_, fun out τ hJ p => ?_⟩
    · rintro out τ ⟨ho, hτ⟩ X1 hX1 hf1
      subst hτ
      obtain ⟨x, hx, ey⟩ := mapK_get hy
      subst ey
      refine TB_name (i := 2) hX1 rfl rfl (by decide) ?_  -- k
      intro X2 hX2
      refine Cs_nil ?_
      refine ⟨fun _ X3 hX3 => ?_, fun h => by cases h⟩
      refine E_fdivB ?_
      refine E_name (i := 2) hX3 rfl (.inl rfl) rfl ?_  -- k
      refine ⟨_, .im _ _, ?_⟩
      refine E_name (i := 1) hX3 rfl (.inr (.inl rfl)) rfl ?_  -- most
      refine ⟨_, .im _ _, divB_ok (by omega) (by rw [Int.natAbs_natCast]; exact gcdL_le hz (Nat.two_pow_pos _)), ?_⟩
      refine ⟨_, .im _ _, ?_, ?_, rfl⟩
      · rw [ho, List.length_map, List.length_take]; omega
      · rw [ho, take_get hx, List.map_append]; rfl
    · obtain ⟨ho, hτ⟩ := hJ
      rw [List.length_map, List.take_length] at ho
      refine ⟨_, .ow (frz_L (K := G.K)), ?_⟩
      have e : primL l = out := by unfold primL; rw [if_pos hg, ho]
      rw [← e]
      exact fin_no hk
  · refine E_name (i := 0) hX rfl (.inl rfl) rfl ?_  -- ks
    refine ⟨_, .im _ _, ?_⟩
    have e : primL l = l := by
      unfold primL
      rw [if_neg]
      intro hg
      have := of_decide_eq_false hc
      unfold gcdL at hg
      omega
    rw [e] at hk
    exact fin_no hk
def cWholeL (K : PySem.W.Frag) : Ct := fun ks k => ∃ row : List Rat, ks = [.im (rT K (rQ K)) row] ∧ NumOk row ∧ row.length ≤ 1000 ∧ k (.im (rL K rI) (wholeL row)) [.no]
theorem sc37 : FnScope ["ps", "low", "p"] ["ps"] (defScope (top 43)) := ⟨rfl, rfl, rfl, by decide +kernel, rfl, by decide +kernel, by decide +kernel⟩
theorem f37 {G : Gm} {f : Addr} {fd : FuncData} (F : Fun G.K "_law_whole" "_law_whole" (top 43) f fd) (hf : G.mg "_law_whole" = some (.ref f)) (b : Binds G.K fd ["ps"] [])
    (B : Bi G) (h1 : Fn G "_law_gcd" 1 cGcdL) (h2 : Fn G "_law_prime" 2 (cPrimeL G.K)) : Fn G "_law_whole" 3 (cWholeL G.K) := by
  refine Fn.of F hf b sc37 (fun ks k ⟨row, h, _⟩ => by rw [h]; rfl) fun X hX hfn hp ks k ⟨row, hks, ⟨m, hm0, hmz, hq⟩, hlen, hk⟩ => ?_
  subst hks
  have hcd : ∀ i, (row.take i).foldl (fun c q => Nat.lcm c q.den) 1 ∣ m := fun i => lcm_dvd (fun q h => (hq q (List.mem_of_mem_take h)).1) 1 (Nat.one_dvd m)
  have hcz : ∀ i, (row.take i).foldl (fun c q => Nat.lcm c q.den) 1 < 2 ^ 1000 := fun i => Nat.lt_of_le_of_lt (Nat.le_of_dvd hm0 (hcd i)) hmz
  have hdz : ∀ q ∈ row, q.den < 2 ^ 1000 := fun q h => Nat.lt_of_le_of_lt (Nat.le_of_dvd hm0 (hq q h).1) hmz
  -- low = 1
  refine S_cons ?_
  refine S1_setC (i := 1) hX hfn rfl rfl ?_  -- low
  refine E_int ?_
  -- for p in ps:
  refine S_cons ?_
  refine S1_for hX hp ?_
  refine I_tup hX ?_
  refine E_name (i := 0) hX rfl (.inl rfl) rfl ?_  -- ps
  refine ⟨_, _, _, .im _ _, ?_⟩
  refine ⟨fun i τ => ∃ x2, τ = [.im (rT G.K (rQ G.K)) row, .im rI (((row.take i).foldl (fun c q => Nat.lcm c q.den) 1 : Nat) : Int), x2], ⟨_, rfl⟩, fun i y τ hy hI => ?_, fun τ hI => ?_⟩
  · obtain ⟨x2, hτ⟩ := hI
    subst hτ
    obtain ⟨q, hqi, ey⟩ := mapK_get hy
    subst ey
    have hqm := List.mem_of_getElem? hqi
    have hz := hcz i
    have hpos : 0 < Nat.gcd ((row.take i).foldl (fun c q => Nat.lcm c q.den) 1) q.den := Nat.gcd_pos_of_pos_right _ q.den_pos
    have hstep : (row.take (i + 1)).foldl (fun c q => Nat.lcm c q.den) 1 = Nat.lcm ((row.take i).foldl (fun c q => Nat.lcm c q.den) 1) q.den := by
      rw [take_get hqi, List.foldl_append]; rfl
    generalize (row.take i).foldl (fun c q => Nat.lcm c q.den) 1 = c at *
    refine T_name (i := 2) hX rfl rfl ?_  -- p
    -- low = low * p[1] // _law_gcd(low, p[1])
    refine S_one ?_
    refine S1_setC (i := 1) hX hfn rfl rfl ?_  -- low
    refine E_fdivB ?_
    refine E_mul ?_
    refine E_name (i := 1) hX rfl (.inr (.inl rfl)) rfl ?_  -- low
    refine ⟨_, .im _ _, ?_⟩
    refine E_ix hX (fun _ _ => rfl) ?_
    refine P_name (i := 2) hX rfl (.inl rfl) rfl (by intro z; cases z) ?_  -- p
    refine E_int ?_
    refine ⟨_, .im _ _, _, rfl, _, _, _, ix_Q1, ?_⟩
    refine ⟨_, .im _ _, mulx_ok (a := 1000) (b := 1000) (by rw [Int.natAbs_natCast]; exact hz) (by rw [Int.natAbs_natCast]; exact hdz q hqm) (by omega), ?_⟩
    refine ⟨_, .im _ _, ?_⟩
    refine E_call hX h1 (by omega) rfl rfl ?_
    refine A_cons rfl ?_
    refine P_name (i := 1) hX rfl (.inr (.inl rfl)) rfl (by intro z; cases z) ?_  -- low
    refine A_cons rfl ?_
    refine P_val ?_
    refine E_ix hX (fun _ _ => rfl) ?_
    refine P_name (i := 2) hX rfl (.inl rfl) rfl (by intro z; cases z) ?_  -- p
    refine E_int ?_
    refine ⟨_, .im _ _, _, rfl, _, _, _, ix_Q1, ?_⟩
    refine ⟨_, _, _, .im _ _, ?_⟩
    refine A_nil ?_
    refine ⟨[_, _], ⟨rfl, rfl, trivial⟩, trivial, _, _, rfl, by rw [Int.natAbs_natCast]; exact lt_pow (hdz q hqm) (by omega), ?_⟩
    rw [Int.natAbs_natCast, Int.natAbs_natCast]
    have hgz : Nat.gcd c q.den < 2 ^ 1000 := Nat.lt_of_le_of_lt (Nat.gcd_le_right _ q.den_pos) (hdz q hqm)
    refine ⟨_, .im _ _, divB_ok (by omega) (by rw [Int.natAbs_natCast]; exact lt_pow hgz (by omega)), ?_⟩
    refine ⟨.im (rQ G.K) q, ?_⟩
    have e : ((c : Int) * (q.den : Int)).fdiv ((Nat.gcd c q.den : Nat) : Int) = ((Nat.lcm c q.den : Nat) : Int) := by
      rw [← Int.natCast_mul, Int.fdiv_eq_ediv_of_nonneg _ (by omega), ← Int.natCast_ediv]
      rfl
    rw [hstep, e]
    rfl
  obtain ⟨x2, hτ⟩ := hI
  rw [List.length_map, List.take_length] at hτ
  subst hτ
  have hlz : lcmD row < 2 ^ 1000 := by have := hcz row.length; rw [List.take_length] at this; exact this
  -- return _law_prime([p[0] * (low // p[1]) for p in ps])
  refine S_one ?_
  refine S1_ret ?_
  refine E_call hX h2 (by omega) rfl rfl ?_
  refine A_cons rfl ?_
  refine P_val ?_
  refine E_lc (own := [("p", 2)]) rI hX rfl ?_
  refine I_tup hX ?_
  refine E_name (i := 0) hX rfl (.inl rfl) rfl ?_  -- ps
  refine ⟨_, _, _, .im _ _, ?_⟩
  have hwz : ∀ q ∈ row, ((lcmD row : Int).fdiv (q.den : Int)).natAbs < 2 ^ 1000 := fun q h => by
    rw [Int.fdiv_eq_ediv_of_nonneg _ (by omega), ← Int.natCast_ediv, Int.natAbs_natCast]
    exact Nat.lt_of_le_of_lt (Nat.div_le_self _ _) hlz
  refine ⟨fun i out τ => out = (row.take i).map (wnum row) ∧ τ = [.im (rT G.K (rQ G.K)) row, .im rI (lcmD row : Int), .no], ⟨by simp, rfl⟩, fun i y hy => ?_, fun out τ hJ p => ?_⟩
  · rintro out τ ⟨ho, hτ⟩ X1 hX1 hf1
    subst hτ
    obtain ⟨q, hqi, ey⟩ := mapK_get hy
    subst ey
    have hqm := List.mem_of_getElem? hqi
    refine TB_name (i := 2) hX1 rfl rfl (by decide) ?_  -- p
    intro X2 hX2
    refine Cs_nil ?_
    refine ⟨fun _ X3 hX3 => ?_, fun h => by cases h⟩
    refine E_mul ?_
    refine E_ix hX3 (fun _ _ => rfl) ?_
    refine P_name (i := 2) hX3 rfl (.inl rfl) rfl (by intro z; cases z) ?_  -- p
    refine E_int ?_
    refine ⟨_, .im _ _, _, rfl, _, _, _, ix_Q0, ?_⟩
    refine ⟨_, .im _ _, ?_⟩
    refine E_fdivB ?_
    refine E_name (i := 1) hX3 rfl (.inr (.inl rfl)) rfl ?_  -- low
    refine ⟨_, .im _ _, ?_⟩
    refine E_ix hX3 (fun _ _ => rfl) ?_
    refine P_name (i := 2) hX3 rfl (.inl rfl) rfl (by intro z; cases z) ?_  -- p
    refine E_int ?_
    refine ⟨_, .im _ _, _, rfl, _, _, _, ix_Q1, ?_⟩
    refine ⟨_, .im _ _, divB_ok (den0 q) (by rw [Int.natAbs_natCast]; exact lt_pow (hdz q hqm) (by omega)), ?_⟩
    refine ⟨_, .im _ _, mulx_ok (hq q hqm).2 (hwz q hqm) (by omega), ?_⟩
    refine ⟨_, .im _ _, ?_, ?_, rfl⟩
    · rw [ho, List.length_map, List.length_take]; omega
    · rw [ho, take_get hqi, List.map_append]; rfl
  obtain ⟨ho, hτ⟩ := hJ
  rw [List.length_map, List.take_length] at ho
  subst ho
  refine ⟨_, _, _, .ow (frz_L (K := G.K)), ?_⟩
  refine A_nil ?_
  refine ⟨[_], ⟨rfl, trivial⟩, trivial, _, rfl, fun x hx => ?_, by rw [List.length_map]; exact hlen, fin_no hk⟩
  obtain ⟨q, hqm, e⟩ := List.mem_map.mp hx
  rw [← e]
  exact mul_lt_pow (hq q hqm).2 (hwz q hqm) (by omega)
def cClear (K : PySem.W.Frag) : Ct := fun ks k => ∃ (l lead : IRow) (col : Nat), ks = [.im (rL K rI) l, .im (rL K rI) lead, .im rI (col : Int)] ∧ l.length = lead.length ∧ col < l.length ∧ l.length ≤ 1000 ∧ (∀ j, (ia l j).natAbs < 2 ^ 4000) ∧ (∀ j, (ia lead j).natAbs < 2 ^ 4000) ∧
  k (.im (rL K rI) (clrL l lead (col : Int))) [.no, .no, .no]
theorem ia_at {l : IRow} {c : Nat} (h : c < l.length) : atI l (c : Int) = some (ia l (c : Int)) := by
  have e : l[c]? = some l[c] := List.getElem?_eq_getElem h
  rw [atI_nat e, ia_nat, e]
  rfl
theorem ia_get {l : IRow} {i : Nat} {x : Int} (h : l[i]? = some x) : x = ia l (i : Int) := by rw [ia_nat, h]; rfl
theorem sc38 : FnScope ["ks", "lead", "col", "up", "low", "k", "j"] ["ks", "lead", "col"] (defScope (top 44)) := ⟨rfl, rfl, rfl, by decide +kernel, rfl, by decide +kernel, by decide +kernel⟩
theorem f38 {G : Gm} {f : Addr} {fd : FuncData} (F : Fun G.K "_law_clear" "_law_clear" (top 44) f fd) (hf : G.mg "_law_clear" = some (.ref f)) (b : Binds G.K fd ["ks", "lead", "col"] [])
    (B : Bi G) (h2 : Fn G "_law_prime" 2 (cPrimeL G.K)) : Fn G "_law_clear" 3 (cClear G.K) := by
  refine Fn.of F hf b sc38 (fun ks k ⟨l, lead, col, h, _⟩ => by rw [h]; rfl) fun X hX hfn hp ks k ⟨l, lead, col, hks, hll, hcl, hlen, hlz, hdz, hk⟩ => ?_
  subst hks
  refine S_cons ?_
  refine S1_if ?_
  refine C_eqI ?_
  refine E_ix hX (fun _ _ => rfl) ?_
  refine P_name (i := 0) hX rfl (.inl rfl) rfl (by intro z; cases z) ?_  -- ks
  refine E_name (i := 2) hX rfl (.inl rfl) rfl ?_  -- col
  refine ⟨_, .im _ _, _, rfl, _, _, _, ix_L (ia_at hcl), ?_⟩
  refine ⟨_, .im _ _, ?_⟩
  refine E_int ?_
  refine ⟨_, .im _ _, ?_⟩
  refine ⟨fun hc => ?_, fun hc => ?_⟩
  · refine S_one ?_
    refine S1_ret ?_
    refine E_name (i := 0) hX rfl (.inl rfl) rfl ?_  -- ks
    have e : clrL l lead (col : Int) = l := by unfold clrL; rw [if_pos (of_decide_eq_true hc)]
    rw [e] at hk
    exact fin_no hk
  refine S_nil ?_
  have e : clrL l lead (col : Int) = primL (List.zipWith (fun k j => k * ia lead (col : Int) - j * ia l (col : Int)) l lead) := by unfold clrL; rw [if_neg (of_decide_eq_false hc)]
  rw [e] at hk
  -- up, low = (lead[col], ks[col])
  refine S_cons ?_
  refine S1_parG (i := 3) (j := 4) hX (pgnC hX hfn rfl rfl) (pgnC hX hfn rfl rfl) rfl ?_ rfl
  refine E_ix hX (fun _ _ => rfl) ?_
  refine P_name (i := 1) hX rfl (.inl rfl) rfl (by intro z; cases z) ?_  -- lead
  refine E_name (i := 2) hX rfl (.inl rfl) rfl ?_  -- col
  refine ⟨_, .im _ _, _, rfl, _, _, _, ix_L (ia_at (by omega)), ?_⟩
  refine E_ix hX (fun _ _ => rfl) ?_
  refine P_name (i := 0) hX rfl (.inl rfl) rfl (by intro z; cases z) ?_  -- ks
  refine E_name (i := 2) hX rfl (.inl rfl) rfl ?_  -- col
  refine ⟨_, .im _ _, _, rfl, _, _, _, ix_L (ia_at hcl), ?_⟩
  refine ⟨_, _, rfl, ?_⟩
  have hup := hdz (col : Int)
  have hlo := hlz (col : Int)
  generalize ia lead (col : Int) = up at *
  generalize ia l (col : Int) = lo at *
  -- return _law_prime([k * up - j * low for k, j in zip(ks, lead)])
  refine S_one ?_
  refine S1_ret ?_
  refine E_call hX h2 (by omega) rfl rfl ?_
  refine A_cons rfl ?_
  refine P_val ?_
  refine E_lc (own := [("k", 5), ("j", 6)]) rI hX rfl ?_
  refine I_zip (A := rI) (B := rI) false hX rfl B.zip rfl ?_
  refine E_name (i := 0) hX rfl (.inl rfl) rfl ?_  -- ks
  refine ⟨_, .im _ _, ?_⟩
  refine E_name (i := 1) hX rfl (.inl rfl) rfl ?_  -- lead
  refine ⟨_, .im _ _, ?_⟩
  refine ⟨fun i out τ => out = ((l.zip lead).take i).map (fun q => q.1 * up - q.2 * lo) ∧ τ = [.im (rL G.K rI) l, .im (rL G.K rI) lead, .im rI (col : Int), .im rI up, .im rI lo, .no, .no], ⟨by simp, rfl⟩, fun i y hy => ?_, fun out τ hJ p => ?_⟩
  · rintro out τ ⟨ho, hτ⟩ X1 hX1 hf1
    subst hτ
    obtain ⟨q, hqi, ey⟩ := mapK_get hy
    subst ey
    obtain ⟨q1, q2⟩ := List.getElem?_zip_eq_some.mp hqi
    have z1 := hlz (i : Int)
    have z2 := hdz (i : Int)
    rw [← ia_get q1] at z1
    rw [← ia_get q2] at z2
    have hi := (List.getElem?_eq_some_iff.mp q1).1
    refine TB_tup hX1 rfl un_pair ?_
    refine TB_name (i := 5) hX1 rfl rfl (by decide) ?_  -- k
    refine TB_name (i := 6) hX1 rfl rfl (by decide) ?_  -- j
    intro X2 hX2
    refine Cs_nil ?_
    refine ⟨fun _ X3 hX3 => ?_, fun h => by cases h⟩
    refine E_sub ?_
    refine E_mul ?_
    refine E_name (i := 5) hX3 rfl (.inl rfl) rfl ?_  -- k
    refine ⟨_, .im _ _, ?_⟩
    refine E_name (i := 3) hX3 rfl (.inr (.inl rfl)) rfl ?_  -- up
    refine ⟨_, .im _ _, mulx_ok z1 hup (by omega), ?_⟩
    refine ⟨_, .im _ _, ?_⟩
    refine E_mul ?_
    refine E_name (i := 6) hX3 rfl (.inl rfl) rfl ?_  -- j
    refine ⟨_, .im _ _, ?_⟩
    refine E_name (i := 4) hX3 rfl (.inr (.inl rfl)) rfl ?_  -- low
    refine ⟨_, .im _ _, mulx_ok z2 hlo (by omega), ?_⟩
    refine ⟨_, .im _ _, ?_⟩
    refine ⟨_, .im _ _, ?_, ?_, rfl⟩
    · rw [ho, List.length_map, List.length_take]; omega
    · rw [ho, take_get hqi, List.map_append]; rfl
  obtain ⟨ho, hτ⟩ := hJ
  rw [List.length_map, List.take_length] at ho
  have e2 : out = List.zipWith (fun k j => k * up - j * lo) l lead := by
    rw [ho, List.zip, List.map_zipWith]
  rw [← e2] at hk
  refine ⟨_, _, _, .ow (frz_L (K := G.K)), ?_⟩
  refine A_nil ?_
  refine ⟨[_], ⟨rfl, trivial⟩, trivial, out, rfl, fun x hx => ?_, ?_, fin_no hk⟩
  · rw [e2] at hx
    obtain ⟨i, hi⟩ := List.mem_iff_getElem?.mp hx
    rw [List.getElem?_zipWith] at hi
    cases h1 : l[i]? with
    | none => rw [h1] at hi; cases hi
    | some a =>
      cases h3 : lead[i]? with
      | none => rw [h1, h3] at hi; cases hi
      | some c =>
        rw [h1, h3] at hi
        have hi : a * up - c * lo = x := Option.some.inj hi
        have z1 := hlz (i : Int)
        have z2 := hdz (i : Int)
        rw [← ia_get h1] at z1
        rw [← ia_get h3] at z2
        have m1 := mul_lt_pow z1 hup (Nat.le_refl _)
        have m2 := mul_lt_pow z2 hlo (Nat.le_refl _)
        have a3 : (2 : Nat) ^ (4000 + 4000) + 2 ^ (4000 + 4000) ≤ 2 ^ 9000 := by
          rw [← Nat.two_mul, ← Nat.pow_succ']
          exact Nat.pow_le_pow_right (by omega) (by omega)
        generalize (2 : Nat) ^ (4000 + 4000) = z at *
        generalize (2 : Nat) ^ 9000 = z' at *
        omega
  · rw [e2, List.length_zipWith]; omega
end T
end
section
set_option Elab.async false
set_option linter.all false
set_option maxRecDepth 100000
set_option maxHeartbeats 2000000
set_option exponentiation.threshold 10000
namespace T
open PySem PySem.Spec PyProof.Rows L2
/-! ### _law_steps -/
structure LawOk (w b : Nat) (mat : List (List Rat)) : Prop where
  len : ∀ r ∈ mat, r.length = w
  num : ∀ r ∈ mat, NumOk r
  wb : ∀ r ∈ mat, WB b r
  w6 : w ≤ 8
  b50 : b ≤ 50
  few : mat.length ≤ 500
abbrev rSteps (K : PySem.W.Frag) : DR (List IRow × List Int × List IRow) := rLTri (rL K (rL K rI)) (rL K rI) (rL K (rL K rI))
def cSteps (K : PySem.W.Frag) : Ct := fun ks k => ∃ (mat : List (List Rat)) (w wd b : Nat), ks = [.im (rL K (rT K (rQ K))) mat, .im rI (wd : Int)] ∧ LawOk w b mat ∧ wd ≤ w ∧ wd ≤ 6 ∧
  ∀ (done : List IRow) (leads : List Int) (left : List IRow), SI w (MV mat) (ML b leads.length) (NL b leads.length) wd left done leads → k (.im (rSteps K) (done, leads, left)) [.no, .no]
theorem eqv_nil (l : List Int) : PyData.eqv (.list (l.map .int)) (.list (([] : List Int).map .int)) = decide (l = []) := by
  cases l with
  | nil => rfl
  | cons a l => rfl
theorem cut1 (l : List Int) : cutL l none (some 1) = l.take 1 := by
  unfold cutL
  cases l with
  | nil => rfl
  | cons a l =>
    have h1 : HT.sIx (a :: l).length 0 none = 0 := rfl
    have h2 : HT.sIx (a :: l).length (a :: l).length (some 1) = 1 := by
      have := HT.sIx_nat (a :: l).length (a :: l).length 1
      rw [show ((1 : Nat) : Int) = 1 from rfl] at this
      rw [this]
      simp
    rw [h1, h2]
    rfl
theorem sc39 : FnScope ["mat", "wide", "left", "done", "leads", "col", "first", "lead", "ps", "k", "ks"] ["mat", "wide"] (defScope (top 45)) := ⟨rfl, rfl, rfl, by decide +kernel, rfl, by decide +kernel, by decide +kernel⟩
theorem f39 {G : Gm} {f : Addr} {fd : FuncData} (F : Fun G.K "_law_steps" "_law_steps" (top 45) f fd) (hf : G.mg "_law_steps" = some (.ref f)) (b : Binds G.K fd ["mat", "wide"] [])
    (B : Bi G) (h1 : Fn G "_law_whole" 3 (cWholeL G.K)) (h2 : Fn G "_law_clear" 3 (cClear G.K)) : Fn G "_law_steps" 4 (cSteps G.K) := by
  refine Fn.of F hf b sc39 (fun ks k ⟨mat, w, wd, b, h, _⟩ => by rw [h]; rfl) fun X hX hfn hp ks k ⟨mat, w, wd, b, hks, hm, hwd, hwd6, hk⟩ => ?_
  subst hks
  have hw6 := hm.w6
  have hfew := hm.few
  -- left, done, leads = ([_law_whole(ps) for ps in mat], [], [])
  refine S_cons ?_
  refine S1_parG3 (i := 2) (j := 3) (l := 4) hX (pgnC hX hfn rfl rfl) (pgn hX rfl rfl) (pgn hX rfl rfl) rfl ?_ rfl
  refine E_lc (own := [("ps", 8)]) (rL G.K rI) hX rfl ?_
  refine I_list hX ?_
  refine E_name (i := 0) hX rfl (.inl rfl) rfl ?_  -- mat
  refine ⟨_, _, _, .im _ _, ?_⟩
  refine ⟨fun i out τ => out = (mat.take i).map wholeL ∧ τ = [.im (rL G.K (rT G.K (rQ G.K))) mat, .im rI (wd : Int), .no, .no, .no, .no, .no, .no, .no, .no, .no], ⟨by simp, rfl⟩, fun i y hy => ?_, fun out τ hJ pl => ?_⟩
  · rintro out τ ⟨ho, hτ⟩ X1 hX1 hf1
    subst hτ
    obtain ⟨r, hr, ey⟩ := mapK_get hy
    subst ey
    have hrm := List.mem_of_getElem? hr
    refine TB_name (i := 8) hX1 rfl rfl (by decide) ?_  -- ps
    intro X2 hX2
    refine Cs_nil ?_
    refine ⟨fun _ X3 hX3 => ?_, fun h => by cases h⟩
    refine E_call hX3 h1 (by omega) rfl rfl ?_
    refine A_cons rfl ?_
    refine P_name (i := 8) hX3 rfl (.inl rfl) rfl (by intro z; cases z) ?_  -- ps
    refine A_nil ?_
    refine ⟨[_], ⟨rfl, trivial⟩, trivial, r, rfl, hm.num r hrm, by rw [hm.len r hrm]; omega, ?_⟩
    refine ⟨_, .im _ _, ?_, ?_, rfl⟩
    · rw [ho, List.length_map, List.length_take]; omega
    · rw [ho, take_get hr, List.map_append]; rfl
  obtain ⟨ho, hτ⟩ := hJ
  rw [List.length_map, List.take_length] at ho
  subst ho
  subst hτ
  refine E_lst rfl (A := rL G.K rI) ?_
  refine ⟨by simp, [], rfl, fun pd => ?_⟩
  refine E_lst rfl (A := rI) ?_
  refine ⟨by simp, [], rfl, fun pn => ?_⟩
  refine ⟨_, _, _, rfl, ?_⟩
  -- for col in range(wide):
  refine S_cons ?_
  refine S1_for hX hp ?_
  refine I_rng1 hX rfl B.range rfl ?_
  refine E_name (i := 1) hX rfl (.inl rfl) rfl ?_  -- wide
  refine ⟨_, .im _ _, by omega, by omega, ?_⟩
  refine ⟨fun col τ => ∃ (left done : List IRow) (leads : List Int) (pl pd pn : Addr) (x5 x6 x7 : Kd), SI w (MV mat) (ML b leads.length) (NL b leads.length) col left done leads ∧ left.length ≤ 500 ∧
    τ = [.im (rL G.K (rT G.K (rQ G.K))) mat, .im rI (wd : Int), .ow pl (cL (rL G.K rI)) left, .ow pd (cL (rL G.K rI)) done, .ow pn (cL rI) leads, x5, x6, x7, .no, .no, .no],
    ⟨_, _, [], pl, pd, pn, _, _, _, SI.init hm.len hm.wb, by rw [List.length_map]; exact hfew, rfl⟩, fun col y τ hy hI => ?_, fun τ hI => ?_⟩
  · obtain ⟨left, done, leads, pl, pd, pn, x5, x6, x7, hS, hll, hτ⟩ := hI
    subst hτ
    obtain ⟨hcol, ey⟩ := rngK0_get hy
    subst ey
    have hcwd : col < wd := by simpa using hcol
    have hcw : col < w := by omega
    have hlk := hS.few
    have mz : ML b leads.length < 2 ^ 3990 := ML_small hm.b50 (by omega)
    have nz := NL_lt b leads.length
    have e40 : (2 : Nat) ^ 3990 ≤ 2 ^ 4000 := Nat.pow_le_pow_right (by omega) (by omega)
    refine T_cell (i := 5) hX hfn rfl rfl ?_  -- col
    -- first = [k for k in range(len(left)) if left[k][col] != 0][:1]
    refine S_cons ?_
    refine S1_set (i := 6) hX rfl rfl ?_  -- first
    refine E_slL (A := rI) hX ?_
    refine P_val ?_
    refine E_lc (own := [("k", 9)]) rI hX rfl ?_
    refine I_rng1 hX rfl B.range rfl ?_
    refine E_len hX rfl B.len rfl ?_
    refine P_name (i := 2) hX rfl (.inr (.inl rfl)) rfl (by intro z; cases z) ?_  -- left
    refine ⟨_, _, rfl, len_cL, ?_⟩
    refine ⟨_, .im _ _, by omega, by omega, ?_⟩
    refine ⟨fun i out τ => out.length ≤ i ∧ (∀ x ∈ out, ∃ (m : Nat) (l : IRow), x = (m : Int) ∧ left[m]? = some l ∧ ia l (col : Int) ≠ 0) ∧ (∀ m, m < i → ∀ l, left[m]? = some l → ia l (col : Int) ≠ 0 → out ≠ []) ∧
      τ = [.im (rL G.K (rT G.K (rQ G.K))) mat, .im rI (wd : Int), .ow pl (cL (rL G.K rI)) left, .ow pd (cL (rL G.K rI)) done, .ow pn (cL rI) leads, .im rI (col : Int), x6, x7, .no, .no, .no], ⟨Nat.le_refl _, by simp, by simp, rfl⟩, fun i y hy => ?_, fun out τ hJ p => ?_⟩
    · rintro out τ ⟨hol, ho1, ho2, hτ⟩ X1 hX1 hf1
      subst hτ
      obtain ⟨hi, ey⟩ := rngK0_get hy
      subst ey
      have hil : i < left.length := by simpa using hi
      have hl : left[i]? = some left[i] := List.getElem?_eq_getElem hil
      have hlw := hS.lw left[i] (List.getElem_mem hil)
      refine TB_name (i := 9) hX1 rfl rfl (by decide) ?_  -- k
      intro X2 hX2
      refine Cs_one ?_
      refine C_neI ?_
      refine E_ix hX2 (fun _ _ => rfl) ?_
      refine P_val ?_
      refine E_ix hX2 (fun _ _ => rfl) ?_
      refine P_name (i := 2) hX2 rfl (.inr (.inl rfl)) rfl (by intro z; cases z) ?_  -- left
      refine E_name (i := 9) hX2 rfl (.inl rfl) rfl ?_  -- k
      refine ⟨_, .im _ _, _, rfl, _, _, _, ix_cL (atI_nat hl), ?_⟩
      refine ⟨_, _, _, .im _ _, ?_⟩
      refine E_name (i := 5) hX2 rfl (.inr (.inl rfl)) rfl ?_  -- col
      refine ⟨_, .im _ _, _, rfl, _, _, _, ix_L (ia_at (by omega)), ?_⟩
      refine ⟨_, .im _ _, ?_⟩
      refine E_int ?_
      refine ⟨_, .im _ _, ?_⟩
      refine ⟨fun hb X3 hX3 => ?_, fun hb => ?_⟩
      · refine E_name (i := 9) hX3 rfl (.inl rfl) rfl ?_  -- k
        refine ⟨_, .im _ _, by omega, by simp; omega, fun x hx => ?_, fun m hm l hl hz => by simp, rfl⟩
        rcases List.mem_append.mp hx with z | z
        · exact ho1 x z
        · have : x = (i : Int) := by simpa using z
          exact ⟨i, left[i], this, hl, by simpa using hb⟩
      · refine ⟨by omega, ho1, fun m hm l hl' hz => ?_, rfl⟩
        rcases Nat.lt_or_ge m i with q | q
        · exact ho2 m q l hl' hz
        · have : m = i := by omega
          subst this
          rw [hl] at hl'
          cases hl'
          exact absurd (by simpa using hb) hz
    obtain ⟨hol, ho1, ho2, hτ⟩ := hJ
    rw [rngK_len] at hol ho2
    subst hτ
    refine ⟨_, _, _, .ow (frz_L (K := G.K)), ?_⟩
    refine E_int ?_
    refine ⟨_, .im _ _, ?_⟩
    refine ⟨_, _, rfl, slof_L, fun pf => ?_⟩
    rw [cut1]
    -- if first != []:
    refine S_one ?_
    refine S1_if ?_
    refine C_neD (A := rL G.K rI) (B := rL G.K rI) hX (deep_L deep_I) (deep_L deep_I) ?_
    refine E_frz (i := 6) hX rfl (.inl rfl) rfl (frz_L (K := G.K)) ?_  -- first
    refine ⟨_, .im _ _, ?_⟩
    refine E_lst rfl (A := rI) ?_
    refine ⟨by simp, [], rfl, fun pe => ?_⟩
    refine ⟨_, .ow (frz_L (K := G.K)), by cases out <;> rfl, by rfl, ?_⟩
    rw [eqv_nil]
    refine ⟨fun hc => ?_, fun hc => ?_⟩
    · cases hout : out with
      | nil => rw [hout] at hc; simp at hc
      | cons x out' =>
      obtain ⟨m, lead0, hx, hl0, hnz⟩ := ho1 x (by rw [hout]; exact List.mem_cons_self)
      have hml : m < left.length := (List.getElem?_eq_some_iff.mp hl0).1
      have hl0m := List.mem_of_getElem? hl0
      have h0w := hS.lw lead0 hl0m
      -- lead = left.pop(first[0])
      refine S_cons ?_
      refine S1_setC (i := 7) hX hfn rfl rfl ?_  -- lead
      refine E_popAt (j := 2) (A := rL G.K rI) (q := pl) hX rfl (.inr (.inl rfl)) rfl rfl ?_
      refine E_ix hX (fun _ _ => rfl) ?_
      refine P_name (i := 6) hX rfl (.inl rfl) rfl (by intro z; cases z) ?_  -- first
      refine E_int ?_
      refine ⟨_, .im _ _, _, rfl, _, _, x, ix_L (by rfl), ?_⟩
      refine ⟨_, .im _ _, left, lead0, rfl, by omega, by omega, by rw [hx, Int.toNat_natCast]; exact hl0, ?_⟩
      have hxm : x.toNat = m := by omega
      rw [hxm]
      have hperm : (lead0 :: left.eraseIdx m).Perm left := by
        have := cons_erase_perm hml
        have e : left[m] = lead0 := by
          have h3 := List.getElem?_eq_getElem hml
          rw [hl0] at h3
          exact (Option.some.inj h3).symm
        rw [e] at this
        exact this
      have hrl : (left.eraseIdx m).length ≤ 500 := by rw [List.length_eraseIdx_of_lt hml]; omega
      generalize left.eraseIdx m = rest at *
      -- if lead[col] < 0: lead = [0 - k for k in lead]
      refine S_join (fun τ => ∃ (lead : IRow) (s : Int), (s = 1 ∨ s = -1) ∧ (∀ j, ia lead j = s * ia lead0 j) ∧ lead.length = w ∧
        τ = [.im (rL G.K (rT G.K (rQ G.K))) mat, .im rI (wd : Int), .ow pl (cL (rL G.K rI)) rest, .ow pd (cL (rL G.K rI)) done, .ow pn (cL rI) leads, .im rI (col : Int), .im (rL G.K rI) ((x :: out').take 1), .im (rL G.K rI) lead, .no, .no, .no]) ?_ fun τ hI => ?_
      · refine S1_if ?_
        refine C_lt ?_
        refine E_ix hX (fun _ _ => rfl) ?_
        refine P_name (i := 7) hX rfl (.inr (.inl rfl)) rfl (by intro z; cases z) ?_  -- lead
        refine E_name (i := 5) hX rfl (.inr (.inl rfl)) rfl ?_  -- col
        refine ⟨_, .im _ _, _, rfl, _, _, _, ix_L (ia_at (by omega)), ?_⟩
        refine ⟨_, .im _ _, ?_⟩
        refine E_int ?_
        refine ⟨_, .im _ _, ?_⟩
        refine ⟨fun hc => ?_, fun hc => S_nil ⟨lead0, 1, .inl rfl, fun j => (Int.one_mul _).symm, h0w, rfl⟩⟩
        refine S_one ?_
        refine S1_setC (i := 7) hX hfn rfl rfl ?_  -- lead
        refine E_fz ?_
        refine E_lc (own := [("k", 9)]) rI hX rfl ?_
        refine I_list hX ?_
        refine E_name (i := 7) hX rfl (.inr (.inl rfl)) rfl ?_  -- lead
        refine ⟨_, _, _, .im _ _, ?_⟩
        refine ⟨fun i out2 τ => out2 = (lead0.take i).map (fun k => 0 - k) ∧ τ = [.im (rL G.K (rT G.K (rQ G.K))) mat, .im rI (wd : Int), .ow pl (cL (rL G.K rI)) rest, .ow pd (cL (rL G.K rI)) done, .ow pn (cL rI) leads, .im rI (col : Int), .im (rL G.K rI) ((x :: out').take 1), .im (rL G.K rI) lead0, .no, .no, .no], ⟨by simp, rfl⟩, fun i y hy => ?_, fun out2 τ hJ p2 => ?_⟩
        · rintro out2 τ ⟨ho, hτ⟩ X1 hX1 hf1
          subst hτ
          obtain ⟨c, hc, ey⟩ := mapK_get hy
          subst ey
          refine TB_name (i := 9) hX1 rfl rfl (by decide) ?_  -- k
          intro X2 hX2
          refine Cs_nil ?_
          refine ⟨fun _ X3 hX3 => ?_, fun h => by cases h⟩
          refine E_sub ?_
          refine E_int ?_
          refine ⟨_, .im _ _, ?_⟩
          refine E_name (i := 9) hX3 rfl (.inl rfl) rfl ?_  -- k
          refine ⟨_, .im _ _, ?_⟩
          refine ⟨_, .im _ _, ?_, ?_, rfl⟩
          · rw [ho, List.length_map, List.length_take]; omega
          · rw [ho, take_get hc, List.map_append]; rfl
        · obtain ⟨ho, hτ⟩ := hJ
          rw [List.length_map, List.take_length] at ho
          subst hτ
          refine ⟨_, .ow (frz_L (K := G.K)), ?_⟩
          refine ⟨out2, -1, .inr rfl, fun j => ?_, by rw [ho, List.length_map]; exact h0w, rfl⟩
          rw [ho, ia_map (fun k => 0 - k) (by decide)]
          omega
      obtain ⟨lead, s, hs, hsl, hlw, hτ⟩ := hI
      subst hτ
      have hn0 : ia lead (col : Int) ≠ 0 := by
        rw [hsl]
        exact Int.mul_ne_zero (by rcases hs with e | e <;> (rw [e]; decide)) hnz
      have hnext := hS.step (rest := rest) hcw hperm hs hsl hlw hn0 (ML_pos b _)
      have leadz : ∀ j, (ia lead j).natAbs < 2 ^ 4000 := fun j => by
        have h3 := hS.lM lead0 hl0m j
        have h4 : (ia lead j).natAbs = (ia lead0 j).natAbs := by
          rw [hsl, Int.natAbs_mul]
          rcases hs with e | e <;> (rw [e]; simp)
        omega
      have restz : ∀ l ∈ rest, l.length = w ∧ ∀ j, (ia l j).natAbs < 2 ^ 4000 := fun l hl => by
        have hlm := hperm.mem_iff.mp (List.mem_cons_of_mem _ hl)
        refine ⟨hS.lw l hlm, fun j => ?_⟩
        have := hS.lM l hlm j
        omega
      have donez : ∀ l ∈ done, l.length = w ∧ ∀ j, (ia l j).natAbs < 2 ^ 4000 := fun l hl => by
        refine ⟨hS.dw l hl, fun j => ?_⟩
        have := hS.dN l hl j
        omega
      have hdl : done.length ≤ 6 := by have := hS.len; omega
      generalize hf6 : (x :: out').take 1 = f6 at *
      -- left = [_law_clear(ks, lead, col) for ks in left]
      refine S_cons ?_
      refine S1_setC (i := 2) hX hfn rfl rfl ?_  -- left
      refine E_lc (own := [("ks", 10)]) (rL G.K rI) hX rfl ?_
      refine I_list hX ?_
      refine E_frz (i := 2) hX rfl (.inr (.inl rfl)) rfl (frz_L (K := G.K)) ?_  -- left
      refine ⟨_, _, _, .im _ _, ?_⟩
      refine ⟨fun i out2 τ => out2 = (rest.take i).map (fun ks => clrL ks lead (col : Int)) ∧ τ = [.im (rL G.K (rT G.K (rQ G.K))) mat, .im rI (wd : Int), .im (rL G.K (rL G.K rI)) rest, .ow pd (cL (rL G.K rI)) done, .ow pn (cL rI) leads, .im rI (col : Int), .im (rL G.K rI) f6, .im (rL G.K rI) lead, .no, .no, .no], ⟨by simp, rfl⟩, fun i y hy => ?_, fun out2 τ hJ p2 => ?_⟩
      · rintro out2 τ ⟨ho, hτ⟩ X1 hX1 hf1
        subst hτ
        obtain ⟨c, hc, ey⟩ := mapK_get hy
        subst ey
        obtain ⟨c1, c2⟩ := restz c (List.mem_of_getElem? hc)
        refine TB_name (i := 10) hX1 rfl rfl (by decide) ?_  -- ks
        intro X2 hX2
        refine Cs_nil ?_
        refine ⟨fun _ X3 hX3 => ?_, fun h => by cases h⟩
        refine E_call hX3 h2 (by omega) rfl rfl ?_
        refine A_cons rfl ?_
        refine P_name (i := 10) hX3 rfl (.inl rfl) rfl (by intro z; cases z) ?_  -- ks
        refine A_cons rfl ?_
        refine P_name (i := 7) hX3 rfl (.inr (.inl rfl)) rfl (by intro z; cases z) ?_  -- lead
        refine A_cons rfl ?_
        refine P_name (i := 5) hX3 rfl (.inr (.inl rfl)) rfl (by intro z; cases z) ?_  -- col
        refine A_nil ?_
        refine ⟨[_, _, _], ⟨rfl, rfl, rfl, trivial⟩, trivial, c, lead, col, rfl, by omega, by omega, by omega, c2, leadz, ?_⟩
        refine ⟨_, .im _ _, ?_, ?_, rfl⟩
        · rw [ho, List.length_map, List.length_take]; omega
        · rw [ho, take_get hc, List.map_append]; rfl
      obtain ⟨ho, hτ⟩ := hJ
      rw [List.length_map, List.take_length] at ho
      subst hτ
      -- done = [_law_clear(ks, lead, col) for ks in done] + [lead]
      refine S_cons ?_
      refine S1_set (i := 3) hX rfl rfl ?_  -- done
      refine E_cat (rL G.K rI) hX ?_
      refine E_lc (own := [("ks", 10)]) (rL G.K rI) hX rfl ?_
      refine I_list hX ?_
      refine E_frz (i := 3) hX rfl (.inl rfl) rfl (frz_L (K := G.K)) ?_  -- done
      refine ⟨_, _, _, .im _ _, ?_⟩
      refine ⟨fun i out3 τ => out3 = (done.take i).map (fun ks => clrL ks lead (col : Int)) ∧ τ = [.im (rL G.K (rT G.K (rQ G.K))) mat, .im rI (wd : Int), .ow p2 (cL (rL G.K rI)) out2, .im (rL G.K (rL G.K rI)) done, .ow pn (cL rI) leads, .im rI (col : Int), .im (rL G.K rI) f6, .im (rL G.K rI) lead, .no, .no, .no], ⟨by simp, rfl⟩, fun i y hy => ?_, fun out3 τ hJ p3 => ?_⟩
      · rintro out3 τ ⟨ho3, hτ⟩ X1 hX1 hf1
        subst hτ
        obtain ⟨c, hc, ey⟩ := mapK_get hy
        subst ey
        obtain ⟨c1, c2⟩ := donez c (List.mem_of_getElem? hc)
        refine TB_name (i := 10) hX1 rfl rfl (by decide) ?_  -- ks
        intro X2 hX2
        refine Cs_nil ?_
        refine ⟨fun _ X3 hX3 => ?_, fun h => by cases h⟩
        refine E_call hX3 h2 (by omega) rfl rfl ?_
        refine A_cons rfl ?_
        refine P_name (i := 10) hX3 rfl (.inl rfl) rfl (by intro z; cases z) ?_  -- ks
        refine A_cons rfl ?_
        refine P_name (i := 7) hX3 rfl (.inr (.inl rfl)) rfl (by intro z; cases z) ?_  -- lead
        refine A_cons rfl ?_
        refine P_name (i := 5) hX3 rfl (.inr (.inl rfl)) rfl (by intro z; cases z) ?_  -- col
        refine A_nil ?_
        refine ⟨[_, _, _], ⟨rfl, rfl, rfl, trivial⟩, trivial, c, lead, col, rfl, by omega, by omega, by omega, c2, leadz, ?_⟩
        refine ⟨_, .im _ _, ?_, ?_, rfl⟩
        · rw [ho3, List.length_map, List.length_take]; omega
        · rw [ho3, take_get hc, List.map_append]; rfl
      obtain ⟨ho3, hτ⟩ := hJ
      rw [List.length_map, List.take_length] at ho3
      subst hτ
      refine ⟨_, .ow (frz_L (K := G.K)), ?_⟩
      refine E_lst rfl (A := rL G.K rI) ?_
      refine E_name (i := 7) hX rfl (.inr (.inl rfl)) rfl ?_  -- lead
      refine ⟨_, .im _ _, ?_⟩
      refine ⟨by simp, [lead], rfl, fun p4 => ?_⟩
      refine ⟨_, .ow (frz_L (K := G.K)), by rw [ho3, List.length_map]; simp; omega, fun p5 => ?_⟩
      -- leads.append(col)
      refine S_one ?_
      refine S1_expr ?_
      refine E_append (j := 4) (A := rI) (q := pn) hX rfl (.inl rfl) rfl rfl ?_
      refine E_name (i := 5) hX rfl (.inr (.inl rfl)) rfl ?_  -- col
      refine ⟨_, .im _ _, leads, rfl, by omega, ?_⟩
      refine ⟨out2, out3 ++ [lead], leads ++ [(col : Int)], p2, p5, pn, _, _, _, ?_, by rw [ho, List.length_map]; exact hrl, rfl⟩
      rw [ho, ho3]
      have e : (leads ++ [(col : Int)]).length = leads.length + 1 := by simp
      rw [e]
      exact hnext
    · refine S_nil ?_
      have hnil : out = [] := by
        cases out with
        | nil => rfl
        | cons x o => simp at hc
      refine ⟨left, done, leads, pl, pd, pn, _, _, _, hS.skip fun l hl => ?_, hll, rfl⟩
      obtain ⟨m, hm'⟩ := List.mem_iff_getElem?.mp hl
      rcases Decidable.em (ia l (col : Int) = 0) with q | q
      · exact q
      · have hml : m < left.length := (List.getElem?_eq_some_iff.mp hm').1
        exact absurd hnil (ho2 m (by omega) l hm' q)
  obtain ⟨left, done, leads, pl, pd, pn, x5, x6, x7, hS, hll, hτ⟩ := hI
  rw [rngK_len] at hS
  have ew : ((wd : Int)).toNat = wd := by omega
  rw [ew] at hS
  subst hτ
  -- return [done, leads, left]
  refine S_one ?_
  refine S1_ret ?_
  refine E_lstD rfl ?_
  refine E_frz (i := 3) hX rfl (.inl rfl) rfl (frz_L (K := G.K)) ?_  -- done
  refine ⟨_, .im _ _, ?_⟩
  refine E_frz (i := 4) hX rfl (.inl rfl) rfl (frz_L (K := G.K)) ?_  -- leads
  refine ⟨_, .im _ _, ?_⟩
  refine E_frz (i := 2) hX rfl (.inr (.inl rfl)) rfl (frz_L (K := G.K)) ?_  -- left
  refine ⟨_, .im _ _, ?_⟩
  exact ⟨by simp, _, _, _, lst_tri, fin_no (hk done leads left hS)⟩
end T
end
section
set_option Elab.async false
set_option linter.all false
set_option maxRecDepth 100000
set_option maxHeartbeats 2000000
set_option exponentiation.threshold 10000
namespace T
open PySem PySem.Spec PyProof.Rows L2
/-! ### _law_reduced, _law_rank -/
def redRows (done : List IRow) (leads : List Int) : List (List Rat) := (done.zip leads).map fun q => q.1.map fun (x : Int) => (x : Rat) / (ia q.1 q.2 : Rat)
def cReducedL (K : PySem.W.Frag) : Ct := fun ks k => ∃ (mat : List (List Rat)) (w wd b : Nat), ks = [.im (rL K (rT K (rQ K))) mat, .im rI (wd : Int)] ∧ LawOk w b mat ∧ wd ≤ w ∧ wd ≤ 6 ∧
  ∀ (done : List IRow) (leads : List Int) (left : List IRow), SI w (MV mat) (ML b leads.length) (NL b leads.length) wd left done leads → ∀ p, k (.ow p (cL (rT K (rQ K))) (redRows done leads)) [.no, .no]
theorem sc40 : FnScope ["mat", "wide", "done", "leads", "left", "ks", "col", "k"] ["mat", "wide"] (defScope (top 46)) := ⟨rfl, rfl, rfl, by decide +kernel, rfl, by decide +kernel, by decide +kernel⟩
theorem f40 {G : Gm} {f : Addr} {fd : FuncData} (F : Fun G.K "_law_reduced" "_law_reduced" (top 46) f fd) (hf : G.mg "_law_reduced" = some (.ref f)) (b : Binds G.K fd ["mat", "wide"] [])
    (B : Bi G) (h1 : Fn G "_law_steps" 4 (cSteps G.K)) (h2 : Fn G "_law_frac" 2 (cLowK G.K)) : Fn G "_law_reduced" 5 (cReducedL G.K) := by
  refine Fn.of F hf b sc40 (fun ks k ⟨mat, w, wd, b, h, _⟩ => by rw [h]; rfl) fun X hX hfn hp ks k ⟨mat, w, wd, b, hks, hm, hwd, hwd6, hk⟩ => ?_
  subst hks
  have hw6 := hm.w6
  -- done, leads, left = _law_steps(mat, wide)
  refine S_cons ?_
  refine S1_asg ?_
  refine E_call hX h1 (by omega) rfl rfl ?_
  refine A_cons rfl ?_
  refine P_name (i := 0) hX rfl (.inl rfl) rfl (by intro z; cases z) ?_  -- mat
  refine A_cons rfl ?_
  refine P_name (i := 1) hX rfl (.inl rfl) rfl (by intro z; cases z) ?_  -- wide
  refine A_nil ?_
  refine ⟨[_, _], ⟨rfl, rfl, trivial⟩, trivial, mat, w, wd, b, rfl, hm, hwd, hwd6, fun done leads left hS => ?_⟩
  refine T_lst hX rfl unl_tri ?_
  refine T_name (i := 2) hX rfl rfl ?_  -- done
  refine T_name (i := 3) hX rfl rfl ?_  -- leads
  refine T_name (i := 4) hX rfl rfl ?_  -- left
  have hlk := hS.few
  have hdl := hS.len
  have nz : ∀ d ∈ done, ∀ j, (ia d j).natAbs < 2 ^ 3990 := fun d hd j => by
    have h3 := hS.dN d hd j
    have h4 := NL_lt b leads.length
    have h5 := ML_small (k := leads.length) hm.b50 (by omega)
    omega
  -- return [..]
  refine S_one ?_
  refine S1_ret ?_
  refine E_lc (own := [("ks", 5), ("col", 6)]) (rT G.K (rQ G.K)) hX rfl ?_
  refine I_zip (A := rL G.K rI) (B := rI) false hX rfl B.zip rfl ?_
  refine E_name (i := 2) hX rfl (.inl rfl) rfl ?_  -- done
  refine ⟨_, .im _ _, ?_⟩
  refine E_name (i := 3) hX rfl (.inl rfl) rfl ?_  -- leads
  refine ⟨_, .im _ _, ?_⟩
  refine ⟨fun i out τ => out = ((done.zip leads).take i).map (fun q => q.1.map fun (x : Int) => (x : Rat) / (ia q.1 q.2 : Rat)) ∧ τ = [.im (rL G.K (rT G.K (rQ G.K))) mat, .im rI (wd : Int), .im (rL G.K (rL G.K rI)) done, .im (rL G.K rI) leads, .im (rL G.K (rL G.K rI)) left, .no, .no, .no], ⟨by simp, rfl⟩, fun i y hy => ?_, fun out τ hJ p => ?_⟩
  · rintro out τ ⟨ho, hτ⟩ X1 hX1 hf1
    subst hτ
    obtain ⟨q, hq, ey⟩ := mapK_get hy
    subst ey
    obtain ⟨q1, q2⟩ := List.getElem?_zip_eq_some.mp hq
    obtain ⟨o1, o2⟩ := hS.one i q.1 q.2 q1 q2
    have hq1 := List.mem_of_getElem? q1
    have hqw := hS.dw q.1 hq1
    have hq2 := hS.lt q.2 (List.mem_of_getElem? q2)
    have hat : atI q.1 q.2 = some (ia q.1 q.2) := by
      have e : q.2 = ((q.2.toNat : Nat) : Int) := by omega
      rw [e]
      exact ia_at (by omega)
    have hi := (List.getElem?_eq_some_iff.mp q1).1
    refine TB_tup hX1 rfl un_pair ?_
    refine TB_cell (i := 5) hX1 (hf1 _ (by rfl)) rfl rfl (by decide) ?_  -- ks
    refine TB_cell (i := 6) hX1 (hf1 _ (by rfl)) rfl rfl (by decide) ?_  -- col
    intro X2 hX2
    refine Cs_nil ?_
    refine ⟨fun _ X3 hX3 => ?_, fun h => by cases h⟩
    refine E_tuple (rQ G.K) hX3 rfl B.tuple rfl ?_
    refine E_lc (own := [("k", 7)]) (rQ G.K) hX3 rfl ?_
    refine I_list hX3 ?_
    refine E_name (i := 5) hX3 rfl (.inr (.inl rfl)) rfl ?_  -- ks
    refine ⟨_, _, _, .im _ _, ?_⟩
    refine ⟨fun n out2 τ => out2 = (q.1.take n).map (fun (x : Int) => (x : Rat) / (ia q.1 q.2 : Rat)) ∧ τ = [.im (rL G.K (rT G.K (rQ G.K))) mat, .im rI (wd : Int), .im (rL G.K (rL G.K rI)) done, .im (rL G.K rI) leads, .im (rL G.K (rL G.K rI)) left, .im (rL G.K rI) q.1, .im rI q.2, .no], ⟨by simp, rfl⟩, fun n y hy => ?_, fun out2 τ hJ p => ?_⟩
    · rintro out2 τ ⟨ho2, hτ⟩ X4 hX4 hf4
      subst hτ
      obtain ⟨x, hx, ey⟩ := mapK_get hy
      subst ey
      refine TB_name (i := 7) hX4 rfl rfl (by decide) ?_  -- k
      intro X5 hX5
      refine Cs_nil ?_
      refine ⟨fun _ X6 hX6 => ?_, fun h => by cases h⟩
      refine E_call hX6 h2 (by omega) rfl rfl ?_
      refine A_cons rfl ?_
      refine P_name (i := 7) hX6 rfl (.inl rfl) rfl (by intro z; cases z) ?_  -- k
      refine A_cons rfl ?_
      refine P_val ?_
      refine E_ix hX6 (fun _ _ => rfl) ?_
      refine P_name (i := 5) hX6 rfl (.inr (.inl rfl)) rfl (by intro z; cases z) ?_  -- ks
      refine E_name (i := 6) hX6 rfl (.inr (.inl rfl)) rfl ?_  -- col
      refine ⟨_, .im _ _, _, rfl, _, _, _, ix_L hat, ?_⟩
      refine ⟨_, _, _, .im _ _, ?_⟩
      refine A_nil ?_
      refine ⟨[_, _], ⟨rfl, rfl, trivial⟩, trivial, _, _, rfl, o1, lt_pow (nz q.1 hq1 q.2) (by omega), ?_⟩
      refine ⟨_, .im _ _, ?_, ?_, rfl⟩
      · rw [ho2, List.length_map, List.length_take]; omega
      · rw [ho2, take_get hx, List.map_append]; rfl
    · obtain ⟨ho2, hτ⟩ := hJ
      rw [List.length_map, List.take_length] at ho2
      refine ⟨out2, .inl (.ow (frz_L (K := G.K))), ?_⟩
      refine ⟨_, .im _ _, ?_, ?_, ?_⟩
      · rw [ho, List.length_map, List.length_take, List.length_zip]; omega
      · rw [ho, take_get hq, List.map_append, ho2]; rfl
      · rw [hτ]; rfl
  · obtain ⟨ho, hτ⟩ := hJ
    rw [List.length_map, List.take_length] at ho
    rw [ho]
    exact fin_no (hk done leads left hS p)
def cRankL (K : PySem.W.Frag) : Ct := fun ks k => ∃ (mat : List (List Rat)) (w wd b : Nat), ks = [.im (rL K (rT K (rQ K))) mat, .im rI (wd : Int)] ∧ LawOk w b mat ∧ wd ≤ w ∧ wd ≤ 6 ∧
  ∀ (done : List IRow) (leads : List Int) (left : List IRow), SI w (MV mat) (ML b leads.length) (NL b leads.length) wd left done leads → k (.im rI (leads.length : Int)) [.no, .no]
theorem sc41 : FnScope ["mat", "wide"] ["mat", "wide"] (defScope (top 47)) := ⟨rfl, rfl, rfl, by decide +kernel, rfl, by decide +kernel, by decide +kernel⟩
theorem f41 {G : Gm} {f : Addr} {fd : FuncData} (F : Fun G.K "_law_rank" "_law_rank" (top 47) f fd) (hf : G.mg "_law_rank" = some (.ref f)) (b : Binds G.K fd ["mat", "wide"] [])
    (B : Bi G) (h1 : Fn G "_law_steps" 4 (cSteps G.K)) : Fn G "_law_rank" 5 (cRankL G.K) := by
  refine Fn.of F hf b sc41 (fun ks k ⟨mat, w, wd, b, h, _⟩ => by rw [h]; rfl) fun X hX hfn hp ks k ⟨mat, w, wd, b, hks, hm, hwd, hwd6, hk⟩ => ?_
  subst hks
  refine S_one ?_
  refine S1_ret ?_
  refine E_len hX rfl B.len rfl ?_
  refine P_val ?_
  refine E_ix hX (fun _ _ => rfl) ?_
  refine P_val ?_
  refine E_call hX h1 (by omega) rfl rfl ?_
  refine A_cons rfl ?_
  refine P_name (i := 0) hX rfl (.inl rfl) rfl (by intro z; cases z) ?_  -- mat
  refine A_cons rfl ?_
  refine P_name (i := 1) hX rfl (.inl rfl) rfl (by intro z; cases z) ?_  -- wide
  refine A_nil ?_
  refine ⟨[_, _], ⟨rfl, rfl, trivial⟩, trivial, mat, w, wd, b, rfl, hm, hwd, hwd6, fun done leads left hS => ?_⟩
  refine ⟨_, _, _, .im _ _, ?_⟩
  refine E_int ?_
  refine ⟨_, .im _ _, _, rfl, _, _, _, ix_tri1, ?_⟩
  refine ⟨_, _, _, .im _ _, ?_⟩
  exact ⟨_, _, rfl, len_L, fin_no (hk done leads left hS)⟩
end T
end
section
set_option Elab.async false
set_option linter.all false
set_option autoImplicit false
set_option maxRecDepth 100000
/-! Plain law: fractions over a common bottom, spans of matrices. -/
namespace T
/-- q = z / D, z at most M -/
def Fr (D M : Nat) (q : Rat) : Prop := ∃ z : Int, (z : Rat) = q * ((D : Int) : Rat) ∧ z.natAbs ≤ M
theorem Fr.plus {D M N : Nat} {p q : Rat} (h : Fr D M p) (h' : Fr D N q) : Fr D (M + N) (p + q) := by
  obtain ⟨z, e, b⟩ := h
  obtain ⟨y, e', b'⟩ := h'
  refine ⟨z + y, ?_, by omega⟩
  rw [Rat.intCast_add, e, e']
  grind
theorem Fr.mul {D E M N : Nat} {p q : Rat} (h : Fr D M p) (h' : Fr E N q) : Fr (D * E) (M * N) (p * q) := by
  obtain ⟨z, e, b⟩ := h
  obtain ⟨y, e', b'⟩ := h'
  refine ⟨z * y, ?_, by rw [Int.natAbs_mul]; exact Nat.mul_le_mul b b'⟩
  rw [Rat.intCast_mul, e, e', Int.natCast_mul, Rat.intCast_mul]
  grind
theorem Fr.up {D M : Nat} {q : Rat} (h : Fr D M q) (k : Nat) : Fr (D * k) (M * k) q := by
  obtain ⟨z, e, b⟩ := h
  refine ⟨z * (k : Int), ?_, by rw [Int.natAbs_mul, Int.natAbs_natCast]; exact Nat.mul_le_mul_right _ b⟩
  rw [Rat.intCast_mul, e, Int.natCast_mul, Rat.intCast_mul]
  grind
theorem Fr.le {D M N : Nat} {q : Rat} (h : Fr D M q) (hn : M ≤ N) : Fr D N q := by
  obtain ⟨z, e, b⟩ := h
  exact ⟨z, e, Nat.le_trans b hn⟩
theorem fr_zero (D M : Nat) : Fr D M 0 := ⟨0, by simp, Nat.zero_le _⟩
theorem fr_of {q : Rat} {D M : Nat} (hd : q.den ∣ D) (hm : q.num.natAbs * (D / q.den) ≤ M) : Fr D M q := by
  obtain ⟨c, hc⟩ := hd
  have hq : q = (q.num : Rat) / ((q.den : Int) : Rat) := by rw [← Rat.divInt_eq_div, Rat.num_divInt_den]
  have hdr : ((q.den : Int) : Rat) ≠ 0 := by
    intro z
    have h1 := q.den_pos
    have h2 : (q.den : Int) = 0 := by exact_mod_cast z
    omega
  have e : D / q.den = c := by rw [hc]; exact Nat.mul_div_cancel_left _ q.den_pos
  rw [e] at hm
  refine ⟨q.num * (c : Int), ?_, by rw [Int.natAbs_mul, Int.natAbs_natCast]; exact hm⟩
  rw [hc, Int.natCast_mul, Rat.intCast_mul, Rat.intCast_mul]
  generalize (q.num : Rat) = a at *
  generalize ((q.den : Int) : Rat) = d at *
  subst hq
  grind
/-- such a number's top and bottom -/
theorem Fr.parts {D M : Nat} {q : Rat} (h : Fr D M q) (hD : D ≠ 0) : q.den ∣ D ∧ q.num.natAbs ≤ M ∧ (q.num * ((D / q.den : Nat) : Int)).natAbs ≤ M := by
  obtain ⟨z, e, b⟩ := h
  have hq : q = (q.num : Rat) / ((q.den : Int) : Rat) := by rw [← Rat.divInt_eq_div, Rat.num_divInt_den]
  have hdr : ((q.den : Int) : Rat) ≠ 0 := by
    intro z
    have h1 := q.den_pos
    have h2 : (q.den : Int) = 0 := by exact_mod_cast z
    omega
  have e2 : ((z * (q.den : Int) : Int) : Rat) = ((q.num * (D : Int) : Int) : Rat) := by
    rw [Rat.intCast_mul, Rat.intCast_mul, e]
    generalize ((q.den : Int) : Rat) = d at *
    generalize (q.num : Rat) = a at *
    rw [hq]
    grind
  have e3 : z * (q.den : Int) = q.num * (D : Int) := by exact_mod_cast e2
  have e4 : z.natAbs * q.den = q.num.natAbs * D := by
    have := congrArg Int.natAbs e3
    rwa [Int.natAbs_mul, Int.natAbs_mul, Int.natAbs_natCast, Int.natAbs_natCast] at this
  have hdv : q.den ∣ D := by
    have h1 : q.den ∣ q.num.natAbs * D := ⟨z.natAbs, by rw [← e4, Nat.mul_comm]⟩
    exact (Nat.Coprime.symm q.reduced).dvd_of_dvd_mul_left h1
  obtain ⟨c, hc⟩ := hdv
  have e5 : D / q.den = c := by rw [hc]; exact Nat.mul_div_cancel_left _ q.den_pos
  have e6 : z.natAbs = q.num.natAbs * c := by
    rw [hc, Nat.mul_comm q.den c, ← Nat.mul_assoc] at e4
    exact Nat.eq_of_mul_eq_mul_right q.den_pos e4
  have c0 : 0 < c := by
    rcases Nat.eq_zero_or_pos c with y | y
    · rw [y, Nat.mul_zero] at hc; exact absurd hc hD
    · exact y
  refine ⟨⟨c, hc⟩, Nat.le_trans (Nat.le_mul_of_pos_right _ c0) (by omega), ?_⟩
  rw [e5, Int.natAbs_mul, Int.natAbs_natCast]
  omega
/-- a row of such numbers -/
def FrR (D M : Nat) (row : List Rat) : Prop := ∀ q ∈ row, Fr D M q
theorem FrR.wb {D M b : Nat} {row : List Rat} (h : FrR D M row) (hD : D ≠ 0) (hb : M ≤ 2 ^ b) : WB b row := fun q hq => by
  obtain ⟨h1, h2, h3⟩ := (h q hq).parts hD
  -- the row's own bottom divides D
  have hl : lcmD row ∣ D := by
    have key : ∀ (l : List Rat), (∀ q ∈ l, q.den ∣ D) → ∀ c, c ∣ D → l.foldl (fun c q => Nat.lcm c q.den) c ∣ D := by
      intro l
      induction l with
      | nil => intro _ c hc; exact hc
      | cons x l ih =>
        intro hx c hc
        exact ih (fun y hy => hx y (List.mem_cons_of_mem _ hy)) _ (Nat.lcm_dvd hc (hx x List.mem_cons_self))
    exact key row (fun x hx => ((h x hx).parts hD).1) 1 (Nat.one_dvd D)
  have hdl : q.den ∣ lcmD row := (lcmD_dvd row 1).2 q hq
  unfold wnum
  have e : (lcmD row : Int).fdiv (q.den : Int) = ((lcmD row / q.den : Nat) : Int) := by
    rw [Int.fdiv_eq_ediv_of_nonneg _ (by omega), ← Int.natCast_ediv]
  rw [e, Int.natAbs_mul, Int.natAbs_natCast]
  rw [Int.natAbs_mul, Int.natAbs_natCast] at h3
  refine Nat.le_trans (Nat.mul_le_mul_left _ (Nat.div_le_div_right (Nat.le_of_dvd (by omega) hl))) (Nat.le_trans h3 hb)
theorem FrR.nums {D M : Nat} {row : List Rat} (h : FrR D M row) (hD : D ≠ 0) : ∀ q ∈ row, q.den ∣ D ∧ q.num.natAbs ≤ M := fun q hq => ⟨((h q hq).parts hD).1, ((h q hq).parts hD).2.1⟩
theorem FrR.up {D M : Nat} {row : List Rat} (h : FrR D M row) (k : Nat) : FrR (D * k) (M * k) row := fun q hq => (h q hq).up k
theorem FrR.le {D M N : Nat} {row : List Rat} (h : FrR D M row) (hn : M ≤ N) : FrR D N row := fun q hq => (h q hq).le hn
/-! ### rows put together -/
def addR (p : Rat) (a b : List Rat) : List Rat := List.zipWith (fun x y => x + p * y) a b
theorem qv_zip {f : Rat → Rat → Rat} (hf : f 0 0 = 0) {a b : List Rat} (h : a.length = b.length) (j : Int) : qv (List.zipWith f a b) j = f (qv a j) (qv b j) := by
  unfold qv
  split
  · rw [List.getElem?_zipWith]
    by_cases hj : j.toNat < a.length
    · rw [List.getElem?_eq_getElem hj, List.getElem?_eq_getElem (by omega)]
      rfl
    · rw [List.getElem?_eq_none (by omega), List.getElem?_eq_none (l := b) (by omega)]
      exact hf.symm
  · exact hf.symm
theorem qv_add {p : Rat} {a b : List Rat} (h : a.length = b.length) (j : Int) : qv (addR p a b) j = qv a j + p * qv b j := qv_zip (f := fun x y => x + p * y) (by grind) h j
theorem qv_map {f : Rat → Rat} (hf : f 0 = 0) (a : List Rat) (j : Int) : qv (a.map f) j = f (qv a j) := by
  unfold qv
  split
  · rw [List.getElem?_map]
    cases a[j.toNat]? with
    | none => exact hf.symm
    | some k => rfl
  · exact hf.symm
theorem addR_fr {D E M N K : Nat} {p : Rat} {a b : List Rat} (hp : Fr E K p) (ha : FrR (E * D) M a) (hb : FrR D N b) : FrR (E * D) (M + K * N) (addR p a b) := fun q hq => by
  unfold addR at hq
  obtain ⟨i, hi⟩ := List.mem_iff_getElem?.mp hq
  rw [List.getElem?_zipWith] at hi
  cases h1 : a[i]? with
  | none => rw [h1] at hi; cases hi
  | some x =>
    cases h2 : b[i]? with
    | none => rw [h1, h2] at hi; cases hi
    | some y =>
      rw [h1, h2] at hi
      have hi : x + p * y = q := Option.some.inj hi
      rw [← hi]
      exact (ha x (List.mem_of_getElem? h1)).plus (hp.mul (hb y (List.mem_of_getElem? h2)))
/-! ### spans of matrices -/
theorem span_sub {A B : List (List Rat)} (h : ∀ r ∈ A, Span (MV B) (qv r)) {x : Vec} (hx : Span (MV A) x) : Span (MV B) x := Span.mono (fun v ⟨r, hr, e⟩ => by subst e; exact h r hr) hx
theorem mv_of {A : List (List Rat)} {r : List Rat} (h : r ∈ A) : Span (MV A) (qv r) := .of ⟨r, h, rfl⟩
def SameSpan (A B : List (List Rat)) : Prop := ∀ x, Span (MV A) x ↔ Span (MV B) x
theorem SameSpan.refl (A : List (List Rat)) : SameSpan A A := fun _ => Iff.rfl
theorem SameSpan.trans {A B C : List (List Rat)} (h : SameSpan A B) (h' : SameSpan B C) : SameSpan A C := fun x => (h x).trans (h' x)
theorem SameSpan.of {A B : List (List Rat)} (h : ∀ r ∈ A, Span (MV B) (qv r)) (h' : ∀ r ∈ B, Span (MV A) (qv r)) : SameSpan A B := fun x => ⟨span_sub h, span_sub h'⟩
theorem same_perm {A B : List (List Rat)} (h : A.Perm B) : SameSpan A B := .of (fun r hr => mv_of (h.mem_iff.mp hr)) fun r hr => mv_of (h.mem_iff.mpr hr)
theorem same_more {A B : List (List Rat)} (h : ∀ r ∈ B, Span (MV A) (qv r)) : SameSpan (A ++ B) A := .of (fun r hr => (List.mem_append.mp hr).elim mv_of (h r)) fun r hr => mv_of (List.mem_append_left _ hr)
/-- row k exchanged for itself plus a multiple of another row -/
theorem same_add {A : List (List Rat)} {k m : Nat} {a b : List Rat} {p : Rat} (hk : A[k]? = some a) (hm : A[m]? = some b) (hne : k ≠ m) (hl : a.length = b.length) : SameSpan (A.set k (addR p a b)) A := by
  have hkl : k < A.length := (List.getElem?_eq_some_iff.mp hk).1
  have hb : Span (MV (A.set k (addR p a b))) (qv b) := mv_of (List.mem_of_getElem? (i := m) (by rw [List.getElem?_set_ne hne]; exact hm))
  have hn : Span (MV (A.set k (addR p a b))) (qv (addR p a b)) := mv_of (List.mem_of_getElem? (i := k) (by rw [List.getElem?_set_self hkl]))
  refine .of (fun r hr => ?_) fun r hr => ?_
  · rcases List.mem_or_eq_of_mem_set hr with q | q
    · exact mv_of q
    · subst q
      refine (Span.plus (mv_of (List.mem_of_getElem? hk)) (Span.smul (mv_of (List.mem_of_getElem? hm)) p)).cast fun j => ?_
      rw [qv_add hl]
  · obtain ⟨i, hi⟩ := List.mem_iff_getElem?.mp hr
    by_cases hik : k = i
    · subst hik
      rw [hk] at hi
      cases hi
      refine (Span.plus hn (Span.smul hb (-p))).cast fun j => ?_
      rw [qv_add hl]
      grind
    · exact mv_of (List.mem_of_getElem? (i := i) (by rw [List.getElem?_set_ne hik]; exact hi))
theorem same_mul {A : List (List Rat)} {k : Nat} {a : List Rat} {p : Rat} (hk : A[k]? = some a) (hp : p ≠ 0) : SameSpan (A.set k (a.map fun x => p * x)) A := by
  have hkl : k < A.length := (List.getElem?_eq_some_iff.mp hk).1
  have hn : Span (MV (A.set k (a.map fun x => p * x))) (qv (a.map fun x => p * x)) := mv_of (List.mem_of_getElem? (i := k) (by rw [List.getElem?_set_self hkl]))
  have e : ∀ j, qv (a.map fun x => p * x) j = p * qv a j := fun j => qv_map (f := fun x => p * x) (by grind) a j
  refine .of (fun r hr => ?_) fun r hr => ?_
  · rcases List.mem_or_eq_of_mem_set hr with q | q
    · exact mv_of q
    · subst q
      exact (Span.smul (mv_of (List.mem_of_getElem? hk)) p).cast fun j => (e j).symm
  · obtain ⟨i, hi⟩ := List.mem_iff_getElem?.mp hr
    by_cases hik : k = i
    · subst hik
      rw [hk] at hi
      cases hi
      refine (Span.smul hn (1 / p)).cast fun j => ?_
      rw [e]
      grind
    · exact mv_of (List.mem_of_getElem? (i := i) (by rw [List.getElem?_set_ne hik]; exact hi))
end T
end
section
set_option Elab.async false
set_option linter.all false
set_option maxRecDepth 100000
set_option maxHeartbeats 2000000
set_option exponentiation.threshold 10000
namespace T
open PySem PySem.Spec PyProof.Rows L2
/-! ### drawn matrices -/
theorem Sm.fr {o : Bool} {q : Rat} (h : Sm o q) : Fr 12 60 q := by
  have h2 : q.den ∣ 12 := Nat.dvd_trans h.2 (by cases o <;> decide)
  refine fr_of h2 ?_
  have h3 := Nat.mul_le_mul h.1 (Nat.div_le_self 12 q.den)
  exact h3
theorem Fr.qb {D M : Nat} {q : Rat} (h : Fr D M q) (hD : D ≠ 0) (h1 : D < 2 ^ 1000) (h2 : M < 2 ^ 1000) : QB q := by
  obtain ⟨a, b, _⟩ := h.parts hD
  exact ⟨by omega, Nat.lt_of_le_of_lt (Nat.le_of_dvd (by omega) a) h1⟩
theorem zip_add {p : Rat} : ∀ (a b : List Rat), (a.zip b).map (fun q => q.1 + p * q.2) = addR p a b
  | [], _ => rfl
  | _ :: _, [] => rfl
  | x :: a, y :: b => by
    have h := zip_add (p := p) a b
    unfold addR at h ⊢
    rw [List.zip_cons_cons, List.map_cons, List.zipWith_cons_cons, h]
theorem addR_len {p : Rat} {a b : List Rat} (h : a.length = b.length) : (addR p a b).length = a.length := by
  unfold addR
  rw [List.length_zipWith]; omega
theorem C_via {X : Cx} {e : Expr} {τ : Tau} {k : Bool → Tau → Prop} (k' : Bool → Tau → Prop) (h1 : C X e τ k') (h2 : ∀ x τ', k' x τ' → k x τ') : C X e τ k := WT.mono h1 h2
theorem at_0 {α : Type} {l : List α} {a : α} (h : l[0]? = some a) : atI l 0 = some a := by
  have hl := (List.getElem?_eq_some_iff.mp h).1
  have e : ixN l.length 0 = some 0 := by
    unfold ixN
    rw [if_pos (by omega), if_pos (by omega)]
    rfl
  unfold atI
  rw [e]
  exact h
theorem at_last {α : Type} {l : List α} {a : α} (h : l[l.length - 1]? = some a) : atI l (-1) = some a := by
  have hl := (List.getElem?_eq_some_iff.mp h).1
  have e : ixN l.length (-1) = some (l.length - 1) := by
    unfold ixN
    rw [if_neg (by omega), if_pos (by omega)]
    congr 1
    omega
  unfold atI
  rw [e]
  exact h
/-- a drawn matrix -/
def Drawn (w : Nat) (mat : List (List Rat)) : Prop := ∀ i r, mat[i]? = some r → r.length = w ∧ FrR 144 (720 + 3600 * i) r ∧ (i = 0 → FrR 12 60 r)
theorem Drawn.snoc {w : Nat} {mat : List (List Rat)} {r : List Rat} (h : Drawn w mat) (hl : r.length = w) (h1 : FrR 144 (720 + 3600 * mat.length) r) (h2 : mat.length = 0 → FrR 12 60 r) : Drawn w (mat ++ [r]) := fun i s hs => by
  by_cases hi : i < mat.length
  · rw [List.getElem?_append_left hi] at hs
    exact h i s hs
  · rw [List.getElem?_append_right (by omega)] at hs
    have e : i = mat.length := by
      have := (List.getElem?_eq_some_iff.mp hs).1
      simp at this; omega
    subst e
    rw [Nat.sub_self] at hs
    cases hs
    exact ⟨hl, h1, h2⟩
def cMat (K : PySem.W.Frag) : Ct := fun ks k => ∃ (p : Addr) (b : Bag) (n w : Nat), ks = [.ow p (cBag K) b, .im rI (w : Int)] ∧ Bg n b ∧ n + 1000 < 2 ^ 30 ∧ w ≤ 50 ∧
  ∀ q mat b' n', mat.length ≤ 5 → Drawn w mat → n ≤ n' → n' ≤ n + 1000 → Bg n' b' → k (.ow q (cL (rT K (rQ K))) mat) [.ow p (cBag K) b', .no]
end T
end
section
set_option Elab.async false
set_option linter.all false
set_option maxRecDepth 100000
set_option maxHeartbeats 2000000
set_option exponentiation.threshold 10000
namespace T
open PySem PySem.Spec PyProof.Rows L2
/-! ### a drawn row of the span -/
theorem Sm.fr1 {q : Rat} (h : Sm false q) : Fr 1 5 q := by
  have h2 : q.den ∣ 1 := h.2
  refine fr_of h2 ?_
  have h3 := Nat.mul_le_mul h.1 (Nat.div_le_self 1 q.den)
  exact h3
theorem qv_zeros (w : Nat) (j : Int) : qv (List.replicate w 0) j = 0 := by
  unfold qv
  split
  · rw [List.getElem?_replicate]
    split <;> rfl
  · rfl
def cSpan (K : PySem.W.Frag) : Ct := fun ks k => ∃ (p : Addr) (b : Bag) (n w : Nat) (mat : List (List Rat)), ks = [.ow p (cBag K) b, .im (rL K (rT K (rQ K))) mat, .im rI (w : Int)] ∧ Bg n b ∧ n + 100 < 2 ^ 30 ∧ w ≤ 50 ∧ mat.length ≤ 5 ∧ Drawn w mat ∧
  ∀ v b' n', v.length = w → FrR 144 378000 v → Span (MV mat) (qv v) → n ≤ n' → n' ≤ n + 15 → Bg n' b' → k (.im (rT K (rQ K)) v) [.ow p (cBag K) b', .no, .no]
end T
end
section
set_option Elab.async false
set_option linter.all false
set_option maxRecDepth 100000
set_option maxHeartbeats 2000000
set_option exponentiation.threshold 10000
namespace T
open PySem PySem.Spec PyProof.Rows L2
/-! ### the same span told otherwise -/
theorem ixN_nat {n i : Nat} (h : i < n) : ixN n (i : Int) = some i := by
  unfold ixN
  rw [if_pos (by omega), if_pos (by omega)]
  rfl
theorem at_nat {α : Type} {l : List α} {a : α} {i : Nat} (h : l[i]? = some a) : atI l (i : Int) = some a := by
  unfold atI
  rw [ixN_nat (List.getElem?_eq_some_iff.mp h).1]
  exact h
theorem fr_turn {q : Rat} (h : q ∈ [(1 : Rat), -1 / 2, 2]) : Fr 2 4 q := by
  simp only [List.mem_cons, List.not_mem_nil, or_false] at h
  rcases h with z | z | z <;> subst z
  · exact ⟨2, by decide +kernel, by decide⟩
  · exact ⟨-1, by decide +kernel, by decide⟩
  · exact ⟨4, by decide +kernel, by decide⟩
theorem fr_scale {q : Rat} (h : q ∈ [(-3 : Rat), 1, 2 / 5]) : Fr 5 15 q ∧ q ≠ 0 := by
  simp only [List.mem_cons, List.not_mem_nil, or_false] at h
  rcases h with z | z | z <;> subst z
  · exact ⟨⟨-15, by decide +kernel, by decide⟩, by decide +kernel⟩
  · exact ⟨⟨5, by decide +kernel, by decide⟩, by decide +kernel⟩
  · exact ⟨⟨2, by decide +kernel, by decide⟩, by decide +kernel⟩
/-- rows of one length over one bottom -/
def Rw (w D M : Nat) (mat : List (List Rat)) : Prop := ∀ r ∈ mat, r.length = w ∧ FrR D M r
theorem mul_fr {D E M K : Nat} {p : Rat} {a : List Rat} (hp : Fr E K p) (ha : FrR D M a) : FrR (E * D) (K * M) (a.map fun x => p * x) := fun q hq => by
  obtain ⟨x, hx, e⟩ := List.mem_map.mp hq
  rw [← e]
  exact hp.mul (ha x hx)
def cStir (K : PySem.W.Frag) : Ct := fun ks k => ∃ (p : Addr) (b : Bag) (n w : Nat) (mat : List (List Rat)), ks = [.ow p (cBag K) b, .im (rL K (rT K (rQ K))) mat, .im rI (w : Int)] ∧ Bg n b ∧ n + 200 < 2 ^ 30 ∧ w ≤ 50 ∧ mat.length ≤ 5 ∧ Drawn w mat ∧
  ∀ q out b' n', out.length ≤ 7 → Rw w 11520 (2 ^ 29) out → SameSpan out mat → n ≤ n' → n' ≤ n + 100 → Bg n' b' → k (.ow q (cL (rT K (rQ K))) out) [.ow p (cBag K) b', .no, .no]
end T
end
section
set_option Elab.async false
set_option linter.all false
set_option maxRecDepth 100000
/-! Data of any shape as one relation. -/
namespace T
open PySem PySem.Spec PyProof.Rows L2
theorem LeR.of_le {R R' : Hp} (l : Le R R') : LeR R R' := fun a o h => .inl (l a o h)
mutual
theorem dp_up {K : PySem.W.Frag} {R H : Hp} (l : LeR R H) : ∀ (d : PyData) {v : V}, Dp K R v d → Dp K H v d
  | .none, _, h => by cases h; exact .non
  | .bool b, _, h => by cases h; exact .bl b
  | .int i, _, h => by cases h; exact .int i
  | .str x, _, h => by cases h; exact .str x
  | .list ds, _, h => by
    cases h with
    | lst h1 h2 => exact .lst (l.sqL h1) (dps_up l ds h2)
  | .tuple ds, _, h => by
    cases h with
    | tup h1 h2 => exact .tup (l.sqT h1) (dps_up l ds h2)
theorem dps_up {K : PySem.W.Frag} {R H : Hp} (l : LeR R H) : ∀ (ds : List PyData) {vs : List V}, DpAll K R vs ds → DpAll K H vs ds
  | [], _, h => by cases h; exact .nil
  | d :: ds, _, h => by
    cases h with
    | cons h1 h2 => exact .cons (dp_up l d h1) (dps_up l ds h2)
end
/-- data of any shape -/
def rU (K : PySem.W.Frag) : DR PyData := ⟨fun R v d => Dp K R v d, fun l h => dp_up (LeR.of_le l) _ h⟩
theorem fz_U {K : PySem.W.Frag} {α : Type} {A : DR α} {f : α → PyData} (hA : Deep K A f) {R : Hp} {v : V} {a : α} (h : A.rel R v a) : (rU K).rel R v (f a) := hA R v a h R (fun _ _ h => .inl h)
theorem deep_U {K : PySem.W.Frag} : Deep K (rU K) id := fun R v a h H l => dp_up l _ h
theorem dps_pair {K : PySem.W.Frag} {R : Hp} : ∀ {vs : List V} {ds : List PyData}, DpAll K R vs ds → Paired ((rU K).rel R) vs ds
  | _, _, .nil => .nil
  | _, _, .cons h t => .cons h (dps_pair t)
theorem ix_UL {K : PySem.W.Frag} {l : List PyData} {i : Int} {a : PyData} (ha : atI l i = some a) : IxOf K (.im (rU K) (.list l)) i (rU K) a := fun R H v le h => by
  cases h with
  | lst h1 h2 =>
    obtain ⟨w, e1, e2⟩ := at_of_paired (dps_pair h2) ha
    exact ⟨_, _, w, rfl, .inl (le.sqL h1), e1, e2⟩
theorem ix_UT {K : PySem.W.Frag} {l : List PyData} {i : Int} {a : PyData} (ha : atI l i = some a) : IxOf K (.im (rU K) (.tuple l)) i (rU K) a := fun R H v le h => by
  cases h with
  | tup h1 h2 =>
    obtain ⟨w, e1, e2⟩ := at_of_paired (dps_pair h2) ha
    exact ⟨_, _, w, rfl, .inr (le.sqT h1), e1, e2⟩
end T
namespace T
open PySem PySem.Spec PyProof.Rows L2
theorem ty_sqL {K : PySem.W.Frag} {H : Hp} {p : Addr} {xs : List V} (h : SqL K H p xs) : TyX K H (.ref p) (.type "list") := by
  rcases h with h | ⟨o, its, m, h1, h2, _⟩
  · exact ty_rd h
  · exact .kList h1 h2
theorem ty_Ui {K : PySem.W.Frag} {i : Int} : TyD K (.im (rU K) (.int i)) "int" := fun R H v l h => by cases h; exact .base (.int i)
theorem ty_Ub {K : PySem.W.Frag} {i : Bool} : TyD K (.im (rU K) (.bool i)) "bool" := fun R H v l h => by cases h; exact .base (.bl i)
theorem ty_Us {K : PySem.W.Frag} {i : Str} : TyD K (.im (rU K) (.str i)) "str" := fun R H v l h => by cases h; exact .base (.str i)
theorem ty_Ul {K : PySem.W.Frag} {l : List PyData} : TyD K (.im (rU K) (.list l)) "list" := fun R H v le h => by
  cases h with
  | lst h1 h2 => exact ty_sqL (le.sqL h1)
theorem ty_Ut {K : PySem.W.Frag} {l : List PyData} : TyD K (.im (rU K) (.tuple l)) "tuple" := fun R H v le h => by
  cases h with
  | tup h1 h2 => exact ty_sqT (le.sqT h1)
theorem len_UL {K : PySem.W.Frag} {l : List PyData} : LenOf K (.im (rU K) (.list l)) l.length := fun R H v le h => by
  cases h with
  | lst h1 h2 => exact .inl (.inl ⟨_, le.sqL h1, (PySem.Paired.length (dps_pair h2)).symm⟩)
theorem len_UT {K : PySem.W.Frag} {l : List PyData} : LenOf K (.im (rU K) (.tuple l)) l.length := fun R H v le h => by
  cases h with
  | tup h1 h2 => exact .inl (.inr ⟨_, le.sqT h1, (PySem.Paired.length (dps_pair h2)).symm⟩)
theorem fz_Ui {K : PySem.W.Frag} {i : Int} : Fz (.im (rU K) (.int i)) (.im rI i) := .cv fun R v h => by cases h; rfl
theorem fz_Ub {K : PySem.W.Frag} {i : Bool} : Fz (.im (rU K) (.bool i)) (.im rB i) := .cv fun R v h => by cases h; rfl
theorem fz_Us {K : PySem.W.Frag} {i : Str} : Fz (.im (rU K) (.str i)) (.im rS i) := .cv fun R v h => by cases h; rfl
end T
end
section
set_option Elab.async false
set_option linter.all false
set_option maxRecDepth 100000
set_option maxHeartbeats 2000000
namespace T
open PySem PySem.Spec PyProof.Rows L2
/-! ### a is None, a is not None -/
def IsNK (x : Kd) (c : Bool) : Prop := ∀ R H v, x.rel R H v → decide (v = V.non) = c
theorem isn_Un {K : PySem.W.Frag} : IsNK (.im (rU K) .none) true := fun R H v h => by cases h; rfl
theorem isn_L {K : PySem.W.Frag} {α : Type} {A : DR α} {l : List α} : IsNK (.im (rL K A) l) false := fun R H v ⟨a, xs, e, _⟩ => by subst e; rfl
theorem isn_N : IsNK (.im rN ()) true := fun R H v h => by cases h; rfl
theorem ty_Un {K : PySem.W.Frag} : TyD K (.im (rU K) .none) "NoneType" := fun R H v l h => by cases h; exact .base .non
theorem fz_none {K : PySem.W.Frag} : ∀ R v, rN.rel R v () → (rU K).rel R v .none := fun R v h => by cases h; exact .non
section
variable {G : Gm} {X : Cx} {τ : Tau} {k : KK} {a : Expr} {pos p2 : Pos}
theorem E_isN {j} (h : E X a τ fun x τ1 => ∃ c, IsNK x c ∧ k (.im rB c) τ1) : E X (.Compare a [.Is] [.Constant .none j p2] pos) τ k :=
  E.of (pe_cmp (pc_isN pe_sem)) fun σ H F R0 R Q ok q => h σ H F R0 R _ ok fun x τ1 v R1 H1 ⟨c, hc, hk⟩ l1 ok1 w1 => by
    rw [hc R1 H1 v w1.rel]
    exact q _ τ1 _ R1 H1 hk l1 ok1 (VOk.im rfl)
theorem C_notN {j} {kt : Bool → Tau → Prop} (h : E X a τ fun x τ1 => ∃ c, IsNK x c ∧ kt (!c) τ1) : C X (.Compare a [.IsNot] [.Constant .none j p2] pos) τ kt :=
  C.of (pt_cmp (pc_notN pe_sem)) fun σ H F R0 R Q ok q => h σ H F R0 R _ ok fun x τ1 v R1 H1 ⟨c, hc, hk⟩ l1 ok1 w1 => by
    have hd := hc R1 H1 v w1.rel
    refine ⟨!c, ?_, q _ τ1 R1 H1 hk l1 ok1⟩
    rw [← hd]
end
end T
end
section
set_option Elab.async false
set_option linter.all false
set_option maxRecDepth 100000
set_option maxHeartbeats 2000000
set_option exponentiation.threshold 10000
namespace T
open PySem PySem.Spec PyProof.Rows L2
/-! ### _law_like, of data like one another -/
def SD : Nat → PyData → Prop
  | _, .int _ => True
  | _, .bool _ => True
  | _, .str _ => True
  | _, .none => True
  | m + 1, .list ds => ds.length ≤ 1000 ∧ ∀ x ∈ ds, SD m x
  | m + 1, .tuple ds => ds.length ≤ 1000 ∧ ∀ x ∈ ds, SD m x
  | _, _ => False
def cLike (m : Nat) (K : PySem.W.Frag) : Ct := fun ks k => ∃ d : PyData, ks = [.im (rU K) d, .im (rU K) d] ∧ SD m d ∧ k (.im rB true) [.no, .no]
theorem sc28 : FnScope ["told", "due", "key", "k"] ["told", "due"] (defScope (top 33)) := ⟨rfl, rfl, rfl, by decide +kernel, rfl, by decide +kernel, by decide +kernel⟩
theorem f28 {G : Gm} {f : Addr} {fd : FuncData} (F : Fun G.K "_law_like" "_law_like" (top 33) f fd) (hf : G.mg "_law_like" = some (.ref f)) (b : Binds G.K fd ["told", "due"] [])
    (B : Bi G) : ∀ m, Fn G "_law_like" (m + 1) (cLike m G.K) := by
  suffices step : ∀ m, (∀ m', m = m' + 1 → Fn G "_law_like" (m' + 1) (cLike m' G.K)) → Fn G "_law_like" (m + 1) (cLike m G.K) by
    intro m
    induction m with
    | zero => exact step 0 fun m' h => by omega
    | succ m ih =>
      refine step (m + 1) fun m' h => ?_
      have e : m' = m := Nat.succ.inj h.symm
      rw [e]; exact ih
  intro m ihm
  refine Fn.of F hf b sc28 (fun ks k ⟨d, h, _⟩ => by rw [h]; rfl) fun X hX hfn hp ks k ⟨d, hks, hd, hk⟩ => ?_
  subst hks
  cases d with
  | int i =>
    refine S_cons ?_
    refine S1_if ?_
    refine C_val ?_
    refine E_isi hX rfl B.isi rfl B.bool rfl rfl ?_
    refine E_name (i := 1) hX rfl (.inr (.inl rfl)) rfl ?_
    refine ⟨_, _, _, .im _ _, ty_Ui, rfl, ?_⟩
    refine ⟨_, .im _ _, ?_⟩
    refine ⟨fun hc => (by cases hc), fun _ => S_nil ?_⟩
    refine S_cons ?_
    refine S1_if ?_
    refine C_val ?_
    refine E_isi hX rfl B.isi rfl B.int rfl rfl ?_
    refine E_name (i := 1) hX rfl (.inr (.inl rfl)) rfl ?_
    refine ⟨_, _, _, .im _ _, ty_Ui, rfl, ?_⟩
    refine ⟨_, .im _ _, ?_⟩
    refine ⟨fun _ => ?_, fun hc => (by cases hc)⟩
    refine S_one ?_
    refine S1_ret ?_
    refine E_and3 ?_
    refine E_isi hX rfl B.isi rfl B.int rfl rfl ?_
    refine E_name (i := 0) hX rfl (.inr (.inl rfl)) rfl ?_
    refine ⟨_, _, _, .im _ _, ty_Ui, rfl, ?_⟩
    refine ⟨_, .im _ _, fun _ => ?_, fun hc => (by cases hc)⟩
    refine E_not ?_
    refine E_isi hX rfl B.isi rfl B.bool rfl rfl ?_
    refine E_name (i := 0) hX rfl (.inr (.inl rfl)) rfl ?_
    refine ⟨_, _, _, .im _ _, ty_Ui, rfl, ?_⟩
    refine ⟨_, .im _ _, ?_⟩
    refine ⟨_, .im _ _, fun _ => ?_, fun hc => (by cases hc)⟩
    refine E_eqI ?_
    refine E_name (i := 0) hX rfl (.inr (.inl rfl)) rfl ?_
    refine ⟨_, fz_Ui, ?_⟩
    refine E_name (i := 1) hX rfl (.inr (.inl rfl)) rfl ?_
    refine ⟨_, fz_Ui, ?_⟩
    rw [show decide (i = i) = true by simp]
    exact fin_no hk
  | bool i =>
    refine S_cons ?_
    refine S1_if ?_
    refine C_val ?_
    refine E_isi hX rfl B.isi rfl B.bool rfl rfl ?_
    refine E_name (i := 1) hX rfl (.inr (.inl rfl)) rfl ?_
    refine ⟨_, _, _, .im _ _, ty_Ub, rfl, ?_⟩
    refine ⟨_, .im _ _, ?_⟩
    refine ⟨fun _ => ?_, fun hc => (by cases hc)⟩
    refine S_one ?_
    refine S1_ret ?_
    refine E_and2 ?_
    refine E_isi hX rfl B.isi rfl B.bool rfl rfl ?_
    refine E_name (i := 0) hX rfl (.inr (.inl rfl)) rfl ?_
    refine ⟨_, _, _, .im _ _, ty_Ub, rfl, ?_⟩
    refine ⟨_, .im _ _, fun _ => ?_, fun hc => (by cases hc)⟩
    refine E_eqD (A := rB) (B := rB) hX deep_B deep_B ?_
    refine E_name (i := 0) hX rfl (.inr (.inl rfl)) rfl ?_
    refine ⟨_, fz_Ub, ?_⟩
    refine E_name (i := 1) hX rfl (.inr (.inl rfl)) rfl ?_
    refine ⟨_, fz_Ub, rfl, rfl, ?_⟩
    rw [show PyData.eqv (.bool i) (.bool i) = true by cases i <;> rfl]
    exact fin_no hk
  | str i =>
    refine S_cons ?_
    refine S1_if ?_
    refine C_val ?_
    refine E_isi hX rfl B.isi rfl B.bool rfl rfl ?_
    refine E_name (i := 1) hX rfl (.inr (.inl rfl)) rfl ?_
    refine ⟨_, _, _, .im _ _, ty_Us, rfl, ?_⟩
    refine ⟨_, .im _ _, ?_⟩
    refine ⟨fun hc => (by cases hc), fun _ => S_nil ?_⟩
    refine S_cons ?_
    refine S1_if ?_
    refine C_val ?_
    refine E_isi hX rfl B.isi rfl B.int rfl rfl ?_
    refine E_name (i := 1) hX rfl (.inr (.inl rfl)) rfl ?_
    refine ⟨_, _, _, .im _ _, ty_Us, rfl, ?_⟩
    refine ⟨_, .im _ _, ?_⟩
    refine ⟨fun hc => (by cases hc), fun _ => S_nil ?_⟩
    refine S_cons ?_
    refine S1_if ?_
    refine C_val ?_
    refine E_isi hX rfl B.isi rfl B.str rfl rfl ?_
    refine E_name (i := 1) hX rfl (.inr (.inl rfl)) rfl ?_
    refine ⟨_, _, _, .im _ _, ty_Us, rfl, ?_⟩
    refine ⟨_, .im _ _, ?_⟩
    refine ⟨fun _ => ?_, fun hc => (by cases hc)⟩
    refine S_one ?_
    refine S1_ret ?_
    refine E_and2 ?_
    refine E_isi hX rfl B.isi rfl B.str rfl rfl ?_
    refine E_name (i := 0) hX rfl (.inr (.inl rfl)) rfl ?_
    refine ⟨_, _, _, .im _ _, ty_Us, rfl, ?_⟩
    refine ⟨_, .im _ _, fun _ => ?_, fun hc => (by cases hc)⟩
    refine E_eqS ?_
    refine E_name (i := 0) hX rfl (.inr (.inl rfl)) rfl ?_
    refine ⟨_, fz_Us, ?_⟩
    refine E_name (i := 1) hX rfl (.inr (.inl rfl)) rfl ?_
    refine ⟨_, fz_Us, ?_⟩
    rw [show decide (i = i) = true by simp]
    exact fin_no hk
  | list l =>
    obtain ⟨m, rfl⟩ : ∃ m', m = m' + 1 := by
      cases m with
      | zero => exact hd.elim
      | succ m => exact ⟨m, rfl⟩
    have ih := ihm m rfl
    obtain ⟨hl, hs⟩ := hd
    refine S_cons ?_
    refine S1_if ?_
    refine C_val ?_
    refine E_isi hX rfl B.isi rfl B.bool rfl rfl ?_
    refine E_name (i := 1) hX rfl (.inr (.inl rfl)) rfl ?_
    refine ⟨_, _, _, .im _ _, ty_Ul, rfl, ?_⟩
    refine ⟨_, .im _ _, ?_⟩
    refine ⟨fun hc => (by cases hc), fun _ => S_nil ?_⟩
    refine S_cons ?_
    refine S1_if ?_
    refine C_val ?_
    refine E_isi hX rfl B.isi rfl B.int rfl rfl ?_
    refine E_name (i := 1) hX rfl (.inr (.inl rfl)) rfl ?_
    refine ⟨_, _, _, .im _ _, ty_Ul, rfl, ?_⟩
    refine ⟨_, .im _ _, ?_⟩
    refine ⟨fun hc => (by cases hc), fun _ => S_nil ?_⟩
    refine S_cons ?_
    refine S1_if ?_
    refine C_val ?_
    refine E_isi hX rfl B.isi rfl B.str rfl rfl ?_
    refine E_name (i := 1) hX rfl (.inr (.inl rfl)) rfl ?_
    refine ⟨_, _, _, .im _ _, ty_Ul, rfl, ?_⟩
    refine ⟨_, .im _ _, ?_⟩
    refine ⟨fun hc => (by cases hc), fun _ => S_nil ?_⟩
    refine S_cons ?_
    refine S1_if ?_
    refine C_val ?_
    refine E_isi hX rfl B.isi rfl B.dict rfl rfl ?_
    refine E_name (i := 1) hX rfl (.inr (.inl rfl)) rfl ?_
    refine ⟨_, _, _, .im _ _, ty_Ul, rfl, ?_⟩
    refine ⟨_, .im _ _, ?_⟩
    refine ⟨fun hc => (by cases hc), fun _ => S_nil ?_⟩
    refine S_cons ?_
    refine S1_if ?_
    refine C_or2 ?_
    refine C_val ?_
    refine E_isi hX rfl B.isi rfl B.list rfl rfl ?_
    refine E_name (i := 1) hX rfl (.inr (.inl rfl)) rfl ?_
    refine ⟨_, _, _, .im _ _, ty_Ul, rfl, ?_⟩
    refine ⟨_, .im _ _, ?_⟩
    refine ⟨fun _ => ?_, fun hc => (by cases hc)⟩
    refine ⟨fun _ => ?_, fun hc => (by cases hc)⟩
    refine S_cons ?_
    refine S1_if ?_
    refine C_or2 ?_
    refine C_neD (A := rB) (B := rB) hX deep_B deep_B ?_
    refine E_isi hX rfl B.isi rfl B.list rfl rfl ?_
    refine E_name (i := 0) hX rfl (.inr (.inl rfl)) rfl ?_
    refine ⟨_, _, _, .im _ _, ty_Ul, rfl, ?_⟩
    refine ⟨_, .im _ _, ?_⟩
    refine E_isi hX rfl B.isi rfl B.list rfl rfl ?_
    refine E_name (i := 1) hX rfl (.inr (.inl rfl)) rfl ?_
    refine ⟨_, _, _, .im _ _, ty_Ul, rfl, ?_⟩
    refine ⟨_, .im _ _, rfl, rfl, ?_⟩
    refine ⟨fun hc => (by cases hc), fun _ => ?_⟩
    refine C_neD (A := rB) (B := rB) hX deep_B deep_B ?_
    refine E_isi hX rfl B.isi rfl B.tuple rfl rfl ?_
    refine E_name (i := 0) hX rfl (.inr (.inl rfl)) rfl ?_
    refine ⟨_, _, _, .im _ _, ty_Ul, rfl, ?_⟩
    refine ⟨_, .im _ _, ?_⟩
    refine E_isi hX rfl B.isi rfl B.tuple rfl rfl ?_
    refine E_name (i := 1) hX rfl (.inr (.inl rfl)) rfl ?_
    refine ⟨_, _, _, .im _ _, ty_Ul, rfl, ?_⟩
    refine ⟨_, .im _ _, rfl, rfl, ?_⟩
    refine ⟨fun hc => (by cases hc), fun _ => S_nil ?_⟩
    refine S_cons ?_
    refine S1_if ?_
    refine C_neI ?_
    refine E_len hX rfl B.len rfl ?_
    refine P_name (i := 0) hX rfl (.inr (.inl rfl)) rfl (by intro z; cases z) ?_
    refine ⟨_, _, rfl, len_UL, ?_⟩
    refine ⟨_, .im _ _, ?_⟩
    refine E_len hX rfl B.len rfl ?_
    refine P_name (i := 1) hX rfl (.inr (.inl rfl)) rfl (by intro z; cases z) ?_
    refine ⟨_, _, rfl, len_UL, ?_⟩
    refine ⟨_, .im _ _, ?_⟩
    refine ⟨fun hc => (by simp at hc), fun _ => S_nil ?_⟩
    refine S_one ?_
    refine S1_ret ?_
    refine E_eqD (A := rL G.K rI) (B := rL G.K rI) hX (deep_L deep_I) (deep_L deep_I) ?_
    refine E_lc (own := [("k", 3)]) rI hX rfl ?_
    refine I_rng1 hX rfl B.range rfl ?_
    refine E_len hX rfl B.len rfl ?_
    refine P_name (i := 1) hX rfl (.inr (.inl rfl)) rfl (by intro z; cases z) ?_
    refine ⟨_, _, rfl, len_UL, ?_⟩
    refine ⟨_, .im _ _, by omega, by omega, ?_⟩
    refine ⟨fun i out τ => out = [] ∧ τ = [.im (rU G.K) (.list l), .im (rU G.K) (.list l), .no, .no], ⟨rfl, rfl⟩, fun i y hy => ?_, fun out τ hJ p => ?_⟩
    · rintro out τ ⟨ho, hτ⟩ X1 hX1 hf1
      subst hτ
      obtain ⟨hi1, ey⟩ := rngK0_get hy
      subst ey
      have hil : i < l.length := by omega
      have el : l[i]? = some l[i] := List.getElem?_eq_getElem hil
      refine TB_name (i := 3) hX1 rfl rfl (by decide) ?_  -- k
      intro X2 hX2
      refine Cs_one ?_
      refine C_not ?_
      refine C_val ?_
      refine E_call hX2 ih (by omega) rfl rfl ?_
      refine A_cons rfl ?_
      refine P_val ?_
      refine E_ix hX2 (fun _ _ => rfl) ?_
      refine P_name (i := 0) hX2 rfl (.inr (.inl rfl)) rfl (by intro z; cases z) ?_
      refine E_name (i := 3) hX2 rfl (.inl rfl) rfl ?_
      refine ⟨_, .im _ _, _, rfl, _, _, l[i], ix_UL (at_nat el), ?_⟩
      refine ⟨_, _, _, .im _ _, ?_⟩
      refine A_cons rfl ?_
      refine P_val ?_
      refine E_ix hX2 (fun _ _ => rfl) ?_
      refine P_name (i := 1) hX2 rfl (.inr (.inl rfl)) rfl (by intro z; cases z) ?_
      refine E_name (i := 3) hX2 rfl (.inl rfl) rfl ?_
      refine ⟨_, .im _ _, _, rfl, _, _, l[i], ix_UL (at_nat el), ?_⟩
      refine ⟨_, _, _, .im _ _, ?_⟩
      refine A_nil ?_
      refine ⟨[_, _], ⟨rfl, rfl, trivial⟩, trivial, l[i], rfl, hs _ (List.getElem_mem hil), ?_⟩
      refine ⟨_, .im _ _, ?_⟩
      refine ⟨fun h => (by cases h), fun _ => ?_⟩
      exact ⟨ho, rfl⟩
    obtain ⟨ho, hτ⟩ := hJ
    subst hτ ho
    refine ⟨_, .ow (frz_L (K := G.K)), ?_⟩
    refine E_lst rfl (A := rI) ?_
    refine ⟨by simp, [], rfl, fun pe => ?_⟩
    refine ⟨_, .ow (frz_L (K := G.K)), rfl, rfl, ?_⟩
    exact fin_no hk
  | tuple l =>
    obtain ⟨m, rfl⟩ : ∃ m', m = m' + 1 := by
      cases m with
      | zero => exact hd.elim
      | succ m => exact ⟨m, rfl⟩
    have ih := ihm m rfl
    obtain ⟨hl, hs⟩ := hd
    refine S_cons ?_
    refine S1_if ?_
    refine C_val ?_
    refine E_isi hX rfl B.isi rfl B.bool rfl rfl ?_
    refine E_name (i := 1) hX rfl (.inr (.inl rfl)) rfl ?_
    refine ⟨_, _, _, .im _ _, ty_Ut, rfl, ?_⟩
    refine ⟨_, .im _ _, ?_⟩
    refine ⟨fun hc => (by cases hc), fun _ => S_nil ?_⟩
    refine S_cons ?_
    refine S1_if ?_
    refine C_val ?_
    refine E_isi hX rfl B.isi rfl B.int rfl rfl ?_
    refine E_name (i := 1) hX rfl (.inr (.inl rfl)) rfl ?_
    refine ⟨_, _, _, .im _ _, ty_Ut, rfl, ?_⟩
    refine ⟨_, .im _ _, ?_⟩
    refine ⟨fun hc => (by cases hc), fun _ => S_nil ?_⟩
    refine S_cons ?_
    refine S1_if ?_
    refine C_val ?_
    refine E_isi hX rfl B.isi rfl B.str rfl rfl ?_
    refine E_name (i := 1) hX rfl (.inr (.inl rfl)) rfl ?_
    refine ⟨_, _, _, .im _ _, ty_Ut, rfl, ?_⟩
    refine ⟨_, .im _ _, ?_⟩
    refine ⟨fun hc => (by cases hc), fun _ => S_nil ?_⟩
    refine S_cons ?_
    refine S1_if ?_
    refine C_val ?_
    refine E_isi hX rfl B.isi rfl B.dict rfl rfl ?_
    refine E_name (i := 1) hX rfl (.inr (.inl rfl)) rfl ?_
    refine ⟨_, _, _, .im _ _, ty_Ut, rfl, ?_⟩
    refine ⟨_, .im _ _, ?_⟩
    refine ⟨fun hc => (by cases hc), fun _ => S_nil ?_⟩
    refine S_cons ?_
    refine S1_if ?_
    refine C_or2 ?_
    refine C_val ?_
    refine E_isi hX rfl B.isi rfl B.list rfl rfl ?_
    refine E_name (i := 1) hX rfl (.inr (.inl rfl)) rfl ?_
    refine ⟨_, _, _, .im _ _, ty_Ut, rfl, ?_⟩
    refine ⟨_, .im _ _, ?_⟩
    refine ⟨fun hc => (by cases hc), fun _ => ?_⟩
    refine C_val ?_
    refine E_isi hX rfl B.isi rfl B.tuple rfl rfl ?_
    refine E_name (i := 1) hX rfl (.inr (.inl rfl)) rfl ?_
    refine ⟨_, _, _, .im _ _, ty_Ut, rfl, ?_⟩
    refine ⟨_, .im _ _, ?_⟩
    refine ⟨fun _ => ?_, fun hc => (by cases hc)⟩
    refine S_cons ?_
    refine S1_if ?_
    refine C_or2 ?_
    refine C_neD (A := rB) (B := rB) hX deep_B deep_B ?_
    refine E_isi hX rfl B.isi rfl B.list rfl rfl ?_
    refine E_name (i := 0) hX rfl (.inr (.inl rfl)) rfl ?_
    refine ⟨_, _, _, .im _ _, ty_Ut, rfl, ?_⟩
    refine ⟨_, .im _ _, ?_⟩
    refine E_isi hX rfl B.isi rfl B.list rfl rfl ?_
    refine E_name (i := 1) hX rfl (.inr (.inl rfl)) rfl ?_
    refine ⟨_, _, _, .im _ _, ty_Ut, rfl, ?_⟩
    refine ⟨_, .im _ _, rfl, rfl, ?_⟩
    refine ⟨fun hc => (by cases hc), fun _ => ?_⟩
    refine C_neD (A := rB) (B := rB) hX deep_B deep_B ?_
    refine E_isi hX rfl B.isi rfl B.tuple rfl rfl ?_
    refine E_name (i := 0) hX rfl (.inr (.inl rfl)) rfl ?_
    refine ⟨_, _, _, .im _ _, ty_Ut, rfl, ?_⟩
    refine ⟨_, .im _ _, ?_⟩
    refine E_isi hX rfl B.isi rfl B.tuple rfl rfl ?_
    refine E_name (i := 1) hX rfl (.inr (.inl rfl)) rfl ?_
    refine ⟨_, _, _, .im _ _, ty_Ut, rfl, ?_⟩
    refine ⟨_, .im _ _, rfl, rfl, ?_⟩
    refine ⟨fun hc => (by cases hc), fun _ => S_nil ?_⟩
    refine S_cons ?_
    refine S1_if ?_
    refine C_neI ?_
    refine E_len hX rfl B.len rfl ?_
    refine P_name (i := 0) hX rfl (.inr (.inl rfl)) rfl (by intro z; cases z) ?_
    refine ⟨_, _, rfl, len_UT, ?_⟩
    refine ⟨_, .im _ _, ?_⟩
    refine E_len hX rfl B.len rfl ?_
    refine P_name (i := 1) hX rfl (.inr (.inl rfl)) rfl (by intro z; cases z) ?_
    refine ⟨_, _, rfl, len_UT, ?_⟩
    refine ⟨_, .im _ _, ?_⟩
    refine ⟨fun hc => (by simp at hc), fun _ => S_nil ?_⟩
    refine S_one ?_
    refine S1_ret ?_
    refine E_eqD (A := rL G.K rI) (B := rL G.K rI) hX (deep_L deep_I) (deep_L deep_I) ?_
    refine E_lc (own := [("k", 3)]) rI hX rfl ?_
    refine I_rng1 hX rfl B.range rfl ?_
    refine E_len hX rfl B.len rfl ?_
    refine P_name (i := 1) hX rfl (.inr (.inl rfl)) rfl (by intro z; cases z) ?_
    refine ⟨_, _, rfl, len_UT, ?_⟩
    refine ⟨_, .im _ _, by omega, by omega, ?_⟩
    refine ⟨fun i out τ => out = [] ∧ τ = [.im (rU G.K) (.tuple l), .im (rU G.K) (.tuple l), .no, .no], ⟨rfl, rfl⟩, fun i y hy => ?_, fun out τ hJ p => ?_⟩
    · rintro out τ ⟨ho, hτ⟩ X1 hX1 hf1
      subst hτ
      obtain ⟨hi1, ey⟩ := rngK0_get hy
      subst ey
      have hil : i < l.length := by omega
      have el : l[i]? = some l[i] := List.getElem?_eq_getElem hil
      refine TB_name (i := 3) hX1 rfl rfl (by decide) ?_  -- k
      intro X2 hX2
      refine Cs_one ?_
      refine C_not ?_
      refine C_val ?_
      refine E_call hX2 ih (by omega) rfl rfl ?_
      refine A_cons rfl ?_
      refine P_val ?_
      refine E_ix hX2 (fun _ _ => rfl) ?_
      refine P_name (i := 0) hX2 rfl (.inr (.inl rfl)) rfl (by intro z; cases z) ?_
      refine E_name (i := 3) hX2 rfl (.inl rfl) rfl ?_
      refine ⟨_, .im _ _, _, rfl, _, _, l[i], ix_UT (at_nat el), ?_⟩
      refine ⟨_, _, _, .im _ _, ?_⟩
      refine A_cons rfl ?_
      refine P_val ?_
      refine E_ix hX2 (fun _ _ => rfl) ?_
      refine P_name (i := 1) hX2 rfl (.inr (.inl rfl)) rfl (by intro z; cases z) ?_
      refine E_name (i := 3) hX2 rfl (.inl rfl) rfl ?_
      refine ⟨_, .im _ _, _, rfl, _, _, l[i], ix_UT (at_nat el), ?_⟩
      refine ⟨_, _, _, .im _ _, ?_⟩
      refine A_nil ?_
      refine ⟨[_, _], ⟨rfl, rfl, trivial⟩, trivial, l[i], rfl, hs _ (List.getElem_mem hil), ?_⟩
      refine ⟨_, .im _ _, ?_⟩
      refine ⟨fun h => (by cases h), fun _ => ?_⟩
      exact ⟨ho, rfl⟩
    obtain ⟨ho, hτ⟩ := hJ
    subst hτ ho
    refine ⟨_, .ow (frz_L (K := G.K)), ?_⟩
    refine E_lst rfl (A := rI) ?_
    refine ⟨by simp, [], rfl, fun pe => ?_⟩
    refine ⟨_, .ow (frz_L (K := G.K)), rfl, rfl, ?_⟩
    exact fin_no hk
  | none =>
    refine S_cons ?_
    refine S1_if ?_
    refine C_val ?_
    refine E_isi hX rfl B.isi rfl B.bool rfl rfl ?_
    refine E_name (i := 1) hX rfl (.inr (.inl rfl)) rfl ?_
    refine ⟨_, _, _, .im _ _, ty_Un, rfl, ?_⟩
    refine ⟨_, .im _ _, ?_⟩
    refine ⟨fun hc => (by cases hc), fun _ => S_nil ?_⟩
    refine S_cons ?_
    refine S1_if ?_
    refine C_val ?_
    refine E_isi hX rfl B.isi rfl B.int rfl rfl ?_
    refine E_name (i := 1) hX rfl (.inr (.inl rfl)) rfl ?_
    refine ⟨_, _, _, .im _ _, ty_Un, rfl, ?_⟩
    refine ⟨_, .im _ _, ?_⟩
    refine ⟨fun hc => (by cases hc), fun _ => S_nil ?_⟩
    refine S_cons ?_
    refine S1_if ?_
    refine C_val ?_
    refine E_isi hX rfl B.isi rfl B.str rfl rfl ?_
    refine E_name (i := 1) hX rfl (.inr (.inl rfl)) rfl ?_
    refine ⟨_, _, _, .im _ _, ty_Un, rfl, ?_⟩
    refine ⟨_, .im _ _, ?_⟩
    refine ⟨fun hc => (by cases hc), fun _ => S_nil ?_⟩
    refine S_cons ?_
    refine S1_if ?_
    refine C_val ?_
    refine E_isi hX rfl B.isi rfl B.dict rfl rfl ?_
    refine E_name (i := 1) hX rfl (.inr (.inl rfl)) rfl ?_
    refine ⟨_, _, _, .im _ _, ty_Un, rfl, ?_⟩
    refine ⟨_, .im _ _, ?_⟩
    refine ⟨fun hc => (by cases hc), fun _ => S_nil ?_⟩
    refine S_cons ?_
    refine S1_if ?_
    refine C_or2 ?_
    refine C_val ?_
    refine E_isi hX rfl B.isi rfl B.list rfl rfl ?_
    refine E_name (i := 1) hX rfl (.inr (.inl rfl)) rfl ?_
    refine ⟨_, _, _, .im _ _, ty_Un, rfl, ?_⟩
    refine ⟨_, .im _ _, ?_⟩
    refine ⟨fun hc => (by cases hc), fun _ => ?_⟩
    refine C_val ?_
    refine E_isi hX rfl B.isi rfl B.tuple rfl rfl ?_
    refine E_name (i := 1) hX rfl (.inr (.inl rfl)) rfl ?_
    refine ⟨_, _, _, .im _ _, ty_Un, rfl, ?_⟩
    refine ⟨_, .im _ _, ?_⟩
    refine ⟨fun hc => (by cases hc), fun _ => S_nil ?_⟩
    refine S_one ?_
    refine S1_ret ?_
    refine E_and2 ?_
    refine E_isN ?_
    refine E_name (i := 1) hX rfl (.inr (.inl rfl)) rfl ?_
    refine ⟨_, isn_Un, ?_⟩
    refine ⟨_, .im _ _, fun _ => ?_, fun hc => (by cases hc)⟩
    refine E_isN ?_
    refine E_name (i := 0) hX rfl (.inr (.inl rfl)) rfl ?_
    refine ⟨_, isn_Un, ?_⟩
    exact fin_no hk
  | _ => cases m <;> exact hd.elim
end T
end
section
set_option Elab.async false
set_option linter.all false
set_option maxRecDepth 100000
set_option maxHeartbeats 2000000
namespace T
open PySem PySem.Spec PyProof.Rows L2
/-! ### what never answers: judgements at one frame -/
section
variable {G : Gm} {X : Cx} {N : List Str} {sc : Scope} {n : Nat} {τ τ1 : Tau} {k : KK} {e a b : Expr} {es : List Expr} {pos p : Pos} {F0 R0 : Hp}
def EF (F0 R0 : Hp) (X : Cx) (e : Expr) (τ : Tau) : Prop := ∀ (σ : L2.St) (H R : Hp) (Q : VK), Ok F0 R0 R H σ τ → sem X e σ H Q
def SF (F0 R0 : Hp) (X : Cx) (st : List Stmt) (τ : Tau) : Prop := ∀ (σ : L2.St) (H R : Hp) (D : L2.Ends), Ok F0 R0 R H σ τ → semB X st D σ H
def SF1 (F0 R0 : Hp) (X : Cx) (st : Stmt) (τ : Tau) : Prop := ∀ (σ : L2.St) (H R : Hp) (D : L2.Ends), Ok F0 R0 R H σ τ → semS X st D σ H
theorem EF.of {te : TE} (h : PE X e te) (w : ∀ (σ : L2.St) (H R : Hp) (Q : VK), Ok F0 R0 R H σ τ → te σ H Q) : EF F0 R0 X e τ :=
  fun σ H R Q ok pins s I => h.run pins s σ H Q I (w σ H R Q ok)
theorem SF1.of {t : TS} {st : Stmt} (h : PS X st t) (w : ∀ (σ : L2.St) (H R : Hp) (D : L2.Ends), Ok F0 R0 R H σ τ → t D σ H) : SF1 F0 R0 X st τ :=
  fun σ H R D ok pins s I => h.run pins s σ H D I (w σ H R D ok)
theorem SF.of {t : TS} {st : List Stmt} (h : PSs X st t) (w : ∀ (σ : L2.St) (H R : Hp) (D : L2.Ends), Ok F0 R0 R H σ τ → t D σ H) : SF F0 R0 X st τ :=
  fun σ H R D ok pins s I => h.run pins s σ H D I (w σ H R D ok)
/-- a plain statement, then what never answers -/
theorem SF_then {st : Stmt} {sts : List Stmt} (J : Tau → Prop) (h1 : S1 X st τ { nx := J, rt := fun _ _ => False }) (h2 : ∀ τ', J τ' → SF F0 R0 X sts τ') : SF F0 R0 X (st :: sts) τ :=
  SF.of (pss_cons ps_sem pss_sem) fun σ H R D ok => h1 σ H F0 R0 R _ ok ⟨fun τ' σ' R' H' hj l ok' => h2 τ' hj σ' H' R' D ok', fun _ _ _ _ _ _ z => z.elim, fun _ _ _ _ z => z.elim, fun _ _ _ _ z => z.elim⟩
/-- the first statement never answers -/
theorem SF_first {st : Stmt} {sts : List Stmt} (h : SF1 F0 R0 X st τ) : SF F0 R0 X (st :: sts) τ :=
  SF.of (pss_cons ps_sem pss_sem) fun σ H R D ok => h σ H R _ ok
theorem SF1_ret (h : EF F0 R0 X e τ) : SF1 F0 R0 X (.Return (some e) pos) τ := SF1.of (ps_ret pe_sem) fun σ H R D ok => h σ H R _ ok
theorem SF1_set {i : Nat} {x : Str} {pos' : Pos} (hX : XF G X N sc n) (hN : N[i]? = some x) (hl : sc.names.lookup x = some .local) (h : EF F0 R0 X e τ) (hs : swapsWith e (some (.Name x pos')) pos.line (envS sc) = pure false := by rfl) :
    SF1 F0 R0 X (.Assign [.Name x pos'] e pos) τ :=
  SF1.of (ps_set (i := i) (by rw [hX.eN]; exact hX.nd) (by rw [hX.eN]; exact hN) (hX.loc (.inl hl)) pe_sem ((sww_env (by rw [hX.es]; rfl)).trans hs) (.inr (by rw [hX.es]; exact hl))) fun σ H R D ok => h σ H R _ ok
/-- a test that holds, and a body that never answers -/
theorem SF1_if {c : Expr} {body els : List Stmt} (J : Tau → Prop) (h : C X c τ fun d τ1 => d = true ∧ J τ1) (h2 : ∀ τ', J τ' → SF F0 R0 X body τ') : SF1 F0 R0 X (.If c body els pos) τ :=
  SF1.of (ps_if pt_sem pss_sem pss_sem) fun σ H R D ok => h σ H F0 R0 R _ ok fun d τ1 R1 H1 ⟨h1, hj⟩ l1 ok1 => by
    subst h1
    exact iteT (h2 τ1 hj σ H1 R1 D ok1)
/-! ### defs that raise -/
/-- an error of the class at C whose own dict holds field = what -/
def errAt (fld what : Str) (H : Hp) (d : Addr) : Prop := H d = some (.xd [(fld, .str what)])
def spX (C : Addr) (fld what : Str) (D : List Kd → Prop) : L2.Sp := fun vs H _ Q => ∃ (F R0 R : Hp) (ks : List Kd), Ok F R0 R H (vs.map some) ks ∧ NoOw ks ∧ D ks ∧
  ∀ R' H' d, Ok F R0 R' H' (vs.map some) (ks.map fun _ => .no) → errAt fld what H' d → Q (.ref C) (some d) H'
structure FnX (G : Gm) (C : Addr) (fld what : Str) (x : Str) (m : Nat) (D : List Kd → Prop) : Prop where
  ex : ∃ (f : Addr) (fd : FuncData) (ps : List Str), G.mg x = some (.ref f) ∧ PySem.W.keepIn G.K (.ref f) = true ∧ Binds G.K fd ps [] ∧ FnOk G.P G.w G.K G.mg G.base (L2.CX G.P G.w) m f fd ps (spX C fld what D)
/-- f(e, ..) that raises: what X takes must take it -/
theorem EF_call {C : Addr} {fld what x : Str} {m : Nat} {D : List Kd → Prop} {W : WX} (hX : XF G X N sc n) (f : FnX G C fld what x m D) (hm : m ≤ n) (hg : sc.names.lookup x = some .globalImplicit) (hs : noStar (e :: es) = true) (tk : Takes X W)
    (h : A X (e :: es) τ fun ps τ1 => ∃ ks, KsOf τ1 ps ks ∧ OneOw ks ∧ NoOw ks ∧ D ks ∧ ∀ σ R' H' d, Ok F0 R0 R' H' σ τ1 → errAt fld what H' d → W (.ref C) (some d) σ H') (hdb : (x == ("__debug__" : Str)) = false := by decide) (hpl : (backTo pos (starEach es X.env)).any (·.1) = false := by rfl) :
    EF F0 R0 X (.Call (.Name x p) (e :: es) [] pos) τ := by
  obtain ⟨f, fd, pr, h1, h2, h3, h4⟩ := f.ex
  have h4' : FnOk X.prog X.w X.K X.mg X.base (L2.CX X.prog X.w) m f fd pr (spX C fld what D) := by rw [hX.ep, hX.ew, hX.eK, hX.emg, hX.eb]; exact h4
  refine EF.of (pe_callS h4' (hX.room.mono hm) (hX.gl hg) (hX.mgN h1) (by rw [hX.eK]; exact h2) (by rw [hX.eK]; exact h3) (fun σ => passAt tk σ) pa_sem hdb (star_of hs _ _ (List.suffix_refl _)) hpl) ?_
  intro σ H R Q ok
  refine h σ H F0 R0 R _ ok fun ps τ1 vs R1 H1 ⟨ks, hk, h1, hno, hd, hw⟩ l1 ok1 a1 => ?_
  refine ⟨keepOf H1 ks, R1, R1, ks, ok1.enter a1 hk h1, hno, hd, fun R2 H2 d ok2 he => ?_⟩
  obtain ⟨ok3, _⟩ := ok1.leave a1 hk h1 ok2.r0 ok2
  rw [updArgs_no _ _ _ hno] at ok3
  exact hw σ R2 H2 d ok3 he
/-- THE RULE for a def that surely raises -/
theorem FnX.of {C : Addr} {fld what x qual : Str} {st : Stmt} {f : Addr} {fd : FuncData} {ps : List Str} {m : Nat} {D : List Kd → Prop} (F : Fun G.K x qual st f fd) (hf : G.mg x = some (.ref f)) (b : Binds G.K fd ps []) (S0 : FnScope N ps (defScope st)) (len : ∀ ks, D ks → ks.length = ps.length)
    (body : ∀ (X : Cx) (F0 R0 : Hp) (W : WX), XF G X N (defScope st) m → (∀ x, X.fn x = true) → PassesOwn (model X.prog X.w) X.A X.env X.xe → Takes X W → ∀ ks, NoOw ks → D ks → (∀ σ R' H' d τ', Ok F0 R0 R' H' σ τ' → errAt fld what H' d → W (.ref C) (some d) σ H') →
      SF F0 R0 X (defBody st) (tau0 N ks)) : FnX G C fld what x (m + 1) D := by
  refine ⟨⟨f, fd, ps, hf, F.kp, b, F.okX S0 (fun vs H Q E h => ?_) fun cdv A outer s H vs Q E hr h => ?_⟩⟩
  · obtain ⟨F0, R0, R, ks, ok, _, hC, _⟩ := h
    have := ok.len
    rw [List.length_map] at this
    rw [this, len ks hC]
  · obtain ⟨F0, R0, R, ks, ok, hno, hC, hq⟩ := h
    refine ⟨_, pss_sem, ?_⟩
    have hX : XF G (cxOf (L2.CX G.P G.w) G.P G.w G.K G.mg G.base N qual (defScope st) f cdv A outer s H E) N (defScope st) m := ⟨rfl, rfl, rfl, rfl, rfl, rfl, rfl, rfl, hr, S0.nd⟩
    refine body _ F0 R0 (fun cls d _ H' => E cls d H') hX (fun _ => rfl) (passes_of rfl) (takes_of rfl rfl rfl rfl) ks hno hC (fun σ' R' H' d τ' ok' he => ?_) (L2.start N vs) H R _ (ok.start N)
    refine hq R' H' d (ok.finish ok' (by rw [List.length_map]) fun i y' e => .inl ?_) he
    rw [List.getElem?_map] at e
    cases hk : ks[i]? with
    | none => rw [hk] at e; cases e
    | some z => rw [hk] at e; exact (Option.some.inj e).symm
/-- a plain def's call whose first argument never answers -/
theorem EF_arg1 {x : Str} {m : Nat} {C : Ct} (hX : XF G X N sc n) (f : Fn G x m C) (hm : m ≤ n) (hg : sc.names.lookup x = some .globalImplicit) (hs : noStar (e :: es) = true) (h : EF F0 R0 X e τ)
    (hdb : (x == ("__debug__" : Str)) = false := by decide) (hpl : (backTo pos (starEach es X.env)).any (·.1) = false := by rfl) : EF F0 R0 X (.Call (.Name x p) (e :: es) [] pos) τ := by
  obtain ⟨f, fd, pr, h1, h2, h3, h4, _⟩ := f.ex
  have h4' : FnOk X.prog X.w X.K X.mg X.base CX0 m f fd pr (spOf C) := by rw [hX.ep, hX.ew, hX.eK, hX.emg, hX.eb]; exact h4
  exact EF.of (pe_call (E := E0) h4' (hX.room.mono hm) (hX.gl hg) (hX.mgN h1) (by rw [hX.eK]; exact h2) (by rw [hX.eK]; exact h3) .nil pass0 (pa_cons pe_sem pa_sem (star_of hs _ _ (List.suffix_refl _))) hdb (star_of hs _ _ (List.suffix_refl _)) hpl) fun σ H R Q ok => h σ H R _ ok
theorem EF_ix (hs : PlainIx b) (h : EF F0 R0 X a τ) : EF F0 R0 X (.Subscript a b pos) τ :=
  EF.of (pe_ix ix_seq pe_sem pe_sem hs) fun σ H R Q ok => h σ H R _ ok
/-- a loop that at some turn never answers -/
theorem SF1_for {tg iter : Expr} {body : List Stmt} (hX : XF G X N sc n) (hp : PassesOwn (model X.prog X.w) X.A X.env X.xe)
    (h : It X tg iter τ fun ys τ1 => ∃ I : Nat → Tau → Prop, I 0 τ1 ∧ (∀ (i : Nat) y τ', ys[i]? = some y → I i τ' → Tg X tg y τ' fun τ2 => S X body τ2 { nx := I (i + 1), rt := fun _ _ => False } ∨ SF F0 R0 X body τ2) ∧ ∀ τ', I ys.length τ' → False)
    (hs : ∀ x, foldedSetIterable iter X.env x = pure x := by intro _; rfl) : SF1 F0 R0 X (.For tg iter body [] pos) τ :=
  SF1.of (ps_for hp hX.calm pi_sem pg_sem pss_sem hs) fun σ0 H0 R D ok => h σ0 H0 F0 R0 R _ ok fun J ys τ1 R1 H1 ⟨I, h0, hs', hd⟩ l01 ok1 hJ => by
    refine ⟨fun i m σ H => m = ys.length - i ∧ i ≤ ys.length ∧ ∃ τ' R', I i τ' ∧ Le R1 R' ∧ Ok F0 R0 R' H σ τ', ⟨ys.length, by simp, Nat.zero_le _, τ1, R1, h0, Le.refl R1, ok1⟩, ?_⟩
    rintro i m σ H ⟨rfl, hi, τ', R', hI, l1, ok⟩
    by_cases hlt : i < ys.length
    · refine .inr ⟨hJ.go F0 R' H i (Le.refl F0) ok.fr l1 ok.le hlt, fun σ2 H2 => i + 1 ≤ ys.length ∧ ∃ τ2 R2, I (i + 1) τ2 ∧ Le R1 R2 ∧ Ok F0 R0 R2 H2 σ2 τ2, fun σ2 H2 ⟨h1, h2⟩ => ⟨ys.length - (i + 1), by omega, rfl, h1, h2⟩, fun x H2 hy => ?_⟩
      obtain ⟨R2, l2, ok2, im, rel⟩ := hJ.yld F0 R0 R' H σ τ' i _ x H2 (Le.refl F0) ok l1 (List.getElem?_eq_getElem hlt) hy
      have wv : VOk F0 R2 H2 τ' x ys[i] := ⟨rel, fun p o => by
        cases hk : ys[i] with
        | no => rw [hk] at im; exact im.elim
        | im => rw [hk] at o; exact o.elim
        | ow => rw [hk] at im; exact im.elim⟩
      refine hs' i _ τ' (List.getElem?_eq_getElem hlt) hI σ H2 F0 R0 R2 x _ ok2 wv fun τ3 σ3 R3 H3 hb l3 ok3 => ?_
      have l13 := (l1.trans l2).trans l3
      rcases hb with hb | hb
      · refine hb σ3 H3 F0 R0 R3 _ ok3 ⟨?_, ?_, ?_, ?_⟩
        · intro τ4 σ4 R4 H4 h4 l4 ok4
          exact ⟨hlt, τ4, R4, h4, l13.trans l4, ok4⟩
        · intro x τ4 v σ4 R4 H4 h4 l4 ok4 w4
          exact h4.elim
        · intro τ4 σ4 R4 H4 h4 l4 ok4
          exact h4.elim
        · intro τ4 σ4 R4 H4 h4 l4 ok4
          exact h4.elim
      · exact hb σ3 H3 R3 _ ok3
    · have e : i = ys.length := by omega
      subst e
      exact (hd τ' hI).elim
end
end T
end
section
set_option Elab.async false
set_option linter.all false
set_option maxRecDepth 100000
set_option maxHeartbeats 2000000
namespace T
open PySem PySem.Spec PyProof.Rows L2
/-! ### Unlike -/
def clsBody : Stmt → List Stmt
  | .ClassDef (body := b) .. => b
  | _ => []
def stInit : Stmt := (clsBody (top 2)).getD 0 (.Pass ⟨0, 0, 0, 0⟩)
theorem scI : FnScope ["self", "what"] ["self", "what"] (defScope stInit) := ⟨rfl, rfl, rfl, by decide +kernel, rfl, by decide +kernel, by decide +kernel⟩
/-- what the written part says of Unlike, at C, its __init__ at fI -/
structure UTxt (G : Gm) (C fI : Addr) : Prop where
  gC : G.mg "Unlike" = some (.ref C)
  oex : OexC G.K C
  noW : PySem.W.findIn G.K (.ref C) "what" = some none
  iC : PySem.W.findIn G.K (.ref C) "__init__" = some (some (.ref fI))
  tI : PySem.W.typeIn G.K (.ref fI) = some (.type "function")
  fn : ∃ fd, Fun G.K "__init__" "Unlike.__init__" stInit fI fd ∧ Binds G.K fd ["self", "what"] []
def spInit (K : PySem.W.Frag) (C : Addr) : L2.Sp := fun vs H Q _ => ∃ (a : Addr) (y : V), vs = [.ref a, y] ∧ H a = some (exo a C none) ∧
  ∀ dx, H dx = none → dx ≠ a → Q .non (upd (upd H dx (exd dx [(("what" : Str), y)])) a (exo a C (some dx)))
theorem ok_init {G : Gm} {C fI : Addr} (T : UTxt G C fI) : ∃ fd, Binds G.K fd ["self", "what"] [] ∧ FnOk G.P G.w G.K G.mg G.base CX0 1 fI fd ["self", "what"] (spInit G.K C) := by
  obtain ⟨fd, F, b⟩ := T.fn
  refine ⟨fd, b, F.ok scI (fun vs H Q E h => ?_) fun cdv A outer s H vs Q E hr h => ?_⟩
  · obtain ⟨a, y, e, _⟩ := h
    rw [e]; rfl
  · obtain ⟨a, y, e, ha, hq⟩ := h
    subst e
    refine ⟨_, pss_one (ps_ost (pv 0) (pv 1)), ?_⟩
    refine ⟨_, rfl, _, rfl, a, C, rfl, T.oex, T.noW, .inl ⟨ha, hq⟩⟩
/-- raise Unlike(e) -/
theorem SF1_raise {G : Gm} {X : Cx} {N : List Str} {sc : Scope} {n : Nat} {τ : Tau} {F0 R0 : Hp} {C fI : Addr} {W : WX} {e : Expr} {p pos pos2 : Pos} {what : Str} (hX : XF G X N sc n) (T : UTxt G C fI) (hn : 2 ≤ n) (hc : X.calm = true) (tk : Takes X W)
    (hg : sc.names.lookup ("Unlike" : Str) = some .globalImplicit) (hs : noStar [e] = true)
    (h : E X e τ fun x τ1 => Fz x (.im rS what) ∧ ∀ σ R' H' d, Ok F0 R0 R' H' σ τ1 → errAt "what" what H' d → W (.ref C) (some d) σ H') : SF1 F0 R0 X (.Raise (some (.Call (.Name "Unlike" p) [e] [] pos)) none pos2) τ := by
  obtain ⟨fd, b, ok⟩ := ok_init T
  have ok' : FnOk X.prog X.w X.K X.mg X.base CX0 1 fI fd ["self", "what"] (spInit G.K C) := by rw [hX.ep, hX.ew, hX.eK, hX.emg, hX.eb]; exact ok
  refine SF1.of (ps_raise hc tk (pmk_oex (k := 1) (by rw [hX.eK]; exact T.oex) (by rw [hX.eK]; exact T.iC) (by rw [hX.eK]; exact T.tI) ok' (hX.room.mono hn) (by rw [hX.eK]; exact b) .nil pass0 (hX.gl hg) (by rw [hX.emg]; exact T.gC) (pa1 hs) (by decide) (star_of hs _ _ (List.suffix_refl _)) (by rfl))) ?_
  intro σ H R D okk
  refine h σ H F0 R0 R _ okk fun x τ1 v R1 H1 ⟨fz, hw⟩ l1 ok1 w1 => ?_
  obtain ⟨R2, l2, ok2, r⟩ := fz_rel ok1 w1 fz
  cases r
  refine ⟨by simp, fun a ha => ⟨a, .str what, rfl, upd_same, fun dx h1 h2 => ?_⟩⟩
  have hdx : H1 dx = none := by rwa [upd_ne h2] at h1
  refine ⟨rfl, dx, [(("what" : Str), .str what)], upd_same, by rw [upd_ne h2, upd_same], hdx, ?_⟩
  have e : upd (del (upd (upd (upd H1 a (exo a C none)) dx (exd dx [(("what" : Str), V.str what)])) a (exo a C (some dx))) a) dx (.xd [(("what" : Str), V.str what)]) = upd H1 dx (.xd [(("what" : Str), V.str what)]) := by
    funext b
    by_cases h3 : b = dx
    · subst h3; rw [upd_same, upd_same]
    · rw [upd_ne h3, upd_ne h3]
      by_cases h4 : b = a
      · subst h4; rw [del_same, ha]
      · rw [del_ne h4, upd_ne h4, upd_ne h3, upd_ne h4]
  rw [e]
  exact hw σ R2 _ dx (ok2.new hdx) upd_same
end T
end
section
set_option Elab.async false
set_option linter.all false
set_option maxRecDepth 100000
set_option maxHeartbeats 2000000
namespace T
open PySem PySem.Spec PyProof.Rows L2
/-! ### faulty rows -/
def dMadeRows (K : PySem.W.Frag) : List Kd → Prop := fun ks => ∃ (m : Mat) (w : Nat), ks = [.im (rMat K) m, .im rI (w : Int)] ∧ ∃ l ∈ m, l.length ≠ w
theorem f15X {G : Gm} {C fI f : Addr} {fd : FuncData} (U : UTxt G C fI) (F : Fun G.K "made_rows" "made_rows" (top 16) f fd) (hf : G.mg "made_rows" = some (.ref f)) (b : Binds G.K fd ["rows", "width"] [])
    (B : Bi G) : FnX G C "what" "width" "made_rows" 5 (dMadeRows G.K) := by
  refine FnX.of F hf b sc15 (fun ks ⟨m, w, h, _⟩ => by rw [h]; rfl) fun X F0 R0 W hX hfn hp tk ks hno ⟨m, w, hks, l0, hl0, hne⟩ hw => ?_
  subst hks
  refine SF_first ?_
  refine SF1_for hX hp ?_
  refine I_list hX ?_
  refine E_name (i := 0) hX rfl (.inl rfl) rfl ?_  -- rows
  refine ⟨_, _, _, .im _ _, ?_⟩
  refine ⟨fun i τ => (∀ j l, j < i → m[j]? = some l → l.length = w) ∧ ∃ x2, τ = [.im (rMat G.K) m, .im rI (w : Int), x2], ⟨fun j l h => by omega, _, rfl⟩, fun i y τ hy hI => ?_, fun τ hI => ?_⟩
  · obtain ⟨hpr, x2, hτ⟩ := hI
    subst hτ
    rw [List.getElem?_map] at hy
    cases hl : m[i]? with
    | none => rw [hl] at hy; cases hy
    | some l =>
    rw [hl] at hy
    cases hy
    refine T_name (i := 2) hX rfl rfl ?_  -- row
    by_cases hlw : l.length = w
    · refine .inl ?_
      refine S_one ?_
      refine S1_if ?_
      refine C_neI ?_
      refine E_len hX rfl B.len rfl ?_
      refine P_name (i := 2) hX rfl (.inl rfl) rfl (by intro z; cases z) ?_  -- row
      refine ⟨_, _, rfl, len_LT, ?_⟩
      refine ⟨_, .im _ _, ?_⟩
      refine E_name (i := 1) hX rfl (.inl rfl) rfl ?_  -- width
      refine ⟨_, .im _ _, ?_⟩
      refine ⟨fun hc => ?_, fun hc => ?_⟩
      · rw [hlw] at hc; simp at hc
      · refine S_nil ?_
        refine ⟨fun j l' hj hl' => ?_, _, rfl⟩
        by_cases e : j = i
        · subst e; rw [hl] at hl'; cases hl'; exact hlw
        · exact hpr j l' (by omega) hl'
    · refine .inr ?_
      refine SF_first ?_
      refine SF1_if (fun τ => τ = [.im (rMat G.K) m, .im rI (w : Int), .im (rLT G.K (rGiv G.K)) l]) ?_ fun τ hτ => ?_
      · refine C_neI ?_
        refine E_len hX rfl B.len rfl ?_
        refine P_name (i := 2) hX rfl (.inl rfl) rfl (by intro z; cases z) ?_  -- row
        refine ⟨_, _, rfl, len_LT, ?_⟩
        refine ⟨_, .im _ _, ?_⟩
        refine E_name (i := 1) hX rfl (.inl rfl) rfl ?_  -- width
        refine ⟨_, .im _ _, ?_⟩
        refine ⟨by simp; omega, rfl⟩
      · subst hτ
        refine SF_first ?_
        refine SF1_raise (what := "width") hX U (by omega) hX.calm tk rfl rfl ?_
        refine E_str ?_
        exact ⟨.im _ _, fun σ R' H' d ok' he => hw σ R' H' d _ ok' he⟩
  · obtain ⟨hpr, _⟩ := hI
    obtain ⟨j, hj⟩ := List.mem_iff_getElem?.mp hl0
    have := (List.getElem?_eq_some_iff.mp hj).1
    exact hne (hpr j l0 (by rw [List.length_map]; exact this) hj)
end T
end
section
set_option Elab.async false
set_option linter.all false
set_option maxRecDepth 100000
set_option maxHeartbeats 2000000
namespace T
open PySem PySem.Spec PyProof.Rows L2
/-- a matrix with rows of unlike lengths -/
def BadM (m : Mat) : Prop := ∃ l ∈ m, l.length ≠ widthOf m
def dMat (K : PySem.W.Frag) : List Kd → Prop := fun ks => ∃ m : Mat, ks = [.im (rMat K) m] ∧ BadM m
theorem f16X {G : Gm} {C fI f : Addr} {fd : FuncData} (F : Fun G.K "made_matrix" "made_matrix" (top 17) f fd) (hf : G.mg "made_matrix" = some (.ref f)) (b : Binds G.K fd ["rows"] [])
    (B : Bi G) (h1 : FnX G C "what" "width" "made_rows" 5 (dMadeRows G.K)) (h2 : Fn G "width_of" 1 (cWidth G.K)) : FnX G C "what" "width" "made_matrix" 6 (dMat G.K) := by
  refine FnX.of F hf b sc16 (fun ks ⟨m, h, _⟩ => by rw [h]; rfl) fun X F0 R0 W hX hfn hp tk ks hno ⟨m, hks, hm⟩ hw => ?_
  subst hks
  refine SF_first ?_
  refine SF1_ret ?_
  refine EF_call hX h1 (by omega) rfl rfl tk ?_
  refine A_cons rfl ?_
  refine P_name (i := 0) hX rfl (.inl rfl) rfl (by intro z; cases z) ?_  -- rows
  refine A_cons rfl ?_
  refine P_val ?_
  refine E_call hX h2 (by omega) rfl rfl ?_
  refine A_cons rfl ?_
  refine P_name (i := 0) hX rfl (.inl rfl) rfl (by intro z; cases z) ?_  -- rows
  refine A_nil ?_
  refine ⟨[_], ⟨rfl, trivial⟩, trivial, m, rfl, ?_⟩
  refine ⟨_, _, _, .im _ _, ?_⟩
  refine A_nil ?_
  exact ⟨[_, _], ⟨rfl, rfl, trivial⟩, trivial, trivial, ⟨m, widthOf m, rfl, hm⟩, fun σ R' H' d ok' he => hw σ R' H' d _ ok' he⟩
theorem EF_len {G : Gm} {X : Cx} {N : List Str} {sc : Scope} {n : Nat} {τ : Tau} {F0 R0 : Hp} {e : Expr} {p pos : Pos} (hX : XF G X N sc n) (hg : sc.names.lookup ("len" : Str) = some .globalImplicit) (hm : G.mg ("len" : Str) = none) (hs : noStar [e] = true)
    (h : EF F0 R0 X e τ) : EF F0 R0 X (.Call (.Name "len" p) [e] [] pos) τ :=
  EF.of (pe_callB (call_len.or call_lenR) (hX.gl hg) (hX.mgN hm) boot_lenB (pa1 hs) (he := star_of hs _ _ (List.suffix_refl _))) fun σ H R Q ok => h σ H R _ ok
def dWithin (K : PySem.W.Frag) : List Kd → Prop := fun ks => ∃ (m : Mat) (r : List Giv) (w : Nat) (b : Nat × Nat), ks = [.im (rMat K) m, .im (rLT K (rGiv K)) r] ∧ GivOk (widthOf m) m ∧ QOk w b (qmat m) ∧ m ≠ [] ∧ r.length ≠ widthOf m
end T
end
section
set_option Elab.async false
set_option linter.all false
set_option maxRecDepth 100000
set_option maxHeartbeats 2000000
namespace T
open PySem PySem.Spec PyProof.Rows L2
/-! ### the law's own body: a table of code objects stands beside, in what must stay -/
theorem Ok.re {F R0 R H : Hp} {σ : L2.St} {τ : Tau} (ok : Ok F R0 R H σ τ) : Ok F R R H σ τ := ⟨ok.len, ok.fr, ok.le, Le.refl R, fun _ h _ => h, ok.sl, ok.ff, ok.inj, ok.nt⟩
structure EndL (P : Addr) (q : Str) (R : Hp) (D : L2.Ends) (O : Po) : Prop where
  nx : ∀ τ σ T R' H, O.nx τ → Le R R' → Ok T R' R' H σ τ → LamX.TabS T P q → D.nx σ H
  rt : ∀ x τ v σ T R' H, O.rt x τ → Le R R' → Ok T R' R' H σ τ → VOk T R' H τ v x → D.rt v H
  bk : ∀ τ σ T R' H, O.bk τ → Le R R' → Ok T R' R' H σ τ → LamX.TabS T P q → D.bk σ H
  ct : ∀ τ σ T R' H, O.ct τ → Le R R' → Ok T R' R' H σ τ → LamX.TabS T P q → D.ct σ H
section
variable {G : Gm} {X : Cx} {N : List Str} {sc : Scope} {n : Nat} {τ τ1 : Tau} {k : KK} {e a b : Expr} {es : List Expr} {pos p : Pos} {P : Addr} {q : Str} {O : Po}
theorem EndL.up {R R1 : Hp} {D : L2.Ends} (h : EndL P q R D O) (l : Le R R1) : EndL P q R1 D O :=
  ⟨fun τ σ T R' H a b => h.nx τ σ T R' H a (l.trans b), fun x τ v σ T R' H a b => h.rt x τ v σ T R' H a (l.trans b), fun τ σ T R' H a b => h.bk τ σ T R' H a (l.trans b), fun τ σ T R' H a b => h.ct τ σ T R' H a (l.trans b)⟩
def SL (P : Addr) (q : Str) (X : Cx) (st : List Stmt) (τ : Tau) (O : Po) : Prop := ∀ (σ : L2.St) (H R T : Hp) (D : L2.Ends), Ok T R R H σ τ → LamX.TabS T P q → EndL P q R D O → semB X st D σ H
def SL1 (P : Addr) (q : Str) (X : Cx) (st : Stmt) (τ : Tau) (O : Po) : Prop := ∀ (σ : L2.St) (H R T : Hp) (D : L2.Ends), Ok T R R H σ τ → LamX.TabS T P q → EndL P q R D O → semS X st D σ H
/-- a plain statement; plain ones to the end -/
theorem SL1_of {st : Stmt} (h : S1 X st τ O) : SL1 P q X st τ O := fun σ H R T D ok tb en =>
  h σ H T R R D ok ⟨fun τ' σ' R' H' hn l ok' => en.nx τ' σ' T R' H' hn l ok'.re tb, fun x τ' v σ' R' H' hn l ok' w => en.rt x τ' v σ' T R' H' hn l ok'.re w,
    fun τ' σ' R' H' hn l ok' => en.bk τ' σ' T R' H' hn l ok'.re tb, fun τ' σ' R' H' hn l ok' => en.ct τ' σ' T R' H' hn l ok'.re tb⟩
theorem SL_of {st : List Stmt} (h : S X st τ O) : SL P q X st τ O := fun σ H R T D ok tb en =>
  h σ H T R R D ok ⟨fun τ' σ' R' H' hn l ok' => en.nx τ' σ' T R' H' hn l ok'.re tb, fun x τ' v σ' R' H' hn l ok' w => en.rt x τ' v σ' T R' H' hn l ok'.re w,
    fun τ' σ' R' H' hn l ok' => en.bk τ' σ' T R' H' hn l ok'.re tb, fun τ' σ' R' H' hn l ok' => en.ct τ' σ' T R' H' hn l ok'.re tb⟩
theorem SL_cons {st : Stmt} {sts : List Stmt} (J : Tau → Prop) (h1 : SL1 P q X st τ { O with nx := J }) (h2 : ∀ τ', J τ' → SL P q X sts τ' O) : SL P q X (st :: sts) τ O :=
  fun σ H R T D ok tb en pins s I => (pss_cons ps_sem pss_sem).run pins s σ H D I (h1 σ H R T _ ok tb ⟨fun τ' σ' T' R' H' hj l ok' tb' => h2 τ' hj σ' H' R' T' D ok' tb' (en.up l), en.rt, en.bk, en.ct⟩)
theorem SL_one {st : Stmt} (h1 : SL1 P q X st τ O) : SL P q X [st] τ O :=
  fun σ H R T D ok tb en pins s I => (pss_one ps_sem).run pins s σ H D I (h1 σ H R T _ ok tb en)
/-- for tg in range(c), c at hand -/
theorem SL1_for {tg : Expr} {body : List Stmt} {c : Nat} {j : Nat} {cp rp : Pos} (hX : XF G X N sc n) (hp : PassesOwn (model X.prog X.w) X.A X.env X.xe) (hg : sc.names.lookup ("range" : Str) = some .globalImplicit) (hm : G.mg ("range" : Str) = none)
    (I : Nat → Tau → Prop) (h0 : I 0 τ) (h : ∀ (i : Nat) τ', i < c → I i τ' → Tg X tg (.im rI (i : Int)) τ' fun τ2 => SL P q X body τ2 { nx := I (i + 1), rt := O.rt }) (hd : ∀ τ', I c τ' → O.nx τ') (hc : c < 2 ^ 62) :
    SL1 P q X (.For tg (.Call (.Name "range" rp) [.Constant (.int (c : Int)) j cp] [] p) body [] pos) τ O := by
  intro σ0 H0 R T D ok tb en pins s I0
  refine (ps_for hp hX.calm (pi_range1 (hX.gl hg) (hX.mgN hm) (pa_cons pe_int pa_nil rfl) rfl) (pg_sem (X := X) (tg := tg)) (pss_sem (st := body)) (by intro _; rfl)).run pins s σ0 H0 D I0 ⟨(c : Int), rfl, by omega, by omega, ?_⟩
  rw [Int.toNat_natCast]
  have hJ : ItOk (Itr 0 c) (fun _ => none) R (rngK 0 c) := itOk_rng
  have hlen : (rngK 0 c).length = c := by simp [rngK]
  refine ⟨fun i m σ H => m = c - i ∧ i ≤ c ∧ ∃ τ' R' T', I i τ' ∧ Le R R' ∧ Ok T' R' R' H σ τ' ∧ LamX.TabS T' P q, ⟨c, by simp, Nat.zero_le _, τ, R, T, h0, Le.refl R, ok, tb⟩, ?_⟩
  rintro i m σ H ⟨rfl, hi, τ', R', T', hI, l1, ok1, tb1⟩
  by_cases hlt : i < c
  · refine .inr ⟨hlt, fun σ2 H2 => i + 1 ≤ c ∧ ∃ τ2 R2 T2, I (i + 1) τ2 ∧ Le R R2 ∧ Ok T2 R2 R2 H2 σ2 τ2 ∧ LamX.TabS T2 P q, fun σ2 H2 ⟨h1, h2⟩ => ⟨c - (i + 1), by omega, rfl, h1, h2⟩, fun x H2 hy => ?_⟩
    obtain ⟨e1, e2⟩ := hy
    subst e1; subst e2
    have wv : VOk T' R' H2 τ' (.int (0 + (i : Int))) (.im rI (i : Int)) := VOk.im (by show V.int _ = V.int _; rw [Int.zero_add])
    refine h i τ' hlt hI σ H2 T' R' R' _ _ ok1 wv fun τ3 σ3 R3 H3 hb l3 ok3 => ?_
    refine hb σ3 H3 R3 T' _ ok3.re tb1 ⟨?_, ?_, fun _ _ _ _ _ z => z.elim, fun _ _ _ _ _ z => z.elim⟩
    · intro τ4 σ4 T4 R4 H4 h4 l4 ok4 tb4
      exact ⟨hlt, τ4, R4, T4, h4, (l1.trans l3).trans l4, ok4, tb4⟩
    · intro x τ4 v σ4 T4 R4 H4 h4 l4 ok4 w4
      exact en.rt x τ4 v σ4 T4 R4 H4 h4 ((l1.trans l3).trans l4) ok4 w4
  · have e : i = c := by omega
    subst e
    exact .inl ⟨Nat.le_refl _, en.nx τ' σ T' R' H (hd τ' hI) l1 ok1 tb1⟩
end
end T
end
section
set_option Elab.async false
set_option linter.all false
set_option maxRecDepth 100000
set_option maxHeartbeats 2000000
namespace T
open PySem PySem.Spec PyProof.Rows L2
section
variable {G : Gm} {X : Cx} {N : List Str} {sc : Scope} {n : Nat} {τ τ1 : Tau} {k : KK} {e a b : Expr} {es : List Expr} {pos p : Pos} {P : Addr} {q : Str} {O : Po}
/-- expressions that may write the table -/
def EL (P : Addr) (q : Str) (X : Cx) (e : Expr) (τ : Tau) (k : KK) : Prop := ∀ (σ : L2.St) (H R T : Hp) (Q : VK), Ok T R R H σ τ → LamX.TabS T P q →
  (∀ x τ' v T' R' H', k x τ' → Le R R' → Ok T' R' R' H' σ τ' → LamX.TabS T' P q → VOk T' R' H' τ' v x → Q v H') → sem X e σ H Q
/-- x = [e] -/
theorem SL1_setLst {α : Type} {A : DR α} {i : Nat} {x : Str} {pos' lp : Pos} (hX : XF G X N sc n) (hN : N[i]? = some x) (hl : sc.names.lookup x = some .local) (hs : noStar [e] = true)
    (h : EL P q X e τ fun y τ1 => ∃ a, Fz y (.im A a) ∧ ∀ p, O.nx (τ1.set i (.ow p (cL A) [a]))) (hsw : swapsWith (.List [e] lp) (some (.Name x pos')) pos.line (envS sc) = pure false := by rfl) :
    SL1 P q X (.Assign [.Name x pos'] (.List [e] lp) pos) τ O := by
  intro σ H R T D ok tb en pins s I0
  refine (ps_set (i := i) (by rw [hX.eN]; exact hX.nd) (by rw [hX.eN]; exact hN) (hX.loc (.inl hl)) (pe_lst (pa1 hs)) ((sww_env (by rw [hX.es]; rfl)).trans hsw) (.inr (by rw [hX.es]; exact hl))).run pins s σ H D I0 ?_
  refine h σ H R T _ ok tb fun y τ1 v T1 R1 H1 ⟨a, fz, hk⟩ l1 ok1 tb1 w1 => ?_
  obtain ⟨R2, l2, ok2, r⟩ := fz_rel ok1 w1 fz
  refine ⟨by simp [sizeLine_eq], fun p hp => ?_⟩
  obtain ⟨hR, hF, ho⟩ := ok2.fresh hp
  refine en.nx _ _ T1 R2 _ (hk p) (l1.trans l2) ((ok2.new hp).re.set' i ⟨⟨rfl, hR, _, upd_same, [v], rfl, .cons r .nil⟩, fun p' z => ?_⟩) tb1
  cases z
  exact ⟨hF, ho⟩
/-- x.append(e) -/
theorem SL1_append {j : Nat} {x : Str} {α : Type} {A : DR α} {qc : Addr} {l0 : List α} {apos cpos np : Pos} (hX : XF G X N sc n) (hN : N[j]? = some x) (hv : Vis sc x) (hse : noStar [e] = true) (ht : τ[j]? = some (.ow qc (cL A) l0))
    (h : EL P q X e τ fun y τ1 => ∃ a, Fz y (.im A a) ∧ ∃ l, τ1[j]? = some (.ow qc (cL A) l) ∧ l.length < 100000 ∧ O.nx (τ1.set j (.ow qc (cL A) (l ++ [a]))))
    (hbase : attributeBase (.Name x np) "append" X.env (eval (.Name x np) X.env) = eval (.Name x np) X.env := by rfl) (hline : (apos.endLine == cpos.line) = true := by rfl)
    (hfew : ((backTo cpos (starEach [e] X.env)).all (fun x => !x.1) && (backToKw cpos (keywordEach [] X.env)).all (fun x => x.1.isSome) && decide ([e].length + ([] : List Keyword).length + (if ([] : List Keyword).isEmpty then 0 else 1) < 30)) = true := by rfl)
    (hd : (x == ("__debug__" : Str)) = false := by decide) (hcd : (x == ("__classdict__" : Str)) = false := by decide) : SL1 P q X (.Expr (.Call (.Attribute (.Name x np) "append" apos) [e] [] cpos) pos) τ O := by
  have st := star_of (env := X.env) hse e [] (List.suffix_refl _)
  intro σ H R T D ok tb en pins s I0
  refine (ps_expr (pe_bm PySem.F.plainAttrs_list PySem.F.slot_list_append PySem.F.type_list_append mt_append (pn hX hN hv hd hcd) (pa_cons pe_sem pa_nil st) hbase hfew hline st (by rfl))).run pins s σ H D I0 ?_
  obtain ⟨hs, hR, hF, o, hH, xs, eo, hp⟩ := ok.cell ht
  subst eo
  refine ⟨.ref qc, hs, .inl ⟨rfl, xs, .inl (.inl hH)⟩, ?_⟩
  refine h σ H R T _ ok tb fun y τ1 v T1 R1 H1 ⟨a, fz, l, ht1, hz, hk⟩ l1 ok1 tb1 w1 => ?_
  obtain ⟨R2, l2, ok2, r2⟩ := fz_rel ok1 w1 fz
  obtain ⟨hs2, hR2, hF2, o2, hH2, xs2, eo2, hp2⟩ := ok2.cell ht1
  subst eo2
  refine ⟨qc, xs2, v, rfl, rfl, hH2, by rw [sizeLine_eq, PySem.Paired.length hp2]; omega, ?_⟩
  exact en.nx _ _ T1 R2 _ hk (l1.trans l2) (ok2.write (C' := cL A) (c' := l ++ [a]) ht1 ⟨xs2 ++ [v], rfl, hp2.snoc r2⟩).re tb1
end
/-! ### _law_fault -/
theorem takes_len {X : Cx} {W : WX} (t : Takes X W) : Takes X (fun c d σ H => σ.length = X.N.length → W c d σ H) := fun u s' ⟨a, B, sI, pins, σ, H, cls, d, e, I, nb, up, sky, na, os, ag, w⟩ => t u s' ⟨a, B, sI, pins, σ, H, cls, d, e, I, nb, up, sky, na, os, ag, w I.len⟩
/-- what it makes of a lambda that raises -/
def tFault (C : Addr) (what : Str) : (XK → Hp → VK → Prop) → Hp → VK → Prop := fun tl H Q => ∀ Q' : VK, tl (fun cls d H' => cls = .ref C ∧ ∃ d', d = some d' ∧ errAt "what" what H' d' ∧ ∀ a, H' a = none → Q (.ref a) (upd H' a (.tup [.str "Unlike", .str what]))) H Q'
theorem sc42 : FnScope ["call", "e"] ["call"] (defScope (top 49)) := ⟨rfl, rfl, rfl, by decide +kernel, rfl, by decide +kernel, by decide +kernel⟩
theorem fault_gives {G : Gm} {X : Cx} {C fI g : Addr} {cdg : Value} {q what : Str} (T : UTxt G C fI) (xf : XfC G.K C) (te : PySem.W.exmOne G.K (.ref C) (.ref C) = some true) (eK : X.K = G.K) (emg : X.mg = G.mg) :
    LamX.GivesTo X ["call", "e"] "_law_fault" (defScope (top 49)) g cdg (defBody (top 49)) "call" q (tFault C what) := by
  intro f c' s H Q tl act hc h
  have gC : X.mg "Unlike" = some (.ref C) := by rw [emg]; exact T.gC
  have xf' : XfC X.K C := by rw [eK]; exact xf
  have no' : PySem.W.findIn X.K (.ref C) "what" = some none := by rw [eK]; exact T.noW
  refine ⟨_, pss_cons (ps_try_as (X := (cxOf C8.CX0 X.prog X.w X.K X.mg X.base ["call", "e"] "_law_fault" (defScope (top 49)) g cdg X.A X.stack s H C8.E0).nox) (i := 1) (c := .ref C)
      (tb := fun W D σ H => ∃ Ech : XK, (∀ cls d σ' H', Ech cls d H' → σ'.length = 2 → W cls d σ' H') ∧ σ[0]? = some (some (.ref f)) ∧ H c' = some (LamX.CodeO c' q) ∧ tl Ech H (fun _ H' => D.nx σ H'))
      (ts := fun a cls d => tRet (tTup (tCons (tC (.str "Unlike")) (tCons (tXf a cls d C "what" (tVar 1)) tNil)))) (Wout := fun _ _ _ _ => False)
      rfl rfl sc42.nd rfl rfl ⟨rfl, by decide, .inl gC⟩ LamX.takes0 (fun W pn xe tk _ => ?_) (fun a oe cls d pn hz hf => pss_one (ps_ret (pe_tup (pa_cons pe_str (pa_cons (pe_xf xf' no' hz hf (pv 1)) pa_nil))))))
      (pss_one (ps_ret pe_non)), ?_⟩
  · refine ⟨fun pins s' σ H' D I h' => ?_⟩
    obtain ⟨Ech, hW, h1, h2, h3⟩ := h'
    exact (pss_one (ps_expr (act _ pn xe Ech _ _ (takes_len tk) hW))).run pins s' σ H' D I ⟨h1, h2, h3⟩
  · refine ⟨fun cls d H' => cls = .ref C ∧ ∃ d', d = some d' ∧ errAt "what" what H' d' ∧ ∀ a, H' a = none → Q (.ref a) (upd H' a (.tup [.str "Unlike", .str what])), fun cls d σ' H' ⟨e1, d', e2, e3, e4⟩ hlen => ?_, rfl, hc, h _⟩
    subst e1; subst e2
    refine ⟨true, by rw [show (cxOf C8.CX0 X.prog X.w X.K X.mg X.base ["call", "e"] "_law_fault" (defScope (top 49)) g cdg X.A X.stack s H C8.E0).nox.K = G.K from eK]; exact te, fun _ a ha => ?_, fun z => by cases z⟩
    refine ⟨.ref a, by rw [List.getElem?_set_self (by omega)], rfl, rfl, d', _, .str what, rfl, e3, rfl, ?_⟩
    refine ⟨by simp [sizeLine_eq], fun p hp => e4 p hp⟩
end T
end
section
set_option Elab.async false
set_option linter.all false
set_option maxRecDepth 100000
set_option maxHeartbeats 2000000
namespace T
open PySem PySem.Spec PyProof.Rows L2
theorem codeO_ext {c : Addr} {q : Str} : ∃ f, LamX.CodeO c q = .ext f := ⟨_, rfl⟩
/-- the table and the code objects that a lambda's making leaves -/
theorem Ok.tabs {T R H H1 : Hp} {σ : L2.St} {τ : Tau} {P : Addr} {q : Str} (ok : Ok T R R H σ τ) (tb : LamX.TabS T P q) (eN : LamX.ExtN H H1) (t1 : LamX.TabS H1 P q) : ∃ T1, Ok T1 R R H1 σ τ ∧ LamX.TabS T1 P q := by
  classical
  obtain ⟨ps0, hP0, _, _⟩ := tb
  have hHP : H P = some (.tbl ps0) := ok.fr _ _ hP0
  obtain ⟨ps1, hP1, h2, h3⟩ := t1
  refine ⟨fun a => if a = P ∨ H1 a = some (LamX.CodeO a q) then H1 a else none, ⟨ok.len, fun a o e => ?_, fun a o e => ?_, Le.refl R, fun _ h _ => h, fun i k e => ?_, fun i k p e o => ?_, ok.inj, ok.nt⟩, ps1, ?_, h2, fun pos cv hc => ?_⟩
  · split at e
    · exact e
    · cases e
  · rcases ok.le a o e with h | ⟨nf, ob, h⟩
    · exact .inl (eN a o h fun ps z => ok.nt a ps (by rw [← z]; exact e))
    · exact .inr ⟨nf, ob, eN a _ h fun ps z => by cases z⟩
  · rcases ok.sl i k e with z | ⟨v, hv, r⟩
    · exact .inl z
    · refine .inr ⟨v, hv, ?_⟩
      cases k with
      | no => trivial
      | im A a => exact r
      | ow p C c =>
        obtain ⟨e1, e2, o, e3, e4⟩ := r
        exact ⟨e1, e2, o, eN p o e3 (C.nt e4).1, e4⟩
  · rcases ok.sl i k e with z | ⟨v, hv, r⟩
    · subst z; exact o.elim
    · cases k with
      | no => exact o.elim
      | im => exact o.elim
      | ow p' C c =>
        have hp : p' = p := o
        subst hp
        obtain ⟨e1, e2, u, e3, e4⟩ := r
        have h1 : H1 p' = some u := eN p' u e3 (C.nt e4).1
        rw [if_neg]
        rintro (z | z)
        · subst z
          rw [hHP] at e3
          exact (C.nt e4).1 ps0 (Option.some.inj e3).symm
        · rw [h1] at z
          obtain ⟨f, hf⟩ := codeO_ext (c := p') (q := q)
          exact (C.nt e4).2 f ((Option.some.inj z).trans hf)
  · dsimp only; rw [if_pos (.inl rfl)]; exact hP1
  · obtain ⟨c', e1, e2⟩ := h3 pos cv hc
    exact ⟨c', e1, by dsimp only; rw [if_pos (.inr e2)]; exact e2⟩
/-- the same slots, other values of them -/
theorem Ok.swap {T R R' H H' : Hp} {σ σ2 : L2.St} {τ : Tau} (ok : Ok T R R H σ τ) (ok2 : Ok T R R' H' σ2 τ) : Ok T R' R' H' σ τ :=
  ⟨ok.len, ok2.fr, ok2.le, Le.refl R', fun _ h _ => h, fun i k e => by
    rcases ok.sl i k e with z | ⟨v, hv, r⟩
    · exact .inl z
    · refine .inr ⟨v, hv, ?_⟩
      cases k with
      | no => trivial
      | im A a => exact A.up ok2.r0 r
      | ow p C c =>
        rcases ok2.sl i _ e with z | ⟨u, hu, r2⟩
        · cases z
        · exact ⟨r.1, r2.2⟩, ok2.ff, ok2.inj, ok2.nt⟩
/-- _law_fault(lambda: body), the body raises -/
theorem EL_fault {G : Gm} {X : Cx} {N : List Str} {sc scope : Scope} {n m : Nat} {τ : Tau} {k : KK} {C fI g c P : Addr} {q what : Str} {fd : FuncData} {params : Arguments} {body : Expr} {p lpos pos : Pos} (hX : XF G X N sc n) (T : UTxt G C fI) (xf : XfC G.K C)
    (te : PySem.W.exmOne G.K (.ref C) (.ref C) = some true) (FF : Fun G.K "_law_fault" "_law_fault" (top 49) g fd) (hfg : G.mg "_law_fault" = some (.ref g)) (bF : Binds G.K fd ["call"] [])
    (tb0 : LamX.TabB G.base G.mg c P) (hcode : X.env.code = .ref c) (hq : X.env.qual ++ "<lambda>" = q) (hg : sc.names.lookup ("_law_fault" : Str) = some .globalImplicit) (hL : LamX.LamS sc scope) (hdef : defaultsOf params X.env = ([], []))
    (hbind : ∀ (q : Str) (cl : List (Str × Addr)) (pm cv ctv : Value), bindArgs (PySem.W.kla_fn "<lambda>" q params body scope cl pm cv ctv) ⟨[], []⟩ = pure []) (hn : m + 2 ≤ n)
    (hbody : ∀ (Y : Cx) (T R : Hp) (W : WX), XF G Y N scope m → Takes Y W → (∀ σ R' H' d, Ok T R R' H' σ τ → errAt "what" what H' d → W (.ref C) (some d) σ H') → EF T R Y body τ)
    (hk : k (.im (rU G.K) (.tuple [.str "Unlike", .str what])) τ) : EL P q X (.Call (.Name "_law_fault" p) [.Lambda params body scope lpos] [] pos) τ k := by
  obtain ⟨oc, od, kV, doc, pm, an, cdv, ct, osl, rfl, lk, hcd⟩ := FF.ex
  intro σ H R T0 Q ok tb qq pins s I
  refine (LamX.pe_lamcall (T := [(P, q)]) (TT := tFault C what) (t := fun E σ H' Q' => ∀ (A : Around) (outer : List Env) (s : Shared) (H : Hp) (f c' : Addr), Room m (A.deeper (LamX.lamEnv X scope s.heap.objs.size f c')) → sem (LamX.lamCx X A outer s H E scope f c') body σ H' Q')
    (hX.gl hg) (by rw [hX.emg]; exact hfg) (by rw [hX.eK]; exact FF.kp) (by rw [hX.eK]; exact lk) (by rw [hX.eK]; exact hcd) (by rw [hX.eK]; exact bF) sc42 (Ng := ["call", "e"]) rfl (.inl rfl) (by rw [hq]; exact fault_gives T xf te hX.eK hX.emg) (by rw [hX.eb, hX.emg]; exact tb0) hcode
    (by rw [hq]; exact List.mem_singleton.mpr rfl) (fun p hp _ => by rw [List.mem_singleton] at hp; rw [hp, hq]) (hX.room.mono hn) (by rw [hX.es]; exact hL) hdef hbind (fun A outer s H E f c' hr => ⟨fun pins s' σ H' Q' I h => h A outer s H f c' hr pins s' I⟩)).run pins s σ H Q I ?_
  refine ⟨fun p hp => by rw [List.mem_singleton] at hp; rw [hp]; exact tb.ext ok.fr, fun H1 eN t1 => ?_⟩
  obtain ⟨T1, ok1, tb1⟩ := ok.tabs tb eN (t1 (P, q) (List.mem_singleton.mpr rfl))
  intro Q' A outer s1 H2 f c' hr
  have hY : XF G (LamX.lamCx X A outer s1 H2 (fun cls d H' => cls = .ref C ∧ ∃ d', d = some d' ∧ errAt "what" what H' d' ∧ ∀ a, H' a = none → Q (.ref a) (upd H' a (.tup [.str "Unlike", .str what]))) scope f c') N scope m :=
    ⟨hX.ep, hX.ew, hX.eK, hX.emg, hX.eb, hX.eN, rfl, rfl, hr, hX.nd⟩
  refine hbody _ T1 R (fun cls d _ H' => cls = .ref C ∧ ∃ d', d = some d' ∧ errAt "what" what H' d' ∧ ∀ a, H' a = none → Q (.ref a) (upd H' a (.tup [.str "Unlike", .str what]))) hY (takes_of rfl rfl rfl rfl) (fun σ2 R' H' d ok2 he => ?_) σ H1 R Q' ok1
  refine ⟨rfl, d, rfl, he, fun a ha => ?_⟩
  have ok3 := ok1.swap ok2
  refine qq _ τ (.ref a) T1 _ _ hk (ok2.r0.trans (Le.upd (ok3.fresh ha).1)) (ok3.lay (o := .tup [.str "Unlike", .str what]) ha).re tb1 (VOk.im ?_)
  exact Dp.tup (.inl (.inl upd_same)) (.cons (.str _) (.cons (.str _) .nil))
end T
end
section
set_option Elab.async false
set_option linter.all false
set_option maxRecDepth 100000
set_option maxHeartbeats 2000000
namespace T
open PySem PySem.Spec PyProof.Rows L2
/-! ### f(k = e, ..) -/
def semK (X : Cx) (kws : List Keyword) (pos : Pos) : TA := fun σ H Q => ∀ pins s, Inv X pins σ H s → wpAny (model X.prog X.w) X.A (evalAll ((backToKw pos (keywordEach kws X.env)).map (·.2))) (L2.AP X pins σ Q) X.xe s
def AK (X : Cx) (kws : List Keyword) (pos : Pos) (τ : Tau) (k : Ks) : Prop := WA (semK X kws pos) τ k
theorem AK.of {X : Cx} {kws : List Keyword} {pos : Pos} {ta : TA} {τ : Tau} {k : Ks} (h : PK X kws ta) (w : WA ta τ k) : AK X kws pos τ k :=
  fun σ H F R0 R Q ok q pins s I => h.run pos pins s σ H Q I (w σ H F R0 R Q ok q)
universe uu
def gK {α : Type uu} (rev : Bool) (us ws : List α) : List α := us ++ (if rev then ws.reverse else ws)
/-- how a def's keywords bind -/
structure KB (G : Gm) (x : Str) (ks : List Str) (rev : Bool) : Prop where
  ex : ∃ (f : Addr) (fd : FuncData) (oc : Value) (od : Option Addr) (osl : Array (Option Value)), G.mg x = some (.ref f) ∧ G.K.lookup f = some ⟨oc, od, .func fd, osl⟩ ∧ KBinds G.K fd (fd.params.args.map (·.arg)) ks (gK rev) (gK rev)
section
variable {G : Gm} {X : Cx} {N : List Str} {sc : Scope} {n : Nat} {τ τ1 : Tau} {k : KK} {e a b : Expr} {es : List Expr} {pos p kpos : Pos} {nm : Option Str} {kws : List Keyword}
/-- one keyword, two keywords -/
theorem AK_one {k : Ks} (h : T.P X e τ fun p τ1 => k [p] τ1) : AK X [⟨nm, e, kpos⟩] pos τ k :=
  AK.of (pk_cons pe_sem pk_nil) fun σ H F R0 R Q ok q => h σ H F R0 R _ ok fun p τ1 v R1 H1 h1 l1 ok1 a1 => q [p] τ1 [v] R1 H1 h1 l1 ok1 ⟨a1, trivial⟩
theorem AK_two {nm2 : Option Str} {kpos2 : Pos} {k : Ks} (h : T.P X a τ fun p τ1 => T.P X b τ1 fun q τ2 => k [p, q] τ2) : AK X [⟨nm, a, kpos⟩, ⟨nm2, b, kpos2⟩] pos τ k :=
  AK.of (pk_cons pe_sem (pk_cons pe_sem pk_nil)) fun σ H F R0 R Q ok q => h σ H F R0 R _ ok fun p τ1 v R1 H1 h1 l1 ok1 a1 =>
    h1 σ H1 F R0 R1 _ ok1 fun p2 τ2 v2 R2 H2 h2 l2 ok2 a2 => q [p, p2] τ2 [v, v2] R2 H2 h2 (l1.trans l2) ok2 ⟨Pl.up l2 a1, a2, trivial⟩
theorem plAll_append {σ : L2.St} {R H : Hp} : ∀ {vs ws : List V} {ps qs : List Pl}, PlAll σ R H vs ps → PlAll σ R H ws qs → PlAll σ R H (vs ++ ws) (ps ++ qs)
  | [], _, [], _, _, h => h
  | _ :: _, _, _ :: _, _, h, h' => ⟨h.1, plAll_append h.2 h'⟩
theorem plAll_rev {σ : L2.St} {R H : Hp} : ∀ {vs : List V} {ps : List Pl}, PlAll σ R H vs ps → PlAll σ R H vs.reverse ps.reverse
  | [], [], h => h
  | _ :: _, _ :: _, h => by
    rw [List.reverse_cons, List.reverse_cons]
    exact plAll_append (plAll_rev h.2) ⟨h.1, trivial⟩
theorem plAll_gK {σ : L2.St} {R H : Hp} {vs : List V} {ps : List Pl} (rev : Bool) (h : PlAll σ R H vs ps) : PlAll σ R H (gK rev [] vs) (gK rev [] ps) := by
  cases rev with
  | true => exact plAll_rev h
  | false => exact h
/-- f(k = e, ..) -/
theorem E_callK {x : Str} {m : Nat} {C : Ct} {ns : List Str} (rev : Bool) (hX : XF G X N sc n) (f : Fn G x m C) (kb : KB G x ns rev) (hm : m ≤ n) (hg : sc.names.lookup x = some .globalImplicit)
    (h : AK X kws pos τ fun ps τ1 => ∃ ks, KsOf τ1 (gK rev [] ps) ks ∧ OneOw ks ∧ C ks fun r ks' => k r (updArgs τ1 (gK rev [] ps) ks ks')) (hdb : (x == ("__debug__" : Str)) = false := by decide)
    (hall : (backToKw pos (keywordEach kws X.env)).all (·.1.isSome) = true := by rfl) (hns : (backToKw pos (keywordEach kws X.env)).filterMap (·.1) = ns := by rfl)
    (hpl : ((backTo pos (starEach [] X.env)).any (·.1) || (backToKw pos (keywordEach kws X.env)).any (·.1.isNone)) = false := by rfl) : E X (.Call (.Name x p) [] kws pos) τ k := by
  obtain ⟨f, fd, pr, h1, h2, _, h4, ⟨oc, od, osl, lk⟩, hps⟩ := f.ex
  obtain ⟨f', fd', oc', od', osl', h1', lk', hkb⟩ := kb.ex
  rw [h1] at h1'
  cases h1'
  rw [lk] at lk'
  cases lk'
  rw [hps] at hkb
  have h4' : FnOk X.prog X.w X.K X.mg X.base CX0 m f fd pr (spOf C) := by rw [hX.ep, hX.ew, hX.eK, hX.emg, hX.eb]; exact h4
  have hkb' : KBinds X.K fd pr ns (gK rev) (gK rev) := by rw [hX.eK]; exact hkb
  intro σ H F R0 R Q ok q pins s I
  have hw : semK X kws pos σ H fun zs H1 => spOf C (gK rev [] zs) H1 Q E0 := h σ H F R0 R _ ok fun ps τ1 vs R1 H1 ⟨ks, hk, ho, hc⟩ l1 ok1 a1 => by
    have a2 := plAll_gK rev a1
    refine ⟨keepOf H1 ks, R1, R1, ks, _, ok1.enter a2 hk ho, hc, fun r ks' v R2 H2 hr l2 ok2 w2 => ?_⟩
    obtain ⟨ok3, w3⟩ := ok1.leave a2 hk ho l2 ok2
    exact q r _ v R2 H2 hr (l1.trans l2) ok3 (w3 v r w2)
  refine wpAny_Call_Name_kw (ld_glob I (hX.gl hg) (hX.mgN h1) ?_ hdb)
  refine PySem.W.callWith_KW0 (h₀ := X.base) I.ok.mod.kin (by rw [hX.eK]; exact h2) hall (thn (hw pins s I) fun us s1 ⟨zs, H1, I1, rz, hq⟩ => ⟨I1.kIn, ?_⟩) hpl
  rw [hns]
  exact run_fnk (vs := []) (us := []) h4' (hX.room.mono hm) hkb' pass0 I1 .nil rz hq
/-! ### repr -/
theorem boot_reprB : bootBuiltins ("repr" : Str) = some (.builtin "repr") := by decide +kernel
theorem call_reprL (hgd : X.A.guards = some []) (hu : X.A.units + 100 < cLine) : CallR X (.builtin "repr") (fun xs H Q => ∃ (a : Addr) (ds : List PyData), xs = [.ref a] ∧ Dp X.K H (.ref a) (.list ds) ∧ (PyData.list ds).showable = true ∧ (PyData.list ds).hasDict = false ∧
    (PyData.list ds).depth ≤ 50 ∧ (PyData.list ds).shown.length ≤ sizeLine ∧ Q (.str (PyData.list ds).shown) H) := by
  intro pins s σ H xs us Q I r h
  obtain ⟨a, ds, rfl, hD, hs, hd, hz, hl, q⟩ := h
  obtain ⟨u, rfl, ru⟩ := vals1 r
  obtain ⟨as, hr⟩ := Dp.reads I _ _ u hD ru
  have eu : u = .ref a := ru
  subst eu
  exact repr_of_reads' hr hs (fun z => by rw [hd] at z; cases z) hgd (by omega) (fun _ _ e => e) (fun h' u' tk hk => ⟨.str _, H, I.kept hk, ⟨_, rfl⟩, q⟩) hl
theorem E_repr (hX : XF G X N sc n) (hgd : X.A.guards = some []) (hg : sc.names.lookup ("repr" : Str) = some .globalImplicit) (hm : G.mg ("repr" : Str) = none) (hs : noStar [e] = true)
    (h : E X e τ fun x τ1 => ∃ ds, Fz x (.im (rU G.K) (.list ds)) ∧ (PyData.list ds).showable = true ∧ (PyData.list ds).hasDict = false ∧ (PyData.list ds).depth ≤ 50 ∧ (PyData.list ds).shown.length ≤ sizeLine ∧ k (.im rS (PyData.list ds).shown) τ1) :
    E X (.Call (.Name "repr" p) [e] [] pos) τ k :=
  E.of (pe_callB (call_reprL hgd (by have := hX.room.un; omega)) (hX.gl hg) (hX.mgN hm) boot_reprB (pa1 hs) (he := star_of hs _ _ (List.suffix_refl _))) fun σ H F R0 R Q ok q =>
    h σ H F R0 R _ ok fun x τ1 v R1 H1 ⟨ds, fz, e1, e2, e3, e4, hk⟩ l1 ok1 w1 => by
      obtain ⟨R2, l2, ok2, r⟩ := fz_rel ok1 w1 fz
      have r' : Dp G.K H1 v (.list ds) := deep_U R2 v _ r H1 ok2.le
      cases r' with
      | @lst a xs _ h1 h2 =>
        exact ⟨a, ds, rfl, by rw [hX.eK]; exact .lst h1 h2, e1, e2, e3, e4, q _ τ1 _ R2 H1 hk (l1.trans l2) ok2 (VOk.im rfl)⟩
end
end T
end
section
set_option Elab.async false
set_option linter.all false
set_option maxRecDepth 100000
set_option maxHeartbeats 2000000
namespace T
open PySem PySem.Spec PyProof.Rows L2
/-! ### a test that reads owned cells as data and forgets all that it knew -/
def Pk : Tau → Tau → Prop
  | [], [] => True
  | x :: xs, y :: ys => (y = .no ∨ Fz x y) ∧ Pk xs ys
  | _, _ => False
theorem Pk.len : ∀ {τ τ' : Tau}, Pk τ τ' → τ'.length = τ.length
  | [], [], _ => rfl
  | _ :: _, _ :: _, h => by rw [List.length_cons, List.length_cons, Pk.len h.2]
theorem Pk.get : ∀ {τ τ' : Tau}, Pk τ τ' → ∀ (i : Nat) y, τ'[i]? = some y → ∃ x, τ[i]? = some x ∧ (y = .no ∨ Fz x y)
  | [], [], _, i, y, e => by simp at e
  | x :: _, z :: _, h, 0, y, e => ⟨x, rfl, by cases e; exact h.1⟩
  | _ :: _, _ :: _, h, i + 1, y, e => Pk.get h.2 i y (by simpa using e)
theorem Fz.flat {x y : Kd} (h : Fz x y) {p : Addr} : ¬ owns y p := by cases h <;> exact fun z => z
def OwnA (τ : Tau) (a : Addr) : Prop := ∃ (i : Nat) (k : Kd), τ[i]? = some k ∧ owns k a
section
variable {F R0 R H : Hp} {σ : L2.St} {τ τp : Tau}
theorem Ok.ownA (ok : Ok F R0 R H σ τ) {a : Addr} (h : OwnA τ a) : R a = none ∧ F a = none ∧ ∃ o, H a = some o ∧ ∀ ps, o ≠ .tbl ps := by
  obtain ⟨i, k, e, o⟩ := h
  rcases ok.sl i k e with z | ⟨v, hv, r⟩
  · subst z; exact o.elim
  · cases k with
    | no => exact o.elim
    | im => exact o.elim
    | ow p C c =>
      have hp : p = a := o
      subst hp
      obtain ⟨e1, e2, u, e3, e4⟩ := r
      exact ⟨e2, ok.ff i _ p e rfl, u, e3, (C.nt e4).1⟩
open Classical in
theorem Ok.peek (ok : Ok F R0 R H σ τ) (hp : Pk τ τp) : ∃ F1 R1, Ok F1 R1 R1 H σ τp ∧ ∀ R' H' τ', Le R1 R' → Ok F1 R1 R' H' σ τ' → Ok F R0 R H' σ τ := by
  have lr : Le R (fun a => if OwnA τ a then H a else R a) := fun a o e => by
    by_cases h : OwnA τ a
    · rw [(ok.ownA h).1] at e; cases e
    · show (if OwnA τ a then H a else R a) = some o; rw [if_neg h]; exact e
  refine ⟨fun a => if OwnA τ a then H a else F a, fun a => if OwnA τ a then H a else R a, ⟨by rw [hp.len]; exact ok.len, fun a o e => ?_, fun a o e => ?_, Le.refl _, fun _ h _ => h, fun i y e => ?_, fun i y p e o => ?_, fun i j y z p e1 e2 o1 o2 => ?_, fun a ps e => ?_⟩, fun R' H' τ' l ok' => ?_⟩
  · split at e
    · exact e
    · exact ok.fr a o e
  · split at e
    · exact .inl e
    · exact ok.le a o e
  · obtain ⟨x, ex, h⟩ := hp.get i y e
    rcases h with h | h
    · exact .inl h
    · rcases ok.sl i x ex with z | ⟨v, hv, r⟩
      · subst z; cases h
      · have own : ∀ {γ : Type} {q : Addr} {C : CR γ} {c : γ}, x = .ow q C c → (if OwnA τ q then H q else R q) = H q := fun {γ q C c} z => if_pos ⟨i, x, ex, by rw [z]; rfl⟩
        refine .inr ⟨v, hv, ?_⟩
        cases h with
        | im A a => exact A.up lr r
        | cv h => exact DR.up _ lr (h _ _ r)
        | ow h =>
          obtain ⟨e1, e2, o, e3, e4⟩ := r
          rw [e1]
          exact h _ _ o _ ((own rfl).trans e3) (CR.up _ lr e4)
        | ov h h2 =>
          obtain ⟨e1, e2, o, e3, e4⟩ := r
          rw [e1]
          exact h2 _ _ (h _ _ o _ ((own rfl).trans e3) (CR.up _ lr e4))
  · obtain ⟨x, _, h⟩ := hp.get i y e
    rcases h with h | h
    · subst h; exact o.elim
    · exact absurd o h.flat
  · obtain ⟨x, _, h⟩ := hp.get i y e1
    rcases h with h | h
    · subst h; exact o1.elim
    · exact absurd o1 h.flat
  · split at e
    · rename_i h
      obtain ⟨_, _, o, e3, e4⟩ := ok.ownA h
      rw [e3] at e
      exact e4 ps (Option.some.inj e)
    · exact ok.nt a ps e
  · have keep : ∀ a, OwnA τ a → H' a = H a := fun a h => by
      obtain ⟨_, _, o, e3, _⟩ := ok.ownA h
      rw [e3]
      exact ok'.fr a o (by rw [if_pos h]; exact e3)
    refine ⟨ok.len, fun a o e => ?_, fun a o e => ok'.le a o (l a o (lr a o e)), ok.r0, ok.nw, fun i k e => ?_, ok.ff, ok.inj, ok.nt⟩
    · refine ok'.fr a o ?_
      by_cases h : OwnA τ a
      · rw [(ok.ownA h).2.1] at e; cases e
      · rw [if_neg h]; exact e
    · rcases ok.sl i k e with z | ⟨v, hv, r⟩
      · exact .inl z
      · refine .inr ⟨v, hv, ?_⟩
        cases k with
        | no => trivial
        | im A a => exact r
        | ow p C c =>
          obtain ⟨e1, e2, o, e3, e4⟩ := r
          exact ⟨e1, e2, o, by rw [keep p ⟨i, _, e, rfl⟩]; exact e3, e4⟩
/-- a slot's cell becomes data -/
theorem Ok.frz (ok : Ok F R0 R H σ τ) {i : Nat} {γ : Type} {p : Addr} {C : CR γ} {A : DR γ} {c : γ} (ht : τ[i]? = some (.ow p C c)) (f : FrzC C A) : ∃ R', Le R R' ∧ Ok F R0 R' H σ (τ.set i (.im A c)) := by
  obtain ⟨hs, hR, hF, o, hH, hc⟩ := ok.cell ht
  have hi : i < τ.length := (List.getElem?_eq_some_iff.mp ht).1
  have ok1 : Ok F R0 (upd R p o) H σ (τ.set i .no) := (ok.forget i).know hR hF hH (ho := (C.nt hc).1) fun j l el hl => by
    by_cases hj : i = j
    · subst hj
      rw [List.getElem?_set_self hi] at el
      cases el
      exact hl
    · rw [List.getElem?_set_ne hj] at el
      exact hj (ok.inj i j _ l p ht el rfl hl)
  have ok2 := ok1.set (i := i) (v := .ref p) (x := .im A c) (by simpa using hi) (VOk.im (f _ p o c upd_same (C.up (Le.upd hR) hc)))
  have es : σ.set i (some (.ref p)) = σ := by
    apply List.ext_getElem?
    intro j
    by_cases hj : i = j
    · subst hj
      rw [List.getElem?_set_self (by rw [ok.len]; exact hi), hs]
    · rw [List.getElem?_set_ne hj]
  rw [es, List.set_set] at ok2
  exact ⟨_, Le.upd hR, ok2⟩
/-- a slot's data told more exactly -/
theorem Ok.tell (ok : Ok F R0 R H σ τ) {i : Nat} {α β : Type} {A : DR α} {B : DR β} {a : α} {Pb : β → Prop} (ht : τ[i]? = some (.im A a)) (hb : ∀ R v, A.rel R v a → ∃ b, B.rel R v b ∧ Pb b) : ∃ b, Pb b ∧ Ok F R0 R H σ (τ.set i (.im B b)) := by
  have hi : i < τ.length := (List.getElem?_eq_some_iff.mp ht).1
  rcases ok.sl i _ ht with z | ⟨v, hv, r⟩
  · cases z
  · obtain ⟨b, h1, h2⟩ := hb R v r
    refine ⟨b, h2, ?_⟩
    have hs : σ[i]? = some (some v) := by
      cases hq : σ[i]? with
      | none => rw [hq] at hv; cases hv
      | some u => rw [hq] at hv; rw [show u = some v from hv]
    have ok2 := ok.set (i := i) (v := v) (x := .im B b) hi (VOk.im h1)
    have es : σ.set i (some v) = σ := by
      apply List.ext_getElem?
      intro j
      by_cases hj : i = j
      · subst hj
        rw [List.getElem?_set_self (by rw [ok.len]; exact hi), hs]
      · rw [List.getElem?_set_ne hj]
    rw [es] at ok2
    exact ok2
end
section
variable {G : Gm} {X : Cx} {N : List Str} {sc : Scope} {n : Nat} {τ τ1 τp : Tau} {O : Po} {e a b : Expr} {P : Addr} {q : Str} {st : Stmt} {sts : List Stmt}
theorem C_peek {c : Expr} {k : Bool → Tau → Prop} (hp : Pk τ τp) (h : C X c τp fun b _ => k b τ) : C X c τ k := fun σ H F R0 R Q ok qq => by
  obtain ⟨F1, R1, ok1, back⟩ := ok.peek hp
  exact h σ H F1 R1 R1 Q ok1 fun b τ' R' H' hk l ok' => qq b τ R H' hk (Le.refl R) (back R' H' τ' l ok')
theorem S_frz {i : Nat} {γ : Type} {p : Addr} {C : CR γ} {A : DR γ} {c : γ} (ht : τ[i]? = some (.ow p C c)) (f : FrzC C A) (h : S X sts (τ.set i (.im A c)) O) : S X sts τ O := fun σ H F R0 R D ok en => by
  obtain ⟨R', l, ok'⟩ := ok.frz ht f
  exact h σ H F R0 R' D ok' (en.up l)
theorem S1_frz {i : Nat} {γ : Type} {p : Addr} {C : CR γ} {A : DR γ} {c : γ} (ht : τ[i]? = some (.ow p C c)) (f : FrzC C A) (h : S1 X st (τ.set i (.im A c)) O) : S1 X st τ O := fun σ H F R0 R D ok en => by
  obtain ⟨R', l, ok'⟩ := ok.frz ht f
  exact h σ H F R0 R' D ok' (en.up l)
theorem SL_frz {i : Nat} {γ : Type} {p : Addr} {C : CR γ} {A : DR γ} {c : γ} (ht : τ[i]? = some (.ow p C c)) (f : FrzC C A) (h : SL P q X sts (τ.set i (.im A c)) O) : SL P q X sts τ O := fun σ H R T D ok tb en => by
  obtain ⟨R', l, ok'⟩ := ok.frz ht f
  exact h σ H R' T D ok'.re tb (en.up l)
theorem SL_tell {i : Nat} {α β : Type} {A : DR α} {B : DR β} {a : α} {Pb : β → Prop} (ht : τ[i]? = some (.im A a)) (hb : ∀ R v, A.rel R v a → ∃ b, B.rel R v b ∧ Pb b) (h : ∀ b, Pb b → SL P q X sts (τ.set i (.im B b)) O) : SL P q X sts τ O := fun σ H R T D ok tb en => by
  obtain ⟨b, h2, ok'⟩ := ok.tell ht hb
  exact h b h2 σ H R T D ok' tb en
end
end T
end
section
set_option Elab.async false
set_option linter.all false
set_option maxRecDepth 100000
set_option maxHeartbeats 2000000
set_option exponentiation.threshold 10000
/-! Plain tables: columns, products, unit tables; the sizes of their numbers. -/
namespace T
/-- what a row gives with another one -/
def dotR (a b : List Rat) : Rat := (a.zip b).foldl (fun s q => s + q.1 * q.2) 0
/-- the rows of the table with these columns, of so many numbers each -/
def colsM (tall : Nat) (cols : List (List Rat)) : List (List Rat) := (List.range tall).map fun k => cols.map fun c => c[k]?.getD 0
def wideM : List (List Rat) → Nat
  | [] => 0
  | r :: _ => r.length
def prodM (a b : List (List Rat)) : List (List Rat) := a.map fun r => (colsM (wideM b) b).map fun c => dotR r c
def unitM (n : Nat) : List (List Rat) := (List.range n).map fun k => (List.range n).map fun j => if j = k then 1 else 0
/-- a table of so many rows and columns -/
structure Tab (t w : Nat) (m : List (List Rat)) : Prop where
  tall : m.length = t
  wide : ∀ r ∈ m, r.length = w
theorem Tab.wideM {t w : Nat} {m : List (List Rat)} (h : Tab t w m) (ht : 0 < t) : wideM m = w := by
  cases m with
  | nil => have := h.tall; simp at this; omega
  | cons r m => exact h.wide r List.mem_cons_self
theorem colsM_tab {t w : Nat} {m : List (List Rat)} (h : Tab t w m) : Tab w t (colsM w m) := by
  refine ⟨by simp [colsM], fun r hr => ?_⟩
  obtain ⟨k, _, e⟩ := List.mem_map.mp hr
  rw [← e, List.length_map, h.tall]
theorem prodM_tab {t u w : Nat} {a b : List (List Rat)} (ha : Tab t u a) (hb : Tab u w b) (hu : 0 < u) : Tab t w (prodM a b) := by
  refine ⟨by unfold prodM; rw [List.length_map, ha.tall], fun r hr => ?_⟩
  obtain ⟨s, _, e⟩ := List.mem_map.mp hr
  rw [← e, List.length_map, hb.wideM hu]
  exact (colsM_tab hb).tall
theorem unitM_tab (n : Nat) : Tab n n (unitM n) := by
  refine ⟨by simp [unitM], fun r hr => ?_⟩
  obtain ⟨k, _, e⟩ := List.mem_map.mp hr
  rw [← e]; simp
/-! ### sizes -/
theorem dot_take {D M N : Nat} {a b : List Rat} {E : Nat} (ha : FrR D M a) (hb : FrR E N b) : ∀ i, Fr (D * E) (i * (M * N)) (((a.zip b).take i).foldl (fun s q => s + q.1 * q.2) 0)
  | 0 => by
    rw [Nat.zero_mul]
    exact fr_zero _ _
  | i + 1 => by
    have ih := dot_take ha hb i
    cases h : (a.zip b)[i]? with
    | none =>
      have e2 : (a.zip b).take (i + 1) = (a.zip b).take i := by rw [List.take_succ, h]; simp
      rw [e2]
      exact ih.le (Nat.mul_le_mul_right _ (by omega))
    | some q =>
      rw [take_get h, List.foldl_append]
      obtain ⟨h1, h2⟩ := List.getElem?_zip_eq_some.mp h
      have := ih.plus ((ha q.1 (List.mem_of_getElem? h1)).mul (hb q.2 (List.mem_of_getElem? h2)))
      rw [Nat.succ_mul]
      exact this
theorem dot_fr {D M N E : Nat} {a b : List Rat} (ha : FrR D M a) (hb : FrR E N b) : Fr (D * E) (a.length * (M * N)) (dotR a b) := by
  have := dot_take ha hb a.length
  rw [List.take_of_length_le (by rw [List.length_zip]; omega)] at this
  exact this
/-- all numbers of a table over one bottom -/
def FrM (D M : Nat) (m : List (List Rat)) : Prop := ∀ r ∈ m, FrR D M r
theorem FrM.le {D M N : Nat} {m : List (List Rat)} (h : FrM D M m) (hn : M ≤ N) : FrM D N m := fun r hr => (h r hr).le hn
theorem colsM_fr {D M w : Nat} {m : List (List Rat)} (h : FrM D M m) : FrM D M (colsM w m) := fun r hr q hq => by
  obtain ⟨k, _, e⟩ := List.mem_map.mp hr
  rw [← e] at hq
  obtain ⟨c, hc, e2⟩ := List.mem_map.mp hq
  rw [← e2]
  cases hk : c[k]? with
  | none => exact fr_zero _ _
  | some x => exact h c hc x (List.mem_of_getElem? hk)
theorem prodM_fr {D E M N t u : Nat} {a b : List (List Rat)} (hta : Tab t u a) (ha : FrM D M a) (hb : FrM E N b) : FrM (D * E) (u * (M * N)) (prodM a b) := fun r hr q hq => by
  obtain ⟨s, hs, e⟩ := List.mem_map.mp hr
  rw [← e] at hq
  obtain ⟨c, hc, e2⟩ := List.mem_map.mp hq
  rw [← e2, ← hta.wide s hs]
  exact dot_fr (ha s hs) (colsM_fr hb c hc)
theorem unitM_fr (n : Nat) : FrM 1 1 (unitM n) := fun r hr q hq => by
  obtain ⟨k, _, e⟩ := List.mem_map.mp hr
  rw [← e] at hq
  obtain ⟨j, _, e2⟩ := List.mem_map.mp hq
  rw [← e2]
  split
  · exact ⟨1, by simp, by decide⟩
  · exact fr_zero _ _
end T
end
section
set_option Elab.async false
set_option linter.all false
set_option maxRecDepth 100000
set_option maxHeartbeats 2000000
set_option exponentiation.threshold 10000
namespace T
open PySem PySem.Spec PyProof.Rows L2
/-! ### _law_dot, _law_columns, _law_unit -/
def cDotL (K : PySem.W.Frag) : Ct := fun ks k => ∃ (a b : List Rat) (D E M N : Nat), ks = [.im (rT K (rQ K)) a, .im (rT K (rQ K)) b] ∧ FrR D M a ∧ FrR E N b ∧ D ≠ 0 ∧ E ≠ 0 ∧ D * E < 2 ^ 1000 ∧ M < 2 ^ 1000 ∧ N < 2 ^ 1000 ∧ a.length * (M * N) < 2 ^ 1000 ∧ M * N < 2 ^ 1000 ∧ k (.im (rQ K) (dotR a b)) [.no, .no]
theorem scDotL : FnScope ["ps", "qs", "whole", "p", "q"] ["ps", "qs"] (defScope (top 41)) := ⟨rfl, rfl, rfl, by decide +kernel, rfl, by decide +kernel, by decide +kernel⟩
theorem qDotL {G : Gm} {f : Addr} {fd : FuncData} (F : Fun G.K "_law_dot" "_law_dot" (top 41) f fd) (hf : G.mg "_law_dot" = some (.ref f)) (b : Binds G.K fd ["ps", "qs"] [])
    (B : Bi G) (h1 : Fn G "_law_plus" 3 (cPlus G.K)) (h2 : Fn G "_law_mul" 3 (cMulQ G.K)) : Fn G "_law_dot" 4 (cDotL G.K) := by
  refine Fn.of F hf b scDotL (fun ks k ⟨a, b, D, E, M, N, h, _⟩ => by rw [h]; rfl) fun X hX hfn hp ks k ⟨a, b, D, E, M, N, hks, ha, hb, hD, hE, hDE, hM, hN, hl, hMN, hk⟩ => ?_
  subst hks
  have hDz : D < 2 ^ 1000 := Nat.lt_of_le_of_lt (Nat.le_mul_of_pos_right _ (Nat.pos_of_ne_zero hE)) hDE
  have hEz : E < 2 ^ 1000 := Nat.lt_of_le_of_lt (Nat.le_mul_of_pos_left _ (Nat.pos_of_ne_zero hD)) hDE
  have hDE0 : D * E ≠ 0 := Nat.mul_ne_zero hD hE
  -- whole = (0, 1)
  refine S_cons ?_
  refine S1_set (i := 2) hX rfl rfl ?_  -- whole
  refine E_tup hX rfl (by decide) ?_
  refine E_int ?_
  refine ⟨_, .im _ _, ?_⟩
  refine E_int ?_
  refine ⟨_, .im _ _, ?_⟩
  refine ⟨by simp, _, rQ G.K, 0, tup_Q (by decide) (by decide), ?_⟩
  -- for p, q in zip(ps, qs):
  refine S_cons ?_
  refine S1_for hX hp ?_
  refine I_zip (A := rQ G.K) (B := rQ G.K) true hX rfl B.zip rfl ?_
  refine E_name (i := 0) hX rfl (.inl rfl) rfl ?_  -- ps
  refine ⟨_, .im _ _, ?_⟩
  refine E_name (i := 1) hX rfl (.inl rfl) rfl ?_  -- qs
  refine ⟨_, .im _ _, ?_⟩
  refine ⟨fun i τ => ∃ x3 x4, τ = [.im (rT G.K (rQ G.K)) a, .im (rT G.K (rQ G.K)) b, .im (rQ G.K) (((a.zip b).take i).foldl (fun s q => s + q.1 * q.2) 0), x3, x4], ⟨_, _, rfl⟩, fun i y τ hy hI => ?_, fun τ hI => ?_⟩
  · obtain ⟨x3, x4, hτ⟩ := hI
    subst hτ
    obtain ⟨q, hq, ey⟩ := mapK_get hy
    subst ey
    obtain ⟨q1, q2⟩ := List.getElem?_zip_eq_some.mp hq
    have f1 := ha q.1 (List.mem_of_getElem? q1)
    have f2 := hb q.2 (List.mem_of_getElem? q2)
    have hi := (List.getElem?_eq_some_iff.mp q1).1
    refine T_tup hX rfl un_pair ?_
    refine T_name (i := 3) hX rfl rfl ?_  -- p
    refine T_name (i := 4) hX rfl rfl ?_  -- q
    -- whole = _law_plus(whole, _law_mul(p, q))
    refine S_one ?_
    refine S1_set (i := 2) hX rfl rfl ?_  -- whole
    refine E_call hX h1 (by omega) rfl rfl ?_
    refine A_cons rfl ?_
    refine P_name (i := 2) hX rfl (.inl rfl) rfl (by intro z; cases z) ?_  -- whole
    refine A_cons rfl ?_
    refine P_val ?_
    refine E_call hX h2 (by omega) rfl rfl ?_
    refine A_cons rfl ?_
    refine P_name (i := 3) hX rfl (.inl rfl) rfl (by intro z; cases z) ?_  -- p
    refine A_cons rfl ?_
    refine P_name (i := 4) hX rfl (.inl rfl) rfl (by intro z; cases z) ?_  -- q
    refine A_nil ?_
    refine ⟨[_, _], ⟨rfl, rfl, trivial⟩, trivial, q.1, q.2, rfl, f1.qb hD hDz hM, f2.qb hE hEz hN, ?_⟩
    refine ⟨_, _, _, .im _ _, ?_⟩
    refine A_nil ?_
    refine ⟨[_, _], ⟨rfl, rfl, trivial⟩, trivial, _, q.1 * q.2, rfl, (dot_take ha hb i).qb hDE0 hDE (Nat.lt_of_le_of_lt (Nat.mul_le_mul_right _ (by omega)) hl), (f1.mul f2).qb hDE0 hDE hMN, ?_⟩
    refine ⟨.im (rQ G.K) q.1, .im (rQ G.K) q.2, ?_⟩
    rw [take_get hq, List.foldl_append]
    rfl
  obtain ⟨x3, x4, hτ⟩ := hI
  rw [List.length_map, List.take_length] at hτ
  subst hτ
  -- return whole
  refine S_one ?_
  refine S1_ret ?_
  refine E_name (i := 2) hX rfl (.inl rfl) rfl ?_  -- whole
  exact fin_no hk
def cColsL (K : PySem.W.Frag) : Ct := fun ks k => ∃ (cols : List (List Rat)) (t w : Nat), ks = [.im (rL K (rT K (rQ K))) cols, .im rI (w : Int)] ∧ Tab t w cols ∧ t ≤ 1000 ∧ w ≤ 1000 ∧ ∀ p, k (.ow p (cL (rT K (rQ K))) (colsM w cols)) [.no, .no]
theorem scColsL : FnScope ["cols", "tall", "k", "col"] ["cols", "tall"] (defScope (top 48)) := ⟨rfl, rfl, rfl, by decide +kernel, rfl, by decide +kernel, by decide +kernel⟩
theorem qColsL {G : Gm} {f : Addr} {fd : FuncData} (F : Fun G.K "_law_columns" "_law_columns" (top 48) f fd) (hf : G.mg "_law_columns" = some (.ref f)) (b : Binds G.K fd ["cols", "tall"] [])
    (B : Bi G) : Fn G "_law_columns" 1 (cColsL G.K) := by
  refine Fn.of F hf b scColsL (fun ks k ⟨cols, t, w, h, _⟩ => by rw [h]; rfl) fun X hX hfn hp ks k ⟨cols, t, w, hks, hT, ht, hw, hk⟩ => ?_
  subst hks
  have hct := hT.tall
  refine S_one ?_
  refine S1_ret ?_
  refine E_lc (own := [("k", 2)]) (rT G.K (rQ G.K)) hX rfl ?_
  refine I_rng1 hX rfl B.range rfl ?_
  refine E_name (i := 1) hX rfl (.inl rfl) rfl ?_  -- tall
  refine ⟨_, .im _ _, by omega, by omega, ?_⟩
  refine ⟨fun i out τ => out = (List.range i).map (fun k => cols.map fun c => c[k]?.getD 0) ∧ τ = [.im (rL G.K (rT G.K (rQ G.K))) cols, .im rI (w : Int), .no, .no], ⟨rfl, rfl⟩, fun i y hy => ?_, fun out τ hJ p => ?_⟩
  · rintro out τ ⟨ho, hτ⟩ X1 hX1 hf1
    subst hτ
    obtain ⟨hi, ey⟩ := rngK0_get hy
    subst ey
    have hi : i < w := by omega
    refine TB_cell (i := 2) hX1 (hf1 _ (by rfl)) rfl rfl (by decide) ?_  -- k
    intro X2 hX2
    refine Cs_nil ?_
    refine ⟨fun _ X3 hX3 => ?_, fun h => by cases h⟩
    refine E_tuple (rQ G.K) hX3 rfl B.tuple rfl ?_
    refine E_lc (own := [("col", 3)]) (rQ G.K) hX3 rfl ?_
    refine I_list hX3 ?_
    refine E_name (i := 0) hX3 rfl (.inr (.inl rfl)) rfl ?_  -- cols
    refine ⟨_, _, _, .im _ _, ?_⟩
    refine ⟨fun j out2 τ => out2 = (cols.take j).map (fun c => c[i]?.getD 0) ∧ τ = [.im (rL G.K (rT G.K (rQ G.K))) cols, .im rI (w : Int), .im rI (i : Int), .no], ⟨by simp, rfl⟩, fun j y hy => ?_, fun out2 τ hJ p2 => ?_⟩
    · rintro out2 τ ⟨ho2, hτ⟩ X4 hX4 hf4
      subst hτ
      obtain ⟨c, hc, ey⟩ := mapK_get hy
      subst ey
      have hcl := hT.wide c (List.mem_of_getElem? hc)
      have hj := (List.getElem?_eq_some_iff.mp hc).1
      obtain ⟨x, hx⟩ : ∃ x, c[i]? = some x := ⟨_, List.getElem?_eq_getElem (by omega)⟩
      refine TB_name (i := 3) hX4 rfl rfl (by decide) ?_  -- col
      intro X5 hX5
      refine Cs_nil ?_
      refine ⟨fun _ X6 hX6 => ?_, fun h => by cases h⟩
      refine E_ix hX6 (fun _ _ => rfl) ?_
      refine P_name (i := 3) hX6 rfl (.inl rfl) rfl (by intro z; cases z) ?_  -- col
      refine E_name (i := 2) hX6 rfl (.inr (.inl rfl)) rfl ?_  -- k
      refine ⟨_, .im _ _, _, rfl, _, _, x, ix_T (at_nat hx), ?_⟩
      refine ⟨_, .im _ _, ?_, ?_, rfl⟩
      · rw [ho2, List.length_map, List.length_take]; omega
      · rw [ho2, take_get hc, List.map_append]
        show _ = _ ++ [c[i]?.getD 0]
        rw [hx]; rfl
    obtain ⟨ho2, hτ⟩ := hJ
    rw [List.length_map, List.take_length] at ho2
    subst hτ
    subst ho2
    refine ⟨_, .inl (.ow (frz_L (K := G.K))), ?_⟩
    refine ⟨_, .im _ _, ?_, ?_, rfl⟩
    · rw [ho, List.length_map, List.length_range]; omega
    · rw [ho, List.range_succ, List.map_append]; rfl
  obtain ⟨ho, hτ⟩ := hJ
  have e : (rngK 0 ((w : Int).toNat)).length = w := by simp [rngK]
  rw [e] at ho
  subst hτ
  subst ho
  exact fin_no (hk p)
end T
end
section
set_option Elab.async false
set_option linter.all false
set_option maxRecDepth 100000
set_option maxHeartbeats 2000000
set_option exponentiation.threshold 10000
namespace T
open PySem PySem.Spec PyProof.Rows L2
/-! ### _law_product, _law_unit, _law_table -/
def cProdL (K : PySem.W.Frag) : Ct := fun ks k => ∃ (a b : List (List Rat)) (t u w D E M N : Nat), ks = [.im (rL K (rT K (rQ K))) a, .im (rL K (rT K (rQ K))) b] ∧ Tab t u a ∧ Tab u w b ∧ 0 < u ∧ t ≤ 1000 ∧ u ≤ 1000 ∧ w ≤ 1000 ∧ FrM D M a ∧ FrM E N b ∧
  D ≠ 0 ∧ E ≠ 0 ∧ D * E < 2 ^ 1000 ∧ M < 2 ^ 1000 ∧ N < 2 ^ 1000 ∧ u * (M * N) < 2 ^ 1000 ∧ M * N < 2 ^ 1000 ∧ ∀ p, k (.ow p (cL (rT K (rQ K))) (prodM a b)) [.no, .no]
theorem scProdL : FnScope ["one_mat", "two_mat", "cols", "ps", "col"] ["one_mat", "two_mat"] (defScope (top 51)) := ⟨rfl, rfl, rfl, by decide +kernel, rfl, by decide +kernel, by decide +kernel⟩
theorem qProdL {G : Gm} {f : Addr} {fd : FuncData} (F : Fun G.K "_law_product" "_law_product" (top 51) f fd) (hf : G.mg "_law_product" = some (.ref f)) (b : Binds G.K fd ["one_mat", "two_mat"] [])
    (B : Bi G) (h1 : Fn G "_law_columns" 1 (cColsL G.K)) (h2 : Fn G "_law_dot" 4 (cDotL G.K)) : Fn G "_law_product" 5 (cProdL G.K) := by
  refine Fn.of F hf b scProdL (fun ks k ⟨_, _, _, _, _, _, _, _, _, h, _⟩ => by rw [h]; rfl) fun X hX hfn hp ks k ⟨a, m, t, u, w, D, E, M, N, hks, ha, hb, hu, ht1, hu1, hw1, fa, fb, hD, hE, hDE, hM, hN, hl, hMN, hk⟩ => ?_
  subst hks
  obtain ⟨r0, m', em⟩ : ∃ r0 m', m = r0 :: m' := by
    cases m with
    | nil => have := hb.tall; simp at this; omega
    | cons r m' => exact ⟨r, m', rfl⟩
  have hr0 : r0.length = w := hb.wide r0 (by rw [em]; exact List.mem_cons_self)
  have e0 : m[0]? = some r0 := by rw [em]; rfl
  have hwm : wideM m = w := hb.wideM hu
  have hcT := colsM_tab hb
  have hat := ha.tall
  -- cols = _law_columns(two_mat, len(two_mat[0]))
  refine S_cons ?_
  refine S1_setC (i := 2) hX hfn rfl rfl ?_  -- cols
  refine E_call hX h1 (by omega) rfl rfl ?_
  refine A_cons rfl ?_
  refine P_name (i := 1) hX rfl (.inl rfl) rfl (by intro z; cases z) ?_  -- two_mat
  refine A_cons rfl ?_
  refine P_val ?_
  refine E_len hX rfl B.len rfl ?_
  refine P_val ?_
  refine E_ix hX (fun _ _ => rfl) ?_
  refine P_name (i := 1) hX rfl (.inl rfl) rfl (by intro z; cases z) ?_  -- two_mat
  refine E_int ?_
  refine ⟨_, .im _ _, _, rfl, _, _, r0, ix_L (at_0 e0), ?_⟩
  refine ⟨_, _, _, .im _ _, ?_⟩
  refine ⟨_, _, rfl, len_T, ?_⟩
  rw [hr0]
  refine ⟨_, _, _, .im _ _, ?_⟩
  refine A_nil ?_
  refine ⟨[_, _], ⟨rfl, rfl, trivial⟩, trivial, m, u, w, rfl, hb, hu1, hw1, fun pc => ?_⟩
  -- return [tuple([_law_dot(ps, col) for col in cols]) for ps in one_mat]
  refine S_one ?_
  refine S1_frz (i := 2) rfl (frz_L (K := G.K)) ?_
  refine S1_ret ?_
  refine E_lc (own := [("ps", 3)]) (rT G.K (rQ G.K)) hX rfl ?_
  refine I_list hX ?_
  refine E_name (i := 0) hX rfl (.inl rfl) rfl ?_  -- one_mat
  refine ⟨_, _, _, .im _ _, ?_⟩
  refine ⟨fun i out τ => out = (a.take i).map (fun r => (colsM w m).map fun c => dotR r c) ∧ τ = [.im (rL G.K (rT G.K (rQ G.K))) a, .im (rL G.K (rT G.K (rQ G.K))) m, .im (rL G.K (rT G.K (rQ G.K))) (colsM w m), .no, .no], ⟨by simp, rfl⟩, fun i y hy => ?_, fun out τ hJ p => ?_⟩
  · rintro out τ ⟨ho, hτ⟩ X1 hX1 hf1
    subst hτ
    obtain ⟨r, hr, ey⟩ := mapK_get hy
    subst ey
    have hrm := List.mem_of_getElem? hr
    have hi := (List.getElem?_eq_some_iff.mp hr).1
    have hrl := ha.wide r hrm
    refine TB_cell (i := 3) hX1 (hf1 _ (by rfl)) rfl rfl (by decide) ?_  -- ps
    intro X2 hX2
    refine Cs_nil ?_
    refine ⟨fun _ X3 hX3 => ?_, fun h => by cases h⟩
    refine E_tuple (rQ G.K) hX3 rfl B.tuple rfl ?_
    refine E_lc (own := [("col", 4)]) (rQ G.K) hX3 rfl ?_
    refine I_list hX3 ?_
    refine E_name (i := 2) hX3 rfl (.inr (.inl rfl)) rfl ?_  -- cols
    refine ⟨_, _, _, .im _ _, ?_⟩
    refine ⟨fun j out2 τ => out2 = ((colsM w m).take j).map (fun c => dotR r c) ∧ τ = [.im (rL G.K (rT G.K (rQ G.K))) a, .im (rL G.K (rT G.K (rQ G.K))) m, .im (rL G.K (rT G.K (rQ G.K))) (colsM w m), .im (rT G.K (rQ G.K)) r, .no], ⟨by simp, rfl⟩, fun j y hy => ?_, fun out2 τ hJ p2 => ?_⟩
    · rintro out2 τ ⟨ho2, hτ⟩ X4 hX4 hf4
      subst hτ
      obtain ⟨c, hc, ey⟩ := mapK_get hy
      subst ey
      have hcm := List.mem_of_getElem? hc
      have hj := (List.getElem?_eq_some_iff.mp hc).1
      rw [hcT.tall] at hj
      refine TB_name (i := 4) hX4 rfl rfl (by decide) ?_  -- col
      intro X5 hX5
      refine Cs_nil ?_
      refine ⟨fun _ X6 hX6 => ?_, fun h => by cases h⟩
      refine E_call hX6 h2 (by omega) rfl rfl ?_
      refine A_cons rfl ?_
      refine P_name (i := 3) hX6 rfl (.inr (.inl rfl)) rfl (by intro z; cases z) ?_  -- ps
      refine A_cons rfl ?_
      refine P_name (i := 4) hX6 rfl (.inl rfl) rfl (by intro z; cases z) ?_  -- col
      refine A_nil ?_
      refine ⟨[_, _], ⟨rfl, rfl, trivial⟩, trivial, r, c, D, E, M, N, rfl, fa r hrm, colsM_fr fb c hcm, hD, hE, hDE, hM, hN, by rw [hrl]; exact hl, hMN, ?_⟩
      refine ⟨_, .im _ _, ?_, ?_, rfl⟩
      · rw [ho2, List.length_map, List.length_take]; omega
      · rw [ho2, take_get hc, List.map_append]; rfl
    obtain ⟨ho2, hτ⟩ := hJ
    rw [List.length_map, List.take_length] at ho2
    subst hτ
    subst ho2
    refine ⟨_, .inl (.ow (frz_L (K := G.K))), ?_⟩
    refine ⟨_, .im _ _, ?_, ?_, rfl⟩
    · rw [ho, List.length_map, List.length_take]; omega
    · rw [ho, take_get hr, List.map_append]; rfl
  obtain ⟨ho, hτ⟩ := hJ
  rw [List.length_map, List.take_length] at ho
  subst hτ
  have ho : out = prodM a m := by rw [ho]; unfold prodM; rw [hwm]
  subst ho
  exact fin_no (hk p)
def cUnitL (K : PySem.W.Frag) : Ct := fun ks k => ∃ (n : Nat), ks = [.im rI (n : Int)] ∧ n ≤ 1000 ∧ ∀ p, k (.ow p (cL (rT K (rQ K))) (unitM n)) [.no]
theorem scUnitL : FnScope ["many", "k", "j"] ["many"] (defScope (top 52)) := ⟨rfl, rfl, rfl, by decide +kernel, rfl, by decide +kernel, by decide +kernel⟩
theorem unit_num (c : Bool) : (if c then (1 : Int) else 0) = (if c = true then (1 : Rat) else 0).num ∧ (1 : Int) = (((if c = true then (1 : Rat) else 0).den : Nat) : Int) := by cases c <;> exact ⟨rfl, rfl⟩
theorem qUnitL {G : Gm} {f : Addr} {fd : FuncData} (F : Fun G.K "_law_unit" "_law_unit" (top 52) f fd) (hf : G.mg "_law_unit" = some (.ref f)) (b : Binds G.K fd ["many"] [])
    (B : Bi G) : Fn G "_law_unit" 1 (cUnitL G.K) := by
  refine Fn.of F hf b scUnitL (fun ks k ⟨n, h, _⟩ => by rw [h]; rfl) fun X hX hfn hp ks k ⟨n, hks, hn, hk⟩ => ?_
  subst hks
  refine S_one ?_
  refine S1_ret ?_
  refine E_lc (own := [("k", 1)]) (rT G.K (rQ G.K)) hX rfl ?_
  refine I_rng1 hX rfl B.range rfl ?_
  refine E_name (i := 0) hX rfl (.inr (.inl rfl)) rfl ?_  -- many
  refine ⟨_, .im _ _, by omega, by omega, ?_⟩
  refine ⟨fun i out τ => out = (List.range i).map (fun k => (List.range n).map fun j => if j = k then 1 else 0) ∧ τ = [.im rI (n : Int), .no, .no], ⟨rfl, rfl⟩, fun i y hy => ?_, fun out τ hJ p => ?_⟩
  · rintro out τ ⟨ho, hτ⟩ X1 hX1 hf1
    subst hτ
    obtain ⟨hi, ey⟩ := rngK0_get hy
    subst ey
    have hi : i < n := by omega
    refine TB_cell (i := 1) hX1 (hf1 _ (by rfl)) rfl rfl (by decide) ?_  -- k
    intro X2 hX2
    refine Cs_nil ?_
    refine ⟨fun _ X3 hX3 => ?_, fun h => by cases h⟩
    refine E_tuple (rQ G.K) hX3 rfl B.tuple rfl ?_
    refine E_lc (own := [("j", 2)]) (rQ G.K) hX3 rfl ?_
    refine I_rng1 hX3 rfl B.range rfl ?_
    refine E_name (i := 0) hX3 rfl (.inr (.inl rfl)) rfl ?_  -- many
    refine ⟨_, .im _ _, by omega, by omega, ?_⟩
    refine ⟨fun j out2 τ => out2 = (List.range j).map (fun j => if j = i then (1 : Rat) else 0) ∧ τ = [.im rI (n : Int), .im rI (i : Int), .no], ⟨rfl, rfl⟩, fun j y hy => ?_, fun out2 τ hJ p2 => ?_⟩
    · rintro out2 τ ⟨ho2, hτ⟩ X4 hX4 hf4
      subst hτ
      obtain ⟨hj, ey⟩ := rngK0_get hy
      subst ey
      have hj : j < n := by omega
      refine TB_name (i := 2) hX4 rfl rfl (by decide) ?_  -- j
      intro X5 hX5
      refine Cs_nil ?_
      refine ⟨fun _ X6 hX6 => ?_, fun h => by cases h⟩
      refine E_tup hX6 rfl (by decide) ?_
      refine E_intB hX6 rfl B.int rfl ?_
      refine E_eqI ?_
      refine E_name (i := 2) hX6 rfl (.inl rfl) rfl ?_  -- j
      refine ⟨_, .im _ _, ?_⟩
      refine E_name (i := 1) hX6 rfl (.inr (.inl rfl)) rfl ?_  -- k
      refine ⟨_, .im _ _, ?_⟩
      refine ⟨_, .im _ _, ?_⟩
      refine ⟨_, .im _ _, ?_⟩
      refine E_int ?_
      refine ⟨_, .im _ _, ?_⟩
      refine ⟨by simp, _, rQ G.K, (if decide ((j : Int) = (i : Int)) = true then 1 else 0), tup_Q (unit_num _).1 (unit_num _).2, ?_⟩
      refine ⟨_, .im _ _, ?_, ?_, rfl⟩
      · rw [ho2, List.length_map, List.length_range]; omega
      · rw [ho2, List.range_succ, List.map_append]
        congr 1
        show [_] = [_]
        congr 1
        by_cases h : j = i
        · subst h; simp
        · show _ = (if j = i then (1 : Rat) else 0)
          rw [if_neg h, if_neg]
          intro z
          have := of_decide_eq_true z
          exact h (by exact_mod_cast this)
    obtain ⟨ho2, hτ⟩ := hJ
    have e : (rngK 0 ((n : Int).toNat)).length = n := by simp [rngK]
    rw [e] at ho2
    subst hτ
    subst ho2
    refine ⟨_, .inl (.ow (frz_L (K := G.K))), ?_⟩
    refine ⟨_, .im _ _, ?_, ?_, rfl⟩
    · rw [ho, List.length_map, List.length_range]; omega
    · rw [ho, List.range_succ, List.map_append]; rfl
  obtain ⟨ho, hτ⟩ := hJ
  have e : (rngK 0 ((n : Int).toNat)).length = n := by simp [rngK]
  rw [e] at ho
  subst hτ
  subst ho
  exact fin_no (hk p)
end T
end
section
set_option Elab.async false
set_option linter.all false
set_option maxRecDepth 100000
set_option maxHeartbeats 2000000
set_option exponentiation.threshold 10000
namespace T
open PySem PySem.Spec PyProof.Rows L2
theorem small50 {n : Nat} (h : n ≤ 2 ^ 50) : n < 2 ^ 1000 := Nat.lt_of_le_of_lt h (Nat.pow_lt_pow_right (by omega) (by omega))
/-! ### lists against the empty list -/
theorem lay_all {α : Type} {f : α → PyData} (h : ∀ a, (f a).canLay0 = true) : ∀ l : List α, PyData.canLayAll0 (l.map f) = true
  | [] => rfl
  | a :: l => by rw [List.map_cons, PyData.canLayAll0, h a, lay_all h l]; rfl
theorem dep_all {α : Type} {f : α → PyData} {k : Nat} (h : ∀ a, (f a).depth ≤ k) : ∀ l : List α, PyData.depthAll (l.map f) ≤ k
  | [] => Nat.zero_le _
  | a :: l => by
    rw [List.map_cons, PyData.depthAll]
    have := h a
    have := dep_all h l
    omega
def numP (q : Rat) : PyData := .tuple [.int q.num, .int (q.den : Int)]
theorem num_lay (q : Rat) : (numP q).canLay0 = true := by simp [numP, PyData.canLay0, PyData.canLayAll0]
theorem num_dep (q : Rat) : (numP q).depth ≤ 1 := by simp [numP, PyData.depth, PyData.depthAll]
theorem row_lay (r : List Rat) : (PyData.tuple (r.map numP)).canLay0 = true := by rw [PyData.canLay0]; exact lay_all num_lay r
theorem row_dep (r : List Rat) : (PyData.tuple (r.map numP)).depth ≤ 2 := by rw [PyData.depth]; exact Nat.succ_le_succ (dep_all num_dep r)
theorem shp_rows (l : List (List Rat)) : SeqAt.shaped (.list (l.map fun r => .tuple (r.map numP))) = true := by
  have h1 : (PyData.list (l.map fun r => .tuple (r.map numP))).canLay0 = true := by rw [PyData.canLay0]; exact lay_all row_lay l
  have h2 : (PyData.list (l.map fun r => .tuple (r.map numP))).depth ≤ 3 := by rw [PyData.depth]; exact Nat.succ_le_succ (dep_all row_dep l)
  simp [SeqAt.shaped, h1]
  omega
theorem eqv_nilR (l : List (List Rat)) : PyData.eqv (.list (l.map fun r => .tuple (r.map numP))) (.list ((([] : List (List Rat))).map fun r => .tuple (r.map numP))) = decide (l = []) := by
  cases l with
  | nil => rfl
  | cons a l => rfl
/-! ### _law_table -/
def cTable (K : PySem.W.Frag) : Ct := fun ks k => ∃ (p : Addr) (b : Bag) (n t w : Nat), ks = [.ow p (cBag K) b, .im rI (t : Int), .im rI (w : Int)] ∧ Bg n b ∧ n + 200 < 2 ^ 30 ∧ t ≤ 4 ∧ w ≤ 4 ∧
  ∀ q mat b' n', Tab t w mat → FrM 144 3600 mat → n ≤ n' → n' ≤ n + 100 → Bg n' b' → k (.ow q (cL (rT K (rQ K))) mat) [.ow p (cBag K) b', .no, .no]
theorem scTable : FnScope ["bag", "tall", "wide", "made_v", "odd", "k", "p", "x", "j"] ["bag", "tall", "wide"] (defScope (top 50)) := ⟨rfl, rfl, rfl, by decide +kernel, rfl, by decide +kernel, by decide +kernel⟩
theorem qTable {G : Gm} {f : Addr} {fd : FuncData} (F : Fun G.K "_law_table" "_law_table" (top 50) f fd) (hf : G.mg "_law_table" = some (.ref f)) (b : Binds G.K fd ["bag", "tall", "wide"] [])
    (B : Bi G) (h1 : Fn G "_law_draw" 1 (cDraw G.K)) (h3 : Fn G "_law_small" 3 (cSmall G.K)) (h5 : Fn G "_law_mul" 3 (cMulQ G.K)) : Fn G "_law_table" 4 (cTable G.K) := by
  refine Fn.of F hf b scTable (fun ks k ⟨p, b, n, t, w, h, _⟩ => by rw [h]; rfl) fun X hX hfn hp ks k ⟨p, b, n, t, w, hks, hb, hn, ht, hw, hk⟩ => ?_
  subst hks
  -- made_v, odd = ([], _law_draw(bag, 4) == 0)
  refine S_cons ?_
  refine S1_parG (i := 3) (j := 4) hX (pgn hX rfl rfl) (pgnC hX hfn rfl rfl) rfl ?_ rfl
  refine E_lst rfl (A := rT G.K (rQ G.K)) ?_
  refine ⟨by decide, [], rfl, fun q => ?_⟩
  refine E_eqI ?_
  refine E_call hX h1 (by omega) rfl rfl ?_
  refine A_cons rfl ?_
  refine P_name (i := 0) hX rfl (.inr (.inl rfl)) rfl (by intro z; cases z) ?_  -- bag
  refine A_cons rfl ?_
  refine P_val ?_
  refine E_int ?_
  refine ⟨_, _, _, .im _ _, ?_⟩
  refine A_nil ?_
  refine ⟨[_, _], ⟨rfl, rfl, trivial⟩, trivial, p, b, n, 4, rfl, hb, by omega, by decide, by decide, fun d b1 hd hb1 => ?_⟩
  refine ⟨_, .im _ _, ?_⟩
  refine E_int ?_
  refine ⟨_, .im _ _, ?_⟩
  refine ⟨_, _, rfl, ?_⟩
  generalize decide ((d : Int) = 0) = odd
  -- for k in range(tall):
  refine S_cons ?_
  refine S1_for hX hp ?_
  refine I_rng1 hX rfl B.range rfl ?_
  refine E_name (i := 1) hX rfl (.inl rfl) rfl ?_  -- tall
  refine ⟨_, .im _ _, by omega, by omega, ?_⟩
  refine ⟨fun i τ => ∃ (mat : List (List Rat)) (b3 : Bag) (n3 : Nat) (x5 x6 : Kd), Tab i w mat ∧ FrM 144 3600 mat ∧ (∀ r, mat[0]? = some r → FrR 12 60 r) ∧ Bg n3 b3 ∧ n ≤ n3 ∧ n3 ≤ n + 1 + i * 20 ∧ τ = [.ow p (cBag G.K) b3, .im rI (t : Int), .im rI (w : Int), .ow q (cL (rT G.K (rQ G.K))) mat, .im rB odd, x5, x6, .no, .no],
    ⟨[], b1, n + 1, _, _, ⟨rfl, by simp⟩, fun r hr => absurd hr (by simp), by simp, hb1, by omega, by omega, rfl⟩, fun i y τ hy hI => ?_, fun τ hI => ?_⟩
  · obtain ⟨mat, b3, n3, x5, x6, hT, hF, h0, hb3, hn3, hn4, hτ⟩ := hI
    subst hτ
    obtain ⟨hi, ey⟩ := rngK0_get hy
    subst ey
    have hi : i < t := by omega
    have hml := hT.tall
    refine T_name (i := 5) hX rfl rfl ?_  -- k
    -- if made_v != [] and _law_draw(bag, 6) == 0:
    refine S_join (fun τ => ∃ (r : List Rat) (b4 : Bag) (n4 : Nat) (x5 x6 : Kd), r.length = w ∧ FrR 144 3600 r ∧ (mat.length = 0 → FrR 12 60 r) ∧ Bg n4 b4 ∧ n3 ≤ n4 ∧ n4 ≤ n3 + 20 ∧ τ = [.ow p (cBag G.K) b4, .im rI (t : Int), .im rI (w : Int), .ow q (cL (rT G.K (rQ G.K))) (mat ++ [r]), .im rB odd, x5, x6, .no, .no]) ?_ fun τ ⟨r, b4, n4, x5, x6, hr, hf, hf0, hb4, hn5, hn6, hτ⟩ => ?_
    · refine S1_if ?_
      refine C_via (fun c τ => ∃ b4 n4, Bg n4 b4 ∧ n3 ≤ n4 ∧ n4 ≤ n3 + 1 ∧ (c = true → mat ≠ []) ∧ τ = [.ow p (cBag G.K) b4, .im rI (t : Int), .im rI (w : Int), .ow q (cL (rT G.K (rQ G.K))) mat, .im rB odd, .im rI (i : Int), x6, .no, .no]) ?_ ?_
      · refine C_and2 ?_
        refine C_peek (τp := [.no, .no, .no, .im (rL G.K (rT G.K (rQ G.K))) mat, .no, .no, .no, .no, .no]) ⟨.inl rfl, .inl rfl, .inl rfl, .inr (.ow (frz_L (K := G.K))), .inl rfl, .inl rfl, .inl rfl, .inl rfl, .inl rfl, trivial⟩ ?_
        refine C_neD hX (deep_L (deep_T deep_Q)) (deep_L (deep_T deep_Q)) ?_
        refine E_name (i := 3) hX rfl (.inl rfl) rfl ?_  -- made_v
        refine ⟨_, .im _ _, ?_⟩
        refine E_lst rfl (A := rT G.K (rQ G.K)) ?_
        refine ⟨by decide, [], rfl, fun p2 => ?_⟩
        refine ⟨_, .ow (frz_L (K := G.K)), shp_rows mat, shp_rows [], ?_⟩
        rw [show PyData.eqv (.list (mat.map fun r => .tuple (r.map fun q => .tuple [.int q.num, .int (q.den : Int)]))) (.list ((([] : List (List Rat))).map fun r => .tuple (r.map fun q => .tuple [.int q.num, .int (q.den : Int)]))) = decide (mat = []) from eqv_nilR mat]
        refine ⟨fun hc => ?_, fun hc => ⟨b3, n3, hb3, by omega, by omega, fun h => (by cases h), rfl⟩⟩
        have hne : mat ≠ [] := fun z => by rw [z] at hc; cases hc
        refine C_eqI ?_
        refine E_call hX h1 (by omega) rfl rfl ?_
        refine A_cons rfl ?_
        refine P_name (i := 0) hX rfl (.inr (.inl rfl)) rfl (by intro z; cases z) ?_  -- bag
        refine A_cons rfl ?_
        refine P_val ?_
        refine E_int ?_
        refine ⟨_, _, _, .im _ _, ?_⟩
        refine A_nil ?_
        refine ⟨[_, _], ⟨rfl, rfl, trivial⟩, trivial, p, b3, n3, 6, rfl, hb3, by omega, by decide, by decide, fun d b4 hd hb4 => ?_⟩
        refine ⟨_, .im _ _, ?_⟩
        refine E_int ?_
        refine ⟨_, .im _ _, ?_⟩
        exact ⟨b4, n3 + 1, hb4, by omega, by omega, fun _ => hne, rfl⟩
      rintro c τ ⟨b4, n4, hb4, hn5, hn6, hc1, hτ⟩
      subst hτ
      refine ⟨fun hc => ?_, fun _ => ?_⟩
      · have hm1 := hc1 hc
        have hm2 : 0 < mat.length := List.length_pos_iff.mpr hm1
        -- p = _law_small(bag, odd)
        refine S_cons ?_
        refine S1_setC (i := 6) hX hfn rfl rfl ?_  -- p
        refine E_call hX h3 (by omega) rfl rfl ?_
        refine A_cons rfl ?_
        refine P_name (i := 0) hX rfl (.inr (.inl rfl)) rfl (by intro z; cases z) ?_  -- bag
        refine A_cons rfl ?_
        refine P_name (i := 4) hX rfl (.inr (.inl rfl)) rfl (by intro z; cases z) ?_  -- odd
        refine A_nil ?_
        refine ⟨[_, _], ⟨rfl, rfl, trivial⟩, trivial, p, b4, n4, odd, rfl, hb4, by omega, fun u b5 n5 hu hn7 hn8 hb5 => ?_⟩
        have e0 : mat[0]? = some mat[0] := List.getElem?_eq_getElem hm2
        have a1 := hT.wide _ (List.mem_of_getElem? e0)
        have a3 := h0 _ e0
        generalize mat[0] = row0 at *
        have hu1 := hu.fr
        -- made_v.append(tuple([_law_mul(p, x) for x in made_v[0]]))
        refine S_one ?_
        refine S1_expr ?_
        refine E_append (j := 3) (A := rT G.K (rQ G.K)) (q := q) hX rfl (.inl rfl) rfl rfl ?_
        refine E_tuple (rQ G.K) hX rfl B.tuple rfl ?_
        refine E_lc (own := [("x", 7)]) (rQ G.K) hX rfl ?_
        refine I_tup hX ?_
        refine E_ix hX (fun _ _ => rfl) ?_
        refine P_name (i := 3) hX rfl (.inl rfl) rfl (by intro z; cases z) ?_  -- made_v
        refine E_int ?_
        refine ⟨_, .im _ _, _, rfl, _, _, row0, ix_cL (at_0 e0), ?_⟩
        refine ⟨_, _, _, .im _ _, ?_⟩
        refine ⟨fun j out τ => out = (row0.take j).map (fun x => u * x) ∧ τ = [.ow p (cBag G.K) b5, .im rI (t : Int), .im rI (w : Int), .ow q (cL (rT G.K (rQ G.K))) mat, .im rB odd, .im rI (i : Int), .im (rQ G.K) u, .no, .no], ⟨by simp, rfl⟩, fun j y hy => ?_, fun out τ hJ pl => ?_⟩
        · rintro out τ ⟨ho, hτ⟩ X1 hX1 hf1
          subst hτ
          obtain ⟨x, hx, ey⟩ := mapK_get hy
          subst ey
          have hxm := List.mem_of_getElem? hx
          have hj := (List.getElem?_eq_some_iff.mp hx).1
          refine TB_name (i := 7) hX1 rfl rfl (by decide) ?_  -- x
          intro X2 hX2
          refine Cs_nil ?_
          refine ⟨fun _ X3 hX3 => ?_, fun h => by cases h⟩
          refine E_call hX3 h5 (by omega) rfl rfl ?_
          refine A_cons rfl ?_
          refine P_name (i := 6) hX3 rfl (.inr (.inl rfl)) rfl (by intro z; cases z) ?_  -- p
          refine A_cons rfl ?_
          refine P_name (i := 7) hX3 rfl (.inl rfl) rfl (by intro z; cases z) ?_  -- x
          refine A_nil ?_
          refine ⟨[_, _], ⟨rfl, rfl, trivial⟩, trivial, u, x, rfl, hu1.qb (by omega) (small50 (by omega)) (small50 (by omega)), (a3 x hxm).qb (by omega) (small50 (by omega)) (small50 (by omega)), ?_⟩
          refine ⟨_, .im _ _, ?_, ?_, rfl⟩
          · rw [ho, List.length_map, List.length_take]; omega
          · rw [ho, take_get hx, List.map_append]; rfl
        obtain ⟨ho, hτ⟩ := hJ
        rw [List.length_map, List.take_length] at ho
        subst hτ
        subst ho
        refine ⟨_, .inl (.ow (frz_L (K := G.K))), ?_⟩
        refine ⟨_, .im _ _, mat, rfl, by omega, ?_⟩
        refine ⟨row0.map fun x => u * x, b5, n5, _, _, by rw [List.length_map]; exact a1, fun y hy => ?_, fun z => (by omega), hb5, by omega, by omega, rfl⟩
        obtain ⟨x, hx, e⟩ := List.mem_map.mp hy
        rw [← e]
        exact hu1.mul (a3 x hx)
      · -- made_v.append(tuple([_law_small(bag, odd) for j in range(wide)]))
        refine S_one ?_
        refine S1_expr ?_
        refine E_append (j := 3) (A := rT G.K (rQ G.K)) (q := q) hX rfl (.inl rfl) rfl rfl ?_
        refine E_tuple (rQ G.K) hX rfl B.tuple rfl ?_
        refine E_lc (own := [("j", 8)]) (rQ G.K) hX rfl ?_
        refine I_rng1 hX rfl B.range rfl ?_
        refine E_name (i := 2) hX rfl (.inl rfl) rfl ?_  -- wide
        refine ⟨_, .im _ _, by omega, by omega, ?_⟩
        refine ⟨fun j out τ => ∃ b5 n5, out.length = j ∧ FrR 12 60 out ∧ Bg n5 b5 ∧ n4 ≤ n5 ∧ n5 ≤ n4 + 3 * j ∧ τ = [.ow p (cBag G.K) b5, .im rI (t : Int), .im rI (w : Int), .ow q (cL (rT G.K (rQ G.K))) mat, .im rB odd, .im rI (i : Int), x6, .no, .no], ⟨b4, n4, rfl, fun x hx => absurd hx (by simp), hb4, by omega, by omega, rfl⟩, fun j y hy => ?_, fun out τ hJ pl => ?_⟩
        · rintro out τ ⟨b5, n5, ho, hof, hb5, hn7, hn8, hτ⟩ X1 hX1 hf1
          subst hτ
          obtain ⟨hj, ey⟩ := rngK0_get hy
          have hj : j < w := by omega
          refine TB_name (i := 8) hX1 rfl rfl (by decide) ?_  -- j
          intro X2 hX2
          refine Cs_nil ?_
          refine ⟨fun _ X3 hX3 => ?_, fun h => by cases h⟩
          refine E_call hX3 h3 (by omega) rfl rfl ?_
          refine A_cons rfl ?_
          refine P_name (i := 0) hX3 rfl (.inr (.inl rfl)) rfl (by intro z; cases z) ?_  -- bag
          refine A_cons rfl ?_
          refine P_name (i := 4) hX3 rfl (.inr (.inl rfl)) rfl (by intro z; cases z) ?_  -- odd
          refine A_nil ?_
          refine ⟨[_, _], ⟨rfl, rfl, trivial⟩, trivial, p, b5, n5, odd, rfl, hb5, by omega, fun u b6 n6 hu hn9 hn10 hb6 => ?_⟩
          refine ⟨_, .im _ _, by omega, ?_⟩
          refine ⟨b6, n6, by rw [List.length_append]; simp; omega, fun x hx => ?_, hb6, by omega, by omega, rfl⟩
          rcases List.mem_append.mp hx with z | z
          · exact hof x z
          · rw [List.mem_singleton.mp z]; exact hu.fr
        obtain ⟨b5, n5, ho, hof, hb5, hn7, hn8, hτ⟩ := hJ
        have e : (rngK 0 ((w : Int).toNat)).length = w := by simp [rngK]
        rw [e] at ho hn8
        subst hτ
        refine ⟨_, .inl (.ow (frz_L (K := G.K))), ?_⟩
        refine ⟨_, .im _ _, mat, rfl, by omega, ?_⟩
        exact ⟨out, b5, n5, _, _, ho, fun x hx => ((hof x hx).up 12).le (by omega), fun _ => hof, hb5, by omega, by omega, rfl⟩
    subst hτ
    refine S_nil ⟨mat ++ [r], b4, n4, x5, x6, ⟨by rw [List.length_append, hml]; rfl, fun s hs => ?_⟩, fun s hs => ?_, fun s hs => ?_, hb4, by omega, by omega, rfl⟩
    · rcases List.mem_append.mp hs with z | z
      · exact hT.wide s z
      · rw [List.mem_singleton.mp z]; exact hr
    · rcases List.mem_append.mp hs with z | z
      · exact hF s z
      · rw [List.mem_singleton.mp z]; exact hf
    · by_cases hz : mat.length = 0
      · have e : mat = [] := List.eq_nil_of_length_eq_zero hz
        rw [e] at hs
        have : s = r := (Option.some.inj hs).symm
        rw [this]; exact hf0 hz
      · rw [List.getElem?_append_left (by omega)] at hs
        exact h0 s hs
  · obtain ⟨mat, b3, n3, x5, x6, hT, hF, h0, hb3, hn3, hn4, hτ⟩ := hI
    have e : (rngK 0 ((t : Int).toNat)).length = t := by simp [rngK]
    rw [e] at hT hn4
    subst hτ
    -- return made_v
    refine S_one ?_
    refine S1_ret ?_
    refine E_own (i := 3) hX rfl (.inl rfl) rfl ?_
    exact fin_bag (x := .ow q (cL (rT G.K (rQ G.K))) mat) (xs := [.im rI (t : Int), .im rI (w : Int)]) 0 rfl (hk q mat b3 n3 hT hF hn3 (by omega) hb3)
end T
end
section
set_option Elab.async false
set_option linter.all false
set_option maxRecDepth 100000
set_option maxHeartbeats 2000000
set_option exponentiation.threshold 10000
namespace T
open PySem PySem.Spec PyProof.Rows L2
/-! ### numbers of tables as they are handed in; sum(..) -/
def gvRow (r : List Rat) : List Giv := r.map fun q => .inr (q.num, (q.den : Int))
theorem gv_row (r : List Rat) : (gvRow r).map gv = r := by
  unfold gvRow
  rw [List.map_map]
  conv => rhs; rw [← List.map_id r]
  refine List.map_congr_left fun q _ => ?_
  show (q.num : Rat) / ((q.den : Int) : Rat) = q
  exact (q_eq q).symm
theorem gv_rows (l : List (List Rat)) : qmat (l.map gvRow) = l := by
  unfold qmat
  rw [List.map_map]
  conv => rhs; rw [← List.map_id l]
  exact List.map_congr_left fun r _ => gv_row r
theorem pair_map {α β : Type} {A : DR α} {B : DR β} {R : Hp} {f : α → β} (h : ∀ v a, A.rel R v a → B.rel R v (f a)) : ∀ {xs : List V} {l : List α}, Paired (A.rel R) xs l → Paired (B.rel R) xs (l.map f)
  | _, _, .nil => .nil
  | _, _, .cons r t => .cons (h _ _ r) (pair_map h t)
theorem fz_gvs {K : PySem.W.Frag} {l : List (List Rat)} : ∀ R v, (rL K (rT K (rQ K))).rel R v l → (rMat K).rel R v (l.map gvRow) := fun R v ⟨a, xs, e, h, hp⟩ =>
  ⟨a, xs, e, h, pair_map (A := rT K (rQ K)) (B := rLT K (rGiv K)) (f := gvRow) (fun v r ⟨a', xs', e', h', hp'⟩ => .inr ⟨a', xs', e', h', pair_map (A := rQ K) (B := rGiv K) (fun v q hq => giv_Q hq) hp'⟩) hp⟩
theorem width_gv {t w : Nat} {m : List (List Rat)} (h : Tab t w m) (ht : 0 < t) : widthOf (m.map gvRow) = w := by
  cases m with
  | nil => have := h.tall; simp at this; omega
  | cons r m => show (gvRow r).length = w; unfold gvRow; rw [List.length_map]; exact h.wide r List.mem_cons_self

theorem ints_of {R : Hp} : ∀ {xs : List V} {l : List Int}, Paired (rI.rel R) xs l → xs = l.map V.int
  | _, _, .nil => rfl
  | _, _, .cons r t => by cases r; rw [ints_of t]; rfl
theorem E_sum {G : Gm} {X : Cx} {N : List Str} {sc : Scope} {n : Nat} {τ : Tau} {k : KK} {e : Expr} {p pos : Pos} (hX : XF G X N sc n) (hg : sc.names.lookup ("sum" : Str) = some .globalImplicit) (hm : G.mg ("sum" : Str) = none) (hs : noStar [e] = true)
    (h : E X e τ fun x τ1 => ∃ l : List Int, Fz x (.im (rL G.K rI) l) ∧ k (.im rI l.sum) τ1) : E X (.Call (.Name "sum" p) [e] [] pos) τ k :=
  E.of (pe_callB (cr_sum hX.calm) (hX.gl hg) (hX.mgN hm) boot_sumB (pa1 hs) (he := star_of hs _ _ (List.suffix_refl _))) fun σ H F R0 R Q ok q =>
    h σ H F R0 R _ ok fun x τ1 v R1 H1 ⟨l, fz, hk⟩ l1 ok1 w1 => by
      obtain ⟨R2, l2, ok2, pa, xs, e1, h1, hp⟩ := fz_rel ok1 w1 fz
      refine ⟨pa, l, by rw [e1], ?_, q _ τ1 _ R2 _ hk (l1.trans l2) ok2 (VOk.im rfl)⟩
      rw [← ints_of hp, hX.eK]
      exact .inl (ok2.le.rd h1)
/-! ### columns_of, turned -/
def cColsOf (K : PySem.W.Frag) : Ct := fun ks k => ∃ (m : List (List Rat)) (t w : Nat), ks = [.im (rL K (rT K (rQ K))) m] ∧ Tab t w m ∧ 0 < t ∧ t ≤ 1000 ∧ w ≤ 1000 ∧ ∀ p, k (.ow p (cL (rT K (rQ K))) (colsM w m)) [.no]
theorem scColsOf : FnScope ["rows", "at", "row"] ["rows"] (defScope (top 20)) := ⟨rfl, rfl, rfl, by decide +kernel, rfl, by decide +kernel, by decide +kernel⟩
theorem qColsOf {G : Gm} {f : Addr} {fd : FuncData} (F : Fun G.K "columns_of" "columns_of" (top 20) f fd) (hf : G.mg "columns_of" = some (.ref f)) (b : Binds G.K fd ["rows"] [])
    (B : Bi G) (h1 : Fn G "width_of" 1 (cWidth G.K)) : Fn G "columns_of" 2 (cColsOf G.K) := by
  refine Fn.of F hf b scColsOf (fun ks k ⟨m, t, w, h, _⟩ => by rw [h]; rfl) fun X hX hfn hp ks k ⟨m, t, w, hks, hT, ht0, ht, hw, hk⟩ => ?_
  subst hks
  have hct := hT.tall
  -- return [tuple([row[at] for row in rows]) for at in range(width_of(rows))]
  refine S_one ?_
  refine S1_ret ?_
  refine E_lc (own := [("at", 1)]) (rT G.K (rQ G.K)) hX rfl ?_
  refine I_rng1 hX rfl B.range rfl ?_
  refine E_call hX h1 (by omega) rfl rfl ?_
  refine A_cons rfl ?_
  refine P_val ?_
  refine E_name (i := 0) hX rfl (.inr (.inl rfl)) rfl ?_  -- rows
  refine ⟨_, rMat G.K, m.map gvRow, .cv fz_gvs, ?_⟩
  refine A_nil ?_
  refine ⟨[_], ⟨rfl, trivial⟩, trivial, m.map gvRow, rfl, ?_⟩
  rw [width_gv hT ht0]
  refine ⟨_, .im _ _, by omega, by omega, ?_⟩
  refine ⟨fun i out τ => out = (List.range i).map (fun k => m.map fun c => c[k]?.getD 0) ∧ τ = [.im (rL G.K (rT G.K (rQ G.K))) m, .no, .no], ⟨rfl, rfl⟩, fun i y hy => ?_, fun out τ hJ p => ?_⟩
  · rintro out τ ⟨ho, hτ⟩ X1 hX1 hf1
    subst hτ
    obtain ⟨hi, ey⟩ := rngK0_get hy
    subst ey
    have hi : i < w := by omega
    refine TB_cell (i := 1) hX1 (hf1 _ (by rfl)) rfl rfl (by decide) ?_  -- at
    intro X2 hX2
    refine Cs_nil ?_
    refine ⟨fun _ X3 hX3 => ?_, fun h => by cases h⟩
    refine E_tuple (rQ G.K) hX3 rfl B.tuple rfl ?_
    refine E_lc (own := [("row", 2)]) (rQ G.K) hX3 rfl ?_
    refine I_list hX3 ?_
    refine E_name (i := 0) hX3 rfl (.inr (.inl rfl)) rfl ?_  -- rows
    refine ⟨_, _, _, .im _ _, ?_⟩
    refine ⟨fun j out2 τ => out2 = (m.take j).map (fun c => c[i]?.getD 0) ∧ τ = [.im (rL G.K (rT G.K (rQ G.K))) m, .im rI (i : Int), .no], ⟨by simp, rfl⟩, fun j y hy => ?_, fun out2 τ hJ p2 => ?_⟩
    · rintro out2 τ ⟨ho2, hτ⟩ X4 hX4 hf4
      subst hτ
      obtain ⟨c, hc, ey⟩ := mapK_get hy
      subst ey
      have hcl := hT.wide c (List.mem_of_getElem? hc)
      have hj := (List.getElem?_eq_some_iff.mp hc).1
      obtain ⟨x, hx⟩ : ∃ x, c[i]? = some x := ⟨_, List.getElem?_eq_getElem (by omega)⟩
      refine TB_name (i := 2) hX4 rfl rfl (by decide) ?_  -- row
      intro X5 hX5
      refine Cs_nil ?_
      refine ⟨fun _ X6 hX6 => ?_, fun h => by cases h⟩
      refine E_ix hX6 (fun _ _ => rfl) ?_
      refine P_name (i := 2) hX6 rfl (.inl rfl) rfl (by intro z; cases z) ?_  -- row
      refine E_name (i := 1) hX6 rfl (.inr (.inl rfl)) rfl ?_  -- at
      refine ⟨_, .im _ _, _, rfl, _, _, x, ix_T (at_nat hx), ?_⟩
      refine ⟨_, .im _ _, ?_, ?_, rfl⟩
      · rw [ho2, List.length_map, List.length_take]; omega
      · rw [ho2, take_get hc, List.map_append]
        show _ = _ ++ [c[i]?.getD 0]
        rw [hx]; rfl
    obtain ⟨ho2, hτ⟩ := hJ
    rw [List.length_map, List.take_length] at ho2
    subst hτ
    subst ho2
    refine ⟨_, .inl (.ow (frz_L (K := G.K))), ?_⟩
    refine ⟨_, .im _ _, ?_, ?_, rfl⟩
    · rw [ho, List.length_map, List.length_range]; omega
    · rw [ho, List.range_succ, List.map_append]; rfl
  obtain ⟨ho, hτ⟩ := hJ
  have e : (rngK 0 ((w : Int).toNat)).length = w := by simp [rngK]
  rw [e] at ho
  subst hτ
  subst ho
  exact fin_no (hk p)
def cTurned (K : PySem.W.Frag) : Ct := fun ks k => ∃ (m : Mat) (t w : Nat), ks = [.im (rMat K) m] ∧ GivOk (widthOf m) m ∧ Tab t w (qmat m) ∧ 0 < t ∧ t ≤ 1000 ∧ w ≤ 1000 ∧ ∀ p, k (.ow p (cL (rT K (rQ K))) (colsM w (qmat m))) [.no]
theorem scTurned : FnScope ["rows"] ["rows"] (defScope (top 21)) := ⟨rfl, rfl, rfl, by decide +kernel, rfl, by decide +kernel, by decide +kernel⟩
theorem qTurned {G : Gm} {f : Addr} {fd : FuncData} (F : Fun G.K "turned" "turned" (top 21) f fd) (hf : G.mg "turned" = some (.ref f)) (b : Binds G.K fd ["rows"] [])
    (B : Bi G) (h1 : Fn G "columns_of" 2 (cColsOf G.K)) (h2 : Fn G "made_matrix" 6 (cMadeMat G.K)) : Fn G "turned" 7 (cTurned G.K) := by
  refine Fn.of F hf b scTurned (fun ks k ⟨m, t, w, h, _⟩ => by rw [h]; rfl) fun X hX hfn hp ks k ⟨m, t, w, hks, hg, hT, ht0, ht, hw, hk⟩ => ?_
  subst hks
  -- return columns_of(made_matrix(rows))
  refine S_one ?_
  refine S1_ret ?_
  refine E_call hX h1 (by omega) rfl rfl ?_
  refine A_cons rfl ?_
  refine P_val ?_
  refine E_call hX h2 (by omega) rfl rfl ?_
  refine A_cons rfl ?_
  refine P_name (i := 0) hX rfl (.inl rfl) rfl (by intro z; cases z) ?_  -- rows
  refine A_nil ?_
  refine ⟨[_], ⟨rfl, trivial⟩, trivial, m, rfl, hg, fun p => ?_⟩
  refine ⟨_, _, _, .ow (frz_L (K := G.K)), ?_⟩
  refine A_nil ?_
  exact ⟨[_], ⟨rfl, trivial⟩, trivial, _, t, w, rfl, hT, ht0, ht, hw, fun p => fin_no (hk p)⟩
/-! ### whole_list -/
def cWList (K : PySem.W.Frag) : Ct := fun ks k => ∃ row : List Rat, ks = [.im (rT K (rQ K)) row] ∧ NumOk row ∧ row.length ≤ 1000 ∧ k (.im (rPair K rI (rL K rI)) ((lcmD row : Int), row.map (wnum row))) [.no]
theorem scWList : FnScope ["row", "common", "_", "bottom", "top"] ["row"] (defScope (top 22)) := ⟨rfl, rfl, rfl, by decide +kernel, rfl, by decide +kernel, by decide +kernel⟩
theorem qWList {G : Gm} {f : Addr} {fd : FuncData} (F : Fun G.K "whole_list" "whole_list" (top 22) f fd) (hf : G.mg "whole_list" = some (.ref f)) (b : Binds G.K fd ["row"] [])
    (B : Bi G) : Fn G "whole_list" 1 (cWList G.K) := by
  refine Fn.of F hf b scWList (fun ks k ⟨row, h, _⟩ => by rw [h]; rfl) fun X hX hfn hp ks k ⟨row, hks, ⟨m, hm0, hmz, hq⟩, hlen, hk⟩ => ?_
  subst hks
  have hcd : ∀ i, (row.take i).foldl (fun c q => Nat.lcm c q.den) 1 ∣ m := fun i => lcm_dvd (fun q h => (hq q (List.mem_of_mem_take h)).1) 1 (Nat.one_dvd m)
  -- common = 1
  refine S_cons ?_
  refine S1_setC (i := 1) hX hfn rfl rfl ?_  -- common
  refine E_int ?_
  -- for _, bottom in row:
  refine S_cons ?_
  refine S1_for hX hp ?_
  refine I_tup hX ?_
  refine E_name (i := 0) hX rfl (.inl rfl) rfl ?_  -- row
  refine ⟨_, _, _, .im _ _, ?_⟩
  refine ⟨fun i τ => ∃ x2 x3, τ = [.im (rT G.K (rQ G.K)) row, .im rI (((row.take i).foldl (fun c q => Nat.lcm c q.den) 1 : Nat) : Int), x2, x3, .no], ⟨_, _, rfl⟩, fun i y τ hy hI => ?_, fun τ hI => ?_⟩
  · obtain ⟨x2, x3, hτ⟩ := hI
    subst hτ
    obtain ⟨q, hg, ey⟩ := mapK_get hy
    subst ey
    have hqm := hq q (List.mem_of_getElem? hg)
    refine T_tup hX rfl un_Q ?_
    refine T_name (i := 2) hX rfl rfl ?_  -- _
    refine T_name (i := 3) hX rfl rfl ?_  -- bottom
    -- common = lcm(common, bottom)
    refine S_one ?_
    refine S1_setC (i := 1) hX hfn rfl rfl ?_  -- common
    refine E_lcm hX rfl B.lcm rfl ?_
    refine E_name (i := 1) hX rfl (.inr (.inl rfl)) rfl ?_  -- common
    refine ⟨_, .im _ _, ?_⟩
    refine E_name (i := 3) hX rfl (.inl rfl) rfl ?_  -- bottom
    refine ⟨_, .im _ _, ?_, ?_, .im rI q.num, .im rI (q.den : Int), ?_⟩
    · have := Nat.le_of_dvd hm0 (hcd i)
      rw [Int.natAbs_natCast]
      exact Nat.lt_of_le_of_lt this (Nat.lt_trans hmz (Nat.pow_lt_pow_right (by omega) (by omega)))
    · have := Nat.le_of_dvd hm0 hqm.1
      rw [Int.natAbs_natCast]
      exact Nat.lt_of_le_of_lt this (Nat.lt_trans hmz (Nat.pow_lt_pow_right (by omega) (by omega)))
    · rw [take_get hg, List.foldl_append]
      simp only [Int.natAbs_natCast]
      rfl
  obtain ⟨x2, x3, hτ⟩ := hI
  rw [List.length_map, List.take_length] at hτ
  subst hτ
  have hcz : lcmD row < 2 ^ 1000 := by
    have := Nat.le_of_dvd hm0 (hcd row.length)
    rw [List.take_length] at this
    exact Nat.lt_of_le_of_lt this hmz
  -- return (common, [top * (common // bottom) for top, bottom in row])
  refine S_one ?_
  refine S1_ret ?_
  refine E_tup hX rfl (by decide) ?_
  refine E_name (i := 1) hX rfl (.inr (.inl rfl)) rfl ?_  -- common
  refine ⟨_, .im _ _, ?_⟩
  refine E_lc (own := [("top", 4), ("bottom", 3)]) rI hX rfl ?_
  refine I_tup hX ?_
  refine E_name (i := 0) hX rfl (.inl rfl) rfl ?_  -- row
  refine ⟨_, _, _, .im _ _, ?_⟩
  refine ⟨fun i out τ => out = (row.take i).map (wnum row) ∧ τ = [.im (rT G.K (rQ G.K)) row, .im rI (lcmD row : Int), x2, .no, .no], ⟨by simp, rfl⟩, fun i y hy => ?_, fun out τ hJ p => ?_⟩
  · rintro out τ ⟨ho, hτ⟩ X1 hX1 hf1
    subst hτ
    obtain ⟨q, hg, ey⟩ := mapK_get hy
    subst ey
    have hi := (List.getElem?_eq_some_iff.mp hg).1
    have hqm := hq q (List.mem_of_getElem? hg)
    refine TB_tup hX1 rfl un_Q ?_
    refine TB_name (i := 4) hX1 rfl rfl (by decide) ?_  -- top
    refine TB_name (i := 3) hX1 rfl rfl (by decide) ?_  -- bottom
    intro X2 hX2
    refine Cs_nil ?_
    refine ⟨fun _ X3 hX3 => ?_, fun h => by cases h⟩
    have hd0 : (q.den : Int) ≠ 0 := by have := q.den_pos; omega
    have hdz : q.den < 2 ^ 1000 := Nat.lt_of_le_of_lt (Nat.le_of_dvd hm0 hqm.1) hmz
    have hdv : ((lcmD row : Int).fdiv (q.den : Int)).natAbs < 2 ^ 1000 := by
      rw [Int.fdiv_eq_ediv_of_nonneg _ (by omega)]
      have : ((lcmD row : Int) / (q.den : Int)) = ((lcmD row / q.den : Nat) : Int) := by rw [Int.natCast_ediv]
      rw [this, Int.natAbs_natCast]
      exact Nat.lt_of_le_of_lt (Nat.div_le_self _ _) hcz
    refine E_mul ?_
    refine E_name (i := 4) hX3 rfl (.inl rfl) rfl ?_  -- top
    refine ⟨_, .im _ _, ?_⟩
    refine E_fdivB ?_
    refine E_name (i := 1) hX3 rfl (.inr (.inl rfl)) rfl ?_  -- common
    refine ⟨_, .im _ _, ?_⟩
    refine E_name (i := 3) hX3 rfl (.inl rfl) rfl ?_  -- bottom
    refine ⟨_, .im _ _, divB_ok hd0 (by rw [Int.natAbs_natCast]; exact Nat.lt_trans hdz (by exact Nat.pow_lt_pow_right (by omega) (by omega))), ?_⟩
    refine ⟨_, .im _ _, mulx_ok hqm.2 hdv (by omega), ?_⟩
    refine ⟨_, .im _ _, ?_, ?_, rfl⟩
    · rw [ho, List.length_map, List.length_take]; omega
    · rw [ho, take_get hg, List.map_append]; rfl
  obtain ⟨ho, hτ⟩ := hJ
  rw [List.length_map, List.take_length] at ho
  subst hτ
  subst ho
  refine ⟨_, .ow (frz_L (K := G.K)), ?_⟩
  exact ⟨by simp, _, _, _, tup_pair, fin_no hk⟩
/-! ### unit_rows, square -/
def OneB (G : Gm) : Prop := ∃ a, G.mg "ONE" = some (.ref a) ∧ ∀ R, SqT G.K R a [.int ((1 : Rat).num), .int (((1 : Rat).den : Nat) : Int)]
def cUnitR (K : PySem.W.Frag) : Ct := fun ks k => ∃ n : Nat, ks = [.im rI (n : Int)] ∧ n ≤ 1000 ∧ ∀ p, k (.ow p (cL (rT K (rQ K))) (unitM n)) [.no]
theorem scUnitR : FnScope ["width", "place", "at"] ["width"] (defScope (top 25)) := ⟨rfl, rfl, rfl, by decide +kernel, rfl, by decide +kernel, by decide +kernel⟩
theorem qUnitR {G : Gm} {f : Addr} {fd : FuncData} (F : Fun G.K "unit_rows" "unit_rows" (top 25) f fd) (hf : G.mg "unit_rows" = some (.ref f)) (b : Binds G.K fd ["width"] [])
    (B : Bi G) (B1 : OneB G) : Fn G "unit_rows" 1 (cUnitR G.K) := by
  refine Fn.of F hf b scUnitR (fun ks k ⟨n, h, _⟩ => by rw [h]; rfl) fun X hX hfn hp ks k ⟨n, hks, hn, hk⟩ => ?_
  subst hks
  obtain ⟨za, hz1, hz2⟩ := B.zero
  obtain ⟨oa, ho1, ho2⟩ := B1
  refine S_one ?_
  refine S1_ret ?_
  refine E_lc (own := [("place", 1)]) (rT G.K (rQ G.K)) hX rfl ?_
  refine I_rng1 hX rfl B.range rfl ?_
  refine E_name (i := 0) hX rfl (.inr (.inl rfl)) rfl ?_  -- width
  refine ⟨_, .im _ _, by omega, by omega, ?_⟩
  refine ⟨fun i out τ => out = (List.range i).map (fun k => (List.range n).map fun j => if j = k then (1 : Rat) else 0) ∧ τ = [.im rI (n : Int), .no, .no], ⟨rfl, rfl⟩, fun i y hy => ?_, fun out τ hJ p => ?_⟩
  · rintro out τ ⟨ho, hτ⟩ X1 hX1 hf1
    subst hτ
    obtain ⟨hi, ey⟩ := rngK0_get hy
    subst ey
    have hi : i < n := by omega
    refine TB_cell (i := 1) hX1 (hf1 _ (by rfl)) rfl rfl (by decide) ?_  -- place
    intro X2 hX2
    refine Cs_nil ?_
    refine ⟨fun _ X3 hX3 => ?_, fun h => by cases h⟩
    refine E_tuple (rQ G.K) hX3 rfl B.tuple rfl ?_
    refine E_lc (own := [("at", 2)]) (rQ G.K) hX3 rfl ?_
    refine I_rng1 hX3 rfl B.range rfl ?_
    refine E_name (i := 0) hX3 rfl (.inr (.inl rfl)) rfl ?_  -- width
    refine ⟨_, .im _ _, by omega, by omega, ?_⟩
    refine ⟨fun j out2 τ => out2 = (List.range j).map (fun j => if j = i then (1 : Rat) else 0) ∧ τ = [.im rI (n : Int), .im rI (i : Int), .no], ⟨rfl, rfl⟩, fun j y hy => ?_, fun out2 τ hJ p2 => ?_⟩
    · rintro out2 τ ⟨ho2', hτ⟩ X4 hX4 hf4
      subst hτ
      obtain ⟨hj, ey⟩ := rngK0_get hy
      subst ey
      have hj : j < n := by omega
      refine TB_name (i := 2) hX4 rfl rfl (by decide) ?_  -- at
      intro X5 hX5
      refine Cs_nil ?_
      refine ⟨fun _ X6 hX6 => ?_, fun h => by cases h⟩
      refine E_via (fun x τ => x = .im (rQ G.K) (if j = i then (1 : Rat) else 0) ∧ τ = [.im rI (n : Int), .im rI (i : Int), .im rI (j : Int)]) ?_ ?_
      · refine E_if ?_
        refine C_eqI ?_
        refine E_name (i := 2) hX6 rfl (.inl rfl) rfl ?_  -- at
        refine ⟨_, .im _ _, ?_⟩
        refine E_name (i := 1) hX6 rfl (.inr (.inl rfl)) rfl ?_  -- place
        refine ⟨_, .im _ _, ?_⟩
        refine ⟨fun hc => ?_, fun hc => ?_⟩
        · have e : j = i := by have := of_decide_eq_true hc; omega
          refine E_glob (v := .ref oa) (u := .ref oa) (A := rQ G.K) (a := 1) hX6 rfl ho1 rfl (fun R => ⟨oa, rfl, ho2 R⟩) ?_
          rw [if_pos e]
          exact ⟨rfl, rfl⟩
        · have e : j ≠ i := by have := of_decide_eq_false hc; omega
          refine E_glob (v := .ref za) (u := .ref za) (A := rQ G.K) (a := 0) hX6 rfl hz1 rfl (fun R => ⟨za, rfl, hz2 R⟩) ?_
          rw [if_neg e]
          exact ⟨rfl, rfl⟩
      · rintro x τ ⟨ex, eτ⟩
        subst ex
        subst eτ
        refine ⟨_, .im _ _, ?_, ?_, rfl⟩
        · rw [ho2', List.length_map, List.length_range]; omega
        · rw [ho2', List.range_succ, List.map_append]; rfl
    obtain ⟨ho2', hτ⟩ := hJ
    have e : (rngK 0 ((n : Int).toNat)).length = n := by simp [rngK]
    rw [e] at ho2'
    subst hτ
    subst ho2'
    refine ⟨_, .inl (.ow (frz_L (K := G.K))), ?_⟩
    refine ⟨_, .im _ _, ?_, ?_, rfl⟩
    · rw [ho, List.length_map, List.length_range]; omega
    · rw [ho, List.range_succ, List.map_append]; rfl
  obtain ⟨ho, hτ⟩ := hJ
  have e : (rngK 0 ((n : Int).toNat)).length = n := by simp [rngK]
  rw [e] at ho
  subst hτ
  subst ho
  exact fin_no (hk p)
def cSquare (K : PySem.W.Frag) : Ct := fun ks k => ∃ (m : Mat) (t : Nat), ks = [.im (rMat K) m] ∧ GivOk (widthOf m) m ∧ Tab t t (qmat m) ∧ 0 < t ∧ ∀ p, k (.ow p (cL (rT K (rQ K))) (qmat m)) [.no]
theorem scSquare : FnScope ["rows", "lines"] ["rows"] (defScope (top 26)) := ⟨rfl, rfl, rfl, by decide +kernel, rfl, by decide +kernel, by decide +kernel⟩
theorem qSquare {G : Gm} {f : Addr} {fd : FuncData} (F : Fun G.K "square" "square" (top 26) f fd) (hf : G.mg "square" = some (.ref f)) (b : Binds G.K fd ["rows"] [])
    (B : Bi G) (h1 : Fn G "made_matrix" 6 (cMadeMat G.K)) (h2 : Fn G "width_of" 1 (cWidth G.K)) : Fn G "square" 7 (cSquare G.K) := by
  refine Fn.of F hf b scSquare (fun ks k ⟨m, t, h, _⟩ => by rw [h]; rfl) fun X hX hfn hp ks k ⟨m, t, hks, hg, hT, ht0, hk⟩ => ?_
  subst hks
  -- lines = made_matrix(rows)
  refine S_cons ?_
  refine S1_set (i := 1) hX rfl rfl ?_  -- lines
  refine E_call hX h1 (by omega) rfl rfl ?_
  refine A_cons rfl ?_
  refine P_name (i := 0) hX rfl (.inl rfl) rfl (by intro z; cases z) ?_  -- rows
  refine A_nil ?_
  refine ⟨[_], ⟨rfl, trivial⟩, trivial, m, rfl, hg, fun p => ?_⟩
  -- if width_of(lines) != len(lines):
  refine S_cons ?_
  refine S1_if ?_
  refine C_peek (τp := [.no, .im (rL G.K (rT G.K (rQ G.K))) (qmat m)]) ⟨.inl rfl, .inr (.ow (frz_L (K := G.K))), trivial⟩ ?_
  refine C_neI ?_
  refine E_call hX h2 (by omega) rfl rfl ?_
  refine A_cons rfl ?_
  refine P_val ?_
  refine E_name (i := 1) hX rfl (.inl rfl) rfl ?_  -- lines
  refine ⟨_, rMat G.K, (qmat m).map gvRow, .cv fz_gvs, ?_⟩
  refine A_nil ?_
  refine ⟨[_], ⟨rfl, trivial⟩, trivial, (qmat m).map gvRow, rfl, ?_⟩
  rw [width_gv hT ht0]
  refine ⟨_, .im _ _, ?_⟩
  refine E_len hX rfl B.len rfl ?_
  refine P_name (i := 1) hX rfl (.inl rfl) rfl (by intro z; cases z) ?_  -- lines
  refine ⟨_, _, rfl, len_L, ?_⟩
  refine ⟨_, .im _ _, ?_⟩
  rw [hT.tall]
  refine ⟨fun hc => absurd hc (by simp), fun _ => ?_⟩
  refine S_nil ?_
  -- return lines
  refine S_one ?_
  refine S1_ret ?_
  refine E_own (i := 1) hX rfl (.inl rfl) rfl ?_
  exact fin_no (hk p)
end T
end
section
set_option Elab.async false
set_option linter.all false
set_option autoImplicit false
set_option maxRecDepth 100000
/-! Plain law: a span's reduced rows are one list only. -/
namespace T
theorem pw_mem {α : Type} {R : α → α → Prop} {a : α} {l : List α} (h : (a :: l).Pairwise R) : ∀ b ∈ l, R a b := (List.pairwise_cons.mp h).1
/-- strictly ascending lists of the same members -/
theorem asc_ext : ∀ {l m : List Int}, l.Pairwise (· < ·) → m.Pairwise (· < ·) → (∀ c, c ∈ l ↔ c ∈ m) → l = m
  | [], [], _, _, _ => rfl
  | [], b :: m, _, _, h => by have := (h b).mpr List.mem_cons_self; simp at this
  | a :: l, [], _, _, h => by have := (h a).mp List.mem_cons_self; simp at this
  | a :: l, b :: m, hl, hm, h => by
    have h1 := pw_mem hl
    have h2 := pw_mem hm
    have e : a = b := by
      rcases List.mem_cons.mp ((h a).mp List.mem_cons_self) with z | z
      · exact z
      · rcases List.mem_cons.mp ((h b).mpr List.mem_cons_self) with y | y
        · exact y.symm
        · have := h2 a z
          have := h1 b y
          omega
    subst e
    refine congrArg _ (asc_ext (List.pairwise_cons.mp hl).2 (List.pairwise_cons.mp hm).2 fun c => ⟨fun hc => ?_, fun hc => ?_⟩)
    · rcases List.mem_cons.mp ((h c).mp (List.mem_cons_of_mem _ hc)) with z | z
      · have := h1 c hc; omega
      · exact z
    · rcases List.mem_cons.mp ((h c).mpr (List.mem_cons_of_mem _ hc)) with z | z
      · have := h2 c hc; omega
      · exact z
/-- one among the other's, and as many -/
theorem asc_sub : ∀ {l m : List Int}, l.Pairwise (· < ·) → m.Pairwise (· < ·) → (∀ c ∈ l, c ∈ m) → m.length ≤ l.length → l = m := by
  intro l
  induction l with
  | nil =>
    intro m _ _ _ h
    exact (List.length_eq_zero_iff.mp (by simpa using h)).symm
  | cons a l ih =>
    intro m hl hm hs hlen
    cases m with
    | nil => have := hs a List.mem_cons_self; simp at this
    | cons b m =>
      have h1 := pw_mem hl
      have h2 := pw_mem hm
      have tl : ∀ c ∈ l, c ∈ m := fun c hc => by
        have hac := h1 c hc
        rcases List.mem_cons.mp (hs c (List.mem_cons_of_mem _ hc)) with z | z
        · -- c = b: then a, smaller, is none of b :: m
          exfalso
          rcases List.mem_cons.mp (hs a List.mem_cons_self) with y | y
          · omega
          · have := h2 a y; omega
        · exact z
      have e := ih (List.pairwise_cons.mp hl).2 (List.pairwise_cons.mp hm).2 tl (by simp at hlen; omega)
      subst e
      rcases List.mem_cons.mp (hs a List.mem_cons_self) with y | y
      · rw [y]
      · have := h1 a y; omega
/-! ### reduced rows -/
structure Rr (P : Vec → Prop) (L : List (Int × Vec)) : Prop where
  asc : (L.map (·.1)).Pairwise (· < ·)
  sub : ∀ p ∈ L, Span P p.2
  one : ∀ p ∈ L, p.2 p.1 = 1
  red : ∀ p ∈ L, ∀ q ∈ L, p.1 ≠ q.1 → p.2 q.1 = 0
  low : ∀ p ∈ L, ∀ j, j < p.1 → p.2 j = 0
  gen : ∀ x, Span P x → (∀ p ∈ L, x p.1 = 0) → ∀ j, x j = 0
def comb (x : Vec) : List (Int × Vec) → Vec
  | [] => fun _ => 0
  | p :: L => fun j => x p.1 * p.2 j + comb x L j
theorem comb_span {P : Vec → Prop} {x : Vec} : ∀ {L : List (Int × Vec)}, (∀ p ∈ L, Span P p.2) → Span P (comb x L)
  | [], _ => .zero
  | p :: L, h => (Span.plus (Span.smul (h p List.mem_cons_self) (x p.1)) (comb_span (L := L) fun q hq => h q (List.mem_cons_of_mem _ hq)))
theorem comb_zero {x : Vec} {j : Int} : ∀ {L : List (Int × Vec)}, (∀ p ∈ L, x p.1 * p.2 j = 0) → comb x L j = 0
  | [], _ => rfl
  | p :: L, h => by
    show x p.1 * p.2 j + comb x L j = 0
    rw [h p List.mem_cons_self, comb_zero (L := L) fun q hq => h q (List.mem_cons_of_mem _ hq)]
    grind
/-- at a lead's place -/
theorem comb_at {x : Vec} {c : Int} : ∀ {L : List (Int × Vec)}, (L.map (·.1)).Pairwise (· < ·) → (∀ p ∈ L, p.2 p.1 = 1) → (∀ p ∈ L, p.1 ≠ c → p.2 c = 0) → c ∈ L.map (·.1) → comb x L c = x c
  | [], _, _, _, h => by simp at h
  | p :: L, ha, h1, h2, h => by
    show x p.1 * p.2 c + comb x L c = x c
    by_cases e : p.1 = c
    · have hz : comb x L c = 0 := comb_zero fun q hq => by
        have hlt := pw_mem (l := L.map (·.1)) (by simpa using ha) q.1 (List.mem_map_of_mem hq)
        rw [h2 q (List.mem_cons_of_mem _ hq) (by omega)]
        grind
      rw [hz, ← e, h1 p List.mem_cons_self]
      grind
    · have hm : c ∈ L.map (·.1) := by
        rcases List.mem_cons.mp (by simpa using h : c ∈ p.1 :: L.map (·.1)) with z | z
        · exact absurd z.symm e
        · exact z
      rw [h2 p List.mem_cons_self e, comb_at (List.pairwise_cons.mp (by simpa using ha : (p.1 :: L.map (·.1)).Pairwise (· < ·))).2 (fun q hq => h1 q (List.mem_cons_of_mem _ hq)) (fun q hq => h2 q (List.mem_cons_of_mem _ hq)) hm]
      grind
theorem Rr.lead_eq {P : Vec → Prop} {L : List (Int × Vec)} (h : Rr P L) {x : Vec} {p : Int × Vec} (hp : p ∈ L) : comb x L p.1 = x p.1 :=
  comb_at h.asc h.one (fun q hq hne => h.red q hq p hp hne) (List.mem_map_of_mem hp)
/-- every vector of the span out of its numbers at the leads -/
theorem Rr.expand {P : Vec → Prop} {L : List (Int × Vec)} (h : Rr P L) {x : Vec} (hx : Span P x) (j : Int) : x j = comb x L j := by
  have h1 : Span P (fun j => x j + (-1) * comb x L j) := Span.plus hx (Span.smul (comb_span h.sub) (-1))
  have h2 := h.gen _ h1 (fun p hp => by
    show x p.1 + (-1) * comb x L p.1 = 0
    rw [h.lead_eq hp]; grind) j
  have h2 : x j + (-1) * comb x L j = 0 := h2
  grind
/-- what a lead is, told without the rows -/
theorem Rr.lead_iff {P : Vec → Prop} {L : List (Int × Vec)} (h : Rr P L) (c : Int) : c ∈ L.map (·.1) ↔ ∃ x, Span P x ∧ x c ≠ 0 ∧ ∀ j, j < c → x j = 0 := by
  constructor
  · intro hc
    obtain ⟨p, hp, e⟩ := List.mem_map.mp hc
    have e : p.1 = c := e
    subst e
    exact ⟨p.2, h.sub p hp, by rw [h.one p hp]; decide, h.low p hp⟩
  · rintro ⟨x, hx, h0, hl⟩
    refine Classical.byContradiction fun hn => h0 ?_
    rw [h.expand hx c]
    refine comb_zero fun p hp => ?_
    have hne : p.1 ≠ c := fun z => hn (by rw [← z]; exact List.mem_map_of_mem hp)
    rcases Int.lt_or_lt_of_ne hne with z | z
    · rw [hl p.1 z]; grind
    · rw [h.low p hp c z]; grind
theorem list_ext {α β : Type} : ∀ {l m : List (α × β)}, l.map (·.1) = m.map (·.1) → (∀ p ∈ l, ∀ q ∈ m, p.1 = q.1 → p.2 = q.2) → l = m
  | [], [], _, _ => rfl
  | [], _ :: _, h, _ => by simp at h
  | _ :: _, [], h, _ => by simp at h
  | p :: l, q :: m, h, h' => by
    simp only [List.map_cons, List.cons.injEq] at h
    have e : p = q := Prod.ext h.1 (h' p List.mem_cons_self q List.mem_cons_self h.1)
    rw [e, list_ext h.2 fun a ha b hb => h' a (List.mem_cons_of_mem _ ha) b (List.mem_cons_of_mem _ hb)]
theorem Rr.one_list {P Q : Vec → Prop} {L M : List (Int × Vec)} (h : Rr P L) (h' : Rr Q M) (hs : ∀ x, Span P x ↔ Span Q x) : L = M := by
  have el : L.map (·.1) = M.map (·.1) := asc_ext h.asc h'.asc fun c => by
    rw [h.lead_iff, h'.lead_iff]
    exact ⟨fun ⟨x, a, b⟩ => ⟨x, (hs x).mp a, b⟩, fun ⟨x, a, b⟩ => ⟨x, (hs x).mpr a, b⟩⟩
  refine list_ext el fun p hp q hq e => funext fun j => ?_
  have h1 : Span P (fun j => p.2 j + (-1) * q.2 j) := Span.plus (h.sub p hp) (Span.smul ((hs _).mpr (h'.sub q hq)) (-1))
  have h2 := h.gen _ h1 (fun r hr => by
    show p.2 r.1 + (-1) * q.2 r.1 = 0
    by_cases er : p.1 = r.1
    · have e1 : q.2 r.1 = 1 := by rw [← er, e]; exact h'.one q hq
      rw [← er] at e1 ⊢
      rw [h.one p hp, e1]; grind
    · have e1 := h.red p hp r hr er
      have hm : r.1 ∈ M.map (·.1) := by rw [← el]; exact List.mem_map_of_mem hr
      obtain ⟨s, hsM, es⟩ := List.mem_map.mp hm
      have es : s.1 = r.1 := es
      have e2 := h'.red q hq s hsM (by rw [← e, es]; exact er)
      rw [e1, ← es, e2]; grind) j
  have h2 : p.2 j + (-1) * q.2 j = 0 := h2
  grind
/-- as many leads with a vector more: it was in the span -/
theorem Rr.more {P Q : Vec → Prop} {L M : List (Int × Vec)} (h : Rr P L) (h' : Rr Q M) (hs : ∀ x, Span P x → Span Q x) (hlen : M.length ≤ L.length) {x : Vec} (hx : Span Q x) : Span P x := by
  have el : L.map (·.1) = M.map (·.1) := asc_sub h.asc h'.asc (fun c hc => by
    rw [h.lead_iff] at hc
    rw [h'.lead_iff]
    obtain ⟨x, a, b⟩ := hc
    exact ⟨x, hs x a, b⟩) (by rw [List.length_map, List.length_map]; exact hlen)
  have hc := comb_span (x := x) h.sub
  have h1 : Span Q (fun j => x j + (-1) * comb x L j) := Span.plus hx (Span.smul (hs _ hc) (-1))
  have h2 := h'.gen _ h1 (fun p hp => by
    have hm : p.1 ∈ L.map (·.1) := by rw [el]; exact List.mem_map_of_mem hp
    obtain ⟨s, hsL, es⟩ := List.mem_map.mp hm
    have es : s.1 = p.1 := es
    show x p.1 + (-1) * comb x L p.1 = 0
    rw [← es, h.lead_eq hsL]; grind)
  refine hc.cast fun j => ?_
  have h3 : x j + (-1) * comb x L j = 0 := h2 j
  grind
end T
end
section
set_option Elab.async false
set_option linter.all false
set_option maxRecDepth 100000
set_option maxHeartbeats 2000000
/-! Plain law: the program's rows and the law's rows are one list. -/
namespace T
/-! ### whole_row -/
theorem whole_mem {row : List Rat} {p : Int × Int} : p ∈ wholeRow row ↔ ∃ (i : Nat) (q : Rat), row[i]? = some q ∧ q.num ≠ 0 ∧ p = ((i : Int), wnum row q) := by
  unfold wholeRow
  rw [List.mem_filterMap]
  constructor
  · rintro ⟨a, ha, e⟩
    obtain ⟨i, hi⟩ := List.mem_iff_getElem?.mp ha
    rw [List.getElem?_mapIdx] at hi
    cases hq : row[i]? with
    | none => rw [hq] at hi; cases hi
    | some q =>
      rw [hq] at hi
      have hi : ((i : Int), q) = a := Option.some.inj hi
      subst hi
      unfold wholeF at e
      split at e
      next h => exact ⟨i, q, hq, h, (Option.some.inj e).symm⟩
      next h => cases e
  · rintro ⟨i, q, hq, h0, e⟩
    refine ⟨((i : Int), q), List.mem_iff_getElem?.mpr ⟨i, by rw [List.getElem?_mapIdx, hq]; rfl⟩, ?_⟩
    unfold wholeF
    rw [if_pos h0, e]
    rfl
theorem whole_nd (row : List Rat) : ((wholeRow row).map (·.1)).Nodup := by
  have h1 : (row.mapIdx fun i q => ((i : Int), q)).Pairwise (fun a b => a.1 ≠ b.1) := by
    rw [List.pairwise_iff_getElem]
    intro i j hi hj hij
    rw [List.getElem_mapIdx, List.getElem_mapIdx]
    show (i : Int) ≠ (j : Int)
    omega
  have h2 : (wholeRow row).Pairwise (fun a b => a.1 ≠ b.1) := by
    refine List.Pairwise.filterMap _ (fun a a' h b hb b' hb' => ?_) h1
    unfold wholeF at hb hb'
    split at hb
    next h3 =>
      split at hb'
      next h4 =>
        cases hb; cases hb'
        exact h
      next h4 => cases hb'
    next h3 => cases hb
  exact List.pairwise_map.mpr h2
theorem wnum_ne {row : List Rat} {q : Rat} (h : q ∈ row) (h0 : q.num ≠ 0) : wnum row q ≠ 0 := fun z => by
  have h1 := wnum_eq h
  rw [z] at h1
  have h2 : ((lcmD row : Int) : Rat) ≠ 0 := by
    intro y
    have h1 := lcmD_pos row
    have h2 : (lcmD row : Int) = 0 := by exact_mod_cast y
    omega
  have h3 : q = 0 := by
    have h1 : (0 : Rat) = ((lcmD row : Int) : Rat) * q := by simpa using h1
    grind
  rw [h3] at h0
  exact h0 rfl
theorem whole_good (row : List Rat) : GoodD (wholeRow row) := by
  refine ⟨whole_nd row, fun p hp e => ?_⟩
  obtain ⟨i, q, hq, h0, e2⟩ := whole_mem.mp hp
  rw [e2] at e
  exact wnum_ne (List.mem_of_getElem? hq) h0 e
theorem whole_in (row : List Rat) : KeysIn row.length (wholeRow row) := fun p hp => by
  obtain ⟨i, q, hq, h0, e2⟩ := whole_mem.mp hp
  have := (List.getElem?_eq_some_iff.mp hq).1
  rw [e2]
  exact ⟨by show (0 : Int) ≤ i; omega, by show (i : Int) < _; omega⟩
theorem whole_dv (row : List Rat) (j : Int) : dv (wholeRow row) j = ia (row.map (wnum row)) j := by
  by_cases hk : j ∈ (wholeRow row).map (·.1)
  · obtain ⟨p, hp, e⟩ := List.mem_map.mp hk
    have e : p.1 = j := e
    have h1 := dv_mem (whole_nd row) hp
    rw [e] at h1
    obtain ⟨i, q, hq, h0, e2⟩ := whole_mem.mp hp
    rw [e2] at e h1
    have e : (i : Int) = j := e
    rw [h1, ← e]
    unfold ia
    rw [if_pos (by omega), Int.toNat_natCast, List.getElem?_map, hq]
    rfl
  · rw [dv_key hk]
    unfold ia
    split
    next h =>
      rw [List.getElem?_map]
      cases hq : row[j.toNat]? with
      | none => rfl
      | some q =>
        show 0 = wnum row q
        by_cases h0 : q.num = 0
        · unfold wnum; rw [h0, Int.zero_mul]
        · exfalso
          refine hk (List.mem_map.mpr ⟨_, whole_mem.mpr ⟨j.toNat, q, hq, h0, rfl⟩, ?_⟩)
          show ((j.toNat : Nat) : Int) = j
          omega
    next h => rfl
theorem whole_vec (row : List Rat) (j : Int) : vec (wholeRow row) j = ((lcmD row : Int) : Rat) * qv row j := by
  unfold vec
  rw [whole_dv, ia_wnum]
theorem lcmR_ne (row : List Rat) : ((lcmD row : Int) : Rat) ≠ 0 := by
  intro y
  have h1 := lcmD_pos row
  have h2 : (lcmD row : Int) = 0 := by exact_mod_cast y
  omega
/-- the program's span is the law's -/
theorem sp_mv (qs : List (List Rat)) (x : Vec) : Sp (qs.map wholeRow) x ↔ Span (MV qs) x := by
  constructor
  · intro h
    refine Span.mono (fun v ⟨d, hd, e⟩ => ?_) h
    obtain ⟨r, hr, e2⟩ := List.mem_map.mp hd
    subst e e2
    exact (Span.smul (mv_of hr) ((lcmD r : Int) : Rat)).cast fun j => (whole_vec r j).symm
  · intro h
    refine Span.mono (fun v ⟨r, hr, e⟩ => ?_) h
    subst e
    refine (Span.smul (Span.of ⟨wholeRow r, List.mem_map.mpr ⟨r, hr, rfl⟩, rfl⟩) (1 / ((lcmD r : Int) : Rat))).cast fun j => ?_
    rw [whole_vec]
    have := lcmR_ne r
    grind
theorem vec_in (qs : List (List Rat)) (r : List Rat) : Sp (qs.map wholeRow) (vec (wholeRow r)) ↔ Span (MV qs) (qv r) := by
  rw [sp_mv]
  have h0 := lcmR_ne r
  constructor
  · intro h
    refine (Span.smul h (1 / ((lcmD r : Int) : Rat))).cast fun j => ?_
    rw [whole_vec]
    grind
  · intro h
    exact (Span.smul h ((lcmD r : Int) : Rat)).cast fun j => (whole_vec r j).symm
/-- numbers over a common bottom are what the program takes -/
theorem Rw.rows {w D M b : Nat} {qs : List (List Rat)} (h : Rw w D M qs) (hD : D ≠ 0) (hb : M ≤ 2 ^ b) : RowsOk w (2 ^ b) (qs.map wholeRow) where
  good := fun d hd => by
    obtain ⟨r, _, e⟩ := List.mem_map.mp hd
    rw [← e]; exact whole_good r
  keys := fun d hd => by
    obtain ⟨r, hr, e⟩ := List.mem_map.mp hd
    rw [← e, ← (h r hr).1]; exact whole_in r
  size := fun d hd j => by
    obtain ⟨r, hr, e⟩ := List.mem_map.mp hd
    rw [← e, whole_dv]
    by_cases hz : ia (r.map (wnum r)) j = 0
    · rw [hz]; exact Nat.zero_le _
    · obtain ⟨q, hq, e⟩ := List.mem_map.mp (ia_mem hz)
      rw [← e]
      exact (h r hr).2.wb hD hb q hq
/-! ### both as reduced rows -/
def lawL (done : List IRow) (leads : List Int) : List (Int × Vec) := (done.zip leads).map fun q => (q.2, fun j => (ia q.1 j : Rat) / (ia q.1 q.2 : Rat))
def ourL (out : Leads) : List (Int × Vec) := out.map fun p => (p.1, fun j => (dv p.2 j : Rat) / (dv p.2 p.1 : Rat))
theorem lawL_mem {done : List IRow} {leads : List Int} {p : Int × Vec} : p ∈ lawL done leads ↔ ∃ (i : Nat) (d : IRow) (c : Int), done[i]? = some d ∧ leads[i]? = some c ∧ p = (c, fun j => (ia d j : Rat) / (ia d c : Rat)) := by
  unfold lawL
  rw [List.mem_map]
  constructor
  · rintro ⟨q, hq, e⟩
    obtain ⟨i, hi⟩ := List.mem_iff_getElem?.mp hq
    obtain ⟨h1, h2⟩ := List.getElem?_zip_eq_some.mp hi
    exact ⟨i, q.1, q.2, h1, h2, e.symm⟩
  · rintro ⟨i, d, c, h1, h2, e⟩
    exact ⟨(d, c), List.mem_iff_getElem?.mpr ⟨i, List.getElem?_zip_eq_some.mpr ⟨h1, h2⟩⟩, e.symm⟩
theorem lawL_fst {done : List IRow} {leads : List Int} (h : done.length = leads.length) : (lawL done leads).map (·.1) = leads := by
  unfold lawL
  rw [List.map_map]
  show (done.zip leads).map Prod.snd = leads
  rw [List.map_snd_zip (by omega)]
theorem zdiv (x : Rat) : ((0 : Int) : Rat) / x = 0 := by
  rw [Rat.intCast_zero, Rat.div_def, Rat.zero_mul]
theorem int_ne {z : Int} (h : z ≠ 0) : (z : Rat) ≠ 0 := fun y => h (by exact_mod_cast y)
theorem law_rr {w M N : Nat} {mat : List (List Rat)} {left done : List IRow} {leads : List Int} (h : SI w (MV mat) M N w left done leads) : Rr (MV mat) (lawL done leads) where
  asc := by rw [lawL_fst h.len]; exact h.asc
  sub := fun p hp => by
    obtain ⟨i, d, c, h1, h2, e⟩ := lawL_mem.mp hp
    subst e
    refine (Span.smul (h.dv d (List.mem_of_getElem? h1)) (1 / (ia d c : Rat))).cast fun j => ?_
    show 1 / (ia d c : Rat) * (ia d j : Rat) = (ia d j : Rat) / (ia d c : Rat)
    grind
  one := fun p hp => by
    obtain ⟨i, d, c, h1, h2, e⟩ := lawL_mem.mp hp
    subst e
    have := int_ne (h.one i d c h1 h2).1
    show (ia d c : Rat) / (ia d c : Rat) = 1
    grind
  red := fun p hp q hq hne => by
    obtain ⟨i, d, c, h1, h2, e⟩ := lawL_mem.mp hp
    obtain ⟨k, d', c', h1', h2', e'⟩ := lawL_mem.mp hq
    subst e e'
    have hne : c ≠ c' := hne
    have hik : i ≠ k := fun z => by subst z; rw [h2] at h2'; exact hne (Option.some.inj h2')
    show (ia d c' : Rat) / (ia d c : Rat) = 0
    rw [h.red i k d c' h1 h2' hik]
    exact zdiv _
  low := fun p hp j hj => by
    obtain ⟨i, d, c, h1, h2, e⟩ := lawL_mem.mp hp
    subst e
    show (ia d j : Rat) / (ia d c : Rat) = 0
    rw [(h.one i d c h1 h2).2 j hj]
    exact zdiv _
  gen := fun x hx h0 j => by
    have h1 := h.gen x hx fun c hc => by
      obtain ⟨i, hi⟩ := List.mem_iff_getElem?.mp hc
      have hil := (List.getElem?_eq_some_iff.mp hi).1
      have hd : done[i]? = some (done[i]'(by rw [h.len]; exact hil)) := List.getElem?_eq_getElem _
      exact h0 _ (lawL_mem.mpr ⟨i, _, c, hd, hi, rfl⟩)
    have key : ∀ x, Span (fun v => ∃ l ∈ left, v = iv l) x → ∀ j, x j = 0 := by
      intro x hx
      induction hx with
      | zero => intro j; rfl
      | add c hx hy ih =>
        intro j
        obtain ⟨l, hl, e⟩ := hx
        subst e
        have hz : ia l j = 0 := by
          rcases Int.lt_or_le j (w : Int) with q | q
          · exact h.lz l hl j q
          · have := h.lw l hl
            unfold ia
            rw [if_pos (by omega), List.getElem?_eq_none (by omega)]
            rfl
        show c * (ia l j : Rat) + _ = 0
        rw [hz, ih j, Rat.intCast_zero]
        grind
    exact key x h1 j
theorem out_mem {w M : Nat} {rows : List DRow} {out : Leads} (L : LI w M rows (redu rows)) (h : LeadsOut rows out) (p : Int × DRow) : p ∈ out ↔ p ∈ redu rows := by
  obtain ⟨ys, hp, _, e⟩ := h
  subst e
  rw [List.mem_map]
  constructor
  · rintro ⟨a, ha, e⟩
    obtain ⟨q, hq, e2⟩ := List.mem_map.mp (hp.mem_iff.mp ha)
    have e2 : q.1 = a := e2
    rw [← e, ← e2, dget_some_of_mem L.nd hq]
    exact hq
  · intro hq
    refine ⟨p.1, hp.mem_iff.mpr (List.mem_map_of_mem hq), ?_⟩
    rw [dget_some_of_mem L.nd hq]
    rfl
theorem ourL_mem {w M : Nat} {rows : List DRow} {out : Leads} (L : LI w M rows (redu rows)) (h : LeadsOut rows out) {p : Int × Vec} : p ∈ ourL out ↔ ∃ q ∈ redu rows, p = (q.1, fun j => (dv q.2 j : Rat) / (dv q.2 q.1 : Rat)) := by
  unfold ourL
  rw [List.mem_map]
  constructor
  · rintro ⟨q, hq, e⟩; exact ⟨q, (out_mem L h q).mp hq, e.symm⟩
  · rintro ⟨q, hq, e⟩; exact ⟨q, (out_mem L h q).mpr hq, e.symm⟩
theorem our_rr {w M : Nat} {rows : List DRow} {out : Leads} (L : LI w M rows (redu rows)) (h : LeadsOut rows out) : Rr (fun v => ∃ d ∈ rows, v = vec d) (ourL out) where
  asc := by
    obtain ⟨ys, hp, hs, e⟩ := h
    have e1 : (ourL out).map (·.1) = ys := by
      unfold ourL
      rw [e, List.map_map, List.map_map]
      exact List.map_id' ys
    rw [e1]
    have hn : ys.Nodup := hp.nodup_iff.mpr L.nd
    exact (hs.and hn).imp fun ⟨a, b⟩ => by
      have : _ ≠ _ := b
      omega
  sub := fun p hp => by
    obtain ⟨q, hq, e⟩ := (ourL_mem L h).mp hp
    subst e
    refine (Span.smul (L.sub q hq) (1 / (dv q.2 q.1 : Rat))).cast fun j => ?_
    show 1 / (dv q.2 q.1 : Rat) * (dv q.2 j : Rat) = (dv q.2 j : Rat) / (dv q.2 q.1 : Rat)
    grind
  one := fun p hp => by
    obtain ⟨q, hq, e⟩ := (ourL_mem L h).mp hp
    subst e
    have := int_ne (L.at' q hq)
    show (dv q.2 q.1 : Rat) / (dv q.2 q.1 : Rat) = 1
    grind
  red := fun p hp p' hp' hne => by
    obtain ⟨q, hq, e⟩ := (ourL_mem L h).mp hp
    obtain ⟨q', hq', e'⟩ := (ourL_mem L h).mp hp'
    subst e e'
    show (dv q.2 q'.1 : Rat) / (dv q.2 q.1 : Rat) = 0
    rw [L.red q hq q' hq' hne]
    exact zdiv _
  low := fun p hp j hj => by
    obtain ⟨q, hq, e⟩ := (ourL_mem L h).mp hp
    subst e
    show (dv q.2 j : Rat) / (dv q.2 q.1 : Rat) = 0
    rw [L.low q hq j hj]
    exact zdiv _
  gen := fun x hx h0 => L.gen x hx fun q hq => h0 _ ((ourL_mem L h).mpr ⟨q, hq, rfl⟩)
/-- the program's answer is the law's, row for row -/
theorem one_rows {w M N M' : Nat} {qs mat : List (List Rat)} {left done : List IRow} {leads : List Int} {out : Leads} (h : SI w (MV mat) M N w left done leads)
    (L : LI w M' (qs.map wholeRow) (redu (qs.map wholeRow))) (hO : LeadsOut (qs.map wholeRow) out) (hs : SameSpan qs mat) : leadRows w out = redRows done leads ∧ (redu (qs.map wholeRow)).length = leads.length := by
  have e := (our_rr L hO).one_list (law_rr h) fun x => (sp_mv qs x).trans (hs x)
  have hlen : out.length = leads.length := by
    have e1 := congrArg List.length e
    unfold ourL lawL at e1
    have := h.len
    rw [List.length_map, List.length_map, List.length_zip] at e1
    omega
  constructor
  · refine List.ext_getElem? fun i => ?_
    have e1 := congrArg (fun l => l[i]?) e
    unfold leadRows redRows
    unfold ourL lawL at e1
    simp only [List.getElem?_map] at e1 ⊢
    cases ho : out[i]? with
    | none =>
      cases hz : (done.zip leads)[i]? with
      | none => rfl
      | some g => rw [ho, hz] at e1; cases e1
    | some p =>
      cases hz : (done.zip leads)[i]? with
      | none => rw [ho, hz] at e1; cases e1
      | some g =>
        rw [ho, hz] at e1
        have e2 := Option.some.inj e1
        have e3 : (fun j => (dv p.2 j : Rat) / (dv p.2 p.1 : Rat)) = (fun j => (ia g.1 j : Rat) / (ia g.1 g.2 : Rat)) := congrArg Prod.snd e2
        have hg := (List.getElem?_zip_eq_some.mp hz).1
        have hgl := h.dw g.1 (List.mem_of_getElem? hg)
        refine congrArg some (List.ext_getElem? fun j => ?_)
        rw [List.getElem?_map, List.getElem?_map]
        by_cases hj : j < w
        · rw [List.getElem?_range hj, List.getElem?_eq_getElem (by omega)]
          have e4 := congrFun e3 (j : Int)
          refine congrArg some (e4.trans ?_)
          have e5 : ia g.1 (j : Int) = g.1[j]'(by omega) := by
            unfold ia
            rw [if_pos (by omega), Int.toNat_natCast, List.getElem?_eq_getElem (by omega)]
            rfl
          show (ia g.1 (j : Int) : Rat) / _ = _
          rw [e5]
        · rw [List.getElem?_eq_none (by rw [List.length_range]; omega), List.getElem?_eq_none (by omega)]
          rfl
  · obtain ⟨ys, hp, _, e2⟩ := hO
    have h1 := hp.length_eq
    rw [List.length_map] at h1
    rw [e2, List.length_map] at hlen
    omega
/-- a row belongs to the span where the law's rank stays -/
theorem rank_in {w M N M' N' : Nat} {mat : List (List Rat)} {ps : List Rat} {left done left' done' : List IRow} {leads leads' : List Int} (h : SI w (MV mat) M N w left done leads)
    (h' : SI w (MV (mat ++ [ps])) M' N' w left' done' leads') : leads'.length = leads.length ↔ Span (MV mat) (qv ps) := by
  have hs : ∀ x, Span (MV mat) x → Span (MV (mat ++ [ps])) x := fun x hx => span_sub (fun r hr => mv_of (List.mem_append_left _ hr)) hx
  constructor
  · intro e
    refine (law_rr h).more (law_rr h') hs ?_ (mv_of (List.mem_append_right _ (List.mem_singleton.mpr rfl)))
    unfold lawL
    have := h.len
    have := h'.len
    rw [List.length_map, List.length_map, List.length_zip, List.length_zip]
    omega
  · intro hx
    have e := (law_rr h).one_list (law_rr h') fun x => ⟨hs x, fun y => span_sub (fun r hr => by
      rcases List.mem_append.mp hr with z | z
      · exact mv_of z
      · rw [List.mem_singleton.mp z]; exact hx) y⟩
    have e1 := congrArg List.length e
    unfold lawL at e1
    have := h.len
    have := h'.len
    rw [List.length_map, List.length_map, List.length_zip, List.length_zip] at e1
    omega
end T
end
section
set_option Elab.async false
set_option linter.all false
set_option maxRecDepth 100000
set_option maxHeartbeats 2000000
set_option exponentiation.threshold 10000
namespace T
open PySem PySem.Spec PyProof.Rows L2
/-! ### product_of, times -/
theorem lcmD_fr {D M : Nat} {row : List Rat} (h : FrR D M row) (hD : D ≠ 0) : lcmD row ∣ D := lcm_dvd (fun q hq => (h.nums hD q hq).1) 1 (Nat.one_dvd D)
theorem fr_num {D M : Nat} {row : List Rat} (h : FrR D M row) (hD : D ≠ 0) (hDz : D < 2 ^ 1000) (hM : M < 2 ^ 1000) : NumOk row :=
  ⟨D, Nat.pos_of_ne_zero hD, hDz, fun q hq => ⟨(h.nums hD q hq).1, Nat.lt_of_le_of_lt (h.nums hD q hq).2 hM⟩⟩
theorem sum_snoc (l : List Int) (x : Int) : (l ++ [x]).sum = l.sum + x := by simp
/-- the sum of products of whole numbers is what the rows give, times both bottoms -/
theorem whole_dot (p q : Rat) (c : List Rat × List Rat → Prop) : ∀ (a b : List Rat) (f g : Rat → Int) (s : Rat), (∀ x ∈ a, (f x : Rat) = p * x) → (∀ x ∈ b, (g x : Rat) = q * x) →
    (((((a.map f).zip (b.map g)).map fun (y : Int × Int) => y.1 * y.2).sum : Int) : Rat) + p * q * s = p * q * (a.zip b).foldl (fun s q => s + q.1 * q.2) s
  | [], b, f, g, s, _, _ => by simp [Rat.zero_add]
  | x :: a, [], f, g, s, _, _ => by simp [Rat.zero_add]
  | x :: a, y :: b, f, g, s, hf, hg => by
    have ih := whole_dot p q c a b f g (s + x * y) (fun z hz => hf z (List.mem_cons_of_mem _ hz)) (fun z hz => hg z (List.mem_cons_of_mem _ hz))
    have e1 := hf x List.mem_cons_self
    have e2 := hg y List.mem_cons_self
    rw [List.map_cons, List.map_cons, List.zip_cons_cons, List.map_cons, List.sum_cons, List.zip_cons_cons, List.foldl_cons, ← ih, Rat.intCast_add, Rat.intCast_mul, e1, e2]
    grind
theorem whole_dotR (a b : List Rat) : (((((a.map (wnum a)).zip (b.map (wnum b))).map fun y => y.1 * y.2).sum : Int) : Rat) / (((lcmD a : Int) * (lcmD b : Int) : Int) : Rat) = dotR a b := by
  have h := whole_dot ((lcmD a : Int) : Rat) ((lcmD b : Int) : Rat) (fun _ => True) a b (wnum a) (wnum b) 0 (fun x hx => wnum_eq hx) (fun x hx => wnum_eq hx)
  have h1 := lcmR_ne a
  have h2 := lcmR_ne b
  rw [Rat.intCast_mul]
  unfold dotR
  generalize ((((a.map (wnum a)).zip (b.map (wnum b))).map fun y => y.1 * y.2).sum : Int) = S at *
  generalize ((lcmD a : Int) : Rat) = A at *
  generalize ((lcmD b : Int) : Rat) = B at *
  generalize (a.zip b).foldl (fun s q => s + q.1 * q.2) 0 = d at *
  have h3 : A * B ≠ 0 := by
    intro z
    rcases Rat.mul_eq_zero.mp z with y | y
    · exact h1 y
    · exact h2 y
  have h4 : (S : Rat) = A * B * d := by grind
  rw [h4]
  grind
def cProd (K : PySem.W.Frag) : Ct := fun ks k => ∃ (a b : List (List Rat)) (t u w D E M N : Nat), ks = [.im (rL K (rT K (rQ K))) a, .im (rL K (rT K (rQ K))) b] ∧ Tab t u a ∧ Tab u w b ∧ 0 < u ∧ t ≤ 1000 ∧ u ≤ 1000 ∧ w ≤ 1000 ∧ FrM D M a ∧ FrM E N b ∧
  D ≠ 0 ∧ E ≠ 0 ∧ D * E < 2 ^ 1000 ∧ M < 2 ^ 1000 ∧ N < 2 ^ 1000 ∧ ∀ p, k (.ow p (cL (rT K (rQ K))) (prodM a b)) [.no, .no]
theorem scProd : FnScope ["one", "other", "columns", "found", "row", "common", "wholes", "line", "column", "bottom", "left", "right"] ["one", "other"] (defScope (top 23)) := ⟨rfl, rfl, rfl, by decide +kernel, rfl, by decide +kernel, by decide +kernel⟩
theorem qProd {G : Gm} {f : Addr} {fd : FuncData} (F : Fun G.K "product_of" "product_of" (top 23) f fd) (hf : G.mg "product_of" = some (.ref f)) (b : Binds G.K fd ["one", "other"] [])
    (B : Bi G) (Bs : G.mg "sum" = none) (h1 : Fn G "columns_of" 2 (cColsOf G.K)) (h2 : Fn G "whole_list" 1 (cWList G.K)) (h3 : Fn G "lowered" 1 (cLowK G.K)) : Fn G "product_of" 3 (cProd G.K) := by
  refine Fn.of F hf b scProd (fun ks k ⟨_, _, _, _, _, _, _, _, _, h, _⟩ => by rw [h]; rfl) fun X hX hfn hp ks k ⟨a, m, t, u, w, D, E, M, N, hks, ha, hb, hu, ht1, hu1, hw1, fa, fb, hD, hE, hDE, hM, hN, hk⟩ => ?_
  subst hks
  have hDz : D < 2 ^ 1000 := Nat.lt_of_le_of_lt (Nat.le_mul_of_pos_right _ (Nat.pos_of_ne_zero hE)) hDE
  have hEz : E < 2 ^ 1000 := Nat.lt_of_le_of_lt (Nat.le_mul_of_pos_left _ (Nat.pos_of_ne_zero hD)) hDE
  have hwm : wideM m = w := hb.wideM hu
  have hcT := colsM_tab hb
  have hcF : FrM E N (colsM w m) := colsM_fr fb
  have hat := ha.tall
  have hct := hcT.tall
  generalize hC : colsM w m = C at *
  -- columns = [whole_list(column) for column in columns_of(other)]
  refine S_cons ?_
  refine S1_setLc (own := [("column", 8)]) (rPair G.K rI (rL G.K rI)) (i := 2) hX rfl rfl rfl rfl rfl rfl ?_
  refine I_list hX ?_
  refine E_call hX h1 (by omega) rfl rfl ?_
  refine A_cons rfl ?_
  refine P_name (i := 1) hX rfl (.inl rfl) rfl (by intro z; cases z) ?_  -- other
  refine A_nil ?_
  refine ⟨[_], ⟨rfl, trivial⟩, trivial, m, u, w, rfl, hb, hu, hu1, hw1, fun pc => ?_⟩
  rw [hC]
  refine ⟨_, _, _, .ow (frz_L (K := G.K)), ?_⟩
  refine ⟨fun i out τ => out = (C.take i).map (fun c => ((lcmD c : Int), c.map (wnum c))) ∧ τ = [.im (rL G.K (rT G.K (rQ G.K))) a, .im (rL G.K (rT G.K (rQ G.K))) m, .no, .no, .no, .no, .no, .no, .no, .no, .no, .no], ⟨by simp, rfl⟩, fun i y hy => ?_, fun out τ hJ p => ?_⟩
  · rintro out τ ⟨ho, hτ⟩ X1 hX1 hf1
    subst hτ
    obtain ⟨c, hc, ey⟩ := mapK_get hy
    subst ey
    have hi := (List.getElem?_eq_some_iff.mp hc).1
    have hcm := List.mem_of_getElem? hc
    refine TB_name (i := 8) hX1 rfl rfl (by decide) ?_  -- column
    intro X2 hX2
    refine Cs_nil ?_
    refine ⟨fun _ X3 hX3 => ?_, fun h => by cases h⟩
    refine E_call hX3 h2 (by omega) rfl rfl ?_
    refine A_cons rfl ?_
    refine P_name (i := 8) hX3 rfl (.inl rfl) rfl (by intro z; cases z) ?_  -- column
    refine A_nil ?_
    refine ⟨[_], ⟨rfl, trivial⟩, trivial, c, rfl, fr_num (hcF c hcm) hE hEz hN, by rw [hcT.wide c hcm]; exact hu1, ?_⟩
    refine ⟨_, .im _ _, ?_, ?_, rfl⟩
    · rw [ho, List.length_map, List.length_take]; omega
    · rw [ho, take_get hc, List.map_append]; rfl
  obtain ⟨ho, hτ⟩ := hJ
  rw [List.length_map, List.take_length] at ho
  subst hτ
  subst ho
  -- found = []
  refine S_cons ?_
  refine S1_set (i := 3) hX rfl rfl ?_  -- found
  refine E_lst rfl (A := rT G.K (rQ G.K)) ?_
  refine ⟨by decide, [], rfl, fun q => ?_⟩
  -- for row in one:
  refine S_cons ?_
  refine S1_frz (i := 2) rfl (frz_L (K := G.K)) ?_
  refine S1_for hX hp ?_
  refine I_list hX ?_
  refine E_name (i := 0) hX rfl (.inl rfl) rfl ?_  -- one
  refine ⟨_, _, _, .im _ _, ?_⟩
  refine ⟨fun i τ => ∃ x4 x5 x6 x7, τ = [.im (rL G.K (rT G.K (rQ G.K))) a, .im (rL G.K (rT G.K (rQ G.K))) m, .im (rL G.K (rPair G.K rI (rL G.K rI))) (C.map fun c => ((lcmD c : Int), c.map (wnum c))), .ow q (cL (rT G.K (rQ G.K))) ((a.take i).map fun r => C.map fun c => dotR r c), x4, x5, x6, x7, .no, .no, .no, .no], ⟨_, _, _, _, rfl⟩, fun i y τ hy hI => ?_, fun τ hI => ?_⟩
  · obtain ⟨x4, x5, x6, x7, hτ⟩ := hI
    subst hτ
    obtain ⟨r, hr, ey⟩ := mapK_get hy
    subst ey
    have hi := (List.getElem?_eq_some_iff.mp hr).1
    have hrm := List.mem_of_getElem? hr
    have hrl := ha.wide r hrm
    have hrF := fa r hrm
    refine T_name (i := 4) hX rfl rfl ?_  -- row
    -- common, wholes = whole_list(row)
    refine S_cons ?_
    refine S1_asg ?_
    refine E_call hX h2 (by omega) rfl rfl ?_
    refine A_cons rfl ?_
    refine P_name (i := 4) hX rfl (.inl rfl) rfl (by intro z; cases z) ?_  -- row
    refine A_nil ?_
    refine ⟨[_], ⟨rfl, trivial⟩, trivial, r, rfl, fr_num hrF hD hDz hM, by rw [hrl]; exact hu1, ?_⟩
    refine T_tup hX rfl un_pair ?_
    refine T_cell (i := 5) hX hfn rfl rfl ?_  -- common
    refine T_cell (i := 6) hX hfn rfl rfl ?_  -- wholes
    -- line = [lowered(..) for bottom, column in columns]
    refine S_cons ?_
    refine S1_setLc (own := [("bottom", 9), ("column", 8)]) (rQ G.K) (i := 7) hX rfl rfl rfl rfl rfl rfl ?_
    refine I_list hX ?_
    refine E_name (i := 2) hX rfl (.inl rfl) rfl ?_  -- columns
    refine ⟨_, _, _, .im _ _, ?_⟩
    refine ⟨fun j out τ => out = (C.take j).map (fun c => dotR r c) ∧ τ = [.im (rL G.K (rT G.K (rQ G.K))) a, .im (rL G.K (rT G.K (rQ G.K))) m, .im (rL G.K (rPair G.K rI (rL G.K rI))) (C.map fun c => ((lcmD c : Int), c.map (wnum c))), .ow q (cL (rT G.K (rQ G.K))) ((a.take i).map fun r => C.map fun c => dotR r c), .im (rT G.K (rQ G.K)) r, .im rI (lcmD r : Int), .im (rL G.K rI) (r.map (wnum r)), x7, .no, .no, .no, .no], ⟨by simp, rfl⟩, fun j y hy => ?_, fun out τ hJ p2 => ?_⟩
    · rintro out τ ⟨ho, hτ⟩ X1 hX1 hf1
      subst hτ
      obtain ⟨c2, hc2, ey⟩ := mapK_get hy
      subst ey
      rw [List.getElem?_map] at hc2
      cases hc : C[j]? with
      | none => rw [hc] at hc2; cases hc2
      | some c =>
      rw [hc] at hc2
      have ec := Option.some.inj hc2
      subst ec
      have hj := (List.getElem?_eq_some_iff.mp hc).1
      have hcm := List.mem_of_getElem? hc
      have hcl := hcT.wide c hcm
      have hcf := hcF c hcm
      refine TB_tup hX1 rfl un_pair ?_
      refine TB_name (i := 9) hX1 rfl rfl (by decide) ?_  -- bottom
      refine TB_name (i := 8) hX1 rfl rfl (by decide) ?_  -- column
      intro X2 hX2
      refine Cs_nil ?_
      refine ⟨fun _ X3 hX3 => ?_, fun h => by cases h⟩
      refine E_call hX3 h3 (by omega) rfl rfl ?_
      refine A_cons rfl ?_
      refine P_val ?_
      refine E_sum hX3 rfl Bs rfl ?_
      refine E_lc (own := [("left", 10), ("right", 11)]) rI hX3 rfl ?_
      refine I_zip (A := rI) (B := rI) false hX3 rfl B.zip rfl ?_
      refine E_name (i := 6) hX3 rfl (.inr (.inl rfl)) rfl ?_  -- wholes
      refine ⟨_, .im _ _, ?_⟩
      refine E_name (i := 8) hX3 rfl (.inl rfl) rfl ?_  -- column
      refine ⟨_, .im _ _, ?_⟩
      refine ⟨fun l out2 τ => out2 = (((r.map (wnum r)).zip (c.map (wnum c))).take l).map (fun y => y.1 * y.2) ∧ τ = [.im (rL G.K (rT G.K (rQ G.K))) a, .im (rL G.K (rT G.K (rQ G.K))) m, .im (rL G.K (rPair G.K rI (rL G.K rI))) (C.map fun c => ((lcmD c : Int), c.map (wnum c))), .ow q (cL (rT G.K (rQ G.K))) ((a.take i).map fun r => C.map fun c => dotR r c), .im (rT G.K (rQ G.K)) r, .im rI (lcmD r : Int), .im (rL G.K rI) (r.map (wnum r)), x7, .im (rL G.K rI) (c.map (wnum c)), .im rI (lcmD c : Int), .no, .no], ⟨by simp, rfl⟩, fun l y hy => ?_, fun out2 τ hJ p3 => ?_⟩
      · rintro out2 τ ⟨ho2, hτ⟩ X4 hX4 hf4
        subst hτ
        obtain ⟨z, hz, ey⟩ := mapK_get hy
        subst ey
        obtain ⟨z1, z2⟩ := List.getElem?_zip_eq_some.mp hz
        have hl := (List.getElem?_eq_some_iff.mp z1).1
        obtain ⟨y1, hy1, e1⟩ := List.mem_map.mp (List.mem_of_getElem? z1)
        obtain ⟨y2, hy2, e2⟩ := List.mem_map.mp (List.mem_of_getElem? z2)
        have s1 : z.1.natAbs < 2 ^ 1001 := by
          rw [← e1]
          exact Nat.lt_of_le_of_lt (hrF.wb hD (Nat.le_of_lt hM) y1 hy1) (Nat.pow_lt_pow_right (by omega) (by omega))
        have s2 : z.2.natAbs < 2 ^ 1001 := by
          rw [← e2]
          exact Nat.lt_of_le_of_lt (hcf.wb hE (Nat.le_of_lt hN) y2 hy2) (Nat.pow_lt_pow_right (by omega) (by omega))
        refine TB_tup hX4 rfl un_pair ?_
        refine TB_name (i := 10) hX4 rfl rfl (by decide) ?_  -- left
        refine TB_name (i := 11) hX4 rfl rfl (by decide) ?_  -- right
        intro X5 hX5
        refine Cs_nil ?_
        refine ⟨fun _ X6 hX6 => ?_, fun h => by cases h⟩
        refine E_mul ?_
        refine E_name (i := 10) hX6 rfl (.inl rfl) rfl ?_  -- left
        refine ⟨_, .im _ _, ?_⟩
        refine E_name (i := 11) hX6 rfl (.inl rfl) rfl ?_  -- right
        refine ⟨_, .im _ _, mulx_ok s1 s2 (by omega), ?_⟩
        refine ⟨_, .im _ _, ?_, ?_, rfl⟩
        · rw [ho2, List.length_map, List.length_take]
          rw [List.length_map] at hl
          omega
        · rw [ho2, take_get hz, List.map_append]; rfl
      obtain ⟨ho2, hτ⟩ := hJ
      rw [List.length_map, List.take_length] at ho2
      subst hτ
      subst ho2
      refine ⟨_, .ow (frz_L (K := G.K)), ?_⟩
      refine ⟨_, _, _, .im _ _, ?_⟩
      have l1 := Nat.le_of_dvd (Nat.pos_of_ne_zero hD) (lcmD_fr hrF hD)
      have l2 := Nat.le_of_dvd (Nat.pos_of_ne_zero hE) (lcmD_fr hcf hE)
      refine A_cons rfl ?_
      refine P_val ?_
      refine E_mul ?_
      refine E_name (i := 5) hX3 rfl (.inr (.inl rfl)) rfl ?_  -- common
      refine ⟨_, .im _ _, ?_⟩
      refine E_name (i := 9) hX3 rfl (.inl rfl) rfl ?_  -- bottom
      refine ⟨_, .im _ _, mulx_ok (a := 1000) (b := 1000) (by rw [Int.natAbs_natCast]; omega) (by rw [Int.natAbs_natCast]; omega) (by omega), ?_⟩
      refine ⟨_, _, _, .im _ _, ?_⟩
      refine A_nil ?_
      refine ⟨[_, _], ⟨rfl, rfl, trivial⟩, trivial, _, _, rfl, ?_, ?_, ?_⟩
      · have := lcmD_pos r
        have := lcmD_pos c
        have : 0 < lcmD r * lcmD c := Nat.mul_pos ‹_› ‹_›
        intro z
        have : ((lcmD r * lcmD c : Nat) : Int) = 0 := by rw [Int.natCast_mul]; exact z
        omega
      · rw [← Int.natCast_mul, Int.natAbs_natCast]
        exact Nat.lt_of_le_of_lt (Nat.mul_le_mul l1 l2) (Nat.lt_trans hDE (Nat.pow_lt_pow_right (by omega) (by omega)))
      rw [whole_dotR]
      refine ⟨_, .im _ _, ?_, ?_, rfl⟩
      · rw [ho, List.length_map, List.length_take]; omega
      · rw [ho, take_get hc, List.map_append]; rfl
    obtain ⟨ho, hτ⟩ := hJ
    rw [List.length_map, List.length_map, List.take_length] at ho
    subst hτ
    subst ho
    -- found.append(tuple(line))
    refine S_one ?_
    refine S1_expr ?_
    refine E_append (j := 3) (A := rT G.K (rQ G.K)) (q := q) hX rfl (.inl rfl) rfl rfl ?_
    refine E_tuple (rQ G.K) hX rfl B.tuple rfl ?_
    refine E_frz (i := 7) hX rfl (.inl rfl) rfl (frz_L (K := G.K)) ?_  -- line
    refine ⟨_, .inl (.im _ _), ?_⟩
    refine ⟨_, .im _ _, _, rfl, ?_, ?_⟩
    · rw [List.length_map, List.length_take]; omega
    · refine ⟨.im (rT G.K (rQ G.K)) r, .im rI (lcmD r : Int), .im (rL G.K rI) (r.map (wnum r)), .im (rL G.K (rQ G.K)) (C.map fun c => dotR r c), ?_⟩
      rw [take_get hr, List.map_append]
      rfl
  obtain ⟨x4, x5, x6, x7, hτ⟩ := hI
  rw [List.length_map, List.take_length] at hτ
  subst hτ
  -- return found
  refine S_one ?_
  refine S1_ret ?_
  refine E_own (i := 3) hX rfl (.inl rfl) rfl ?_
  have e : (a.map fun r => C.map fun c => dotR r c) = prodM a m := by unfold prodM; rw [hwm, hC]
  rw [e]
  exact fin_no (hk q)
def cTimes (K : PySem.W.Frag) : Ct := fun ks k => ∃ (m1 m2 : Mat) (t u w D E M N : Nat), ks = [.im (rMat K) m1, .im (rMat K) m2] ∧ GivOk (widthOf m1) m1 ∧ GivOk (widthOf m2) m2 ∧ Tab t u (qmat m1) ∧ Tab u w (qmat m2) ∧ 0 < t ∧ 0 < u ∧ t ≤ 1000 ∧ u ≤ 1000 ∧ w ≤ 1000 ∧ FrM D M (qmat m1) ∧ FrM E N (qmat m2) ∧
  D ≠ 0 ∧ E ≠ 0 ∧ D * E < 2 ^ 1000 ∧ M < 2 ^ 1000 ∧ N < 2 ^ 1000 ∧ ∀ p, k (.ow p (cL (rT K (rQ K))) (prodM (qmat m1) (qmat m2))) [.no, .no]
theorem scTimes : FnScope ["one", "other", "left", "right"] ["one", "other"] (defScope (top 24)) := ⟨rfl, rfl, rfl, by decide +kernel, rfl, by decide +kernel, by decide +kernel⟩
theorem qTimes {G : Gm} {f : Addr} {fd : FuncData} (F : Fun G.K "times" "times" (top 24) f fd) (hf : G.mg "times" = some (.ref f)) (b : Binds G.K fd ["one", "other"] [])
    (B : Bi G) (h1 : Fn G "made_matrix" 6 (cMadeMat G.K)) (h2 : Fn G "width_of" 1 (cWidth G.K)) (h3 : Fn G "product_of" 3 (cProd G.K)) : Fn G "times" 7 (cTimes G.K) := by
  refine Fn.of F hf b scTimes (fun ks k ⟨_, _, _, _, _, _, _, _, _, h, _⟩ => by rw [h]; rfl) fun X hX hfn hp ks k ⟨m1, m2, t, u, w, D, E, M, N, hks, hg1, hg2, hT1, hT2, ht0, hu0, ht1, hu1, hw1, fa, fb, hD, hE, hDE, hM, hN, hk⟩ => ?_
  subst hks
  -- left = made_matrix(one)
  refine S_cons ?_
  refine S1_set (i := 2) hX rfl rfl ?_  -- left
  refine E_call hX h1 (by omega) rfl rfl ?_
  refine A_cons rfl ?_
  refine P_name (i := 0) hX rfl (.inl rfl) rfl (by intro z; cases z) ?_  -- one
  refine A_nil ?_
  refine ⟨[_], ⟨rfl, trivial⟩, trivial, m1, rfl, hg1, fun p1 => ?_⟩
  -- right = made_matrix(other)
  refine S_cons ?_
  refine S1_frz (i := 2) rfl (frz_L (K := G.K)) ?_
  refine S1_set (i := 3) hX rfl rfl ?_  -- right
  refine E_call hX h1 (by omega) rfl rfl ?_
  refine A_cons rfl ?_
  refine P_name (i := 1) hX rfl (.inl rfl) rfl (by intro z; cases z) ?_  -- other
  refine A_nil ?_
  refine ⟨[_], ⟨rfl, trivial⟩, trivial, m2, rfl, hg2, fun p2 => ?_⟩
  -- if width_of(left) != len(right):
  refine S_frz (i := 3) rfl (frz_L (K := G.K)) ?_
  refine S_cons ?_
  refine S1_if ?_
  refine C_neI ?_
  refine E_call hX h2 (by omega) rfl rfl ?_
  refine A_cons rfl ?_
  refine P_val ?_
  refine E_name (i := 2) hX rfl (.inl rfl) rfl ?_  -- left
  refine ⟨_, rMat G.K, (qmat m1).map gvRow, .cv fz_gvs, ?_⟩
  refine A_nil ?_
  refine ⟨[_], ⟨rfl, trivial⟩, trivial, (qmat m1).map gvRow, rfl, ?_⟩
  rw [width_gv hT1 ht0]
  refine ⟨_, .im _ _, ?_⟩
  refine E_len hX rfl B.len rfl ?_
  refine P_name (i := 3) hX rfl (.inl rfl) rfl (by intro z; cases z) ?_  -- right
  refine ⟨_, _, rfl, len_L, ?_⟩
  refine ⟨_, .im _ _, ?_⟩
  rw [hT2.tall]
  refine ⟨fun hc => absurd hc (by simp), fun _ => ?_⟩
  refine S_nil ?_
  -- return product_of(left, right)
  refine S_one ?_
  refine S1_ret ?_
  refine E_call hX h3 (by omega) rfl rfl ?_
  refine A_cons rfl ?_
  refine P_name (i := 2) hX rfl (.inl rfl) rfl (by intro z; cases z) ?_  -- left
  refine A_cons rfl ?_
  refine P_name (i := 3) hX rfl (.inl rfl) rfl (by intro z; cases z) ?_  -- right
  refine A_nil ?_
  exact ⟨[_, _], ⟨rfl, rfl, trivial⟩, trivial, _, _, t, u, w, D, E, M, N, rfl, hT1, hT2, hu0, ht1, hu1, hw1, fa, fb, hD, hE, hDE, hM, hN, fun p => fin_no (hk p)⟩
end T
end
section
set_option Elab.async false
set_option linter.all false
set_option maxRecDepth 100000
set_option maxHeartbeats 2000000
set_option exponentiation.threshold 10000
/-! Plain law: the sizes of the rows that the law's turns hand in. -/
namespace T
theorem Mk_mono {w B : Nat} (hB : 1 ≤ B) {k l : Nat} (h : k ≤ l) : Mk w B k ≤ Mk w B l := by
  induction h with
  | refl => exact Nat.le_refl _
  | @step l _ ih =>
    refine Nat.le_trans ih ?_
    show Mk w B l ≤ 2 * (Mk w B l * ((w + 1) * (B * Mk w B l)))
    have h1 : 1 ≤ (w + 1) * (B * Mk w B l) := Nat.mul_pos (by omega) (Nat.mul_pos hB (Mk_pos hB l))
    exact Nat.le_trans (Nat.le_mul_of_pos_right _ h1) (Nat.le_mul_of_pos_left _ (by omega))
/-- a certificate of small rows -/
theorem cert_of {w b : Nat} {rows : List DRow} (h : RowsOk w (2 ^ b) rows) (hw : w ≤ 6) (hb : b ≤ 50) : Cert w (2 ^ b, Mk w (2 ^ b) w) rows where
  rows := h
  lis := fun i => (redu_take Nat.one_le_two_pow h i).mono (Mk_mono Nat.one_le_two_pow (redu_take Nat.one_le_two_pow h i).len)
  w6 := by omega
  small := (Mk_small hw hb (Nat.le_refl w)).1
  pos := ⟨Nat.one_le_two_pow, Mk_pos Nat.one_le_two_pow w⟩
theorem redu_le {w b : Nat} {rows : List DRow} (h : RowsOk w (2 ^ b) rows) : ∀ i, (redu (rows.take i)).length ≤ i
  | 0 => by simp [redu]
  | i + 1 => by
    have ih := redu_le h i
    have L := redu_take Nat.one_le_two_pow h i
    cases e : rows[i]? with
    | none =>
      have e2 : rows.take (i + 1) = rows.take i := by rw [List.take_succ, e]; simp
      rw [e2]; omega
    | some r =>
      have e2 : rows.take (i + 1) = rows.take i ++ [r] := by rw [List.take_succ, e]; rfl
      have hr := List.mem_of_getElem? e
      have e3 : redu (rows.take (i + 1)) = stepRow (redu (rows.take i)) r := by
        rw [e2]; unfold redu; rw [List.foldl_append]; rfl
      rw [e3]
      rcases L.step (Mk_pos Nat.one_le_two_pow _) Nat.one_le_two_pow (h.good r hr) (h.keys r hr) (h.size r hr) with ⟨e4, h4⟩ | ⟨e4, h4⟩
      · rw [e4]; omega
      · omega
/-- the length of all reduced rows -/
theorem redu_le' {w b : Nat} {rows : List DRow} (h : RowsOk w (2 ^ b) rows) : (redu rows).length ≤ rows.length := by
  have := redu_le h rows.length
  rwa [List.take_length] at this
/-- a beginning of reduced rows -/
theorem Rr.take {P : Vec → Prop} {L : List (Int × Vec)} (h : Rr P L) (i : Nat) : Rr (fun v => ∃ p ∈ L.take i, v = p.2) (L.take i) where
  asc := by
    rw [List.map_take]
    exact h.asc.sublist (List.take_sublist _ _)
  sub := fun p hp => .of ⟨p, hp, rfl⟩
  one := fun p hp => h.one p (List.mem_of_mem_take hp)
  red := fun p hp q hq => h.red p (List.mem_of_mem_take hp) q (List.mem_of_mem_take hq)
  low := fun p hp => h.low p (List.mem_of_mem_take hp)
  gen := fun x hx h0 => by
    have hP : Span P x := Span.mono (fun v ⟨p, hp, e⟩ => by subst e; exact h.sub p (List.mem_of_mem_take hp)) hx
    refine h.gen x hP fun p hp => ?_
    by_cases hq : ∃ q ∈ L.take i, q.1 = p.1
    · obtain ⟨q, hq, e⟩ := hq
      rw [← e]; exact h0 q hq
    · clear h0 hP
      induction hx with
      | zero => rfl
      | @add u v c hu _ ih =>
        obtain ⟨q, hq', e⟩ := hu
        subst e
        show c * q.2 p.1 + v p.1 = 0
        rw [h.red q (List.mem_of_mem_take hq') p hp fun z => hq ⟨q, hq', z⟩, ih]
        grind
/-- sorted leads of any rows -/
theorem leads_ex {rows : List DRow} : ∃ out, LeadsOut rows out := by
  refine ⟨_, ((redu rows).map (·.1)).mergeSort (fun a b => decide (a ≤ b)), List.mergeSort_perm _ _, ?_, rfl⟩
  refine (List.pairwise_mergeSort (le := fun (a b : Int) => decide (a ≤ b)) (fun a b c h1 h2 => ?_) (fun a b => ?_) _).imp fun h => by simpa using h
  · have h1 := of_decide_eq_true h1
    have h2 := of_decide_eq_true h2
    exact decide_eq_true (Int.le_trans h1 h2)
  · rcases Int.le_total a b with h | h <;> simp [h]
/-! ### the law's rows -/
section
variable {w M N : Nat} {mat : List (List Rat)} {left done : List IRow} {leads : List Int}
theorem due_len (h : SI w (MV mat) M N w left done leads) : (redRows done leads).length = leads.length := by
  unfold redRows
  have := h.len
  rw [List.length_map, List.length_zip]; omega
theorem qv_row (d : IRow) (a : Rat) (j : Int) : qv (d.map fun (x : Int) => (x : Rat) / a) j = (ia d j : Rat) / a := by
  unfold qv ia
  split
  · rw [List.getElem?_map]
    cases d[j.toNat]? with
    | none => exact (zdiv a).symm
    | some x => rfl
  · exact (zdiv a).symm
theorem due_qv (done : List IRow) (leads : List Int) : (redRows done leads).map qv = (lawL done leads).map (·.2) := by
  unfold redRows lawL
  rw [List.map_map, List.map_map]
  refine List.map_congr_left fun q _ => ?_
  funext j
  exact qv_row q.1 _ j
theorem due_wide (h : SI w (MV mat) M N w left done leads) : ∀ r ∈ redRows done leads, r.length = w := fun r hr => by
  obtain ⟨q, hq, e⟩ := List.mem_map.mp hr
  rw [← e, List.length_map]
  exact h.dw _ (List.of_mem_zip hq).1
/-- all rows of the law over one bottom -/
theorem due_over {M0 : Nat} (h : SI w (MV mat) M N w left done leads) (L : LI w M0 (mat.map wholeRow) (redu (mat.map wholeRow))) :
    ∃ D : Int, D ≠ 0 ∧ D.natAbs ≤ M0 ∧ ∀ p ∈ lawL done leads, ∃ z : Int → Int, (∀ j, (z j).natAbs ≤ M0) ∧ ∀ j, (z j : Rat) = p.2 j * (D : Rat) := by
  obtain ⟨out, hO⟩ := leads_ex (rows := mat.map wholeRow)
  have e := (our_rr L hO).one_list (law_rr h) fun x => sp_mv mat x
  obtain ⟨D, h1, h2, h3⟩ := L.bnd
  refine ⟨D, h1, h2, fun p hp => ?_⟩
  rw [← e] at hp
  obtain ⟨q, hq, e2⟩ := (ourL_mem L hO).mp hp
  obtain ⟨z, hz1, hz2⟩ := h3 q hq
  refine ⟨z, hz1, fun j => ?_⟩
  rw [e2]
  have h0 := int_ne (L.at' q hq)
  have h4 : ((z j * dv q.2 q.1 : Int) : Rat) = ((D * dv q.2 j : Int) : Rat) := by rw [hz2 j]
  rw [Rat.intCast_mul, Rat.intCast_mul] at h4
  show (z j : Rat) = (dv q.2 j : Rat) / (dv q.2 q.1 : Rat) * (D : Rat)
  grind
theorem due_fr {M0 : Nat} {D : Int} (h : SI w (MV mat) M N w left done leads) (hD : ∀ p ∈ lawL done leads, ∃ z : Int → Int, (∀ j, (z j).natAbs ≤ M0) ∧ ∀ j, (z j : Rat) = p.2 j * (D : Rat)) : Rw w D.natAbs M0 (redRows done leads) := fun r hr => by
  refine ⟨due_wide h r hr, fun x hx => ?_⟩
  have h1 : qv r ∈ (lawL done leads).map (·.2) := by rw [← due_qv]; exact List.mem_map_of_mem hr
  obtain ⟨p, hp, e⟩ := List.mem_map.mp h1
  obtain ⟨z, z1, z2⟩ := hD p hp
  obtain ⟨i, hi⟩ := List.mem_iff_getElem?.mp hx
  have h2 : x = p.2 (i : Int) := by
    rw [e]
    unfold qv
    rw [if_pos (by omega), Int.toNat_natCast, hi]
    rfl
  rcases Int.natAbs_eq D with hs | hs
  · exact ⟨z i, by rw [h2, ← hs]; exact z2 i, z1 i⟩
  · refine ⟨-z i, ?_, by rw [Int.natAbs_neg]; exact z1 i⟩
    have h3 : ((D.natAbs : Int) : Rat) = -(D : Rat) := by
      have : (D.natAbs : Int) = -D := by omega
      rw [this, Rat.intCast_neg]
    rw [h2, h3, Rat.intCast_neg, z2 i]
    grind
/-- a certificate of the law's rows -/
theorem due_cert {M0 b : Nat} (h : SI w (MV mat) M N w left done leads) (L : LI w M0 (mat.map wholeRow) (redu (mat.map wholeRow))) (hb : M0 ≤ 2 ^ b) (hw : w ≤ 6) (hb2 : b ≤ 990) :
    Cert w (2 ^ b, 2 ^ b) ((redRows done leads).map wholeRow) ∧ ∀ r ∈ redRows done leads, NumOk r := by
  obtain ⟨D, h1, h2, h3⟩ := due_over h L
  have hR := due_fr h h3
  have hDn : D.natAbs ≠ 0 := by omega
  have hro := hR.rows hDn hb
  refine ⟨⟨hro, fun i => ?_, (by omega), ?_, Nat.one_le_two_pow, Nat.one_le_two_pow⟩, fun r hr => ?_⟩
  · have Li := redu_take Nat.one_le_two_pow hro i
    obtain ⟨out, hO⟩ := leads_ex (rows := ((redRows done leads).map wholeRow).take i)
    have e := (our_rr Li hO).one_list ((law_rr h).take i) fun x => by
      have e1 := sp_mv ((redRows done leads).take i) x
      rw [List.map_take] at e1
      refine e1.trans ?_
      have e2 : ((redRows done leads).take i).map qv = ((lawL done leads).take i).map (·.2) := by rw [List.map_take, List.map_take, due_qv]
      have e3 : ∀ v, MV ((redRows done leads).take i) v ↔ ∃ p ∈ (lawL done leads).take i, v = p.2 := fun v => by
        constructor
        · rintro ⟨r, hr, ev⟩
          have : qv r ∈ ((lawL done leads).take i).map (·.2) := by rw [← e2]; exact List.mem_map_of_mem hr
          obtain ⟨p, hp, ep⟩ := List.mem_map.mp this
          exact ⟨p, hp, by rw [ev]; exact ep.symm⟩
        · rintro ⟨p, hp, ev⟩
          have : p.2 ∈ ((redRows done leads).take i).map qv := by rw [e2]; exact List.mem_map_of_mem hp
          obtain ⟨r, hr, er⟩ := List.mem_map.mp this
          exact ⟨r, hr, by rw [ev]; exact er.symm⟩
      exact ⟨Span.mono fun v hv => .of ((e3 v).mp hv), Span.mono fun v hv => .of ((e3 v).mpr hv)⟩
    refine ⟨Li.nd, Li.good, Li.keys, Li.at', Li.prim, Li.red, Li.low, Li.sub, Li.gen, D, h1, Nat.le_trans h2 hb, fun p hp => ?_⟩
    have hm : (p.1, fun j => (dv p.2 j : Rat) / (dv p.2 p.1 : Rat)) ∈ lawL done leads := List.mem_of_mem_take (by rw [← e]; exact (ourL_mem Li hO).mpr ⟨p, hp, rfl⟩)
    obtain ⟨z, z1, z2⟩ := h3 _ hm
    refine ⟨z, fun j => Nat.le_trans (z1 j) hb, fun j => ?_⟩
    have h0 := int_ne (Li.at' p hp)
    have h4 : (z j : Rat) = (dv p.2 j : Rat) / (dv p.2 p.1 : Rat) * (D : Rat) := z2 j
    have h5 : ((z j * dv p.2 p.1 : Int) : Rat) = ((D * dv p.2 j : Int) : Rat) := by
      rw [Rat.intCast_mul, Rat.intCast_mul]
      grind
    exact_mod_cast h5
  · show (w + 1) * (2 ^ b * 2 ^ b) < 2 ^ 4000
    have h4 : (w + 1) * (2 ^ b * 2 ^ b) ≤ 2 ^ (3 + (b + b)) := by
      rw [Nat.pow_add, Nat.pow_add]
      exact Nat.mul_le_mul (by omega) (Nat.le_refl _)
    exact Nat.lt_of_le_of_lt h4 (Nat.pow_lt_pow_right (by omega) (by omega))
  · have hz : (2 : Nat) ^ b < 2 ^ 1000 := Nat.pow_lt_pow_right (by omega) (by omega)
    refine ⟨D.natAbs, Nat.pos_of_ne_zero hDn, Nat.lt_of_le_of_lt (Nat.le_trans h2 hb) hz, fun q hq => ?_⟩
    obtain ⟨a1, a2⟩ := (hR r hr).2.nums hDn q hq
    exact ⟨a1, Nat.lt_of_le_of_lt (Nat.le_trans a2 hb) hz⟩
/-- the law's rows span the same -/
theorem due_span (h : SI w (MV mat) M N w left done leads) : SameSpan (redRows done leads) mat := by
  have e3 : ∀ v, MV (redRows done leads) v ↔ ∃ p ∈ lawL done leads, v = p.2 := fun v => by
    constructor
    · rintro ⟨r, hr, ev⟩
      have : qv r ∈ (lawL done leads).map (·.2) := by rw [← due_qv]; exact List.mem_map_of_mem hr
      obtain ⟨p, hp, ep⟩ := List.mem_map.mp this
      exact ⟨p, hp, by rw [ev]; exact ep.symm⟩
    · rintro ⟨p, hp, ev⟩
      have : p.2 ∈ (redRows done leads).map qv := by rw [due_qv]; exact List.mem_map_of_mem hp
      obtain ⟨r, hr, er⟩ := List.mem_map.mp this
      exact ⟨r, hr, by rw [ev]; exact er.symm⟩
  have R := law_rr h
  refine fun x => ⟨Span.mono fun v hv => ?_, fun hx => ?_⟩
  · obtain ⟨p, hp, e⟩ := (e3 v).mp hv
    rw [e]; exact R.sub p hp
  · refine (comb_span (x := x) (L := lawL done leads) fun p hp => Span.of ((e3 _).mpr ⟨p, hp, rfl⟩)).cast fun j => (R.expand hx j).symm
end
end T
end
section
set_option Elab.async false
set_option linter.all false
set_option maxRecDepth 100000
set_option maxHeartbeats 2000000
set_option exponentiation.threshold 10000
/-! Plain tables: products, powers. -/
namespace T
/-! ### sums -/
def sumN : Nat → (Nat → Rat) → Rat
  | 0, _ => 0
  | n + 1, f => sumN n f + f n
theorem sumN_congr {f g : Nat → Rat} : ∀ {n : Nat}, (∀ i, i < n → f i = g i) → sumN n f = sumN n g
  | 0, _ => rfl
  | n + 1, h => by
    show sumN n f + f n = sumN n g + g n
    rw [sumN_congr (n := n) fun i hi => h i (by omega), h n (by omega)]
theorem sumN_add (f g : Nat → Rat) : ∀ n, sumN n (fun i => f i + g i) = sumN n f + sumN n g
  | 0 => by show (0 : Rat) = 0 + 0; grind
  | n + 1 => by
    show sumN n (fun i => f i + g i) + (f n + g n) = sumN n f + f n + (sumN n g + g n)
    rw [sumN_add f g n]; grind
theorem sumN_mul (c : Rat) (f : Nat → Rat) : ∀ n, sumN n (fun i => c * f i) = c * sumN n f
  | 0 => by show (0 : Rat) = c * 0; grind
  | n + 1 => by
    show sumN n (fun i => c * f i) + c * f n = c * (sumN n f + f n)
    rw [sumN_mul c f n]; grind
theorem sumN_mulr (c : Rat) (f : Nat → Rat) : ∀ n, sumN n (fun i => f i * c) = sumN n f * c
  | 0 => by show (0 : Rat) = 0 * c; grind
  | n + 1 => by
    show sumN n (fun i => f i * c) + f n * c = (sumN n f + f n) * c
    rw [sumN_mulr c f n]; grind
theorem sumN_zero : ∀ n, sumN n (fun _ => 0) = 0
  | 0 => rfl
  | n + 1 => by
    show sumN n (fun _ => 0) + 0 = 0
    rw [sumN_zero n]; grind
theorem sumN_swap (m : Nat) (f : Nat → Nat → Rat) : ∀ n, sumN n (fun i => sumN m (f i)) = sumN m fun j => sumN n fun i => f i j
  | 0 => (sumN_zero m).symm
  | n + 1 => by
    show sumN n (fun i => sumN m (f i)) + sumN m (f n) = sumN m fun j => sumN n (fun i => f i j) + f n j
    rw [sumN_swap m f n, ← sumN_add]
theorem sumN_pick (f : Nat → Rat) (i : Nat) : ∀ {n : Nat}, i < n → sumN n (fun l => if l = i then f l else 0) = f i
  | n + 1, h => by
    show sumN n (fun l => if l = i then f l else 0) + (if n = i then f n else 0) = f i
    by_cases e : n = i
    · rw [if_pos e, e, sumN_congr (n := i) (g := fun _ => 0) (fun l hl => if_neg (by omega)), sumN_zero]; grind
    · rw [if_neg e, sumN_pick f i (n := n) (by omega)]; grind
/-! ### entries -/
def en (m : List (List Rat)) (i j : Nat) : Rat := ((m[i]?.getD [])[j]?).getD 0
theorem row_ext {w : Nat} {r s : List Rat} (hr : r.length = w) (hs : s.length = w) (h : ∀ j, j < w → r[j]?.getD 0 = s[j]?.getD 0) : r = s :=
  List.ext_getElem (by omega) fun j h1 h2 => by
    have := h j (by omega)
    rw [List.getElem?_eq_getElem h1, List.getElem?_eq_getElem h2] at this
    exact this
theorem Tab.get {t w : Nat} {a : List (List Rat)} (ha : Tab t w a) {i : Nat} (hi : i < t) : ∃ r, a[i]? = some r ∧ r.length = w ∧ ∀ j, en a i j = r[j]?.getD 0 := by
  have hl := ha.tall
  have e : a[i]? = some (a[i]'(by omega)) := List.getElem?_eq_getElem _
  exact ⟨_, e, ha.wide _ (List.mem_of_getElem? e), fun j => by unfold en; rw [e]; rfl⟩
theorem Tab.ext {t w : Nat} {a b : List (List Rat)} (ha : Tab t w a) (hb : Tab t w b) (h : ∀ i j, i < t → j < w → en a i j = en b i j) : a = b := by
  have h1 := ha.tall
  have h2 := hb.tall
  refine List.ext_getElem (by omega) fun i hi hi2 => ?_
  obtain ⟨r, e1, l1, g1⟩ := ha.get (i := i) (by omega)
  obtain ⟨s, e2, l2, g2⟩ := hb.get (i := i) (by omega)
  rw [List.getElem?_eq_getElem hi] at e1
  rw [List.getElem?_eq_getElem hi2] at e2
  rw [Option.some.inj e1, Option.some.inj e2]
  refine row_ext l1 l2 fun j hj => ?_
  rw [← g1, ← g2]
  exact h i j (by omega) hj
theorem en_unit {n i j : Nat} (hi : i < n) (hj : j < n) : en (unitM n) i j = if j = i then 1 else 0 := by
  unfold en unitM
  rw [List.getElem?_map, List.getElem?_range hi]
  show (((List.range n).map fun j => if j = i then (1 : Rat) else 0)[j]?).getD 0 = _
  rw [List.getElem?_map, List.getElem?_range hj]
  rfl
theorem en_cols {t w i j : Nat} {m : List (List Rat)} (hm : Tab t w m) (hi : i < w) (hj : j < t) : en (colsM w m) i j = en m j i := by
  obtain ⟨r, e, l, g⟩ := hm.get hj
  rw [g i]
  unfold en colsM
  rw [List.getElem?_map, List.getElem?_range hi]
  show ((m.map fun c => c[i]?.getD 0)[j]?).getD 0 = _
  rw [List.getElem?_map, e]
  rfl
theorem dot_sum {u : Nat} {a b : List Rat} (ha : a.length = u) (hb : b.length = u) : dotR a b = sumN u fun l => a[l]?.getD 0 * b[l]?.getD 0 := by
  have key : ∀ i, i ≤ u → ((a.zip b).take i).foldl (fun s q => s + q.1 * q.2) 0 = sumN i fun l => a[l]?.getD 0 * b[l]?.getD 0 := by
    intro i
    induction i with
    | zero => intro _; rfl
    | succ i ih =>
      intro hi
      have e1 : a[i]? = some (a[i]'(by omega)) := List.getElem?_eq_getElem _
      have e2 : b[i]? = some (b[i]'(by omega)) := List.getElem?_eq_getElem _
      have e3 : (a.zip b)[i]? = some (a[i]'(by omega), b[i]'(by omega)) := List.getElem?_zip_eq_some.mpr ⟨e1, e2⟩
      rw [take_get e3, List.foldl_append, ih (by omega)]
      show sumN i _ + _ = sumN i _ + a[i]?.getD 0 * b[i]?.getD 0
      rw [e1, e2]
      rfl
  have := key u (Nat.le_refl u)
  rw [List.take_of_length_le (by rw [List.length_zip]; omega)] at this
  exact this
theorem en_prod {t u w i j : Nat} {a b : List (List Rat)} (ha : Tab t u a) (hb : Tab u w b) (hu : 0 < u) (hi : i < t) (hj : j < w) : en (prodM a b) i j = sumN u fun l => en a i l * en b l j := by
  obtain ⟨r, e, hl, g⟩ := ha.get hi
  have hC := colsM_tab hb
  obtain ⟨c, e2, hl2, g2⟩ := hC.get hj
  have e3 : en (prodM a b) i j = dotR r c := by
    unfold en prodM
    rw [List.getElem?_map, e, hb.wideM hu]
    show (((colsM w b).map fun c => dotR r c)[j]?).getD 0 = _
    rw [List.getElem?_map, e2]
    rfl
  rw [e3, dot_sum hl hl2]
  refine sumN_congr fun l hl' => ?_
  rw [← g l, ← g2 l, en_cols hb hj hl']
theorem prod_assoc {t u v w : Nat} {a b c : List (List Rat)} (ha : Tab t u a) (hb : Tab u v b) (hc : Tab v w c) (hu : 0 < u) (hv : 0 < v) : prodM (prodM a b) c = prodM a (prodM b c) := by
  refine Tab.ext (prodM_tab (prodM_tab ha hb hu) hc hv) (prodM_tab ha (prodM_tab hb hc hv) hu) fun i j hi hj => ?_
  rw [en_prod (prodM_tab ha hb hu) hc hv hi hj, en_prod ha (prodM_tab hb hc hv) hu hi hj]
  rw [sumN_congr (g := fun l => sumN u fun k => en a i k * en b k l * en c l j) fun l hl => by rw [en_prod ha hb hu hi hl, ← sumN_mulr]]
  rw [sumN_swap]
  refine sumN_congr fun k hk => ?_
  rw [en_prod hb hc hv hk hj, ← sumN_mul]
  exact sumN_congr fun l _ => Rat.mul_assoc _ _ _
theorem prod_one {t n : Nat} {a : List (List Rat)} (ha : Tab t n a) (hn : 0 < n) : prodM a (unitM n) = a := by
  refine Tab.ext (prodM_tab ha (unitM_tab n) hn) ha fun i j hi hj => ?_
  rw [en_prod ha (unitM_tab n) hn hi hj, sumN_congr (g := fun l => if l = j then en a i l else 0) fun l hl => ?_, sumN_pick _ j hj]
  rw [en_unit hl hj]
  by_cases e : l = j
  · rw [if_pos e, if_pos e.symm]; grind
  · rw [if_neg e, if_neg (Ne.symm e)]; grind
theorem one_prod {n w : Nat} {a : List (List Rat)} (ha : Tab n w a) (hn : 0 < n) : prodM (unitM n) a = a := by
  refine Tab.ext (prodM_tab (unitM_tab n) ha hn) ha fun i j hi hj => ?_
  rw [en_prod (unitM_tab n) ha hn hi hj, sumN_congr (g := fun l => if l = i then en a l j else 0) fun l hl => ?_, sumN_pick (fun l => en a l j) i hi]
  rw [en_unit hi hl]
  by_cases e : l = i
  · rw [if_pos e, if_pos e]; grind
  · rw [if_neg e, if_neg e]; grind
/-! ### powers -/
def powM (n : Nat) (c : List (List Rat)) : Nat → List (List Rat)
  | 0 => unitM n
  | k + 1 => prodM (powM n c k) c
section
variable {n D M : Nat} {c : List (List Rat)}
theorem powM_tab (hc : Tab n n c) (hn : 0 < n) : ∀ k, Tab n n (powM n c k)
  | 0 => unitM_tab n
  | k + 1 => prodM_tab (powM_tab hc hn k) hc hn
theorem powM_add (hc : Tab n n c) (hn : 0 < n) (a : Nat) : ∀ b, prodM (powM n c a) (powM n c b) = powM n c (a + b)
  | 0 => prod_one (powM_tab hc hn a) hn
  | b + 1 => by
    show prodM (powM n c a) (prodM (powM n c b) c) = prodM (powM n c (a + b)) c
    rw [← prod_assoc (powM_tab hc hn a) (powM_tab hc hn b) hc hn hn, powM_add hc hn a b]
theorem powM_one (hc : Tab n n c) (hn : 0 < n) : powM n c 1 = c := one_prod hc hn
theorem powM_fr (hc : Tab n n c) (hn : 0 < n) (hf : FrM D M c) : ∀ k, FrM (D ^ k) ((n * M) ^ k) (powM n c k)
  | 0 => unitM_fr n
  | k + 1 => by
    have := prodM_fr (powM_tab hc hn k) (powM_fr hc hn hf k) hf
    rw [Nat.pow_succ, Nat.pow_succ, show (n * M) ^ k * (n * M) = n * ((n * M) ^ k * M) by rw [Nat.mul_left_comm]]
    exact this
end
end T
end
section
set_option Elab.async false
set_option linter.all false
set_option maxRecDepth 100000
set_option maxHeartbeats 2000000
set_option exponentiation.threshold 10000
/-! Plain tables: inverses by reduced rows. -/
namespace T
/-- a table with the unit table beside it -/
def augM (n : Nat) (A : List (List Rat)) : List (List Rat) := (A.zip (unitM n)).map fun p => p.1 ++ p.2
section
variable {n : Nat} {A : List (List Rat)}
theorem augM_tab (hA : Tab n n A) : Tab n (n + n) (augM n A) := by
  have hU := unitM_tab n
  refine ⟨by unfold augM; rw [List.length_map, List.length_zip, hA.tall, hU.tall]; omega, fun r hr => ?_⟩
  obtain ⟨p, hp, e⟩ := List.mem_map.mp hr
  obtain ⟨i, hi⟩ := List.mem_iff_getElem?.mp hp
  obtain ⟨h1, h2⟩ := List.getElem?_zip_eq_some.mp hi
  rw [← e, List.length_append, hA.wide _ (List.mem_of_getElem? h1), hU.wide _ (List.mem_of_getElem? h2)]
theorem en_aug (hA : Tab n n A) {i : Nat} (hi : i < n) : (∀ j, j < n → en (augM n A) i j = en A i j) ∧ ∀ k, k < n → en (augM n A) i (n + k) = if k = i then 1 else 0 := by
  obtain ⟨r, e, hl, g⟩ := hA.get hi
  obtain ⟨s, e2, hl2, g2⟩ := (unitM_tab n).get hi
  have key : ∀ j, en (augM n A) i j = (r ++ s)[j]?.getD 0 := fun j => by
    unfold en augM
    rw [List.getElem?_map, List.getElem?_zip_eq_some (z := (r, s)) |>.mpr ⟨e, e2⟩]
    rfl
  refine ⟨fun j hj => ?_, fun k hk => ?_⟩
  · rw [key, List.getElem?_append_left (by omega), g]
  · rw [key, List.getElem?_append_right (by omega), hl, Nat.add_sub_cancel_left, ← g2, en_unit hi hk]
theorem qv_nat (r : List Rat) (j : Nat) : qv r (j : Int) = r[j]?.getD 0 := by
  unfold qv
  rw [if_pos (by omega)]
  rfl
/-- a row of a table, told by its entries -/
theorem mv_en {t w : Nat} {m : List (List Rat)} (hm : Tab t w m) {v : Vec} (h : MV m v) : ∃ i, i < t ∧ ∀ j : Nat, v j = en m i j := by
  obtain ⟨r, hr, e⟩ := h
  obtain ⟨i, hi⟩ := List.mem_iff_getElem?.mp hr
  have hil := (List.getElem?_eq_some_iff.mp hi).1
  rw [hm.tall] at hil
  refine ⟨i, hil, fun j => ?_⟩
  obtain ⟨s, e2, _, g⟩ := hm.get hil
  rw [hi] at e2
  rw [e, qv_nat, g, Option.some.inj e2]
theorem en_mv {t w : Nat} {m : List (List Rat)} (hm : Tab t w m) {i : Nat} (hi : i < t) : ∃ v, MV m v ∧ ∀ j : Nat, v j = en m i j := by
  obtain ⟨r, e, _, g⟩ := hm.get hi
  exact ⟨qv r, ⟨r, List.mem_of_getElem? e, rfl⟩, fun j => by rw [qv_nat, g]⟩
theorem mv_neg {m : List (List Rat)} {v : Vec} (h : Span (MV m) v) (j : Int) (hj : j < 0) : v j = 0 := by
  induction h with
  | zero => rfl
  | @add u x c hu _ ih =>
    obtain ⟨r, _, e⟩ := hu
    subst e
    show c * qv r j + x j = 0
    rw [ih]
    unfold qv
    rw [if_neg (by omega)]
    grind
/-- what the span of the rows with the unit table beside it keeps -/
theorem aug_law (hA : Tab n n A) {v : Vec} (h : Span (MV (augM n A)) v) : ∀ j : Nat, j < n → v j = sumN n fun k => v ((n + k : Nat) : Int) * en A k j := by
  induction h with
  | zero =>
    intro j _
    rw [sumN_congr (g := fun _ => 0) fun k _ => by grind, sumN_zero]
  | @add u x c hu _ ih =>
    intro j hj
    obtain ⟨i, hi, g⟩ := mv_en (augM_tab hA) hu
    obtain ⟨a1, a2⟩ := en_aug hA hi
    show c * u j + x j = sumN n fun k => (c * u ((n + k : Nat) : Int) + x ((n + k : Nat) : Int)) * en A k j
    rw [sumN_congr (g := fun k => c * (if k = i then en A k j else 0) + x ((n + k : Nat) : Int) * en A k j) fun k hk => ?_, sumN_add, sumN_mul, sumN_pick (fun k => en A k j) i hi, ← ih j hj, g, a1 j hj]
    rw [g, a2 k hk]
    by_cases e : k = i
    · rw [if_pos e, if_pos e]; grind
    · rw [if_neg e, if_neg e]; grind
theorem span_sum {P : Vec → Prop} {f : Nat → Vec} (a : Nat → Rat) : ∀ {m : Nat}, (∀ i, i < m → Span P (f i)) → Span P fun j => sumN m fun i => a i * f i j
  | 0, _ => .zero
  | m + 1, h => (span_sum a (m := m) fun i hi => h i (by omega)).plus ((h m (by omega)).smul (a m))
/-- the span's beginnings are the span of the table itself -/
theorem aug_left (hA : Tab n n A) {v : Vec} (h : Span (MV (augM n A)) v) : ∃ u, Span (MV A) u ∧ ∀ j : Nat, j < n → u j = v j := by
  induction h with
  | zero => exact ⟨_, .zero, fun _ _ => rfl⟩
  | @add x y c hx _ ih =>
    obtain ⟨u, hu, g⟩ := ih
    obtain ⟨i, hi, gx⟩ := mv_en (augM_tab hA) hx
    obtain ⟨a, ha, ga⟩ := en_mv hA hi
    exact ⟨_, .add c ha hu, fun j hj => by
      show c * a j + u j = c * x j + y j
      rw [g j hj, ga, gx, (en_aug hA hi).1 j hj]⟩
theorem left_aug (hA : Tab n n A) {v : Vec} (h : Span (MV A) v) : ∃ u, Span (MV (augM n A)) u ∧ ∀ j : Nat, j < n → u j = v j := by
  induction h with
  | zero => exact ⟨_, .zero, fun _ _ => rfl⟩
  | @add x y c hx _ ih =>
    obtain ⟨u, hu, g⟩ := ih
    obtain ⟨i, hi, gx⟩ := mv_en hA hx
    obtain ⟨a, ha, ga⟩ := en_mv (augM_tab hA) hi
    exact ⟨_, .add c ha hu, fun j hj => by
      show c * a j + u j = c * x j + y j
      rw [g j hj, ga, gx, (en_aug hA hi).1 j hj]⟩
/-- each unit row stands at the beginning of a vector -/
def Full (n : Nat) (P : Vec → Prop) : Prop := ∀ c, c < n → ∃ v, Span P v ∧ ∀ j : Nat, j < n → v j = if j = c then 1 else 0
theorem full_aug (hA : Tab n n A) : Full n (MV (augM n A)) ↔ Full n (MV A) := by
  constructor
  · intro h c hc
    obtain ⟨v, hv, g⟩ := h c hc
    obtain ⟨u, hu, g2⟩ := aug_left hA hv
    exact ⟨u, hu, fun j hj => by rw [g2 j hj, g j hj]⟩
  · intro h c hc
    obtain ⟨v, hv, g⟩ := h c hc
    obtain ⟨u, hu, g2⟩ := left_aug hA hv
    exact ⟨u, hu, fun j hj => by rw [g2 j hj, g j hj]⟩
/-- reduced rows with all these leads -/
theorem full_rr {m : List (List Rat)} {L : List (Int × Vec)} (h : Rr (MV m) L) : Full n (MV m) ↔ ∀ c, c < n → ((c : Nat) : Int) ∈ L.map (·.1) := by
  constructor
  · intro hf c hc
    apply Classical.byContradiction
    intro hn
    obtain ⟨v, hv, g⟩ := hf c hc
    have e := h.expand hv (c : Int)
    rw [g c hc, if_pos rfl, comb_zero fun p hp => ?_] at e
    · exact absurd e (by decide)
    have h1 := h.one p hp
    have h0 : 0 ≤ p.1 := by
      rcases Int.lt_or_le p.1 0 with q | q
      · rw [mv_neg (h.sub p hp) _ q] at h1; exact absurd h1 (by decide)
      · exact q
    rcases Int.lt_or_le p.1 (n : Int) with q | q
    · obtain ⟨k, ek⟩ : ∃ k : Nat, p.1 = (k : Int) := ⟨p.1.toNat, by omega⟩
      have hkc : k ≠ c := fun z => hn (List.mem_map.mpr ⟨p, hp, by rw [ek, z]⟩)
      rw [ek, g k (by omega), if_neg hkc]; grind
    · rw [h.low p hp (c : Int) (by omega)]; grind
  · intro hl c hc
    obtain ⟨p, hp, e⟩ := List.mem_map.mp (hl c hc)
    refine ⟨p.2, h.sub p hp, fun j hj => ?_⟩
    obtain ⟨q, hq, e2⟩ := List.mem_map.mp (hl j hj)
    by_cases ej : j = c
    · rw [if_pos ej, ej]
      have := h.one p hp
      rw [e] at this
      exact this
    · rw [if_neg ej, ← e2]
      exact h.red p hp q hq (by rw [e, e2]; omega)
theorem iota_asc : ∀ n : Nat, ((List.range n).map fun (i : Nat) => (i : Int)).Pairwise (· < ·) := fun n => by
  rw [List.pairwise_map]
  exact List.pairwise_lt_range.imp fun h => by omega
theorem iota_sub {l : List Int} (h : ∀ c : Nat, c < n → ((c : Nat) : Int) ∈ l) : ∀ c ∈ (List.range n).map fun (i : Nat) => (i : Int), c ∈ l := fun c hc => by
  obtain ⟨i, hi, e⟩ := List.mem_map.mp hc
  rw [← e]
  exact h i (List.mem_range.mp hi)
/-- all leads, no more -/
theorem leads_all {l : List Int} (ha : l.Pairwise (· < ·)) (h : ∀ c : Nat, c < n → ((c : Nat) : Int) ∈ l) (hl : l.length ≤ n) : l = (List.range n).map fun (i : Nat) => (i : Int) :=
  (asc_sub (iota_asc n) ha (iota_sub h) (by rw [List.length_map, List.length_range]; exact hl)).symm
/-- leads within n: as many as n, or not all -/
theorem leads_n {l : List Int} (ha : l.Pairwise (· < ·)) (hb : ∀ c ∈ l, 0 ≤ c ∧ c < (n : Int)) : (∀ c : Nat, c < n → ((c : Nat) : Int) ∈ l) ↔ l.length = n := by
  have hle : l.length ≤ n := keys_len n l (ha.imp fun h => by omega) hb
  constructor
  · intro h
    rw [leads_all ha h hle, List.length_map, List.length_range]
  · intro h c hc
    have : l = (List.range n).map fun (i : Nat) => (i : Int) := asc_sub ha (iota_asc n) (fun c hc => by
      have := hb c hc
      exact List.mem_map.mpr ⟨c.toNat, List.mem_range.mpr (by omega), by omega⟩) (by rw [List.length_map, List.length_range, h]; exact Nat.le_refl _)
    rw [this]
    exact List.mem_map.mpr ⟨c, List.mem_range.mpr hc, rfl⟩
/-! ### the program's way -/
section
variable {L : List (Int × Vec)}
/-- no vector of the span begins with zeros, if all leads stand in front -/
theorem front_zero (h : Rr (MV (augM n A)) L) (hf : Full n (MV (augM n A))) (hl : L.length ≤ n) {x : Vec} (hx : Span (MV (augM n A)) x) (h0 : ∀ j : Nat, j < n → x j = 0) : ∀ j, x j = 0 := by
  refine h.gen x hx fun p hp => ?_
  have e := leads_all h.asc ((full_rr h).mp hf) (by rw [List.length_map]; exact hl)
  have hm : p.1 ∈ L.map (·.1) := List.mem_map_of_mem hp
  rw [e] at hm
  obtain ⟨i, hi, ei⟩ := List.mem_map.mp hm
  rw [← ei]
  exact h0 i (List.mem_range.mp hi)
/-- two tables out of such vectors are one -/
theorem front_one (h : Rr (MV (augM n A)) L) (hf : Full n (MV (augM n A))) (hl : L.length ≤ n) {x y : Vec} (hx : Span (MV (augM n A)) x) (hy : Span (MV (augM n A)) y) (e : ∀ j : Nat, j < n → x j = y j) : ∀ j, x j = y j := fun j => by
  have := front_zero h hf hl (x := fun j => x j + (-1) * y j) (hx.plus (hy.smul (-1))) (fun j hj => by
    show x j + (-1) * y j = 0
    rw [e j hj]; grind) j
  have : x j + (-1) * y j = 0 := this
  grind
/-- the right halves are the inverse -/
theorem inverse_both (hA : Tab n n A) (hn : 0 < n) (h : Rr (MV (augM n A)) L) (hl : L.length ≤ n) {X : List (List Rat)} (hX : Tab n n X) (v : Nat → Vec) (hv : ∀ c, c < n → Span (MV (augM n A)) (v c)) (g : ∀ c, c < n → ∀ j : Nat, j < n → v c j = if j = c then 1 else 0)
    (eX : ∀ c, c < n → ∀ k, k < n → en X c k = v c ((n + k : Nat) : Int)) : prodM X A = unitM n ∧ prodM A X = unitM n := by
  have hf : Full n (MV (augM n A)) := fun c hc => ⟨v c, hv c hc, g c hc⟩
  constructor
  · refine Tab.ext (prodM_tab hX hA hn) (unitM_tab n) fun i j hi hj => ?_
    rw [en_prod hX hA hn hi hj, en_unit hi hj, ← g i hi j hj, aug_law hA (hv i hi) j hj]
    exact sumN_congr fun k hk => by rw [eX i hi k hk]
  · refine Tab.ext (prodM_tab hA hX hn) (unitM_tab n) fun i j hi hj => ?_
    rw [en_prod hA hX hn hi hj, en_unit hi hj]
    obtain ⟨b, hb, gb⟩ := en_mv (augM_tab hA) hi
    obtain ⟨a1, a2⟩ := en_aug hA hi
    have e := front_one h hf hl (x := b) (y := fun j => sumN n fun c => en A i c * v c j) (.of hb) (span_sum _ hv) (fun j hj => by
      show b j = sumN n fun c => en A i c * v c j
      rw [sumN_congr (g := fun c => if c = j then en A i c else 0) fun c hc => ?_, sumN_pick _ j hj, gb, a1 j hj]
      rw [g c hc j hj]
      by_cases e : j = c
      · rw [if_pos e, if_pos e.symm]; grind
      · rw [if_neg e, if_neg (Ne.symm e)]; grind) ((n + j : Nat) : Int)
    have e : b ((n + j : Nat) : Int) = sumN n fun c => en A i c * v c ((n + j : Nat) : Int) := e
    rw [gb, a2 j hj] at e
    rw [e]
    exact sumN_congr fun c hc => by rw [eX c hc j hj]
end
/-! ### the law's way -/
section
variable {M N : Nat} {left done : List IRow} {leads : List Int}
/-- the law's rank -/
theorem full_rank (h : SI n (MV A) M N n left done leads) : Full n (MV A) ↔ leads.length = n := by
  rw [full_rr (law_rr h), lawL_fst h.len, leads_n h.asc h.lt]
/-- the law's leads in the first columns -/
theorem full_law {w : Nat} {m : List (List Rat)} (h : SI w (MV m) M N n left done leads) (hf : Full n (MV m)) : leads = (List.range n).map fun (i : Nat) => (i : Int) := by
  refine leads_all h.asc (fun c hc => ?_) (keys_len n leads (h.asc.imp fun h => by omega) h.lt)
  apply Classical.byContradiction
  intro hn
  obtain ⟨v, hv, g⟩ := hf c hc
  have h1 := h.gen v hv fun d hd => by
    have := h.lt d hd
    obtain ⟨k, ek⟩ : ∃ k : Nat, d = (k : Int) := ⟨d.toNat, by omega⟩
    have hkc : k ≠ c := fun z => hn (by rw [← z, ← ek]; exact hd)
    rw [ek, g k (by omega), if_neg hkc]
  have key : ∀ x, Span (fun v => ∃ l ∈ left, v = iv l) x → x (c : Int) = 0 := by
    intro x hx
    induction hx with
    | zero => rfl
    | @add u y a hu _ ih =>
      obtain ⟨l, hl, e⟩ := hu
      subst e
      show a * (ia l (c : Int) : Rat) + y (c : Int) = 0
      rw [h.lz l hl (c : Int) (by omega), ih, Rat.intCast_zero]
      grind
  have h2 := key v h1
  rw [g c hc, if_pos rfl] at h2
  exact absurd h2 (by decide)
/-- the law's rows as vectors -/
theorem law_vec {w : Nat} {m : List (List Rat)} (h : SI w (MV m) M N n left done leads) (hf : Full n (MV m)) {c : Nat} (hc : c < n) : ∃ r, (redRows done leads)[c]? = some r ∧ Span (MV m) (qv r) ∧ ∀ j : Nat, j < n → qv r j = if j = c then 1 else 0 := by
  have el := full_law h hf
  have hll : leads.length = n := by rw [el, List.length_map, List.length_range]
  have hg : ∀ k, k < n → leads[k]? = some (k : Int) := fun k hk => by rw [el, List.getElem?_map, List.getElem?_range hk]; rfl
  have hd : done[c]? = some (done[c]'(by rw [h.len]; omega)) := List.getElem?_eq_getElem _
  generalize done[c]'(by rw [h.len]; omega) = d at hd
  refine ⟨d.map fun (x : Int) => (x : Rat) / (ia d c : Rat), ?_, ?_, fun j hj => ?_⟩
  · unfold redRows
    rw [List.getElem?_map, List.getElem?_zip_eq_some (z := (d, (c : Int))) |>.mpr ⟨hd, hg c hc⟩]
    rfl
  · refine (Span.smul (h.dv d (List.mem_of_getElem? hd)) (1 / (ia d c : Rat))).cast fun j => ?_
    rw [qv_row]
    show 1 / (ia d c : Rat) * (ia d j : Rat) = (ia d j : Rat) / (ia d c : Rat)
    grind
  · rw [qv_row]
    by_cases e : j = c
    · rw [if_pos e, e]
      have := int_ne (h.one c d c hd (hg c hc)).1
      grind
    · rw [if_neg e, h.red c j d j hd (hg j hj) (Ne.symm e)]
      exact zdiv _
end
end
end T
end
section
set_option Elab.async false
set_option linter.all false
set_option maxRecDepth 100000
set_option maxHeartbeats 2000000
set_option exponentiation.threshold 10000
namespace T
open PySem PySem.Spec PyProof.Rows L2
/-! ### tables in slots, owned or not -/
def Hd (K : PySem.W.Frag) (m : List (List Rat)) (x : Kd) : Prop := x = .im (rL K (rT K (rQ K))) m ∨ ∃ p, x = .ow p (cL (rT K (rQ K))) m
theorem set_self : ∀ {τ : Tau} {i : Nat} {x : Kd}, τ[i]? = some x → τ.set i x = τ
  | y :: τ, 0, x, h => by cases h; rfl
  | y :: τ, i + 1, x, h => by
    show y :: τ.set i x = y :: τ
    rw [set_self (τ := τ) (i := i) h]
section
variable {G : Gm} {X : Cx} {N : List Str} {sc : Scope} {n : Nat} {τ : Tau} {k : KK} {P : Po} {a b : Expr} {pos p1 p2 : Pos}
theorem S_hd {K : PySem.W.Frag} {sts : List Stmt} {i : Nat} {x : Kd} {m : List (List Rat)} (ht : τ[i]? = some x) (h : Hd K m x) (g : S X sts (τ.set i (.im (rL K (rT K (rQ K))) m)) P) : S X sts τ P := by
  rcases h with e | ⟨p, e⟩
  · rw [e] at ht
    rw [set_self ht] at g
    exact g
  · rw [e] at ht
    exact S_frz ht (frz_L (K := K)) g
/-- (*t, *u) -/
theorem E_star2 {x1} {α : Type} (A : DR α) (hX : XF G X N sc n) (h : E X a τ fun x τ1 => ∃ l, Fz x (.im (rT G.K A) l) ∧ E X b τ1 fun y τ2 => ∃ m, Fz y (.im (rT G.K A) m) ∧ l.length + m.length < 100000 ∧ k (.im (rT G.K A) (l ++ m)) τ2) : E X (.Tuple [.Starred a p1, .Starred b p2] x1 pos) τ k :=
  E.of (pe_tup (StX.pa_star pe_sem (StX.pa_star pe_sem pa_nil))) fun σ H F R0 R Q ok q => h σ H F R0 R _ ok fun x τ1 v R1 H1 ⟨l, fz, hb⟩ l1 ok1 w1 => by
    obtain ⟨R2, l2, ok2, r⟩ := fz_rel ok1 w1 fz
    obtain ⟨pa, xs, e1, h1, hp1⟩ := r
    refine ⟨pa, xs, e1, .inl (by rw [hX.eK]; exact ok2.le.sqT h1), ?_⟩
    refine hb σ H1 F R0 R2 _ ok2 fun y τ2 u R3 H3 ⟨m, fz', hz, hk⟩ l3 ok3 w3 => ?_
    obtain ⟨R4, l4, ok4, r'⟩ := fz_rel ok3 w3 fz'
    obtain ⟨pb, ys, e2, h2, hp2⟩ := r'
    refine ⟨pb, ys, e2, .inl (by rw [hX.eK]; exact ok4.le.sqT h2), ?_⟩
    have n1 := PySem.Paired.length hp1
    have n2 := PySem.Paired.length hp2
    refine ⟨by rw [sizeLine_eq]; simp; omega, fun p hp => ?_⟩
    obtain ⟨hR, hF, ho⟩ := ok4.fresh hp
    have happ : ∀ {xs ys : List V} {l m : List α}, Paired (A.rel R4) xs l → Paired (A.rel R4) ys m → Paired (A.rel R4) (xs ++ ys) (l ++ m) := by
      intro xs ys l m h1 h2
      induction h1 with
      | nil => exact h2
      | cons r t ih => exact .cons r ih
    have e : xs ++ (ys ++ []) = xs ++ ys := by rw [List.append_nil]
    rw [e]
    exact q _ τ2 _ _ _ hk (((l1.trans l2).trans (l3.trans l4)).trans (Le.upd hR)) (ok4.lay hp) (VOk.im ⟨p, _, rfl, .inl (.inl upd_same), paired_up A (Le.upd hR) (happ (paired_up A (l3.trans l4) hp1) hp2)⟩)
end
/-! ### power -/
def cPower (K : PySem.W.Frag) : Ct := fun ks k => ∃ (m : Mat) (n count D M : Nat), ks = [.im (rMat K) m, .im rI (count : Int)] ∧ GivOk (widthOf m) m ∧ Tab n n (qmat m) ∧ 0 < n ∧ n ≤ 1000 ∧ FrM D M (qmat m) ∧ D ≠ 0 ∧ M ≠ 0 ∧ D ^ count < 2 ^ 1000 ∧ (n * M) ^ count < 2 ^ 1000 ∧
  k (.im (rL K (rT K (rQ K))) (powM n (qmat m) count)) [.no, .no]
theorem scPower : FnScope ["rows", "count", "base", "found", "left"] ["rows", "count"] (defScope (top 27)) := ⟨rfl, rfl, rfl, by decide +kernel, rfl, by decide +kernel, by decide +kernel⟩
theorem qPower {G : Gm} {f : Addr} {fd : FuncData} (F : Fun G.K "power" "power" (top 27) f fd) (hf : G.mg "power" = some (.ref f)) (b : Binds G.K fd ["rows", "count"] [])
    (B : Bi G) (h1 : Fn G "square" 7 (cSquare G.K)) (h2 : Fn G "unit_rows" 1 (cUnitR G.K)) (h3 : Fn G "product_of" 3 (cProd G.K)) : Fn G "power" 8 (cPower G.K) := by
  refine Fn.of F hf b scPower (fun ks k ⟨_, _, _, _, _, h, _⟩ => by rw [h]; rfl) fun X hX hfn hp ks k ⟨m, n, count, D, M, hks, hg, hT, hn, hn1, hF, hD, hM, hDz, hMz, hk⟩ => ?_
  subst hks
  generalize hc : qmat m = c at *
  have hnM : 0 < n * M := Nat.mul_pos hn (Nat.pos_of_ne_zero hM)
  -- base = square(rows)
  refine S_cons ?_
  refine S1_set (i := 2) hX rfl rfl ?_  -- base
  refine E_call hX h1 (by omega) rfl rfl ?_
  refine A_cons rfl ?_
  refine P_name (i := 0) hX rfl (.inl rfl) rfl (by intro z; cases z) ?_  -- rows
  refine A_nil ?_
  refine ⟨[_], ⟨rfl, trivial⟩, trivial, m, n, rfl, hg, by rw [hc]; exact hT, hn, fun p1 => ?_⟩
  rw [hc]
  refine S_frz (i := 2) rfl (frz_L (K := G.K)) ?_
  -- found = unit_rows(len(base))
  refine S_cons ?_
  refine S1_set (i := 3) hX rfl rfl ?_  -- found
  refine E_call hX h2 (by omega) rfl rfl ?_
  refine A_cons rfl ?_
  refine P_val ?_
  refine E_len hX rfl B.len rfl ?_
  refine P_name (i := 2) hX rfl (.inl rfl) rfl (by intro z; cases z) ?_  -- base
  refine ⟨_, _, rfl, len_L, ?_⟩
  refine ⟨_, _, _, .im _ _, ?_⟩
  rw [hT.tall]
  refine A_nil ?_
  refine ⟨[_], ⟨rfl, trivial⟩, trivial, n, rfl, hn1, fun p2 => ?_⟩
  refine S_frz (i := 3) rfl (frz_L (K := G.K)) ?_
  -- left = count
  refine S_cons ?_
  refine S1_set (i := 4) hX rfl rfl ?_  -- left
  refine E_name (i := 1) hX rfl (.inl rfl) rfl ?_  -- count
  -- while left > 0:
  refine S_cons ?_
  refine S1_while hp (fun l τ => ∃ (e f : Nat) (x2 x3 : Kd), Hd G.K (powM n c e) x2 ∧ Hd G.K (powM n c f) x3 ∧ f + e * l = count ∧ τ = [.im (rMat G.K) m, .im rI (count : Int), x2, x3, .im rI (l : Int)]) count ⟨1, 0, _, _, .inl rfl, .inl rfl, by omega, by rw [powM_one hT hn]; rfl⟩ fun l τ ⟨e, f, x2, x3, hx2, hx3, hef, hτ⟩ => ?_
  subst hτ
  refine C_gt ?_
  refine E_name (i := 4) hX rfl (.inl rfl) rfl ?_  -- left
  refine ⟨_, .im _ _, ?_⟩
  refine E_int ?_
  refine ⟨_, .im _ _, ?_⟩
  refine ⟨fun hc => ?_, fun hc => ?_⟩
  · have hl : 0 < l := by have := of_decide_eq_true hc; omega
    refine S_hd (i := 2) rfl hx2 ?_
    refine S_hd (i := 3) rfl hx3 ?_
    have hle : e ≤ e * l := Nat.le_mul_of_pos_right _ hl
    have prod : ∀ a b, a + b ≤ count → Tab n n (powM n c a) ∧ Tab n n (powM n c b) ∧ 0 < n ∧ n ≤ 1000 ∧ n ≤ 1000 ∧ n ≤ 1000 ∧ FrM (D ^ a) ((n * M) ^ a) (powM n c a) ∧ FrM (D ^ b) ((n * M) ^ b) (powM n c b) ∧ D ^ a ≠ 0 ∧ D ^ b ≠ 0 ∧ D ^ a * D ^ b < 2 ^ 1000 ∧ (n * M) ^ a < 2 ^ 1000 ∧ (n * M) ^ b < 2 ^ 1000 := fun a b hab =>
      ⟨powM_tab hT hn a, powM_tab hT hn b, hn, hn1, hn1, hn1, powM_fr hT hn hF a, powM_fr hT hn hF b, Nat.pos_iff_ne_zero.mp (Nat.pow_pos (Nat.pos_of_ne_zero hD)), Nat.pos_iff_ne_zero.mp (Nat.pow_pos (Nat.pos_of_ne_zero hD)),
        by rw [← Nat.pow_add]; exact Nat.lt_of_le_of_lt (Nat.pow_le_pow_right (Nat.pos_of_ne_zero hD) hab) hDz, Nat.lt_of_le_of_lt (Nat.pow_le_pow_right hnM (by omega)) hMz, Nat.lt_of_le_of_lt (Nat.pow_le_pow_right hnM (by omega)) hMz⟩
    -- if left % 2 == 1:
    refine S_join (fun τ => ∃ (f' : Nat) (x3 : Kd), Hd G.K (powM n c f') x3 ∧ f' = f + e * (l % 2) ∧ τ = [.im (rMat G.K) m, .im rI (count : Int), .im (rL G.K (rT G.K (rQ G.K))) (powM n c e), x3, .im rI (l : Int)]) ?_ fun τ ⟨f', x3, hx3, hf', hτ⟩ => ?_
    · refine S1_if ?_
      refine C_eqI ?_
      refine E_mod ?_
      refine E_name (i := 4) hX rfl (.inl rfl) rfl ?_  -- left
      refine ⟨_, .im _ _, ?_⟩
      refine E_int ?_
      refine ⟨_, .im _ _, by decide, ?_⟩
      refine ⟨_, .im _ _, ?_⟩
      refine E_int ?_
      refine ⟨_, .im _ _, ?_⟩
      refine ⟨fun hc => ?_, fun hc => ?_⟩
      · have hl2 : l % 2 = 1 := by have := of_decide_eq_true hc; omega
        -- found = product_of(found, base)
        refine S_one ?_
        refine S1_set (i := 3) hX rfl rfl ?_  -- found
        refine E_call hX h3 (by omega) rfl rfl ?_
        refine A_cons rfl ?_
        refine P_name (i := 3) hX rfl (.inl rfl) rfl (by intro z; cases z) ?_  -- found
        refine A_cons rfl ?_
        refine P_name (i := 2) hX rfl (.inl rfl) rfl (by intro z; cases z) ?_  -- base
        refine A_nil ?_
        obtain ⟨a1, a2, a3, a4, a5, a6, a7, a8, a9, a10, a11, a12, a13⟩ := prod f e (by omega)
        refine ⟨[_, _], ⟨rfl, rfl, trivial⟩, trivial, _, _, n, n, n, _, _, _, _, rfl, a1, a2, a3, a4, a5, a6, a7, a8, a9, a10, a11, a12, a13, fun p => ?_⟩
        exact ⟨f + e, _, .inr ⟨p, by rw [powM_add hT hn]⟩, by rw [hl2, Nat.mul_one], rfl⟩
      · have hl2 : l % 2 = 0 := by have := of_decide_eq_false hc; omega
        exact S_nil ⟨f, _, .inl rfl, by rw [hl2]; omega, rfl⟩
    subst hτ
    refine S_hd (i := 3) rfl hx3 ?_
    -- left = left // 2
    refine S_cons ?_
    refine S1_set (i := 4) hX rfl rfl ?_  -- left
    refine E_fdivB ?_
    refine E_name (i := 4) hX rfl (.inl rfl) rfl ?_  -- left
    refine ⟨_, .im _ _, ?_⟩
    refine E_int ?_
    refine ⟨_, .im _ _, divB_ok (by decide) (by decide), ?_⟩
    have e2 : ((l : Int).fdiv 2) = ((l / 2 : Nat) : Int) := by rw [Int.fdiv_eq_ediv_of_nonneg _ (by omega)]; omega
    rw [e2]
    have hsplit : e * l = e * (l % 2) + (e + e) * (l / 2) := by
      have : l = l % 2 + 2 * (l / 2) := by omega
      conv => lhs; rw [this]
      rw [Nat.mul_add, Nat.add_mul, ← Nat.mul_assoc, Nat.mul_two, Nat.add_mul]
    -- if left > 0:
    refine S_one ?_
    refine S1_if ?_
    refine C_gt ?_
    refine E_name (i := 4) hX rfl (.inl rfl) rfl ?_  -- left
    refine ⟨_, .im _ _, ?_⟩
    refine E_int ?_
    refine ⟨_, .im _ _, ?_⟩
    refine ⟨fun hc => ?_, fun hc => ?_⟩
    · have hl2 : 0 < l / 2 := by have := of_decide_eq_true hc; omega
      have hle2 : e + e ≤ (e + e) * (l / 2) := Nat.le_mul_of_pos_right _ hl2
      -- base = product_of(base, base)
      refine S_one ?_
      refine S1_set (i := 2) hX rfl rfl ?_  -- base
      refine E_call hX h3 (by omega) rfl rfl ?_
      refine A_cons rfl ?_
      refine P_name (i := 2) hX rfl (.inl rfl) rfl (by intro z; cases z) ?_  -- base
      refine A_cons rfl ?_
      refine P_name (i := 2) hX rfl (.inl rfl) rfl (by intro z; cases z) ?_  -- base
      refine A_nil ?_
      obtain ⟨a1, a2, a3, a4, a5, a6, a7, a8, a9, a10, a11, a12, a13⟩ := prod e e (by omega)
      refine ⟨[_, _], ⟨rfl, rfl, trivial⟩, trivial, _, _, n, n, n, _, _, _, _, rfl, a1, a2, a3, a4, a5, a6, a7, a8, a9, a10, a11, a12, a13, fun p => ?_⟩
      exact ⟨l / 2, by omega, e + e, f', _, _, .inr ⟨p, by rw [powM_add hT hn]⟩, .inl rfl, by omega, rfl⟩
    · have hl2 : l / 2 = 0 := by have := of_decide_eq_false hc; omega
      refine S_nil ⟨0, hl, e, f', _, _, ?_, .inl rfl, ?_, by rw [hl2]; rfl⟩
      · exact .inl rfl
      · rw [hl2, Nat.mul_zero] at hsplit; omega
  · have hl : l = 0 := by have := of_decide_eq_false hc; omega
    subst hl
    refine S_hd (i := 3) rfl hx3 ?_
    -- return found
    refine S_one ?_
    refine S1_ret ?_
    refine E_name (i := 3) hX rfl (.inl rfl) rfl ?_  -- found
    have e : f = count := by omega
    subst e
    exact fin_no hk
end T
end
section
set_option Elab.async false
set_option linter.all false
set_option maxRecDepth 100000
set_option maxHeartbeats 2000000
set_option exponentiation.threshold 10000
namespace T
open PySem PySem.Spec PyProof.Rows L2
/-! ### inverse -/
def ldOf (out : Leads) (c : Nat) : DRow := (dget out (c : Int)).getD []
def invRow (n : Nat) (out : Leads) (c : Nat) : List Rat := (List.range n).map fun k => (dv (ldOf out c) ((n + k : Nat) : Int) : Rat) / (dv (ldOf out c) (c : Int) : Rat)
def invM (n : Nat) (out : Leads) : List (List Rat) := (List.range n).map (invRow n out)
def AllIn (n : Nat) (out : Leads) : Prop := ∀ c : Nat, c < n → ∃ d, dget out (c : Int) = some d
def cInverse (K : PySem.W.Frag) : Ct := fun ks k => ∃ (m : Mat) (n w : Nat) (b : Nat × Nat), ks = [.im (rMat K) m] ∧ GivOk (widthOf m) m ∧ Tab n n (qmat m) ∧ 0 < n ∧ n ≤ 100 ∧ QOk w b (augM n (qmat m)) ∧
  ∀ out, LeadsOut ((augM n (qmat m)).map wholeRow) out → (AllIn n out → ∀ p, k (.ow p (cL (rT K (rQ K))) (invM n out)) [.no]) ∧ (¬ AllIn n out → k (.im rN ()) [.no])
theorem scInverse : FnScope ["rows", "lines", "width", "leads", "at", "line", "unit", "place"] ["rows"] (defScope (top 28)) := ⟨rfl, rfl, rfl, by decide +kernel, rfl, by decide +kernel, by decide +kernel⟩
theorem qInverse {G : Gm} {f : Addr} {fd : FuncData} (F : Fun G.K "inverse" "inverse" (top 28) f fd) (hf : G.mg "inverse" = some (.ref f)) (b : Binds G.K fd ["rows"] [])
    (B : Bi G) (h1 : Fn G "square" 7 (cSquare G.K)) (h2 : Fn G "unit_rows" 1 (cUnitR G.K)) (h3 : Fn G "leads_of" 4 (cLeads G.K)) (h4 : Fn G "lowered" 1 (cLowK G.K)) : Fn G "inverse" 8 (cInverse G.K) := by
  refine Fn.of F hf b scInverse (fun ks k ⟨_, _, _, _, h, _⟩ => by rw [h]; rfl) fun X hX hfn hp ks k ⟨m, n, w, b, hks, hg, hT, hn, hn1, hq, hk⟩ => ?_
  subst hks
  -- lines = square(rows)
  refine S_cons ?_
  refine S1_set (i := 1) hX rfl rfl ?_  -- lines
  refine E_call hX h1 (by omega) rfl rfl ?_
  refine A_cons rfl ?_
  refine P_name (i := 0) hX rfl (.inl rfl) rfl (by intro z; cases z) ?_  -- rows
  refine A_nil ?_
  refine ⟨[_], ⟨rfl, trivial⟩, trivial, m, n, rfl, hg, hT, hn, fun p1 => ?_⟩
  generalize hA : qmat m = A at *
  have hat := hT.tall
  refine S_frz (i := 1) rfl (frz_L (K := G.K)) ?_
  -- width = len(lines)
  refine S_cons ?_
  refine S1_setC (i := 2) hX hfn rfl rfl ?_  -- width
  refine E_len hX rfl B.len rfl ?_
  refine P_name (i := 1) hX rfl (.inl rfl) rfl (by intro z; cases z) ?_  -- lines
  refine ⟨_, _, rfl, len_L, ?_⟩
  rw [hat]
  -- leads = leads_of([(*line, *unit) for line, unit in zip(lines, unit_rows(width))])
  refine S_cons ?_
  refine S1_setC (i := 3) hX hfn rfl rfl ?_  -- leads
  refine E_call hX h3 (by omega) rfl rfl ?_
  refine A_cons rfl ?_
  refine P_val ?_
  refine E_lc (own := [("line", 5), ("unit", 6)]) (rT G.K (rQ G.K)) hX rfl ?_
  refine I_zip (A := rT G.K (rQ G.K)) (B := rT G.K (rQ G.K)) false hX rfl B.zip rfl ?_
  refine E_name (i := 1) hX rfl (.inl rfl) rfl ?_  -- lines
  refine ⟨_, .im _ _, ?_⟩
  refine E_call hX h2 (by omega) rfl rfl ?_
  refine A_cons rfl ?_
  refine P_name (i := 2) hX rfl (.inr (.inl rfl)) rfl (by intro z; cases z) ?_  -- width
  refine A_nil ?_
  refine ⟨[_], ⟨rfl, trivial⟩, trivial, n, rfl, by omega, fun pu => ?_⟩
  refine ⟨_, .ow (frz_L (K := G.K)), ?_⟩
  refine ⟨fun i out τ => out = ((A.zip (unitM n)).take i).map (fun p => p.1 ++ p.2) ∧ τ = [.im (rMat G.K) m, .im (rL G.K (rT G.K (rQ G.K))) A, .im rI (n : Int), .no, .no, .no, .no, .no], ⟨by simp, rfl⟩, fun i y hy => ?_, fun out τ hJ p => ?_⟩
  · rintro out τ ⟨ho, hτ⟩ X1 hX1 hf1
    subst hτ
    obtain ⟨z, hz, ey⟩ := mapK_get hy
    subst ey
    obtain ⟨z1, z2⟩ := List.getElem?_zip_eq_some.mp hz
    have hi := (List.getElem?_eq_some_iff.mp z1).1
    have w1 := hT.wide _ (List.mem_of_getElem? z1)
    have w2 := (unitM_tab n).wide _ (List.mem_of_getElem? z2)
    refine TB_tup hX1 rfl un_pair ?_
    refine TB_name (i := 5) hX1 rfl rfl (by decide) ?_  -- line
    refine TB_name (i := 6) hX1 rfl rfl (by decide) ?_  -- unit
    intro X2 hX2
    refine Cs_nil ?_
    refine ⟨fun _ X3 hX3 => ?_, fun h => by cases h⟩
    refine E_star2 (rQ G.K) hX3 ?_
    refine E_name (i := 5) hX3 rfl (.inl rfl) rfl ?_  -- line
    refine ⟨_, .im _ _, ?_⟩
    refine E_name (i := 6) hX3 rfl (.inl rfl) rfl ?_  -- unit
    refine ⟨_, .im _ _, by omega, ?_⟩
    refine ⟨_, .im _ _, ?_, ?_, rfl⟩
    · rw [ho, List.length_map, List.length_take]; omega
    · rw [ho, take_get hz, List.map_append]; rfl
  obtain ⟨ho, hτ⟩ := hJ
  rw [List.length_map, List.take_length] at ho
  have ho : out = augM n A := ho
  subst hτ
  subst ho
  refine ⟨_, _, _, .ow (frz_L (K := G.K)), ?_⟩
  refine A_nil ?_
  refine ⟨[_], ⟨rfl, trivial⟩, trivial, augM n A, w, b, rfl, hq, fun pd out hO => ?_⟩
  obtain ⟨hk1, hk2⟩ := hk out hO
  obtain ⟨hgood, hfew⟩ := hO.ok hq
  refine S_frz (i := 3) rfl frz_D ?_
  -- for at in range(width):
  refine S_cons ?_
  refine S1_for hX hp ?_
  refine I_rng1 hX rfl B.range rfl ?_
  refine E_name (i := 2) hX rfl (.inr (.inl rfl)) rfl ?_  -- width
  refine ⟨_, .im _ _, by omega, by omega, ?_⟩
  refine ⟨fun i τ => (∀ c : Nat, c < i → ∃ d, dget out (c : Int) = some d) ∧ ∃ x4, τ = [.im (rMat G.K) m, .im (rL G.K (rT G.K (rQ G.K))) A, .im rI (n : Int), .im (rD (rD rI)) out, x4, .no, .no, .no], ⟨fun c hc => by omega, _, rfl⟩, fun i y τ hy hI => ?_, fun τ hI => ?_⟩
  · obtain ⟨hin, x4, hτ⟩ := hI
    subst hτ
    obtain ⟨hi, ey⟩ := rngK0_get hy
    subst ey
    have hi : i < n := by omega
    refine T_name (i := 4) hX rfl rfl ?_  -- at
    -- if at not in leads:
    refine S_one ?_
    refine S1_if ?_
    refine C_dnin (B := rD rI) hX ?_
    refine E_name (i := 4) hX rfl (.inl rfl) rfl ?_  -- at
    refine ⟨_, .im _ _, ?_⟩
    refine P_name (i := 3) hX rfl (.inr (.inl rfl)) rfl (by intro z; cases z) ?_  -- leads
    refine ⟨_, _, rfl, dof_im, ?_⟩
    refine ⟨fun hc => ?_, fun hc => ?_⟩
    · -- return None
      refine S_one ?_
      refine S1_ret ?_
      refine E_none ?_
      refine fin_no (hk2 fun ha => ?_)
      obtain ⟨d, hd⟩ := ha i hi
      rw [hd] at hc
      cases hc
    · refine S_nil ⟨fun c hci => ?_, _, rfl⟩
      by_cases e : c = i
      · subst e
        cases hd : dget out (c : Int) with
        | none => rw [hd] at hc; cases hc
        | some d => exact ⟨d, rfl⟩
      · exact hin c (by omega)
  obtain ⟨hin, x4, hτ⟩ := hI
  have e : (rngK 0 ((n : Int).toNat)).length = n := by simp [rngK]
  rw [e] at hin
  subst hτ
  have hk3 := hk1 hin
  -- return [tuple([lowered(leads[at].get(place, 0), leads[at][at]) for place in range(width, 2 * width)]) for at in range(width)]
  refine S_one ?_
  refine S1_ret ?_
  refine E_lc (own := [("at", 4)]) (rT G.K (rQ G.K)) hX rfl ?_
  refine I_rng1 hX rfl B.range rfl ?_
  refine E_name (i := 2) hX rfl (.inr (.inl rfl)) rfl ?_  -- width
  refine ⟨_, .im _ _, by omega, by omega, ?_⟩
  refine ⟨fun i o τ => o = (List.range i).map (invRow n out) ∧ τ = [.im (rMat G.K) m, .im (rL G.K (rT G.K (rQ G.K))) A, .im rI (n : Int), .im (rD (rD rI)) out, .no, .no, .no, .no], ⟨rfl, rfl⟩, fun i y hy => ?_, fun o τ hJ p3 => ?_⟩
  · rintro o τ ⟨ho, hτ⟩ X1 hX1 hf1
    subst hτ
    obtain ⟨hi, ey⟩ := rngK0_get hy
    subst ey
    have hi : i < n := by omega
    obtain ⟨d, hd⟩ := hin i hi
    obtain ⟨g1, g2, g3⟩ := hgood (i, d) (dget_mem hd)
    refine TB_cell (i := 4) hX1 (hf1 _ (by rfl)) rfl rfl (by decide) ?_  -- at
    intro X2 hX2
    refine Cs_nil ?_
    refine ⟨fun _ X3 hX3 => ?_, fun h => by cases h⟩
    refine E_tuple (rQ G.K) hX3 rfl B.tuple rfl ?_
    refine E_lc (own := [("place", 7)]) (rQ G.K) hX3 rfl ?_
    refine I_rng2 hX3 rfl B.range rfl ?_
    refine E_name (i := 2) hX3 rfl (.inr (.inl rfl)) rfl ?_  -- width
    refine ⟨_, .im _ _, ?_⟩
    refine E_mul ?_
    refine E_int ?_
    refine ⟨_, .im _ _, ?_⟩
    refine E_name (i := 2) hX3 rfl (.inr (.inl rfl)) rfl ?_  -- width
    refine ⟨_, .im _ _, mulx_ok (a := 4) (b := 10) (by decide) (by omega) (by omega), ?_⟩
    refine ⟨_, .im _ _, by omega, ?_⟩
    refine ⟨fun j o2 τ => o2 = (List.range j).map (fun k => (dv (ldOf out i) ((n + k : Nat) : Int) : Rat) / (dv (ldOf out i) (i : Int) : Rat)) ∧ τ = [.im (rMat G.K) m, .im (rL G.K (rT G.K (rQ G.K))) A, .im rI (n : Int), .im (rD (rD rI)) out, .im rI (i : Int), .no, .no, .no], ⟨rfl, rfl⟩, fun j y hy => ?_, fun o2 τ hJ p4 => ?_⟩
    · rintro o2 τ ⟨ho2, hτ⟩ X4 hX4 hf4
      subst hτ
      obtain ⟨hj, ey⟩ := rngK_get hy
      subst ey
      have hj : j < n := by omega
      refine TB_name (i := 7) hX4 rfl rfl (by decide) ?_  -- place
      intro X5 hX5
      refine Cs_nil ?_
      refine ⟨fun _ X6 hX6 => ?_, fun h => by cases h⟩
      refine E_call hX6 h4 (by omega) rfl rfl ?_
      refine A_cons rfl ?_
      refine P_val ?_
      refine E_dget2 (B := rI) hX6 ⟨rfl, rfl, rfl, rfl⟩ ?_
      refine P_val ?_
      refine E_dget (B := rD rI) hX6 (fun _ _ => rfl) ?_
      refine P_name (i := 3) hX6 rfl (.inr (.inl rfl)) rfl (by intro z; cases z) ?_  -- leads
      refine E_name (i := 4) hX6 rfl (.inr (.inl rfl)) rfl ?_  -- at
      refine ⟨_, .im _ _, _, _, _, rfl, dof_im, hd, ?_⟩
      refine ⟨_, _, _, .im _ _, ?_⟩
      refine ⟨⟨_, _, rfl, dof_im⟩, ?_⟩
      refine E_name (i := 7) hX6 rfl (.inl rfl) rfl ?_  -- place
      refine ⟨_, .im _ _, ?_⟩
      refine E_int ?_
      refine ⟨_, .im _ _, _, d, rfl, dof_im, ?_⟩
      refine ⟨_, _, _, .im _ _, ?_⟩
      refine A_cons rfl ?_
      refine P_val ?_
      refine E_dget (B := rI) hX6 (fun _ _ => rfl) ?_
      refine P_val ?_
      refine E_dget (B := rD rI) hX6 (fun _ _ => rfl) ?_
      refine P_name (i := 3) hX6 rfl (.inr (.inl rfl)) rfl (by intro z; cases z) ?_  -- leads
      refine E_name (i := 4) hX6 rfl (.inr (.inl rfl)) rfl ?_  -- at
      refine ⟨_, .im _ _, _, _, _, rfl, dof_im, hd, ?_⟩
      refine ⟨_, _, _, .im _ _, ?_⟩
      refine E_name (i := 4) hX6 rfl (.inr (.inl rfl)) rfl ?_  -- at
      have hdi : dget d (i : Int) = some (dv d (i : Int)) := by
        cases e : dget d (i : Int) with
        | none => exact absurd (show dv d (i : Int) = 0 by unfold dv; rw [e]; rfl) g2
        | some x => unfold dv; rw [e]; rfl
      refine ⟨_, .im _ _, _, _, _, rfl, dof_im, hdi, ?_⟩
      refine ⟨_, _, _, .im _ _, ?_⟩
      refine A_nil ?_
      refine ⟨[_, _], ⟨rfl, rfl, trivial⟩, trivial, _, _, rfl, g2, Nat.lt_trans (g3 (i, dv d (i : Int)) (dget_mem hdi)) (Nat.pow_lt_pow_right (by omega) (by omega)), ?_⟩
      refine ⟨_, .im _ _, ?_, ?_, rfl⟩
      · rw [ho2, List.length_map, List.length_range]; omega
      · rw [ho2, List.range_succ, List.map_append]
        congr 1
        show [_] = [_]
        congr 1
        unfold ldOf
        rw [hd]
        show _ = (dv d ((n + j : Nat) : Int) : Rat) / (dv d (i : Int) : Rat)
        rw [show (((n + j : Nat) : Int)) = (n : Int) + (j : Int) by omega]
        rfl
    obtain ⟨ho2, hτ⟩ := hJ
    have e : (rngK (n : Int) ((2 * (n : Int) - (n : Int)).toNat)).length = n := by rw [rngK_len]; omega
    rw [e] at ho2
    subst hτ
    subst ho2
    refine ⟨_, .inl (.ow (frz_L (K := G.K))), ?_⟩
    refine ⟨_, .im _ _, ?_, ?_, rfl⟩
    · rw [ho, List.length_map, List.length_range]; omega
    · rw [ho, List.range_succ, List.map_append]; rfl
  obtain ⟨ho, hτ⟩ := hJ
  have e : (rngK 0 ((n : Int).toNat)).length = n := by simp [rngK]
  rw [e] at ho
  subst hτ
  subst ho
  exact fin_no (hk3 p3)
end T
end
section
set_option Elab.async false
set_option linter.all false
set_option maxRecDepth 100000
set_option maxHeartbeats 2000000
set_option exponentiation.threshold 10000
namespace T
open PySem PySem.Spec PyProof.Rows L2
/-! ### slices of tuples; _law_undone -/
def SlOfT (K : PySem.W.Frag) (x : Kd) {α : Type} (A : DR α) (l : List α) : Prop := ∀ R H v, LeR R H → x.rel R H v → ∃ p xs, v = .ref p ∧ SqT K H p xs ∧ Paired (A.rel R) xs l
theorem slof_T {K : PySem.W.Frag} {α : Type} {A : DR α} {l : List α} : SlOfT K (.im (rT K A) l) A l := fun R H v le ⟨p, xs, e, h, hp⟩ => ⟨p, xs, e, le.sqT h, hp⟩
theorem E_slT {G : Gm} {X : Cx} {N : List Str} {sc : Scope} {n : Nat} {τ : Tau} {k : KK} {a : Expr} {pos : Pos} {lo hi : Option Expr} {p2 : Pos} {α : Type} {A : DR α} (hX : XF G X N sc n)
    (h : T.P X a τ fun pl τ1 => Pt X lo τ1 fun o1 τ2 => Pt X hi τ2 fun o2 τ3 => ∃ x l, pl.kd τ3 = some x ∧ SlOfT G.K x A l ∧ ¬ (HT.sIx l.length 0 o1 = 0 ∧ HT.sIx l.length l.length o2 = l.length) ∧ k (.im (rT G.K A) (cutL l o1 o2)) τ3) : E X (.Subscript a (.Slice lo hi none p2) pos) τ k :=
  E.of (pe_slice sl_tup pe_sem po_pt po_pt) fun σ H F R0 R Q ok q => h σ H F R0 R _ ok fun pl τ1 v R1 H1 h1 l1 ok1 at1 =>
    Pt.run h1 σ H1 F R0 R1 _ ok1 fun o1 τ2 R2 H2 h2 l2 ok2 => Pt.run h2 σ H2 F R0 R2 _ ok2 fun o2 τ3 R3 H3 ⟨x, l, ex, hs, hne, hk⟩ l3 ok3 => by
      obtain ⟨pa, xs, e1, hq, hp⟩ := hs R3 H3 v ok3.le (Pl.rel ok3 (Pl.up (l2.trans l3) at1) ex)
      have hl := PySem.Paired.length hp
      refine ⟨pa, xs, e1, by rw [hX.eK]; exact hq, by rw [hl]; exact hne, fun p hpn => ?_⟩
      obtain ⟨hR, hF, ho⟩ := ok3.fresh hpn
      exact q _ τ3 _ _ _ hk (((l1.trans l2).trans l3).trans (Le.upd hR)) (ok3.lay hpn) (VOk.im ⟨p, _, rfl, .inl (.inl upd_same), paired_up A (Le.upd hR) (paired_cut hp _ _)⟩)
theorem cut_drop {α : Type} {l : List α} {n : Nat} (h : n ≤ l.length) : cutL l (some (n : Int)) none = l.drop n := by
  unfold cutL
  rw [HT.sIx_nat, HT.sIx_none, Nat.min_eq_left h]
  exact List.take_of_length_le (by rw [List.length_drop]; exact Nat.le_refl _)
theorem due_wide' {w M N col : Nat} {V : Vec → Prop} {left done : List IRow} {leads : List Int} (h : SI w V M N col left done leads) : ∀ r ∈ redRows done leads, r.length = w := fun r hr => by
  obtain ⟨q, hq, e⟩ := List.mem_map.mp hr
  rw [← e, List.length_map]
  exact h.dw _ (List.of_mem_zip hq).1
def cUndone (K : PySem.W.Frag) : Ct := fun ks k => ∃ (A : List (List Rat)) (n b b' : Nat), ks = [.im (rL K (rT K (rQ K))) A] ∧ Tab n n A ∧ 0 < n ∧ n ≤ 4 ∧ LawOk n b A ∧ LawOk (n + n) b' (augM n A) ∧
  (Full n (MV A) → ∀ (done : List IRow) (leads : List Int) (left : List IRow) (M N : Nat), SI (n + n) (MV (augM n A)) M N n left done leads → ∀ p, k (.ow p (cL (rT K (rQ K))) ((redRows done leads).map (List.drop n))) [.no]) ∧ (¬ Full n (MV A) → k (.im rN ()) [.no])
theorem scUndone : FnScope ["mat", "many", "more", "ps", "unit"] ["mat"] (defScope (top 53)) := ⟨rfl, rfl, rfl, by decide +kernel, rfl, by decide +kernel, by decide +kernel⟩
theorem qUndone {G : Gm} {f : Addr} {fd : FuncData} (F : Fun G.K "_law_undone" "_law_undone" (top 53) f fd) (hf : G.mg "_law_undone" = some (.ref f)) (b : Binds G.K fd ["mat"] [])
    (B : Bi G) (h1 : Fn G "_law_rank" 5 (cRankL G.K)) (h2 : Fn G "_law_unit" 1 (cUnitL G.K)) (h3 : Fn G "_law_reduced" 5 (cReducedL G.K)) : Fn G "_law_undone" 6 (cUndone G.K) := by
  refine Fn.of F hf b scUndone (fun ks k ⟨_, _, _, _, h, _⟩ => by rw [h]; rfl) fun X hX hfn hp ks k ⟨A, n, b, b', hks, hT, hn, hn4, hL, hL2, hk1, hk2⟩ => ?_
  subst hks
  have hat := hT.tall
  -- many = len(mat)
  refine S_cons ?_
  refine S1_setC (i := 1) hX hfn rfl rfl ?_  -- many
  refine E_len hX rfl B.len rfl ?_
  refine P_name (i := 0) hX rfl (.inl rfl) rfl (by intro z; cases z) ?_  -- mat
  refine ⟨_, _, rfl, len_L, ?_⟩
  rw [hat]
  -- if _law_rank(mat, many) < many:
  refine S_cons ?_
  refine S1_if ?_
  refine C_lt ?_
  refine E_call hX h1 (by omega) rfl rfl ?_
  refine A_cons rfl ?_
  refine P_name (i := 0) hX rfl (.inl rfl) rfl (by intro z; cases z) ?_  -- mat
  refine A_cons rfl ?_
  refine P_name (i := 1) hX rfl (.inr (.inl rfl)) rfl (by intro z; cases z) ?_  -- many
  refine A_nil ?_
  refine ⟨[_, _], ⟨rfl, rfl, trivial⟩, trivial, A, n, n, b, rfl, hL, Nat.le_refl n, by omega, fun done leads left hS => ?_⟩
  have hfull := full_rank hS
  have hlen : leads.length ≤ n := keys_len n leads (hS.asc.imp fun h => by omega) hS.lt
  refine ⟨_, .im _ _, ?_⟩
  refine E_name (i := 1) hX rfl (.inr (.inl rfl)) rfl ?_  -- many
  refine ⟨_, .im _ _, ?_⟩
  refine ⟨fun hc => ?_, fun hc => ?_⟩
  · have hlt : leads.length < n := by have := of_decide_eq_true hc; omega
    refine S_one ?_
    refine S1_ret ?_
    refine E_none ?_
    exact fin_no (hk2 fun hf => by have := hfull.mp hf; omega)
  refine S_nil ?_
  have hf : Full n (MV A) := hfull.mpr (by have := of_decide_eq_false hc; omega)
  have hk3 := hk1 hf
  -- more = _law_reduced([ps + unit for ps, unit in zip(mat, _law_unit(many))], many)
  refine S_cons ?_
  refine S1_set (i := 2) hX rfl rfl ?_  -- more
  refine E_call hX h3 (by omega) rfl rfl ?_
  refine A_cons rfl ?_
  refine P_val ?_
  refine E_lc (own := [("ps", 3), ("unit", 4)]) (rT G.K (rQ G.K)) hX rfl ?_
  refine I_zip (A := rT G.K (rQ G.K)) (B := rT G.K (rQ G.K)) false hX rfl B.zip rfl ?_
  refine E_name (i := 0) hX rfl (.inl rfl) rfl ?_  -- mat
  refine ⟨_, .im _ _, ?_⟩
  refine E_call hX h2 (by omega) rfl rfl ?_
  refine A_cons rfl ?_
  refine P_name (i := 1) hX rfl (.inr (.inl rfl)) rfl (by intro z; cases z) ?_  -- many
  refine A_nil ?_
  refine ⟨[_], ⟨rfl, trivial⟩, trivial, n, rfl, by omega, fun pu => ?_⟩
  refine ⟨_, .ow (frz_L (K := G.K)), ?_⟩
  refine ⟨fun i out τ => out = ((A.zip (unitM n)).take i).map (fun p => p.1 ++ p.2) ∧ τ = [.im (rL G.K (rT G.K (rQ G.K))) A, .im rI (n : Int), .no, .no, .no], ⟨by simp, rfl⟩, fun i y hy => ?_, fun out τ hJ p => ?_⟩
  · rintro out τ ⟨ho, hτ⟩ X1 hX1 hf1
    subst hτ
    obtain ⟨z, hz, ey⟩ := mapK_get hy
    subst ey
    obtain ⟨z1, z2⟩ := List.getElem?_zip_eq_some.mp hz
    have hi := (List.getElem?_eq_some_iff.mp z1).1
    have w1 := hT.wide _ (List.mem_of_getElem? z1)
    have w2 := (unitM_tab n).wide _ (List.mem_of_getElem? z2)
    refine TB_tup hX1 rfl un_pair ?_
    refine TB_name (i := 3) hX1 rfl rfl (by decide) ?_  -- ps
    refine TB_name (i := 4) hX1 rfl rfl (by decide) ?_  -- unit
    intro X2 hX2
    refine Cs_nil ?_
    refine ⟨fun _ X3 hX3 => ?_, fun h => by cases h⟩
    refine E_catT (rQ G.K) hX3 ?_
    refine E_name (i := 3) hX3 rfl (.inl rfl) rfl ?_  -- ps
    refine ⟨_, .im _ _, ?_⟩
    refine E_name (i := 4) hX3 rfl (.inl rfl) rfl ?_  -- unit
    refine ⟨_, .im _ _, by omega, ?_⟩
    refine ⟨_, .im _ _, ?_, ?_, rfl⟩
    · rw [ho, List.length_map, List.length_take]; omega
    · rw [ho, take_get hz, List.map_append]; rfl
  obtain ⟨ho, hτ⟩ := hJ
  rw [List.length_map, List.take_length] at ho
  have ho : out = augM n A := ho
  subst hτ
  subst ho
  refine ⟨_, _, _, .ow (frz_L (K := G.K)), ?_⟩
  refine A_cons rfl ?_
  refine P_name (i := 1) hX rfl (.inr (.inl rfl)) rfl (by intro z; cases z) ?_  -- many
  refine A_nil ?_
  refine ⟨[_, _], ⟨rfl, rfl, trivial⟩, trivial, augM n A, n + n, n, b', rfl, hL2, by omega, by omega, fun done2 leads2 left2 hS2 pm => ?_⟩
  have hwide := due_wide' hS2
  have hl2 : (redRows done2 leads2).length ≤ n := by
    have := keys_len n leads2 (hS2.asc.imp fun h => by omega) hS2.lt
    unfold redRows
    rw [List.length_map, List.length_zip]; omega
  have hk4 := hk3 done2 leads2 left2 _ _ hS2
  generalize redRows done2 leads2 = rows at *
  -- return [ps[many:] for ps in more]
  refine S_frz (i := 2) rfl (frz_L (K := G.K)) ?_
  refine S_one ?_
  refine S1_ret ?_
  refine E_lc (own := [("ps", 3)]) (rT G.K (rQ G.K)) hX rfl ?_
  refine I_list hX ?_
  refine E_name (i := 2) hX rfl (.inl rfl) rfl ?_  -- more
  refine ⟨_, _, _, .im _ _, ?_⟩
  refine ⟨fun i out τ => out = (rows.take i).map (List.drop n) ∧ τ = [.im (rL G.K (rT G.K (rQ G.K))) A, .im rI (n : Int), .im (rL G.K (rT G.K (rQ G.K))) rows, .no, .no], ⟨by simp, rfl⟩, fun i y hy => ?_, fun out τ hJ p => ?_⟩
  · rintro out τ ⟨ho, hτ⟩ X1 hX1 hf1
    subst hτ
    obtain ⟨r, hr, ey⟩ := mapK_get hy
    subst ey
    have hi := (List.getElem?_eq_some_iff.mp hr).1
    have hrl := hwide r (List.mem_of_getElem? hr)
    refine TB_name (i := 3) hX1 rfl rfl (by decide) ?_  -- ps
    intro X2 hX2
    refine Cs_nil ?_
    refine ⟨fun _ X3 hX3 => ?_, fun h => by cases h⟩
    refine E_slT (A := rQ G.K) hX3 ?_
    refine P_name (i := 3) hX3 rfl (.inl rfl) rfl (by intro z; cases z) ?_  -- ps
    refine E_name (i := 1) hX3 rfl (.inr (.inl rfl)) rfl ?_  -- many
    refine ⟨_, .im _ _, ?_⟩
    refine ⟨_, r, rfl, slof_T, ?_, ?_⟩
    · rw [HT.sIx_nat]
      omega
    rw [cut_drop (by omega)]
    refine ⟨_, .im _ _, ?_, ?_, rfl⟩
    · rw [ho, List.length_map, List.length_take]; omega
    · rw [ho, take_get hr, List.map_append]; rfl
  obtain ⟨ho, hτ⟩ := hJ
  rw [List.length_map, List.take_length] at ho
  subst hτ
  subst ho
  exact fin_no (hk4 p)
end T
end
section
set_option Elab.async false
set_option linter.all false
set_option maxRecDepth 100000
set_option maxHeartbeats 2000000
set_option exponentiation.threshold 10000
/-! Plain law: the program's inverse is the law's. -/
namespace T
theorem Mk_bits15 {w b : Nat} (hw : w ≤ 15) : ∀ k, Mk w (2 ^ b) k ≤ 2 ^ ((2 ^ k - 1) * (b + 5))
  | 0 => by simp [Mk]
  | k + 1 => by
    have ih := Mk_bits15 (b := b) hw k
    show 2 * (Mk w (2 ^ b) k * ((w + 1) * (2 ^ b * Mk w (2 ^ b) k))) ≤ _
    have h1 : (w + 1) * (2 ^ b * Mk w (2 ^ b) k) ≤ 2 ^ 4 * (2 ^ b * 2 ^ ((2 ^ k - 1) * (b + 5))) := Nat.mul_le_mul (by omega) (Nat.mul_le_mul_left _ ih)
    have h2 := Nat.mul_le_mul_left 2 (Nat.mul_le_mul ih h1)
    refine Nat.le_trans h2 (Nat.le_of_eq ?_)
    have e : (2 : Nat) ^ (k + 1) - 1 = (2 ^ k - 1) + (2 ^ k - 1) + 1 := by
      have : 1 ≤ 2 ^ k := Nat.one_le_two_pow
      rw [Nat.pow_succ]; omega
    rw [e]
    have e5 : ((2 ^ k - 1) + (2 ^ k - 1) + 1) * (b + 5) = 1 + ((2 ^ k - 1) * (b + 5) + (4 + (b + (2 ^ k - 1) * (b + 5)))) := by
      rw [Nat.add_mul, Nat.add_mul]; omega
    rw [e5, Nat.pow_add, Nat.pow_add, Nat.pow_add, Nat.pow_add]
theorem Rr.cast {P Q : Vec → Prop} {L : List (Int × Vec)} (h : Rr P L) (e : ∀ x, Span P x ↔ Span Q x) : Rr Q L where
  asc := h.asc
  sub := fun p hp => (e _).mp (h.sub p hp)
  one := h.one
  red := h.red
  low := h.low
  gen := fun x hx => h.gen x ((e x).mpr hx)
section
variable {n : Nat} {A : List (List Rat)}
theorem aug_rw (hA : Tab n n A) (hF : FrM 144 3600 A) : Rw (n + n) 144 3600 (augM n A) := fun r hr => by
  refine ⟨(augM_tab hA).wide r hr, ?_⟩
  obtain ⟨p, hp, e⟩ := List.mem_map.mp hr
  obtain ⟨i, hi⟩ := List.mem_iff_getElem?.mp hp
  obtain ⟨h1, h2⟩ := List.getElem?_zip_eq_some.mp hi
  intro q hq
  rw [← e] at hq
  rcases List.mem_append.mp hq with z | z
  · exact hF _ (List.mem_of_getElem? h1) q z
  · have := ((unitM_fr n) _ (List.mem_of_getElem? h2) q z).up 144
    exact this.le (by decide)
theorem aug_qok (hA : Tab n n A) (hF : FrM 144 3600 A) (hn : n ≤ 4) : QOk (n + n) (2 ^ 12, Mk (n + n) (2 ^ 12) 4) (augM n A) := by
  have hw := aug_rw hA hF
  have hr := hw.rows (b := 12) (by decide) (by decide)
  have hl : ((augM n A).map wholeRow).length = n := by rw [List.length_map]; exact (augM_tab hA).tall
  refine ⟨fun r hr => ⟨fr_num (hw r hr).2 (by decide) (small50 (by decide)) (small50 (by decide)), by rw [(hw r hr).1]; omega⟩, ⟨hr, fun i => ?_, by omega, ?_, ⟨Nat.one_le_two_pow, Mk_pos Nat.one_le_two_pow 4⟩⟩, by rw [(augM_tab hA).tall]; omega⟩
  · refine (redu_take Nat.one_le_two_pow hr i).mono (Mk_mono Nat.one_le_two_pow ?_)
    by_cases hi : i ≤ 4
    · exact Nat.le_trans (redu_le hr i) hi
    · rw [List.take_of_length_le (by omega)]
      have := redu_le' hr
      omega
  · have h1 := Mk_bits15 (w := n + n) (b := 12) (by omega) 4
    have h2 : (n + n + 1) * (2 ^ 12 * Mk (n + n) (2 ^ 12) 4) ≤ 2 ^ 4 * (2 ^ 12 * 2 ^ ((2 ^ 4 - 1) * (12 + 5))) := Nat.mul_le_mul (by omega) (Nat.mul_le_mul_left _ h1)
    refine Nat.lt_of_le_of_lt h2 ?_
    rw [← Nat.pow_add, ← Nat.pow_add]
    exact Nat.pow_lt_pow_right (by omega) (by omega)
theorem aug_law_ok (hA : Tab n n A) (hF : FrM 144 3600 A) (hn : n ≤ 4) : LawOk (n + n) 12 (augM n A) := by
  have hw := aug_rw hA hF
  exact ⟨fun r hr => (hw r hr).1, fun r hr => fr_num (hw r hr).2 (by decide) (small50 (by decide)) (small50 (by decide)), fun r hr => (hw r hr).2.wb (by decide) (by decide), by omega, by decide, by rw [(augM_tab hA).tall]; omega⟩
theorem tab_law_ok {t w : Nat} (hA : Tab t w A) (hF : FrM 144 3600 A) (ht : t ≤ 8) (hn : w ≤ 8) : LawOk w 12 A :=
  ⟨hA.wide, fun r hr => fr_num (hF r hr) (by decide) (small50 (by decide)) (small50 (by decide)), fun r hr => (hF r hr).wb (by decide) (by decide), hn, by decide, by rw [hA.tall]; omega⟩
theorem aug_rr {b : Nat × Nat} {w : Nat} {out : Leads} (hq : QOk w b (augM n A)) (hO : LeadsOut ((augM n A).map wholeRow) out) : Rr (MV (augM n A)) (ourL out) := by
  have L := hq.cert.lis ((augM n A).map wholeRow).length
  rw [List.take_length] at L
  exact (our_rr L hO).cast fun x => sp_mv _ x
theorem ourL_fst (out : Leads) : (ourL out).map (·.1) = out.map (·.1) := by
  unfold ourL
  rw [List.map_map]
  rfl
theorem allIn_iff {out : Leads} : AllIn n out ↔ ∀ c : Nat, c < n → ((c : Nat) : Int) ∈ (ourL out).map (·.1) := by
  rw [ourL_fst]
  constructor
  · intro h c hc
    obtain ⟨d, hd⟩ := h c hc
    exact List.mem_map.mpr ⟨_, dget_mem hd, rfl⟩
  · intro h c hc
    cases e : dget out (c : Int) with
    | some d => exact ⟨d, rfl⟩
    | none => exact absurd (h c hc) ((dget_none).mp e)
theorem allIn_full {b : Nat × Nat} {w : Nat} {out : Leads} (hA : Tab n n A) (hq : QOk w b (augM n A)) (hO : LeadsOut ((augM n A).map wholeRow) out) : AllIn n out ↔ Full n (MV A) := by
  rw [allIn_iff, ← full_rr (aug_rr hq hO), full_aug hA]
theorem invM_tab (out : Leads) : Tab n n (invM n out) := by
  refine ⟨by unfold invM; rw [List.length_map, List.length_range], fun r hr => ?_⟩
  obtain ⟨c, _, e⟩ := List.mem_map.mp hr
  rw [← e]
  unfold invRow
  rw [List.length_map, List.length_range]
theorem en_invM {out : Leads} {c k : Nat} (hc : c < n) (hk : k < n) : en (invM n out) c k = (dv (ldOf out c) ((n + k : Nat) : Int) : Rat) / (dv (ldOf out c) (c : Int) : Rat) := by
  unfold en invM
  rw [List.getElem?_map, List.getElem?_range hc]
  show ((invRow n out c)[k]?).getD 0 = _
  unfold invRow
  rw [List.getElem?_map, List.getElem?_range hk]
  rfl
theorem our_v {b : Nat × Nat} {w : Nat} {out : Leads} (hA : Tab n n A) (hq : QOk w b (augM n A)) (hO : LeadsOut ((augM n A).map wholeRow) out) (ha : AllIn n out) {c : Nat} (hc : c < n) :
    Span (MV (augM n A)) (fun j => (dv (ldOf out c) j : Rat) / (dv (ldOf out c) (c : Int) : Rat)) ∧ ∀ j : Nat, j < n → (dv (ldOf out c) (j : Int) : Rat) / (dv (ldOf out c) (c : Int) : Rat) = if j = c then 1 else 0 := by
  have h := aug_rr hq hO
  have key : ∀ c, c < n → (((c : Nat) : Int), (fun j => (dv (ldOf out c) j : Rat) / (dv (ldOf out c) (c : Int) : Rat) : Vec)) ∈ ourL out := fun c hc => by
    obtain ⟨d, hd⟩ := ha c hc
    refine List.mem_map.mpr ⟨((c : Int), d), dget_mem hd, ?_⟩
    unfold ldOf
    rw [hd]
    rfl
  refine ⟨h.sub _ (key c hc), fun j hj => ?_⟩
  by_cases e : j = c
  · rw [if_pos e, e]; exact h.one _ (key c hc)
  · rw [if_neg e]; exact h.red _ (key c hc) _ (key j hj) (by show (c : Int) ≠ (j : Int); omega)
theorem out_few {b : Nat} {b2 w : Nat} {out : Leads} (hA : Tab n n A) (hq : QOk w (2 ^ b, b2) (augM n A)) (hO : LeadsOut ((augM n A).map wholeRow) out) : (ourL out).length ≤ n := by
  have := redu_le' hq.rows
  rw [List.length_map, (augM_tab hA).tall] at this
  unfold ourL
  rw [List.length_map, hO.len]
  exact this
/-- the program's inverse, both ways -/
theorem inv_both {b : Nat} {b2 w : Nat} {out : Leads} (hA : Tab n n A) (hn : 0 < n) (hq : QOk w (2 ^ b, b2) (augM n A)) (hO : LeadsOut ((augM n A).map wholeRow) out) (ha : AllIn n out) : prodM (invM n out) A = unitM n ∧ prodM A (invM n out) = unitM n :=
  inverse_both hA hn (aug_rr hq hO) (out_few hA hq hO) (invM_tab out) _ (fun c hc => (our_v hA hq hO ha hc).1) (fun c hc => (our_v hA hq hO ha hc).2) fun c hc k hk => en_invM hc hk
/-- the law's inverse is the program's -/
theorem inv_law {b : Nat} {b2 w M N : Nat} {out : Leads} {left done : List IRow} {leads : List Int} (hA : Tab n n A) (hq : QOk w (2 ^ b, b2) (augM n A)) (hO : LeadsOut ((augM n A).map wholeRow) out) (hS : SI (n + n) (MV (augM n A)) M N n left done leads) (hf : Full n (MV A)) :
    (redRows done leads).map (List.drop n) = invM n out := by
  have hf2 := (full_aug hA).mpr hf
  have ha := (allIn_full hA hq hO).mpr hf
  have hll : leads.length = n := by rw [full_law hS hf2, List.length_map, List.length_range]
  have hT : Tab n n ((redRows done leads).map (List.drop n)) := by
    refine ⟨?_, fun r hr => ?_⟩
    · unfold redRows
      have := hS.len
      rw [List.length_map, List.length_map, List.length_zip]; omega
    · obtain ⟨s, hs, e⟩ := List.mem_map.mp hr
      rw [← e, List.length_drop, due_wide' hS s hs]; omega
  refine Tab.ext hT (invM_tab out) fun i k hi hk => ?_
  obtain ⟨r, er, hr, gr⟩ := law_vec hS hf2 hi
  have e1 : en ((redRows done leads).map (List.drop n)) i k = qv r ((n + k : Nat) : Int) := by
    unfold en
    rw [List.getElem?_map, er, qv_nat]
    show ((r.drop n)[k]?).getD 0 = _
    rw [List.getElem?_drop]
  rw [e1, en_invM hi hk]
  obtain ⟨h1, h2⟩ := our_v hA hq hO ha hi
  exact front_one (aug_rr hq hO) hf2 (out_few hA hq hO) hr h1 (fun j hj => by rw [gr j hj]; exact (h2 j hj).symm) _
end
end T
end
section
set_option Elab.async false
set_option linter.all false
set_option maxRecDepth 100000
set_option maxHeartbeats 2000000
set_option exponentiation.threshold 10000
namespace T
open PySem PySem.Spec PyProof.Rows L2
/-! ### faulty calls of turned, times, square, power, inverse -/
theorem SF_frz {F0 R0 : Hp} {X : Cx} {sts : List Stmt} {τ : Tau} {i : Nat} {γ : Type} {p : Addr} {C : CR γ} {A : DR γ} {c : γ} (ht : τ[i]? = some (.ow p C c)) (f : FrzC C A) (h : SF F0 R0 X sts (τ.set i (.im A c))) : SF F0 R0 X sts τ := fun σ H R D ok => by
  obtain ⟨R', l, ok'⟩ := ok.frz ht f
  exact h σ H R' D ok'
theorem width_qmat (m : Mat) : widthOf ((qmat m).map gvRow) = widthOf m := by
  cases m with
  | nil => rfl
  | cons r m =>
    show (gvRow (r.map gv)).length = r.length
    unfold gvRow
    rw [List.length_map, List.length_map]
theorem len_qmat (m : Mat) : (qmat m).length = m.length := by unfold qmat; rw [List.length_map]
theorem qTurnedX {G : Gm} {C f : Addr} {fd : FuncData} (F : Fun G.K "turned" "turned" (top 21) f fd) (hf : G.mg "turned" = some (.ref f)) (b : Binds G.K fd ["rows"] [])
    (B : Bi G) (h1 : Fn G "columns_of" 2 (cColsOf G.K)) (h2 : FnX G C "what" "width" "made_matrix" 6 (dMat G.K)) : FnX G C "what" "width" "turned" 7 (dMat G.K) := by
  refine FnX.of F hf b scTurned (fun ks ⟨m, h, _⟩ => by rw [h]; rfl) fun X F0 R0 W hX hfn hp tk ks hno ⟨m, hks, hm⟩ hw => ?_
  subst hks
  refine SF_first ?_
  refine SF1_ret ?_
  refine EF_arg1 hX h1 (by omega) rfl rfl ?_
  refine EF_call hX h2 (by omega) rfl rfl tk ?_
  refine A_cons rfl ?_
  refine P_name (i := 0) hX rfl (.inl rfl) rfl (by intro z; cases z) ?_  -- rows
  refine A_nil ?_
  exact ⟨[_], ⟨rfl, trivial⟩, trivial, trivial, ⟨m, rfl, hm⟩, fun σ R' H' d ok' he => hw σ R' H' d _ ok' he⟩
def dSquare (K : PySem.W.Frag) : List Kd → Prop := fun ks => ∃ m : Mat, ks = [.im (rMat K) m] ∧ GivOk (widthOf m) m ∧ widthOf m ≠ m.length
theorem qSquareX {G : Gm} {C fI f : Addr} {fd : FuncData} (U : UTxt G C fI) (F : Fun G.K "square" "square" (top 26) f fd) (hf : G.mg "square" = some (.ref f)) (b : Binds G.K fd ["rows"] [])
    (B : Bi G) (h1 : Fn G "made_matrix" 6 (cMadeMat G.K)) (h2 : Fn G "width_of" 1 (cWidth G.K)) : FnX G C "what" "width" "square" 7 (dSquare G.K) := by
  refine FnX.of F hf b scSquare (fun ks ⟨m, h, _⟩ => by rw [h]; rfl) fun X F0 R0 W hX hfn hp tk ks hno ⟨m, hks, hg, hm⟩ hw => ?_
  subst hks
  -- lines = made_matrix(rows)
  refine SF_then (fun τ => ∃ p, τ = [.im (rMat G.K) m, .ow p (cL (rT G.K (rQ G.K))) (qmat m)]) ?_ fun τ ⟨p, hτ⟩ => ?_
  · refine S1_set (i := 1) hX rfl rfl ?_  -- lines
    refine E_call hX h1 (by omega) rfl rfl ?_
    refine A_cons rfl ?_
    refine P_name (i := 0) hX rfl (.inl rfl) rfl (by intro z; cases z) ?_  -- rows
    refine A_nil ?_
    exact ⟨[_], ⟨rfl, trivial⟩, trivial, m, rfl, hg, fun p => ⟨p, rfl⟩⟩
  subst hτ
  refine SF_frz (i := 1) rfl (frz_L (K := G.K)) ?_
  -- if width_of(lines) != len(lines):
  refine SF_first ?_
  refine SF1_if (fun τ => τ = [.im (rMat G.K) m, .im (rL G.K (rT G.K (rQ G.K))) (qmat m)]) ?_ fun τ hτ => ?_
  · refine C_neI ?_
    refine E_call hX h2 (by omega) rfl rfl ?_
    refine A_cons rfl ?_
    refine P_val ?_
    refine E_name (i := 1) hX rfl (.inl rfl) rfl ?_  -- lines
    refine ⟨_, rMat G.K, (qmat m).map gvRow, .cv fz_gvs, ?_⟩
    refine A_nil ?_
    refine ⟨[_], ⟨rfl, trivial⟩, trivial, (qmat m).map gvRow, rfl, ?_⟩
    rw [width_qmat]
    refine ⟨_, .im _ _, ?_⟩
    refine E_len hX rfl B.len rfl ?_
    refine P_name (i := 1) hX rfl (.inl rfl) rfl (by intro z; cases z) ?_  -- lines
    refine ⟨_, _, rfl, len_L, ?_⟩
    refine ⟨_, .im _ _, ?_⟩
    rw [len_qmat]
    exact ⟨by simp; omega, rfl⟩
  · subst hτ
    refine SF_first ?_
    refine SF1_raise (what := "width") hX U (by omega) hX.calm tk rfl rfl ?_
    refine E_str ?_
    exact ⟨.im _ _, fun σ R' H' d ok' he => hw σ R' H' d _ ok' he⟩
def dPower (K : PySem.W.Frag) : List Kd → Prop := fun ks => ∃ (m : Mat) (i : Int), ks = [.im (rMat K) m, .im rI i] ∧ GivOk (widthOf m) m ∧ widthOf m ≠ m.length
theorem qPowerX {G : Gm} {C f : Addr} {fd : FuncData} (F : Fun G.K "power" "power" (top 27) f fd) (hf : G.mg "power" = some (.ref f)) (b : Binds G.K fd ["rows", "count"] [])
    (B : Bi G) (h1 : FnX G C "what" "width" "square" 7 (dSquare G.K)) : FnX G C "what" "width" "power" 8 (dPower G.K) := by
  refine FnX.of F hf b scPower (fun ks ⟨m, i, h, _⟩ => by rw [h]; rfl) fun X F0 R0 W hX hfn hp tk ks hno ⟨m, i, hks, hg, hm⟩ hw => ?_
  subst hks
  refine SF_first ?_
  refine SF1_set (i := 2) hX rfl rfl ?_  -- base
  refine EF_call hX h1 (by omega) rfl rfl tk ?_
  refine A_cons rfl ?_
  refine P_name (i := 0) hX rfl (.inl rfl) rfl (by intro z; cases z) ?_  -- rows
  refine A_nil ?_
  exact ⟨[_], ⟨rfl, trivial⟩, trivial, trivial, ⟨m, rfl, hg, hm⟩, fun σ R' H' d ok' he => hw σ R' H' d _ ok' he⟩
theorem qInverseX {G : Gm} {C f : Addr} {fd : FuncData} (F : Fun G.K "inverse" "inverse" (top 28) f fd) (hf : G.mg "inverse" = some (.ref f)) (b : Binds G.K fd ["rows"] [])
    (B : Bi G) (h1 : FnX G C "what" "width" "square" 7 (dSquare G.K)) : FnX G C "what" "width" "inverse" 8 (dSquare G.K) := by
  refine FnX.of F hf b scInverse (fun ks ⟨m, h, _⟩ => by rw [h]; rfl) fun X F0 R0 W hX hfn hp tk ks hno ⟨m, hks, hg, hm⟩ hw => ?_
  subst hks
  refine SF_first ?_
  refine SF1_set (i := 1) hX rfl rfl ?_  -- lines
  refine EF_call hX h1 (by omega) rfl rfl tk ?_
  refine A_cons rfl ?_
  refine P_name (i := 0) hX rfl (.inl rfl) rfl (by intro z; cases z) ?_  -- rows
  refine A_nil ?_
  exact ⟨[_], ⟨rfl, trivial⟩, trivial, trivial, ⟨m, rfl, hg, hm⟩, fun σ R' H' d ok' he => hw σ R' H' d _ ok' he⟩
def dTimes (K : PySem.W.Frag) : List Kd → Prop := fun ks => ∃ m1 m2 : Mat, ks = [.im (rMat K) m1, .im (rMat K) m2] ∧ GivOk (widthOf m1) m1 ∧ (BadM m2 ∨ (GivOk (widthOf m2) m2 ∧ widthOf m1 ≠ m2.length))
theorem qTimesX {G : Gm} {C fI f : Addr} {fd : FuncData} (U : UTxt G C fI) (F : Fun G.K "times" "times" (top 24) f fd) (hf : G.mg "times" = some (.ref f)) (b : Binds G.K fd ["one", "other"] [])
    (B : Bi G) (h1 : Fn G "made_matrix" 6 (cMadeMat G.K)) (h1X : FnX G C "what" "width" "made_matrix" 6 (dMat G.K)) (h2 : Fn G "width_of" 1 (cWidth G.K)) : FnX G C "what" "width" "times" 7 (dTimes G.K) := by
  refine FnX.of F hf b scTimes (fun ks ⟨m1, m2, h, _⟩ => by rw [h]; rfl) fun X F0 R0 W hX hfn hp tk ks hno ⟨m1, m2, hks, hg, hm⟩ hw => ?_
  subst hks
  -- left = made_matrix(one)
  refine SF_then (fun τ => ∃ p, τ = [.im (rMat G.K) m1, .im (rMat G.K) m2, .ow p (cL (rT G.K (rQ G.K))) (qmat m1), .no]) ?_ fun τ ⟨p, hτ⟩ => ?_
  · refine S1_set (i := 2) hX rfl rfl ?_  -- left
    refine E_call hX h1 (by omega) rfl rfl ?_
    refine A_cons rfl ?_
    refine P_name (i := 0) hX rfl (.inl rfl) rfl (by intro z; cases z) ?_  -- one
    refine A_nil ?_
    exact ⟨[_], ⟨rfl, trivial⟩, trivial, m1, rfl, hg, fun p => ⟨p, rfl⟩⟩
  subst hτ
  refine SF_frz (i := 2) rfl (frz_L (K := G.K)) ?_
  rcases hm with hm | ⟨hg2, hm⟩
  · -- right = made_matrix(other) raises
    refine SF_first ?_
    refine SF1_set (i := 3) hX rfl rfl ?_  -- right
    refine EF_call hX h1X (by omega) rfl rfl tk ?_
    refine A_cons rfl ?_
    refine P_name (i := 1) hX rfl (.inl rfl) rfl (by intro z; cases z) ?_  -- other
    refine A_nil ?_
    exact ⟨[_], ⟨rfl, trivial⟩, trivial, trivial, ⟨m2, rfl, hm⟩, fun σ R' H' d ok' he => hw σ R' H' d _ ok' he⟩
  -- right = made_matrix(other)
  refine SF_then (fun τ => ∃ p, τ = [.im (rMat G.K) m1, .im (rMat G.K) m2, .im (rL G.K (rT G.K (rQ G.K))) (qmat m1), .ow p (cL (rT G.K (rQ G.K))) (qmat m2)]) ?_ fun τ ⟨p, hτ⟩ => ?_
  · refine S1_set (i := 3) hX rfl rfl ?_  -- right
    refine E_call hX h1 (by omega) rfl rfl ?_
    refine A_cons rfl ?_
    refine P_name (i := 1) hX rfl (.inl rfl) rfl (by intro z; cases z) ?_  -- other
    refine A_nil ?_
    exact ⟨[_], ⟨rfl, trivial⟩, trivial, m2, rfl, hg2, fun p => ⟨p, rfl⟩⟩
  subst hτ
  refine SF_frz (i := 3) rfl (frz_L (K := G.K)) ?_
  -- if width_of(left) != len(right):
  refine SF_first ?_
  refine SF1_if (fun τ => τ = [.im (rMat G.K) m1, .im (rMat G.K) m2, .im (rL G.K (rT G.K (rQ G.K))) (qmat m1), .im (rL G.K (rT G.K (rQ G.K))) (qmat m2)]) ?_ fun τ hτ => ?_
  · refine C_neI ?_
    refine E_call hX h2 (by omega) rfl rfl ?_
    refine A_cons rfl ?_
    refine P_val ?_
    refine E_name (i := 2) hX rfl (.inl rfl) rfl ?_  -- left
    refine ⟨_, rMat G.K, (qmat m1).map gvRow, .cv fz_gvs, ?_⟩
    refine A_nil ?_
    refine ⟨[_], ⟨rfl, trivial⟩, trivial, (qmat m1).map gvRow, rfl, ?_⟩
    rw [width_qmat]
    refine ⟨_, .im _ _, ?_⟩
    refine E_len hX rfl B.len rfl ?_
    refine P_name (i := 3) hX rfl (.inl rfl) rfl (by intro z; cases z) ?_  -- right
    refine ⟨_, _, rfl, len_L, ?_⟩
    refine ⟨_, .im _ _, ?_⟩
    rw [len_qmat]
    exact ⟨by simp; omega, rfl⟩
  · subst hτ
    refine SF_first ?_
    refine SF1_raise (what := "width") hX U (by omega) hX.calm tk rfl rfl ?_
    refine E_str ?_
    exact ⟨.im _ _, fun σ R' H' d ok' he => hw σ R' H' d _ ok' he⟩
end T
end
section
set_option Elab.async false
set_option linter.all false
set_option maxRecDepth 100000
set_option maxHeartbeats 2000000
set_option exponentiation.threshold 10000
/-! Data of few signs: what repr takes; data of one shape: what _law_like takes. -/
namespace T
open PySem PySem.Spec PyProof.Rows L2
structure DB (n k : Nat) (d : PyData) : Prop where
  sh : d.showable = true
  nd : d.hasDict = false
  sm : d.leavesShort 1921 = true
  bu : d.bulk ≤ n
  dp : d.depth ≤ k
structure DBs (n k : Nat) (ds : List PyData) : Prop where
  sh : PyData.showableAll ds = true
  nd : PyData.hasDictAll ds = false
  sm : PyData.leavesShortAll 1921 ds = true
  bu : PyData.bulkAll ds ≤ ds.length * (n + 1)
  dp : PyData.depthAll ds ≤ k
theorem dbs_nil {n k : Nat} : DBs n k [] := ⟨rfl, rfl, rfl, Nat.zero_le _, Nat.zero_le _⟩
theorem dbs_cons {n k : Nat} {d : PyData} {ds : List PyData} (h : DB n k d) (t : DBs n k ds) : DBs n k (d :: ds) where
  sh := by rw [PyData.showableAll, h.sh, t.sh]; rfl
  nd := by rw [PyData.hasDictAll, h.nd, t.nd]; rfl
  sm := by rw [PyData.leavesShortAll, h.sm, t.sm]; rfl
  bu := by
    have h1 := h.bu
    have h2 := t.bu
    rw [PyData.bulkAll, List.length_cons, Nat.succ_mul]
    omega
  dp := by
    have h1 := h.dp
    have h2 := t.dp
    rw [PyData.depthAll]
    omega
theorem DBs.list {n k l : Nat} {ds : List PyData} (h : DBs n k ds) (hl : ds.length ≤ l) : DB (l * (n + 1)) (k + 1) (.list ds) where
  sh := by rw [PyData.showable]; exact h.sh
  nd := by rw [PyData.hasDict]; exact h.nd
  sm := by rw [PyData.leavesShort]; exact h.sm
  bu := by rw [PyData.bulk]; exact Nat.le_trans h.bu (Nat.mul_le_mul_right _ hl)
  dp := by rw [PyData.depth]; exact Nat.succ_le_succ h.dp
theorem DBs.tuple {n k l : Nat} {ds : List PyData} (h : DBs n k ds) (hl : ds.length ≤ l) : DB (l * (n + 1)) (k + 1) (.tuple ds) where
  sh := by rw [PyData.showable]; exact h.sh
  nd := by rw [PyData.hasDict]; exact h.nd
  sm := by rw [PyData.leavesShort]; exact h.sm
  bu := by rw [PyData.bulk]; exact Nat.le_trans h.bu (Nat.mul_le_mul_right _ hl)
  dp := by rw [PyData.depth]; exact Nat.succ_le_succ h.dp
theorem DB.le {n n' k k' : Nat} {d : PyData} (h : DB n k d) (hn : n ≤ n') (hk : k ≤ k') : DB n' k' d := ⟨h.sh, h.nd, h.sm, Nat.le_trans h.bu hn, Nat.le_trans h.dp hk⟩
theorem db_int {i : Int} (h : i.natAbs < 2 ^ 1900) : DB 0 0 (.int i) := by
  have hl : i.natAbs.log2 < 1920 := by
    have : i.natAbs.log2 ≤ 1899 := PySem.W.mg_log h
    omega
  refine ⟨by rw [PyData.showable]; exact decide_eq_true hl, by rw [PyData.hasDict], ?_, by rw [PyData.bulk]; exact Nat.le_refl _, by rw [PyData.depth]; exact Nat.le_refl _⟩
  rw [PyData.leavesShort]
  refine decide_eq_true ?_
  rw [PyData.shown]
  exact PyProof.Rows.int_text_len_1921 hl
section
variable {K : PySem.W.Frag} {R : Hp}
theorem giv_dp {v : V} {g : Giv} (h : (rGiv K).rel R v g) (ok : okH g) : ∃ d, Dp K R v d ∧ DB 2 1 d := by
  cases g with
  | inl i =>
    have e : v = .int i := h
    subst e
    exact ⟨.int i, .int i, (db_int ok).le (by omega) (by omega)⟩
  | inr p =>
    obtain ⟨a, x, y, e, h1, h2, h3⟩ := h
    have e2 : x = .int p.1 := h2
    have e3 : y = .int p.2 := h3
    subst e e2 e3
    exact ⟨.tuple [.int p.1, .int p.2], .tup h1 (.cons (.int _) (.cons (.int _) .nil)), (dbs_cons (db_int ok.2.1) (dbs_cons (db_int ok.2.2) dbs_nil)).tuple (l := 2) (by simp)⟩
theorem all_dp {α : Type} {A : DR α} {n k : Nat} : ∀ {xs : List V} {l : List α}, Paired (A.rel R) xs l → (∀ a ∈ l, ∀ v, A.rel R v a → ∃ d, Dp K R v d ∧ DB n k d) → ∃ ds, DpAll K R xs ds ∧ ds.length = l.length ∧ DBs n k ds
  | _, _, .nil, _ => ⟨[], .nil, rfl, dbs_nil⟩
  | _, _, .cons r t, h => by
    obtain ⟨d, h1, h2⟩ := h _ List.mem_cons_self _ r
    obtain ⟨ds, h3, h4, h5⟩ := all_dp t fun a ha => h a (List.mem_cons_of_mem _ ha)
    exact ⟨d :: ds, .cons h1 h3, by rw [List.length_cons, List.length_cons, h4], dbs_cons h2 h5⟩
theorem row_dp {v : V} {l : List Giv} (h : (rLT K (rGiv K)).rel R v l) (ok : ∀ g ∈ l, okH g) (hl : l.length ≤ 6) : ∃ d, Dp K R v d ∧ DB 18 2 d := by
  rcases h with ⟨a, xs, e, h1, hp⟩ | ⟨a, xs, e, h1, hp⟩
  · obtain ⟨ds, h3, h4, h5⟩ := all_dp hp fun g hg v hv => giv_dp hv (ok g hg)
    subst e
    exact ⟨.list ds, .lst (.inl h1) h3, h5.list (l := 6) (by omega)⟩
  · obtain ⟨ds, h3, h4, h5⟩ := all_dp hp fun g hg v hv => giv_dp hv (ok g hg)
    subst e
    exact ⟨.tuple ds, .tup h1 h3, h5.tuple (l := 6) (by omega)⟩
theorem mat_dp {v : V} {m : Mat} (h : (rMat K).rel R v m) (ok : ∀ l ∈ m, ∀ g ∈ l, okH g) (hl : ∀ l ∈ m, l.length ≤ 6) (hm : m.length ≤ 7) : ∃ d, Dp K R v d ∧ DB 133 3 d := by
  obtain ⟨a, xs, e, h1, hp⟩ := h
  obtain ⟨ds, h3, h4, h5⟩ := all_dp hp fun l hl' v hv => row_dp hv (ok l hl') (hl l hl')
  subst e
  exact ⟨.list ds, .lst (.inl h1) h3, h5.list (l := 7) (by omega)⟩
end
/-- data told twice over -/
def rBoth {α β : Type} (A : DR α) (B : DR β) : DR (α × β) := ⟨fun R v p => A.rel R v p.1 ∧ B.rel R v p.2, fun l h => ⟨A.up l h.1, B.up l h.2⟩⟩
/-- two of them in a list: what repr asks -/
theorem two_db {d e : PyData} (h : DB 133 3 d) (h' : DB 133 3 e) : (PyData.list [d, e]).showable = true ∧ (PyData.list [d, e]).hasDict = false ∧ (PyData.list [d, e]).depth ≤ 50 ∧ (PyData.list [d, e]).shown.length ≤ sizeLine := by
  have H := (dbs_cons h (dbs_cons h' dbs_nil)).list (l := 2) (by simp)
  refine ⟨H.sh, H.nd, Nat.le_trans H.dp (by omega), ?_⟩
  refine Nat.le_trans (PyData.shown_le_bulk 1921 (by omega) _ H.sm) ?_
  have := H.bu
  rw [sizeLine_eq]
  omega
/-! ### data of one shape -/
def numD (q : Rat) : PyData := .tuple [.int q.num, .int q.den]
def rowsD (l : List (List Rat)) : PyData := .list (l.map fun r => .tuple (r.map numD))
theorem fz_rows {K : PySem.W.Frag} {l : List (List Rat)} : ∀ R v, (rL K (rT K (rQ K))).rel R v l → (rU K).rel R v (rowsD l) := fun R v h => fz_U (deep_L (deep_T deep_Q)) h
theorem fz_int {K : PySem.W.Frag} {i : Int} : ∀ R v, rI.rel R v i → (rU K).rel R v (.int i) := fun R v h => fz_U deep_I h
theorem fz_bool {K : PySem.W.Frag} {i : Bool} : ∀ R v, rB.rel R v i → (rU K).rel R v (.bool i) := fun R v h => fz_U deep_B h
theorem fz_str {K : PySem.W.Frag} {i : Str} : ∀ R v, rS.rel R v i → (rU K).rel R v (.str i) := fun R v h => fz_U deep_S h
theorem sd_num (q : Rat) (m : Nat) : SD (m + 1) (numD q) := ⟨by simp, fun x hx => by
  rcases List.mem_cons.mp hx with z | z
  · rw [z]; simp [SD]
  · rw [List.mem_singleton.mp z]; simp [SD]⟩
theorem sd_rows {l : List (List Rat)} (hl : l.length ≤ 1000) (hr : ∀ r ∈ l, r.length ≤ 1000) : SD 3 (rowsD l) := by
  refine ⟨by rw [List.length_map]; exact hl, fun x hx => ?_⟩
  obtain ⟨r, h1, e⟩ := List.mem_map.mp hx
  rw [← e]
  refine ⟨by rw [List.length_map]; exact hr r h1, fun y hy => ?_⟩
  obtain ⟨q, _, e⟩ := List.mem_map.mp hy
  rw [← e]
  exact sd_num q 0
theorem sd_up : ∀ {m : Nat} {d : PyData}, SD m d → SD (m + 1) d
  | _, .int _, _ => by simp [SD]
  | _, .bool _, _ => by simp [SD]
  | _, .str _, _ => by simp [SD]
  | _, .none, _ => by simp [SD]
  | m + 1, .list ds, h => ⟨h.1, fun x hx => sd_up (h.2 x hx)⟩
  | m + 1, .tuple ds, h => ⟨h.1, fun x hx => sd_up (h.2 x hx)⟩
  | 0, .list _, h => h.elim
  | 0, .tuple _, h => h.elim
  | 0, .dict _, h => h.elim
  | _ + 1, .dict _, h => h.elim
/-- three of them in a list: what repr asks -/
theorem tri_db {d e f : PyData} (h : DB 133 3 d) (h' : DB 133 3 e) (h'' : DB 133 3 f) : (PyData.list [d, e, f]).showable = true ∧ (PyData.list [d, e, f]).hasDict = false ∧ (PyData.list [d, e, f]).depth ≤ 50 ∧ (PyData.list [d, e, f]).shown.length ≤ sizeLine := by
  have H := (dbs_cons h (dbs_cons h' (dbs_cons h'' dbs_nil))).list (l := 3) (by simp)
  refine ⟨H.sh, H.nd, Nat.le_trans H.dp (by omega), ?_⟩
  refine Nat.le_trans (PyData.shown_le_bulk 1921 (by omega) _ H.sm) ?_
  have := H.bu
  rw [sizeLine_eq]
  omega
/-! ### tables equal as data -/
theorem eqvs_refl : ∀ {m : Nat} {ds : List PyData}, (∀ x ∈ ds, PyData.eqv x x = true) → PyData.eqvAll ds ds = true
  | _, [], _ => rfl
  | m, d :: ds, h => by
    rw [PyData.eqvAll, h d List.mem_cons_self, eqvs_refl (m := m) fun x hx => h x (List.mem_cons_of_mem _ hx)]
    rfl
end T
end
section
set_option Elab.async false
set_option linter.all false
set_option maxRecDepth 100000
set_option maxHeartbeats 4000000
set_option exponentiation.threshold 10000
namespace T
open PySem PySem.Spec PyProof.Rows L2
/-! ### the law's turn -/
abbrev lawN : List Str := ["script", "bag", "turn", "tall", "mid", "wide", "a", "b", "c", "p", "q", "r", "kept", "due", "told", "many", "k", "found", "longer", "said", "ps"]
abbrev lawS : Scope := defScope (top 54)
theorem scLaw : FnScope lawN ["script"] lawS := ⟨rfl, rfl, rfl, by decide +kernel, rfl, by decide +kernel, by decide +kernel⟩
def forBody : Stmt → List Stmt
  | .For (body := b) .. => b
  | _ => []
abbrev lawB : List Stmt := forBody ((defBody (top 54)).getD 1 (.Pass ⟨0, 0, 0, 0⟩))
abbrev stB (i : Nat) : Stmt := lawB.getD i (.Pass ⟨0, 0, 0, 0⟩)
abbrev lawE : Stmt := (defBody (top 54)).getD 2 (.Pass ⟨0, 0, 0, 0⟩)
/-- the defs that the law calls -/
structure LF (G : Gm) (C : Addr) : Prop where
  B : Bi G
  of : Fn G "_law_of" 2 (cOf G.K)
  bag : Fn G "_law_bag" 1 (cBagNew G.K)
  gives : Fn G "_law_gives" 4 (cGives G.K)
  table : Fn G "_law_table" 4 (cTable G.K)
  prodL : Fn G "_law_product" 5 (cProdL G.K)
  unitL : Fn G "_law_unit" 1 (cUnitL G.K)
  colsL : Fn G "_law_columns" 1 (cColsL G.K)
  undone : Fn G "_law_undone" 6 (cUndone G.K)
  times : Fn G "times" 7 (cTimes G.K)
  turned : Fn G "turned" 7 (cTurned G.K)
  power : Fn G "power" 8 (cPower G.K)
  inverse : Fn G "inverse" 8 (cInverse G.K)
  like : ∀ m, Fn G "_law_like" (m + 1) (cLike m G.K)
  xtimes : FnX G C "what" "width" "times" 7 (dTimes G.K)
  xturned : FnX G C "what" "width" "turned" 7 (dMat G.K)
  xpower : FnX G C "what" "width" "power" 8 (dPower G.K)
  xinverse : FnX G C "what" "width" "inverse" 8 (dSquare G.K)
  ktimes : KB G "times" ["other", "one"] true
  kturned : KB G "turned" ["rows"] false
  kpower : KB G "power" ["count", "rows"] true
  kinverse : KB G "inverse" ["rows"] false
  repr : G.mg "repr" = none
/-- what is handed in fits -/
theorem giv_tab {t w : Nat} {m : Mat} {qs : List (List Rat)} (e : qmat m = qs) (hT : Tab t w qs) (ht : 0 < t) (ok : ∀ l ∈ m, ∀ g ∈ l, okG g) (few : t ≤ 1000) (hw : w ≤ 1000) : GivOk (widthOf m) m ∧ widthOf m = w ∧ m.length = t ∧ ∀ l ∈ m, l.length = w := by
  have hlen : ∀ l ∈ m, l.length = w := fun l h => by
    have := hT.wide (l.map gv) (by rw [← e]; exact List.mem_map_of_mem h)
    rwa [List.length_map] at this
  have hml : m.length = t := by
    have := hT.tall
    rw [← e, len_qmat] at this
    exact this
  cases m with
  | nil => simp at hml; omega
  | cons l m =>
    have h1 : widthOf (l :: m) = w := hlen l List.mem_cons_self
    exact ⟨⟨fun l' h => by rw [h1]; exact hlen l' h, ok, by rw [hml]; exact few, by rw [h1]; exact hw⟩, h1, hml, hlen⟩
/-- what is known in a turn -/
structure TF (t u w : Nat) (A Bm Cm : List (List Rat)) (m1 m2 m3 : Mat) : Prop where
  t1 : 1 ≤ t
  t4 : t ≤ 4
  u1 : 1 ≤ u
  u4 : u ≤ 4
  w1 : 1 ≤ w
  w4 : w ≤ 4
  ta : Tab t u A
  tb : Tab u w Bm
  tc : Tab u u Cm
  fa : FrM 144 3600 A
  fb : FrM 144 3600 Bm
  fc : FrM 144 3600 Cm
  e1 : qmat m1 = A
  e2 : qmat m2 = Bm
  e3 : qmat m3 = Cm
  ok1 : ∀ l ∈ m1, ∀ g ∈ l, okH g
  ok2 : ∀ l ∈ m2, ∀ g ∈ l, okH g
  ok3 : ∀ l ∈ m3, ∀ g ∈ l, okH g
section
variable {t u w : Nat} {A Bm Cm : List (List Rat)} {m1 m2 m3 : Mat}
theorem TF.g1 (h : TF t u w A Bm Cm m1 m2 m3) : GivOk (widthOf m1) m1 ∧ widthOf m1 = u ∧ m1.length = t ∧ ∀ l ∈ m1, l.length = u := giv_tab h.e1 h.ta h.t1 (fun l hl g hg => (h.ok1 l hl g hg).ok) (by have := h.t4; omega) (by have := h.u4; omega)
theorem TF.g2 (h : TF t u w A Bm Cm m1 m2 m3) : GivOk (widthOf m2) m2 ∧ widthOf m2 = w ∧ m2.length = u ∧ ∀ l ∈ m2, l.length = w := giv_tab h.e2 h.tb h.u1 (fun l hl g hg => (h.ok2 l hl g hg).ok) (by have := h.u4; omega) (by have := h.w4; omega)
theorem TF.g3 (h : TF t u w A Bm Cm m1 m2 m3) : GivOk (widthOf m3) m3 ∧ widthOf m3 = u ∧ m3.length = u ∧ ∀ l ∈ m3, l.length = u := giv_tab h.e3 h.tc h.u1 (fun l hl g hg => (h.ok3 l hl g hg).ok) (by have := h.u4; omega) (by have := h.u4; omega)
theorem sd_tab {t w : Nat} {m : List (List Rat)} (h : Tab t w m) (ht : t ≤ 1000) (hw : w ≤ 1000) : SD 3 (rowsD m) := sd_rows (by rw [h.tall]; exact ht) fun r hr => by rw [h.wide r hr]; exact hw
end
section
variable {G : Gm} {C fI g cd P : Addr} {fd : FuncData} {X : Cx} {n : Nat} {ns : List Int} {pb : Addr} {bg : Bag} {x2 x3 x4 x5 x6 x7 x8 x9 x10 x11 x12 x13 x14 x15 x16 x17 x18 x19 x20 : Kd} {t u w : Nat} {A Bm Cm : List (List Rat)} {m1 m2 m3 : Mat} {d1 d2 d3 : PyData}
/-- tall, mid, wide = .. -/
theorem t0 (Fs : LF G C) (hX : XF G X lawN lawS 11) (hfn : ∀ x, X.fn x = true) (hb : Bg n bg) (hn : n < 2 ^ 29) : S1 X (stB 0) [.im (rSc G.K) ns, .ow pb (cBag G.K) bg, x2, x3, x4, x5, x6, x7, x8, x9, x10, x11, x12, x13, x14, x15, x16, x17, x18, x19, x20] { nx := fun τ => ∃ (t u w : Nat) (bg : Bag), 1 ≤ t ∧ t ≤ 4 ∧ 1 ≤ u ∧ u ≤ 4 ∧ 1 ≤ w ∧ w ≤ 4 ∧ Bg (n + 3) bg ∧ τ = [.im (rSc G.K) ns, .ow pb (cBag G.K) bg, x2, .im rI (t : Int), .im rI (u : Int), .im rI (w : Int), x6, x7, x8, x9, x10, x11, x12, x13, x14, x15, x16, x17, x18, x19, x20], rt := fun _ _ => False } := by
  refine S1_parG3 (i := 3) (j := 4) (l := 5) hX (pgn hX rfl rfl) (pgnC hX hfn rfl rfl) (pgn hX rfl rfl) rfl ?_ rfl
  have key : ∀ m ∈ ([2, 3, 1, 4] : List Int), 1 ≤ m ∧ m ≤ 4 := by decide
  have key2 : ∀ m ∈ ([3, 2, 1, 4] : List Int), 1 ≤ m ∧ m ≤ 4 := by decide
  refine E_call hX Fs.of (by omega) rfl rfl ?_
  refine A_cons rfl ?_
  refine P_name (i := 1) hX rfl (.inr (.inl rfl)) rfl (by intro z; cases z) ?_  -- bag
  refine A_cons rfl ?_
  refine P_val ?_
  refine E_lst rfl (A := rI) ?_
  refine E_int ?_
  refine ⟨_, .im _ _, ?_⟩
  refine E_int ?_
  refine ⟨_, .im _ _, ?_⟩
  refine E_int ?_
  refine ⟨_, .im _ _, ?_⟩
  refine E_int ?_
  refine ⟨_, .im _ _, ?_⟩
  refine ⟨by simp, [2, 3, 1, 4], rfl, fun r => ?_⟩
  refine ⟨_, _, _, .ow (frz_L (K := G.K)), ?_⟩
  refine A_nil ?_
  refine ⟨[_, _], ⟨rfl, rfl, trivial⟩, trivial, Int, rI, _, pb, bg, n + 0, rfl, hb, by omega, by decide, by decide, fun y0 hy0 b1 hb1 => ?_⟩
  have hz0 := key y0 hy0
  refine E_call hX Fs.of (by omega) rfl rfl ?_
  refine A_cons rfl ?_
  refine P_name (i := 1) hX rfl (.inr (.inl rfl)) rfl (by intro z; cases z) ?_  -- bag
  refine A_cons rfl ?_
  refine P_val ?_
  refine E_lst rfl (A := rI) ?_
  refine E_int ?_
  refine ⟨_, .im _ _, ?_⟩
  refine E_int ?_
  refine ⟨_, .im _ _, ?_⟩
  refine E_int ?_
  refine ⟨_, .im _ _, ?_⟩
  refine E_int ?_
  refine ⟨_, .im _ _, ?_⟩
  refine ⟨by simp, [2, 3, 1, 4], rfl, fun r => ?_⟩
  refine ⟨_, _, _, .ow (frz_L (K := G.K)), ?_⟩
  refine A_nil ?_
  refine ⟨[_, _], ⟨rfl, rfl, trivial⟩, trivial, Int, rI, _, pb, b1, n + 1, rfl, hb1, by omega, by decide, by decide, fun y1 hy1 b2 hb2 => ?_⟩
  have hz1 := key y1 hy1
  refine E_call hX Fs.of (by omega) rfl rfl ?_
  refine A_cons rfl ?_
  refine P_name (i := 1) hX rfl (.inr (.inl rfl)) rfl (by intro z; cases z) ?_  -- bag
  refine A_cons rfl ?_
  refine P_val ?_
  refine E_lst rfl (A := rI) ?_
  refine E_int ?_
  refine ⟨_, .im _ _, ?_⟩
  refine E_int ?_
  refine ⟨_, .im _ _, ?_⟩
  refine E_int ?_
  refine ⟨_, .im _ _, ?_⟩
  refine E_int ?_
  refine ⟨_, .im _ _, ?_⟩
  refine ⟨by simp, [3, 2, 1, 4], rfl, fun r => ?_⟩
  refine ⟨_, _, _, .ow (frz_L (K := G.K)), ?_⟩
  refine A_nil ?_
  refine ⟨[_, _], ⟨rfl, rfl, trivial⟩, trivial, Int, rI, _, pb, b2, n + 2, rfl, hb2, by omega, by decide, by decide, fun y2 hy2 b3 hb3 => ?_⟩
  have hz2 := key2 y2 hy2
  refine ⟨_, _, _, rfl, y0.toNat, y1.toNat, y2.toNat, b3, by omega, by omega, by omega, by omega, by omega, by omega, hb3, ?_⟩
  rw [show ((y0.toNat : Nat) : Int) = y0 by omega, show ((y1.toNat : Nat) : Int) = y1 by omega, show ((y2.toNat : Nat) : Int) = y2 by omega]
  rfl
/-- a, b, c = .. -/
theorem t1 (Fs : LF G C) (hX : XF G X lawN lawS 11) (ht : t ≤ 4) (hu : u ≤ 4) (hw : w ≤ 4) (hb : Bg n bg) (hn : n < 2 ^ 29) : S1 X (stB 1) [.im (rSc G.K) ns, .ow pb (cBag G.K) bg, x2, .im rI (t : Int), .im rI (u : Int), .im rI (w : Int), x6, x7, x8, x9, x10, x11, x12, x13, x14, x15, x16, x17, x18, x19, x20] { nx := fun τ => ∃ (pa p1 p2 : Addr) (A Bm Cm : List (List Rat)) (bg : Bag) (n' : Nat), Tab t u A ∧ Tab u w Bm ∧ Tab u u Cm ∧ FrM 144 3600 A ∧ FrM 144 3600 Bm ∧ FrM 144 3600 Cm ∧ n ≤ n' ∧ n' ≤ n + 300 ∧ Bg n' bg ∧ τ = [.im (rSc G.K) ns, .ow pb (cBag G.K) bg, x2, .im rI (t : Int), .im rI (u : Int), .im rI (w : Int), .ow pa (cL (rT G.K (rQ G.K))) A, .ow p1 (cL (rT G.K (rQ G.K))) Bm, .ow p2 (cL (rT G.K (rQ G.K))) Cm, x9, x10, x11, x12, x13, x14, x15, x16, x17, x18, x19, x20], rt := fun _ _ => False } := by
  refine S1_par3 (i := 6) (j := 7) (l := 8) hX rfl rfl rfl (by decide) (by decide) (by decide) rfl rfl rfl rfl ?_
  refine E_call hX Fs.table (by omega) rfl rfl ?_
  refine A_cons rfl ?_
  refine P_name (i := 1) hX rfl (.inr (.inl rfl)) rfl (by intro z; cases z) ?_  -- bag
  refine A_cons rfl ?_
  refine P_name (i := 3) hX rfl (.inl rfl) rfl (by intro z; cases z) ?_  -- tall
  refine A_cons rfl ?_
  refine P_name (i := 4) hX rfl (.inr (.inl rfl)) rfl (by intro z; cases z) ?_  -- mid
  refine A_nil ?_
  refine ⟨[_, _, _], ⟨rfl, rfl, rfl, trivial⟩, trivial, pb, bg, n, t, u, rfl, hb, by omega, by omega, by omega, fun q0 M0 b1 n1 hT0 hF0 hl0 hh0 hb1 => ?_⟩
  refine E_call hX Fs.table (by omega) rfl rfl ?_
  refine A_cons rfl ?_
  refine P_name (i := 1) hX rfl (.inr (.inl rfl)) rfl (by intro z; cases z) ?_  -- bag
  refine A_cons rfl ?_
  refine P_name (i := 4) hX rfl (.inr (.inl rfl)) rfl (by intro z; cases z) ?_  -- mid
  refine A_cons rfl ?_
  refine P_name (i := 5) hX rfl (.inl rfl) rfl (by intro z; cases z) ?_  -- wide
  refine A_nil ?_
  refine ⟨[_, _, _], ⟨rfl, rfl, rfl, trivial⟩, trivial, pb, b1, n1, u, w, rfl, hb1, by omega, by omega, by omega, fun q1 M1 b2 n2 hT1 hF1 hl1 hh1 hb2 => ?_⟩
  refine E_call hX Fs.table (by omega) rfl rfl ?_
  refine A_cons rfl ?_
  refine P_name (i := 1) hX rfl (.inr (.inl rfl)) rfl (by intro z; cases z) ?_  -- bag
  refine A_cons rfl ?_
  refine P_name (i := 4) hX rfl (.inr (.inl rfl)) rfl (by intro z; cases z) ?_  -- mid
  refine A_cons rfl ?_
  refine P_name (i := 4) hX rfl (.inr (.inl rfl)) rfl (by intro z; cases z) ?_  -- mid
  refine A_nil ?_
  refine ⟨[_, _, _], ⟨rfl, rfl, rfl, trivial⟩, trivial, pb, b2, n2, u, u, rfl, hb2, by omega, by omega, by omega, fun q2 M2 b3 n3 hT2 hF2 hl2 hh2 hb3 => ?_⟩
  exact ⟨_, _, _, rfl, q0, q1, q2, M0, M1, M2, b3, n3, hT0, hT1, hT2, hF0, hF1, hF2, by omega, by omega, hb3, rfl⟩
/-- p, q, r = .. -/
theorem t2 (Fs : LF G C) (hX : XF G X lawN lawS 11) (hfn : ∀ x, X.fn x = true) (ht : t ≤ 4) (hu : u ≤ 4) (hw : w ≤ 4) (ta : Tab t u A) (tb : Tab u w Bm) (tc : Tab u u Cm) (fa : FrM 144 3600 A) (fb : FrM 144 3600 Bm) (fc : FrM 144 3600 Cm) (hb : Bg n bg) (hn : n < 2 ^ 29) : S1 X (stB 2) [.im (rSc G.K) ns, .ow pb (cBag G.K) bg, x2, .im rI (t : Int), .im rI (u : Int), .im rI (w : Int), .im (rL G.K (rT G.K (rQ G.K))) A, .im (rL G.K (rT G.K (rQ G.K))) Bm, .im (rL G.K (rT G.K (rQ G.K))) Cm, x9, x10, x11, x12, x13, x14, x15, x16, x17, x18, x19, x20] { nx := fun τ => ∃ (p1 p2 p3 : Addr) (m1 m2 m3 : Mat) (bg : Bag) (n2 : Nat), qmat m1 = A ∧ (∀ l ∈ m1, ∀ g ∈ l, okH g) ∧ qmat m2 = Bm ∧ (∀ l ∈ m2, ∀ g ∈ l, okH g) ∧ qmat m3 = Cm ∧ (∀ l ∈ m3, ∀ g ∈ l, okH g) ∧ n ≤ n2 ∧ n2 ≤ n + 300 ∧ Bg n2 bg ∧ τ = [.im (rSc G.K) ns, .ow pb (cBag G.K) bg, x2, .im rI (t : Int), .im rI (u : Int), .im rI (w : Int), .im (rL G.K (rT G.K (rQ G.K))) A, .im (rL G.K (rT G.K (rQ G.K))) Bm, .im (rL G.K (rT G.K (rQ G.K))) Cm, .ow p1 (cL (rLT G.K (rGiv G.K))) m1, .ow p2 (cL (rLT G.K (rGiv G.K))) m2, .ow p3 (cL (rLT G.K (rGiv G.K))) m3, x12, x13, x14, x15, x16, x17, x18, x19, .no], rt := fun _ _ => False } := by
  refine S1_parG3 (i := 9) (j := 10) (l := 11) hX (pgnC hX hfn rfl rfl) (pgnC hX hfn rfl rfl) (pgnC hX hfn rfl rfl) rfl ?_ rfl
  have htl0 := ta.tall
  refine E_lc (own := [("ps", 20)]) (rLT G.K (rGiv G.K)) hX rfl ?_
  refine I_list hX ?_
  refine E_name (i := 6) hX rfl (.inl rfl) rfl ?_  -- a
  refine ⟨_, _, _, .im _ _, ?_⟩
  refine ⟨fun i out τ => qmat out = A.take i ∧ (∀ l ∈ out, ∀ g ∈ l, okH g) ∧ ∃ (c0 : Bag) (k0 : Nat), n ≤ k0 ∧ k0 ≤ n + 20 * i ∧ Bg k0 c0 ∧ τ = [.im (rSc G.K) ns, .ow pb (cBag G.K) c0, x2, .im rI (t : Int), .im rI (u : Int), .im rI (w : Int), .im (rL G.K (rT G.K (rQ G.K))) A, .im (rL G.K (rT G.K (rQ G.K))) Bm, .im (rL G.K (rT G.K (rQ G.K))) Cm, x9, x10, x11, x12, x13, x14, x15, x16, x17, x18, x19, .no], ⟨by simp [qmat], by simp, bg, n, Nat.le_refl _, by omega, hb, rfl⟩, fun i y hy => ?_, fun out0 τ hJ pg0 => ?_⟩
  · rintro out τ ⟨ho, hok, z1, k1, hn1, hn2, hz1, hτ⟩ X1 hX1 hf1
    subst hτ
    obtain ⟨r, hr, ey⟩ := mapK_get hy
    subst ey
    have hrm := List.mem_of_getElem? hr
    have hi := (List.getElem?_eq_some_iff.mp hr).1
    have hrl := ta.wide r hrm
    have hol : out.length = i := by
      have := congrArg List.length ho
      unfold qmat at this
      rw [List.length_map, List.length_take] at this
      omega
    refine TB_name (i := 20) hX1 rfl rfl (by decide) ?_  -- ps
    intro X2 hX2
    refine Cs_nil ?_
    refine ⟨fun _ X3 hX3 => ?_, fun h => by cases h⟩
    refine E_call hX3 Fs.gives (by omega) rfl rfl ?_
    refine A_cons rfl ?_
    refine P_name (i := 1) hX3 rfl (.inr (.inl rfl)) rfl (by intro z; cases z) ?_  -- bag
    refine A_cons rfl ?_
    refine P_val ?_
    refine E_name (i := 20) hX3 rfl (.inl rfl) rfl ?_  -- ps
    refine ⟨_, rLT G.K (rQ G.K), r, .cv (fun R v h => .inr h), ?_⟩
    refine A_nil ?_
    refine ⟨[_, _], ⟨rfl, rfl, trivial⟩, trivial, pb, z1, k1, r, rfl, hz1, by omega, by omega, fun q hq => (fa r hrm q hq).qb (by omega) (small50 (by omega)) (small50 (by omega)), fun gs z2 k2 hgs hgo hn3 hn4 hz2 => ?_⟩
    refine ⟨_, .im _ _, by omega, ?_, fun l hl' => ?_, z2, k2, by omega, by omega, hz2, rfl⟩
    · unfold qmat at ho ⊢
      rw [List.map_append, ho, take_get hr, ← hgs]; rfl
    · rcases List.mem_append.mp hl' with z | z
      · exact hok l z
      · rw [List.mem_singleton.mp z]; exact hgo
  obtain ⟨ho0, hok0, b1, n1, hl0, hh0, hb1, hτ⟩ := hJ
  rw [List.length_map] at ho0 hh0
  rw [List.take_length] at ho0
  subst hτ
  have htl1 := tb.tall
  refine E_lc (own := [("ps", 20)]) (rLT G.K (rGiv G.K)) hX rfl ?_
  refine I_list hX ?_
  refine E_name (i := 7) hX rfl (.inl rfl) rfl ?_  -- b
  refine ⟨_, _, _, .im _ _, ?_⟩
  refine ⟨fun i out τ => qmat out = Bm.take i ∧ (∀ l ∈ out, ∀ g ∈ l, okH g) ∧ ∃ (c1 : Bag) (k1 : Nat), n1 ≤ k1 ∧ k1 ≤ n1 + 20 * i ∧ Bg k1 c1 ∧ τ = [.im (rSc G.K) ns, .ow pb (cBag G.K) c1, x2, .im rI (t : Int), .im rI (u : Int), .im rI (w : Int), .im (rL G.K (rT G.K (rQ G.K))) A, .im (rL G.K (rT G.K (rQ G.K))) Bm, .im (rL G.K (rT G.K (rQ G.K))) Cm, x9, x10, x11, x12, x13, x14, x15, x16, x17, x18, x19, .no], ⟨by simp [qmat], by simp, b1, n1, Nat.le_refl _, by omega, hb1, rfl⟩, fun i y hy => ?_, fun out1 τ hJ pg1 => ?_⟩
  · rintro out τ ⟨ho, hok, z1, k1, hn1, hn2, hz1, hτ⟩ X1 hX1 hf1
    subst hτ
    obtain ⟨r, hr, ey⟩ := mapK_get hy
    subst ey
    have hrm := List.mem_of_getElem? hr
    have hi := (List.getElem?_eq_some_iff.mp hr).1
    have hrl := tb.wide r hrm
    have hol : out.length = i := by
      have := congrArg List.length ho
      unfold qmat at this
      rw [List.length_map, List.length_take] at this
      omega
    refine TB_name (i := 20) hX1 rfl rfl (by decide) ?_  -- ps
    intro X2 hX2
    refine Cs_nil ?_
    refine ⟨fun _ X3 hX3 => ?_, fun h => by cases h⟩
    refine E_call hX3 Fs.gives (by omega) rfl rfl ?_
    refine A_cons rfl ?_
    refine P_name (i := 1) hX3 rfl (.inr (.inl rfl)) rfl (by intro z; cases z) ?_  -- bag
    refine A_cons rfl ?_
    refine P_val ?_
    refine E_name (i := 20) hX3 rfl (.inl rfl) rfl ?_  -- ps
    refine ⟨_, rLT G.K (rQ G.K), r, .cv (fun R v h => .inr h), ?_⟩
    refine A_nil ?_
    refine ⟨[_, _], ⟨rfl, rfl, trivial⟩, trivial, pb, z1, k1, r, rfl, hz1, by omega, by omega, fun q hq => (fb r hrm q hq).qb (by omega) (small50 (by omega)) (small50 (by omega)), fun gs z2 k2 hgs hgo hn3 hn4 hz2 => ?_⟩
    refine ⟨_, .im _ _, by omega, ?_, fun l hl' => ?_, z2, k2, by omega, by omega, hz2, rfl⟩
    · unfold qmat at ho ⊢
      rw [List.map_append, ho, take_get hr, ← hgs]; rfl
    · rcases List.mem_append.mp hl' with z | z
      · exact hok l z
      · rw [List.mem_singleton.mp z]; exact hgo
  obtain ⟨ho1, hok1, b2, n2, hl1, hh1, hb2, hτ⟩ := hJ
  rw [List.length_map] at ho1 hh1
  rw [List.take_length] at ho1
  subst hτ
  have htl2 := tc.tall
  refine E_lc (own := [("ps", 20)]) (rLT G.K (rGiv G.K)) hX rfl ?_
  refine I_list hX ?_
  refine E_name (i := 8) hX rfl (.inl rfl) rfl ?_  -- c
  refine ⟨_, _, _, .im _ _, ?_⟩
  refine ⟨fun i out τ => qmat out = Cm.take i ∧ (∀ l ∈ out, ∀ g ∈ l, okH g) ∧ ∃ (c2 : Bag) (k2 : Nat), n2 ≤ k2 ∧ k2 ≤ n2 + 20 * i ∧ Bg k2 c2 ∧ τ = [.im (rSc G.K) ns, .ow pb (cBag G.K) c2, x2, .im rI (t : Int), .im rI (u : Int), .im rI (w : Int), .im (rL G.K (rT G.K (rQ G.K))) A, .im (rL G.K (rT G.K (rQ G.K))) Bm, .im (rL G.K (rT G.K (rQ G.K))) Cm, x9, x10, x11, x12, x13, x14, x15, x16, x17, x18, x19, .no], ⟨by simp [qmat], by simp, b2, n2, Nat.le_refl _, by omega, hb2, rfl⟩, fun i y hy => ?_, fun out2 τ hJ pg2 => ?_⟩
  · rintro out τ ⟨ho, hok, z1, k1, hn1, hn2, hz1, hτ⟩ X1 hX1 hf1
    subst hτ
    obtain ⟨r, hr, ey⟩ := mapK_get hy
    subst ey
    have hrm := List.mem_of_getElem? hr
    have hi := (List.getElem?_eq_some_iff.mp hr).1
    have hrl := tc.wide r hrm
    have hol : out.length = i := by
      have := congrArg List.length ho
      unfold qmat at this
      rw [List.length_map, List.length_take] at this
      omega
    refine TB_name (i := 20) hX1 rfl rfl (by decide) ?_  -- ps
    intro X2 hX2
    refine Cs_nil ?_
    refine ⟨fun _ X3 hX3 => ?_, fun h => by cases h⟩
    refine E_call hX3 Fs.gives (by omega) rfl rfl ?_
    refine A_cons rfl ?_
    refine P_name (i := 1) hX3 rfl (.inr (.inl rfl)) rfl (by intro z; cases z) ?_  -- bag
    refine A_cons rfl ?_
    refine P_val ?_
    refine E_name (i := 20) hX3 rfl (.inl rfl) rfl ?_  -- ps
    refine ⟨_, rLT G.K (rQ G.K), r, .cv (fun R v h => .inr h), ?_⟩
    refine A_nil ?_
    refine ⟨[_, _], ⟨rfl, rfl, trivial⟩, trivial, pb, z1, k1, r, rfl, hz1, by omega, by omega, fun q hq => (fc r hrm q hq).qb (by omega) (small50 (by omega)) (small50 (by omega)), fun gs z2 k2 hgs hgo hn3 hn4 hz2 => ?_⟩
    refine ⟨_, .im _ _, by omega, ?_, fun l hl' => ?_, z2, k2, by omega, by omega, hz2, rfl⟩
    · unfold qmat at ho ⊢
      rw [List.map_append, ho, take_get hr, ← hgs]; rfl
    · rcases List.mem_append.mp hl' with z | z
      · exact hok l z
      · rw [List.mem_singleton.mp z]; exact hgo
  obtain ⟨ho2, hok2, b3, n3, hl2, hh2, hb3, hτ⟩ := hJ
  rw [List.length_map] at ho2 hh2
  rw [List.take_length] at ho2
  subst hτ
  exact ⟨_, _, _, rfl, pg0, pg1, pg2, out0, out1, out2, b3, n3, ho0, hok0, ho1, hok1, ho2, hok2, by omega, by omega, hb3, rfl⟩
end
end T
end
section
set_option Elab.async false
set_option linter.all false
set_option maxRecDepth 100000
set_option maxHeartbeats 4000000
set_option exponentiation.threshold 10000
namespace T
open PySem PySem.Spec PyProof.Rows L2
/-- data in a list are data -/
theorem fz_list {K : PySem.W.Frag} {ds : List PyData} : ∀ R v, (rL K (rU K)).rel R v ds → (rU K).rel R v (.list ds) := fun R v h => by
  have := fz_U (K := K) (deep_L deep_U) h
  rw [List.map_id] at this
  exact this
theorem cTimes_mk {K : PySem.W.Frag} {k : Kd → List Kd → Prop} {m1 m2 : Mat} {t u w : Nat} {A B : List (List Rat)} (e1 : qmat m1 = A) (e2 : qmat m2 = B) (g1 : GivOk (widthOf m1) m1) (g2 : GivOk (widthOf m2) m2) (ta : Tab t u A) (tb : Tab u w B) (t1 : 1 ≤ t) (u1 : 1 ≤ u) (t4 : t ≤ 4) (u4 : u ≤ 4) (w4 : w ≤ 4)
    (fa : FrM 144 3600 A) (fb : FrM 144 3600 B) (h : ∀ p, k (.ow p (cL (rT K (rQ K))) (prodM A B)) [.no, .no]) : cTimes K [.im (rMat K) m1, .im (rMat K) m2] k :=
  ⟨m1, m2, t, u, w, 144, 144, 3600, 3600, rfl, g1, g2, by rw [e1]; exact ta, by rw [e2]; exact tb, t1, u1, by omega, by omega, by omega, by rw [e1]; exact fa, by rw [e2]; exact fb, by decide, by decide, small50 (by decide), small50 (by decide), small50 (by decide), fun p => by rw [e1, e2]; exact h p⟩
theorem cProdL_mk {K : PySem.W.Frag} {k : Kd → List Kd → Prop} {t u w : Nat} {A B : List (List Rat)} (ta : Tab t u A) (tb : Tab u w B) (u1 : 1 ≤ u) (t4 : t ≤ 4) (u4 : u ≤ 4) (w4 : w ≤ 4)
    (fa : FrM 144 3600 A) (fb : FrM 144 3600 B) (h : ∀ p, k (.ow p (cL (rT K (rQ K))) (prodM A B)) [.no, .no]) : cProdL K [.im (rL K (rT K (rQ K))) A, .im (rL K (rT K (rQ K))) B] k :=
  ⟨A, B, t, u, w, 144, 144, 3600, 3600, rfl, ta, tb, u1, by omega, by omega, by omega, fa, fb, by decide, by decide, small50 (by decide), small50 (by decide), small50 (by decide), small50 (by omega), small50 (by decide), h⟩
theorem cols_cols {t w : Nat} {m : List (List Rat)} (h : Tab t w m) : colsM t (colsM w m) = m :=
  Tab.ext (colsM_tab (colsM_tab h)) h fun i j hi hj => by rw [en_cols (colsM_tab h) hi hj, en_cols h hj hi]
theorem giv_gv {t w : Nat} {m : List (List Rat)} (hT : Tab t w m) (ht : 0 < t) (t4 : t ≤ 4) (w4 : w ≤ 4) (hF : FrM 144 3600 m) : GivOk (widthOf (m.map gvRow)) (m.map gvRow) :=
  (giv_tab (gv_rows m) hT ht (fun l hl g hg => by
    obtain ⟨r, hr, e⟩ := List.mem_map.mp hl
    subst e
    obtain ⟨q, hq, e⟩ := List.mem_map.mp hg
    subst e
    refine ⟨by have := q.den_pos; omega, ?_⟩
    rw [Int.natAbs_natCast]
    have := Nat.le_of_dvd (by decide) ((hF r hr).nums (by decide) q hq).1
    exact Nat.lt_of_le_of_lt (Nat.le_trans this (by decide : 144 ≤ 2 ^ 8)) (Nat.pow_lt_pow_right (by omega) (by omega))) (by omega) (by omega)).1
/-- how often a table is multiplied -/
def PowOk (u kk : Nat) : Prop := kk ≤ 8 ∨ (kk ≤ 40 ∧ u < 3)
theorem pow_ok {u kk i : Nat} (h : PowOk u kk) (u4 : u ≤ 4) (hi : i ≤ kk) : 144 ^ i < 2 ^ 1000 ∧ (u * 3600) ^ i < 2 ^ 1000 := by
  constructor
  · refine Nat.lt_of_le_of_lt (Nat.pow_le_pow_right (by decide) (show i ≤ 40 by rcases h with h | h <;> omega)) (by decide +kernel)
  · rcases h with h | ⟨h, h3⟩
    · exact Nat.lt_of_le_of_lt (Nat.le_trans (Nat.pow_le_pow_left (show u * 3600 ≤ 14400 by omega) i) (Nat.pow_le_pow_right (by decide) (show i ≤ 8 by omega))) (by decide +kernel)
    · exact Nat.lt_of_le_of_lt (Nat.le_trans (Nat.pow_le_pow_left (show u * 3600 ≤ 7200 by omega) i) (Nat.pow_le_pow_right (by decide) (show i ≤ 40 by omega))) (by decide +kernel)
theorem cPower_mk {K : PySem.W.Frag} {k : Kd → List Kd → Prop} {m : Mat} {u kk cc : Nat} {c : List (List Rat)} (e : qmat m = c) (g : GivOk (widthOf m) m) (tc : Tab u u c) (u1 : 1 ≤ u) (u4 : u ≤ 4) (fc : FrM 144 3600 c) (h : PowOk u kk) (hc : cc ≤ kk) (hk : k (.im (rL K (rT K (rQ K))) (powM u c cc)) [.no, .no]) : cPower K [.im (rMat K) m, .im rI (cc : Int)] k :=
  ⟨m, u, cc, 144, 3600, rfl, g, by rw [e]; exact tc, u1, by omega, by rw [e]; exact fc, by decide, by decide, (pow_ok h u4 hc).1, (pow_ok h u4 hc).2, by rw [e]; exact hk⟩
section
variable {G : Gm} {C fI g cd P : Addr} {fd : FuncData} {X : Cx} {n : Nat} {ns : List Int} {pb : Addr} {bg : Bag} {x2 x3 x4 x5 x6 x7 x8 x9 x10 x11 x12 x13 x14 x15 x16 x17 x18 x19 x20 : Kd} {t u w : Nat} {A Bm Cm : List (List Rat)} {m1 m2 m3 : Mat} {d1 d2 d3 : PyData}
/-- kept, due = repr([p, q, r]), _law_product(a, b) -/
theorem t3 (Fs : LF G C) (hX : XF G X lawN lawS 11) (hgd : X.A.guards = some []) (h1 : DB 133 3 d1) (h2 : DB 133 3 d2) (h3 : DB 133 3 d3) (tf : TF t u w A Bm Cm m1 m2 m3) : S1 X (stB 3) [.im (rSc G.K) ns, .ow pb (cBag G.K) bg, x2, .im rI (t : Int), .im rI (u : Int), .im rI (w : Int), .im (rL G.K (rT G.K (rQ G.K))) A, .im (rL G.K (rT G.K (rQ G.K))) Bm, .im (rL G.K (rT G.K (rQ G.K))) Cm, .im (rBoth (rMat G.K) (rU G.K)) (m1, d1), .im (rBoth (rMat G.K) (rU G.K)) (m2, d2), .im (rBoth (rMat G.K) (rU G.K)) (m3, d3), x12, x13, x14, x15, x16, x17, x18, x19, x20] { nx := fun τ => ∃ pd, τ = [.im (rSc G.K) ns, .ow pb (cBag G.K) bg, x2, .im rI (t : Int), .im rI (u : Int), .im rI (w : Int), .im (rL G.K (rT G.K (rQ G.K))) A, .im (rL G.K (rT G.K (rQ G.K))) Bm, .im (rL G.K (rT G.K (rQ G.K))) Cm, .im (rBoth (rMat G.K) (rU G.K)) (m1, d1), .im (rBoth (rMat G.K) (rU G.K)) (m2, d2), .im (rBoth (rMat G.K) (rU G.K)) (m3, d3), .im rS (PyData.list [d1, d2, d3]).shown, .ow pd (cL (rT G.K (rQ G.K))) (prodM A Bm), x14, x15, x16, x17, x18, x19, x20], rt := fun _ _ => False } := by
  obtain ⟨a1, a2, a3, a4⟩ := tri_db h1 h2 h3
  refine S1_par (i := 12) (j := 13) hX rfl rfl (by decide) rfl rfl rfl ?_
  refine E_repr hX hgd rfl Fs.repr rfl ?_
  refine E_lst rfl (A := rU G.K) ?_
  refine E_name (i := 9) hX rfl (.inr (.inl rfl)) rfl ?_  -- p
  refine ⟨_, .cv (fun R v h => h.2), ?_⟩
  refine E_name (i := 10) hX rfl (.inr (.inl rfl)) rfl ?_  -- q
  refine ⟨_, .cv (fun R v h => h.2), ?_⟩
  refine E_name (i := 11) hX rfl (.inr (.inl rfl)) rfl ?_  -- r
  refine ⟨_, .cv (fun R v h => h.2), ?_⟩
  refine ⟨by simp, [d1, d2, d3], rfl, fun pl => ?_⟩
  refine ⟨[d1, d2, d3], .ov (frz_L (K := G.K)) fz_list, a1, a2, a3, a4, ?_⟩
  refine E_call hX Fs.prodL (by omega) rfl rfl ?_
  refine A_cons rfl ?_
  refine P_name (i := 6) hX rfl (.inl rfl) rfl (by intro z; cases z) ?_  -- a
  refine A_cons rfl ?_
  refine P_name (i := 7) hX rfl (.inl rfl) rfl (by intro z; cases z) ?_  -- b
  refine A_nil ?_
  exact ⟨[_, _], ⟨rfl, rfl, trivial⟩, trivial, cProdL_mk tf.ta tf.tb tf.u1 tf.t4 tf.u4 tf.w4 tf.fa tf.fb fun pd => ⟨_, _, rfl, pd, rfl⟩⟩
/-- told = times(p, q) -/
theorem t4 (Fs : LF G C) (hX : XF G X lawN lawS 11) (tf : TF t u w A Bm Cm m1 m2 m3) : S1 X (stB 4) [.im (rSc G.K) ns, .ow pb (cBag G.K) bg, x2, .im rI (t : Int), .im rI (u : Int), .im rI (w : Int), .im (rL G.K (rT G.K (rQ G.K))) A, .im (rL G.K (rT G.K (rQ G.K))) Bm, .im (rL G.K (rT G.K (rQ G.K))) Cm, .im (rBoth (rMat G.K) (rU G.K)) (m1, d1), .im (rBoth (rMat G.K) (rU G.K)) (m2, d2), .im (rBoth (rMat G.K) (rU G.K)) (m3, d3), .im rS (PyData.list [d1, d2, d3]).shown, .im (rL G.K (rT G.K (rQ G.K))) (prodM A Bm), x14, x15, x16, x17, x18, x19, x20] { nx := fun τ => ∃ pt, τ = [.im (rSc G.K) ns, .ow pb (cBag G.K) bg, x2, .im rI (t : Int), .im rI (u : Int), .im rI (w : Int), .im (rL G.K (rT G.K (rQ G.K))) A, .im (rL G.K (rT G.K (rQ G.K))) Bm, .im (rL G.K (rT G.K (rQ G.K))) Cm, .im (rBoth (rMat G.K) (rU G.K)) (m1, d1), .im (rBoth (rMat G.K) (rU G.K)) (m2, d2), .im (rBoth (rMat G.K) (rU G.K)) (m3, d3), .im rS (PyData.list [d1, d2, d3]).shown, .im (rL G.K (rT G.K (rQ G.K))) (prodM A Bm), .ow pt (cL (rT G.K (rQ G.K))) (prodM A Bm), x15, x16, x17, x18, x19, x20], rt := fun _ _ => False } := by
  refine S1_set (i := 14) hX rfl rfl ?_  -- told
  refine E_call hX Fs.times (by omega) rfl rfl ?_
  refine A_cons rfl ?_
  refine P_val ?_
  refine E_name (i := 9) hX rfl (.inr (.inl rfl)) rfl ?_  -- p
  refine ⟨_, rMat G.K, m1, .cv (fun R v h => h.1), ?_⟩
  refine A_cons rfl ?_
  refine P_val ?_
  refine E_name (i := 10) hX rfl (.inr (.inl rfl)) rfl ?_  -- q
  refine ⟨_, rMat G.K, m2, .cv (fun R v h => h.1), ?_⟩
  refine A_nil ?_
  refine ⟨[_, _], ⟨rfl, rfl, trivial⟩, trivial, cTimes_mk tf.e1 tf.e2 tf.g1.1 tf.g2.1 tf.ta tf.tb tf.t1 tf.u1 tf.t4 tf.u4 tf.w4 tf.fa tf.fb fun pt => ?_⟩
  exact ⟨pt, rfl⟩
/-- if not _law_like([told, times(other=q, one=p), times(p, r)], ..) -/
theorem t5 {pt : Addr} (Fs : LF G C) (hX : XF G X lawN lawS 11) (tf : TF t u w A Bm Cm m1 m2 m3) : S1 X (stB 5) [.im (rSc G.K) ns, .ow pb (cBag G.K) bg, x2, .im rI (t : Int), .im rI (u : Int), .im rI (w : Int), .im (rL G.K (rT G.K (rQ G.K))) A, .im (rL G.K (rT G.K (rQ G.K))) Bm, .im (rL G.K (rT G.K (rQ G.K))) Cm, .im (rBoth (rMat G.K) (rU G.K)) (m1, d1), .im (rBoth (rMat G.K) (rU G.K)) (m2, d2), .im (rBoth (rMat G.K) (rU G.K)) (m3, d3), .im rS (PyData.list [d1, d2, d3]).shown, .im (rL G.K (rT G.K (rQ G.K))) (prodM A Bm), .ow pt (cL (rT G.K (rQ G.K))) (prodM A Bm), x15, x16, x17, x18, x19, x20] { nx := fun τ => τ = [.im (rSc G.K) ns, .ow pb (cBag G.K) bg, x2, .im rI (t : Int), .im rI (u : Int), .im rI (w : Int), .im (rL G.K (rT G.K (rQ G.K))) A, .im (rL G.K (rT G.K (rQ G.K))) Bm, .im (rL G.K (rT G.K (rQ G.K))) Cm, .im (rBoth (rMat G.K) (rU G.K)) (m1, d1), .im (rBoth (rMat G.K) (rU G.K)) (m2, d2), .im (rBoth (rMat G.K) (rU G.K)) (m3, d3), .im rS (PyData.list [d1, d2, d3]).shown, .im (rL G.K (rT G.K (rQ G.K))) (prodM A Bm), .ow pt (cL (rT G.K (rQ G.K))) (prodM A Bm), x15, x16, x17, x18, x19, x20], rt := fun _ _ => False } := by
  refine S1_if ?_
  refine C_peek (τp := [.im (rSc G.K) ns, .no, .no, .im rI (t : Int), .im rI (u : Int), .im rI (w : Int), .im (rL G.K (rT G.K (rQ G.K))) A, .im (rL G.K (rT G.K (rQ G.K))) Bm, .im (rL G.K (rT G.K (rQ G.K))) Cm, .im (rBoth (rMat G.K) (rU G.K)) (m1, d1), .im (rBoth (rMat G.K) (rU G.K)) (m2, d2), .im (rBoth (rMat G.K) (rU G.K)) (m3, d3), .im rS (PyData.list [d1, d2, d3]).shown, .im (rL G.K (rT G.K (rQ G.K))) (prodM A Bm), .im (rL G.K (rT G.K (rQ G.K))) (prodM A Bm), .no, .no, .no, .no, .no, .no]) ⟨.inr (.im _ _), .inl rfl, .inl rfl, .inr (.im _ _), .inr (.im _ _), .inr (.im _ _), .inr (.im _ _), .inr (.im _ _), .inr (.im _ _), .inr (.im _ _), .inr (.im _ _), .inr (.im _ _), .inr (.im _ _), .inr (.im _ _), .inr (.ow (frz_L (K := G.K))), .inl rfl, .inl rfl, .inl rfl, .inl rfl, .inl rfl, .inl rfl, trivial⟩ ?_
  refine C_not ?_
  refine C_val ?_
  refine E_call hX (Fs.like 4) (by omega) rfl rfl ?_
  refine A_cons rfl ?_
  refine P_val ?_
  refine E_lst rfl (A := rU G.K) ?_
  refine E_name (i := 14) hX rfl (.inl rfl) rfl ?_  -- told
  refine ⟨_, .cv (fz_rows (K := G.K)), ?_⟩
  refine E_callK true hX Fs.times Fs.ktimes (by omega) rfl ?_
  refine AK_two ?_
  refine P_val ?_
  refine E_name (i := 10) hX rfl (.inr (.inl rfl)) rfl ?_  -- q
  refine ⟨_, rMat G.K, m2, .cv (fun R v h => h.1), ?_⟩
  refine P_val ?_
  refine E_name (i := 9) hX rfl (.inr (.inl rfl)) rfl ?_  -- p
  refine ⟨_, rMat G.K, m1, .cv (fun R v h => h.1), ?_⟩
  refine ⟨[_, _], ⟨rfl, rfl, trivial⟩, trivial, cTimes_mk tf.e1 tf.e2 tf.g1.1 tf.g2.1 tf.ta tf.tb tf.t1 tf.u1 tf.t4 tf.u4 tf.w4 tf.fa tf.fb fun pt2 => ?_⟩
  refine ⟨_, .ov (frz_L (K := G.K)) (fz_rows (K := G.K)), ?_⟩
  refine E_call hX Fs.times (by omega) rfl rfl ?_
  refine A_cons rfl ?_
  refine P_val ?_
  refine E_name (i := 9) hX rfl (.inr (.inl rfl)) rfl ?_  -- p
  refine ⟨_, rMat G.K, m1, .cv (fun R v h => h.1), ?_⟩
  refine A_cons rfl ?_
  refine P_val ?_
  refine E_name (i := 11) hX rfl (.inr (.inl rfl)) rfl ?_  -- r
  refine ⟨_, rMat G.K, m3, .cv (fun R v h => h.1), ?_⟩
  refine A_nil ?_
  refine ⟨[_, _], ⟨rfl, rfl, trivial⟩, trivial, cTimes_mk tf.e1 tf.e3 tf.g1.1 tf.g3.1 tf.ta tf.tc tf.t1 tf.u1 tf.t4 tf.u4 tf.u4 tf.fa tf.fc fun pt3 => ?_⟩
  refine ⟨_, .ov (frz_L (K := G.K)) (fz_rows (K := G.K)), ?_⟩
  refine ⟨by simp, [rowsD (prodM A Bm), rowsD (prodM A Bm), rowsD (prodM A Cm)], rfl, fun pl => ?_⟩
  refine ⟨_, rU G.K, _, .ov (frz_L (K := G.K)) fz_list, ?_⟩
  refine A_cons rfl ?_
  refine P_val ?_
  refine E_lst rfl (A := rU G.K) ?_
  refine E_name (i := 13) hX rfl (.inl rfl) rfl ?_  -- due
  refine ⟨_, .cv (fz_rows (K := G.K)), ?_⟩
  refine E_name (i := 13) hX rfl (.inl rfl) rfl ?_  -- due
  refine ⟨_, .cv (fz_rows (K := G.K)), ?_⟩
  refine E_call hX Fs.prodL (by omega) rfl rfl ?_
  refine A_cons rfl ?_
  refine P_name (i := 6) hX rfl (.inl rfl) rfl (by intro z; cases z) ?_  -- a
  refine A_cons rfl ?_
  refine P_name (i := 8) hX rfl (.inl rfl) rfl (by intro z; cases z) ?_  -- c
  refine A_nil ?_
  refine ⟨[_, _], ⟨rfl, rfl, trivial⟩, trivial, cProdL_mk tf.ta tf.tc tf.u1 tf.t4 tf.u4 tf.u4 tf.fa tf.fc fun pd => ?_⟩
  refine ⟨_, .ov (frz_L (K := G.K)) (fz_rows (K := G.K)), ?_⟩
  refine ⟨by simp, [rowsD (prodM A Bm), rowsD (prodM A Bm), rowsD (prodM A Cm)], rfl, fun pl2 => ?_⟩
  refine ⟨_, rU G.K, _, .ov (frz_L (K := G.K)) fz_list, ?_⟩
  refine A_nil ?_
  refine ⟨[_, _], ⟨rfl, rfl, trivial⟩, trivial, .list [rowsD (prodM A Bm), rowsD (prodM A Bm), rowsD (prodM A Cm)], rfl, ⟨by simp, fun x hx => ?_⟩, ?_⟩
  · simp only [List.mem_cons, List.not_mem_nil, or_false] at hx
    rcases hx with z | z | z <;> subst z
    · exact sd_tab (prodM_tab tf.ta tf.tb tf.u1) (by have := tf.t4; omega) (by have := tf.w4; omega)
    · exact sd_tab (prodM_tab tf.ta tf.tb tf.u1) (by have := tf.t4; omega) (by have := tf.w4; omega)
    · exact sd_tab (prodM_tab tf.ta tf.tc tf.u1) (by have := tf.t4; omega) (by have := tf.u4; omega)
  refine ⟨_, .im _ _, ?_⟩
  exact ⟨fun hc => (by cases hc), fun _ => S_nil rfl⟩
/-- told[0] = () -/
theorem t6 {pt : Addr} (hX : XF G X lawN lawS 11) (tf : TF t u w A Bm Cm m1 m2 m3) : S1 X (stB 6) [.im (rSc G.K) ns, .ow pb (cBag G.K) bg, x2, .im rI (t : Int), .im rI (u : Int), .im rI (w : Int), .im (rL G.K (rT G.K (rQ G.K))) A, .im (rL G.K (rT G.K (rQ G.K))) Bm, .im (rL G.K (rT G.K (rQ G.K))) Cm, .im (rBoth (rMat G.K) (rU G.K)) (m1, d1), .im (rBoth (rMat G.K) (rU G.K)) (m2, d2), .im (rBoth (rMat G.K) (rU G.K)) (m3, d3), .im rS (PyData.list [d1, d2, d3]).shown, .im (rL G.K (rT G.K (rQ G.K))) (prodM A Bm), .ow pt (cL (rT G.K (rQ G.K))) (prodM A Bm), x15, x16, x17, x18, x19, x20] { nx := fun τ => ∃ l, τ = [.im (rSc G.K) ns, .ow pb (cBag G.K) bg, x2, .im rI (t : Int), .im rI (u : Int), .im rI (w : Int), .im (rL G.K (rT G.K (rQ G.K))) A, .im (rL G.K (rT G.K (rQ G.K))) Bm, .im (rL G.K (rT G.K (rQ G.K))) Cm, .im (rBoth (rMat G.K) (rU G.K)) (m1, d1), .im (rBoth (rMat G.K) (rU G.K)) (m2, d2), .im (rBoth (rMat G.K) (rU G.K)) (m3, d3), .im rS (PyData.list [d1, d2, d3]).shown, .im (rL G.K (rT G.K (rQ G.K))) (prodM A Bm), .ow pt (cL (rT G.K (rQ G.K))) l, x15, x16, x17, x18, x19, x20], rt := fun _ _ => False } := by
  have hl : 0 < (prodM A Bm).length := by rw [(prodM_tab tf.ta tf.tb tf.u1).tall]; exact tf.t1
  refine S1_setL (j := 14) (A := rT G.K (rQ G.K)) (q := pt) hX rfl (.inl rfl) ?_
  refine E_tup hX rfl (by decide) ?_
  refine ⟨by simp, _, rT G.K (rQ G.K), [], tup_T, ?_⟩
  refine ⟨_, .im _ _, _, rfl, ?_⟩
  refine E_int ?_
  refine ⟨0, .im _ _, _, 0, rfl, ?_, _, rfl⟩
  unfold ixN
  rw [if_pos (by omega), if_pos (by omega)]
  rfl
/-- if not _law_like([times(p, q), turned(p), turned(rows=turned(p))], ..) -/
theorem t7 (Fs : LF G C) (hX : XF G X lawN lawS 11) (tf : TF t u w A Bm Cm m1 m2 m3) : S1 X (stB 7) [.im (rSc G.K) ns, .ow pb (cBag G.K) bg, x2, .im rI (t : Int), .im rI (u : Int), .im rI (w : Int), .im (rL G.K (rT G.K (rQ G.K))) A, .im (rL G.K (rT G.K (rQ G.K))) Bm, .im (rL G.K (rT G.K (rQ G.K))) Cm, .im (rBoth (rMat G.K) (rU G.K)) (m1, d1), .im (rBoth (rMat G.K) (rU G.K)) (m2, d2), .im (rBoth (rMat G.K) (rU G.K)) (m3, d3), .im rS (PyData.list [d1, d2, d3]).shown, .im (rL G.K (rT G.K (rQ G.K))) (prodM A Bm), x14, x15, x16, x17, x18, x19, x20] { nx := fun τ => τ = [.im (rSc G.K) ns, .ow pb (cBag G.K) bg, x2, .im rI (t : Int), .im rI (u : Int), .im rI (w : Int), .im (rL G.K (rT G.K (rQ G.K))) A, .im (rL G.K (rT G.K (rQ G.K))) Bm, .im (rL G.K (rT G.K (rQ G.K))) Cm, .im (rBoth (rMat G.K) (rU G.K)) (m1, d1), .im (rBoth (rMat G.K) (rU G.K)) (m2, d2), .im (rBoth (rMat G.K) (rU G.K)) (m3, d3), .im rS (PyData.list [d1, d2, d3]).shown, .im (rL G.K (rT G.K (rQ G.K))) (prodM A Bm), x14, x15, x16, x17, x18, x19, x20], rt := fun _ _ => False } := by
  refine S1_if ?_
  refine C_not ?_
  refine C_val ?_
  refine E_call hX (Fs.like 4) (by omega) rfl rfl ?_
  refine A_cons rfl ?_
  refine P_val ?_
  refine E_lst rfl (A := rU G.K) ?_
  refine E_call hX Fs.times (by omega) rfl rfl ?_
  refine A_cons rfl ?_
  refine P_val ?_
  refine E_name (i := 9) hX rfl (.inr (.inl rfl)) rfl ?_  -- p
  refine ⟨_, rMat G.K, m1, .cv (fun R v h => h.1), ?_⟩
  refine A_cons rfl ?_
  refine P_val ?_
  refine E_name (i := 10) hX rfl (.inr (.inl rfl)) rfl ?_  -- q
  refine ⟨_, rMat G.K, m2, .cv (fun R v h => h.1), ?_⟩
  refine A_nil ?_
  refine ⟨[_, _], ⟨rfl, rfl, trivial⟩, trivial, cTimes_mk tf.e1 tf.e2 tf.g1.1 tf.g2.1 tf.ta tf.tb tf.t1 tf.u1 tf.t4 tf.u4 tf.w4 tf.fa tf.fb fun pt => ?_⟩
  refine ⟨_, .ov (frz_L (K := G.K)) (fz_rows (K := G.K)), ?_⟩
  refine E_call hX Fs.turned (by omega) rfl rfl ?_
  refine A_cons rfl ?_
  refine P_val ?_
  refine E_name (i := 9) hX rfl (.inr (.inl rfl)) rfl ?_  -- p
  refine ⟨_, rMat G.K, m1, .cv (fun R v h => h.1), ?_⟩
  refine A_nil ?_
  refine ⟨[_], ⟨rfl, trivial⟩, trivial, m1, t, u, rfl, tf.g1.1, by rw [tf.e1]; exact tf.ta, tf.t1, by have := tf.t4; omega, by have := tf.u4; omega, fun p7 => ?_⟩
  rw [tf.e1]
  refine ⟨_, .ov (frz_L (K := G.K)) (fz_rows (K := G.K)), ?_⟩
  refine E_callK false hX Fs.turned Fs.kturned (by omega) rfl ?_
  refine AK_one ?_
  refine P_val ?_
  refine E_call hX Fs.turned (by omega) rfl rfl ?_
  refine A_cons rfl ?_
  refine P_val ?_
  refine E_name (i := 9) hX rfl (.inr (.inl rfl)) rfl ?_  -- p
  refine ⟨_, rMat G.K, m1, .cv (fun R v h => h.1), ?_⟩
  refine A_nil ?_
  refine ⟨[_], ⟨rfl, trivial⟩, trivial, m1, t, u, rfl, tf.g1.1, by rw [tf.e1]; exact tf.ta, tf.t1, by have := tf.t4; omega, by have := tf.u4; omega, fun p8 => ?_⟩
  rw [tf.e1]
  refine ⟨_, rMat G.K, (colsM u A).map gvRow, .ov (frz_L (K := G.K)) fz_gvs, ?_⟩
  refine ⟨[_], ⟨rfl, trivial⟩, trivial, (colsM u A).map gvRow, u, t, rfl, giv_gv (colsM_tab tf.ta) tf.u1 tf.u4 tf.t4 (colsM_fr tf.fa), by rw [gv_rows]; exact colsM_tab tf.ta, tf.u1, by have := tf.u4; omega, by have := tf.t4; omega, fun p9 => ?_⟩
  rw [gv_rows, cols_cols tf.ta]
  refine ⟨_, .ov (frz_L (K := G.K)) (fz_rows (K := G.K)), ?_⟩
  refine ⟨by simp, [rowsD (prodM A Bm), rowsD (colsM u A), rowsD A], rfl, fun pl => ?_⟩
  refine ⟨_, rU G.K, _, .ov (frz_L (K := G.K)) fz_list, ?_⟩
  refine A_cons rfl ?_
  refine P_val ?_
  refine E_lst rfl (A := rU G.K) ?_
  refine E_name (i := 13) hX rfl (.inl rfl) rfl ?_  -- due
  refine ⟨_, .cv (fz_rows (K := G.K)), ?_⟩
  refine E_call hX Fs.colsL (by omega) rfl rfl ?_
  refine A_cons rfl ?_
  refine P_name (i := 6) hX rfl (.inl rfl) rfl (by intro z; cases z) ?_  -- a
  refine A_cons rfl ?_
  refine P_name (i := 4) hX rfl (.inr (.inl rfl)) rfl (by intro z; cases z) ?_  -- mid
  refine A_nil ?_
  refine ⟨[_, _], ⟨rfl, rfl, trivial⟩, trivial, A, t, u, rfl, tf.ta, by have := tf.t4; omega, by have := tf.u4; omega, fun pc => ?_⟩
  refine ⟨_, .ov (frz_L (K := G.K)) (fz_rows (K := G.K)), ?_⟩
  refine E_name (i := 6) hX rfl (.inl rfl) rfl ?_  -- a
  refine ⟨_, .cv (fz_rows (K := G.K)), ?_⟩
  refine ⟨by simp, [rowsD (prodM A Bm), rowsD (colsM u A), rowsD A], rfl, fun pl2 => ?_⟩
  refine ⟨_, rU G.K, _, .ov (frz_L (K := G.K)) fz_list, ?_⟩
  refine A_nil ?_
  refine ⟨[_, _], ⟨rfl, rfl, trivial⟩, trivial, .list [rowsD (prodM A Bm), rowsD (colsM u A), rowsD A], rfl, ⟨by simp, fun x hx => ?_⟩, ?_⟩
  · simp only [List.mem_cons, List.not_mem_nil, or_false] at hx
    rcases hx with z | z | z <;> subst z
    · exact sd_tab (prodM_tab tf.ta tf.tb tf.u1) (by have := tf.t4; omega) (by have := tf.w4; omega)
    · exact sd_tab (colsM_tab tf.ta) (by have := tf.u4; omega) (by have := tf.t4; omega)
    · exact sd_tab tf.ta (by have := tf.t4; omega) (by have := tf.u4; omega)
  refine ⟨_, .im _ _, ?_⟩
  exact ⟨fun hc => (by cases hc), fun _ => S_nil rfl⟩
/-- many, due = .. -/
theorem t8 (Fs : LF G C) (hX : XF G X lawN lawS 11) (hfn : ∀ x, X.fn x = true) (tf : TF t u w A Bm Cm m1 m2 m3) (hb : Bg n bg) (hn : n < 2 ^ 29) : S1 X (stB 8) [.im (rSc G.K) ns, .ow pb (cBag G.K) bg, x2, .im rI (t : Int), .im rI (u : Int), .im rI (w : Int), .im (rL G.K (rT G.K (rQ G.K))) A, .im (rL G.K (rT G.K (rQ G.K))) Bm, .im (rL G.K (rT G.K (rQ G.K))) Cm, .im (rBoth (rMat G.K) (rU G.K)) (m1, d1), .im (rBoth (rMat G.K) (rU G.K)) (m2, d2), .im (rBoth (rMat G.K) (rU G.K)) (m3, d3), .im rS (PyData.list [d1, d2, d3]).shown, x13, x14, x15, x16, x17, x18, x19, x20] { nx := fun τ => ∃ (kk : Nat) (bg : Bag) (pd : Addr), PowOk u kk ∧ Bg (n + 1) bg ∧ τ = [.im (rSc G.K) ns, .ow pb (cBag G.K) bg, x2, .im rI (t : Int), .im rI (u : Int), .im rI (w : Int), .im (rL G.K (rT G.K (rQ G.K))) A, .im (rL G.K (rT G.K (rQ G.K))) Bm, .im (rL G.K (rT G.K (rQ G.K))) Cm, .im (rBoth (rMat G.K) (rU G.K)) (m1, d1), .im (rBoth (rMat G.K) (rU G.K)) (m2, d2), .im (rBoth (rMat G.K) (rU G.K)) (m3, d3), .im rS (PyData.list [d1, d2, d3]).shown, .ow pd (cL (rT G.K (rQ G.K))) (unitM u), x14, .im rI (kk : Int), x16, x17, x18, x19, x20], rt := fun _ _ => False } := by
  have u4 := tf.u4
  refine S1_parG (i := 15) (j := 13) hX (pgnC hX hfn rfl rfl) (pgn hX rfl rfl) rfl ?_ rfl
  refine E_call hX Fs.of (by omega) rfl rfl ?_
  refine A_cons rfl ?_
  refine P_name (i := 1) hX rfl (.inr (.inl rfl)) rfl (by intro z; cases z) ?_  -- bag
  refine A_cons rfl ?_
  refine P_val ?_
  refine E_lst rfl (A := rI) ?_
  refine E_int ?_
  refine ⟨_, .im _ _, ?_⟩
  refine E_int ?_
  refine ⟨_, .im _ _, ?_⟩
  refine E_int ?_
  refine ⟨_, .im _ _, ?_⟩
  refine E_int ?_
  refine ⟨_, .im _ _, ?_⟩
  refine E_int ?_
  refine ⟨_, .im _ _, ?_⟩
  refine E_int ?_
  refine ⟨_, .im _ _, ?_⟩
  refine E_int ?_
  refine ⟨_, .im _ _, ?_⟩
  refine E_via (fun x τ => x = .im rI (if u < 3 then 40 else 8) ∧ τ = [.im (rSc G.K) ns, .ow pb (cBag G.K) bg, x2, .im rI (t : Int), .im rI (u : Int), .im rI (w : Int), .im (rL G.K (rT G.K (rQ G.K))) A, .im (rL G.K (rT G.K (rQ G.K))) Bm, .im (rL G.K (rT G.K (rQ G.K))) Cm, .im (rBoth (rMat G.K) (rU G.K)) (m1, d1), .im (rBoth (rMat G.K) (rU G.K)) (m2, d2), .im (rBoth (rMat G.K) (rU G.K)) (m3, d3), .im rS (PyData.list [d1, d2, d3]).shown, x13, x14, x15, x16, x17, x18, x19, x20]) ?_ ?_
  · refine E_if ?_
    refine C_lt ?_
    refine E_name (i := 4) hX rfl (.inr (.inl rfl)) rfl ?_  -- mid
    refine ⟨_, .im _ _, ?_⟩
    refine E_int ?_
    refine ⟨_, .im _ _, ?_⟩
    refine ⟨fun hc => ?_, fun hc => ?_⟩
    · have hu : u < 3 := by have := of_decide_eq_true hc; omega
      refine E_int ?_
      rw [if_pos hu]
      exact ⟨rfl, rfl⟩
    · have hu : ¬ u < 3 := by have := of_decide_eq_false hc; omega
      refine E_int ?_
      rw [if_neg hu]
      exact ⟨rfl, rfl⟩
  rintro x τ ⟨ex, eτ⟩
  subst ex
  subst eτ
  refine ⟨_, .im _ _, ?_⟩
  refine ⟨by simp, [2, 1, 0, 3, 6, 5, 4, if u < 3 then 40 else 8], rfl, fun r => ?_⟩
  refine ⟨_, _, _, .ow (frz_L (K := G.K)), ?_⟩
  refine A_nil ?_
  refine ⟨[_, _], ⟨rfl, rfl, trivial⟩, trivial, Int, rI, _, pb, bg, n, rfl, hb, by omega, by simp, by simp, fun y hy b1 hb1 => ?_⟩
  have hy2 : 0 ≤ y ∧ (y ≤ 8 ∨ (y ≤ 40 ∧ u < 3)) := by
    simp only [List.mem_cons, List.not_mem_nil, or_false] at hy
    rcases hy with z | z | z | z | z | z | z | z
    all_goals omega
  refine E_call hX Fs.unitL (by omega) rfl rfl ?_
  refine A_cons rfl ?_
  refine P_name (i := 4) hX rfl (.inr (.inl rfl)) rfl (by intro z; cases z) ?_  -- mid
  refine A_nil ?_
  refine ⟨[_], ⟨rfl, trivial⟩, trivial, u, rfl, by omega, fun pd => ?_⟩
  refine ⟨_, _, rfl, y.toNat, b1, pd, ?_, hb1, ?_⟩
  · rcases hy2.2 with z | z
    · exact .inl (by omega)
    · exact .inr ⟨by omega, z.2⟩
  rw [show ((y.toNat : Nat) : Int) = y by omega]
  rfl
/-- for k in range(many): due = _law_product(due, c) -/
theorem t9 {kk : Nat} (Fs : LF G C) (hX : XF G X lawN lawS 11) (hp : PassesOwn (model X.prog X.w) X.A X.env X.xe) (tf : TF t u w A Bm Cm m1 m2 m3) (hk : PowOk u kk) : S1 X (stB 9) [.im (rSc G.K) ns, .ow pb (cBag G.K) bg, x2, .im rI (t : Int), .im rI (u : Int), .im rI (w : Int), .im (rL G.K (rT G.K (rQ G.K))) A, .im (rL G.K (rT G.K (rQ G.K))) Bm, .im (rL G.K (rT G.K (rQ G.K))) Cm, .im (rBoth (rMat G.K) (rU G.K)) (m1, d1), .im (rBoth (rMat G.K) (rU G.K)) (m2, d2), .im (rBoth (rMat G.K) (rU G.K)) (m3, d3), .im rS (PyData.list [d1, d2, d3]).shown, .im (rL G.K (rT G.K (rQ G.K))) (unitM u), x14, .im rI (kk : Int), x16, x17, x18, x19, x20] { nx := fun τ => ∃ x13 x16, Hd G.K (powM u Cm kk) x13 ∧ τ = [.im (rSc G.K) ns, .ow pb (cBag G.K) bg, x2, .im rI (t : Int), .im rI (u : Int), .im rI (w : Int), .im (rL G.K (rT G.K (rQ G.K))) A, .im (rL G.K (rT G.K (rQ G.K))) Bm, .im (rL G.K (rT G.K (rQ G.K))) Cm, .im (rBoth (rMat G.K) (rU G.K)) (m1, d1), .im (rBoth (rMat G.K) (rU G.K)) (m2, d2), .im (rBoth (rMat G.K) (rU G.K)) (m3, d3), .im rS (PyData.list [d1, d2, d3]).shown, x13, x14, .im rI (kk : Int), x16, x17, x18, x19, x20], rt := fun _ _ => False } := by
  have u4 := tf.u4
  have u1 := tf.u1
  have k40 : kk ≤ 40 := by rcases hk with h | h <;> omega
  refine S1_for hX hp ?_
  refine I_rng1 hX rfl Fs.B.range rfl ?_
  refine E_name (i := 15) hX rfl (.inr (.inl rfl)) rfl ?_  -- many
  refine ⟨_, .im _ _, by omega, by omega, ?_⟩
  refine ⟨fun i τ => ∃ x13 x16, Hd G.K (powM u Cm i) x13 ∧ τ = [.im (rSc G.K) ns, .ow pb (cBag G.K) bg, x2, .im rI (t : Int), .im rI (u : Int), .im rI (w : Int), .im (rL G.K (rT G.K (rQ G.K))) A, .im (rL G.K (rT G.K (rQ G.K))) Bm, .im (rL G.K (rT G.K (rQ G.K))) Cm, .im (rBoth (rMat G.K) (rU G.K)) (m1, d1), .im (rBoth (rMat G.K) (rU G.K)) (m2, d2), .im (rBoth (rMat G.K) (rU G.K)) (m3, d3), .im rS (PyData.list [d1, d2, d3]).shown, x13, x14, .im rI (kk : Int), x16, x17, x18, x19, x20], ⟨_, _, .inl rfl, rfl⟩, fun i y τ hy hI => ?_, fun τ hI => ?_⟩
  · obtain ⟨z13, z16, hz, hτ⟩ := hI
    subst hτ
    obtain ⟨hi, ey⟩ := rngK0_get hy
    subst ey
    have hi : i < kk := by omega
    refine T_name (i := 16) hX rfl rfl ?_  -- k
    refine S_hd (i := 13) rfl hz ?_
    refine S_one ?_
    refine S1_set (i := 13) hX rfl rfl ?_  -- due
    refine E_call hX Fs.prodL (by omega) rfl rfl ?_
    refine A_cons rfl ?_
    refine P_name (i := 13) hX rfl (.inl rfl) rfl (by intro z; cases z) ?_  -- due
    refine A_cons rfl ?_
    refine P_name (i := 8) hX rfl (.inl rfl) rfl (by intro z; cases z) ?_  -- c
    refine A_nil ?_
    have o1 := pow_ok hk u4 (show i + 1 ≤ kk by omega)
    have o0 := pow_ok hk u4 (show i ≤ kk by omega)
    have e1 : u * ((u * 3600) ^ i * 3600) = (u * 3600) ^ (i + 1) := by rw [Nat.pow_succ, Nat.mul_left_comm]
    have e2 : (u * 3600) ^ i * 3600 ≤ u * ((u * 3600) ^ i * 3600) := Nat.le_mul_of_pos_left _ u1
    refine ⟨[_, _], ⟨rfl, rfl, trivial⟩, trivial, _, _, u, u, u, 144 ^ i, 144, (u * 3600) ^ i, 3600, rfl, powM_tab tf.tc u1 i, tf.tc, u1, by omega, by omega, by omega, powM_fr tf.tc u1 tf.fc i, tf.fc, Nat.pos_iff_ne_zero.mp (Nat.pow_pos (by decide)), by decide, ?_, o0.2, small50 (by decide), ?_, ?_, fun pd => ?_⟩
    · rw [← Nat.pow_succ]; exact o1.1
    · rw [e1]; exact o1.2
    · rw [e1] at e2; exact Nat.lt_of_le_of_lt e2 o1.2
    exact ⟨_, _, .inr ⟨pd, rfl⟩, rfl⟩
  · obtain ⟨z13, z16, hz, hτ⟩ := hI
    have e : (rngK 0 ((kk : Int).toNat)).length = kk := by simp [rngK]
    rw [e] at hz
    exact ⟨z13, z16, hz, hτ⟩
/-- if not _law_like([power(r, many), power(count=0, rows=r), power(r, 1)], ..) -/
theorem t10 {kk : Nat} (Fs : LF G C) (hX : XF G X lawN lawS 11) (tf : TF t u w A Bm Cm m1 m2 m3) (hk : PowOk u kk) : S1 X (stB 10) [.im (rSc G.K) ns, .ow pb (cBag G.K) bg, x2, .im rI (t : Int), .im rI (u : Int), .im rI (w : Int), .im (rL G.K (rT G.K (rQ G.K))) A, .im (rL G.K (rT G.K (rQ G.K))) Bm, .im (rL G.K (rT G.K (rQ G.K))) Cm, .im (rBoth (rMat G.K) (rU G.K)) (m1, d1), .im (rBoth (rMat G.K) (rU G.K)) (m2, d2), .im (rBoth (rMat G.K) (rU G.K)) (m3, d3), .im rS (PyData.list [d1, d2, d3]).shown, .im (rL G.K (rT G.K (rQ G.K))) (powM u Cm kk), x14, .im rI (kk : Int), x16, x17, x18, x19, x20] { nx := fun τ => τ = [.im (rSc G.K) ns, .ow pb (cBag G.K) bg, x2, .im rI (t : Int), .im rI (u : Int), .im rI (w : Int), .im (rL G.K (rT G.K (rQ G.K))) A, .im (rL G.K (rT G.K (rQ G.K))) Bm, .im (rL G.K (rT G.K (rQ G.K))) Cm, .im (rBoth (rMat G.K) (rU G.K)) (m1, d1), .im (rBoth (rMat G.K) (rU G.K)) (m2, d2), .im (rBoth (rMat G.K) (rU G.K)) (m3, d3), .im rS (PyData.list [d1, d2, d3]).shown, .im (rL G.K (rT G.K (rQ G.K))) (powM u Cm kk), x14, .im rI (kk : Int), x16, x17, x18, x19, x20], rt := fun _ _ => False } := by
  have u4 := tf.u4
  have u1 := tf.u1
  refine S1_if ?_
  refine C_not ?_
  refine C_val ?_
  refine E_call hX (Fs.like 4) (by omega) rfl rfl ?_
  refine A_cons rfl ?_
  refine P_val ?_
  refine E_lst rfl (A := rU G.K) ?_
  refine E_call hX Fs.power (by omega) rfl rfl ?_
  refine A_cons rfl ?_
  refine P_val ?_
  refine E_name (i := 11) hX rfl (.inr (.inl rfl)) rfl ?_  -- r
  refine ⟨_, rMat G.K, m3, .cv (fun R v h => h.1), ?_⟩
  refine A_cons rfl ?_
  refine P_name (i := 15) hX rfl (.inr (.inl rfl)) rfl (by intro z; cases z) ?_  -- many
  refine A_nil ?_
  refine ⟨[_, _], ⟨rfl, rfl, trivial⟩, trivial, cPower_mk (cc := kk) tf.e3 tf.g3.1 tf.tc u1 u4 tf.fc hk (Nat.le_refl _) ?_⟩
  refine ⟨_, .cv (fz_rows (K := G.K)), ?_⟩
  refine E_callK true hX Fs.power Fs.kpower (by omega) rfl ?_
  refine AK_two ?_
  refine P_val ?_
  refine E_int ?_
  refine ⟨_, rI, _, .im _ _, ?_⟩
  refine P_val ?_
  refine E_name (i := 11) hX rfl (.inr (.inl rfl)) rfl ?_  -- r
  refine ⟨_, rMat G.K, m3, .cv (fun R v h => h.1), ?_⟩
  refine ⟨[_, _], ⟨rfl, rfl, trivial⟩, trivial, cPower_mk (cc := 0) tf.e3 tf.g3.1 tf.tc u1 u4 tf.fc hk (Nat.zero_le _) ?_⟩
  refine ⟨_, .cv (fz_rows (K := G.K)), ?_⟩
  refine E_call hX Fs.power (by omega) rfl rfl ?_
  refine A_cons rfl ?_
  refine P_val ?_
  refine E_name (i := 11) hX rfl (.inr (.inl rfl)) rfl ?_  -- r
  refine ⟨_, rMat G.K, m3, .cv (fun R v h => h.1), ?_⟩
  refine A_cons rfl ?_
  refine P_val ?_
  refine E_int ?_
  refine ⟨_, rI, _, .im _ _, ?_⟩
  refine A_nil ?_
  refine ⟨[_, _], ⟨rfl, rfl, trivial⟩, trivial, cPower_mk (cc := 1) tf.e3 tf.g3.1 tf.tc u1 u4 tf.fc (show PowOk u 1 from .inl (by decide)) (Nat.le_refl _) ?_⟩
  rw [powM_one tf.tc u1]
  refine ⟨_, .cv (fz_rows (K := G.K)), ?_⟩
  refine ⟨by simp, [rowsD (powM u Cm kk), rowsD (unitM u), rowsD Cm], rfl, fun pl => ?_⟩
  refine ⟨_, rU G.K, _, .ov (frz_L (K := G.K)) fz_list, ?_⟩
  refine A_cons rfl ?_
  refine P_val ?_
  refine E_lst rfl (A := rU G.K) ?_
  refine E_name (i := 13) hX rfl (.inl rfl) rfl ?_  -- due
  refine ⟨_, .cv (fz_rows (K := G.K)), ?_⟩
  refine E_call hX Fs.unitL (by omega) rfl rfl ?_
  refine A_cons rfl ?_
  refine P_name (i := 4) hX rfl (.inr (.inl rfl)) rfl (by intro z; cases z) ?_  -- mid
  refine A_nil ?_
  refine ⟨[_], ⟨rfl, trivial⟩, trivial, u, rfl, by omega, fun pd => ?_⟩
  refine ⟨_, .ov (frz_L (K := G.K)) (fz_rows (K := G.K)), ?_⟩
  refine E_name (i := 8) hX rfl (.inl rfl) rfl ?_  -- c
  refine ⟨_, .cv (fz_rows (K := G.K)), ?_⟩
  refine ⟨by simp, [rowsD (powM u Cm kk), rowsD (unitM u), rowsD Cm], rfl, fun pl2 => ?_⟩
  refine ⟨_, rU G.K, _, .ov (frz_L (K := G.K)) fz_list, ?_⟩
  refine A_nil ?_
  refine ⟨[_, _], ⟨rfl, rfl, trivial⟩, trivial, .list [rowsD (powM u Cm kk), rowsD (unitM u), rowsD Cm], rfl, ⟨by simp, fun x hx => ?_⟩, ?_⟩
  · simp only [List.mem_cons, List.not_mem_nil, or_false] at hx
    rcases hx with z | z | z <;> subst z
    · exact sd_tab (powM_tab tf.tc u1 kk) (by omega) (by omega)
    · exact sd_tab (unitM_tab u) (by omega) (by omega)
    · exact sd_tab tf.tc (by omega) (by omega)
  refine ⟨_, .im _ _, ?_⟩
  exact ⟨fun hc => (by cases hc), fun _ => S_nil rfl⟩
end
end T
end
section
set_option Elab.async false
set_option linter.all false
set_option maxRecDepth 100000
set_option maxHeartbeats 2000000
set_option exponentiation.threshold 10000
/-! Plain law: what is known of an inverse. -/
namespace T
structure InvOk (n : Nat) (A X : List (List Rat)) : Prop where
  tab : Tab n n X
  xa : prodM X A = unitM n
  ax : prodM A X = unitM n
  fr : ∃ E N : Nat, FrM E N X ∧ E ≠ 0 ∧ E ≤ 2 ^ 300 ∧ N ≤ 2 ^ 300
  one : ∀ out, LeadsOut ((augM n A).map wholeRow) out → AllIn n out ∧ invM n out = X
section
variable {n : Nat} {A : List (List Rat)}
theorem inv_fr {b : Nat × Nat} {w : Nat} {out : Leads} (hA : Tab n n A) (hq : QOk w b (augM n A)) (hO : LeadsOut ((augM n A).map wholeRow) out) (ha : AllIn n out) (hb : b.2 ≤ 2 ^ 300) : ∃ E N : Nat, FrM E N (invM n out) ∧ E ≠ 0 ∧ E ≤ 2 ^ 300 ∧ N ≤ 2 ^ 300 := by
  have L := hq.cert.lis ((augM n A).map wholeRow).length
  rw [List.take_length] at L
  obtain ⟨D, h1, h2, h3⟩ := L.bnd
  refine ⟨D.natAbs, b.2, fun r hr x hx => ?_, by omega, by omega, hb⟩
  obtain ⟨c, hc, e⟩ := List.mem_map.mp hr
  have hc := List.mem_range.mp hc
  subst e
  obtain ⟨k, hk, e⟩ := List.mem_map.mp hx
  subst e
  obtain ⟨d, hd⟩ := ha c hc
  have hm := (out_mem L hO ((c : Int), d)).mp (dget_mem hd)
  obtain ⟨z, z1, z2⟩ := h3 _ hm
  have h0 := int_ne (L.at' _ hm)
  have h4 : ((z ((n + k : Nat) : Int) * dv d (c : Int) : Int) : Rat) = ((D * dv d ((n + k : Nat) : Int) : Int) : Rat) := by rw [z2]
  rw [Rat.intCast_mul, Rat.intCast_mul] at h4
  have e : ldOf out c = d := by unfold ldOf; rw [hd]; rfl
  rw [e]
  have h5 : (z ((n + k : Nat) : Int) : Rat) = (dv d ((n + k : Nat) : Int) : Rat) / (dv d (c : Int) : Rat) * (D : Rat) := by
    have h0 : (dv d (c : Int) : Rat) ≠ 0 := h0
    grind
  rcases Int.natAbs_eq D with hs | hs
  · exact ⟨z ((n + k : Nat) : Int), by rw [← hs]; exact h5, z1 _⟩
  · refine ⟨-z ((n + k : Nat) : Int), ?_, by rw [Int.natAbs_neg]; exact z1 _⟩
    have h6 : ((D.natAbs : Int) : Rat) = -(D : Rat) := by
      have : (D.natAbs : Int) = -D := by omega
      rw [this, Rat.intCast_neg]
    rw [h6, Rat.intCast_neg, h5]
    grind
theorem mk_300 {w : Nat} (hw : w ≤ 8) : Mk w (2 ^ 12) 4 ≤ 2 ^ 300 := Nat.le_trans (Mk_bits15 (by omega) 4) (Nat.pow_le_pow_right (by decide) (by decide))
/-- the law's inverse of a table that has one -/
theorem inv_ok {M N : Nat} {left done : List IRow} {leads : List Int} (hA : Tab n n A) (hn : 0 < n) (hn4 : n ≤ 4) (hF : FrM 144 3600 A) (hS : SI (n + n) (MV (augM n A)) M N n left done leads) (hf : Full n (MV A)) : InvOk n A ((redRows done leads).map (List.drop n)) := by
  have hq := aug_qok hA hF hn4
  obtain ⟨out, hO⟩ := leads_ex (rows := (augM n A).map wholeRow)
  have ha := (allIn_full hA hq hO).mpr hf
  have e := inv_law hA hq hO hS hf
  have hb := inv_both hA hn hq hO ha
  exact ⟨by rw [e]; exact invM_tab out, by rw [e]; exact hb.1, by rw [e]; exact hb.2, by rw [e]; exact inv_fr hA hq hO ha (mk_300 (by omega)), fun o ho => ⟨(allIn_full hA hq ho).mpr hf, (inv_law hA hq ho hS hf).symm⟩⟩
theorem inv_no (hA : Tab n n A) (hn4 : n ≤ 4) (hF : FrM 144 3600 A) (hf : ¬ Full n (MV A)) {out : Leads} (hO : LeadsOut ((augM n A).map wholeRow) out) : ¬ AllIn n out := fun ha => hf ((allIn_full hA (aug_qok hA hF hn4) hO).mp ha)
end
end T
end
section
set_option Elab.async false
set_option linter.all false
set_option maxRecDepth 100000
set_option maxHeartbeats 4000000
set_option exponentiation.threshold 10000
namespace T
open PySem PySem.Spec PyProof.Rows L2
theorem S1.up {X : Cx} {st : Stmt} {τ : Tau} {J : Tau → Prop} {P : Po} (h : S1 X st τ { nx := J, rt := fun _ _ => False }) : S1 X st τ { P with nx := J } := fun σ H F R0 R D ok en =>
  h σ H F R0 R D ok ⟨en.nx, fun _ _ _ _ _ _ z => z.elim, fun _ _ _ _ z => z.elim, fun _ _ _ _ z => z.elim⟩
/-- two strings compared -/
theorem C_neS {X : Cx} {a b : Expr} {τ : Tau} {pos : Pos} {kt : Bool → Tau → Prop} (h : E X a τ fun x τ1 => ∃ i, Fz x (.im rS i) ∧ E X b τ1 fun y τ2 => ∃ j, Fz y (.im rS j) ∧ kt (!decide (i = j)) τ2) : C X (.Compare a [.NotEq] [b] pos) τ kt :=
  C_cmp op_ne (nomark _) (w_op (A := rS) (B := rS) (k1 := fun _ _ => True) (h.mono fun x τ1 ⟨i, fz, hb⟩ => ⟨i, fz, hb.mono fun y τ2 ⟨j, fz', hk⟩ => ⟨j, fz', fun σ H F R0 R Q v u ok r1 r2 q => by
    cases r1; cases r2
    refine ⟨rfl, ?_⟩
    have e : decide (V.str i = V.str j) = decide (i = j) := by rw [Bool.eq_iff_iff]; simp
    rw [e]
    exact q _ τ2 _ R H ⟨_, .im _ _, hk⟩ (Le.refl R) ok (VOk.im rfl)⟩⟩))
theorem eqv_num (q : Rat) : PyData.eqv (numP q) (numP q) = true := by
  unfold numP
  rw [PyData.eqv, PyData.eqvAll, PyData.eqvAll, PyData.eqvAll, PyData.eqv, PyData.eqv]
  simp
theorem eqv_row (r : List Rat) : PyData.eqv (.tuple (r.map numP)) (.tuple (r.map numP)) = true := by
  rw [PyData.eqv]
  exact eqvs_refl (m := 0) fun x hx => by
    obtain ⟨q, _, e⟩ := List.mem_map.mp hx
    rw [← e]; exact eqv_num q
theorem eqv_rows (l : List (List Rat)) : PyData.eqv (.list (l.map fun r => .tuple (r.map numP))) (.list (l.map fun r => .tuple (r.map numP))) = true := by
  rw [PyData.eqv]
  exact eqvs_refl (m := 0) fun x hx => by
    obtain ⟨r, _, e⟩ := List.mem_map.mp hx
    rw [← e]; exact eqv_row r
section
variable {G : Gm} {C fI g cd P : Addr} {fd : FuncData} {X : Cx} {n : Nat} {ns : List Int} {pb : Addr} {bg : Bag} {x2 x3 x4 x5 x6 x7 x8 x9 x10 x11 x12 x13 x14 x15 x16 x17 x18 x19 x20 : Kd} {t u w : Nat} {A Bm Cm : List (List Rat)} {m1 m2 m3 : Mat} {d1 d2 d3 : PyData}
variable {kk : Nat} {Xm : List (List Rat)}
/-- due, found = _law_undone(c), inverse(r) -/
theorem t11 (Fs : LF G C) (hX : XF G X lawN lawS 11) (tf : TF t u w A Bm Cm m1 m2 m3) : S1 X (stB 11) [.im (rSc G.K) ns, .ow pb (cBag G.K) bg, x2, .im rI (t : Int), .im rI (u : Int), .im rI (w : Int), .im (rL G.K (rT G.K (rQ G.K))) A, .im (rL G.K (rT G.K (rQ G.K))) Bm, .im (rL G.K (rT G.K (rQ G.K))) Cm, .im (rBoth (rMat G.K) (rU G.K)) (m1, d1), .im (rBoth (rMat G.K) (rU G.K)) (m2, d2), .im (rBoth (rMat G.K) (rU G.K)) (m3, d3), .im rS (PyData.list [d1, d2, d3]).shown, x13, x14, .im rI (kk : Int), x16, x17, x18, x19, x20] { nx := fun τ => ∃ x13 x17, ((∃ Xm pd pf, InvOk u Cm Xm ∧ x13 = .ow pd (cL (rT G.K (rQ G.K))) Xm ∧ x17 = .ow pf (cL (rT G.K (rQ G.K))) Xm) ∨ ((∀ out, LeadsOut ((augM u Cm).map wholeRow) out → ¬ AllIn u out) ∧ x13 = .im rN () ∧ x17 = .im rN ())) ∧ τ = [.im (rSc G.K) ns, .ow pb (cBag G.K) bg, x2, .im rI (t : Int), .im rI (u : Int), .im rI (w : Int), .im (rL G.K (rT G.K (rQ G.K))) A, .im (rL G.K (rT G.K (rQ G.K))) Bm, .im (rL G.K (rT G.K (rQ G.K))) Cm, .im (rBoth (rMat G.K) (rU G.K)) (m1, d1), .im (rBoth (rMat G.K) (rU G.K)) (m2, d2), .im (rBoth (rMat G.K) (rU G.K)) (m3, d3), .im rS (PyData.list [d1, d2, d3]).shown, x13, x14, .im rI (kk : Int), x16, x17, x18, x19, x20], rt := fun _ _ => False } := by
  have u4 := tf.u4
  have u1 := tf.u1
  have hq := aug_qok tf.tc tf.fc u4
  refine S1_par (i := 13) (j := 17) hX rfl rfl (by decide) rfl rfl rfl ?_
  refine E_call hX Fs.undone (by omega) rfl rfl ?_
  refine A_cons rfl ?_
  refine P_name (i := 8) hX rfl (.inl rfl) rfl (by intro z; cases z) ?_  -- c
  refine A_nil ?_
  by_cases hf : Full u (MV Cm)
  · refine ⟨[_], ⟨rfl, trivial⟩, trivial, Cm, u, 12, 12, rfl, tf.tc, u1, u4, tab_law_ok tf.tc tf.fc (by omega) (by omega), aug_law_ok tf.tc tf.fc u4, fun _ done leads left M N hS pd => ?_, fun z => absurd hf z⟩
    have hI := inv_ok tf.tc u1 u4 tf.fc hS hf
    generalize (redRows done leads).map (List.drop u) = Xm at *
    refine E_call hX Fs.inverse (by omega) rfl rfl ?_
    refine A_cons rfl ?_
    refine P_val ?_
    refine E_name (i := 11) hX rfl (.inr (.inl rfl)) rfl ?_  -- r
    refine ⟨_, rMat G.K, m3, .cv (fun R v h => h.1), ?_⟩
    refine A_nil ?_
    refine ⟨[_], ⟨rfl, trivial⟩, trivial, m3, u, _, _, rfl, tf.g3.1, by rw [tf.e3]; exact tf.tc, u1, by omega, by rw [tf.e3]; exact hq, fun out hO => ?_⟩
    rw [tf.e3] at hO
    obtain ⟨i1, i2⟩ := hI.one out hO
    refine ⟨fun _ pf => ?_, fun z => absurd i1 z⟩
    rw [i2]
    exact ⟨_, _, rfl, _, _, .inl ⟨Xm, pd, pf, hI, rfl, rfl⟩, rfl⟩
  · refine ⟨[_], ⟨rfl, trivial⟩, trivial, Cm, u, 12, 12, rfl, tf.tc, u1, u4, tab_law_ok tf.tc tf.fc (by omega) (by omega), aug_law_ok tf.tc tf.fc u4, fun z => absurd z hf, fun _ => ?_⟩
    refine E_call hX Fs.inverse (by omega) rfl rfl ?_
    refine A_cons rfl ?_
    refine P_val ?_
    refine E_name (i := 11) hX rfl (.inr (.inl rfl)) rfl ?_  -- r
    refine ⟨_, rMat G.K, m3, .cv (fun R v h => h.1), ?_⟩
    refine A_nil ?_
    refine ⟨[_], ⟨rfl, trivial⟩, trivial, m3, u, _, _, rfl, tf.g3.1, by rw [tf.e3]; exact tf.tc, u1, by omega, by rw [tf.e3]; exact hq, fun out hO => ?_⟩
    rw [tf.e3] at hO
    refine ⟨fun z => absurd z (inv_no tf.tc u4 tf.fc hf hO), fun _ => ?_⟩
    exact ⟨_, _, rfl, _, _, .inr ⟨fun o ho => inv_no tf.tc u4 tf.fc hf ho, rfl, rfl⟩, rfl⟩
/-- if not _law_like([found, inverse(rows=r)], [due, due]) or repr([p, q, r]) != kept -/
theorem t12a (Fs : LF G C) (hX : XF G X lawN lawS 11) (hgd : X.A.guards = some []) (h1 : DB 133 3 d1) (h2 : DB 133 3 d2) (h3 : DB 133 3 d3) (tf : TF t u w A Bm Cm m1 m2 m3) (hI : InvOk u Cm Xm) : S1 X (stB 12) [.im (rSc G.K) ns, .ow pb (cBag G.K) bg, x2, .im rI (t : Int), .im rI (u : Int), .im rI (w : Int), .im (rL G.K (rT G.K (rQ G.K))) A, .im (rL G.K (rT G.K (rQ G.K))) Bm, .im (rL G.K (rT G.K (rQ G.K))) Cm, .im (rBoth (rMat G.K) (rU G.K)) (m1, d1), .im (rBoth (rMat G.K) (rU G.K)) (m2, d2), .im (rBoth (rMat G.K) (rU G.K)) (m3, d3), .im rS (PyData.list [d1, d2, d3]).shown, .im (rL G.K (rT G.K (rQ G.K))) Xm, x14, .im rI (kk : Int), x16, .im (rL G.K (rT G.K (rQ G.K))) Xm, x18, x19, x20] { nx := fun τ => τ = [.im (rSc G.K) ns, .ow pb (cBag G.K) bg, x2, .im rI (t : Int), .im rI (u : Int), .im rI (w : Int), .im (rL G.K (rT G.K (rQ G.K))) A, .im (rL G.K (rT G.K (rQ G.K))) Bm, .im (rL G.K (rT G.K (rQ G.K))) Cm, .im (rBoth (rMat G.K) (rU G.K)) (m1, d1), .im (rBoth (rMat G.K) (rU G.K)) (m2, d2), .im (rBoth (rMat G.K) (rU G.K)) (m3, d3), .im rS (PyData.list [d1, d2, d3]).shown, .im (rL G.K (rT G.K (rQ G.K))) Xm, x14, .im rI (kk : Int), x16, .im (rL G.K (rT G.K (rQ G.K))) Xm, x18, x19, x20], rt := fun _ _ => False } := by
  obtain ⟨a1, a2, a3, a4⟩ := tri_db h1 h2 h3
  have u4 := tf.u4
  have u1 := tf.u1
  have hq := aug_qok tf.tc tf.fc u4
  refine S1_if ?_
  refine C_or2 ?_
  refine C_not ?_
  refine C_val ?_
  refine E_call hX (Fs.like 4) (by omega) rfl rfl ?_
  refine A_cons rfl ?_
  refine P_val ?_
  refine E_lst rfl (A := rU G.K) ?_
  refine E_name (i := 17) hX rfl (.inl rfl) rfl ?_  -- found
  refine ⟨_, .cv (fz_rows (K := G.K)), ?_⟩
  refine E_callK false hX Fs.inverse Fs.kinverse (by omega) rfl ?_
  refine AK_one ?_
  refine P_val ?_
  refine E_name (i := 11) hX rfl (.inr (.inl rfl)) rfl ?_  -- r
  refine ⟨_, rMat G.K, m3, .cv (fun R v h => h.1), ?_⟩
  refine ⟨[_], ⟨rfl, trivial⟩, trivial, m3, u, _, _, rfl, tf.g3.1, by rw [tf.e3]; exact tf.tc, u1, by omega, by rw [tf.e3]; exact hq, fun out hO => ?_⟩
  rw [tf.e3] at hO
  obtain ⟨i1, i2⟩ := hI.one out hO
  refine ⟨fun _ pf => ?_, fun z => absurd i1 z⟩
  rw [i2]
  refine ⟨_, .ov (frz_L (K := G.K)) (fz_rows (K := G.K)), ?_⟩
  refine ⟨by simp, [rowsD Xm, rowsD Xm], rfl, fun pl => ?_⟩
  refine ⟨_, rU G.K, _, .ov (frz_L (K := G.K)) fz_list, ?_⟩
  refine A_cons rfl ?_
  refine P_val ?_
  refine E_lst rfl (A := rU G.K) ?_
  refine E_name (i := 13) hX rfl (.inl rfl) rfl ?_  -- due
  refine ⟨_, .cv (fz_rows (K := G.K)), ?_⟩
  refine E_name (i := 13) hX rfl (.inl rfl) rfl ?_  -- due
  refine ⟨_, .cv (fz_rows (K := G.K)), ?_⟩
  refine ⟨by simp, [rowsD Xm, rowsD Xm], rfl, fun pl2 => ?_⟩
  refine ⟨_, rU G.K, _, .ov (frz_L (K := G.K)) fz_list, ?_⟩
  refine A_nil ?_
  refine ⟨[_, _], ⟨rfl, rfl, trivial⟩, trivial, .list [rowsD Xm, rowsD Xm], rfl, ⟨by simp, fun x hx => ?_⟩, ?_⟩
  · simp only [List.mem_cons, List.not_mem_nil, or_false] at hx
    rcases hx with z | z <;> subst z
    · exact sd_tab hI.tab (by omega) (by omega)
    · exact sd_tab hI.tab (by omega) (by omega)
  refine ⟨_, .im _ _, ?_⟩
  refine ⟨fun hc => (by cases hc), fun _ => ?_⟩
  refine C_neS ?_
  refine E_repr hX hgd rfl Fs.repr rfl ?_
  refine E_lst rfl (A := rU G.K) ?_
  refine E_name (i := 9) hX rfl (.inr (.inl rfl)) rfl ?_  -- p
  refine ⟨_, .cv (fun R v h => h.2), ?_⟩
  refine E_name (i := 10) hX rfl (.inr (.inl rfl)) rfl ?_  -- q
  refine ⟨_, .cv (fun R v h => h.2), ?_⟩
  refine E_name (i := 11) hX rfl (.inr (.inl rfl)) rfl ?_  -- r
  refine ⟨_, .cv (fun R v h => h.2), ?_⟩
  refine ⟨by simp, [d1, d2, d3], rfl, fun pl => ?_⟩
  refine ⟨[d1, d2, d3], .ov (frz_L (K := G.K)) fz_list, a1, a2, a3, a4, ?_⟩
  refine ⟨_, .im _ _, ?_⟩
  refine E_name (i := 12) hX rfl (.inl rfl) rfl ?_  -- kept
  refine ⟨_, .im _ _, ?_⟩
  rw [decide_eq_true rfl]
  exact ⟨fun hc => (by cases hc), fun _ => S_nil rfl⟩
/-- if due is not None and .. -/
theorem t13a (Fs : LF G C) (hX : XF G X lawN lawS 11) (tf : TF t u w A Bm Cm m1 m2 m3) (hI : InvOk u Cm Xm) : S1 X (stB 13) [.im (rSc G.K) ns, .ow pb (cBag G.K) bg, x2, .im rI (t : Int), .im rI (u : Int), .im rI (w : Int), .im (rL G.K (rT G.K (rQ G.K))) A, .im (rL G.K (rT G.K (rQ G.K))) Bm, .im (rL G.K (rT G.K (rQ G.K))) Cm, .im (rBoth (rMat G.K) (rU G.K)) (m1, d1), .im (rBoth (rMat G.K) (rU G.K)) (m2, d2), .im (rBoth (rMat G.K) (rU G.K)) (m3, d3), .im rS (PyData.list [d1, d2, d3]).shown, .im (rL G.K (rT G.K (rQ G.K))) Xm, x14, .im rI (kk : Int), x16, .im (rL G.K (rT G.K (rQ G.K))) Xm, x18, x19, x20] { nx := fun τ => τ = [.im (rSc G.K) ns, .ow pb (cBag G.K) bg, x2, .im rI (t : Int), .im rI (u : Int), .im rI (w : Int), .im (rL G.K (rT G.K (rQ G.K))) A, .im (rL G.K (rT G.K (rQ G.K))) Bm, .im (rL G.K (rT G.K (rQ G.K))) Cm, .im (rBoth (rMat G.K) (rU G.K)) (m1, d1), .im (rBoth (rMat G.K) (rU G.K)) (m2, d2), .im (rBoth (rMat G.K) (rU G.K)) (m3, d3), .im rS (PyData.list [d1, d2, d3]).shown, .im (rL G.K (rT G.K (rQ G.K))) Xm, x14, .im rI (kk : Int), x16, .im (rL G.K (rT G.K (rQ G.K))) Xm, x18, x19, x20], rt := fun _ _ => False } := by
  have u4 := tf.u4
  have u1 := tf.u1
  refine S1_if ?_
  refine C_and2 ?_
  refine C_notN ?_
  refine E_name (i := 13) hX rfl (.inl rfl) rfl ?_  -- due
  refine ⟨_, isn_L, ?_⟩
  refine ⟨fun _ => ?_, fun hc => (by cases hc)⟩
  obtain ⟨E, N, hE, hE0, hE1, hN⟩ := hI.fr
  have pw : ∀ {a b : Nat}, a ≤ 2 ^ 600 → a < 2 ^ 1000 := fun h => Nat.lt_of_le_of_lt h (Nat.pow_lt_pow_right (by omega) (by omega))
  have p3 : (2 : Nat) ^ 300 * 2 ^ 300 = 2 ^ 600 := by rw [← Nat.pow_add]
  have p6 : (2 : Nat) ^ 20 ≤ 2 ^ 300 := Nat.pow_le_pow_right (by omega) (by omega)
  have big : ∀ {a b : Nat}, a ≤ 2 ^ 20 → b ≤ 2 ^ 300 → a * b < 2 ^ 1000 := fun ha hb => pw (b := 0) (by rw [← p3]; exact Nat.mul_le_mul (Nat.le_trans ha p6) hb)
  have s300 : ∀ {b : Nat}, b ≤ 2 ^ 300 → b < 2 ^ 1000 := fun hb => Nat.lt_of_le_of_lt hb (Nat.pow_lt_pow_right (by omega) (by omega))
  refine C_or2 ?_
  refine C_neD hX (deep_L (deep_T deep_Q)) (deep_L (deep_T deep_Q)) ?_
  refine E_call hX Fs.prodL (by omega) rfl rfl ?_
  refine A_cons rfl ?_
  refine P_name (i := 8) hX rfl (.inl rfl) rfl (by intro z; cases z) ?_  -- c
  refine A_cons rfl ?_
  refine P_name (i := 17) hX rfl (.inl rfl) rfl (by intro z; cases z) ?_  -- found
  refine A_nil ?_
  refine ⟨[_, _], ⟨rfl, rfl, trivial⟩, trivial, _, _, u, u, u, 144, E, 3600, N, rfl, tf.tc, hI.tab, u1, by omega, by omega, by omega, tf.fc, hE, by decide, hE0, big (by decide) hE1, small50 (by decide), s300 hN, ?_, big (by decide) hN, fun pd => ?_⟩
  · rw [← Nat.mul_assoc]; exact big (by omega) hN
  rw [hI.ax]
  refine ⟨_, .ow (frz_L (K := G.K)), ?_⟩
  refine E_call hX Fs.unitL (by omega) rfl rfl ?_
  refine A_cons rfl ?_
  refine P_name (i := 4) hX rfl (.inr (.inl rfl)) rfl (by intro z; cases z) ?_  -- mid
  refine A_nil ?_
  refine ⟨[_], ⟨rfl, trivial⟩, trivial, u, rfl, by omega, fun pd2 => ?_⟩
  refine ⟨_, .ow (frz_L (K := G.K)), shp_rows _, shp_rows _, ?_⟩
  rw [show PyData.eqv (.list ((unitM u).map fun r => .tuple (r.map fun q => .tuple [.int q.num, .int (q.den : Int)]))) (.list ((unitM u).map fun r => .tuple (r.map fun q => .tuple [.int q.num, .int (q.den : Int)]))) = true from eqv_rows (unitM u)]
  refine ⟨fun hc => (by cases hc), fun _ => ?_⟩
  refine C_neD hX (deep_L (deep_T deep_Q)) (deep_L (deep_T deep_Q)) ?_
  refine E_call hX Fs.prodL (by omega) rfl rfl ?_
  refine A_cons rfl ?_
  refine P_name (i := 17) hX rfl (.inl rfl) rfl (by intro z; cases z) ?_  -- found
  refine A_cons rfl ?_
  refine P_name (i := 8) hX rfl (.inl rfl) rfl (by intro z; cases z) ?_  -- c
  refine A_nil ?_
  refine ⟨[_, _], ⟨rfl, rfl, trivial⟩, trivial, _, _, u, u, u, E, 144, N, 3600, rfl, hI.tab, tf.tc, u1, by omega, by omega, by omega, hE, tf.fc, hE0, by decide, by rw [Nat.mul_comm]; exact big (by decide) hE1, s300 hN, small50 (by decide), ?_, by rw [Nat.mul_comm]; exact big (by decide) hN, fun pd => ?_⟩
  · rw [Nat.mul_comm N, ← Nat.mul_assoc]; exact big (by omega) hN
  rw [hI.xa]
  refine ⟨_, .ow (frz_L (K := G.K)), ?_⟩
  refine E_call hX Fs.unitL (by omega) rfl rfl ?_
  refine A_cons rfl ?_
  refine P_name (i := 4) hX rfl (.inr (.inl rfl)) rfl (by intro z; cases z) ?_  -- mid
  refine A_nil ?_
  refine ⟨[_], ⟨rfl, trivial⟩, trivial, u, rfl, by omega, fun pd2 => ?_⟩
  refine ⟨_, .ow (frz_L (K := G.K)), shp_rows _, shp_rows _, ?_⟩
  rw [show PyData.eqv (.list ((unitM u).map fun r => .tuple (r.map fun q => .tuple [.int q.num, .int (q.den : Int)]))) (.list ((unitM u).map fun r => .tuple (r.map fun q => .tuple [.int q.num, .int (q.den : Int)]))) = true from eqv_rows (unitM u)]
  exact ⟨fun hc => (by cases hc), fun _ => S_nil rfl⟩
/-- if not _law_like([found, inverse(rows=r)], [due, due]) or repr([p, q, r]) != kept -/
theorem t12b (Fs : LF G C) (hX : XF G X lawN lawS 11) (hgd : X.A.guards = some []) (h1 : DB 133 3 d1) (h2 : DB 133 3 d2) (h3 : DB 133 3 d3) (tf : TF t u w A Bm Cm m1 m2 m3) (hI : ∀ out, LeadsOut ((augM u Cm).map wholeRow) out → ¬ AllIn u out) : S1 X (stB 12) [.im (rSc G.K) ns, .ow pb (cBag G.K) bg, x2, .im rI (t : Int), .im rI (u : Int), .im rI (w : Int), .im (rL G.K (rT G.K (rQ G.K))) A, .im (rL G.K (rT G.K (rQ G.K))) Bm, .im (rL G.K (rT G.K (rQ G.K))) Cm, .im (rBoth (rMat G.K) (rU G.K)) (m1, d1), .im (rBoth (rMat G.K) (rU G.K)) (m2, d2), .im (rBoth (rMat G.K) (rU G.K)) (m3, d3), .im rS (PyData.list [d1, d2, d3]).shown, .im rN (), x14, .im rI (kk : Int), x16, .im rN (), x18, x19, x20] { nx := fun τ => τ = [.im (rSc G.K) ns, .ow pb (cBag G.K) bg, x2, .im rI (t : Int), .im rI (u : Int), .im rI (w : Int), .im (rL G.K (rT G.K (rQ G.K))) A, .im (rL G.K (rT G.K (rQ G.K))) Bm, .im (rL G.K (rT G.K (rQ G.K))) Cm, .im (rBoth (rMat G.K) (rU G.K)) (m1, d1), .im (rBoth (rMat G.K) (rU G.K)) (m2, d2), .im (rBoth (rMat G.K) (rU G.K)) (m3, d3), .im rS (PyData.list [d1, d2, d3]).shown, .im rN (), x14, .im rI (kk : Int), x16, .im rN (), x18, x19, x20], rt := fun _ _ => False } := by
  obtain ⟨a1, a2, a3, a4⟩ := tri_db h1 h2 h3
  have u4 := tf.u4
  have u1 := tf.u1
  have hq := aug_qok tf.tc tf.fc u4
  refine S1_if ?_
  refine C_or2 ?_
  refine C_not ?_
  refine C_val ?_
  refine E_call hX (Fs.like 4) (by omega) rfl rfl ?_
  refine A_cons rfl ?_
  refine P_val ?_
  refine E_lst rfl (A := rU G.K) ?_
  refine E_name (i := 17) hX rfl (.inl rfl) rfl ?_  -- found
  refine ⟨_, .cv (fz_none (K := G.K)), ?_⟩
  refine E_callK false hX Fs.inverse Fs.kinverse (by omega) rfl ?_
  refine AK_one ?_
  refine P_val ?_
  refine E_name (i := 11) hX rfl (.inr (.inl rfl)) rfl ?_  -- r
  refine ⟨_, rMat G.K, m3, .cv (fun R v h => h.1), ?_⟩
  refine ⟨[_], ⟨rfl, trivial⟩, trivial, m3, u, _, _, rfl, tf.g3.1, by rw [tf.e3]; exact tf.tc, u1, by omega, by rw [tf.e3]; exact hq, fun out hO => ?_⟩
  rw [tf.e3] at hO
  refine ⟨fun z => absurd z (hI out hO), fun _ => ?_⟩
  refine ⟨_, .cv (fz_none (K := G.K)), ?_⟩
  refine ⟨by simp, [.none, .none], rfl, fun pl => ?_⟩
  refine ⟨_, rU G.K, _, .ov (frz_L (K := G.K)) fz_list, ?_⟩
  refine A_cons rfl ?_
  refine P_val ?_
  refine E_lst rfl (A := rU G.K) ?_
  refine E_name (i := 13) hX rfl (.inl rfl) rfl ?_  -- due
  refine ⟨_, .cv (fz_none (K := G.K)), ?_⟩
  refine E_name (i := 13) hX rfl (.inl rfl) rfl ?_  -- due
  refine ⟨_, .cv (fz_none (K := G.K)), ?_⟩
  refine ⟨by simp, [.none, .none], rfl, fun pl2 => ?_⟩
  refine ⟨_, rU G.K, _, .ov (frz_L (K := G.K)) fz_list, ?_⟩
  refine A_nil ?_
  refine ⟨[_, _], ⟨rfl, rfl, trivial⟩, trivial, .list [.none, .none], rfl, ⟨by simp, fun x hx => ?_⟩, ?_⟩
  · simp only [List.mem_cons, List.not_mem_nil, or_false] at hx
    rcases hx with z | z <;> subst z
    · exact (by simp [SD])
    · exact (by simp [SD])
  refine ⟨_, .im _ _, ?_⟩
  refine ⟨fun hc => (by cases hc), fun _ => ?_⟩
  refine C_neS ?_
  refine E_repr hX hgd rfl Fs.repr rfl ?_
  refine E_lst rfl (A := rU G.K) ?_
  refine E_name (i := 9) hX rfl (.inr (.inl rfl)) rfl ?_  -- p
  refine ⟨_, .cv (fun R v h => h.2), ?_⟩
  refine E_name (i := 10) hX rfl (.inr (.inl rfl)) rfl ?_  -- q
  refine ⟨_, .cv (fun R v h => h.2), ?_⟩
  refine E_name (i := 11) hX rfl (.inr (.inl rfl)) rfl ?_  -- r
  refine ⟨_, .cv (fun R v h => h.2), ?_⟩
  refine ⟨by simp, [d1, d2, d3], rfl, fun pl => ?_⟩
  refine ⟨[d1, d2, d3], .ov (frz_L (K := G.K)) fz_list, a1, a2, a3, a4, ?_⟩
  refine ⟨_, .im _ _, ?_⟩
  refine E_name (i := 12) hX rfl (.inl rfl) rfl ?_  -- kept
  refine ⟨_, .im _ _, ?_⟩
  rw [decide_eq_true rfl]
  exact ⟨fun hc => (by cases hc), fun _ => S_nil rfl⟩
/-- if due is not None and .. -/
theorem t13b (Fs : LF G C) (hX : XF G X lawN lawS 11) (tf : TF t u w A Bm Cm m1 m2 m3) (hI : ∀ out, LeadsOut ((augM u Cm).map wholeRow) out → ¬ AllIn u out) : S1 X (stB 13) [.im (rSc G.K) ns, .ow pb (cBag G.K) bg, x2, .im rI (t : Int), .im rI (u : Int), .im rI (w : Int), .im (rL G.K (rT G.K (rQ G.K))) A, .im (rL G.K (rT G.K (rQ G.K))) Bm, .im (rL G.K (rT G.K (rQ G.K))) Cm, .im (rBoth (rMat G.K) (rU G.K)) (m1, d1), .im (rBoth (rMat G.K) (rU G.K)) (m2, d2), .im (rBoth (rMat G.K) (rU G.K)) (m3, d3), .im rS (PyData.list [d1, d2, d3]).shown, .im rN (), x14, .im rI (kk : Int), x16, .im rN (), x18, x19, x20] { nx := fun τ => τ = [.im (rSc G.K) ns, .ow pb (cBag G.K) bg, x2, .im rI (t : Int), .im rI (u : Int), .im rI (w : Int), .im (rL G.K (rT G.K (rQ G.K))) A, .im (rL G.K (rT G.K (rQ G.K))) Bm, .im (rL G.K (rT G.K (rQ G.K))) Cm, .im (rBoth (rMat G.K) (rU G.K)) (m1, d1), .im (rBoth (rMat G.K) (rU G.K)) (m2, d2), .im (rBoth (rMat G.K) (rU G.K)) (m3, d3), .im rS (PyData.list [d1, d2, d3]).shown, .im rN (), x14, .im rI (kk : Int), x16, .im rN (), x18, x19, x20], rt := fun _ _ => False } := by
  have u4 := tf.u4
  have u1 := tf.u1
  refine S1_if ?_
  refine C_and2 ?_
  refine C_notN ?_
  refine E_name (i := 13) hX rfl (.inl rfl) rfl ?_  -- due
  refine ⟨_, isn_N, ?_⟩
  exact ⟨fun hc => (by cases hc), fun _ => ⟨fun hc => (by cases hc), fun _ => S_nil rfl⟩⟩
/-- longer = [list(ps) + [0] for ps in r] -/
theorem t14 (Fs : LF G C) (hX : XF G X lawN lawS 11) (hfn : ∀ x, X.fn x = true) (tf : TF t u w A Bm Cm m1 m2 m3) : S1 X (stB 14) [.im (rSc G.K) ns, .ow pb (cBag G.K) bg, x2, .im rI (t : Int), .im rI (u : Int), .im rI (w : Int), .im (rL G.K (rT G.K (rQ G.K))) A, .im (rL G.K (rT G.K (rQ G.K))) Bm, .im (rL G.K (rT G.K (rQ G.K))) Cm, .im (rBoth (rMat G.K) (rU G.K)) (m1, d1), .im (rBoth (rMat G.K) (rU G.K)) (m2, d2), .im (rBoth (rMat G.K) (rU G.K)) (m3, d3), .im rS (PyData.list [d1, d2, d3]).shown, x13, x14, .im rI (kk : Int), x16, x17, x18, x19, x20] { nx := fun τ => ∃ pl, τ = [.im (rSc G.K) ns, .ow pb (cBag G.K) bg, x2, .im rI (t : Int), .im rI (u : Int), .im rI (w : Int), .im (rL G.K (rT G.K (rQ G.K))) A, .im (rL G.K (rT G.K (rQ G.K))) Bm, .im (rL G.K (rT G.K (rQ G.K))) Cm, .im (rBoth (rMat G.K) (rU G.K)) (m1, d1), .im (rBoth (rMat G.K) (rU G.K)) (m2, d2), .im (rBoth (rMat G.K) (rU G.K)) (m3, d3), .im rS (PyData.list [d1, d2, d3]).shown, x13, x14, .im rI (kk : Int), x16, x17, .ow pl (cL (rLT G.K (rGiv G.K))) (m3.map fun l => l ++ [.inl 0]), x19, .no], rt := fun _ _ => False } := by
  obtain ⟨g1, g2, g3, g4⟩ := tf.g3
  have u4 := tf.u4
  refine S1_setC (i := 18) hX hfn rfl rfl ?_  -- longer
  refine E_lc (own := [("ps", 20)]) (rLT G.K (rGiv G.K)) hX rfl ?_
  refine I_list hX ?_
  refine E_name (i := 11) hX rfl (.inr (.inl rfl)) rfl ?_  -- r
  refine ⟨_, rLT G.K (rGiv G.K), m3, .cv (fun R v h => h.1), ?_⟩
  refine ⟨fun i out τ => out = (m3.take i).map (fun l => l ++ [.inl 0]) ∧ τ = [.im (rSc G.K) ns, .ow pb (cBag G.K) bg, x2, .im rI (t : Int), .im rI (u : Int), .im rI (w : Int), .im (rL G.K (rT G.K (rQ G.K))) A, .im (rL G.K (rT G.K (rQ G.K))) Bm, .im (rL G.K (rT G.K (rQ G.K))) Cm, .im (rBoth (rMat G.K) (rU G.K)) (m1, d1), .im (rBoth (rMat G.K) (rU G.K)) (m2, d2), .im (rBoth (rMat G.K) (rU G.K)) (m3, d3), .im rS (PyData.list [d1, d2, d3]).shown, x13, x14, .im rI (kk : Int), x16, x17, x18, x19, .no], ⟨by simp, rfl⟩, fun i y hy => ?_, fun out τ hJ pl => ?_⟩
  · rintro out τ ⟨ho, hτ⟩ X1 hX1 hf1
    subst hτ
    obtain ⟨l, hl, ey⟩ := mapK_get hy
    subst ey
    have hi := (List.getElem?_eq_some_iff.mp hl).1
    have hll := g4 l (List.mem_of_getElem? hl)
    refine TB_name (i := 20) hX1 rfl rfl (by decide) ?_  -- ps
    intro X2 hX2
    refine Cs_nil ?_
    refine ⟨fun _ X3 hX3 => ?_, fun h => by cases h⟩
    refine E_cat (rGiv G.K) hX3 ?_
    refine E_list (rGiv G.K) hX3 rfl Fs.B.list rfl ?_
    refine E_name (i := 20) hX3 rfl (.inl rfl) rfl ?_  -- ps
    refine ⟨l, .inr (.inr (.im _ _)), fun p1 => ?_⟩
    refine ⟨_, .ow (frz_L (K := G.K)), ?_⟩
    refine E_lst rfl (A := rGiv G.K) ?_
    refine E_int ?_
    refine ⟨.im (rGiv G.K) (.inl 0), .cv (fun R v h => h), ?_⟩
    refine ⟨by simp, [.inl 0], rfl, fun p2 => ?_⟩
    refine ⟨_, .ow (frz_L (K := G.K)), by simp; omega, fun p3 => ?_⟩
    refine ⟨l ++ [.inl 0], .ov (frz_L (K := G.K)) (fun R v h => .inl h), ?_, ?_, rfl⟩
    · rw [ho, List.length_map, List.length_take]; omega
    · rw [ho, take_get hl, List.map_append]; rfl
  obtain ⟨ho, hτ⟩ := hJ
  rw [List.length_map, List.take_length] at ho
  subst hτ
  subst ho
  exact ⟨pl, rfl⟩
end
end T
end
section
set_option Elab.async false
set_option linter.all false
set_option maxRecDepth 100000
set_option maxHeartbeats 4000000
set_option exponentiation.threshold 10000
namespace T
open PySem PySem.Spec PyProof.Rows L2
/-- what _law_fault tells -/
def faultD : PyData := .tuple [.str "Unlike", .str "width"]
theorem tup_U {K : PySem.W.Frag} {ds : List PyData} : TupOf K (rU K) (.tuple ds) (ds.map (.im (rU K))) := fun R H p vs h v => by
  have h1 := fz_U (K := K) (deep_T deep_U) (tup_T (K := K) (A := rU K) (l := ds) R H p vs h v)
  rw [List.map_id] at h1
  exact h1
theorem ix_both {K : PySem.W.Frag} {α β γ : Type} {A : DR α} {B : DR β} {D : DR γ} {q : α × β} {i : Int} {c : γ} (h : IxOf K (.im A q.1) i D c) : IxOf K (.im (rBoth A B) q) i D c := fun R H v le r => h R H v le r.1
/-- tables with a number more in each row -/
theorem long_ok {u : Nat} {m : Mat} (g : GivOk (widthOf m) m ∧ widthOf m = u ∧ m.length = u ∧ ∀ l ∈ m, l.length = u) (hu : 1 ≤ u) (u4 : u ≤ 4) : GivOk (widthOf (m.map fun l => l ++ [.inl 0])) (m.map fun l => l ++ [.inl 0]) ∧ widthOf (m.map fun l => l ++ [.inl 0]) = u + 1 ∧ (m.map fun l => l ++ [.inl 0]).length = u ∧ ∀ l ∈ (m.map fun l => l ++ [.inl 0]), l.length = u + 1 := by
  obtain ⟨g1, g2, g3, g4⟩ := g
  have hlen : ∀ l ∈ (m.map fun l => l ++ [.inl 0]), l.length = u + 1 := fun l hl => by
    obtain ⟨r, hr, e⟩ := List.mem_map.mp hl
    rw [← e, List.length_append, g4 r hr]
    rfl
  have hw : widthOf (m.map fun l => l ++ [.inl 0]) = u + 1 := by
    cases m with
    | nil => simp at g3; omega
    | cons l m => exact hlen _ List.mem_cons_self
  refine ⟨⟨fun l hl => by rw [hw]; exact hlen l hl, fun l hl x hx => ?_, by rw [List.length_map]; exact g1.few, by rw [hw]; omega⟩, hw, by rw [List.length_map, g3], hlen⟩
  obtain ⟨r, hr, e⟩ := List.mem_map.mp hl
  rw [← e] at hx
  rcases List.mem_append.mp hx with z | z
  · exact g1.ok r hr x z
  · rw [List.mem_singleton.mp z]; trivial
/-- a row more -/
theorem more_ok {u w : Nat} {m : Mat} {l : List Giv} (g : GivOk (widthOf m) m ∧ widthOf m = w ∧ m.length = u ∧ ∀ l ∈ m, l.length = w) (hu : 1 ≤ u) (u4 : u ≤ 4) (hl : l ∈ m) : GivOk (widthOf (m ++ [l])) (m ++ [l]) ∧ widthOf (m ++ [l]) = w ∧ (m ++ [l]).length = u + 1 := by
  obtain ⟨g1, g2, g3, g4⟩ := g
  have hw : widthOf (m ++ [l]) = w := by
    cases m with
    | nil => simp at g3; omega
    | cons r m => exact g2
  refine ⟨⟨fun r hr => ?_, fun r hr => ?_, by rw [List.length_append, g3]; simp; omega, by rw [hw, ← g2]; exact g1.wide⟩, hw, by rw [List.length_append, g3]; rfl⟩
  · rw [hw]
    rcases List.mem_append.mp hr with z | z
    · exact g4 r z
    · rw [List.mem_singleton.mp z]; exact g4 l hl
  · rcases List.mem_append.mp hr with z | z
    · exact g1.ok r z
    · rw [List.mem_singleton.mp z]; exact g1.ok l hl
theorem twice_ok {u w : Nat} {m : Mat} (g : GivOk (widthOf m) m ∧ widthOf m = w ∧ m.length = u ∧ ∀ l ∈ m, l.length = w) (hu : 1 ≤ u) (u4 : u ≤ 4) : GivOk (widthOf (m ++ m)) (m ++ m) ∧ (m ++ m).length = u + u := by
  obtain ⟨g1, g2, g3, g4⟩ := g
  have hw : widthOf (m ++ m) = w := by
    cases m with
    | nil => simp at g3; omega
    | cons r m => exact g2
  refine ⟨⟨fun r hr => ?_, fun r hr => ?_, by rw [List.length_append, g3]; omega, by rw [hw, ← g2]; exact g1.wide⟩, by rw [List.length_append, g3]⟩
  · rw [hw]; rcases List.mem_append.mp hr with z | z <;> exact g4 r z
  · rcases List.mem_append.mp hr with z | z <;> exact g1.ok r z
theorem get_0 {α : Type} {m : List α} (h : 1 ≤ m.length) : ∃ l, m[0]? = some l ∧ l ∈ m := by
  have e : m[0]? = some (m[0]'(by omega)) := List.getElem?_eq_getElem _
  exact ⟨_, e, List.mem_of_getElem? e⟩
/-- rows of unlike widths -/
theorem long_bad {u : Nat} {m : Mat} {l : List Giv} (g : GivOk (widthOf m) m ∧ widthOf m = u ∧ m.length = u ∧ ∀ l ∈ m, l.length = u) (hu : 1 ≤ u) (u4 : u ≤ 4) (hl : l ∈ m) : BadM ((m.map fun l => l ++ [.inl 0]) ++ [l]) := by
  obtain ⟨_, h2, h3, _⟩ := long_ok g hu u4
  refine ⟨l, by simp, ?_⟩
  have hw : widthOf ((m.map fun l => l ++ [.inl 0]) ++ [l]) = u + 1 := by
    cases m with
    | nil => simp at h3; omega
    | cons r m => exact h2
  rw [hw, g.2.2.2 l hl]
  omega
section
variable {G : Gm} {C fI g cd P : Addr} {fd : FuncData} {X : Cx} {n : Nat} {ns : List Int} {pb : Addr} {bg : Bag} {x2 x3 x4 x5 x6 x7 x8 x9 x10 x11 x12 x13 x14 x15 x16 x17 x18 x19 x20 : Kd} {t u w : Nat} {A Bm Cm : List (List Rat)} {m1 m2 m3 : Mat} {d1 d2 d3 : PyData} {kk : Nat} {pq : Addr}
/-- said = [_law_fault(lambda: times(p, q + [q[0]]))] -/
theorem t15 (Fs : LF G C) (hX : XF G X lawN lawS 11) (tf : TF t u w A Bm Cm m1 m2 m3) (U : UTxt G C fI) (xf : XfC G.K C) (te : PySem.W.exmOne G.K (.ref C) (.ref C) = some true) (FF : Fun G.K "_law_fault" "_law_fault" (top 49) g fd) (hfg : G.mg "_law_fault" = some (.ref g)) (bF : Binds G.K fd ["call"] [])
    (tb0 : LamX.TabB G.base G.mg cd P) (hcode : X.env.code = .ref cd) : SL1 P (X.env.qual ++ "<lambda>") X (stB 15) [.im (rSc G.K) ns, .ow pb (cBag G.K) bg, x2, .im rI (t : Int), .im rI (u : Int), .im rI (w : Int), .im (rL G.K (rT G.K (rQ G.K))) A, .im (rL G.K (rT G.K (rQ G.K))) Bm, .im (rL G.K (rT G.K (rQ G.K))) Cm, .im (rBoth (rMat G.K) (rU G.K)) (m1, d1), .im (rBoth (rMat G.K) (rU G.K)) (m2, d2), .im (rBoth (rMat G.K) (rU G.K)) (m3, d3), .im rS (PyData.list [d1, d2, d3]).shown, x13, x14, .im rI (kk : Int), x16, x17, .im (rMat G.K) (m3.map fun l => l ++ [.inl 0]), x19, x20] { nx := fun τ => ∃ pq, τ = [.im (rSc G.K) ns, .ow pb (cBag G.K) bg, x2, .im rI (t : Int), .im rI (u : Int), .im rI (w : Int), .im (rL G.K (rT G.K (rQ G.K))) A, .im (rL G.K (rT G.K (rQ G.K))) Bm, .im (rL G.K (rT G.K (rQ G.K))) Cm, .im (rBoth (rMat G.K) (rU G.K)) (m1, d1), .im (rBoth (rMat G.K) (rU G.K)) (m2, d2), .im (rBoth (rMat G.K) (rU G.K)) (m3, d3), .im rS (PyData.list [d1, d2, d3]).shown, x13, x14, .im rI (kk : Int), x16, x17, .im (rMat G.K) (m3.map fun l => l ++ [.inl 0]), .ow pq (cL (rU G.K)) [faultD], x20], rt := fun _ _ => False } := by
  have u1 := tf.u1
  have u4 := tf.u4
  have G1 := tf.g1
  have G2 := tf.g2
  have G3 := tf.g3
  have G4 := long_ok G3 u1 u4
  refine SL1_setLst (A := rU G.K) (i := 19) hX rfl rfl rfl ?_  -- said
  refine EL_fault (m := 8) (what := "width") hX U xf te FF hfg bF tb0 hcode rfl rfl (LamX.lamS_by (by decide +kernel)) rfl (fun _ _ _ _ _ => rfl) (by omega) (fun Y T R W hY tk hw => ?_) ?_
  · refine EF_call hY Fs.xtimes (by omega) rfl rfl tk ?_
    refine A_cons rfl ?_
    obtain ⟨l0, e0, hl0⟩ := get_0 (m := m2) (by omega)
    have M := more_ok G2 u1 u4 hl0
    refine P_val ?_
    refine E_name (i := 9) hY rfl (.inr (.inr rfl)) rfl ?_  -- p
    refine ⟨_, rMat G.K, m1, .cv (fun R v h => h.1), ?_⟩
    refine A_cons rfl ?_
    refine P_val ?_
    refine E_cat (rLT G.K (rGiv G.K)) hY ?_
    refine E_name (i := 10) hY rfl (.inr (.inr rfl)) rfl ?_  -- q
    refine ⟨_, .cv (fun R v h => h.1), ?_⟩
    refine E_lst rfl (A := rLT G.K (rGiv G.K)) ?_
    refine E_ix hY (fun _ _ => rfl) ?_
    refine P_name (i := 10) hY rfl (.inr (.inr rfl)) rfl (by intro z; cases z) ?_  -- q
    refine E_int ?_
    refine ⟨_, .im _ _, _, rfl, _, _, l0, ix_both (ix_L (at_0 e0)), ?_⟩
    refine ⟨_, .im _ _, ?_⟩
    refine ⟨by simp, [l0], rfl, fun pa => ?_⟩
    refine ⟨_, .ow (frz_L (K := G.K)), by simp; omega, fun pb2 => ?_⟩
    refine ⟨_, rMat G.K, _, .ow (frz_L (K := G.K)), ?_⟩
    refine A_nil ?_
    exact ⟨[_, _], ⟨rfl, rfl, trivial⟩, trivial, trivial, ⟨m1, m2 ++ [l0], rfl, G1.1, .inr ⟨M.1, by omega⟩⟩, fun σ R' H' d ok' he => hw σ R' H' d ok' he⟩
  · exact ⟨faultD, .im _ _, fun pl => ⟨pl, rfl⟩⟩
/-- said.append(_law_fault(lambda: times(longer, r))) -/
theorem t16 (Fs : LF G C) (hX : XF G X lawN lawS 11) (tf : TF t u w A Bm Cm m1 m2 m3) (U : UTxt G C fI) (xf : XfC G.K C) (te : PySem.W.exmOne G.K (.ref C) (.ref C) = some true) (FF : Fun G.K "_law_fault" "_law_fault" (top 49) g fd) (hfg : G.mg "_law_fault" = some (.ref g)) (bF : Binds G.K fd ["call"] [])
    (tb0 : LamX.TabB G.base G.mg cd P) (hcode : X.env.code = .ref cd) : SL1 P (X.env.qual ++ "<lambda>") X (stB 16) [.im (rSc G.K) ns, .ow pb (cBag G.K) bg, x2, .im rI (t : Int), .im rI (u : Int), .im rI (w : Int), .im (rL G.K (rT G.K (rQ G.K))) A, .im (rL G.K (rT G.K (rQ G.K))) Bm, .im (rL G.K (rT G.K (rQ G.K))) Cm, .im (rBoth (rMat G.K) (rU G.K)) (m1, d1), .im (rBoth (rMat G.K) (rU G.K)) (m2, d2), .im (rBoth (rMat G.K) (rU G.K)) (m3, d3), .im rS (PyData.list [d1, d2, d3]).shown, x13, x14, .im rI (kk : Int), x16, x17, .im (rMat G.K) (m3.map fun l => l ++ [.inl 0]), .ow pq (cL (rU G.K)) [faultD], x20] { nx := fun τ => τ = [.im (rSc G.K) ns, .ow pb (cBag G.K) bg, x2, .im rI (t : Int), .im rI (u : Int), .im rI (w : Int), .im (rL G.K (rT G.K (rQ G.K))) A, .im (rL G.K (rT G.K (rQ G.K))) Bm, .im (rL G.K (rT G.K (rQ G.K))) Cm, .im (rBoth (rMat G.K) (rU G.K)) (m1, d1), .im (rBoth (rMat G.K) (rU G.K)) (m2, d2), .im (rBoth (rMat G.K) (rU G.K)) (m3, d3), .im rS (PyData.list [d1, d2, d3]).shown, x13, x14, .im rI (kk : Int), x16, x17, .im (rMat G.K) (m3.map fun l => l ++ [.inl 0]), .ow pq (cL (rU G.K)) [faultD, faultD], x20], rt := fun _ _ => False } := by
  have u1 := tf.u1
  have u4 := tf.u4
  have G1 := tf.g1
  have G2 := tf.g2
  have G3 := tf.g3
  have G4 := long_ok G3 u1 u4
  refine SL1_append (A := rU G.K) (j := 19) hX rfl (.inl rfl) rfl rfl ?_  -- said
  refine EL_fault (m := 8) (what := "width") hX U xf te FF hfg bF tb0 hcode rfl rfl (LamX.lamS_by (by decide +kernel)) rfl (fun _ _ _ _ _ => rfl) (by omega) (fun Y T R W hY tk hw => ?_) ?_
  · refine EF_call hY Fs.xtimes (by omega) rfl rfl tk ?_
    refine A_cons rfl ?_
    refine P_val ?_
    refine E_name (i := 18) hY rfl (.inr (.inr rfl)) rfl ?_  -- longer
    refine ⟨_, rMat G.K, _, .im _ _, ?_⟩
    refine A_cons rfl ?_
    refine P_val ?_
    refine E_name (i := 11) hY rfl (.inr (.inr rfl)) rfl ?_  -- r
    refine ⟨_, rMat G.K, m3, .cv (fun R v h => h.1), ?_⟩
    refine A_nil ?_
    exact ⟨[_, _], ⟨rfl, rfl, trivial⟩, trivial, trivial, ⟨_, m3, rfl, G4.1, .inr ⟨G3.1, by omega⟩⟩, fun σ R' H' d ok' he => hw σ R' H' d ok' he⟩
  · exact ⟨faultD, .im _ _, [faultD], rfl, by simp, rfl⟩
/-- said.append(_law_fault(lambda: power(longer, many))) -/
theorem t17 (Fs : LF G C) (hX : XF G X lawN lawS 11) (tf : TF t u w A Bm Cm m1 m2 m3) (U : UTxt G C fI) (xf : XfC G.K C) (te : PySem.W.exmOne G.K (.ref C) (.ref C) = some true) (FF : Fun G.K "_law_fault" "_law_fault" (top 49) g fd) (hfg : G.mg "_law_fault" = some (.ref g)) (bF : Binds G.K fd ["call"] [])
    (tb0 : LamX.TabB G.base G.mg cd P) (hcode : X.env.code = .ref cd) : SL1 P (X.env.qual ++ "<lambda>") X (stB 17) [.im (rSc G.K) ns, .ow pb (cBag G.K) bg, x2, .im rI (t : Int), .im rI (u : Int), .im rI (w : Int), .im (rL G.K (rT G.K (rQ G.K))) A, .im (rL G.K (rT G.K (rQ G.K))) Bm, .im (rL G.K (rT G.K (rQ G.K))) Cm, .im (rBoth (rMat G.K) (rU G.K)) (m1, d1), .im (rBoth (rMat G.K) (rU G.K)) (m2, d2), .im (rBoth (rMat G.K) (rU G.K)) (m3, d3), .im rS (PyData.list [d1, d2, d3]).shown, x13, x14, .im rI (kk : Int), x16, x17, .im (rMat G.K) (m3.map fun l => l ++ [.inl 0]), .ow pq (cL (rU G.K)) [faultD, faultD], x20] { nx := fun τ => τ = [.im (rSc G.K) ns, .ow pb (cBag G.K) bg, x2, .im rI (t : Int), .im rI (u : Int), .im rI (w : Int), .im (rL G.K (rT G.K (rQ G.K))) A, .im (rL G.K (rT G.K (rQ G.K))) Bm, .im (rL G.K (rT G.K (rQ G.K))) Cm, .im (rBoth (rMat G.K) (rU G.K)) (m1, d1), .im (rBoth (rMat G.K) (rU G.K)) (m2, d2), .im (rBoth (rMat G.K) (rU G.K)) (m3, d3), .im rS (PyData.list [d1, d2, d3]).shown, x13, x14, .im rI (kk : Int), x16, x17, .im (rMat G.K) (m3.map fun l => l ++ [.inl 0]), .ow pq (cL (rU G.K)) [faultD, faultD, faultD], x20], rt := fun _ _ => False } := by
  have u1 := tf.u1
  have u4 := tf.u4
  have G1 := tf.g1
  have G2 := tf.g2
  have G3 := tf.g3
  have G4 := long_ok G3 u1 u4
  refine SL1_append (A := rU G.K) (j := 19) hX rfl (.inl rfl) rfl rfl ?_  -- said
  refine EL_fault (m := 8) (what := "width") hX U xf te FF hfg bF tb0 hcode rfl rfl (LamX.lamS_by (by decide +kernel)) rfl (fun _ _ _ _ _ => rfl) (by omega) (fun Y T R W hY tk hw => ?_) ?_
  · refine EF_call hY Fs.xpower (by omega) rfl rfl tk ?_
    refine A_cons rfl ?_
    refine P_val ?_
    refine E_name (i := 18) hY rfl (.inr (.inr rfl)) rfl ?_  -- longer
    refine ⟨_, rMat G.K, _, .im _ _, ?_⟩
    refine A_cons rfl ?_
    refine P_val ?_
    refine E_name (i := 15) hY rfl (.inr (.inr rfl)) rfl ?_  -- many
    refine ⟨_, rI, _, .im _ _, ?_⟩
    refine A_nil ?_
    exact ⟨[_, _], ⟨rfl, rfl, trivial⟩, trivial, trivial, ⟨_, _, rfl, G4.1, by omega⟩, fun σ R' H' d ok' he => hw σ R' H' d ok' he⟩
  · exact ⟨faultD, .im _ _, [faultD, faultD], rfl, by simp, rfl⟩
/-- said.append(_law_fault(lambda: inverse(r + [r[0]]))) -/
theorem t18 (Fs : LF G C) (hX : XF G X lawN lawS 11) (tf : TF t u w A Bm Cm m1 m2 m3) (U : UTxt G C fI) (xf : XfC G.K C) (te : PySem.W.exmOne G.K (.ref C) (.ref C) = some true) (FF : Fun G.K "_law_fault" "_law_fault" (top 49) g fd) (hfg : G.mg "_law_fault" = some (.ref g)) (bF : Binds G.K fd ["call"] [])
    (tb0 : LamX.TabB G.base G.mg cd P) (hcode : X.env.code = .ref cd) : SL1 P (X.env.qual ++ "<lambda>") X (stB 18) [.im (rSc G.K) ns, .ow pb (cBag G.K) bg, x2, .im rI (t : Int), .im rI (u : Int), .im rI (w : Int), .im (rL G.K (rT G.K (rQ G.K))) A, .im (rL G.K (rT G.K (rQ G.K))) Bm, .im (rL G.K (rT G.K (rQ G.K))) Cm, .im (rBoth (rMat G.K) (rU G.K)) (m1, d1), .im (rBoth (rMat G.K) (rU G.K)) (m2, d2), .im (rBoth (rMat G.K) (rU G.K)) (m3, d3), .im rS (PyData.list [d1, d2, d3]).shown, x13, x14, .im rI (kk : Int), x16, x17, .im (rMat G.K) (m3.map fun l => l ++ [.inl 0]), .ow pq (cL (rU G.K)) [faultD, faultD, faultD], x20] { nx := fun τ => τ = [.im (rSc G.K) ns, .ow pb (cBag G.K) bg, x2, .im rI (t : Int), .im rI (u : Int), .im rI (w : Int), .im (rL G.K (rT G.K (rQ G.K))) A, .im (rL G.K (rT G.K (rQ G.K))) Bm, .im (rL G.K (rT G.K (rQ G.K))) Cm, .im (rBoth (rMat G.K) (rU G.K)) (m1, d1), .im (rBoth (rMat G.K) (rU G.K)) (m2, d2), .im (rBoth (rMat G.K) (rU G.K)) (m3, d3), .im rS (PyData.list [d1, d2, d3]).shown, x13, x14, .im rI (kk : Int), x16, x17, .im (rMat G.K) (m3.map fun l => l ++ [.inl 0]), .ow pq (cL (rU G.K)) [faultD, faultD, faultD, faultD], x20], rt := fun _ _ => False } := by
  have u1 := tf.u1
  have u4 := tf.u4
  have G1 := tf.g1
  have G2 := tf.g2
  have G3 := tf.g3
  have G4 := long_ok G3 u1 u4
  refine SL1_append (A := rU G.K) (j := 19) hX rfl (.inl rfl) rfl rfl ?_  -- said
  refine EL_fault (m := 8) (what := "width") hX U xf te FF hfg bF tb0 hcode rfl rfl (LamX.lamS_by (by decide +kernel)) rfl (fun _ _ _ _ _ => rfl) (by omega) (fun Y T R W hY tk hw => ?_) ?_
  · refine EF_call hY Fs.xinverse (by omega) rfl rfl tk ?_
    refine A_cons rfl ?_
    obtain ⟨l0, e0, hl0⟩ := get_0 (m := m3) (by omega)
    have M := more_ok G3 u1 u4 hl0
    refine P_val ?_
    refine E_cat (rLT G.K (rGiv G.K)) hY ?_
    refine E_name (i := 11) hY rfl (.inr (.inr rfl)) rfl ?_  -- r
    refine ⟨_, .cv (fun R v h => h.1), ?_⟩
    refine E_lst rfl (A := rLT G.K (rGiv G.K)) ?_
    refine E_ix hY (fun _ _ => rfl) ?_
    refine P_name (i := 11) hY rfl (.inr (.inr rfl)) rfl (by intro z; cases z) ?_  -- r
    refine E_int ?_
    refine ⟨_, .im _ _, _, rfl, _, _, l0, ix_both (ix_L (at_0 e0)), ?_⟩
    refine ⟨_, .im _ _, ?_⟩
    refine ⟨by simp, [l0], rfl, fun pa => ?_⟩
    refine ⟨_, .ow (frz_L (K := G.K)), by simp; omega, fun pb2 => ?_⟩
    refine ⟨_, rMat G.K, _, .ow (frz_L (K := G.K)), ?_⟩
    refine A_nil ?_
    exact ⟨[_], ⟨rfl, trivial⟩, trivial, trivial, ⟨m3 ++ [l0], rfl, M.1, by omega⟩, fun σ R' H' d ok' he => hw σ R' H' d ok' he⟩
  · exact ⟨faultD, .im _ _, [faultD, faultD, faultD], rfl, by simp, rfl⟩
/-- said.append(_law_fault(lambda: times(p, longer + [r[0]] if mid > 1 else q + q))) -/
theorem t19 (Fs : LF G C) (hX : XF G X lawN lawS 11) (tf : TF t u w A Bm Cm m1 m2 m3) (U : UTxt G C fI) (xf : XfC G.K C) (te : PySem.W.exmOne G.K (.ref C) (.ref C) = some true) (FF : Fun G.K "_law_fault" "_law_fault" (top 49) g fd) (hfg : G.mg "_law_fault" = some (.ref g)) (bF : Binds G.K fd ["call"] [])
    (tb0 : LamX.TabB G.base G.mg cd P) (hcode : X.env.code = .ref cd) : SL1 P (X.env.qual ++ "<lambda>") X (stB 19) [.im (rSc G.K) ns, .ow pb (cBag G.K) bg, x2, .im rI (t : Int), .im rI (u : Int), .im rI (w : Int), .im (rL G.K (rT G.K (rQ G.K))) A, .im (rL G.K (rT G.K (rQ G.K))) Bm, .im (rL G.K (rT G.K (rQ G.K))) Cm, .im (rBoth (rMat G.K) (rU G.K)) (m1, d1), .im (rBoth (rMat G.K) (rU G.K)) (m2, d2), .im (rBoth (rMat G.K) (rU G.K)) (m3, d3), .im rS (PyData.list [d1, d2, d3]).shown, x13, x14, .im rI (kk : Int), x16, x17, .im (rMat G.K) (m3.map fun l => l ++ [.inl 0]), .ow pq (cL (rU G.K)) [faultD, faultD, faultD, faultD], x20] { nx := fun τ => τ = [.im (rSc G.K) ns, .ow pb (cBag G.K) bg, x2, .im rI (t : Int), .im rI (u : Int), .im rI (w : Int), .im (rL G.K (rT G.K (rQ G.K))) A, .im (rL G.K (rT G.K (rQ G.K))) Bm, .im (rL G.K (rT G.K (rQ G.K))) Cm, .im (rBoth (rMat G.K) (rU G.K)) (m1, d1), .im (rBoth (rMat G.K) (rU G.K)) (m2, d2), .im (rBoth (rMat G.K) (rU G.K)) (m3, d3), .im rS (PyData.list [d1, d2, d3]).shown, x13, x14, .im rI (kk : Int), x16, x17, .im (rMat G.K) (m3.map fun l => l ++ [.inl 0]), .ow pq (cL (rU G.K)) [faultD, faultD, faultD, faultD, faultD], x20], rt := fun _ _ => False } := by
  have u1 := tf.u1
  have u4 := tf.u4
  have G1 := tf.g1
  have G2 := tf.g2
  have G3 := tf.g3
  have G4 := long_ok G3 u1 u4
  refine SL1_append (A := rU G.K) (j := 19) hX rfl (.inl rfl) rfl rfl ?_  -- said
  refine EL_fault (m := 8) (what := "width") hX U xf te FF hfg bF tb0 hcode rfl rfl (LamX.lamS_by (by decide +kernel)) rfl (fun _ _ _ _ _ => rfl) (by omega) (fun Y T R W hY tk hw => ?_) ?_
  · refine EF_call hY Fs.xtimes (by omega) rfl rfl tk ?_
    refine A_cons rfl ?_
    obtain ⟨l0, e0, hl0⟩ := get_0 (m := m3) (by omega)
    have M := twice_ok G2 u1 u4
    have Bd := long_bad G3 u1 u4 hl0
    refine P_val ?_
    refine E_name (i := 9) hY rfl (.inr (.inr rfl)) rfl ?_  -- p
    refine ⟨_, rMat G.K, m1, .cv (fun R v h => h.1), ?_⟩
    refine A_cons rfl ?_
    refine P_val ?_
    refine E_if ?_
    refine C_gt ?_
    refine E_name (i := 4) hY rfl (.inr (.inr rfl)) rfl ?_  -- mid
    refine ⟨_, .im _ _, ?_⟩
    refine E_int ?_
    refine ⟨_, .im _ _, ?_⟩
    refine ⟨fun hc => ?_, fun hc => ?_⟩
    · refine E_cat (rLT G.K (rGiv G.K)) hY ?_
      refine E_name (i := 18) hY rfl (.inr (.inr rfl)) rfl ?_  -- longer
      refine ⟨_, .im _ _, ?_⟩
      refine E_lst rfl (A := rLT G.K (rGiv G.K)) ?_
      refine E_ix hY (fun _ _ => rfl) ?_
      refine P_name (i := 11) hY rfl (.inr (.inr rfl)) rfl (by intro z; cases z) ?_  -- r
      refine E_int ?_
      refine ⟨_, .im _ _, _, rfl, _, _, l0, ix_both (ix_L (at_0 e0)), ?_⟩
      refine ⟨_, .im _ _, ?_⟩
      refine ⟨by simp, [l0], rfl, fun pa => ?_⟩
      refine ⟨_, .ow (frz_L (K := G.K)), by simp; omega, fun pb2 => ?_⟩
      refine ⟨_, rMat G.K, _, .ow (frz_L (K := G.K)), ?_⟩
      refine A_nil ?_
      exact ⟨[_, _], ⟨rfl, rfl, trivial⟩, trivial, trivial, ⟨m1, _, rfl, G1.1, .inl Bd⟩, fun σ R' H' d ok' he => hw σ R' H' d ok' he⟩
    · have hu : u = 1 := by have := of_decide_eq_false hc; omega
      refine E_cat (rLT G.K (rGiv G.K)) hY ?_
      refine E_name (i := 10) hY rfl (.inr (.inr rfl)) rfl ?_  -- q
      refine ⟨m2, .cv (fun R v h => h.1), ?_⟩
      refine E_name (i := 10) hY rfl (.inr (.inr rfl)) rfl ?_  -- q
      refine ⟨m2, .cv (fun R v h => h.1), by omega, fun pb2 => ?_⟩
      refine ⟨_, rMat G.K, _, .ow (frz_L (K := G.K)), ?_⟩
      refine A_nil ?_
      exact ⟨[_, _], ⟨rfl, rfl, trivial⟩, trivial, trivial, ⟨m1, m2 ++ m2, rfl, G1.1, .inr ⟨M.1, by omega⟩⟩, fun σ R' H' d ok' he => hw σ R' H' d ok' he⟩
  · exact ⟨faultD, .im _ _, [faultD, faultD, faultD, faultD], rfl, by simp, rfl⟩
/-- said.append(_law_fault(lambda: turned(longer + [r[0]]))) -/
theorem t20 (Fs : LF G C) (hX : XF G X lawN lawS 11) (tf : TF t u w A Bm Cm m1 m2 m3) (U : UTxt G C fI) (xf : XfC G.K C) (te : PySem.W.exmOne G.K (.ref C) (.ref C) = some true) (FF : Fun G.K "_law_fault" "_law_fault" (top 49) g fd) (hfg : G.mg "_law_fault" = some (.ref g)) (bF : Binds G.K fd ["call"] [])
    (tb0 : LamX.TabB G.base G.mg cd P) (hcode : X.env.code = .ref cd) : SL1 P (X.env.qual ++ "<lambda>") X (stB 20) [.im (rSc G.K) ns, .ow pb (cBag G.K) bg, x2, .im rI (t : Int), .im rI (u : Int), .im rI (w : Int), .im (rL G.K (rT G.K (rQ G.K))) A, .im (rL G.K (rT G.K (rQ G.K))) Bm, .im (rL G.K (rT G.K (rQ G.K))) Cm, .im (rBoth (rMat G.K) (rU G.K)) (m1, d1), .im (rBoth (rMat G.K) (rU G.K)) (m2, d2), .im (rBoth (rMat G.K) (rU G.K)) (m3, d3), .im rS (PyData.list [d1, d2, d3]).shown, x13, x14, .im rI (kk : Int), x16, x17, .im (rMat G.K) (m3.map fun l => l ++ [.inl 0]), .ow pq (cL (rU G.K)) [faultD, faultD, faultD, faultD, faultD], x20] { nx := fun τ => τ = [.im (rSc G.K) ns, .ow pb (cBag G.K) bg, x2, .im rI (t : Int), .im rI (u : Int), .im rI (w : Int), .im (rL G.K (rT G.K (rQ G.K))) A, .im (rL G.K (rT G.K (rQ G.K))) Bm, .im (rL G.K (rT G.K (rQ G.K))) Cm, .im (rBoth (rMat G.K) (rU G.K)) (m1, d1), .im (rBoth (rMat G.K) (rU G.K)) (m2, d2), .im (rBoth (rMat G.K) (rU G.K)) (m3, d3), .im rS (PyData.list [d1, d2, d3]).shown, x13, x14, .im rI (kk : Int), x16, x17, .im (rMat G.K) (m3.map fun l => l ++ [.inl 0]), .ow pq (cL (rU G.K)) [faultD, faultD, faultD, faultD, faultD, faultD], x20], rt := fun _ _ => False } := by
  have u1 := tf.u1
  have u4 := tf.u4
  have G1 := tf.g1
  have G2 := tf.g2
  have G3 := tf.g3
  have G4 := long_ok G3 u1 u4
  refine SL1_append (A := rU G.K) (j := 19) hX rfl (.inl rfl) rfl rfl ?_  -- said
  refine EL_fault (m := 8) (what := "width") hX U xf te FF hfg bF tb0 hcode rfl rfl (LamX.lamS_by (by decide +kernel)) rfl (fun _ _ _ _ _ => rfl) (by omega) (fun Y T R W hY tk hw => ?_) ?_
  · refine EF_call hY Fs.xturned (by omega) rfl rfl tk ?_
    refine A_cons rfl ?_
    obtain ⟨l0, e0, hl0⟩ := get_0 (m := m3) (by omega)
    have Bd := long_bad G3 u1 u4 hl0
    refine P_val ?_
    refine E_cat (rLT G.K (rGiv G.K)) hY ?_
    refine E_name (i := 18) hY rfl (.inr (.inr rfl)) rfl ?_  -- longer
    refine ⟨_, .im _ _, ?_⟩
    refine E_lst rfl (A := rLT G.K (rGiv G.K)) ?_
    refine E_ix hY (fun _ _ => rfl) ?_
    refine P_name (i := 11) hY rfl (.inr (.inr rfl)) rfl (by intro z; cases z) ?_  -- r
    refine E_int ?_
    refine ⟨_, .im _ _, _, rfl, _, _, l0, ix_both (ix_L (at_0 e0)), ?_⟩
    refine ⟨_, .im _ _, ?_⟩
    refine ⟨by simp, [l0], rfl, fun pa => ?_⟩
    refine ⟨_, .ow (frz_L (K := G.K)), by simp; omega, fun pb2 => ?_⟩
    refine ⟨_, rMat G.K, _, .ow (frz_L (K := G.K)), ?_⟩
    refine A_nil ?_
    exact ⟨[_], ⟨rfl, trivial⟩, trivial, trivial, ⟨_, rfl, Bd⟩, fun σ R' H' d ok' he => hw σ R' H' d ok' he⟩
  · exact ⟨faultD, .im _ _, [faultD, faultD, faultD, faultD, faultD], rfl, by simp, rfl⟩
/-- if not _law_like(said, [("Unlike", "width") for k in said]) -/
theorem t21 (Fs : LF G C) (hX : XF G X lawN lawS 11) : S1 X (stB 21) [.im (rSc G.K) ns, .ow pb (cBag G.K) bg, x2, .im rI (t : Int), .im rI (u : Int), .im rI (w : Int), .im (rL G.K (rT G.K (rQ G.K))) A, .im (rL G.K (rT G.K (rQ G.K))) Bm, .im (rL G.K (rT G.K (rQ G.K))) Cm, .im (rBoth (rMat G.K) (rU G.K)) (m1, d1), .im (rBoth (rMat G.K) (rU G.K)) (m2, d2), .im (rBoth (rMat G.K) (rU G.K)) (m3, d3), .im rS (PyData.list [d1, d2, d3]).shown, x13, x14, .im rI (kk : Int), x16, x17, .im (rMat G.K) (m3.map fun l => l ++ [.inl 0]), .ow pq (cL (rU G.K)) [faultD, faultD, faultD, faultD, faultD, faultD], x20] { nx := fun τ => ∃ x16 x19, τ = [.im (rSc G.K) ns, .ow pb (cBag G.K) bg, x2, .im rI (t : Int), .im rI (u : Int), .im rI (w : Int), .im (rL G.K (rT G.K (rQ G.K))) A, .im (rL G.K (rT G.K (rQ G.K))) Bm, .im (rL G.K (rT G.K (rQ G.K))) Cm, .im (rBoth (rMat G.K) (rU G.K)) (m1, d1), .im (rBoth (rMat G.K) (rU G.K)) (m2, d2), .im (rBoth (rMat G.K) (rU G.K)) (m3, d3), .im rS (PyData.list [d1, d2, d3]).shown, x13, x14, .im rI (kk : Int), x16, x17, .im (rMat G.K) (m3.map fun l => l ++ [.inl 0]), x19, x20], rt := fun _ _ => False } := by
  refine S1_if ?_
  refine C_not ?_
  refine C_val ?_
  refine E_call hX (Fs.like 2) (by omega) rfl rfl ?_
  refine A_cons rfl ?_
  refine P_val ?_
  refine E_frz (i := 19) hX rfl (.inl rfl) rfl (frz_L (K := G.K)) ?_  -- said
  refine ⟨_, rU G.K, .list [faultD, faultD, faultD, faultD, faultD, faultD], .cv fz_list, ?_⟩
  refine A_cons rfl ?_
  refine P_val ?_
  refine E_lc (own := [("k", 16)]) (rU G.K) hX rfl ?_
  refine I_list hX ?_
  refine E_name (i := 19) hX rfl (.inl rfl) rfl ?_  -- said
  refine ⟨_, _, [faultD, faultD, faultD, faultD, faultD, faultD], .im _ _, ?_⟩
  refine ⟨fun i out τ => out = List.replicate i faultD ∧ τ = [.im (rSc G.K) ns, .ow pb (cBag G.K) bg, x2, .im rI (t : Int), .im rI (u : Int), .im rI (w : Int), .im (rL G.K (rT G.K (rQ G.K))) A, .im (rL G.K (rT G.K (rQ G.K))) Bm, .im (rL G.K (rT G.K (rQ G.K))) Cm, .im (rBoth (rMat G.K) (rU G.K)) (m1, d1), .im (rBoth (rMat G.K) (rU G.K)) (m2, d2), .im (rBoth (rMat G.K) (rU G.K)) (m3, d3), .im rS (PyData.list [d1, d2, d3]).shown, x13, x14, .im rI (kk : Int), .no, x17, .im (rMat G.K) (m3.map fun l => l ++ [.inl 0]), .im (rL G.K (rU G.K)) [faultD, faultD, faultD, faultD, faultD, faultD], x20], ⟨rfl, rfl⟩, fun i y hy => ?_, fun out τ hJ pl => ?_⟩
  · rintro out τ ⟨ho, hτ⟩ X1 hX1 hf1
    subst hτ
    obtain ⟨l, hl, ey⟩ := mapK_get hy
    have hi := (List.getElem?_eq_some_iff.mp hl).1
    have hi : i < 6 := hi
    refine TB_name (i := 16) hX1 rfl rfl (by decide) ?_  -- k
    intro X2 hX2
    refine Cs_nil ?_
    refine ⟨fun _ X3 hX3 => ?_, fun h => by cases h⟩
    refine E_tup hX3 rfl (by decide) ?_
    refine E_str ?_
    refine ⟨_, .cv (fz_str (K := G.K)), ?_⟩
    refine E_str ?_
    refine ⟨_, .cv (fz_str (K := G.K)), ?_⟩
    refine ⟨by simp, _, rU G.K, faultD, tup_U, ?_⟩
    refine ⟨_, .im _ _, by rw [ho, List.length_replicate]; omega, ?_, rfl⟩
    rw [ho, List.replicate_succ']
  obtain ⟨ho, hτ⟩ := hJ
  have ho : out = [faultD, faultD, faultD, faultD, faultD, faultD] := ho
  subst hτ
  subst ho
  refine ⟨_, rU G.K, _, .ov (frz_L (K := G.K)) fz_list, ?_⟩
  refine A_nil ?_
  refine ⟨[_, _], ⟨rfl, rfl, trivial⟩, trivial, .list [faultD, faultD, faultD, faultD, faultD, faultD], rfl, ⟨by simp, fun x hx => ?_⟩, ?_⟩
  · have hx : x = faultD := by simpa using hx
    rw [hx]
    refine ⟨by simp, fun y hy => ?_⟩
    simp only [List.mem_cons, List.not_mem_nil, or_false] at hy
    rcases hy with z | z <;> subst z <;> simp [SD]
  refine ⟨_, .im _ _, ?_⟩
  exact ⟨fun hc => (by cases hc), fun _ => S_nil ⟨_, _, rfl⟩⟩
end
end T
end
section
set_option Elab.async false
set_option linter.all false
set_option maxRecDepth 100000
set_option maxHeartbeats 4000000
set_option exponentiation.threshold 10000
namespace T
open PySem PySem.Spec PyProof.Rows L2
section
variable {G : Gm} {C fI g cd P : Addr} {fd : FuncData} {X : Cx} {τ : Tau}
/-- return True -/
theorem tE (hX : XF G X lawN lawS 11) : S1 X lawE τ { nx := fun _ => False, rt := fun x _ => x = .im rB true } := by
  refine S1_ret ?_
  refine E_bool ?_
  rfl
theorem S1.wk {st : Stmt} {J J' : Tau → Prop} (h : S1 X st τ { nx := J, rt := fun _ _ => False }) (m : ∀ τ, J τ → J' τ) : S1 X st τ { nx := J', rt := fun _ _ => False } := fun σ H F R0 R D ok en =>
  h σ H F R0 R D ok ⟨fun τ σ R' H a => en.nx τ σ R' H (m τ a), en.rt, en.bk, en.ct⟩
theorem SL_then {q : Str} {st : Stmt} {sts : List Stmt} {O : Po} (J : Tau → Prop) (h1 : S1 X st τ { nx := J, rt := fun _ _ => False }) (h2 : ∀ τ', J τ' → SL P q X sts τ' O) : SL P q X (st :: sts) τ O := SL_cons J (SL1_of h1.up) h2
theorem SL1.up {q : Str} {st : Stmt} {J : Tau → Prop} {O : Po} (h : SL1 P q X st τ { nx := J, rt := fun _ _ => False }) : SL1 P q X st τ { O with nx := J } := fun σ H R T D ok tb en =>
  h σ H R T D ok tb ⟨en.nx, fun _ _ _ _ _ _ _ z => z.elim, fun _ _ _ _ _ z => z.elim, fun _ _ _ _ _ z => z.elim⟩
theorem SL_thenL {q : Str} {st : Stmt} {sts : List Stmt} {O : Po} (J : Tau → Prop) (h1 : SL1 P q X st τ { nx := J, rt := fun _ _ => False }) (h2 : ∀ τ', J τ' → SL P q X sts τ' O) : SL P q X (st :: sts) τ O := SL_cons J h1.up h2
theorem SL_more {q : Str} {sts : List Stmt} {O : Po} {J : Tau → Prop} (h : SL P q X sts τ { nx := J, rt := fun _ _ => False }) (m : ∀ τ, J τ → O.nx τ) : SL P q X sts τ O := fun σ H R T D ok tb en =>
  h σ H R T D ok tb ⟨fun τ σ R' T' H' z => en.nx τ σ R' T' H' (m τ z), fun _ _ _ _ _ _ _ z => z.elim, fun _ _ _ _ _ z => z.elim, fun _ _ _ _ _ z => z.elim⟩
theorem SL_hd {q : Str} {K : PySem.W.Frag} {sts : List Stmt} {O : Po} {i : Nat} {x : Kd} {m : List (List Rat)} (ht : τ[i]? = some x) (h : Hd K m x) (gg : SL P q X sts (τ.set i (.im (rL K (rT K (rQ K))) m)) O) : SL P q X sts τ O := by
  rcases h with e | ⟨p, e⟩
  · rw [e] at ht
    rw [set_self ht] at gg
    exact gg
  · rw [e] at ht
    exact SL_frz ht (frz_L (K := K)) gg
variable {n : Nat} {ns : List Int} {pb : Addr} {bg : Bag} {x2 x3 x4 x5 x6 x7 x8 x9 x10 x11 x12 x13 x14 x15 x16 x17 x18 x19 x20 : Kd} {t u w : Nat} {A Bm Cm : List (List Rat)} {m1 m2 m3 : Mat} {d1 d2 d3 : PyData} {kk : Nat}
/-- a turn's last statements -/
theorem law_rest (Fs : LF G C) (hX : XF G X lawN lawS 11) (hfn : ∀ x, X.fn x = true) (hp : PassesOwn (model X.prog X.w) X.A X.env X.xe) (hgd : X.A.guards = some []) (U : UTxt G C fI) (xf : XfC G.K C) (te : PySem.W.exmOne G.K (.ref C) (.ref C) = some true)
    (FF : Fun G.K "_law_fault" "_law_fault" (top 49) g fd) (hfg : G.mg "_law_fault" = some (.ref g)) (bF : Binds G.K fd ["call"] []) (tb0 : LamX.TabB G.base G.mg cd P) (hcode : X.env.code = .ref cd) (tf : TF t u w A Bm Cm m1 m2 m3) (hb : Bg n bg) : SL P (X.env.qual ++ "<lambda>") X (lawB.drop 14) [.im (rSc G.K) ns, .ow pb (cBag G.K) bg, x2, .im rI (t : Int), .im rI (u : Int), .im rI (w : Int), .im (rL G.K (rT G.K (rQ G.K))) A, .im (rL G.K (rT G.K (rQ G.K))) Bm, .im (rL G.K (rT G.K (rQ G.K))) Cm, .im (rBoth (rMat G.K) (rU G.K)) (m1, d1), .im (rBoth (rMat G.K) (rU G.K)) (m2, d2), .im (rBoth (rMat G.K) (rU G.K)) (m3, d3), .im rS (PyData.list [d1, d2, d3]).shown, x13, x14, .im rI (kk : Int), x16, x17, x18, x19, x20] { nx := fun τ => ∃ (bg : Bag) (n2 : Nat) (x2 x3 x4 x5 x6 x7 x8 x9 x10 x11 x12 x13 x14 x15 x16 x17 x18 x19 x20 : Kd), n2 ≤ n ∧ Bg n2 bg ∧ τ = [.im (rSc G.K) ns, .ow pb (cBag G.K) bg, x2, x3, x4, x5, x6, x7, x8, x9, x10, x11, x12, x13, x14, x15, x16, x17, x18, x19, x20], rt := fun _ _ => False } := by
  refine SL_then _ (t14 Fs hX hfn tf) ?_
  rintro τ ⟨pl, hτ⟩
  subst hτ
  refine SL_frz (i := 18) rfl (frz_L (K := G.K)) ?_
  refine SL_thenL _ (t15 Fs hX tf U xf te FF hfg bF tb0 hcode) ?_
  rintro τ ⟨pq, hτ⟩
  subst hτ
  refine SL_thenL _ (t16 Fs hX tf U xf te FF hfg bF tb0 hcode) ?_
  rintro τ hτ
  subst hτ
  refine SL_thenL _ (t17 Fs hX tf U xf te FF hfg bF tb0 hcode) ?_
  rintro τ hτ
  subst hτ
  refine SL_thenL _ (t18 Fs hX tf U xf te FF hfg bF tb0 hcode) ?_
  rintro τ hτ
  subst hτ
  refine SL_thenL _ (t19 Fs hX tf U xf te FF hfg bF tb0 hcode) ?_
  rintro τ hτ
  subst hτ
  refine SL_thenL _ (t20 Fs hX tf U xf te FF hfg bF tb0 hcode) ?_
  rintro τ hτ
  subst hτ
  refine SL_one (SL1_of (S1.wk (t21 Fs hX) ?_))
  rintro τ ⟨z16, z19, hτ⟩
  subst hτ
  exact ⟨bg, n, _, _, _, _, _, _, _, _, _, _, _, _, _, _, _, _, _, _, _, Nat.le_refl _, hb, rfl⟩
/-- the whole law -/
theorem law_sl (Fs : LF G C) (hX : XF G X lawN lawS 11) (hfn : ∀ x, X.fn x = true) (hp : PassesOwn (model X.prog X.w) X.A X.env X.xe) (hgd : X.A.guards = some []) (U : UTxt G C fI) (xf : XfC G.K C) (te : PySem.W.exmOne G.K (.ref C) (.ref C) = some true)
    (FF : Fun G.K "_law_fault" "_law_fault" (top 49) g fd) (hfg : G.mg "_law_fault" = some (.ref g)) (bF : Binds G.K fd ["call"] []) (tb0 : LamX.TabB G.base G.mg cd P) (hcode : X.env.code = .ref cd) (hns : ns.length ≤ 1000) :
    SL P (X.env.qual ++ "<lambda>") X (defBody (top 54)) (tau0 lawN [.im (rSc G.K) ns]) { nx := fun _ => False, rt := fun x _ => x = .im rB true } := by
  -- bag = _law_bag(script)
  refine SL_then (fun τ => ∃ (pb : Addr) (bg : Bag) (x2 x3 x4 x5 x6 x7 x8 x9 x10 x11 x12 x13 x14 x15 x16 x17 x18 x19 x20 : Kd), Bg 0 bg ∧ τ = [.im (rSc G.K) ns, .ow pb (cBag G.K) bg, x2, x3, x4, x5, x6, x7, x8, x9, x10, x11, x12, x13, x14, x15, x16, x17, x18, x19, x20]) ?_ ?_
  · refine S1_setC (i := 1) hX hfn rfl rfl ?_  -- bag
    refine E_call hX Fs.bag (by omega) rfl rfl ?_
    refine A_cons rfl ?_
    refine P_name (i := 0) hX rfl (.inl rfl) rfl (by intro z; cases z) ?_  -- script
    refine A_nil ?_
    exact ⟨[_], ⟨rfl, trivial⟩, trivial, ns, rfl, hns, fun p b hb => ⟨p, b, .no, .no, .no, .no, .no, .no, .no, .no, .no, .no, .no, .no, .no, .no, .no, .no, .no, .no, .no, hb, rfl⟩⟩
  rintro τ ⟨pb, bg, x2, x3, x4, x5, x6, x7, x8, x9, x10, x11, x12, x13, x14, x15, x16, x17, x18, x19, x20, hb, hτ⟩
  subst hτ
  -- for turn in range(2):
  refine SL_cons (fun _ => True) ?_ fun τ' _ => SL_one (SL1_of (tE hX))
  refine SL1_for (c := 2) hX hp rfl Fs.B.range (fun i τ => ∃ (bg : Bag) (n : Nat) (x2 x3 x4 x5 x6 x7 x8 x9 x10 x11 x12 x13 x14 x15 x16 x17 x18 x19 x20 : Kd), n ≤ 5000 * i ∧ Bg n bg ∧ τ = [.im (rSc G.K) ns, .ow pb (cBag G.K) bg, x2, x3, x4, x5, x6, x7, x8, x9, x10, x11, x12, x13, x14, x15, x16, x17, x18, x19, x20]) ⟨bg, 0, x2, x3, x4, x5, x6, x7, x8, x9, x10, x11, x12, x13, x14, x15, x16, x17, x18, x19, x20, Nat.zero_le _, hb, rfl⟩ (fun i τ hi hI => ?_) (fun _ _ => trivial) (by omega)
  obtain ⟨bg, n, x2, x3, x4, x5, x6, x7, x8, x9, x10, x11, x12, x13, x14, x15, x16, x17, x18, x19, x20, hn, hb, hτ⟩ := hI
  subst hτ
  refine T_name (i := 2) hX rfl rfl ?_  -- turn
  refine SL_then _ (t0 Fs hX hfn hb (by omega)) ?_
  rintro τ ⟨t, u, w, b1, t1', t4', u1', u4', w1', w4', hb1, hτ⟩
  subst hτ
  refine SL_then _ (t1 Fs hX t4' u4' w4' hb1 (by omega)) ?_
  rintro τ ⟨pa, p1, p2, A, Bm, Cm, b2, n2, hA, hB, hC, fA, fB, fC, hn2, hn3, hb2, hτ⟩
  subst hτ
  refine SL_frz (i := 6) rfl (frz_L (K := G.K)) ?_
  refine SL_frz (i := 7) rfl (frz_L (K := G.K)) ?_
  refine SL_frz (i := 8) rfl (frz_L (K := G.K)) ?_
  refine SL_then _ (t2 Fs hX hfn t4' u4' w4' hA hB hC fA fB fC hb2 (by omega)) ?_
  rintro τ ⟨q1, q2, q3, m1, m2, m3, b3, n3, e1, ok1, e2, ok2, e3, ok3, hn4, hn5, hb3, hτ⟩
  subst hτ
  have tf : TF t u w A Bm Cm m1 m2 m3 := ⟨t1', t4', u1', u4', w1', w4', hA, hB, hC, fA, fB, fC, e1, e2, e3, ok1, ok2, ok3⟩
  refine SL_frz (i := 9) rfl (frz_L (K := G.K)) ?_
  refine SL_frz (i := 10) rfl (frz_L (K := G.K)) ?_
  refine SL_frz (i := 11) rfl (frz_L (K := G.K)) ?_
  refine SL_tell (i := 9) (B := rBoth (rMat G.K) (rU G.K)) (Pb := fun q => q.1 = m1 ∧ DB 133 3 q.2) rfl (fun R v h => ?_) ?_
  · obtain ⟨_, _, g3, g4⟩ := tf.g1
    obtain ⟨d, h1, h2⟩ := mat_dp h ok1 (fun l hl => by have := g4 l hl; omega) (by omega)
    exact ⟨(m1, d), ⟨h, h1⟩, rfl, h2⟩
  rintro ⟨z1, d1⟩ ⟨hz1, hd1⟩
  have hz1 : z1 = m1 := hz1
  subst hz1
  refine SL_tell (i := 10) (B := rBoth (rMat G.K) (rU G.K)) (Pb := fun q => q.1 = m2 ∧ DB 133 3 q.2) rfl (fun R v h => ?_) ?_
  · obtain ⟨_, _, g3, g4⟩ := tf.g2
    obtain ⟨d, h1, h2⟩ := mat_dp h ok2 (fun l hl => by have := g4 l hl; omega) (by omega)
    exact ⟨(m2, d), ⟨h, h1⟩, rfl, h2⟩
  rintro ⟨z2, d2⟩ ⟨hz2, hd2⟩
  have hz2 : z2 = m2 := hz2
  subst hz2
  refine SL_tell (i := 11) (B := rBoth (rMat G.K) (rU G.K)) (Pb := fun q => q.1 = m3 ∧ DB 133 3 q.2) rfl (fun R v h => ?_) ?_
  · obtain ⟨_, _, g3, g4⟩ := tf.g3
    obtain ⟨d, h1, h2⟩ := mat_dp h ok3 (fun l hl => by have := g4 l hl; omega) (by omega)
    exact ⟨(m3, d), ⟨h, h1⟩, rfl, h2⟩
  rintro ⟨z3, d3⟩ ⟨hz3, hd3⟩
  have hz3 : z3 = m3 := hz3
  subst hz3
  refine SL_then _ (t3 Fs hX hgd hd1 hd2 hd3 tf) ?_
  rintro τ ⟨pd, hτ⟩
  subst hτ
  refine SL_frz (i := 13) rfl (frz_L (K := G.K)) ?_
  refine SL_then _ (t4 Fs hX tf) ?_
  rintro τ ⟨pt, hτ⟩
  subst hτ
  refine SL_then _ (t5 Fs hX tf) ?_
  rintro τ hτ
  subst hτ
  refine SL_then _ (t6 hX tf) ?_
  rintro τ ⟨l, hτ⟩
  subst hτ
  refine SL_then _ (t7 Fs hX tf) ?_
  rintro τ hτ
  subst hτ
  refine SL_then _ (t8 Fs hX hfn tf hb3 (by omega)) ?_
  rintro τ ⟨kk, b4, pd2, hk, hb4, hτ⟩
  subst hτ
  refine SL_frz (i := 13) rfl (frz_L (K := G.K)) ?_
  refine SL_then _ (t9 Fs hX hp tf hk) ?_
  rintro τ ⟨y13, y16, hy, hτ⟩
  subst hτ
  refine SL_hd (i := 13) rfl hy ?_
  refine SL_then _ (t10 Fs hX tf hk) ?_
  rintro τ hτ
  subst hτ
  refine SL_then _ (t11 Fs hX tf) ?_
  rintro τ ⟨y13, y17, hy, hτ⟩
  rcases hy with ⟨Xm, pd, pf, hI, ex, ey⟩ | ⟨hI, ex, ey⟩
  · subst ex ey hτ
    refine SL_frz (i := 13) rfl (frz_L (K := G.K)) ?_
    refine SL_frz (i := 17) rfl (frz_L (K := G.K)) ?_
    refine SL_then _ (t12a Fs hX hgd hd1 hd2 hd3 tf hI) ?_
    rintro τ hτ
    subst hτ
    refine SL_then _ (t13a Fs hX tf hI) ?_
    rintro τ hτ
    subst hτ
    refine SL_more (law_rest Fs hX hfn hp hgd U xf te FF hfg bF tb0 hcode tf hb4) ?_
    rintro τ ⟨b5, n5, y2, y3, y4, y5, y6, y7, y8, y9, y10, y11, y12, y13, y14, y15, y16, y17, y18, y19, y20, hn5, hb5, hτ⟩
    exact ⟨b5, n5, y2, y3, y4, y5, y6, y7, y8, y9, y10, y11, y12, y13, y14, y15, y16, y17, y18, y19, y20, by omega, hb5, hτ⟩
  · subst ex ey hτ
    refine SL_then _ (t12b Fs hX hgd hd1 hd2 hd3 tf hI) ?_
    rintro τ hτ
    subst hτ
    refine SL_then _ (t13b Fs hX tf hI) ?_
    rintro τ hτ
    subst hτ
    refine SL_more (law_rest Fs hX hfn hp hgd U xf te FF hfg bF tb0 hcode tf hb4) ?_
    rintro τ ⟨b5, n5, y2, y3, y4, y5, y6, y7, y8, y9, y10, y11, y12, y13, y14, y15, y16, y17, y18, y19, y20, hn5, hb5, hτ⟩
    exact ⟨b5, n5, y2, y3, y4, y5, y6, y7, y8, y9, y10, y11, y12, y13, y14, y15, y16, y17, y18, y19, y20, by omega, hb5, hτ⟩
end
end T
end
section
set_option Elab.async false
set_option linter.all false
set_option maxRecDepth 100000
set_option maxHeartbeats 4000000
namespace T
open PySem PySem.Spec PyProof.Rows L2
/-! ### the law's own call -/
theorem law_run {G : Gm} {C fI g c T0 fa a : Addr} {fd : FuncData} {oc dV kV doc pm ct : Value} {od an : Option Addr} {osl : Array (Option Value)} {A : Around} {outer : List Env} {s : Shared} {H : Hp} {ns : List Int} {args : Args} {E : XK} (Fs : LF G C) (U : UTxt G C fI) (xf : XfC G.K C)
    (te : PySem.W.exmOne G.K (.ref C) (.ref C) = some true) (FF : Fun G.K "_law_fault" "_law_fault" (top 49) g fd) (hfg : G.mg "_law_fault" = some (.ref g)) (bF : Binds G.K fd ["call"] []) (tb0 : LamX.TabB G.base G.mg c T0)
    (lk : G.K.lookup fa = some ⟨oc, od, .func (PySem.W.fnOf "law" "law" (defArgs (top 54)) (defBody (top 54)) lawS dV kV doc pm an (.ref c) ct), osl⟩) (hcd : PySem.W.codeIn G.K (.ref c) "law" = true) (hr : Room 12 A) (hgd : A.guards = some [])
    (e0 : Env0 G.P G.w G.K G.mg G.base A outer s H) (hb : BindsTo s (PySem.W.fnOf "law" "law" (defArgs (top 54)) (defBody (top 54)) lawS dV kV doc pm an (.ref c) ct) args ((["script"] : List Str).zip [.ref a])) (hS : SqL G.K H a (ns.map V.int)) (hP : H T0 = some (.tbl #[])) (hns : ns.length ≤ 1000) :
    codeAny (model G.P G.w) A (.call (.ref fa) args) (L2.CR CX0 outer G.P G.w H s (fun v _ => v = .bl true) E) s := by
  refine LamX.run_ofS (N := lawN) (ps := ["script"]) (us := [.ref a]) (vs := [.ref a]) lk hcd scLaw hr e0 hb (.cons rfl .nil) rfl fun hr' => ⟨_, (pss_sem (X := (cxOf CX0 G.P G.w G.K G.mg G.base lawN "law" lawS fa (.ref c) A outer s H E).nox)).nox, ?_⟩
  have hX : XF G (cxOf CX0 G.P G.w G.K G.mg G.base lawN "law" lawS fa (.ref c) A outer s H E).nox lawN lawS 11 := ⟨rfl, rfl, rfl, rfl, rfl, rfl, rfl, rfl, hr', scLaw.nd⟩
  obtain ⟨R, hR, hle, hnt⟩ : ∃ R : Hp, SqL G.K R a (ns.map V.int) ∧ LeR R H ∧ ∀ b ps, R b ≠ some (.tbl ps) := by
    rcases hS with h | h
    · refine ⟨upd (fun _ => none) a (.lst (ns.map V.int)), .inl (.inl upd_same), fun b o e => ?_, fun b ps e => ?_⟩
      · by_cases hb : b = a
        · subst hb
          rw [upd_same] at e
          cases e
          exact h.imp id fun ⟨o, h⟩ => ⟨trivial, o, h⟩
        · rw [upd_ne hb] at e; cases e
      · by_cases hb : b = a
        · subst hb; rw [upd_same] at e; cases e
        · rw [upd_ne hb] at e; cases e
    · refine ⟨fun _ => none, .inr h, ?_, ?_⟩
      · intro b o e
        cases e
      · intro b ps e
        cases e
  have hpr : ∀ l : List Int, Paired (rI.rel R) (l.map V.int) l := fun l => by
    induction l with
    | nil => exact .nil
    | cons i l ih => exact .cons rfl ih
  have ok0 : Ok (upd (fun _ => none) T0 (.tbl #[])) R R H (([.ref a] : List V).map some) [.im (rSc G.K) ns] := by
    refine ⟨rfl, ?_, hle, Le.refl R, fun _ h _ => h, ?_, ?_, ?_, hnt⟩
    · intro b o e
      by_cases hb : b = T0
      · subst hb; rw [upd_same] at e; cases e; exact hP
      · rw [upd_ne hb] at e; cases e
    · intro i k e
      match i, e with
      | 0, e => cases e; exact .inr ⟨.ref a, rfl, a, _, rfl, hR, hpr ns⟩
    · intro i k p e o
      match i, e with
      | 0, e => cases e; exact o.elim
    · intro i j k l p e1 e2 o1 o2
      match i, e1 with
      | 0, e1 => cases e1; exact o1.elim
  exact law_sl Fs hX (fun _ => rfl) PassesOwn.never hgd U xf te FF hfg bF tb0 rfl hns (L2.start lawN [.ref a]) H R _ _ (ok0.start lawN) ⟨#[], upd_same, trivial, fun pos cv hc => by
      have z : codeAmong pos [] = some cv := hc
      simp [codeAmong] at z⟩
    ⟨fun _ _ _ _ _ z => z.elim, fun x τ v σ T R' H' hx l ok w => (by
      subst hx
      exact w.rel), fun _ _ _ _ _ z => z.elim, fun _ _ _ _ _ z => z.elim⟩
end T
end
section
set_option Elab.async false
set_option linter.all false
set_option maxRecDepth 100000
set_option maxHeartbeats 4000000
namespace T
open PySem PySem.Spec PyProof.Rows L2
/-! ### the state at the law's call: the script, the table of the law's code object; all else as it was -/
def h0 (K : PySem.W.Frag) (T0 a : Addr) (ao : Obj) (xs : List V) : Hp := fun x =>
  if x = T0 then some (.tbl #[]) else if x = a then (if (K.lookup a).isSome then none else some (.frz ao (.lst xs))) else none
section
variable {K : PySem.W.Frag} {T0 a x : Addr} {ao : Obj} {xs : List V} {u : HO}
theorem h0_some (h : h0 K T0 a ao xs x = some u) : (x = T0 ∧ u = .tbl #[]) ∨ (x = a ∧ K.lookup a = none ∧ u = .frz ao (.lst xs)) := by
  unfold h0 at h
  by_cases h1 : x = T0
  · rw [if_pos h1] at h; cases h; exact .inl ⟨h1, rfl⟩
  · rw [if_neg h1] at h
    by_cases h2 : x = a
    · rw [if_pos h2] at h
      by_cases h3 : (K.lookup a).isSome = true
      · rw [if_pos h3] at h; cases h
      · rw [if_neg h3] at h
        cases h
        refine .inr ⟨h2, ?_, rfl⟩
        cases e : K.lookup a with
        | none => rfl
        | some o => rw [e] at h3; exact absurd rfl h3
    · rw [if_neg h2] at h; cases h
theorem h0_T : h0 K T0 a ao xs T0 = some (.tbl #[]) := if_pos rfl
theorem h0_a (hn : a ≠ T0) (hk : K.lookup a = none) : h0 K T0 a ao xs a = some (.frz ao (.lst xs)) := by
  unfold h0
  rw [if_neg hn, if_pos rfl, hk]
  rfl
end
abbrev tab0 : Obj := { cls := .none, data := .fields #[] }
abbrev scr (vs : List Value) : Obj := { cls := .type "list", data := .seq vs.toArray }
section
variable {P0 : Program} {w : World} {K : PySem.W.Frag} {mg mb : Str → Option Value} {fa a T0 c : Addr} {s : Shared} {vs : List Value} {ns : List Int}
/-- what stands at the law's call -/
structure At (K : PySem.W.Frag) (mg mb : Str → Option Value) (a T0 c : Addr) (s : Shared) (vs : List Value) (ns : List Int) : Prop where
  kin : K.In s.heap
  g : s.heap.Ns mainGlobals mg
  b : s.heap.Ns builtinsNs mb
  boot : ∀ x : Str, x ≠ "__name__" → mb x = bootBuiltins x
  lim : s.heap.NoLimit
  gens : s.gens = #[]
  tab : s.heap.get? T0 = some tab0
  notab : K.lookup T0 = none
  code : PySem.W.CodeHd s.heap c T0
  bmain : ∃ (bm : Addr) (ob : Obj), mg "__builtins__" = some (.ref bm) ∧ bm ≠ builtinsNs ∧ s.heap.get? bm = some ob ∧ ob.cls = .type "module" ∧ ob.dict = some builtinsNs ∧ ob.data = .plain
  list : s.heap.get? a = some (scr vs)
  whl : IntsAre vs ns
  few : ns.length ≤ sizeLine
abbrev hs (K : PySem.W.Frag) (T0 a : Addr) (vs : List Value) (ns : List Int) : Hp := h0 K T0 a (scr vs) (ns.map V.int)
abbrev bs0 (K : PySem.W.Frag) (T0 a : Addr) (s : Shared) (vs : List Value) (ns : List Int) : Heap := hidT s.heap (hs K T0 a vs ns)
theorem At.apart (A : At K mg mb a T0 c s vs ns) : a ≠ T0 := fun z => by
  have h1 := A.list
  rw [z, A.tab] at h1
  have h2 := congrArg Obj.data (Option.some.inj h1)
  cases h2
/-- objects of another make are none of the two -/
theorem At.vis (A : At K mg mb a T0 c s vs ns) {x : Addr} {o : Obj} (e : s.heap.get? x = some o) (h1 : o.data ≠ .fields #[]) (h2 : o.data ≠ .seq vs.toArray) : (bs0 K T0 a s vs ns).get? x = some o := by
  refine hidT_get e ?_
  cases hq : hs K T0 a vs ns x with
  | none => rfl
  | some u =>
    rcases h0_some hq with ⟨z, _⟩ | ⟨z, _, _⟩
    · rw [z, A.tab] at e; cases e; exact absurd rfl h1
    · rw [z, A.list] at e; cases e; exact absurd rfl h2
theorem At.nsp (A : At K mg mb a T0 c s vs ns) {x : Addr} {m : Str → Option Value} (h : s.heap.Ns x m) : (bs0 K T0 a s vs ns).Ns x m := by
  obtain ⟨o, es, ep, e, hd, r⟩ := h
  exact ⟨o, es, ep, A.vis e (by rw [hd]; intro z; cases z) (by rw [hd]; intro z; cases z), hd, r⟩
theorem At.inB (A : At K mg mb a T0 c s vs ns) : K.In (bs0 K T0 a s vs ns) := fun x o e => by
  refine hidT_get (A.kin x o e) ?_
  cases hq : hs K T0 a vs ns x with
  | none => rfl
  | some u =>
    rcases h0_some hq with ⟨z, _⟩ | ⟨z, hk, _⟩
    · rw [z, A.notab] at e; cases e
    · rw [z, hk] at e; cases e
theorem At.mod (A : At K mg mb a T0 c s vs ns) : L2.Mod K mg (bs0 K T0 a s vs ns) where
  kin := A.inB
  glob := A.nsp A.g
  blt := ⟨mb, A.nsp A.b, A.boot⟩
  nolimit := by
    obtain ⟨m, h1, h2⟩ := A.lim
    exact ⟨m, A.nsp h1, h2⟩
theorem At.tabB (A : At K mg mb a T0 c s vs ns) : LamX.TabB (bs0 K T0 a s vs ns) mg c T0 where
  code := by
    obtain ⟨o, us, f1, f2, f3, f4, f5, f6, f7, e, k1, k2, k3, r⟩ := A.code
    refine ⟨o, us, f1, f2, f3, f4, f5, f6, f7, A.vis e ?_ ?_, k1, k2, k3, r⟩
    · intro z
      rw [k2] at z
      cases z
      simp at k3
    · intro z
      rw [k2] at z
      cases z
  bm := by
    obtain ⟨bm, ob, k1, k2, k3, k4, k5, k6⟩ := A.bmain
    have nd : ob.data ≠ .fields #[] ∧ ob.data ≠ .seq vs.toArray := by
      rw [k6]
      constructor <;> (intro z; cases z)
    refine ⟨bm, ob, k1, k2, ?_, ?_, A.vis k3 nd.1 nd.2, k4, k5, k6⟩
    · intro z
      obtain ⟨o, es, ep, e, hd, _⟩ := A.g
      rw [← z, k3] at e
      cases e
      rw [k6] at hd
      cases hd
    · intro z
      rw [z, A.tab] at k3
      cases k3
      cases k6
  gP := fun z => by
    obtain ⟨o, es, ep, e, hd, _⟩ := A.g
    rw [z, A.tab] at e
    cases e
    cases hd
theorem At.ok (A : At K mg mb a T0 c s vs ns) : HOk P0 w (hs K T0 a vs ns) s.heap := fun x u e => by
  rcases h0_some e with ⟨z, hu⟩ | ⟨z, _, hu⟩
  · rw [z, hu]; exact A.tab
  · rw [z, hu]
    exact ⟨A.list, by rw [List.length_map]; exact A.few, vs, _, vals_ints A.whl, A.list⟩
theorem At.env (A : At K mg mb a T0 c s vs ns) : Env0 P0 w K mg (bs0 K T0 a s vs ns) callerA [] s (hs K T0 a vs ns) where
  frames := rfl
  mod := A.mod
  bs := fun x o e => of_hidT e
  bsz := Nat.le_of_eq (hidT_size _ _)
  funs := trivial
  frf := fun x h => nomatch h
  hok := A.ok
  bare := .of_eq A.gens
theorem At.sq (A : At K mg mb a T0 c s vs ns) : SqL K (hs K T0 a vs ns) a (ns.map V.int) := by
  cases hk : K.lookup a with
  | none => exact .inl (.inr ⟨_, h0_a A.apart hk⟩)
  | some o =>
    have e := A.kin a o hk
    rw [A.list] at e
    cases e
    exact .inr ⟨_, vs.toArray, _, hk, rfl, rfl, rfl, by rw [List.size_toArray, A.whl.length]; exact A.few, vals_ints A.whl⟩
/-- what the law's call gives -/
theorem law_call0 (A : At K mg mb a T0 c s vs ns) {E : XK}
    (F : ∀ (base : Heap) (H : Hp), Env0 P0 w K mg base callerA [] s H → LamX.TabB base mg c T0 → SqL K H a (ns.map V.int) → H T0 = some (.tbl #[]) → codeAny (model P0 w) callerA (.call (.ref fa) ⟨[.ref a], []⟩) (L2.CR CX0 [] P0 w H s (fun v _ => v = .bl true) E) s) :
    codeAny (model P0 w) callerA (.call (.ref fa) ⟨[.ref a], []⟩) (fun r s' => r = .ok (.ret (.bool true)) ∧ OldK s.heap s'.heap ∧ s'.os = s.os ∧ AllBare s'.gens) s := by
  refine codeAny_mono (F _ _ A.env A.tabB A.sq h0_T) fun r s' hq => ?_
  match r, hq with
  | .error e, hq => exact (show False from hq).elim
  | .ok .next, hq => exact (show False from hq).elim
  | .ok .brk, hq => exact (show False from hq).elim
  | .ok .cont, hq => exact (show False from hq).elim
  | .ok (.ret u), hq =>
    obtain ⟨v, H', hos, hbare, un, hok, hr, hv⟩ := hq
    have hv : v = .bl true := hv
    subst hv
    have hu : u = .bool true := hr
    subst hu
    obtain ⟨more, hm⟩ := un.tbls T0 #[] h0_T
    have hT' : s'.heap.get? T0 = some { cls := .none, data := .fields (#[] ++ more) } := hok T0 _ hm
    have other : ∀ x o, x ≠ T0 → s.heap.get? x = some o → s'.heap.get? x = some o := fun x o hx e => by
      cases hq : hs K T0 a vs ns x with
      | none => exact un.keep x o e hq (fun z => nomatch z) (fun z => nomatch z)
      | some u =>
        rcases h0_some hq with ⟨z, _⟩ | ⟨z, _, hu⟩
        · exact absurd z hx
        · rw [hu] at hq
          have h2 := un.frzs x _ _ hq
          have h3 : s'.heap.get? x = some (scr vs) := (hok x _ h2).1
          rw [z, A.list] at e
          cases e
          exact h3
    refine ⟨rfl, ⟨fun x o e => ?_, fun x o e => ?_⟩, hos, hbare⟩
    · by_cases hx : x = T0
      · rw [hx] at e ⊢
        rw [A.tab] at e
        cases e
        exact .inr (.inl ⟨(A.code.tab A.tab).isCodeTable, rfl, #[], more, rfl, hT'⟩)
      · exact .inl (other x o hx e)
    · by_cases hx : x = T0
      · rw [hx]; exact ⟨_, hT'⟩
      · exact ⟨o, other x o hx e⟩
end
end T
end
section
set_option Elab.async false
set_option linter.all false
set_option maxRecDepth 100000
set_option maxHeartbeats 4000000
namespace T
open PySem PySem.Spec PyProof.Rows L2
/-! ### what the top has written -/
def DF (K : PySem.W.Frag) (mg : Str → Option Value) (x : Str) (st : Stmt) (ps : List Str) : Prop := ∃ (f : Addr) (fd : FuncData), Fun K x x st f fd ∧ mg x = some (.ref f) ∧ Binds K fd ps []
theorem df_mk {K : PySem.W.Frag} {h : Heap} {mg : Str → Option Value} {x : Str} {st : Stmt} {f : Addr} {oc kV doc pm cdv ct : Value} {od an : Option Addr} {osl : Array (Option Value)} (ps : List Str) (X : K.In h) (G : h.Ns mainGlobals mg)
    (hb : ∀ (kV doc pm : Value) (an : Option Addr) (cdv ct : Value) (us : List Value), us.length = ps.length → bindArgs (PySem.W.fnOf x x (defArgs st) (defBody st) (defScope st) .none kV doc pm an cdv ct) ⟨us, []⟩ = pure (ps.zip us))
    (a : PySem.W.nsIn K mainGlobals x = some (some (.ref f))) (l : K.lookup f = some ⟨oc, od, .func (PySem.W.fnOf x x (defArgs st) (defBody st) (defScope st) .none kV doc pm an cdv ct), osl⟩) (c : PySem.W.codeIn K cdv x = true) (k : PySem.W.keepIn K (.ref f) = true) : DF K mg x st ps :=
  ⟨f, _, fun_mk l c k, PySem.W.mg_of X G a, (fun_mk l c k).binds hb⟩
/-- keywords of the three defs -/
theorem kb_one {G : Gm} {x y : Str} {st : Stmt} {f : Addr} {fd : FuncData} (F : Fun G.K x x st f fd) (hm : G.mg x = some (.ref f)) (hp : (defArgs st).args.map (·.arg) = [y])
    (h1 : ∀ (kV doc pm : Value) (an : Option Addr) (cdv ct u : Value), bindArgs (PySem.W.fnOf x x (defArgs st) (defBody st) (defScope st) .none kV doc pm an cdv ct) ⟨[u], []⟩ = pure [(y, u)])
    (h2 : ∀ (kV doc pm : Value) (an : Option Addr) (cdv ct u : Value), bindArgs (PySem.W.fnOf x x (defArgs st) (defBody st) (defScope st) .none kV doc pm an cdv ct) ⟨[], [(y, u)]⟩ = pure [(y, u)]) : KB G x [y] false := by
  obtain ⟨oc, od, kV, doc, pm, an, cdv, ct, osl, rfl, lk, hcd⟩ := F.ex
  refine ⟨f, _, oc, od, osl, hm, lk, ⟨fun s us ws hK hl => ?_, fun {vs us zs ws} r1 r2 => ?_⟩⟩
  · have hl' : (us ++ ws).length = 1 := by
      have h := congrArg List.length hp
      rw [List.length_map] at h
      have h3 : (gK false us ws).length = ((defArgs st).args.map (·.arg)).length := hl
      rw [hp] at h3
      exact h3
    show BindsTo s _ ⟨us, ([y] : List Str).zip ws⟩ (((defArgs st).args.map (·.arg)).zip (us ++ ws))
    rw [hp]
    match us, ws, hl' with
    | [u], [], _ => exact .of_eq (h1 kV doc pm an cdv ct u)
    | [], [u], _ => exact .of_eq (h2 kV doc pm an cdv ct u)
  · exact r1.append r2
theorem vals_turn : ∀ {vs : List V} {us : List Value}, Vals vs us → Vals vs.reverse us.reverse
  | _, _, .nil => .nil
  | _, _, .cons r t => by
    rw [List.reverse_cons, List.reverse_cons]
    exact (vals_turn t).append (.cons r .nil)
theorem kb_two {G : Gm} {x y z : Str} {st : Stmt} {f : Addr} {fd : FuncData} (F : Fun G.K x x st f fd) (hm : G.mg x = some (.ref f)) (hp : (defArgs st).args.map (·.arg) = [y, z])
    (h1 : ∀ (kV doc pm : Value) (an : Option Addr) (cdv ct u v : Value), bindArgs (PySem.W.fnOf x x (defArgs st) (defBody st) (defScope st) .none kV doc pm an cdv ct) ⟨[u, v], []⟩ = pure [(y, u), (z, v)])
    (h2 : ∀ (kV doc pm : Value) (an : Option Addr) (cdv ct u v : Value), bindArgs (PySem.W.fnOf x x (defArgs st) (defBody st) (defScope st) .none kV doc pm an cdv ct) ⟨[u], [(z, v)]⟩ = pure [(y, u), (z, v)])
    (h3 : ∀ (kV doc pm : Value) (an : Option Addr) (cdv ct u v : Value), bindArgs (PySem.W.fnOf x x (defArgs st) (defBody st) (defScope st) .none kV doc pm an cdv ct) ⟨[], [(z, v), (y, u)]⟩ = pure [(y, u), (z, v)]) : KB G x [z, y] true := by
  obtain ⟨oc, od, kV, doc, pm, an, cdv, ct, osl, rfl, lk, hcd⟩ := F.ex
  refine ⟨f, _, oc, od, osl, hm, lk, ⟨fun s us ws hK hl => ?_, fun {vs us zs ws} r1 r2 => ?_⟩⟩
  · have hl' : (us ++ ws).length = 2 := by
      have h3 : (us ++ ws.reverse).length = ((defArgs st).args.map (·.arg)).length := hl
      rw [hp, List.length_append, List.length_reverse] at h3
      rw [List.length_append]
      exact h3
    show BindsTo s _ ⟨us, ([z, y] : List Str).zip ws⟩ (((defArgs st).args.map (·.arg)).zip (us ++ ws.reverse))
    rw [hp]
    match us, ws, hl' with
    | [u, v], [], _ => exact .of_eq (h1 kV doc pm an cdv ct u v)
    | [u], [v], _ => exact .of_eq (h2 kV doc pm an cdv ct u v)
    | [], [v, u], _ => exact .of_eq (h3 kV doc pm an cdv ct u v)
  · exact r1.append (vals_turn r2)
/-- an error's class is what an except clause with its name takes -/
theorem exm_own {K : PySem.W.Frag} {S : Addr} (h1 : PySem.W.subIn K (.ref S) (.type "BaseException") = some true) (h2 : PySem.W.isClsIn K S = true) (h3 : PySem.W.typeIn K (.ref S) = some (.type "type")) (h4 : PySem.W.subIn K (.ref S) (.ref S) = some true) :
    PySem.W.exmOne K (.ref S) (.ref S) = some true := by
  have a1 : (PySem.W.subIn K (.ref S) (.type "BaseException") == some true) = true := by rw [h1]; rfl
  have a2 : ((PySem.W.clsIn K S).isSome && PySem.W.typeIn K (.ref S) == some (.type "type")) = true := by
    have : (PySem.W.clsIn K S).isSome = true := h2
    rw [this, h3]; rfl
  unfold PySem.W.exmOne
  rw [if_pos a1]
  show (if ((PySem.W.clsIn K S).isSome && PySem.W.typeIn K (.ref S) == some (.type "type")) = true then PySem.W.subIn K (.ref S) (.ref S) else none) = some true
  rw [if_pos a2]
  exact h4
/-- the defs -/
structure Defs (K : PySem.W.Frag) (mg : Str → Option Value) : Prop where
  d6 : DF K mg "common_divisor" (top 6) ["one", "other"]
  d7 : DF K mg "lowest" (top 7) ["top", "bottom"]
  d8 : DF K mg "lowered" (top 8) ["top", "bottom"]
  d9 : DF K mg "made" (top 9) ["value"]
  d10 : DF K mg "made_row" (top 10) ["values"]
  d11 : DF K mg "whole_row" (top 11) ["row"]
  d12 : DF K mg "primitive" (top 12) ["row"]
  d13 : DF K mg "combined" (top 13) ["row", "lead_row", "at"]
  d14 : DF K mg "whole_reduced" (top 14) ["rows"]
  d16 : DF K mg "made_rows" (top 16) ["rows", "width"]
  d17 : DF K mg "made_matrix" (top 17) ["rows"]
  d18 : DF K mg "width_of" (top 18) ["rows"]
  d19 : DF K mg "leads_of" (top 19) ["rows"]
  d20 : DF K mg "columns_of" (top 20) ["rows"]
  d21 : DF K mg "turned" (top 21) ["rows"]
  d22 : DF K mg "whole_list" (top 22) ["row"]
  d23 : DF K mg "product_of" (top 23) ["one", "other"]
  d24 : DF K mg "times" (top 24) ["one", "other"]
  d25 : DF K mg "unit_rows" (top 25) ["width"]
  d26 : DF K mg "square" (top 26) ["rows"]
  d27 : DF K mg "power" (top 27) ["rows", "count"]
  d28 : DF K mg "inverse" (top 28) ["rows"]
  d30 : DF K mg "_law_bag" (top 30) ["script"]
  d31 : DF K mg "_law_draw" (top 31) ["bag", "many"]
  d32 : DF K mg "_law_of" (top 32) ["bag", "menu"]
  d33 : DF K mg "_law_like" (top 33) ["told", "due"]
  d34 : DF K mg "_law_gcd" (top 34) ["up", "low"]
  d35 : DF K mg "_law_frac" (top 35) ["up", "low"]
  d36 : DF K mg "_law_plus" (top 36) ["p", "q"]
  d37 : DF K mg "_law_mul" (top 37) ["p", "q"]
  d38 : DF K mg "_law_small" (top 38) ["bag", "odd"]
  d39 : DF K mg "_law_give" (top 39) ["bag", "p"]
  d40 : DF K mg "_law_gives" (top 40) ["bag", "ps"]
  d41 : DF K mg "_law_dot" (top 41) ["ps", "qs"]
  d42 : DF K mg "_law_prime" (top 42) ["ks"]
  d43 : DF K mg "_law_whole" (top 43) ["ps"]
  d44 : DF K mg "_law_clear" (top 44) ["ks", "lead", "col"]
  d45 : DF K mg "_law_steps" (top 45) ["mat", "wide"]
  d46 : DF K mg "_law_reduced" (top 46) ["mat", "wide"]
  d47 : DF K mg "_law_rank" (top 47) ["mat", "wide"]
  d48 : DF K mg "_law_columns" (top 48) ["cols", "tall"]
  d49 : DF K mg "_law_fault" (top 49) ["call"]
  d50 : DF K mg "_law_table" (top 50) ["bag", "tall", "wide"]
  d51 : DF K mg "_law_product" (top 51) ["one_mat", "two_mat"]
  d52 : DF K mg "_law_unit" (top 52) ["many"]
  d53 : DF K mg "_law_undone" (top 53) ["mat"]
/-- the names of the runtime, the class Unlike, the law -/
structure FX (K : PySem.W.Frag) (mg : Str → Option Value) (fa : Addr) : Prop where
  defs : Defs K mg
  bi : ∀ (P : Program) (w : World) (base : Heap), Bi ⟨P, w, K, mg, base⟩ ∧ OneB ⟨P, w, K, mg, base⟩ ∧ mg "sum" = none
  ex : ∃ (C fI c T0 : Addr), PySem.W.tabIn K "law" = some (c, T0) ∧ K.lookup T0 = none ∧ (∀ (P : Program) (w : World) (base : Heap), UTxt ⟨P, w, K, mg, base⟩ C fI) ∧ XfC K C ∧ PySem.W.exmOne K (.ref C) (.ref C) = some true ∧
    ∃ (oc kV doc pm cdv ct : Value) (od an : Option Addr) (osl : Array (Option Value)), K.lookup fa = some ⟨oc, od, .func (PySem.W.fnOf "law" "law" (defArgs (top 54)) (defBody (top 54)) lawS .none kV doc pm an cdv ct), osl⟩ ∧ PySem.W.codeIn K cdv "law" = true
theorem lf_of {K : PySem.W.Frag} {mg : Str → Option Value} {P : Program} {w : World} {base : Heap} {C fI : Addr} (D : Defs K mg) (B : Bi ⟨P, w, K, mg, base⟩) (B1 : OneB ⟨P, w, K, mg, base⟩) (Bs : mg "sum" = none) (U : UTxt ⟨P, w, K, mg, base⟩ C fI) : LF ⟨P, w, K, mg, base⟩ C := by
  obtain ⟨a6, fd6, F6, m6, b6⟩ := D.d6
  obtain ⟨a7, fd7, F7, m7, b7⟩ := D.d7
  obtain ⟨a8, fd8, F8, m8, b8⟩ := D.d8
  obtain ⟨a9, fd9, F9, m9, b9⟩ := D.d9
  obtain ⟨a10, fd10, F10, m10, b10⟩ := D.d10
  obtain ⟨a11, fd11, F11, m11, b11⟩ := D.d11
  obtain ⟨a12, fd12, F12, m12, b12⟩ := D.d12
  obtain ⟨a13, fd13, F13, m13, b13⟩ := D.d13
  obtain ⟨a14, fd14, F14, m14, b14⟩ := D.d14
  obtain ⟨a16, fd16, F16, m16, b16⟩ := D.d16
  obtain ⟨a17, fd17, F17, m17, b17⟩ := D.d17
  obtain ⟨a18, fd18, F18, m18, b18⟩ := D.d18
  obtain ⟨a19, fd19, F19, m19, b19⟩ := D.d19
  obtain ⟨a20, fd20, F20, m20, b20⟩ := D.d20
  obtain ⟨a21, fd21, F21, m21, b21⟩ := D.d21
  obtain ⟨a22, fd22, F22, m22, b22⟩ := D.d22
  obtain ⟨a23, fd23, F23, m23, b23⟩ := D.d23
  obtain ⟨a24, fd24, F24, m24, b24⟩ := D.d24
  obtain ⟨a25, fd25, F25, m25, b25⟩ := D.d25
  obtain ⟨a26, fd26, F26, m26, b26⟩ := D.d26
  obtain ⟨a27, fd27, F27, m27, b27⟩ := D.d27
  obtain ⟨a28, fd28, F28, m28, b28⟩ := D.d28
  obtain ⟨a30, fd30, F30, m30, b30⟩ := D.d30
  obtain ⟨a31, fd31, F31, m31, b31⟩ := D.d31
  obtain ⟨a32, fd32, F32, m32, b32⟩ := D.d32
  obtain ⟨a33, fd33, F33, m33, b33⟩ := D.d33
  obtain ⟨a34, fd34, F34, m34, b34⟩ := D.d34
  obtain ⟨a35, fd35, F35, m35, b35⟩ := D.d35
  obtain ⟨a36, fd36, F36, m36, b36⟩ := D.d36
  obtain ⟨a37, fd37, F37, m37, b37⟩ := D.d37
  obtain ⟨a38, fd38, F38, m38, b38⟩ := D.d38
  obtain ⟨a39, fd39, F39, m39, b39⟩ := D.d39
  obtain ⟨a40, fd40, F40, m40, b40⟩ := D.d40
  obtain ⟨a41, fd41, F41, m41, b41⟩ := D.d41
  obtain ⟨a42, fd42, F42, m42, b42⟩ := D.d42
  obtain ⟨a43, fd43, F43, m43, b43⟩ := D.d43
  obtain ⟨a44, fd44, F44, m44, b44⟩ := D.d44
  obtain ⟨a45, fd45, F45, m45, b45⟩ := D.d45
  obtain ⟨a46, fd46, F46, m46, b46⟩ := D.d46
  obtain ⟨a47, fd47, F47, m47, b47⟩ := D.d47
  obtain ⟨a48, fd48, F48, m48, b48⟩ := D.d48
  obtain ⟨a50, fd50, F50, m50, b50⟩ := D.d50
  obtain ⟨a51, fd51, F51, m51, b51⟩ := D.d51
  obtain ⟨a52, fd52, F52, m52, b52⟩ := D.d52
  obtain ⟨a53, fd53, F53, m53, b53⟩ := D.d53
  have g6 := f5 F6 m6 b6 B 
  have g7 := f6 F7 m7 b7 B g6
  have g8 := f7 F8 m8 b8 B 
  have g9 := f8 F9 m9 b9 B g7
  have g10 := f9 F10 m10 b10 B g9
  have g11 := f10 F11 m11 b11 B 
  have g12 := f11 F12 m12 b12 B 
  have g13 := f12 F13 m13 b13 B g12
  have g14 := f13 F14 m14 b14 B g12 g13
  have g18 := f17 F18 m18 b18 B 
  have g16 := f15 F16 m16 b16 B g10
  have g17 := f16 F17 m17 b17 B g16 g18
  have g19 := f18 F19 m19 b19 B g14 g11
  have g20 := qColsOf F20 m20 b20 B g18
  have g21 := qTurned F21 m21 b21 B g20 g17
  have g22 := qWList F22 m22 b22 B 
  have g23 := qProd F23 m23 b23 B Bs g20 g22 g8
  have g24 := qTimes F24 m24 b24 B g17 g18 g23
  have g25 := qUnitR F25 m25 b25 B B1
  have g26 := qSquare F26 m26 b26 B g17 g18
  have g27 := qPower F27 m27 b27 B g26 g25 g23
  have g28 := qInverse F28 m28 b28 B g26 g25 g19 g8
  have g30 := f24 F30 m30 b30 B 
  have g31 := f25 F31 m31 b31 B 
  have g32 := f26 F32 m32 b32 B g31
  have g33 := f28 F33 m33 b33 B 
  have g34 := f29 F34 m34 b34 B 
  have g35 := f30 F35 m35 b35 B g34
  have g36 := f31 F36 m36 b36 B g35
  have g37 := f32 F37 m37 b37 B g35
  have g38 := f33 F38 m38 b38 B g35 g32 g31
  have g39 := f34 F39 m39 b39 B g32 g31
  have g40 := f35 F40 m40 b40 B g39 g31
  have g41 := qDotL F41 m41 b41 B g36 g37
  have g42 := f36 F42 m42 b42 B g34
  have g43 := f37 F43 m43 b43 B g34 g42
  have g44 := f38 F44 m44 b44 B g42
  have g45 := f39 F45 m45 b45 B g43 g44
  have g46 := f40 F46 m46 b46 B g45 g35
  have g47 := f41 F47 m47 b47 B g45
  have g48 := qColsL F48 m48 b48 B 
  have g50 := qTable F50 m50 b50 B g31 g38 g37
  have g51 := qProdL F51 m51 b51 B g48 g41
  have g52 := qUnitL F52 m52 b52 B 
  have g53 := qUndone F53 m53 b53 B g47 g52 g46
  have x16 := f15X U F16 m16 b16 B
  have x17 := f16X (fI := fI) F17 m17 b17 B x16 g18
  have x21 := qTurnedX F21 m21 b21 B g20 x17
  have x26 := qSquareX U F26 m26 b26 B g17 g18
  have x27 := qPowerX F27 m27 b27 B x26
  have x28 := qInverseX F28 m28 b28 B x26
  have x24 := qTimesX U F24 m24 b24 B g17 x17 g18
  exact { B := B, bag := g30, of := g32, gives := g40, table := g50, prodL := g51, unitL := g52, colsL := g48, undone := g53, times := g24, turned := g21, power := g27, inverse := g28, like := g33, xtimes := x24, xturned := x21, xpower := x27, xinverse := x28, ktimes := kb_two F24 m24 rfl (fun _ _ _ _ _ _ _ _ => rfl) (fun _ _ _ _ _ _ _ _ => rfl) (fun _ _ _ _ _ _ _ _ => rfl), kturned := kb_one F21 m21 rfl (fun _ _ _ _ _ _ _ => rfl) (fun _ _ _ _ _ _ _ => rfl), kpower := kb_two F27 m27 rfl (fun _ _ _ _ _ _ _ _ => rfl) (fun _ _ _ _ _ _ _ _ => rfl) (fun _ _ _ _ _ _ _ _ => rfl), kinverse := kb_one F28 m28 rfl (fun _ _ _ _ _ _ _ => rfl) (fun _ _ _ _ _ _ _ => rfl), repr := B.repr }
theorem walk0 {l : PySem.W.OpenLaw} {q : Program} {loose : List Str} {XP : (Str → Option Value) → Heap → Prop} {YP : World → Heap → Prop} {d : DefRec} {K : Params → PySem.W.Frag} (hn : l.most = some 63) (hdf : d.params.defaults = []) (hdn : d.name = "law")
    (hY : ∀ (w : World) (h : Heap), YP w h → (K w.params).In h) (hr : (recsOf q).find? (fun e => e.name == ("law" : Str)) = some d)
    (F : ∀ (w : World) (mg : Str → Option Value) (fa : Addr) (h : Heap), (K w.params).In h → h.Ns mainGlobals mg → mg "law" = some (.ref fa) → FX (K w.params) mg fa) :
    PySem.W.WalkO q loose XP YP l.row.toRowW d [] (fun f vs => PySem.call f vs) := by
  refine Att.attach_callB hn hdf fun w s₀ s₁ mg mb fa o pm cd doc a vs ns G Y ho hd hcd hmg hobj hi hlen hbits hg => ?_
  have KX := hY w _ Y
  rw [hdn] at hmg
  have fx := F w mg fa _ KX G.T.g hmg
  obtain ⟨C, fI, c, T0, ht, nT, hU, xf, te, oc, kV, doc', pm', cdv, ct, od, an, osl, lk, lc⟩ := fx.ex
  obtain ⟨hC, hT⟩ := PySem.W.tab_of G.T KX hr ht
  have ecd : cdv = .ref c := PySem.W.law_code KX G.T.g ht hmg (KX _ _ lk) rfl
  subst ecd
  obtain ⟨g, fd, FF, hfg, bF⟩ := fx.defs.d49
  have A : At (K w.params) mg mb a T0 c s₁ vs ns := ⟨KX, G.T.g, G.T.b, G.T.builtins, G.T.nolimit, hg, hT, nT, hC, G.T.bmain, hobj, hi, Nat.le_trans hlen (by rw [sizeLine_eq]; decide)⟩
  exact law_call0 A (E := E0) fun base H e0 tb hS hP => law_run (G := ⟨l.prog, w, K w.params, mg, base⟩) (lf_of fx.defs (fx.bi l.prog w base).1 (fx.bi l.prog w base).2.1 (fx.bi l.prog w base).2.2 (hU _ _ _)) (hU _ _ _) xf te FF hfg bF tb lk lc ⟨rfl, by decide, by decide⟩ rfl e0 (.of_eq rfl) hS hP (by omega)
end T
end
section
set_option Elab.async false
set_option linter.all false
set_option maxRecDepth 100000
set_option maxHeartbeats 4000000
namespace T
open PySem PySem.Spec PyProof.Rows L2
/-- Unlike, its own __init__ -/
theorem ux_mk {K : PySem.W.Frag} {h : Heap} {mg : Str → Option Value} {C fI N : Addr} {nm qn : Str} {bs bm sub : List Value} {sn : List Str} {ab : Bool} {col : Option Bool} {dd : Option Addr} {m0 m1 m2 m3 m5 : Option Value} {oc kV doc pm cdv ct : Value} {od an : Option Addr} {osl : Array (Option Value)} (X : K.In h) (G : h.Ns mainGlobals mg)
    (aC : PySem.W.nsIn K mainGlobals "Unlike" = some (some (.ref C))) (xL : K.lookup C = some (excClassObj nm qn C N bs bm true sn sub ab col dd m0 m1 m2 m3 m5 "ValueError.__new__")) (vb : PySem.HandSPX.refsVE bm = true)
    (sa : PySem.W.findIn K (.ref C) "__setattr__" = some (some (.builtin "object.__setattr__"))) (eC : PySem.W.subIn K (.ref C) (.type "BaseException") = some true) (tC : PySem.W.typeIn K (.ref C) = some (.type "type")) (kC : PySem.W.keepIn K (.ref C) = true)
    (nW : PySem.W.findIn K (.ref C) "what" = some none) (aI : PySem.W.findIn K (.ref C) "__init__" = some (some (.ref fI))) (tI : PySem.W.typeIn K (.ref fI) = some (.type "function"))
    (lI : K.lookup fI = some ⟨oc, od, .func (PySem.W.fnOf "__init__" "Unlike.__init__" (defArgs stInit) (defBody stInit) (defScope stInit) .none kV doc pm an cdv ct), osl⟩) (cI : PySem.W.codeIn K cdv "Unlike.__init__" = true) (kI : PySem.W.keepIn K (.ref fI) = true)
    (P : Program) (w : World) (base : Heap) : UTxt ⟨P, w, K, mg, base⟩ C fI where
  gC := PySem.W.mg_of X G aC
  oex := ⟨⟨nm, qn, N, bs, bm, sn, sub, ab, col, dd, m0, m1, m2, m3, m5, xL, vb⟩, sa, eC, tC, kC⟩
  noW := nW
  iC := aI
  tI := tI
  fn := ⟨_, fun_mk (st := stInit) lI cI kI, (fun_mk (st := stInit) lI cI kI).binds (ps := ["self", "what"]) fun _ _ _ _ _ _ us hl => match us, hl with | [_, _], _ => rfl⟩
theorem bi_mk {K : PySem.W.Frag} {h : Heap} {mg : Str → Option Value} {za oa : Addr} {od od1 : Option Addr} {t u t1 u1 : Tok} {n n1 : Nat} {osl osl1 : Array (Option Value)} (X : K.In h) (G : h.Ns mainGlobals mg)
    (z_abs : PySem.W.nsIn K mainGlobals "abs" = some none)
    (z_len : PySem.W.nsIn K mainGlobals "len" = some none)
    (z_isi : PySem.W.nsIn K mainGlobals "isinstance" = some none)
    (z_int : PySem.W.nsIn K mainGlobals "int" = some none)
    (z_str : PySem.W.nsIn K mainGlobals "str" = some none)
    (z_bool : PySem.W.nsIn K mainGlobals "bool" = some none)
    (z_tuple : PySem.W.nsIn K mainGlobals "tuple" = some none)
    (z_list : PySem.W.nsIn K mainGlobals "list" = some none)
    (z_dict : PySem.W.nsIn K mainGlobals "dict" = some none)
    (z_range : PySem.W.nsIn K mainGlobals "range" = some none)
    (z_zip : PySem.W.nsIn K mainGlobals "zip" = some none)
    (z_enum : PySem.W.nsIn K mainGlobals "enumerate" = some none)
    (z_min : PySem.W.nsIn K mainGlobals "min" = some none)
    (z_sorted : PySem.W.nsIn K mainGlobals "sorted" = some none)
    (z_repr : PySem.W.nsIn K mainGlobals "repr" = some none)
    (z_gcd : PySem.W.nsIn K mainGlobals "gcd" = some (some (.builtin "math.gcd"))) (z_lcm : PySem.W.nsIn K mainGlobals "lcm" = some (some (.builtin "math.lcm"))) (z_zero : PySem.W.nsIn K mainGlobals "ZERO" = some (some (.ref za)))
    (l_zero : K.lookup za = some ⟨.type "tuple", od, .seq #[.int 0 t, .int 1 u] n, osl⟩) 
    (z_sum : PySem.W.nsIn K mainGlobals "sum" = some none) (z_one : PySem.W.nsIn K mainGlobals "ONE" = some (some (.ref oa)))
    (l_one : K.lookup oa = some ⟨.type "tuple", od1, .seq #[.int 1 t1, .int 1 u1] n1, osl1⟩) (P : Program) (w : World) (base : Heap) : Bi ⟨P, w, K, mg, base⟩ ∧ OneB ⟨P, w, K, mg, base⟩ ∧ mg "sum" = none := by
  refine ⟨?_, ⟨oa, PySem.W.mg_of X G z_one, fun R => .inr ⟨_, _, _, l_one, rfl, rfl, (by rw [sizeLine_eq]; show 2 ≤ 16777216; decide), .cons ⟨t1, rfl⟩ (.cons ⟨u1, rfl⟩ .nil)⟩⟩, PySem.W.mg_none_of X G z_sum⟩
  constructor
  case abs => exact PySem.W.mg_none_of X G z_abs
  case len => exact PySem.W.mg_none_of X G z_len
  case isi => exact PySem.W.mg_none_of X G z_isi
  case int => exact PySem.W.mg_none_of X G z_int
  case str => exact PySem.W.mg_none_of X G z_str
  case bool => exact PySem.W.mg_none_of X G z_bool
  case tuple => exact PySem.W.mg_none_of X G z_tuple
  case list => exact PySem.W.mg_none_of X G z_list
  case dict => exact PySem.W.mg_none_of X G z_dict
  case range => exact PySem.W.mg_none_of X G z_range
  case zip => exact PySem.W.mg_none_of X G z_zip
  case enum => exact PySem.W.mg_none_of X G z_enum
  case min => exact PySem.W.mg_none_of X G z_min
  case sorted => exact PySem.W.mg_none_of X G z_sorted
  case repr => exact PySem.W.mg_none_of X G z_repr
  case gcd => exact PySem.W.mg_of X G z_gcd
  case lcm => exact PySem.W.mg_of X G z_lcm
  case zero => exact ⟨za, PySem.W.mg_of X G z_zero, fun R => .inr ⟨_, _, _, l_zero, rfl, rfl, (by rw [sizeLine_eq]; show 2 ≤ 16777216; decide), .cons ⟨t, rfl⟩ (.cons ⟨u, rfl⟩ .nil)⟩⟩
theorem fx_mk {K : PySem.W.Frag} {h : Heap} {mg : Str → Option Value} {fa f4 C fI c T0 : Addr} {oc kV doc pm ct occ : Value} {od an odc : Option Addr} {osl oslc : Array (Option Value)} {us : Array Value} (X : K.In h) (G : h.Ns mainGlobals mg) (hmg : mg "law" = some (.ref fa)) (D : Defs K mg) (B : ∀ (P : Program) (w : World) (base : Heap), Bi ⟨P, w, K, mg, base⟩ ∧ OneB ⟨P, w, K, mg, base⟩ ∧ mg "sum" = none) (U : ∀ (P : Program) (w : World) (base : Heap), UTxt ⟨P, w, K, mg, base⟩ C fI)
    (aL : PySem.W.nsIn K mainGlobals "law" = some (some (.ref f4))) (lk : K.lookup f4 = some ⟨oc, od, .func (PySem.W.fnOf "law" "law" (defArgs (top 54)) (defBody (top 54)) lawS .none kV doc pm an (.ref c) ct), osl⟩) (lc : PySem.W.codeIn K (.ref c) "law" = true) (lC : K.lookup c = some ⟨occ, odc, .fields us, oslc⟩) (hv : us[11]? = some (.ref T0)) (nT : K.lookup T0 = none)
    (ga : PySem.W.findIn K (.ref C) "__getattribute__" = some (some (.builtin "BaseException.__getattribute__"))) (gg : PySem.W.findIn K (.ref C) "__getattr__" = some none) (hD : PySem.W.hasDictIn K C = true) (e1 : PySem.W.subIn K (.ref C) (.type "BaseException") = some true) (e2 : PySem.W.isClsIn K C = true) (e3 : PySem.W.typeIn K (.ref C) = some (.type "type")) (e4 : PySem.W.subIn K (.ref C) (.ref C) = some true) : FX K mg fa := by
  have e := hmg.symm.trans (PySem.W.mg_of X G aL)
  cases e
  have ht : PySem.W.tabIn K "law" = some (c, T0) := by
    unfold PySem.W.tabIn
    rw [aL]
    show (match K.lookup fa with | some ⟨_, _, .func fd, _⟩ => _ | _ => none) = _
    rw [lk]
    show (match K.lookup c with | some ⟨_, _, .fields vs, _⟩ => _ | _ => none) = _
    rw [lC]
    show (match (us[11]? : Option Value) with | some (.ref P) => some (c, P) | _ => none) = _
    rw [hv]
  exact ⟨D, B, C, fI, c, T0, ht, nT, U, ⟨ga, gg, e1, hD⟩, exm_own e1 e2 e3 e4, _, _, _, _, _, _, _, _, _, lk, lc⟩
end T
end
section
set_option Elab.async false
set_option linter.all false
set_option maxRecDepth 100000
set_option maxHeartbeats 4000000
open PySem PySem.W PyProof.Rows
set_option maxRecDepth 100000 in
set_option maxHeartbeats 0 in
theorem PySem.Challenge.cw_mutehelms_k07_products_and_inverses_holds : PySem.Challenge.rw_mutehelms_k07_products_and_inverses.Holds := by
  w_on; o_law; k_head; (case hw => w_witness2)
  k_fill
  refine T.walk0 (l := PySem.Challenge.rw_mutehelms_k07_products_and_inverses) rfl rfl rfl (fun w h Y => PySem.W.km_in_of Y) ?hr ?F
  case hr => first | rfl | decide +kernel
  case F =>
    intro w mg fa h KX G hmg
    refine' T.fx_mk KX G hmg ⟨?d6, ?d7, ?d8, ?d9, ?d10, ?d11, ?d12, ?d13, ?d14, ?d16, ?d17, ?d18, ?d19, ?d20, ?d21, ?d22, ?d23, ?d24, ?d25, ?d26, ?d27, ?d28, ?d30, ?d31, ?d32, ?d33, ?d34, ?d35, ?d36, ?d37, ?d38, ?d39, ?d40, ?d41, ?d42, ?d43, ?d44, ?d45, ?d46, ?d47, ?d48, ?d49, ?d50, ?d51, ?d52, ?d53⟩ ?bi ?U ?aL ?lk ?lc ?lC ?hv ?nT ?ga ?gg ?hD ?e1 ?e2 ?e3 ?e4
    case d6 =>
      refine' T.df_mk ["one", "other"] KX G (fun _ _ _ _ _ _ us hl => match us, hl with | [_, _], _ => rfl) ?a ?l ?c ?k
      (case a => k_is); (case l => k_is); (case c => k_is); (case k => k_is)
    case d7 =>
      refine' T.df_mk ["top", "bottom"] KX G (fun _ _ _ _ _ _ us hl => match us, hl with | [_, _], _ => rfl) ?a ?l ?c ?k
      (case a => k_is); (case l => k_is); (case c => k_is); (case k => k_is)
    case d8 =>
      refine' T.df_mk ["top", "bottom"] KX G (fun _ _ _ _ _ _ us hl => match us, hl with | [_, _], _ => rfl) ?a ?l ?c ?k
      (case a => k_is); (case l => k_is); (case c => k_is); (case k => k_is)
    case d9 =>
      refine' T.df_mk ["value"] KX G (fun _ _ _ _ _ _ us hl => match us, hl with | [_], _ => rfl) ?a ?l ?c ?k
      (case a => k_is); (case l => k_is); (case c => k_is); (case k => k_is)
    case d10 =>
      refine' T.df_mk ["values"] KX G (fun _ _ _ _ _ _ us hl => match us, hl with | [_], _ => rfl) ?a ?l ?c ?k
      (case a => k_is); (case l => k_is); (case c => k_is); (case k => k_is)
    case d11 =>
      refine' T.df_mk ["row"] KX G (fun _ _ _ _ _ _ us hl => match us, hl with | [_], _ => rfl) ?a ?l ?c ?k
      (case a => k_is); (case l => k_is); (case c => k_is); (case k => k_is)
    case d12 =>
      refine' T.df_mk ["row"] KX G (fun _ _ _ _ _ _ us hl => match us, hl with | [_], _ => rfl) ?a ?l ?c ?k
      (case a => k_is); (case l => k_is); (case c => k_is); (case k => k_is)
    case d13 =>
      refine' T.df_mk ["row", "lead_row", "at"] KX G (fun _ _ _ _ _ _ us hl => match us, hl with | [_, _, _], _ => rfl) ?a ?l ?c ?k
      (case a => k_is); (case l => k_is); (case c => k_is); (case k => k_is)
    case d14 =>
      refine' T.df_mk ["rows"] KX G (fun _ _ _ _ _ _ us hl => match us, hl with | [_], _ => rfl) ?a ?l ?c ?k
      (case a => k_is); (case l => k_is); (case c => k_is); (case k => k_is)
    case d16 =>
      refine' T.df_mk ["rows", "width"] KX G (fun _ _ _ _ _ _ us hl => match us, hl with | [_, _], _ => rfl) ?a ?l ?c ?k
      (case a => k_is); (case l => k_is); (case c => k_is); (case k => k_is)
    case d17 =>
      refine' T.df_mk ["rows"] KX G (fun _ _ _ _ _ _ us hl => match us, hl with | [_], _ => rfl) ?a ?l ?c ?k
      (case a => k_is); (case l => k_is); (case c => k_is); (case k => k_is)
    case d18 =>
      refine' T.df_mk ["rows"] KX G (fun _ _ _ _ _ _ us hl => match us, hl with | [_], _ => rfl) ?a ?l ?c ?k
      (case a => k_is); (case l => k_is); (case c => k_is); (case k => k_is)
    case d19 =>
      refine' T.df_mk ["rows"] KX G (fun _ _ _ _ _ _ us hl => match us, hl with | [_], _ => rfl) ?a ?l ?c ?k
      (case a => k_is); (case l => k_is); (case c => k_is); (case k => k_is)
    case d20 =>
      refine' T.df_mk ["rows"] KX G (fun _ _ _ _ _ _ us hl => match us, hl with | [_], _ => rfl) ?a ?l ?c ?k
      (case a => k_is); (case l => k_is); (case c => k_is); (case k => k_is)
    case d21 =>
      refine' T.df_mk ["rows"] KX G (fun _ _ _ _ _ _ us hl => match us, hl with | [_], _ => rfl) ?a ?l ?c ?k
      (case a => k_is); (case l => k_is); (case c => k_is); (case k => k_is)
    case d22 =>
      refine' T.df_mk ["row"] KX G (fun _ _ _ _ _ _ us hl => match us, hl with | [_], _ => rfl) ?a ?l ?c ?k
      (case a => k_is); (case l => k_is); (case c => k_is); (case k => k_is)
    case d23 =>
      refine' T.df_mk ["one", "other"] KX G (fun _ _ _ _ _ _ us hl => match us, hl with | [_, _], _ => rfl) ?a ?l ?c ?k
      (case a => k_is); (case l => k_is); (case c => k_is); (case k => k_is)
    case d24 =>
      refine' T.df_mk ["one", "other"] KX G (fun _ _ _ _ _ _ us hl => match us, hl with | [_, _], _ => rfl) ?a ?l ?c ?k
      (case a => k_is); (case l => k_is); (case c => k_is); (case k => k_is)
    case d25 =>
      refine' T.df_mk ["width"] KX G (fun _ _ _ _ _ _ us hl => match us, hl with | [_], _ => rfl) ?a ?l ?c ?k
      (case a => k_is); (case l => k_is); (case c => k_is); (case k => k_is)
    case d26 =>
      refine' T.df_mk ["rows"] KX G (fun _ _ _ _ _ _ us hl => match us, hl with | [_], _ => rfl) ?a ?l ?c ?k
      (case a => k_is); (case l => k_is); (case c => k_is); (case k => k_is)
    case d27 =>
      refine' T.df_mk ["rows", "count"] KX G (fun _ _ _ _ _ _ us hl => match us, hl with | [_, _], _ => rfl) ?a ?l ?c ?k
      (case a => k_is); (case l => k_is); (case c => k_is); (case k => k_is)
    case d28 =>
      refine' T.df_mk ["rows"] KX G (fun _ _ _ _ _ _ us hl => match us, hl with | [_], _ => rfl) ?a ?l ?c ?k
      (case a => k_is); (case l => k_is); (case c => k_is); (case k => k_is)
    case d30 =>
      refine' T.df_mk ["script"] KX G (fun _ _ _ _ _ _ us hl => match us, hl with | [_], _ => rfl) ?a ?l ?c ?k
      (case a => k_is); (case l => k_is); (case c => k_is); (case k => k_is)
    case d31 =>
      refine' T.df_mk ["bag", "many"] KX G (fun _ _ _ _ _ _ us hl => match us, hl with | [_, _], _ => rfl) ?a ?l ?c ?k
      (case a => k_is); (case l => k_is); (case c => k_is); (case k => k_is)
    case d32 =>
      refine' T.df_mk ["bag", "menu"] KX G (fun _ _ _ _ _ _ us hl => match us, hl with | [_, _], _ => rfl) ?a ?l ?c ?k
      (case a => k_is); (case l => k_is); (case c => k_is); (case k => k_is)
    case d33 =>
      refine' T.df_mk ["told", "due"] KX G (fun _ _ _ _ _ _ us hl => match us, hl with | [_, _], _ => rfl) ?a ?l ?c ?k
      (case a => k_is); (case l => k_is); (case c => k_is); (case k => k_is)
    case d34 =>
      refine' T.df_mk ["up", "low"] KX G (fun _ _ _ _ _ _ us hl => match us, hl with | [_, _], _ => rfl) ?a ?l ?c ?k
      (case a => k_is); (case l => k_is); (case c => k_is); (case k => k_is)
    case d35 =>
      refine' T.df_mk ["up", "low"] KX G (fun _ _ _ _ _ _ us hl => match us, hl with | [_, _], _ => rfl) ?a ?l ?c ?k
      (case a => k_is); (case l => k_is); (case c => k_is); (case k => k_is)
    case d36 =>
      refine' T.df_mk ["p", "q"] KX G (fun _ _ _ _ _ _ us hl => match us, hl with | [_, _], _ => rfl) ?a ?l ?c ?k
      (case a => k_is); (case l => k_is); (case c => k_is); (case k => k_is)
    case d37 =>
      refine' T.df_mk ["p", "q"] KX G (fun _ _ _ _ _ _ us hl => match us, hl with | [_, _], _ => rfl) ?a ?l ?c ?k
      (case a => k_is); (case l => k_is); (case c => k_is); (case k => k_is)
    case d38 =>
      refine' T.df_mk ["bag", "odd"] KX G (fun _ _ _ _ _ _ us hl => match us, hl with | [_, _], _ => rfl) ?a ?l ?c ?k
      (case a => k_is); (case l => k_is); (case c => k_is); (case k => k_is)
    case d39 =>
      refine' T.df_mk ["bag", "p"] KX G (fun _ _ _ _ _ _ us hl => match us, hl with | [_, _], _ => rfl) ?a ?l ?c ?k
      (case a => k_is); (case l => k_is); (case c => k_is); (case k => k_is)
    case d40 =>
      refine' T.df_mk ["bag", "ps"] KX G (fun _ _ _ _ _ _ us hl => match us, hl with | [_, _], _ => rfl) ?a ?l ?c ?k
      (case a => k_is); (case l => k_is); (case c => k_is); (case k => k_is)
    case d41 =>
      refine' T.df_mk ["ps", "qs"] KX G (fun _ _ _ _ _ _ us hl => match us, hl with | [_, _], _ => rfl) ?a ?l ?c ?k
      (case a => k_is); (case l => k_is); (case c => k_is); (case k => k_is)
    case d42 =>
      refine' T.df_mk ["ks"] KX G (fun _ _ _ _ _ _ us hl => match us, hl with | [_], _ => rfl) ?a ?l ?c ?k
      (case a => k_is); (case l => k_is); (case c => k_is); (case k => k_is)
    case d43 =>
      refine' T.df_mk ["ps"] KX G (fun _ _ _ _ _ _ us hl => match us, hl with | [_], _ => rfl) ?a ?l ?c ?k
      (case a => k_is); (case l => k_is); (case c => k_is); (case k => k_is)
    case d44 =>
      refine' T.df_mk ["ks", "lead", "col"] KX G (fun _ _ _ _ _ _ us hl => match us, hl with | [_, _, _], _ => rfl) ?a ?l ?c ?k
      (case a => k_is); (case l => k_is); (case c => k_is); (case k => k_is)
    case d45 =>
      refine' T.df_mk ["mat", "wide"] KX G (fun _ _ _ _ _ _ us hl => match us, hl with | [_, _], _ => rfl) ?a ?l ?c ?k
      (case a => k_is); (case l => k_is); (case c => k_is); (case k => k_is)
    case d46 =>
      refine' T.df_mk ["mat", "wide"] KX G (fun _ _ _ _ _ _ us hl => match us, hl with | [_, _], _ => rfl) ?a ?l ?c ?k
      (case a => k_is); (case l => k_is); (case c => k_is); (case k => k_is)
    case d47 =>
      refine' T.df_mk ["mat", "wide"] KX G (fun _ _ _ _ _ _ us hl => match us, hl with | [_, _], _ => rfl) ?a ?l ?c ?k
      (case a => k_is); (case l => k_is); (case c => k_is); (case k => k_is)
    case d48 =>
      refine' T.df_mk ["cols", "tall"] KX G (fun _ _ _ _ _ _ us hl => match us, hl with | [_, _], _ => rfl) ?a ?l ?c ?k
      (case a => k_is); (case l => k_is); (case c => k_is); (case k => k_is)
    case d49 =>
      refine' T.df_mk ["call"] KX G (fun _ _ _ _ _ _ us hl => match us, hl with | [_], _ => rfl) ?a ?l ?c ?k
      (case a => k_is); (case l => k_is); (case c => k_is); (case k => k_is)
    case d50 =>
      refine' T.df_mk ["bag", "tall", "wide"] KX G (fun _ _ _ _ _ _ us hl => match us, hl with | [_, _, _], _ => rfl) ?a ?l ?c ?k
      (case a => k_is); (case l => k_is); (case c => k_is); (case k => k_is)
    case d51 =>
      refine' T.df_mk ["one_mat", "two_mat"] KX G (fun _ _ _ _ _ _ us hl => match us, hl with | [_, _], _ => rfl) ?a ?l ?c ?k
      (case a => k_is); (case l => k_is); (case c => k_is); (case k => k_is)
    case d52 =>
      refine' T.df_mk ["many"] KX G (fun _ _ _ _ _ _ us hl => match us, hl with | [_], _ => rfl) ?a ?l ?c ?k
      (case a => k_is); (case l => k_is); (case c => k_is); (case k => k_is)
    case d53 =>
      refine' T.df_mk ["mat"] KX G (fun _ _ _ _ _ _ us hl => match us, hl with | [_], _ => rfl) ?a ?l ?c ?k
      (case a => k_is); (case l => k_is); (case c => k_is); (case k => k_is)
    case bi =>
      refine' T.bi_mk KX G ?b0 ?b1 ?b2 ?b3 ?b4 ?b5 ?b6 ?b7 ?b8 ?b9 ?b10 ?b11 ?b12 ?b13 ?b14 ?g ?l ?z ?t ?s ?o ?e
      (case b0 => k_is); (case b1 => k_is); (case b2 => k_is); (case b3 => k_is); (case b4 => k_is); (case b5 => k_is); (case b6 => k_is); (case b7 => k_is); (case b8 => k_is); (case b9 => k_is); (case b10 => k_is); (case b11 => k_is); (case b12 => k_is); (case b13 => k_is); (case b14 => k_is); (case g => k_is); (case l => k_is); (case z => k_is); (case t => k_is); (case s => k_is); (case o => k_is); (case e => k_is)
    case U =>
      refine' T.ux_mk KX G ?aC ?xL ?vb ?sa ?eC ?tC ?kC ?nW ?aI ?tI ?lI ?cI ?kI
      (case aC => k_is); (case xL => k_is); (case vb => first | rfl | decide +kernel | k_is); (case sa => k_is); (case eC => k_is); (case tC => k_is); (case kC => k_is); (case nW => k_is); (case aI => k_is); (case tI => k_is); (case lI => k_is); (case cI => k_is); (case kI => k_is)
    (case aL => k_is); (case lk => k_is); (case lc => k_is); (case lC => k_is); (case hv => first | rfl | k_is); (case nT => first | kernel_rfl | rfl | with_unfolding_all rfl); (case ga => k_is); (case gg => k_is); (case hD => k_is); (case e1 => k_is); (case e2 => k_is); (case e3 => k_is); (case e4 => first | rfl | k_is)
#print axioms PySem.Challenge.cw_mutehelms_k07_products_and_inverses_holds
end
