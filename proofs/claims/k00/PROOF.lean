import PyProof.Rows.All
import Wide.All
import OpenK.AllK
import Wide.FinOn
import HandS.ForMost
import HandS.ForExc
import HandS.WideBits
import HandS.Gcd
import HandS.IsInst
import HandS.NoneIn
import HandS.Zip
import HandS.DictComp
import HandS.Text
import HandS.More
import HandS.Conv
import HandS.TupAny
import KE.KMathGC
import HandS.Style
import HandS.TryOnly
import KE.GoesMore
import KE.GoesEnum
import PyProof.EnumMake
import PyProof.WalkInts
import HandS.Wide
import PyProof.CompUse
import PySem.Challenge.RW_mutehelms_k00_errors_and_numbers
import PyProof.Rows.RuleB_bool
import PyProof.Rows.FloatCmp
import HandS.Codes
import HandS.FStr
import HandS.ExcInit
import HandS.ExcField
import HandS.MakeKwOnly
import KE.KExcInit
import KE.KExcIs
import HandS.Defaults
section
set_option Elab.async false
set_option linter.all false
set_option maxRecDepth 100000
set_option maxHeartbeats 1000000
/-! Typed slots over the hand layer: expressions and statements judged on lists of kinds. -/
namespace T
open PySem PySem.Spec PyProof.Rows L2

/-! ### heaps: R what is known for good, H what stands (a locked dict counts as the dict) -/
def Le (R R' : Hp) : Prop := ∀ a o, R a = some o → R' a = some o
theorem Le.refl (R : Hp) : Le R R := fun _ _ h => h
theorem Le.trans {R R1 R2 : Hp} (a : Le R R1) (b : Le R1 R2) : Le R R2 := fun x o h => b x o (a x o h)
theorem Le.upd {R : Hp} {p : Addr} {o : HO} (h : R p = none) : Le R (upd R p o) := fun a u e => by
  rw [upd_ne (ne_of_none e h)]; exact e
def NF : HO → Prop
  | .frz _ _ => False
  | _ => True
def LeR (R H : Hp) : Prop := ∀ a o, R a = some o → H a = some o ∨ (NF o ∧ ∃ ob, H a = some (.frz ob o))
theorem LeR.of {R R' H : Hp} (a : Le R R') (b : LeR R' H) : LeR R H := fun x o h => b x o (a x o h)
theorem LeR.rd {R H : Hp} (l : LeR R H) {a : Addr} {u : HO} (h : Rd R a u) : Rd H a u := by
  rcases h with h | ⟨o, h⟩
  · rcases l a u h with h | ⟨_, ob, h⟩
    · exact .inl h
    · exact .inr ⟨ob, h⟩
  · rcases l a _ h with h | ⟨n, _⟩
    · exact .inr ⟨o, h⟩
    · exact n.elim
theorem LeR.some {R H : Hp} (l : LeR R H) {a : Addr} {o : HO} (h : R a = some o) : ∃ u, H a = some u := by
  rcases l a o h with h | ⟨_, ob, h⟩
  · exact ⟨_, h⟩
  · exact ⟨_, h⟩
theorem LeR.none {R H : Hp} (l : LeR R H) {a : Addr} (h : H a = Option.none) : R a = Option.none := by
  cases q : R a with
  | none => rfl
  | some o =>
    obtain ⟨u, e⟩ := l.some q
    rw [e] at h; cases h
section
variable {K : PySem.W.Frag}
theorem Le.rd {R R' : Hp} (l : Le R R') {a : Addr} {u : HO} (h : Rd R a u) : Rd R' a u := by
  rcases h with h | ⟨o, h⟩
  · exact .inl (l _ _ h)
  · exact .inr ⟨o, l _ _ h⟩
theorem Le.sqL {R R' : Hp} (l : Le R R') {a : Addr} {xs : List V} (h : SqL K R a xs) : SqL K R' a xs := h.elim (fun h => .inl (l.rd h)) .inr
theorem Le.sqT {R R' : Hp} (l : Le R R') {a : Addr} {xs : List V} (h : SqT K R a xs) : SqT K R' a xs := h.elim (fun h => .inl (l.rd h)) .inr
theorem LeR.sqL {R H : Hp} (l : LeR R H) {a : Addr} {xs : List V} (h : SqL K R a xs) : SqL K H a xs := h.elim (fun h => .inl (l.rd h)) .inr
theorem LeR.sqT {R H : Hp} (l : LeR R H) {a : Addr} {xs : List V} (h : SqT K R a xs) : SqT K H a xs := h.elim (fun h => .inl (l.rd h)) .inr
end

/-! ### data relations -/
structure DR (α : Type) where
  rel : Hp → V → α → Prop
  up : ∀ {R R' : Hp} {v : V} {a : α}, Le R R' → rel R v a → rel R' v a
structure CR (γ : Type) where
  rel : Hp → HO → γ → Prop
  up : ∀ {R R' : Hp} {o : HO} {c : γ}, Le R R' → rel R o c → rel R' o c
  nt : ∀ {R : Hp} {o : HO} {c : γ}, rel R o c → (∀ ps, o ≠ .tbl ps) ∧ ∀ f, o ≠ .ext f

def rI : DR Int := ⟨fun _ v i => v = .int i, fun _ h => h⟩
def rB : DR Bool := ⟨fun _ v b => v = .bl b, fun _ h => h⟩
def rS : DR Str := ⟨fun _ v x => v = .str x, fun _ h => h⟩
def rN : DR Unit := ⟨fun _ v _ => v = .non, fun _ h => h⟩
/-- one fixed value -/
def rV (u : V) : DR Unit := ⟨fun _ v _ => v = u, fun _ h => h⟩
def rOpt {α : Type} (A : DR α) : DR (Option α) := ⟨fun R v o => match o with
  | none => v = .non
  | some a => A.rel R v a, fun {_ _ _ o} l h => match o, h with
  | none, h => h
  | some _, h => A.up l h⟩
theorem paired_up {α : Type} (A : DR α) {R R' : Hp} (l : Le R R') {xs : List V} {as : List α} (h : Paired (A.rel R) xs as) : Paired (A.rel R') xs as := L2.Paired.mapP h fun _ _ => A.up l
def rL (_ : PySem.W.Frag) {α : Type} (A : DR α) : DR (List α) := ⟨fun R v as => ∃ a xs, v = .ref a ∧ Rd R a (.lst xs) ∧ Paired (A.rel R) xs as,
  fun l ⟨a, xs, e, h, hp⟩ => ⟨a, xs, e, l.rd h, paired_up A l hp⟩⟩
section
variable (K : PySem.W.Frag)
def rPair {α β : Type} (A : DR α) (B : DR β) : DR (α × β) := ⟨fun R v p => ∃ a x y, v = .ref a ∧ SqT K R a [x, y] ∧ A.rel R x p.1 ∧ B.rel R y p.2,
  fun l ⟨a, x, y, e, h, hx, hy⟩ => ⟨a, x, y, e, l.sqT h, A.up l hx, B.up l hy⟩⟩
def rTri {α β γ : Type} (A : DR α) (B : DR β) (C : DR γ) : DR (α × β × γ) := ⟨fun R v p => ∃ a x y z, v = .ref a ∧ SqT K R a [x, y, z] ∧ A.rel R x p.1 ∧ B.rel R y p.2.1 ∧ C.rel R z p.2.2,
  fun l ⟨a, x, y, z, e, h, hx, hy, hz⟩ => ⟨a, x, y, z, e, l.sqT h, A.up l hx, B.up l hy, C.up l hz⟩⟩
/-- a tuple of one kind of items; a list of them -/
def rT {α : Type} (A : DR α) : DR (List α) := ⟨fun R v as => ∃ a xs, v = .ref a ∧ SqT K R a xs ∧ Paired (A.rel R) xs as,
  fun l ⟨a, xs, e, h, hp⟩ => ⟨a, xs, e, l.sqT h, paired_up A l hp⟩⟩
/-- a list or a tuple -/
def rLT {α : Type} (A : DR α) : DR (List α) := ⟨fun R v as => (rL K A).rel R v as ∨ (rT K A).rel R v as,
  fun l h => h.elim (fun h => .inl ((rL K A).up l h)) fun h => .inr ((rT K A).up l h)⟩
end
/-- a number: a tuple of top and bottom in lowest terms -/
def rQ (K : PySem.W.Frag) : DR Rat := ⟨fun R v q => ∃ a, v = .ref a ∧ SqT K R a [.int q.num, .int q.den], fun l ⟨a, e, h⟩ => ⟨a, e, l.sqT h⟩⟩
/-- a dict with whole keys -/
def KVs {β : Type} (B : DR β) (R : Hp) (kvs : List (Key × V)) (d : List (Int × β)) : Prop := Paired (fun (p : Key × V) (q : Int × β) => p.1 = .inl q.1 ∧ B.rel R p.2 q.2) kvs d
def rD {β : Type} (B : DR β) : DR (List (Int × β)) := ⟨fun R v d => ∃ a kvs, v = .ref a ∧ R a = some (.dK kvs) ∧ KVs B R kvs d,
  fun l ⟨a, kvs, e, h, hp⟩ => ⟨a, kvs, e, l _ _ h, L2.Paired.mapP hp fun _ _ z => ⟨z.1, B.up l z.2⟩⟩⟩
/-- owned cells: a list, a dict with whole keys -/
def cL {α : Type} (A : DR α) : CR (List α) := ⟨fun R o as => ∃ xs, o = .lst xs ∧ Paired (A.rel R) xs as, fun l ⟨xs, e, h⟩ => ⟨xs, e, paired_up A l h⟩, fun ⟨xs, e, _⟩ => ⟨fun ps z => (by rw [e] at z; cases z), fun f z => (by rw [e] at z; cases z)⟩⟩
def cD {β : Type} (B : DR β) : CR (List (Int × β)) := ⟨fun R o d => ∃ kvs, o = .dK kvs ∧ KVs B R kvs d, fun l ⟨kvs, e, h⟩ => ⟨kvs, e, L2.Paired.mapP h fun _ _ z => ⟨z.1, B.up l z.2⟩⟩, fun ⟨kvs, e, _⟩ => ⟨fun ps z => (by rw [e] at z; cases z), fun f z => (by rw [e] at z; cases z)⟩⟩
/-- an owned cell becomes data -/
def FrzC {γ : Type} (C : CR γ) (A : DR γ) : Prop := ∀ R p o c, R p = some o → C.rel R o c → A.rel R (.ref p) c
theorem frz_L {K : PySem.W.Frag} {α : Type} {A : DR α} : FrzC (cL A) (rL K A) := fun R p o c h ⟨xs, e, hp⟩ => ⟨p, xs, rfl, .inl (by rw [h, e]), hp⟩
theorem frz_D {β : Type} {B : DR β} : FrzC (cD B) (rD B) := fun R p o c h ⟨kvs, e, hp⟩ => ⟨p, kvs, rfl, by rw [h, e], hp⟩

/-! ### kinds -/
inductive Kd : Type 1
  | no
  | im {α : Type} (A : DR α) (a : α)
  | ow {γ : Type} (p : Addr) (C : CR γ) (c : γ)
def Kd.rel (R H : Hp) (v : V) : Kd → Prop
  | .no => True
  | .im A a => A.rel R v a
  | .ow p C c => v = .ref p ∧ R p = none ∧ ∃ o, H p = some o ∧ C.rel R o c
def SlotOk (R H : Hp) (s : Option V) (k : Kd) : Prop := k = .no ∨ ∃ v, s = some v ∧ k.rel R H v
def owns : Kd → Addr → Prop
  | .ow p _ _, q => p = q
  | _, _ => False
abbrev Tau := List Kd

structure Ok (F R0 R H : Hp) (σ : L2.St) (τ : Tau) : Prop where
  len : σ.length = τ.length
  fr : Le F H
  le : LeR R H
  r0 : Le R0 R
  nw : ∀ a, R0 a = none → F a ≠ none → R a = none
  sl : ∀ (i : Nat) k, τ[i]? = some k → SlotOk R H (σ[i]?.join) k
  ff : ∀ (i : Nat) k p, τ[i]? = some k → owns k p → F p = none
  inj : ∀ (i j : Nat) k l p, τ[i]? = some k → τ[j]? = some l → owns k p → owns l p → i = j
  nt : ∀ a ps, R a ≠ some (.tbl ps)
structure VOk (F R H : Hp) (τ : Tau) (v : V) (x : Kd) : Prop where
  rel : x.rel R H v
  own : ∀ p, owns x p → F p = none ∧ ∀ (i : Nat) k, τ[i]? = some k → ¬ owns k p

section
variable {F R0 R R' H H' : Hp} {σ : L2.St} {τ : Tau} {p : Addr} {o : HO} {v : V} {x : Kd}
/-- a new object that is not known for good -/
theorem Ok.new (ok : Ok F R0 R H σ τ) (h : H p = none) : Ok F R0 R (upd H p o) σ τ where
  len := ok.len
  fr := fun a u e => by rw [upd_ne (ne_of_none (ok.fr a u e) h)]; exact ok.fr a u e
  le := fun a u e => by
    have hn : a ≠ p := fun z => by rw [z, ok.le.none h] at e; cases e
    rw [upd_ne hn]; exact ok.le a u e
  r0 := ok.r0
  nw := ok.nw
  sl := fun i k e => by
    rcases ok.sl i k e with z | ⟨v, hv, r⟩
    · exact .inl z
    · refine .inr ⟨v, hv, ?_⟩
      cases k with
      | no => trivial
      | im A a => exact r
      | ow q C c =>
        obtain ⟨e1, e2, o', e3, e4⟩ := r
        exact ⟨e1, e2, o', by rw [upd_ne (ne_of_none e3 h)]; exact e3, e4⟩
  ff := ok.ff
  inj := ok.inj
  nt := ok.nt
/-- what stands at p is known for good from now on -/
theorem Ok.know (ok : Ok F R0 R H σ τ) (hR : R p = none) (hF : F p = none) (hH : H p = some o) (hf : ∀ (i : Nat) k, τ[i]? = some k → ¬ owns k p) (ho : ∀ ps, o ≠ .tbl ps) : Ok F R0 (upd R p o) H σ τ where
  len := ok.len
  fr := ok.fr
  le := fun a u e => by
    by_cases hn : a = p
    · subst hn; rw [upd_same] at e; cases e; exact .inl hH
    · rw [upd_ne hn] at e; exact ok.le a u e
  r0 := ok.r0.trans (Le.upd hR)
  nw := fun a h1 h2 => by
    by_cases hn : a = p
    · subst hn; exact absurd hF h2
    · rw [upd_ne hn]; exact ok.nw a h1 h2
  sl := fun i k e => by
    rcases ok.sl i k e with z | ⟨v, hv, r⟩
    · exact .inl z
    · refine .inr ⟨v, hv, ?_⟩
      cases k with
      | no => trivial
      | im A a => exact A.up (Le.upd hR) r
      | ow q C c =>
        obtain ⟨e1, e2, o', e3, e4⟩ := r
        have hq : q ≠ p := fun z => hf i _ e z
        exact ⟨e1, by rw [upd_ne hq]; exact e2, o', e3, C.up (Le.upd hR) e4⟩
  ff := ok.ff
  inj := ok.inj
  nt := fun a ps e => by
    by_cases hn : a = p
    · subst hn; rw [upd_same] at e; exact ho ps (Option.some.inj e)
    · rw [upd_ne hn] at e; exact ok.nt a ps e
theorem Ok.fresh (ok : Ok F R0 R H σ τ) (h : H p = none) : R p = none ∧ F p = none ∧ ∀ (i : Nat) k, τ[i]? = some k → ¬ owns k p := by
  refine ⟨ok.le.none h, ?_, fun i k e hp => ?_⟩
  · cases q : F p with
    | none => rfl
    | some u => rw [ok.fr p u q] at h; cases h
  · rcases ok.sl i k e with z | ⟨v, hv, r⟩
    · subst z; exact hp
    · cases k with
      | no => exact hp
      | im A a => exact hp
      | ow q C c =>
        obtain ⟨_, _, o', e3, _⟩ := r
        have hq : q = p := hp
        rw [hq, h] at e3; cases e3
/-- a new object, known for good -/
theorem Ok.lay (ok : Ok F R0 R H σ τ) (h : H p = none) (ho : ∀ ps, o ≠ .tbl ps := by intro _ z; cases z) : Ok F R0 (upd R p o) (upd H p o) σ τ := by
  obtain ⟨h1, h2, h3⟩ := ok.fresh h
  exact (ok.new h).know h1 h2 upd_same h3 ho
/-- the slots named otherwise -/
theorem Ok.set (ok : Ok F R0 R H σ τ) {i : Nat} (hi : i < τ.length) (w : VOk F R H τ v x) : Ok F R0 R H (σ.set i (some v)) (τ.set i x) where
  len := by simp [ok.len]
  fr := ok.fr
  le := ok.le
  r0 := ok.r0
  nw := ok.nw
  sl := fun j k e => by
    by_cases hj : i = j
    · subst hj
      rw [List.getElem?_set_self hi] at e
      cases e
      refine .inr ⟨v, ?_, w.rel⟩
      rw [List.getElem?_set_self (by rw [ok.len]; exact hi)]
      rfl
    · rw [List.getElem?_set_ne hj] at e
      rw [List.getElem?_set_ne hj]
      exact ok.sl j k e
  ff := fun j k q e hq => by
    by_cases hj : i = j
    · subst hj
      rw [List.getElem?_set_self hi] at e
      cases e
      exact (w.own q hq).1
    · rw [List.getElem?_set_ne hj] at e
      exact ok.ff j k q e hq
  inj := fun j l k m q e1 e2 h1 h2 => by
    by_cases hj : i = j
    · by_cases hl : i = l
      · exact hj.symm.trans hl
      · subst hj
        rw [List.getElem?_set_self hi] at e1
        cases e1
        rw [List.getElem?_set_ne hl] at e2
        exact absurd h2 ((w.own q h1).2 l m e2)
    · rw [List.getElem?_set_ne hj] at e1
      by_cases hl : i = l
      · subst hl
        rw [List.getElem?_set_self hi] at e2
        cases e2
        exact absurd h1 ((w.own q h2).2 j k e1)
      · rw [List.getElem?_set_ne hl] at e2
        exact ok.inj j l k m q e1 e2 h1 h2
  nt := ok.nt
/-- a slot forgotten, or its value's kind told otherwise, nothing more owned -/
theorem Ok.weak (ok : Ok F R0 R H σ τ) {τ' : Tau} (hl : τ'.length = τ.length) (h : ∀ (i : Nat) k', τ'[i]? = some k' → ∃ k, τ[i]? = some k ∧ (k' = k ∨ k' = .no)) : Ok F R0 R H σ τ' where
  len := by rw [hl]; exact ok.len
  fr := ok.fr
  le := ok.le
  r0 := ok.r0
  nw := ok.nw
  sl := fun i k e => by
    obtain ⟨k0, e0, z | z⟩ := h i k e
    · subst z; exact ok.sl i _ e0
    · exact .inl z
  ff := fun i k p e hp => by
    obtain ⟨k0, e0, z | z⟩ := h i k e
    · subst z; exact ok.ff i _ p e0 hp
    · subst z; exact hp.elim
  inj := fun i j k l p e1 e2 h1 h2 => by
    obtain ⟨k0, e0, z | z⟩ := h i k e1
    · obtain ⟨k3, e3, y | y⟩ := h j l e2
      · subst z; subst y; exact ok.inj i j _ _ p e0 e3 h1 h2
      · subst y; exact h2.elim
    · subst z; exact h1.elim
  nt := ok.nt
theorem Ok.forget (ok : Ok F R0 R H σ τ) (i : Nat) : Ok F R0 R H σ (τ.set i .no) := ok.weak (by simp) fun j k' e => by
  by_cases hj : i = j
  · subst hj
    by_cases hi : i < τ.length
    · rw [List.getElem?_set_self hi] at e
      cases e
      exact ⟨_, List.getElem?_eq_getElem hi, .inr rfl⟩
    · rw [List.getElem?_eq_none (by simpa using hi)] at e; cases e
  · rw [List.getElem?_set_ne hj] at e
    exact ⟨k', e, .inl rfl⟩
end

/-! ### from a fresh cell to data -/
inductive Fz : Kd → Kd → Prop
  | im {α : Type} (A : DR α) (a : α) : Fz (.im A a) (.im A a)
  | ow {γ : Type} {p : Addr} {C : CR γ} {A : DR γ} {c : γ} (h : FrzC C A) : Fz (.ow p C c) (.im A c)
  | cv {α β : Type} {A : DR α} {B : DR β} {a : α} {b : β} (h : ∀ R v, A.rel R v a → B.rel R v b) : Fz (.im A a) (.im B b)
  | ov {γ β : Type} {p : Addr} {C : CR γ} {A : DR γ} {B : DR β} {c : γ} {b : β} (h : FrzC C A) (h2 : ∀ R v, A.rel R v c → B.rel R v b) : Fz (.ow p C c) (.im B b)
theorem VOk.freeze {F R0 R H : Hp} {σ : L2.St} {τ : Tau} {v : V} {x y : Kd} (ok : Ok F R0 R H σ τ) (w : VOk F R H τ v x) (h : Fz x y) : ∃ R', Le R R' ∧ Ok F R0 R' H σ τ ∧ y.rel R' H v ∧ VOk F R' H τ v y := by
  cases h with
  | im A a => exact ⟨R, Le.refl R, ok, w.rel, w⟩
  | @ow γ p C A c h =>
    obtain ⟨e1, e2, o, e3, e4⟩ := w.rel
    obtain ⟨hF, hn⟩ := w.own p rfl
    have r : A.rel (upd R p o) v c := by
      rw [e1]
      exact h _ p o c upd_same (C.up (Le.upd e2) e4)
    exact ⟨upd R p o, Le.upd e2, ok.know e2 hF e3 hn (C.nt e4).1, r, ⟨r, fun _ z => z.elim⟩⟩
  | @cv α β A B a b h => exact ⟨R, Le.refl R, ok, h R v w.rel, ⟨h R v w.rel, fun _ z => z.elim⟩⟩
  | @ov γ β p C A B c b h h2 =>
    obtain ⟨e1, e2, o, e3, e4⟩ := w.rel
    obtain ⟨hF, hn⟩ := w.own p rfl
    have r : B.rel (upd R p o) v b := by
      refine h2 _ _ ?_
      rw [e1]
      exact h _ p o c upd_same (C.up (Le.upd e2) e4)
    exact ⟨upd R p o, Le.upd e2, ok.know e2 hF e3 hn (C.nt e4).1, r, ⟨r, fun _ z => z.elim⟩⟩
theorem VOk.im {F R H : Hp} {τ : Tau} {v : V} {α : Type} {A : DR α} {a : α} (h : A.rel R v a) : VOk F R H τ v (.im A a) := ⟨h, fun _ z => z.elim⟩
end T
end
section
set_option Elab.async false
set_option linter.all false
set_option autoImplicit false
set_option maxRecDepth 100000
set_option maxHeartbeats 1000000
namespace T
open PySem PySem.Spec PyProof.Rows L2

/-! ### judgements -/
abbrev KK := Kd → Tau → Prop
def W (te : TE) (τ : Tau) (k : KK) : Prop := ∀ (σ : L2.St) (H F R0 R : Hp) (Q : VK), Ok F R0 R H σ τ →
  (∀ x τ' v R' H', k x τ' → Le R R' → Ok F R0 R' H' σ τ' → VOk F R' H' τ' v x → Q v H') → te σ H Q
def sem (X : Cx) (e : Expr) : TE := fun σ H Q => ∀ pins s, Inv X pins σ H s → wpAny (model X.prog X.w) X.A (eval e X.env) (L2.EP X pins σ Q) X.xe s
theorem pe_sem {X : Cx} {e : Expr} : PE X e (sem X e) := ⟨fun pins s σ H Q I h => h pins s I⟩
def E (X : Cx) (e : Expr) (τ : Tau) (k : KK) : Prop := W (sem X e) τ k
theorem E.of {X : Cx} {e : Expr} {te : TE} {τ : Tau} {k : KK} (h : PE X e te) (w : W te τ k) : E X e τ k :=
  fun σ H F R0 R Q ok q pins s I => h.run pins s σ H Q I (w σ H F R0 R Q ok q)
theorem W.mono {te : TE} {τ : Tau} {k k' : KK} (h : W te τ k) (m : ∀ x τ', k x τ' → k' x τ') : W te τ k' :=
  fun σ H F R0 R Q ok q => h σ H F R0 R Q ok fun x τ' v R' H' z => q x τ' v R' H' (m x τ' z)

/-- places: a slot's own value, or a value at hand -/
inductive Pl : Type 1
  | slot (i : Nat)
  | val (x : Kd)
def Pl.kd (τ : Tau) : Pl → Option Kd
  | .slot i => τ[i]?
  | .val x => some x
def Pl.at (σ : L2.St) (R H : Hp) (v : V) : Pl → Prop
  | .slot i => σ[i]? = some (some v)
  | .val x => x.rel R H v ∧ ∀ p, ¬ owns x p
theorem Pl.up {σ : L2.St} {R R' H H' : Hp} {v : V} {p : Pl} (l : Le R R') (h : p.at σ R H v) : p.at σ R' H' v := by
  cases p with
  | slot i => exact h
  | val x =>
    obtain ⟨h, n⟩ := h
    refine ⟨?_, n⟩
    cases x with
    | no => trivial
    | im A a => exact A.up l h
    | ow q C c => exact absurd rfl (n q)
theorem Pl.rel {F R0 R H : Hp} {σ : L2.St} {τ : Tau} {v : V} {p : Pl} {x : Kd} (ok : Ok F R0 R H σ τ) (h : p.at σ R H v) (e : p.kd τ = some x) : x.rel R H v := by
  cases p with
  | slot i =>
    have h' : σ[i]? = some (some v) := h
    have e' : τ[i]? = some x := e
    rcases ok.sl i x e' with z | ⟨u, hu, r⟩
    · subst z; trivial
    · rw [h'] at hu
      cases hu
      exact r
  | val y =>
    cases e
    exact h.1
def WP (te : TE) (τ : Tau) (k : Pl → Tau → Prop) : Prop := ∀ (σ : L2.St) (H F R0 R : Hp) (Q : VK), Ok F R0 R H σ τ →
  (∀ p τ' v R' H', k p τ' → Le R R' → Ok F R0 R' H' σ τ' → p.at σ R' H' v → Q v H') → te σ H Q
def P (X : Cx) (e : Expr) (τ : Tau) (k : Pl → Tau → Prop) : Prop := WP (sem X e) τ k

/-- tests -/
def WT (tt : TT) (τ : Tau) (k : Bool → Tau → Prop) : Prop := ∀ (σ : L2.St) (H F R0 R : Hp) (Q : Bool → Hp → Prop), Ok F R0 R H σ τ →
  (∀ b τ' R' H', k b τ' → Le R R' → Ok F R0 R' H' σ τ' → Q b H') → tt σ H Q
def semT (X : Cx) (e : Expr) : TT := fun σ H Q => ∀ pins s, Inv X pins σ H s → ∀ whole, wpAny (model X.prog X.w) X.A (isTrue e X.env whole) (L2.TP X pins σ Q) X.xe s
def semT0 (X : Cx) (e : Expr) : TT := fun σ H Q => ∀ pins s, Inv X pins σ H s → wpAny (model X.prog X.w) X.A (isTrue e X.env (eval e X.env)) (L2.TP X pins σ Q) X.xe s
theorem pt_sem {X : Cx} {e : Expr} : PT X e (semT0 X e) := ⟨fun pins s σ H Q I h => h pins s I⟩
def C (X : Cx) (e : Expr) (τ : Tau) (k : Bool → Tau → Prop) : Prop := WT (semT0 X e) τ k
theorem C.of {X : Cx} {e : Expr} {tt : TT} {τ : Tau} {k : Bool → Tau → Prop} (h : PT X e tt) (w : WT tt τ k) : C X e τ k :=
  fun σ H F R0 R Q ok q pins s I => h.run pins s σ H Q I (w σ H F R0 R Q ok q)
/-- arguments -/
abbrev Ks := List Pl → Tau → Prop
def PlAll (σ : L2.St) (R H : Hp) : List V → List Pl → Prop
  | [], [] => True
  | v :: vs, p :: ps => p.at σ R H v ∧ PlAll σ R H vs ps
  | _, _ => False
theorem PlAll.up {σ : L2.St} {R R' H H' : Hp} (l : Le R R') : ∀ {vs : List V} {ps : List Pl}, PlAll σ R H vs ps → PlAll σ R' H' vs ps
  | [], [], _ => trivial
  | _ :: _, _ :: _, h => ⟨Pl.up l h.1, PlAll.up l h.2⟩
def WA (ta : TA) (τ : Tau) (k : Ks) : Prop := ∀ (σ : L2.St) (H F R0 R : Hp) (Q : List V → Hp → Prop), Ok F R0 R H σ τ →
  (∀ ps τ' vs R' H', k ps τ' → Le R R' → Ok F R0 R' H' σ τ' → PlAll σ R' H' vs ps → Q vs H') → ta σ H Q
def semA (X : Cx) (es : List Expr) : TA := fun σ H Q => ∀ pos pins s, Inv X pins σ H s → wpAny (model X.prog X.w) X.A (spliced (backTo pos (starEach es X.env))) (L2.AP X pins σ Q) X.xe s
theorem pa_sem {X : Cx} {es : List Expr} : PA X es (semA X es) := ⟨fun pos pins s σ H Q I h => h pos pins s I⟩
def A (X : Cx) (es : List Expr) (τ : Tau) (k : Ks) : Prop := WA (semA X es) τ k
theorem A.of {X : Cx} {es : List Expr} {ta : TA} {τ : Tau} {k : Ks} (h : PA X es ta) (w : WA ta τ k) : A X es τ k :=
  fun σ H F R0 R Q ok q pos pins s I => h.run pos pins s σ H Q I (w σ H F R0 R Q ok q)

/-- where one stands -/
structure Gm where
  P : Program
  w : World
  K : PySem.W.Frag
  mg : Str → Option Value
  base : Heap
structure XF (G : Gm) (X : Cx) (N : List Str) (sc : Scope) (n : Nat) : Prop where
  ep : X.prog = G.P
  ew : X.w = G.w
  eK : X.K = G.K
  emg : X.mg = G.mg
  eb : X.base = G.base
  eN : X.N = N
  es : X.env.scope = sc
  calm : X.calm = true
  room : Room n X.A
  nd : N.Nodup
section
variable {G : Gm} {X : Cx} {N : List Str} {sc : Scope} {n : Nat} {τ τ1 : Tau} {k : KK} {e a b : Expr} {pos : Pos}
theorem XF.gl (hX : XF G X N sc n) {x : Str} (h : sc.names.lookup x = some .globalImplicit) : Gl X x := by
  show X.env.scope.names.lookup x = some .globalImplicit
  rw [hX.es]; exact h
theorem XF.vis (hX : XF G X N sc n) {x : Str} (h : Vis sc x) : Vis X.env.scope x := by rw [hX.es]; exact h
theorem XF.loc (hX : XF G X N sc n) {x : Str} (h : Loc sc x) : Loc X.env.scope x := by rw [hX.es]; exact h
theorem XF.mgN (hX : XF G X N sc n) {x : Str} {u : Option Value} (h : G.mg x = u) : X.mg x = u := by rw [hX.emg]; exact h
theorem XF.hu (hX : XF G X N sc n) : X.A.units + 1 < cLine := hu_of hX.room

/-! ### names, constants -/
theorem w_var {i : Nat} {α : Type} {A : DR α} {a : α} (ht : τ[i]? = some (.im A a)) (h : k (.im A a) τ) : W (tVar i) τ k := fun σ H F R0 R Q ok q => by
  rcases ok.sl i _ ht with z | ⟨v, hv, r⟩
  · cases z
  · cases hs : σ[i]? with
    | none => rw [hs] at hv; cases hv
    | some u =>
      rw [hs] at hv
      have hu : u = some v := hv
      subst hu
      exact ⟨v, hs, q _ τ v R H h (Le.refl R) ok ⟨r, fun _ z => z.elim⟩⟩
theorem w_varP {i : Nat} {k : Pl → Tau → Prop} {x : Kd} (ht : τ[i]? = some x) (hx : x ≠ .no) (h : k (.slot i) τ) : WP (tVar i) τ k := fun σ H F R0 R Q ok q => by
  rcases ok.sl i _ ht with z | ⟨v, hv, r⟩
  · exact absurd z hx
  · cases hs : σ[i]? with
    | none => rw [hs] at hv; cases hv
    | some u =>
      rw [hs] at hv
      have hu : u = some v := hv
      subst hu
      exact ⟨v, hs, q (.slot i) τ v R H h (Le.refl R) ok hs⟩
theorem w_c {v : V} {α : Type} {A : DR α} {a : α} (hr : ∀ R, A.rel R v a) (h : k (.im A a) τ) : W (tC v) τ k := fun σ H F R0 R Q ok q =>
  q _ τ v R H h (Le.refl R) ok ⟨hr R, fun _ z => z.elim⟩
/-- a cell's slot becomes data -/
theorem w_frz {i : Nat} {γ : Type} {p : Addr} {C : CR γ} {A : DR γ} {c : γ} (ht : τ[i]? = some (.ow p C c)) (f : FrzC C A) (h : k (.im A c) (τ.set i (.im A c))) : W (tVar i) τ k := fun σ H F R0 R Q ok q => by
  rcases ok.sl i _ ht with z | ⟨v, hv, e1, e2, o, e3, e4⟩
  · cases z
  · cases hs : σ[i]? with
    | none => rw [hs] at hv; cases hv
    | some u =>
      rw [hs] at hv
      have hu : u = some v := hv
      subst hu
      have hi : i < τ.length := (List.getElem?_eq_some_iff.mp ht).1
      have okw := ok.forget i
      have hR : A.rel (upd R p o) v c := by rw [e1]; exact f _ p o c upd_same (C.up (Le.upd e2) e4)
      have okn : Ok F R0 (upd R p o) H σ (τ.set i .no) := okw.know e2 (ok.ff i _ p ht rfl) e3 (ho := (C.nt e4).1) fun j l el hl => by
        by_cases hj : i = j
        · subst hj
          rw [List.getElem?_set_self hi] at el
          cases el
          exact hl
        · rw [List.getElem?_set_ne hj] at el
          exact hj (ok.inj i j _ l p ht el rfl hl)
      have oks := okn.set (i := i) (v := v) (x := .im A c) (by simpa using hi) ⟨hR, fun _ z => z.elim⟩
      have es : σ.set i (some v) = σ := by
        apply List.ext_getElem?
        intro j
        by_cases hj : i = j
        · subst hj
          rw [List.getElem?_set_self (by rw [ok.len]; exact hi), hs]
        · rw [List.getElem?_set_ne hj]
      rw [es, List.set_set] at oks
      exact ⟨v, hs, q _ _ v _ H h (Le.upd e2) oks ⟨hR, fun _ z => z.elim⟩⟩
theorem E_name {i : Nat} {x : Str} {α : Type} {A : DR α} {a : α} (hX : XF G X N sc n) (hN : N[i]? = some x) (hv : Vis sc x) (ht : τ[i]? = some (.im A a)) (h : k (.im A a) τ)
    (hd : (x == ("__debug__" : Str)) = false := by decide) (hcd : (x == ("__classdict__" : Str)) = false := by decide) : E X (.Name x pos) τ k :=
  E.of (pe_var (i := i) (by rw [hX.eN]; exact hN) (hX.vis hv) hd hcd) (w_var ht h)
theorem E_frz {i : Nat} {x : Str} {γ : Type} {p : Addr} {C : CR γ} {A : DR γ} {c : γ} (hX : XF G X N sc n) (hN : N[i]? = some x) (hv : Vis sc x) (ht : τ[i]? = some (.ow p C c)) (f : FrzC C A) (h : k (.im A c) (τ.set i (.im A c)))
    (hd : (x == ("__debug__" : Str)) = false := by decide) (hcd : (x == ("__classdict__" : Str)) = false := by decide) : E X (.Name x pos) τ k :=
  E.of (pe_var (i := i) (by rw [hX.eN]; exact hN) (hX.vis hv) hd hcd) (w_frz ht f h)
theorem P.of {k : Pl → Tau → Prop} {te : TE} (h : PE X e te) (w : WP te τ k) : P X e τ k :=
  fun σ H F R0 R Q ok q pins s I => h.run pins s σ H Q I (w σ H F R0 R Q ok q)
theorem P_name {i : Nat} {x : Str} {k : Pl → Tau → Prop} {y : Kd} (hX : XF G X N sc n) (hN : N[i]? = some x) (hv : Vis sc x) (ht : τ[i]? = some y) (hy : y ≠ .no) (h : k (.slot i) τ)
    (hd : (x == ("__debug__" : Str)) = false := by decide) (hcd : (x == ("__classdict__" : Str)) = false := by decide) : P X (.Name x pos) τ k :=
  P.of (pe_var (i := i) (by rw [hX.eN]; exact hN) (hX.vis hv) hd hcd) (w_varP ht hy h)
theorem P_val {k : Pl → Tau → Prop} (h : E X e τ fun x τ' => ∃ α, ∃ A : DR α, ∃ a, Fz x (.im A a) ∧ k (.val (.im A a)) τ') : P X e τ k := fun σ H F R0 R Q ok q =>
  h σ H F R0 R Q ok fun x τ' v R' H' ⟨α, A, a, fz, hk⟩ l ok' w => by
    obtain ⟨R2, l2, ok2, r2, _⟩ := VOk.freeze ok' w fz
    exact q _ τ' v R2 H' hk (l.trans l2) ok2 ⟨r2, fun _ z => z⟩
theorem E_int {i : Int} {j} (h : k (.im rI i) τ) : E X (.Constant (.int i) j pos) τ k := E.of pe_int (w_c (fun _ => rfl) h)
theorem E_bool {i : Bool} {j} (h : k (.im rB i) τ) : E X (.Constant (.bool i) j pos) τ k := E.of pe_bl (w_c (fun _ => rfl) h)
theorem E_none {j} (h : k (.im rN ()) τ) : E X (.Constant .none j pos) τ k := E.of pe_non (w_c (fun _ => rfl) h)
theorem E_str {i : Str} {j} (h : k (.im rS i) τ) : E X (.Constant (.str i) j pos) τ k := E.of pe_str (w_c (fun _ => rfl) h)
/-- a module's constant -/
theorem E_glob {x : Str} {v : V} {u : Value} {α : Type} {A : DR α} {a : α} (hX : XF G X N sc n) (hg : sc.names.lookup x = some .globalImplicit) (hm : G.mg x = some u) (r : RelV v u) (hr : ∀ R, A.rel R v a) (h : k (.im A a) τ)
    (hdb : (x == ("__debug__" : Str)) = false := by decide) : E X (.Name x pos) τ k :=
  E.of (pe_glob (hX.gl hg) (hX.mgN hm) r hdb) (w_c hr h)

/-! ### operators on values that are data: what a two-place reading gives -/
/-- an operand that is data -/
theorem W.data {te : TE} (h : W te τ k) : ∀ (σ : L2.St) (H F R0 R : Hp) (Q : VK), Ok F R0 R H σ τ → (∀ x τ' v R' H', k x τ' → Le R R' → Ok F R0 R' H' σ τ' → VOk F R' H' τ' v x → Q v H') → te σ H Q := h
theorem w_op {ta tb : TE} {r : R2} {α β : Type} {A : DR α} {B : DR β} {k1 : KK}
    (ha : W ta τ fun x τ1 => ∃ a, Fz x (.im A a) ∧ W tb τ1 fun y τ2 => ∃ b, Fz y (.im B b) ∧
      ∀ (σ : L2.St) (H F R0 R : Hp) (Q : VK) (v u : V), Ok F R0 R H σ τ2 → A.rel R v a → B.rel R u b → (∀ x τ' v R' H', k x τ' → Le R R' → Ok F R0 R' H' σ τ' → VOk F R' H' τ' v x → Q v H') → r v u H Q) : W (tOp r ta tb) τ k :=
  fun σ H F R0 R Q ok q => ha σ H F R0 R _ ok fun x τ1 v R1 H1 ⟨a, fz, hb⟩ l1 ok1 w1 => by
    obtain ⟨R2, l2, ok2, r2, _⟩ := VOk.freeze ok1 w1 fz
    refine hb σ H1 F R0 R2 _ ok2 fun y τ2 u R3 H3 ⟨b, fz', hr⟩ l3 ok3 w3 => ?_
    obtain ⟨R4, l4, ok4, r4, _⟩ := VOk.freeze ok3 w3 fz'
    exact hr σ H3 F R0 R4 Q v u ok4 (A.up (l3.trans l4) r2) r4 fun x τ' v' R' H' hk l => q x τ' v' R' H' hk (((l1.trans l2).trans (l3.trans l4)).trans l)
/-- two ints give something flat -/
theorem w_opI {ta tb : TE} {Cn : Int → Int → Prop} {g : Int → Int → V} {γ : Type} {D : DR γ} {f : Int → Int → γ} (hf : ∀ R i j, D.rel R (g i j) (f i j))
    (ha : W ta τ fun x τ1 => ∃ i, Fz x (.im T.rI i) ∧ W tb τ1 fun y τ2 => ∃ j, Fz y (.im T.rI j) ∧ Cn i j ∧ k (.im D (f i j)) τ2) : W (tOp (L2.rI Cn g) ta tb) τ k :=
  w_op (A := T.rI) (B := T.rI) (k1 := k) (ha.mono fun x τ1 ⟨i, fz, hb⟩ => ⟨i, fz, hb.mono fun y τ2 ⟨j, fz', hc, hk⟩ => ⟨j, fz', fun σ H F R0 R Q v u ok r1 r2 q =>
    ⟨i, j, r1, r2, hc, q _ τ2 _ R H hk (Le.refl R) ok (VOk.im (hf R i j))⟩⟩⟩)
theorem w_opI0 {ta tb : TE} {g : Int → Int → V} {γ : Type} {D : DR γ} {f : Int → Int → γ} (hf : ∀ R i j, D.rel R (g i j) (f i j))
    (ha : W ta τ fun x τ1 => ∃ i, Fz x (.im T.rI i) ∧ W tb τ1 fun y τ2 => ∃ j, Fz y (.im T.rI j) ∧ k (.im D (f i j)) τ2) : W (tOp (L2.rI0 g) ta tb) τ k :=
  w_op (A := T.rI) (B := T.rI) (k1 := k) (ha.mono fun x τ1 ⟨i, fz, hb⟩ => ⟨i, fz, hb.mono fun y τ2 ⟨j, fz', hk⟩ => ⟨j, fz', fun σ H F R0 R Q v u ok r1 r2 q =>
    ⟨i, j, r1, r2, q _ τ2 _ R H hk (Le.refl R) ok (VOk.im (hf R i j))⟩⟩⟩)
theorem E_add (h : E X a τ fun x τ1 => ∃ i, Fz x (.im rI i) ∧ E X b τ1 fun y τ2 => ∃ j, Fz y (.im rI j) ∧ k (.im rI (i + j)) τ2) : E X (.BinOp a .Add b pos) τ k :=
  E.of (pe_op op_add pe_sem pe_sem) (w_opI0 (D := rI) (f := fun i j => i + j) (fun _ _ _ => rfl) h)
theorem E_sub (h : E X a τ fun x τ1 => ∃ i, Fz x (.im rI i) ∧ E X b τ1 fun y τ2 => ∃ j, Fz y (.im rI j) ∧ k (.im rI (i - j)) τ2) : E X (.BinOp a .Sub b pos) τ k :=
  E.of (pe_op op_sub pe_sem pe_sem) (w_opI0 (D := rI) (f := fun i j => i - j) (fun _ _ _ => rfl) h)
theorem E_mul (h : E X a τ fun x τ1 => ∃ i, Fz x (.im rI i) ∧ E X b τ1 fun y τ2 => ∃ j, Fz y (.im rI j) ∧ CMulX i j ∧ k (.im rI (i * j)) τ2) : E X (.BinOp a .Mult b pos) τ k :=
  E.of (pe_op op_mulX pe_sem pe_sem) (w_opI (D := rI) (f := fun i j => i * j) (fun _ _ _ => rfl) h)
theorem E_mod (h : E X a τ fun x τ1 => ∃ i, Fz x (.im rI i) ∧ E X b τ1 fun y τ2 => ∃ j, Fz y (.im rI j) ∧ 0 < j ∧ k (.im rI (i % j)) τ2) : E X (.BinOp a .Mod b pos) τ k :=
  E.of (pe_op op_mod pe_sem pe_sem) (w_opI (D := rI) (f := fun i j => i % j) (fun _ _ _ => rfl) h)
theorem E_fdiv (h : E X a τ fun x τ1 => ∃ i, Fz x (.im rI i) ∧ E X b τ1 fun y τ2 => ∃ j, Fz y (.im rI j) ∧ CDivN i j ∧ k (.im rI (i.fdiv j)) τ2) : E X (.BinOp a .FloorDiv b pos) τ k :=
  E.of (pe_op op_fdivN pe_sem pe_sem) (w_opI (D := rI) (f := fun i j => i.fdiv j) (fun _ _ _ => rfl) h)
theorem E_pow (h : E X a τ fun x τ1 => ∃ i, Fz x (.im rI i) ∧ E X b τ1 fun y τ2 => ∃ j, Fz y (.im rI j) ∧ CPow i j ∧ k (.im rI (i ^ j.toNat)) τ2) : E X (.BinOp a .Pow b pos) τ k :=
  E.of (pe_op op_pow pe_sem pe_sem) (w_opI (D := rI) (f := fun i j => i ^ j.toNat) (fun _ _ _ => rfl) h)
theorem w_un {ta : TE} {r : V → Hp → VK → Prop} {α : Type} {A : DR α}
    (ha : W ta τ fun x τ1 => ∃ a, Fz x (.im A a) ∧
      ∀ (σ : L2.St) (H F R0 R : Hp) (Q : VK) (v : V), Ok F R0 R H σ τ1 → A.rel R v a → (∀ x τ' v R' H', k x τ' → Le R R' → Ok F R0 R' H' σ τ' → VOk F R' H' τ' v x → Q v H') → r v H Q) : W (tUn r ta) τ k :=
  fun σ H F R0 R Q ok q => ha σ H F R0 R _ ok fun x τ1 v R1 H1 ⟨a, fz, hr⟩ l1 ok1 w1 => by
    obtain ⟨R2, l2, ok2, r2, _⟩ := VOk.freeze ok1 w1 fz
    exact hr σ H1 F R0 R2 Q v ok2 r2 fun x τ' v' R' H' hk l => q x τ' v' R' H' hk ((l1.trans l2).trans l)
theorem E_neg (h : E X a τ fun x τ1 => ∃ i, Fz x (.im rI i) ∧ k (.im rI (-i)) τ1) : E X (.UnaryOp .USub a pos) τ k :=
  E.of (pe_un un_neg pe_sem) (w_un (A := rI) (h.mono fun x τ1 ⟨i, fz, hk⟩ => ⟨i, fz, fun σ H F R0 R Q v ok r q => ⟨i, r, q _ τ1 _ R H hk (Le.refl R) ok (VOk.im rfl)⟩⟩))
/-- comparisons of ints -/
theorem E_lt (h : E X a τ fun x τ1 => ∃ i, Fz x (.im rI i) ∧ E X b τ1 fun y τ2 => ∃ j, Fz y (.im rI j) ∧ k (.im rB (decide (i < j))) τ2) : E X (.Compare a [.Lt] [b] pos) τ k :=
  E.of (pe_cmpR op_lt pe_sem pe_sem (nomark _)) (w_opI0 (D := rB) (f := fun i j => decide (i < j)) (fun _ _ _ => rfl) h)
theorem E_le (h : E X a τ fun x τ1 => ∃ i, Fz x (.im rI i) ∧ E X b τ1 fun y τ2 => ∃ j, Fz y (.im rI j) ∧ k (.im rB (decide (i ≤ j))) τ2) : E X (.Compare a [.LtE] [b] pos) τ k :=
  E.of (pe_cmpR op_le pe_sem pe_sem (nomark _)) (w_opI0 (D := rB) (f := fun i j => decide (i ≤ j)) (fun _ _ _ => rfl) h)
theorem E_gt (h : E X a τ fun x τ1 => ∃ i, Fz x (.im rI i) ∧ E X b τ1 fun y τ2 => ∃ j, Fz y (.im rI j) ∧ k (.im rB (decide (j < i))) τ2) : E X (.Compare a [.Gt] [b] pos) τ k :=
  E.of (pe_cmpR op_gt pe_sem pe_sem (nomark _)) (w_opI0 (D := rB) (f := fun i j => decide (j < i)) (fun _ _ _ => rfl) h)
theorem E_ge (h : E X a τ fun x τ1 => ∃ i, Fz x (.im rI i) ∧ E X b τ1 fun y τ2 => ∃ j, Fz y (.im rI j) ∧ k (.im rB (decide (j ≤ i))) τ2) : E X (.Compare a [.GtE] [b] pos) τ k :=
  E.of (pe_cmpR op_ge pe_sem pe_sem (nomark _)) (w_opI0 (D := rB) (f := fun i j => decide (j ≤ i)) (fun _ _ _ => rfl) h)
/-! ### == of data at any depth -/
/-- what a relation's data look like through and through -/
def Deep (K : PySem.W.Frag) {α : Type} (A : DR α) (f : α → PyData) : Prop := ∀ R v a, A.rel R v a → ∀ H, LeR R H → Dp K H v (f a)
theorem deep_I {K : PySem.W.Frag} : Deep K rI (fun i => .int i) := fun R v a h H l => by cases h; exact .int a
theorem deep_B {K : PySem.W.Frag} : Deep K rB (fun i => .bool i) := fun R v a h H l => by cases h; exact .bl a
theorem deep_S {K : PySem.W.Frag} : Deep K rS (fun i => .str i) := fun R v a h H l => by cases h; exact .str a
theorem deep_N {K : PySem.W.Frag} : Deep K rN (fun _ => .none) := fun R v a h H l => by cases h; exact .non
theorem deep_all {K : PySem.W.Frag} {α : Type} {A : DR α} {f : α → PyData} (hA : Deep K A f) {R H : Hp} (l : LeR R H) : ∀ {xs : List V} {as : List α}, Paired (A.rel R) xs as → DpAll K H xs (as.map f)
  | _, _, .nil => .nil
  | _, _, .cons r t => .cons (hA R _ _ r H l) (deep_all hA l t)
theorem deep_L {K : PySem.W.Frag} {α : Type} {A : DR α} {f : α → PyData} (hA : Deep K A f) : Deep K (rL K A) (fun l => .list (l.map f)) := fun R v as ⟨a, xs, e, h, hp⟩ H l => by
  subst e; exact .lst (.inl (l.rd h)) (deep_all hA l hp)
theorem deep_T {K : PySem.W.Frag} {α : Type} {A : DR α} {f : α → PyData} (hA : Deep K A f) : Deep K (rT K A) (fun l => .tuple (l.map f)) := fun R v as ⟨a, xs, e, h, hp⟩ H l => by
  subst e; exact .tup (l.sqT h) (deep_all hA l hp)
theorem deep_P {K : PySem.W.Frag} {α β : Type} {A : DR α} {B : DR β} {f : α → PyData} {g : β → PyData} (hA : Deep K A f) (hB : Deep K B g) : Deep K (rPair K A B) (fun p => .tuple [f p.1, g p.2]) := fun R v as ⟨a, x, y, e, h, h1, h2⟩ H l => by
  subst e; exact .tup (l.sqT h) (.cons (hA R _ _ h1 H l) (.cons (hB R _ _ h2 H l) .nil))
theorem deep_Q {K : PySem.W.Frag} : Deep K (rQ K) (fun q => .tuple [.int q.num, .int q.den]) := fun R v q ⟨a, e, h⟩ H l => by
  subst e; exact .tup (l.sqT h) (.cons (.int _) (.cons (.int _) .nil))
theorem E_eqD {α β : Type} {A : DR α} {B : DR β} {f : α → PyData} {g : β → PyData} (hX : XF G X N sc n) (hA : Deep G.K A f) (hB : Deep G.K B g)
    (h : E X a τ fun x τ1 => ∃ i, Fz x (.im A i) ∧ E X b τ1 fun y τ2 => ∃ j, Fz y (.im B j) ∧ SeqAt.shaped (f i) = true ∧ SeqAt.shaped (g j) = true ∧ k (.im rB (PyData.eqv (f i) (g j))) τ2) : E X (.Compare a [.Eq] [b] pos) τ k :=
  E.of (pe_cmpR (op_eqD hX.room.units) pe_sem pe_sem (nomark _)) (w_op (A := A) (B := B) (k1 := k) (h.mono fun x τ1 ⟨i, fz, hb⟩ => ⟨i, fz, hb.mono fun y τ2 ⟨j, fz', s1, s2, hk⟩ => ⟨j, fz', fun σ H F R0 R Q v u ok r1 r2 q =>
    ⟨f i, g j, by rw [hX.eK]; exact hA R v i r1 H ok.le, by rw [hX.eK]; exact hB R u j r2 H ok.le, s1, s2, q _ τ2 _ R H hk (Le.refl R) ok (VOk.im rfl)⟩⟩⟩))
theorem E_neD {α β : Type} {A : DR α} {B : DR β} {f : α → PyData} {g : β → PyData} (hX : XF G X N sc n) (hA : Deep G.K A f) (hB : Deep G.K B g)
    (h : E X a τ fun x τ1 => ∃ i, Fz x (.im A i) ∧ E X b τ1 fun y τ2 => ∃ j, Fz y (.im B j) ∧ SeqAt.shaped (f i) = true ∧ SeqAt.shaped (g j) = true ∧ k (.im rB (!PyData.eqv (f i) (g j))) τ2) : E X (.Compare a [.NotEq] [b] pos) τ k :=
  E.of (pe_cmpR (op_neD hX.room.units) pe_sem pe_sem (nomark _)) (w_op (A := A) (B := B) (k1 := k) (h.mono fun x τ1 ⟨i, fz, hb⟩ => ⟨i, fz, hb.mono fun y τ2 ⟨j, fz', s1, s2, hk⟩ => ⟨j, fz', fun σ H F R0 R Q v u ok r1 r2 q =>
    ⟨f i, g j, by rw [hX.eK]; exact hA R v i r1 H ok.le, by rw [hX.eK]; exact hB R u j r2 H ok.le, s1, s2, q _ τ2 _ R H hk (Le.refl R) ok (VOk.im rfl)⟩⟩⟩))
/-- ints alone -/
theorem E_eqI (h : E X a τ fun x τ1 => ∃ i, Fz x (.im rI i) ∧ E X b τ1 fun y τ2 => ∃ j, Fz y (.im rI j) ∧ k (.im rB (decide (i = j))) τ2) : E X (.Compare a [.Eq] [b] pos) τ k :=
  E.of (pe_cmpR op_eq pe_sem pe_sem (nomark _)) (w_op (A := rI) (B := rI) (k1 := k) (h.mono fun x τ1 ⟨i, fz, hb⟩ => ⟨i, fz, hb.mono fun y τ2 ⟨j, fz', hk⟩ => ⟨j, fz', fun σ H F R0 R Q v u ok r1 r2 q => by
    cases r1; cases r2
    refine ⟨rfl, ?_⟩
    have e : decide (V.int i = V.int j) = decide (i = j) := by
      rw [Bool.eq_iff_iff]; simp
    rw [e]
    exact q _ τ2 _ R H hk (Le.refl R) ok (VOk.im rfl)⟩⟩))
theorem E_neI (h : E X a τ fun x τ1 => ∃ i, Fz x (.im rI i) ∧ E X b τ1 fun y τ2 => ∃ j, Fz y (.im rI j) ∧ k (.im rB (!decide (i = j))) τ2) : E X (.Compare a [.NotEq] [b] pos) τ k :=
  E.of (pe_cmpR op_ne pe_sem pe_sem (nomark _)) (w_op (A := rI) (B := rI) (k1 := k) (h.mono fun x τ1 ⟨i, fz, hb⟩ => ⟨i, fz, hb.mono fun y τ2 ⟨j, fz', hk⟩ => ⟨j, fz', fun σ H F R0 R Q v u ok r1 r2 q => by
    cases r1; cases r2
    refine ⟨rfl, ?_⟩
    have e : decide (V.int i = V.int j) = decide (i = j) := by
      rw [Bool.eq_iff_iff]; simp
    rw [e]
    exact q _ τ2 _ R H hk (Le.refl R) ok (VOk.im rfl)⟩⟩))
theorem E_eqS (h : E X a τ fun x τ1 => ∃ i, Fz x (.im rS i) ∧ E X b τ1 fun y τ2 => ∃ j, Fz y (.im rS j) ∧ k (.im rB (decide (i = j))) τ2) : E X (.Compare a [.Eq] [b] pos) τ k :=
  E.of (pe_cmpR op_eq pe_sem pe_sem (nomark _)) (w_op (A := rS) (B := rS) (k1 := k) (h.mono fun x τ1 ⟨i, fz, hb⟩ => ⟨i, fz, hb.mono fun y τ2 ⟨j, fz', hk⟩ => ⟨j, fz', fun σ H F R0 R Q v u ok r1 r2 q => by
    cases r1; cases r2
    refine ⟨rfl, ?_⟩
    have e : decide (V.str i = V.str j) = decide (i = j) := by
      rw [Bool.eq_iff_iff]; simp
    rw [e]
    exact q _ τ2 _ R H hk (Le.refl R) ok (VOk.im rfl)⟩⟩))
end
end T
end
section
set_option Elab.async false
set_option linter.all false
set_option autoImplicit false
set_option maxRecDepth 100000
set_option maxHeartbeats 1000000
namespace T
open PySem PySem.Spec PyProof.Rows L2
section
variable {G : Gm} {X : Cx} {N : List Str} {sc : Scope} {n : Nat} {τ τ1 : Tau} {k : KK} {e a b : Expr} {es : List Expr} {pos : Pos}

/-! ### displays -/
def IsIm : Kd → Prop
  | .im _ _ => True
  | _ => False
theorem Fz.isIm {x y : Kd} (h : Fz x y) : IsIm y := by cases h <;> trivial
theorem Kd.up {R R' H H' : Hp} {v : V} {x : Kd} (i : IsIm x) (l : Le R R') (h : x.rel R H v) : x.rel R' H' v := by
  cases x with
  | no => exact i.elim
  | im A a => exact A.up l h
  | ow q C c => exact i.elim
inductive VsOk (R H : Hp) : List V → List Kd → Prop
  | nil : VsOk R H [] []
  | cons {v : V} {y : Kd} {vs : List V} {ys : List Kd} (h : IsIm y ∧ Kd.rel R H v y) (t : VsOk R H vs ys) : VsOk R H (v :: vs) (y :: ys)
theorem VsOk.up {R R' H H' : Hp} (l : Le R R') {vs : List V} {ys : List Kd} (h : VsOk R H vs ys) : VsOk R' H' vs ys := by
  induction h with
  | nil => exact .nil
  | cons z _ ih => exact .cons ⟨z.1, Kd.up z.1 l z.2⟩ ih
def Items (X : Cx) : List Expr → Tau → (List Kd → Tau → Prop) → Prop
  | [], τ, k => k [] τ
  | e :: es, τ, k => E X e τ fun x τ1 => ∃ y, Fz x y ∧ Items X es τ1 fun ys τ2 => k (y :: ys) τ2
def tAll (X : Cx) : List Expr → TA
  | [] => tNil
  | e :: es => tCons (sem X e) (tAll X es)
theorem Items.run : ∀ {es : List Expr} {τ : Tau} {k : List Kd → Tau → Prop}, Items X es τ k → ∀ (σ : L2.St) (H F R0 R : Hp) (Q : List V → Hp → Prop), Ok F R0 R H σ τ →
    (∀ ys τ' vs R' H', k ys τ' → Le R R' → Ok F R0 R' H' σ τ' → VsOk R' H' vs ys → Q vs H') → tAll X es σ H Q
  | [], τ, k, h, σ, H, F, R0, R, Q, ok, q => q [] τ [] R H h (Le.refl R) ok .nil
  | e :: es, τ, k, h, σ, H, F, R0, R, Q, ok, q => h σ H F R0 R _ ok fun x τ1 v R1 H1 ⟨y, fz, h1⟩ l1 ok1 w1 => by
    obtain ⟨R2, l2, ok2, r2, w2⟩ := VOk.freeze ok1 w1 fz
    refine Items.run h1 σ H1 F R0 R2 _ ok2 fun ys τ2 vs R3 H3 hk l3 ok3 hv => ?_
    exact q (y :: ys) τ2 (v :: vs) R3 H3 hk ((l1.trans l2).trans l3) ok3 (.cons ⟨fz.isIm, Kd.up fz.isIm l3 r2⟩ hv)
theorem pa_all {es : List Expr} (hs : ∀ (e : Expr) (r : List Expr), e :: r <:+ es → starEach (e :: r) X.env = (false, eval e X.env) :: starEach r X.env) : PA X es (tAll X es) := by
  induction es with
  | nil => exact pa_nil
  | cons e es ih => exact pa_cons pe_sem (ih fun e' r h => hs e' r (h.trans (List.suffix_cons e es))) (hs e es (List.suffix_refl _))
/-- no star among them -/
def noStar : List Expr → Bool
  | [] => true
  | .Starred .. :: _ => false
  | _ :: r => noStar r
theorem star_of {env : PySem.Env} : ∀ {es : List Expr}, noStar es = true → ∀ (e : Expr) (r : List Expr), e :: r <:+ es → starEach (e :: r) env = (false, eval e env) :: starEach r env
  | [], _, e, r, s => by simp at s
  | e0 :: es, h, e, r, s => by
    rcases List.suffix_cons_iff.mp s with z | z
    · cases z
      cases e0 <;> first | rfl | (simp [noStar] at h)
    · refine star_of (es := es) ?_ e r z
      cases e0 <;> first | exact h | (simp [noStar] at h)
/-- a tuple of such items is that datum -/
def TupOf (K : PySem.W.Frag) {β : Type} (B : DR β) (b : β) (ys : List Kd) : Prop := ∀ R H p vs, SqT K R p vs → VsOk R H vs ys → B.rel R (.ref p) b
theorem tup_pair {K : PySem.W.Frag} {α β : Type} {A : DR α} {B : DR β} {a : α} {b : β} : TupOf K (rPair K A B) (a, b) [.im A a, .im B b] := fun R H p vs h v => by
  cases v with
  | cons r1 v => cases v with
    | cons r2 v => cases v; exact ⟨p, _, _, rfl, h, r1.2, r2.2⟩
theorem tup_tri {K : PySem.W.Frag} {α β γ : Type} {A : DR α} {B : DR β} {C : DR γ} {a : α} {b : β} {c : γ} : TupOf K (rTri K A B C) (a, b, c) [.im A a, .im B b, .im C c] := fun R H p vs h v => by
  cases v with
  | cons r1 v => cases v with
    | cons r2 v => cases v with
      | cons r3 v => cases v; exact ⟨p, _, _, _, rfl, h, r1.2, r2.2, r3.2⟩
theorem tup_Q {K : PySem.W.Frag} {i j : Int} {q : Rat} (h1 : i = q.num) (h2 : j = q.den) : TupOf K (rQ K) q [.im rI i, .im rI j] := fun R H p vs h v => by
  cases v with
  | cons r1 v => cases v with
    | cons r2 v =>
      cases v
      obtain ⟨_, r1⟩ := r1
      obtain ⟨_, r2⟩ := r2
      cases r1; cases r2
      subst h1; subst h2
      exact ⟨p, rfl, h⟩
theorem paired_of {R H : Hp} {α : Type} {A : DR α} : ∀ {l : List α} {vs : List V}, VsOk R H vs (l.map (.im A)) → Paired (A.rel R) vs l
  | [], _, h => by cases h; exact .nil
  | a :: l, _, h => by
    cases h with
    | cons r t => exact .cons r.2 (paired_of t)
theorem tup_T {K : PySem.W.Frag} {α : Type} {A : DR α} {l : List α} : TupOf K (rT K A) l (l.map (.im A)) := fun R H p vs h v => ⟨p, vs, rfl, h, paired_of v⟩
theorem vs_len {R H : Hp} {vs : List V} {ys : List Kd} (h : VsOk R H vs ys) : vs.length = ys.length := by
  induction h with
  | nil => rfl
  | cons _ _ ih => simp [ih]
theorem E_tup {x1} (hX : XF G X N sc n) (hs : noStar es = true) (hl : es.length ≤ 100000) (h : Items X es τ fun ys τ' => ys.length ≤ 100000 ∧ ∃ β, ∃ B : DR β, ∃ b, TupOf G.K B b ys ∧ k (.im B b) τ') : E X (.Tuple es x1 pos) τ k :=
  E.of (pe_tup (pa_all (star_of hs))) fun σ H F R0 R Q ok q => Items.run h σ H F R0 R _ ok fun ys τ' vs R' H' ⟨hz, β, B, b, ht, hk⟩ l ok' hv =>
    ⟨by rw [vs_len hv, sizeLine_eq]; omega, fun p hp => by
      obtain ⟨hR, hF, ho⟩ := ok'.fresh hp
      have okn := ok'.lay (o := .tup vs) hp
      exact q _ τ' _ _ _ hk (l.trans (Le.upd hR)) okn (VOk.im (ht _ (upd H' p (.tup vs)) p vs (.inl (.inl upd_same)) (hv.up (Le.upd hR))))⟩
theorem E_lst (hs : noStar es = true) {α : Type} {A : DR α} (h : Items X es τ fun ys τ' => ys.length ≤ 100000 ∧ ∃ l : List α, ys = l.map (.im A) ∧ ∀ p, k (.ow p (cL A) l) τ') : E X (.List es pos) τ k :=
  E.of (pe_lst (pa_all (star_of hs))) fun σ H F R0 R Q ok q => Items.run h σ H F R0 R _ ok fun ys τ' vs R' H' ⟨hz, l, e, hk⟩ le ok' hv =>
    ⟨by rw [vs_len hv, sizeLine_eq]; omega, fun p hp => by
      obtain ⟨hR, hF, ho⟩ := ok'.fresh hp
      subst e
      exact q _ τ' _ _ _ (hk p) le (ok'.new hp) ⟨⟨rfl, hR, _, upd_same, vs, rfl, paired_of hv⟩, fun p' z => by cases z; exact ⟨hF, ho⟩⟩⟩

/-! ### a[i] -/
def IxOf (K : PySem.W.Frag) (x : Kd) (i : Int) {β : Type} (B : DR β) (b : β) : Prop := ∀ R H v, LeR R H → x.rel R H v → ∃ p xs w, v = .ref p ∧ (SqL K H p xs ∨ SqT K H p xs) ∧ atI xs i = some w ∧ B.rel R w b
theorem ix_pair0 {K : PySem.W.Frag} {α β : Type} {A : DR α} {B : DR β} {q : α × β} : IxOf K (.im (rPair K A B) q) 0 A q.1 := fun R H v l ⟨p, x, y, e, h, h1, h2⟩ => ⟨p, _, x, e, .inr (l.sqT h), rfl, h1⟩
theorem ix_pair1 {K : PySem.W.Frag} {α β : Type} {A : DR α} {B : DR β} {q : α × β} : IxOf K (.im (rPair K A B) q) 1 B q.2 := fun R H v l ⟨p, x, y, e, h, h1, h2⟩ => ⟨p, _, y, e, .inr (l.sqT h), rfl, h2⟩
theorem ix_Q0 {K : PySem.W.Frag} {q : Rat} : IxOf K (.im (rQ K) q) 0 rI q.num := fun R H v l ⟨p, e, h⟩ => ⟨p, _, _, e, .inr (l.sqT h), rfl, rfl⟩
theorem ix_Q1 {K : PySem.W.Frag} {q : Rat} : IxOf K (.im (rQ K) q) 1 rI (q.den : Int) := fun R H v l ⟨p, e, h⟩ => ⟨p, _, _, e, .inr (l.sqT h), rfl, rfl⟩
theorem at_of_paired {R : Hp} {α : Type} {A : DR α} {xs : List V} {l : List α} (h : Paired (A.rel R) xs l) {i : Int} {a : α} (ha : atI l i = some a) : ∃ w, atI xs i = some w ∧ A.rel R w a := by
  have hl := PySem.Paired.length h
  unfold atI at ha ⊢
  rw [hl]
  cases e : ixN l.length i with
  | none => rw [e] at ha; cases ha
  | some j =>
    rw [e] at ha
    have ha : l[j]? = some a := ha
    have key : ∀ {xs : List V} {l : List α} {j : Nat}, Paired (A.rel R) xs l → l[j]? = some a → ∃ w, xs[j]? = some w ∧ A.rel R w a := by
      intro xs l j h
      induction h generalizing j with
      | nil => intro z; cases z
      | cons r t ih =>
        intro z
        cases j with
        | zero => cases z; exact ⟨_, rfl, r⟩
        | succ j => exact ih (by simpa using z)
    exact key h ha
theorem ix_L {K : PySem.W.Frag} {α : Type} {A : DR α} {l : List α} {i : Int} {a : α} (ha : atI l i = some a) : IxOf K (.im (rL K A) l) i A a := fun R H v le ⟨p, xs, e, h, hp⟩ => by
  obtain ⟨w, h1, h2⟩ := at_of_paired hp ha
  exact ⟨p, xs, w, e, .inl (.inl (le.rd h)), h1, h2⟩
theorem ix_T {K : PySem.W.Frag} {α : Type} {A : DR α} {l : List α} {i : Int} {a : α} (ha : atI l i = some a) : IxOf K (.im (rT K A) l) i A a := fun R H v le ⟨p, xs, e, h, hp⟩ => by
  obtain ⟨w, h1, h2⟩ := at_of_paired hp ha
  exact ⟨p, xs, w, e, .inr (le.sqT h), h1, h2⟩
theorem ix_cL {K : PySem.W.Frag} {α : Type} {A : DR α} {l : List α} {i : Int} {a : α} {q : Addr} (ha : atI l i = some a) : IxOf K (.ow q (cL A) l) i A a := fun R H v le ⟨e, hR, o, ho, xs, eo, hp⟩ => by
  obtain ⟨w, h1, h2⟩ := at_of_paired hp ha
  subst eo
  exact ⟨q, xs, w, e, .inl (.inl (.inl ho)), h1, h2⟩
theorem E_ix (hX : XF G X N sc n) (hs : PlainIx b) (h : P X a τ fun p τ1 => E X b τ1 fun y τ2 => ∃ i, Fz y (.im rI i) ∧ ∃ x, p.kd τ2 = some x ∧ ∃ β, ∃ B : DR β, ∃ b, IxOf G.K x i B b ∧ k (.im B b) τ2) : E X (.Subscript a b pos) τ k :=
  E.of (pe_ix ix_seq pe_sem pe_sem hs) fun σ H F R0 R Q ok q => h σ H F R0 R _ ok fun p τ1 v R1 H1 hb l1 ok1 at1 =>
    hb σ H1 F R0 R1 _ ok1 fun y τ2 u R2 H2 ⟨i, fz, x, ex, β, B, b, hi, hk⟩ l2 ok2 w2 => by
      obtain ⟨R3, l3, ok3, r3, _⟩ := VOk.freeze ok2 w2 fz
      obtain ⟨p', xs, w, e1, e2, e3, e4⟩ := hi R3 H2 v ok3.le (Pl.rel ok3 (Pl.up (l2.trans l3) at1) ex)
      have hu : u = .int i := r3
      subst hu; subst e1
      have fin : Q w H2 := q _ τ2 w R3 H2 hk ((l1.trans l2).trans l3) ok3 (VOk.im e4)
      rcases e2 with e2 | e2
      · exact .inl ⟨p', xs, i, w, rfl, rfl, by rw [hX.eK]; exact e2, e3, fin⟩
      · exact .inr (.inl ⟨p', xs, i, w, rfl, rfl, by rw [hX.eK]; exact e2, e3, fin⟩)

/-! ### len -/
def LenOf (K : PySem.W.Frag) (x : Kd) (m : Nat) : Prop := ∀ R H v, LeR R H → x.rel R H v → LenV K v H m ∨ ∃ p kvs, v = .ref p ∧ Rd H p (.dK kvs) ∧ kvs.length = m
theorem len_L {K : PySem.W.Frag} {α : Type} {A : DR α} {l : List α} : LenOf K (.im (rL K A) l) l.length := fun R H v le ⟨p, xs, e, h, hp⟩ => by
  subst e; exact .inl (.inl ⟨xs, .inl (le.rd h), (PySem.Paired.length hp).symm⟩)
theorem len_T {K : PySem.W.Frag} {α : Type} {A : DR α} {l : List α} : LenOf K (.im (rT K A) l) l.length := fun R H v le ⟨p, xs, e, h, hp⟩ => by
  subst e; exact .inl (.inr ⟨xs, le.sqT h, (PySem.Paired.length hp).symm⟩)
theorem len_LT {K : PySem.W.Frag} {α : Type} {A : DR α} {l : List α} : LenOf K (.im (rLT K A) l) l.length := fun R H v le h => h.elim (fun h => len_L R H v le h) fun h => len_T R H v le h
theorem len_cL {K : PySem.W.Frag} {α : Type} {A : DR α} {l : List α} {q : Addr} : LenOf K (.ow q (cL A) l) l.length := fun R H v le ⟨e, hR, o, ho, xs, eo, hp⟩ => by
  subst e; subst eo; exact .inl (.inl ⟨xs, .inl (.inl ho), (PySem.Paired.length hp).symm⟩)
theorem len_S {K : PySem.W.Frag} {x : Str} (hz : x.length ≤ 100000) : LenOf K (.im rS x) x.length := fun R H v le h => by
  cases h; exact .inl ⟨by rw [sizeLine_eq]; omega, rfl⟩
theorem len_D {K : PySem.W.Frag} {β : Type} {B : DR β} {d : List (Int × β)} : LenOf K (.im (rD B) d) d.length := fun R H v le ⟨p, kvs, e, h, hp⟩ => by
  subst e; exact .inr ⟨p, kvs, rfl, le.rd (.inl h), PySem.Paired.length hp⟩
theorem len_cD {K : PySem.W.Frag} {β : Type} {B : DR β} {d : List (Int × β)} {q : Addr} : LenOf K (.ow q (cD B) d) d.length := fun R H v le ⟨e, hR, o, ho, kvs, eo, hp⟩ => by
  subst e; subst eo; exact .inr ⟨q, kvs, rfl, .inl ho, PySem.Paired.length hp⟩
end
end T
end
section
set_option Elab.async false
set_option linter.all false
set_option autoImplicit false
set_option maxRecDepth 100000
set_option maxHeartbeats 1000000
namespace T
open PySem PySem.Spec PyProof.Rows L2

/-! ### contracts -/
/-- how a call of such arguments goes on: with what it hands back, and what its arguments are then -/
abbrev Ct := List Kd → (Kd → List Kd → Prop) → Prop
def spOf (C : Ct) : Sp := fun vs H Q _ => ∃ (F R0 R : Hp) (ks : List Kd) (k : Kd → List Kd → Prop), Ok F R0 R H (vs.map some) ks ∧ C ks k ∧
  ∀ x ks' v R' H', k x ks' → Le R R' → Ok F R0 R' H' (vs.map some) ks' → VOk F R' H' ks' v x → Q v H'
/-- what is written of the def at f -/
def Lk (K : PySem.W.Frag) (f : Addr) (fd : FuncData) (ps : List Str) : Prop := (∃ (oc : Value) (od : Option Addr) (osl : Array (Option Value)), K.lookup f = some ⟨oc, od, .func fd, osl⟩) ∧ fd.params.args.map (·.arg) = ps
structure Fn (G : Gm) (x : Str) (m : Nat) (C : Ct) : Prop where
  ex : ∃ (f : Addr) (fd : FuncData) (ps : List Str), G.mg x = some (.ref f) ∧ PySem.W.keepIn G.K (.ref f) = true ∧ Binds G.K fd ps [] ∧ FnOk G.P G.w G.K G.mg G.base CX0 m f fd ps (spOf C) ∧ Lk G.K f fd ps
theorem Fn.imp {G : Gm} {x : Str} {m : Nat} {C C' : Ct} (h : Fn G x m C) (i : ∀ ks k, C' ks k → C ks k) : Fn G x m C' := by
  obtain ⟨f, fd, ps, a, b, c, d, hl⟩ := h.ex
  exact ⟨f, fd, ps, a, b, c, d.imp fun vs H Q E ⟨F, R0, R, ks, k, e1, e2, e3⟩ => ⟨F, R0, R, ks, k, e1, i _ _ e2, e3⟩, hl⟩

/-! ### arguments -/
def KsOf (τ : Tau) : List Pl → List Kd → Prop
  | [], [] => True
  | p :: ps, x :: xs => p.kd τ = some x ∧ KsOf τ ps xs
  | _, _ => False
def NoOw : List Kd → Prop
  | [] => True
  | .ow _ _ _ :: _ => False
  | _ :: r => NoOw r
def OneOw : List Kd → Prop
  | [] => True
  | .ow _ _ _ :: r => NoOw r
  | _ :: r => OneOw r
theorem NoOw.not : ∀ {ks : List Kd}, NoOw ks → ∀ (i : Nat) x p, ks[i]? = some x → ¬ owns x p
  | [], _, i, x, p, e => by simp at e
  | y :: r, h, i, x, p, e => by
    cases i with
    | zero =>
      cases e
      cases y with
      | ow => exact h.elim
      | no => exact fun z => z
      | im => exact fun z => z
    | succ i =>
      have h' : NoOw r := by cases y with
        | ow => exact h.elim
        | no => exact h
        | im => exact h
      exact h'.not i x p (by simpa using e)
theorem OneOw.inj : ∀ {ks : List Kd}, OneOw ks → ∀ (i j : Nat) x y p, ks[i]? = some x → ks[j]? = some y → owns x p → owns y p → i = j
  | [], _, i, j, x, y, p, e, _, _, _ => by simp at e
  | z :: r, h, i, j, x, y, p, e1, e2, o1, o2 => by
    cases z with
    | ow q C c =>
      have h' : NoOw r := h
      cases i with
      | zero => cases j with
        | zero => rfl
        | succ j => exact absurd o2 (h'.not j y p (by simpa using e2))
      | succ i => exact absurd o1 (h'.not i x p (by simpa using e1))
    | no =>
      have h' : OneOw r := h
      cases i with
      | zero => cases e1; exact o1.elim
      | succ i => cases j with
        | zero => cases e2; exact o2.elim
        | succ j => rw [OneOw.inj h' i j x y p (by simpa using e1) (by simpa using e2) o1 o2]
    | im =>
      have h' : OneOw r := h
      cases i with
      | zero => cases e1; exact o1.elim
      | succ i => cases j with
        | zero => cases e2; exact o2.elim
        | succ j => rw [OneOw.inj h' i j x y p (by simpa using e1) (by simpa using e2) o1 o2]
/-- the slots behind the call: an owned argument's is what the callee left of it -/
def updArgs (τ : Tau) : List Pl → List Kd → List Kd → Tau
  | .slot j :: ps, .ow _ _ _ :: ks, x :: ks' => updArgs (τ.set j x) ps ks ks'
  | _ :: ps, _ :: ks, _ :: ks' => updArgs τ ps ks ks'
  | _, _, _ => τ
theorem updArgs_no : ∀ {ks : List Kd} (τ : Tau) (ps : List Pl) (ks' : List Kd), NoOw ks → updArgs τ ps ks ks' = τ
  | [], τ, ps, ks', _ => by cases ps with
    | nil => rfl
    | cons p ps => cases p <;> rfl
  | y :: r, τ, ps, ks', h => by
    cases y with
    | ow => exact h.elim
    | no => cases ps with
      | nil => rfl
      | cons p ps => cases ks' with
        | nil => cases p <;> rfl
        | cons x ks' => cases p <;> exact updArgs_no τ ps ks' h
    | im => cases ps with
      | nil => rfl
      | cons p ps => cases ks' with
        | nil => cases p <;> rfl
        | cons x ks' => cases p <;> exact updArgs_no τ ps ks' h
/-- the one owned argument: its slot, its kind, its place among the arguments -/
theorem updArgs_one : ∀ {ks : List Kd} {ps : List Pl} (τ : Tau) (ks' : List Kd), OneOw ks → KsOf τ ps ks → ks'.length = ks.length → (NoOw ks ∧ updArgs τ ps ks ks' = τ) ∨
    ∃ (i j : Nat) (x x' : Kd), ks[i]? = some x ∧ ps[i]? = some (.slot j) ∧ τ[j]? = some x ∧ ks'[i]? = some x' ∧ (∃ p, owns x p) ∧ updArgs τ ps ks ks' = τ.set j x' ∧ (∀ (i' : Nat) y p, ks[i']? = some y → owns y p → i' = i) ∨ ∃ (i : Nat) (q x : Kd), ks[i]? = some q ∧ ps[i]? = some (.val x) ∧ ∃ p, owns q p
  | [], ps, τ, ks', h, k, l => by
    refine .inl ⟨trivial, ?_⟩
    cases ps with
    | nil => rfl
    | cons p ps => cases p <;> rfl
  | y :: r, [], τ, ks', h, k, l => k.elim
  | y :: r, p :: ps, τ, [], h, k, l => by simp at l
  | y :: r, p :: ps, τ, x' :: ks', h, k, l => by
    have k' : KsOf τ ps r := k.2
    have l' : ks'.length = r.length := by simpa using l
    cases y with
    | ow q C c =>
      have h' : NoOw r := h
      cases p with
      | val x => exact .inr ⟨0, 0, .no, .no, .inr ⟨0, .ow q C c, x, rfl, rfl, q, rfl⟩⟩
      | slot j =>
        refine .inr ⟨0, j, .ow q C c, x', .inl ⟨rfl, rfl, k.1, rfl, ⟨q, rfl⟩, ?_, ?_⟩⟩
        · show updArgs (τ.set j x') ps r ks' = τ.set j x'
          exact updArgs_no _ _ _ h'
        · intro i' z p e o
          cases i' with
          | zero => rfl
          | succ i' => exact absurd o (h'.not i' z p (by simpa using e))
    | no =>
      have h' : OneOw r := h
      have eu : updArgs τ (p :: ps) (.no :: r) (x' :: ks') = updArgs τ ps r ks' := by cases p <;> rfl
      rw [eu]
      rcases updArgs_one τ ks' h' k' l' with ⟨a, b⟩ | ⟨i, j, x, x2, ⟨e1, e2, e3, e4, e5, e6, e7⟩ | ⟨i2, q, x3, e1, e2, e3⟩⟩
      · exact .inl ⟨a, b⟩
      · refine .inr ⟨i + 1, j, x, x2, .inl ⟨by simpa using e1, by simpa using e2, e3, by simpa using e4, e5, e6, ?_⟩⟩
        intro i' z p e o
        cases i' with
        | zero => cases e; exact o.elim
        | succ i' => rw [e7 i' z p (by simpa using e) o]
      · exact .inr ⟨0, 0, .no, .no, .inr ⟨i2 + 1, q, x3, by simpa using e1, by simpa using e2, e3⟩⟩
    | im =>
      have h' : OneOw r := h
      rename_i α A d
      have eu : updArgs τ (p :: ps) (.im A d :: r) (x' :: ks') = updArgs τ ps r ks' := by cases p <;> rfl
      rw [eu]
      rcases updArgs_one τ ks' h' k' l' with ⟨a, b⟩ | ⟨i, j, x, x2, ⟨e1, e2, e3, e4, e5, e6, e7⟩ | ⟨i2, q, x3, e1, e2, e3⟩⟩
      · exact .inl ⟨a, b⟩
      · refine .inr ⟨i + 1, j, x, x2, .inl ⟨by simpa using e1, by simpa using e2, e3, by simpa using e4, e5, e6, ?_⟩⟩
        intro i' z p e o
        cases i' with
        | zero => cases e; exact o.elim
        | succ i' => rw [e7 i' z p (by simpa using e) o]
      · exact .inr ⟨0, 0, .no, .no, .inr ⟨i2 + 1, q, x3, by simpa using e1, by simpa using e2, e3⟩⟩
theorem PlAll.get {σ : L2.St} {R H : Hp} : ∀ {vs : List V} {ps : List Pl}, PlAll σ R H vs ps → ∀ (i : Nat) p, ps[i]? = some p → ∃ v, vs[i]? = some v ∧ p.at σ R H v
  | [], [], _, i, p, e => by simp at e
  | v :: vs, q :: ps, h, i, p, e => by
    cases i with
    | zero => cases e; exact ⟨v, rfl, h.1⟩
    | succ i =>
      obtain ⟨w, e1, e2⟩ := PlAll.get h.2 i p (by simpa using e)
      exact ⟨w, by simpa using e1, e2⟩
theorem PlAll.len {σ : L2.St} {R H : Hp} : ∀ {vs : List V} {ps : List Pl}, PlAll σ R H vs ps → vs.length = ps.length
  | [], [], _ => rfl
  | v :: vs, q :: ps, h => by simp [PlAll.len h.2]
theorem KsOf.get {τ : Tau} : ∀ {ps : List Pl} {ks : List Kd}, KsOf τ ps ks → ∀ (i : Nat) x, ks[i]? = some x → ∃ p, ps[i]? = some p ∧ p.kd τ = some x
  | [], [], _, i, x, e => by simp at e
  | p :: ps, y :: ks, h, i, x, e => by
    cases i with
    | zero => cases e; exact ⟨p, rfl, h.1⟩
    | succ i =>
      obtain ⟨w, e1, e2⟩ := KsOf.get h.2 i x (by simpa using e)
      exact ⟨w, by simpa using e1, e2⟩
theorem KsOf.len {τ : Tau} : ∀ {ps : List Pl} {ks : List Kd}, KsOf τ ps ks → ps.length = ks.length
  | [], [], _ => rfl
  | p :: ps, y :: ks, h => by simp [KsOf.len h.2]
open Classical in
/-- what must stay through a call: all but the owned arguments -/
noncomputable def keepOf (H : Hp) (ks : List Kd) : Hp := fun a => if ∃ (i : Nat) (x : Kd), ks[i]? = some x ∧ owns x a then none else H a
theorem keepOf_none {H : Hp} {ks : List Kd} {a : Addr} (h : ∃ (i : Nat) (x : Kd), ks[i]? = some x ∧ owns x a) : keepOf H ks a = none := if_pos h
theorem keepOf_some {H : Hp} {ks : List Kd} {a : Addr} (h : ¬ ∃ (i : Nat) (x : Kd), ks[i]? = some x ∧ owns x a) : keepOf H ks a = H a := if_neg h
section
variable {F R0 R H : Hp} {σ : L2.St} {τ : Tau} {vs : List V} {ps : List Pl} {ks : List Kd}
/-- the callee's own standing -/
theorem Ok.enter (ok : Ok F R0 R H σ τ) (hp : PlAll σ R H vs ps) (hk : KsOf τ ps ks) (h1 : OneOw ks) : Ok (keepOf H ks) R R H (vs.map some) ks where
  len := by rw [List.length_map, hp.len, hk.len]
  fr := fun a o e => by
    by_cases h : ∃ (i : Nat) (x : Kd), ks[i]? = some x ∧ owns x a
    · rw [keepOf_none h] at e; cases e
    · rw [keepOf_some h] at e; exact e
  le := ok.le
  r0 := Le.refl R
  nw := fun a h _ => h
  sl := fun i x e => by
    obtain ⟨p, ep, kp⟩ := hk.get i x e
    obtain ⟨v, ev, av⟩ := hp.get i p ep
    refine .inr ⟨v, ?_, Pl.rel ok av kp⟩
    rw [List.getElem?_map, ev]
    rfl
  ff := fun i x p e o => keepOf_none ⟨i, x, e, o⟩
  inj := h1.inj
  nt := ok.nt
/-- behind the call -/
theorem Ok.leave (ok : Ok F R0 R H σ τ) (hp : PlAll σ R H vs ps) (hk : KsOf τ ps ks) (h1 : OneOw ks) {R' H' : Hp} {ks' : List Kd} (l : Le R R') (ok' : Ok (keepOf H ks) R R' H' (vs.map some) ks') :
    Ok F R0 R' H' σ (updArgs τ ps ks ks') ∧ ∀ v x, VOk (keepOf H ks) R' H' ks' v x → VOk F R' H' (updArgs τ ps ks ks') v x := by
  have hlen : ks'.length = ks.length := by rw [← ok'.len, List.length_map, hp.len, hk.len]
  -- who is owned among the arguments is owned by a slot
  have own_slot : ∀ (i : Nat) x p, ks[i]? = some x → owns x p → ∃ j, ps[i]? = some (.slot j) ∧ τ[j]? = some x := fun i x p e o => by
    obtain ⟨q, eq, kq⟩ := hk.get i x e
    obtain ⟨v, ev, av⟩ := hp.get i q eq
    cases q with
    | slot j => exact ⟨j, eq, kq⟩
    | val y =>
      cases kq
      exact absurd o (av.2 p)
  have Fnone : ∀ a, (∃ (i : Nat) (x : Kd), ks[i]? = some x ∧ owns x a) → F a = none := fun a ⟨i, x, e, o⟩ => by
    obtain ⟨j, _, ej⟩ := own_slot i x a e o
    exact ok.ff j x a ej o
  have frame : ∀ a o, H a = some o → (¬ ∃ (i : Nat) (x : Kd), ks[i]? = some x ∧ owns x a) → H' a = some o := fun a o e h => ok'.fr a o (by rw [keepOf_some h]; exact e)
  have base : Le F H' := fun a o e => frame a o (ok.fr a o e) fun h => by rw [Fnone a h] at e; cases e
  have nw' : ∀ a, R a = none → H a ≠ none → (¬ ∃ (i : Nat) (x : Kd), ks[i]? = some x ∧ owns x a) → R' a = none := fun a h2 h3 h => ok'.nw a h2 (by rw [keepOf_some h]; exact h3)
  have nw0 : ∀ a, R0 a = none → F a ≠ none → R' a = none := fun a h2 h3 => by
    have hn : ¬ ∃ (i : Nat) (x : Kd), ks[i]? = some x ∧ owns x a := fun z => h3 (Fnone a z)
    refine nw' a (ok.nw a h2 h3) ?_ hn
    cases q : F a with
    | none => exact absurd q h3
    | some o => rw [ok.fr a o q]; simp
  -- the slots that were not handed over
  have slots : ∀ (j : Nat) x, τ[j]? = some x → (∀ p, owns x p → ¬ ∃ (i : Nat) (y : Kd), ks[i]? = some y ∧ owns y p) → SlotOk R' H' (σ[j]?.join) x := fun j x e h => by
    rcases ok.sl j x e with z | ⟨v, hv, r⟩
    · exact .inl z
    · refine .inr ⟨v, hv, ?_⟩
      cases x with
      | no => trivial
      | im A a => exact A.up l r
      | ow q C c =>
        obtain ⟨e1, e2, o, e3, e4⟩ := r
        have hn := h q rfl
        exact ⟨e1, nw' q e2 (by rw [e3]; simp) hn, o, frame q o e3 hn, C.up l e4⟩
  have vown : ∀ (v : V) x, VOk (keepOf H ks) R' H' ks' v x → ∀ p, owns x p → F p = none ∧ ∀ (j : Nat) y, τ[j]? = some y → owns y p → ∃ (i : Nat) (z : Kd), ks[i]? = some z ∧ owns z p := fun v x w p o => by
    obtain ⟨hF, _⟩ := w.own p o
    by_cases h : ∃ (i : Nat) (x : Kd), ks[i]? = some x ∧ owns x p
    · exact ⟨Fnone p h, fun _ _ _ _ => h⟩
    · rw [keepOf_some h] at hF
      refine ⟨?_, fun j y ej oy => ?_⟩
      · cases q : F p with
        | none => rfl
        | some u => rw [ok.fr p u q] at hF; cases hF
      · rcases ok.sl j y ej with z | ⟨v, _, r⟩
        · subst z; exact oy.elim
        · cases y with
          | no => exact oy.elim
          | im => exact oy.elim
          | ow q C c =>
            obtain ⟨_, _, u, e3, _⟩ := r
            have : q = p := oy
            rw [this, hF] at e3; cases e3
  rcases updArgs_one τ ks' h1 hk hlen with ⟨no, e⟩ | ⟨i, j, x, x', ⟨e1, e2, e3, e4, ⟨p0, o0⟩, e6, e7⟩ | ⟨i2, q, y, e1, e2, p0, o0⟩⟩
  · rw [e]
    have none' : ∀ p, ¬ ∃ (i : Nat) (y : Kd), ks[i]? = some y ∧ owns y p := fun p ⟨i, y, ei, oy⟩ => no.not i y p ei oy
    exact ⟨⟨ok.len, base, ok'.le, ok.r0.trans l, nw0, fun j x ej => slots j x ej fun p _ => none' p, ok.ff, ok.inj, ok'.nt⟩,
      fun v x w => ⟨w.rel, fun p o => ⟨(vown v x w p o).1, fun j y ej oy => none' p ((vown v x w p o).2 j y ej oy)⟩⟩⟩
  · rw [e6]
    have hj : j < τ.length := (List.getElem?_eq_some_iff.mp e3).1
    obtain ⟨v, ev, av⟩ := hp.get i _ e2
    have av : σ[j]? = some (some v) := av
    have sl' := ok'.sl i x' e4
    have sv : ((vs.map some)[i]?).join = some v := by rw [List.getElem?_map, ev]; rfl
    -- the argument's own cell
    have px : ∀ p, owns x p → p = p0 := fun p o => by
      cases x with
      | no => exact o.elim
      | im => exact o.elim
      | ow q C c => exact (show q = p from o).symm.trans (show q = p0 from o0)
    have vp : v = .ref p0 := by
      rcases ok.sl j x e3 with z | ⟨u, hu, r⟩
      · subst z; exact o0.elim
      · cases x with
        | no => exact o0.elim
        | im => exact o0.elim
        | ow q C c =>
          obtain ⟨r1, _⟩ := r
          rw [av] at hu
          cases hu
          rw [r1, show q = p0 from o0]
    have px' : ∀ p, owns x' p → p = p0 := fun p o => by
      rcases sl' with z | ⟨u, hu, r⟩
      · subst z; exact o.elim
      · rw [sv] at hu
        cases hu
        cases x' with
        | no => exact o.elim
        | im => exact o.elim
        | ow q C c =>
          obtain ⟨r1, _⟩ := r
          rw [vp] at r1
          cases r1
          exact (show p0 = p from o).symm
    have only : ∀ p, (∃ (i : Nat) (y : Kd), ks[i]? = some y ∧ owns y p) → p = p0 := fun p ⟨i', y, ei, oy⟩ => by
      have := e7 i' y p ei oy
      subst this
      rw [e1] at ei
      cases ei
      exact px p oy
    refine ⟨⟨by rw [List.length_set]; exact ok.len, base, ok'.le, ok.r0.trans l, nw0, fun a y ea => ?_, fun a y p ea o => ?_, fun a b y z p ea eb oa ob => ?_, ok'.nt⟩, fun u y w => ⟨w.rel, fun p o => ⟨(vown u y w p o).1, fun a z ea oz => ?_⟩⟩⟩
    · by_cases h : j = a
      · subst h
        rw [List.getElem?_set_self hj] at ea
        cases ea
        rcases sl' with z | ⟨u, hu, r⟩
        · exact .inl z
        · rw [sv] at hu
          cases hu
          exact .inr ⟨v, by rw [av]; rfl, r⟩
      · rw [List.getElem?_set_ne h] at ea
        refine slots a y ea fun p o hn => ?_
        have hp0 := only p hn
        subst hp0
        exact h (ok.inj j a x y p e3 ea o0 o)
    · by_cases h : j = a
      · subst h
        rw [List.getElem?_set_self hj] at ea
        cases ea
        rw [px' p o]
        exact ok.ff j x p0 e3 o0
      · rw [List.getElem?_set_ne h] at ea
        exact ok.ff a y p ea o
    · by_cases ha : j = a
      · by_cases hb : j = b
        · exact ha.symm.trans hb
        · subst ha
          rw [List.getElem?_set_self hj] at ea
          cases ea
          rw [List.getElem?_set_ne hb] at eb
          rw [px' p oa] at ob
          exact ok.inj j b x z p0 e3 eb o0 ob
      · rw [List.getElem?_set_ne ha] at ea
        by_cases hb : j = b
        · subst hb
          rw [List.getElem?_set_self hj] at eb
          cases eb
          rw [px' p ob] at oa
          exact (ok.inj j a x y p0 e3 ea o0 oa).symm
        · rw [List.getElem?_set_ne hb] at eb
          exact ok.inj a b y z p ea eb oa ob
    · by_cases h : j = a
      · subst h
        rw [List.getElem?_set_self hj] at ea
        cases ea
        exact (w.own p o).2 i x' e4 oz
      · rw [List.getElem?_set_ne h] at ea
        have hn := (vown u y w p o).2 a z ea oz
        have hp0 := only p hn
        subst hp0
        exact h (ok.inj j a x z p e3 ea o0 oz)
  · obtain ⟨j, ej, _⟩ := own_slot i2 q p0 e1 o0
    rw [e2] at ej
    cases ej
end
section
variable {G : Gm} {X : Cx} {N : List Str} {sc : Scope} {n : Nat} {τ τ1 : Tau} {k : KK} {e a b : Expr} {es : List Expr} {pos p : Pos}
theorem A_nil {k : Ks} (h : k [] τ) : A X [] τ k := A.of pa_nil fun σ H F R0 R Q ok q => q [] τ [] R H h (Le.refl R) ok trivial
theorem A_cons {k : Ks} (hs : noStar [e] = true) (h : T.P X e τ fun p τ1 => A X es τ1 fun ps τ2 => k (p :: ps) τ2) : A X (e :: es) τ k :=
  A.of (pa_cons pe_sem pa_sem (by cases e <;> first | rfl | (simp [noStar] at hs))) fun σ H F R0 R Q ok q => h σ H F R0 R _ ok fun p τ1 v R1 H1 h1 l1 ok1 a1 =>
    h1 σ H1 F R0 R1 _ ok1 fun ps τ2 vs R2 H2 h2 l2 ok2 a2 => q (p :: ps) τ2 (v :: vs) R2 H2 h2 (l1.trans l2) ok2 ⟨Pl.up l2 a1, a2⟩
/-- f(e, ..) -/
theorem E_call {x : Str} {m : Nat} {C : Ct} (hX : XF G X N sc n) (f : Fn G x m C) (hm : m ≤ n) (hg : sc.names.lookup x = some .globalImplicit) (hs : noStar (e :: es) = true)
    (h : A X (e :: es) τ fun ps τ1 => ∃ ks, KsOf τ1 ps ks ∧ OneOw ks ∧ C ks fun r ks' => k r (updArgs τ1 ps ks ks')) (hdb : (x == ("__debug__" : Str)) = false := by decide) (hpl : (backTo pos (starEach es X.env)).any (·.1) = false := by rfl) :
    E X (.Call (.Name x p) (e :: es) [] pos) τ k := by
  obtain ⟨f, fd, pr, h1, h2, h3, h4, _⟩ := f.ex
  have h4' : FnOk X.prog X.w X.K X.mg X.base CX0 m f fd pr (spOf C) := by rw [hX.ep, hX.ew, hX.eK, hX.emg, hX.eb]; exact h4
  refine E.of (pe_call (E := E0) h4' (hX.room.mono hm) (hX.gl hg) (hX.mgN h1) (by rw [hX.eK]; exact h2) (by rw [hX.eK]; exact h3) .nil pass0 pa_sem hdb (star_of hs _ _ (List.suffix_refl _)) hpl) ?_
  intro σ H F R0 R Q ok q
  refine h σ H F R0 R _ ok fun ps τ1 vs R1 H1 ⟨ks, hk, h1, hc⟩ l1 ok1 a1 => ?_
  rw [List.append_nil]
  refine ⟨keepOf H1 ks, R1, R1, ks, _, ok1.enter a1 hk h1, hc, fun r ks' v R2 H2 hr l2 ok2 w2 => ?_⟩
  obtain ⟨ok3, w3⟩ := ok1.leave a1 hk h1 l2 ok2
  exact q r _ v R2 H2 hr (l1.trans l2) ok3 (w3 v r w2)
end
end T
end
section
set_option Elab.async false
set_option linter.all false
set_option autoImplicit false
set_option maxRecDepth 100000
set_option maxHeartbeats 1000000
namespace T
open PySem PySem.Spec PyProof.Rows L2

/-- an environment of that scope -/
def envS (sc : Scope) : PySem.Env := { scope := sc, locals := 0, globals := 0, cells := [] }
theorem sw_env {ts : List Expr} {v : Expr} {env env' : PySem.Env} (h : env.scope = env'.scope) : swappedStores ts v env = swappedStores ts v env' := by
  have hk : env.kindOf = env'.kindOf := by funext x; unfold Env.kindOf; rw [h]
  have hb : env.blockKind = env'.blockKind := by unfold Env.blockKind; rw [h]
  unfold swappedStores
  rw [hk, hb]
theorem sww_env {v : Expr} {t : Option Expr} {l : Nat} {env env' : PySem.Env} (h : env.scope = env'.scope) : swapsWith v t l env = swapsWith v t l env' := by
  have hk : env.kindOf = env'.kindOf := by funext x; unfold Env.kindOf; rw [h]
  have hb : env.blockKind = env'.blockKind := by unfold Env.blockKind; rw [h]
  unfold swapsWith
  rw [hk, hb, h]


/-! ### statements -/
structure Po where
  nx : Tau → Prop
  rt : Kd → Tau → Prop
  bk : Tau → Prop := fun _ => False
  ct : Tau → Prop := fun _ => False
structure EndOk (F R0 R : Hp) (D : L2.Ends) (P : Po) : Prop where
  nx : ∀ τ σ R' H, P.nx τ → Le R R' → Ok F R0 R' H σ τ → D.nx σ H
  rt : ∀ x τ v σ R' H, P.rt x τ → Le R R' → Ok F R0 R' H σ τ → VOk F R' H τ v x → D.rt v H
  bk : ∀ τ σ R' H, P.bk τ → Le R R' → Ok F R0 R' H σ τ → D.bk σ H
  ct : ∀ τ σ R' H, P.ct τ → Le R R' → Ok F R0 R' H σ τ → D.ct σ H
theorem EndOk.up {F R0 R R1 : Hp} {D : L2.Ends} {P : Po} (h : EndOk F R0 R D P) (l : Le R R1) : EndOk F R0 R1 D P :=
  ⟨fun τ σ R' H a b => h.nx τ σ R' H a (l.trans b), fun x τ v σ R' H a b => h.rt x τ v σ R' H a (l.trans b), fun τ σ R' H a b => h.bk τ σ R' H a (l.trans b), fun τ σ R' H a b => h.ct τ σ R' H a (l.trans b)⟩
def WS (ts : TS) (τ : Tau) (P : Po) : Prop := ∀ (σ : L2.St) (H F R0 R : Hp) (D : L2.Ends), Ok F R0 R H σ τ → EndOk F R0 R D P → ts D σ H
def semS (X : Cx) (st : Stmt) : TS := fun D σ H => ∀ pins s, Inv X pins σ H s → wpAny (model X.prog X.w) X.A (exec st X.env) (L2.SP X pins D) X.xe s
def semB (X : Cx) (st : List Stmt) : TS := fun D σ H => ∀ pins s, Inv X pins σ H s → wpAny (model X.prog X.w) X.A (execs st X.env) (L2.SP X pins D) X.xe s
theorem ps_sem {X : Cx} {st : Stmt} : PS X st (semS X st) := ⟨fun pins s σ H D I h => h pins s I⟩
theorem pss_sem {X : Cx} {st : List Stmt} : PSs X st (semB X st) := ⟨fun pins s σ H D I h => h pins s I⟩
def S1 (X : Cx) (st : Stmt) (τ : Tau) (P : Po) : Prop := WS (semS X st) τ P
def S (X : Cx) (st : List Stmt) (τ : Tau) (P : Po) : Prop := WS (semB X st) τ P
theorem S1.of {X : Cx} {st : Stmt} {t : TS} {τ : Tau} {P : Po} (h : PS X st t) (w : WS t τ P) : S1 X st τ P := fun σ H F R0 R D ok q pins s I => h.run pins s σ H D I (w σ H F R0 R D ok q)
theorem S.of {X : Cx} {st : List Stmt} {t : TS} {τ : Tau} {P : Po} (h : PSs X st t) (w : WS t τ P) : S X st τ P := fun σ H F R0 R D ok q pins s I => h.run pins s σ H D I (w σ H F R0 R D ok q)

/-! ### targets -/
def WG (g : TG) (y : Kd) (τ : Tau) (k : Tau → Prop) : Prop := ∀ (σ : L2.St) (H F R0 R : Hp) (v : V) (Q : L2.St → Hp → Prop), Ok F R0 R H σ τ → VOk F R H τ v y →
  (∀ τ' σ' R' H', k τ' → Le R R' → Ok F R0 R' H' σ' τ' → Q σ' H') → g v σ H Q
def semG (X : Cx) (tg : Expr) : TG := fun v σ H Q => ∀ pins s u, Inv X pins σ H s → RelV v u → wpAny (model X.prog X.w) X.A (assign tg X.env u) (fun _ s' => ∃ σ' H', Inv X pins σ' H' s' ∧ Q σ' H') X.xe s
theorem pg_sem {X : Cx} {tg : Expr} : PG X tg (semG X tg) := ⟨fun pins s σ H v u Q I r h => h pins s u I r⟩
def Tg (X : Cx) (tg : Expr) (y : Kd) (τ : Tau) (k : Tau → Prop) : Prop := WG (semG X tg) y τ k
theorem Tg.of {X : Cx} {tg : Expr} {g : TG} {y : Kd} {τ : Tau} {k : Tau → Prop} (h : PG X tg g) (w : WG g y τ k) : Tg X tg y τ k := fun σ H F R0 R v Q ok wv q pins s u I r => h.run pins s σ H v u Q I r (w σ H F R0 R v Q ok wv q)
def Tgs (X : Cx) : List Expr → List Kd → Tau → (Tau → Prop) → Prop
  | [], [], τ, k => k τ
  | e :: es, y :: ys, τ, k => Tg X e y τ fun τ1 => Tgs X es ys τ1 k
  | _, _, _, _ => False
def tgAll (X : Cx) : List Expr → TGs
  | [] => gNil
  | e :: es => gCons (semG X e) (tgAll X es)
theorem Tgs.run {X : Cx} : ∀ {es : List Expr} {ys : List Kd} {τ : Tau} {k : Tau → Prop}, Tgs X es ys τ k → ∀ (σ : L2.St) (H F R0 R : Hp) (vs : List V) (Q : L2.St → Hp → Prop), Ok F R0 R H σ τ → VsOk R H vs ys →
    (∀ τ' σ' R' H', k τ' → Le R R' → Ok F R0 R' H' σ' τ' → Q σ' H') → tgAll X es vs σ H Q
  | [], [], τ, k, h, σ, H, F, R0, R, vs, Q, ok, hv, q => by
    cases hv
    exact ⟨rfl, q τ σ R H h (Le.refl R) ok⟩
  | e :: es, y :: ys, τ, k, h, σ, H, F, R0, R, vs, Q, ok, hv, q => by
    cases hv with
    | @cons v _ vs _ hr ht =>
      have wv : VOk F R H τ v y := ⟨hr.2, fun p o => by
        have hi := hr.1
        cases y with
        | no => exact hi.elim
        | im => exact o.elim
        | ow => exact hi.elim⟩
      exact ⟨v, vs, rfl, h σ H F R0 R v _ ok wv fun τ1 σ1 R1 H1 h1 l1 ok1 =>
        Tgs.run h1 σ1 H1 F R0 R1 vs Q ok1 (ht.up l1) fun τ2 σ2 R2 H2 h2 l2 ok2 => q τ2 σ2 R2 H2 h2 (l1.trans l2) ok2⟩
  | [], _ :: _, _, _, h, _, _, _, _, _, _, _, _, _, _ => h.elim
  | _ :: _, [], _, _, h, _, _, _, _, _, _, _, _, _, _ => h.elim
theorem Ok.set' {F R0 R H : Hp} {σ : L2.St} {τ : Tau} {v : V} {x : Kd} (ok : Ok F R0 R H σ τ) (i : Nat) (w : VOk F R H τ v x) : Ok F R0 R H (σ.set i (some v)) (τ.set i x) := by
  by_cases hi : i < τ.length
  · exact ok.set hi w
  · have h1 := ok.len
    rw [List.set_eq_of_length_le (l := σ) (by omega), List.set_eq_of_length_le (l := τ) (by omega)]
    exact ok
def plainTg : List Expr → Bool
  | [] => true
  | .Starred .. :: _ => false
  | _ :: r => plainTg r
section
variable {G : Gm} {X : Cx} {N : List Str} {sc : Scope} {n : Nat} {τ τ1 : Tau} {P : Po} {k : Tau → Prop} {y : Kd} {e a b c tg : Expr} {es : List Expr} {pos p : Pos} {st : Stmt} {sts body els : List Stmt}
theorem T_name {i : Nat} {x : Str} (hX : XF G X N sc n) (hN : N[i]? = some x) (hl : sc.names.lookup x = some .local) (h : k (τ.set i y)) : Tg X (.Name x pos) y τ k :=
  Tg.of (pg_name (i := i) (by rw [hX.eN]; exact hX.nd) (by rw [hX.eN]; exact hN) (hX.loc (.inl hl)) (.inr (by rw [hX.es]; exact hl))) fun σ H F R0 R v Q ok w q => q _ _ R H h (Le.refl R) (ok.set' i w)
/-- a name that a lambda or a comprehension captures, in a def's own body -/
theorem T_cell {i : Nat} {x : Str} (hX : XF G X N sc n) (hf : ∀ x, X.fn x = true) (hN : N[i]? = some x) (hl : sc.names.lookup x = some .cell) (h : k (τ.set i y)) : Tg X (.Name x pos) y τ k :=
  Tg.of (pg_name (i := i) (by rw [hX.eN]; exact hX.nd) (by rw [hX.eN]; exact hN) (hX.loc (.inr hl)) (.inl (hf x))) fun σ H F R0 R v Q ok w q => q _ _ R H h (Le.refl R) (ok.set' i w)
/-- what a tuple's items are -/
def UnT (K : PySem.W.Frag) (y : Kd) (ys : List Kd) : Prop := ∀ R H v, LeR R H → y.rel R H v → ∃ p vs, v = .ref p ∧ SqT K H p vs ∧ VsOk R H vs ys
def UnL (K : PySem.W.Frag) (y : Kd) (ys : List Kd) : Prop := ∀ R H v, LeR R H → y.rel R H v → ∃ p vs, v = .ref p ∧ SqL K H p vs ∧ VsOk R H vs ys
theorem un_pair {K : PySem.W.Frag} {α β : Type} {A : DR α} {B : DR β} {q : α × β} : UnT K (.im (rPair K A B) q) [.im A q.1, .im B q.2] := fun R H v l ⟨p, x, y, e, h, h1, h2⟩ => ⟨p, _, e, l.sqT h, .cons ⟨trivial, h1⟩ (.cons ⟨trivial, h2⟩ .nil)⟩
theorem un_tri {K : PySem.W.Frag} {α β γ : Type} {A : DR α} {B : DR β} {C : DR γ} {q : α × β × γ} : UnT K (.im (rTri K A B C) q) [.im A q.1, .im B q.2.1, .im C q.2.2] := fun R H v l ⟨p, x, y, z, e, h, h1, h2, h3⟩ => ⟨p, _, e, l.sqT h, .cons ⟨trivial, h1⟩ (.cons ⟨trivial, h2⟩ (.cons ⟨trivial, h3⟩ .nil))⟩
theorem un_Q {K : PySem.W.Frag} {q : Rat} : UnT K (.im (rQ K) q) [.im rI q.num, .im rI (q.den : Int)] := fun R H v l ⟨p, e, h⟩ => ⟨p, _, e, l.sqT h, .cons ⟨trivial, rfl⟩ (.cons ⟨trivial, rfl⟩ .nil)⟩
theorem T_tup {m : Nat} {ys : List Kd} (hX : XF G X N sc n) (hst : plainTg es = true) (hu : UnT G.K y ys) (h : Tgs X es ys τ k) (hlen : ys.length = es.length := by rfl) : Tg X (.Tuple es m pos) y τ k := by
  have hplain : ∀ {es : List Expr}, plainTg es = true → ∀ env, (assignEach es env).length = es.length ∧ (assignEach es env).findIdx? (·.1) = none := by
    intro es
    induction es with
    | nil => intro _ env; exact ⟨rfl, rfl⟩
    | cons e es ih =>
      intro h env
      have h' : plainTg es = true := by cases e <;> first | exact h | (simp [plainTg] at h)
      obtain ⟨h1, h2⟩ := ih h' env
      have e1 : assignEach (e :: es) env = (false, assign e env) :: assignEach es env := by cases e <;> first | rfl | (simp [plainTg] at h)
      rw [e1]
      exact ⟨by simp [h1], by rw [List.findIdx?_cons]; simp [h2]⟩
  have hpgs : ∀ {es : List Expr}, plainTg es = true → PGs X es (tgAll X es) := by
    intro es
    induction es with
    | nil => intro _; exact pgs_nil
    | cons e es ih =>
      intro h
      have h' : plainTg es = true := by cases e <;> first | exact h | (simp [plainTg] at h)
      exact pgs_cons pg_sem (ih h') (by cases e <;> first | rfl | (simp [plainTg] at h))
  obtain ⟨h1, h2⟩ := hplain hst X.env
  refine Tg.of (pg_tup hX.calm (hpgs hst) h1 h2) fun σ H F R0 R v Q ok w q => ?_
  obtain ⟨p, vs, e, hq, hv⟩ := hu R H v ok.le w.rel
  have hl : vs.length = es.length := (vs_len hv).trans hlen
  exact ⟨p, vs, e, by rw [hX.eK]; exact hq, hl, Tgs.run h σ H F R0 R vs Q ok hv q⟩

/-! ### blocks -/
theorem S_nil (h : P.nx τ) : S X [] τ P := S.of pss_nil fun σ H F R0 R D ok q => q.nx τ σ R H h (Le.refl R) ok
theorem S_cons (h : S1 X st τ { P with nx := fun τ1 => S X sts τ1 P }) : S X (st :: sts) τ P :=
  S.of (pss_cons ps_sem pss_sem) fun σ H F R0 R D ok q => h σ H F R0 R _ ok ⟨fun τ1 σ1 R1 H1 h1 l1 ok1 => h1 σ1 H1 F R0 R1 D ok1 (q.up l1), q.rt, q.bk, q.ct⟩
theorem S_one (h : S1 X st τ P) : S X [st] τ P :=
  S.of (pss_one ps_sem) fun σ H F R0 R D ok q => h σ H F R0 R D ok q
theorem S_mono {P' : Po} (h : S X sts τ P) (h1 : ∀ τ, P.nx τ → P'.nx τ) (h2 : ∀ x τ, P.rt x τ → P'.rt x τ) (h3 : ∀ τ, P.bk τ → P'.bk τ) (h4 : ∀ τ, P.ct τ → P'.ct τ) : S X sts τ P' :=
  fun σ H F R0 R D ok q => h σ H F R0 R D ok ⟨fun τ σ R' H a b => q.nx τ σ R' H (h1 τ a) b, fun x τ v σ R' H a b => q.rt x τ v σ R' H (h2 x τ a) b, fun τ σ R' H a b => q.bk τ σ R' H (h3 τ a) b, fun τ σ R' H a b => q.ct τ σ R' H (h4 τ a) b⟩
theorem S1_pass (h : P.nx τ) : S1 X (.Pass pos) τ P := S1.of ps_pass fun σ H F R0 R D ok q => q.nx τ σ R H h (Le.refl R) ok
theorem S1_break (h : P.bk τ) : S1 X (.Break pos) τ P := S1.of ps_break fun σ H F R0 R D ok q => q.bk τ σ R H h (Le.refl R) ok
theorem S1_cont (h : P.ct τ) : S1 X (.Continue pos) τ P := S1.of ps_continue fun σ H F R0 R D ok q => q.ct τ σ R H h (Le.refl R) ok
theorem S1_ret (h : E X e τ P.rt) : S1 X (.Return (some e) pos) τ P :=
  S1.of (ps_ret pe_sem) fun σ H F R0 R D ok q => h σ H F R0 R _ ok fun x τ1 v R1 H1 h1 l1 ok1 w1 => q.rt x τ1 v σ R1 H1 h1 l1 ok1 w1
theorem S1_expr (h : E X e τ fun _ τ1 => P.nx τ1) (hs : swapsWith e none pos.line X.env = pure false := by rfl) : S1 X (.Expr e pos) τ P :=
  S1.of (ps_expr pe_sem hs) fun σ H F R0 R D ok q => h σ H F R0 R _ ok fun x τ1 v R1 H1 h1 l1 ok1 w1 => q.nx τ1 σ R1 H1 h1 l1 ok1
theorem S1_asg (h : E X e τ fun x τ1 => Tg X tg x τ1 P.nx) (hs : swapsWithSole [tg] e pos.line X.env = pure false := by rfl) (hw : swappedStores [tg] e X.env = pure none := by rfl)
    (h1 : (assignEach [tg] X.env).map (·.2) = [assign tg X.env] := by rfl) : S1 X (.Assign [tg] e pos) τ P :=
  S1.of (ps_asg pe_sem pg_sem hs hw h1) fun σ H F R0 R D ok q => h σ H F R0 R _ ok fun x τ1 v R1 H1 h1 l1 ok1 w1 =>
    h1 σ H1 F R0 R1 v _ ok1 w1 fun τ2 σ2 R2 H2 h2 l2 ok2 => q.nx τ2 σ2 R2 H2 h2 (l1.trans l2) ok2
/-- name = e -/
theorem S1_set {i : Nat} {x : Str} {pos' : Pos} (hX : XF G X N sc n) (hN : N[i]? = some x) (hl : sc.names.lookup x = some .local) (h : E X e τ fun y τ1 => P.nx (τ1.set i y)) (hs : swapsWith e (some (.Name x pos')) pos.line (envS sc) = pure false := by rfl) :
    S1 X (.Assign [.Name x pos'] e pos) τ P :=
  S1.of (ps_set (i := i) (by rw [hX.eN]; exact hX.nd) (by rw [hX.eN]; exact hN) (hX.loc (.inl hl)) pe_sem ((sww_env (by rw [hX.es]; rfl)).trans hs) (.inr (by rw [hX.es]; exact hl))) fun σ H F R0 R D ok q => h σ H F R0 R _ ok fun x τ1 v R1 H1 h1 l1 ok1 w1 =>
    q.nx _ _ R1 H1 h1 l1 (ok1.set' i w1)
/-- the same, the name captured -/
theorem S1_setC {i : Nat} {x : Str} {pos' : Pos} (hX : XF G X N sc n) (hf : ∀ x, X.fn x = true) (hN : N[i]? = some x) (hl : sc.names.lookup x = some .cell) (h : E X e τ fun y τ1 => P.nx (τ1.set i y)) (hs : swapsWith e (some (.Name x pos')) pos.line (envS sc) = pure false := by rfl) :
    S1 X (.Assign [.Name x pos'] e pos) τ P :=
  S1.of (ps_set (i := i) (by rw [hX.eN]; exact hX.nd) (by rw [hX.eN]; exact hN) (hX.loc (.inr hl)) pe_sem ((sww_env (by rw [hX.es]; rfl)).trans hs) (.inl (hf x))) fun σ H F R0 R D ok q => h σ H F R0 R _ ok fun x τ1 v R1 H1 h1 l1 ok1 w1 =>
    q.nx _ _ R1 H1 h1 l1 (ok1.set' i w1)
/-! ### tests -/
theorem fz_rel {x : Kd} {α : Type} {A : DR α} {a : α} {F R0 R H : Hp} {σ : L2.St} {v : V} (ok : Ok F R0 R H σ τ) (w : VOk F R H τ v x) (f : Fz x (.im A a)) : ∃ R', Le R R' ∧ Ok F R0 R' H σ τ ∧ A.rel R' v a := by
  obtain ⟨R', l, ok', r, _⟩ := VOk.freeze ok w f
  exact ⟨R', l, ok', r⟩
/-- a test by a value that is True or False -/
theorem C_val {kt : Bool → Tau → Prop} (h : E X e τ fun x τ1 => ∃ b, Fz x (.im rB b) ∧ kt b τ1) (he : ∀ whole, isTrue e X.env whole = (do let v ← whole; standAt e.pos; holding [v] (truthy v)) := by intro _; rfl) : C X e τ kt :=
  C.of (pt_val pe_sem he) fun σ H F R0 R Q ok q => h σ H F R0 R _ ok fun x τ1 v R1 H1 ⟨b, fz, hk⟩ l1 ok1 w1 => by
    obtain ⟨R2, l2, ok2, r⟩ := fz_rel ok1 w1 fz
    exact ⟨b, r, q b τ1 R2 H1 hk (l1.trans l2) ok2⟩
/-- a comparison as a test -/
theorem C_cmp {op : CmpOp} {r : R2} {kt : Bool → Tau → Prop} (ho : OpR X (compareOp op) r) (hm : behindInMarks op b = false) (h : W (tOp r (sem X a) (sem X b)) τ fun x τ1 => ∃ c, Fz x (.im rB c) ∧ kt c τ1) : C X (.Compare a [op] [b] pos) τ kt :=
  C.of (pt_cmpR ho pe_sem pe_sem hm) fun σ H F R0 R Q ok q => h σ H F R0 R _ ok fun x τ1 v R1 H1 ⟨b, fz, hk⟩ l1 ok1 w1 => by
    obtain ⟨R2, l2, ok2, r⟩ := fz_rel ok1 w1 fz
    exact ⟨b, r, q b τ1 R2 H1 hk (l1.trans l2) ok2⟩
theorem C_lt {kt : Bool → Tau → Prop} (h : E X a τ fun x τ1 => ∃ i, Fz x (.im rI i) ∧ E X b τ1 fun y τ2 => ∃ j, Fz y (.im rI j) ∧ kt (decide (i < j)) τ2) : C X (.Compare a [.Lt] [b] pos) τ kt :=
  C_cmp op_lt (nomark _) (w_opI0 (D := rB) (f := fun i j => decide (i < j)) (fun _ _ _ => rfl) (h.mono fun x τ1 ⟨i, fz, hb⟩ => ⟨i, fz, hb.mono fun y τ2 ⟨j, fz', hk⟩ => ⟨j, fz', _, .im _ _, hk⟩⟩))
theorem C_le {kt : Bool → Tau → Prop} (h : E X a τ fun x τ1 => ∃ i, Fz x (.im rI i) ∧ E X b τ1 fun y τ2 => ∃ j, Fz y (.im rI j) ∧ kt (decide (i ≤ j)) τ2) : C X (.Compare a [.LtE] [b] pos) τ kt :=
  C_cmp op_le (nomark _) (w_opI0 (D := rB) (f := fun i j => decide (i ≤ j)) (fun _ _ _ => rfl) (h.mono fun x τ1 ⟨i, fz, hb⟩ => ⟨i, fz, hb.mono fun y τ2 ⟨j, fz', hk⟩ => ⟨j, fz', _, .im _ _, hk⟩⟩))
theorem C_gt {kt : Bool → Tau → Prop} (h : E X a τ fun x τ1 => ∃ i, Fz x (.im rI i) ∧ E X b τ1 fun y τ2 => ∃ j, Fz y (.im rI j) ∧ kt (decide (j < i)) τ2) : C X (.Compare a [.Gt] [b] pos) τ kt :=
  C_cmp op_gt (nomark _) (w_opI0 (D := rB) (f := fun i j => decide (j < i)) (fun _ _ _ => rfl) (h.mono fun x τ1 ⟨i, fz, hb⟩ => ⟨i, fz, hb.mono fun y τ2 ⟨j, fz', hk⟩ => ⟨j, fz', _, .im _ _, hk⟩⟩))
theorem C_ge {kt : Bool → Tau → Prop} (h : E X a τ fun x τ1 => ∃ i, Fz x (.im rI i) ∧ E X b τ1 fun y τ2 => ∃ j, Fz y (.im rI j) ∧ kt (decide (j ≤ i)) τ2) : C X (.Compare a [.GtE] [b] pos) τ kt :=
  C_cmp op_ge (nomark _) (w_opI0 (D := rB) (f := fun i j => decide (j ≤ i)) (fun _ _ _ => rfl) (h.mono fun x τ1 ⟨i, fz, hb⟩ => ⟨i, fz, hb.mono fun y τ2 ⟨j, fz', hk⟩ => ⟨j, fz', _, .im _ _, hk⟩⟩))
/-- == and != as tests: what E_eqI, E_eqS, E_eqD give -/
theorem W_eqI {k : KK} (h : E X a τ fun x τ1 => ∃ i, Fz x (.im rI i) ∧ E X b τ1 fun y τ2 => ∃ j, Fz y (.im rI j) ∧ k (.im rB (decide (i = j))) τ2) : W (tOp rEq (sem X a) (sem X b)) τ k :=
  w_op (A := rI) (B := rI) (k1 := k) (h.mono fun x τ1 ⟨i, fz, hb⟩ => ⟨i, fz, hb.mono fun y τ2 ⟨j, fz', hk⟩ => ⟨j, fz', fun σ H F R0 R Q v u ok r1 r2 q => by
    cases r1; cases r2
    refine ⟨rfl, ?_⟩
    have e : decide (V.int i = V.int j) = decide (i = j) := by rw [Bool.eq_iff_iff]; simp
    rw [e]
    exact q _ τ2 _ R H hk (Le.refl R) ok (VOk.im rfl)⟩⟩)
theorem W_neI {k : KK} (h : E X a τ fun x τ1 => ∃ i, Fz x (.im rI i) ∧ E X b τ1 fun y τ2 => ∃ j, Fz y (.im rI j) ∧ k (.im rB (!decide (i = j))) τ2) : W (tOp rNe (sem X a) (sem X b)) τ k :=
  w_op (A := rI) (B := rI) (k1 := k) (h.mono fun x τ1 ⟨i, fz, hb⟩ => ⟨i, fz, hb.mono fun y τ2 ⟨j, fz', hk⟩ => ⟨j, fz', fun σ H F R0 R Q v u ok r1 r2 q => by
    cases r1; cases r2
    refine ⟨rfl, ?_⟩
    have e : decide (V.int i = V.int j) = decide (i = j) := by rw [Bool.eq_iff_iff]; simp
    rw [e]
    exact q _ τ2 _ R H hk (Le.refl R) ok (VOk.im rfl)⟩⟩)
theorem C_eqI {kt : Bool → Tau → Prop} (h : E X a τ fun x τ1 => ∃ i, Fz x (.im rI i) ∧ E X b τ1 fun y τ2 => ∃ j, Fz y (.im rI j) ∧ kt (decide (i = j)) τ2) : C X (.Compare a [.Eq] [b] pos) τ kt :=
  C_cmp op_eq (nomark _) (W_eqI (h.mono fun x τ1 ⟨i, fz, hb⟩ => ⟨i, fz, hb.mono fun y τ2 ⟨j, fz', hk⟩ => ⟨j, fz', _, .im _ _, hk⟩⟩))
theorem C_neI {kt : Bool → Tau → Prop} (h : E X a τ fun x τ1 => ∃ i, Fz x (.im rI i) ∧ E X b τ1 fun y τ2 => ∃ j, Fz y (.im rI j) ∧ kt (!decide (i = j)) τ2) : C X (.Compare a [.NotEq] [b] pos) τ kt :=
  C_cmp op_ne (nomark _) (W_neI (h.mono fun x τ1 ⟨i, fz, hb⟩ => ⟨i, fz, hb.mono fun y τ2 ⟨j, fz', hk⟩ => ⟨j, fz', _, .im _ _, hk⟩⟩))
theorem C_eqD {α β : Type} {A : DR α} {B : DR β} {f : α → PyData} {g : β → PyData} {kt : Bool → Tau → Prop} (hX : XF G X N sc n) (hA : Deep G.K A f) (hB : Deep G.K B g)
    (h : E X a τ fun x τ1 => ∃ i, Fz x (.im A i) ∧ E X b τ1 fun y τ2 => ∃ j, Fz y (.im B j) ∧ SeqAt.shaped (f i) = true ∧ SeqAt.shaped (g j) = true ∧ kt (PyData.eqv (f i) (g j)) τ2) : C X (.Compare a [.Eq] [b] pos) τ kt :=
  C_cmp (op_eqD hX.room.units) (nomark _) (w_op (A := A) (B := B) (k1 := fun _ _ => True) (h.mono fun x τ1 ⟨i, fz, hb⟩ => ⟨i, fz, hb.mono fun y τ2 ⟨j, fz', s1, s2, hk⟩ => ⟨j, fz', fun σ H F R0 R Q v u ok r1 r2 q =>
    ⟨f i, g j, by rw [hX.eK]; exact hA R v i r1 H ok.le, by rw [hX.eK]; exact hB R u j r2 H ok.le, s1, s2, q _ τ2 _ R H ⟨_, .im _ _, hk⟩ (Le.refl R) ok (VOk.im rfl)⟩⟩⟩))
theorem C_neD {α β : Type} {A : DR α} {B : DR β} {f : α → PyData} {g : β → PyData} {kt : Bool → Tau → Prop} (hX : XF G X N sc n) (hA : Deep G.K A f) (hB : Deep G.K B g)
    (h : E X a τ fun x τ1 => ∃ i, Fz x (.im A i) ∧ E X b τ1 fun y τ2 => ∃ j, Fz y (.im B j) ∧ SeqAt.shaped (f i) = true ∧ SeqAt.shaped (g j) = true ∧ kt (!PyData.eqv (f i) (g j)) τ2) : C X (.Compare a [.NotEq] [b] pos) τ kt :=
  C_cmp (op_neD hX.room.units) (nomark _) (w_op (A := A) (B := B) (k1 := fun _ _ => True) (h.mono fun x τ1 ⟨i, fz, hb⟩ => ⟨i, fz, hb.mono fun y τ2 ⟨j, fz', s1, s2, hk⟩ => ⟨j, fz', fun σ H F R0 R Q v u ok r1 r2 q =>
    ⟨f i, g j, by rw [hX.eK]; exact hA R v i r1 H ok.le, by rw [hX.eK]; exact hB R u j r2 H ok.le, s1, s2, q _ τ2 _ R H ⟨_, .im _ _, hk⟩ (Le.refl R) ok (VOk.im rfl)⟩⟩⟩))
/-- a and b, a or b, not a -/
def CW (X : Cx) (e : Expr) (τ : Tau) (k : Bool → Tau → Prop) : Prop := ∃ t, PW X e t ∧ WT t τ k
theorem WT.mono {t : TT} {k k' : Bool → Tau → Prop} (h : WT t τ k) (m : ∀ b τ', k b τ' → k' b τ') : WT t τ k' := fun σ H F R0 R Q ok q => h σ H F R0 R Q ok fun b τ' R' H' z => q b τ' R' H' (m b τ' z)
theorem C_and2 {kt : Bool → Tau → Prop} (h : C X a τ fun c τ1 => (c = true → C X b τ1 kt) ∧ (c = false → kt false τ1)) : C X (.BoolOp .And [a, b] pos) τ kt :=
  C.of (PW.pt (pw_and pt_sem (pw_and1 pt_sem))) fun σ H F R0 R Q ok q => h σ H F R0 R _ ok fun c τ1 R1 H1 ⟨h1, h2⟩ l1 ok1 => by
    cases c with
    | true => exact iteT (h1 rfl σ H1 F R0 R1 _ ok1 fun d τ2 R2 H2 hk l2 ok2 => q d τ2 R2 H2 hk (l1.trans l2) ok2)
    | false => exact iteF (q false τ1 R1 H1 (h2 rfl) l1 ok1)
theorem C_or2 {kt : Bool → Tau → Prop} (h : C X a τ fun c τ1 => (c = true → kt true τ1) ∧ (c = false → C X b τ1 kt)) : C X (.BoolOp .Or [a, b] pos) τ kt :=
  C.of (PW.pt (pw_or pt_sem (pw_or1 pt_sem))) fun σ H F R0 R Q ok q => h σ H F R0 R _ ok fun c τ1 R1 H1 ⟨h1, h2⟩ l1 ok1 => by
    cases c with
    | true => exact iteT (q true τ1 R1 H1 (h1 rfl) l1 ok1)
    | false => exact iteF (h2 rfl σ H1 F R0 R1 _ ok1 fun d τ2 R2 H2 hk l2 ok2 => q d τ2 R2 H2 hk (l1.trans l2) ok2)
theorem C_and3 {kt : Bool → Tau → Prop} (h : C X a τ fun d τ1 => (d = true → C X b τ1 fun d τ2 => (d = true → C X c τ2 kt) ∧ (d = false → kt false τ2)) ∧ (d = false → kt false τ1)) : C X (.BoolOp .And [a, b, c] pos) τ kt :=
  C.of (PW.pt (pw_and pt_sem (pw_and pt_sem (pw_and1 pt_sem)))) fun σ H F R0 R Q ok q => h σ H F R0 R _ ok fun c τ1 R1 H1 ⟨h1, h2⟩ l1 ok1 => by
    cases c with
    | false => exact iteF (q false τ1 R1 H1 (h2 rfl) l1 ok1)
    | true =>
      refine iteT (h1 rfl σ H1 F R0 R1 _ ok1 fun d τ2 R2 H2 ⟨h3, h4⟩ l2 ok2 => ?_)
      cases d with
      | false => exact iteF (q false τ2 R2 H2 (h4 rfl) (l1.trans l2) ok2)
      | true => exact iteT (h3 rfl σ H2 F R0 R2 _ ok2 fun d τ3 R3 H3 hk l3 ok3 => q d τ3 R3 H3 hk ((l1.trans l2).trans l3) ok3)
theorem C_or3 {kt : Bool → Tau → Prop} (h : C X a τ fun d τ1 => (d = true → kt true τ1) ∧ (d = false → C X b τ1 fun d τ2 => (d = true → kt true τ2) ∧ (d = false → C X c τ2 kt))) : C X (.BoolOp .Or [a, b, c] pos) τ kt :=
  C.of (PW.pt (pw_or pt_sem (pw_or pt_sem (pw_or1 pt_sem)))) fun σ H F R0 R Q ok q => h σ H F R0 R _ ok fun c τ1 R1 H1 ⟨h1, h2⟩ l1 ok1 => by
    cases c with
    | true => exact iteT (q true τ1 R1 H1 (h1 rfl) l1 ok1)
    | false =>
      refine iteF (h2 rfl σ H1 F R0 R1 _ ok1 fun d τ2 R2 H2 ⟨h3, h4⟩ l2 ok2 => ?_)
      cases d with
      | true => exact iteT (q true τ2 R2 H2 (h3 rfl) (l1.trans l2) ok2)
      | false => exact iteF (h4 rfl σ H2 F R0 R2 _ ok2 fun d τ3 R3 H3 hk l3 ok3 => q d τ3 R3 H3 hk ((l1.trans l2).trans l3) ok3)
theorem C_not {kt : Bool → Tau → Prop} (h : C X a τ fun c τ1 => kt (!c) τ1) : C X (.UnaryOp .Not a pos) τ kt :=
  C.of (pt_not pt_sem) fun σ H F R0 R Q ok q => h σ H F R0 R _ ok fun c τ1 R1 H1 hk l1 ok1 => q _ τ1 R1 H1 hk l1 ok1
/-- the same as values -/
theorem E_and2 {k : KK} (h : E X a τ fun x τ1 => ∃ c, Fz x (.im rB c) ∧ (c = true → E X b τ1 k) ∧ (c = false → k (.im rB false) τ1)) : E X (.BoolOp .And [a, b] pos) τ k :=
  E.of (pe_and pe_sem (pe_one pe_sem)) fun σ H F R0 R Q ok q => h σ H F R0 R _ ok fun x τ1 v R1 H1 ⟨c, fz, h1, h2⟩ l1 ok1 w1 => by
    obtain ⟨R2, l2, ok2, r⟩ := fz_rel ok1 w1 fz
    refine ⟨c, r, ?_⟩
    cases c with
    | true => exact iteT (h1 rfl σ H1 F R0 R2 _ ok2 fun y τ2 u R3 H3 hk l3 ok3 w3 => q y τ2 u R3 H3 hk ((l1.trans l2).trans l3) ok3 w3)
    | false => exact iteF (q _ τ1 _ R2 H1 (h2 rfl) (l1.trans l2) ok2 (VOk.im rfl))
theorem E_or2 {k : KK} (h : E X a τ fun x τ1 => ∃ c, Fz x (.im rB c) ∧ (c = true → k (.im rB true) τ1) ∧ (c = false → E X b τ1 k)) : E X (.BoolOp .Or [a, b] pos) τ k :=
  E.of (pe_or pe_sem (pe_one pe_sem)) fun σ H F R0 R Q ok q => h σ H F R0 R _ ok fun x τ1 v R1 H1 ⟨c, fz, h1, h2⟩ l1 ok1 w1 => by
    obtain ⟨R2, l2, ok2, r⟩ := fz_rel ok1 w1 fz
    refine ⟨c, r, ?_⟩
    cases c with
    | true => exact iteT (q _ τ1 _ R2 H1 (h1 rfl) (l1.trans l2) ok2 (VOk.im rfl))
    | false => exact iteF (h2 rfl σ H1 F R0 R2 _ ok2 fun y τ2 u R3 H3 hk l3 ok3 w3 => q y τ2 u R3 H3 hk ((l1.trans l2).trans l3) ok3 w3)
theorem E_and3 {k : KK} (h : E X a τ fun x τ1 => ∃ d, Fz x (.im rB d) ∧ (d = true → E X b τ1 fun x τ2 => ∃ d, Fz x (.im rB d) ∧ (d = true → E X c τ2 k) ∧ (d = false → k (.im rB false) τ2)) ∧ (d = false → k (.im rB false) τ1)) : E X (.BoolOp .And [a, b, c] pos) τ k :=
  E.of (pe_and pe_sem (pe_and pe_sem (pe_one pe_sem))) fun σ H F R0 R Q ok q => h σ H F R0 R _ ok fun x τ1 v R1 H1 ⟨c, fz, h1, h2⟩ l1 ok1 w1 => by
    obtain ⟨R2, l2, ok2, r⟩ := fz_rel ok1 w1 fz
    refine ⟨c, r, ?_⟩
    cases c with
    | false => exact iteF (q _ τ1 _ R2 H1 (h2 rfl) (l1.trans l2) ok2 (VOk.im rfl))
    | true =>
      refine iteT (h1 rfl σ H1 F R0 R2 _ ok2 fun y τ2 u R3 H3 ⟨d, fz', h3, h4⟩ l3 ok3 w3 => ?_)
      obtain ⟨R4, l4, ok4, r'⟩ := fz_rel ok3 w3 fz'
      refine ⟨d, r', ?_⟩
      have lt := (l1.trans l2).trans (l3.trans l4)
      cases d with
      | false => exact iteF (q _ τ2 _ R4 H3 (h4 rfl) lt ok4 (VOk.im rfl))
      | true => exact iteT (h3 rfl σ H3 F R0 R4 _ ok4 fun y τ2 u R5 H5 hk l5 ok5 w5 => q y τ2 u R5 H5 hk (lt.trans l5) ok5 w5)
theorem E_not {k : KK} (h : E X a τ fun x τ1 => ∃ c, Fz x (.im rB c) ∧ k (.im rB (!c)) τ1) : E X (.UnaryOp .Not a pos) τ k :=
  E.of (pe_not pe_sem) fun σ H F R0 R Q ok q => h σ H F R0 R _ ok fun x τ1 v R1 H1 ⟨c, fz, h1⟩ l1 ok1 w1 => by
    obtain ⟨R2, l2, ok2, r⟩ := fz_rel ok1 w1 fz
    exact ⟨c, r, q _ τ1 _ R2 H1 h1 (l1.trans l2) ok2 (VOk.im rfl)⟩
theorem E_if {k : KK} (h : C X c τ fun d τ1 => (d = true → E X a τ1 k) ∧ (d = false → E X b τ1 k)) : E X (.IfExp c a b pos) τ k :=
  E.of (pe_ifExp pt_sem pe_sem pe_sem) fun σ H F R0 R Q ok q => h σ H F R0 R _ ok fun d τ1 R1 H1 ⟨h1, h2⟩ l1 ok1 => by
    cases d with
    | true => exact iteT (h1 rfl σ H1 F R0 R1 _ ok1 fun y τ2 u R3 H3 hk l3 ok3 w3 => q y τ2 u R3 H3 hk (l1.trans l3) ok3 w3)
    | false => exact iteF (h2 rfl σ H1 F R0 R1 _ ok1 fun y τ2 u R3 H3 hk l3 ok3 w3 => q y τ2 u R3 H3 hk (l1.trans l3) ok3 w3)
theorem S1_if (h : C X c τ fun d τ1 => (d = true → S X body τ1 P) ∧ (d = false → S X els τ1 P)) : S1 X (.If c body els pos) τ P :=
  S1.of (ps_if pt_sem pss_sem pss_sem) fun σ H F R0 R D ok q => h σ H F R0 R _ ok fun d τ1 R1 H1 ⟨h1, h2⟩ l1 ok1 => by
    cases d with
    | true => exact iteT (h1 rfl σ H1 F R0 R1 D ok1 (q.up l1))
    | false => exact iteF (h2 rfl σ H1 F R0 R1 D ok1 (q.up l1))
theorem S1_while (hp : PassesOwn (model X.prog X.w) X.A X.env X.xe) (I : Nat → Tau → Prop) (m : Nat) (h0 : I m τ)
    (hs : ∀ m τ', I m τ' → C X c τ' fun d τ1 => (d = true → S X body τ1 { P with nx := fun τ2 => ∃ m', m' < m ∧ I m' τ2, ct := fun τ2 => ∃ m', m' < m ∧ I m' τ2, bk := P.nx }) ∧ (d = false → P.nx τ1)) : S1 X (.While c body [] pos) τ P :=
  S1.of (ps_while hp pt_sem pss_sem) fun σ H F R0 R D ok q => by
    refine ⟨fun m σ H => ∃ τ' R', I m τ' ∧ Le R R' ∧ Ok F R0 R' H σ τ', ⟨m, τ, R, h0, Le.refl R, ok⟩, ?_⟩
    rintro m σ1 H1 ⟨τ1, R1, hI, l1, ok1⟩
    refine hs m τ1 hI σ1 H1 F R0 R1 _ ok1 fun d τ2 R2 H2 ⟨h1, h2⟩ l2 ok2 => ?_
    cases d with
    | false => exact iteF (q.nx τ2 σ1 R2 H2 (h2 rfl) (l1.trans l2) ok2)
    | true =>
      refine iteT ⟨fun σ3 H3 => ∃ m', m' < m ∧ ∃ τ' R', I m' τ' ∧ Le R R' ∧ Ok F R0 R' H3 σ3 τ', fun σ3 H3 ⟨m', hm, z⟩ => ⟨m', hm, z⟩, ?_⟩
      refine h1 rfl σ1 H2 F R0 R2 _ ok2 ⟨?_, ?_, ?_, ?_⟩
      · rintro τ3 σ3 R3 H3 ⟨m', hm, hI3⟩ l3 ok3
        exact ⟨m', hm, τ3, R3, hI3, (l1.trans l2).trans l3, ok3⟩
      · intro x τ3 v σ3 R3 H3 hr l3 ok3 w3
        exact q.rt x τ3 v σ3 R3 H3 hr ((l1.trans l2).trans l3) ok3 w3
      · intro τ3 σ3 R3 H3 hr l3 ok3
        exact q.nx τ3 σ3 R3 H3 hr ((l1.trans l2).trans l3) ok3
      · rintro τ3 σ3 R3 H3 ⟨m', hm, hI3⟩ l3 ok3
        exact ⟨m', hm, τ3, R3, hI3, (l1.trans l2).trans l3, ok3⟩
end
end T
end
section
set_option Elab.async false
set_option linter.all false
set_option autoImplicit false
set_option maxRecDepth 100000
set_option maxHeartbeats 2000000
namespace T
open PySem PySem.Spec PyProof.Rows L2 RZ

/-! ### what a loop walks -/
structure ItOk (J : It) (F R : Hp) (ys : List Kd) : Prop where
  go : ∀ (F' R' H : Hp) (i : Nat), Le F F' → Le F' H → Le R R' → LeR R' H → i < ys.length → J.go i H
  stop : ∀ (F' R' H : Hp), Le F F' → Le F' H → Le R R' → LeR R' H → J.stop ys.length H
  yld : ∀ (F' R0 R' H : Hp) (σ : L2.St) (τ : Tau) (i : Nat) (y : Kd) (x : V) (H' : Hp), Le F F' → Ok F' R0 R' H σ τ → Le R R' → ys[i]? = some y → J.yld i H x H' → ∃ R'', Le R' R'' ∧ Ok F' R0 R'' H' σ τ ∧ IsIm y ∧ y.rel R'' H' x
def WI (wi : TI) (τ : Tau) (k : List Kd → Tau → Prop) : Prop := ∀ (σ : L2.St) (H F R0 R : Hp) (Rr : It → Hp → Prop), Ok F R0 R H σ τ →
  (∀ J ys τ' R' H', k ys τ' → Le R R' → Ok F R0 R' H' σ τ' → ItOk J F R' ys → Rr J H') → wi σ H Rr
def semI (X : Cx) (tg iter : Expr) : TI := fun σ H R => ∀ pins s, Inv X pins σ H s → wpAny (model X.prog X.w) X.A (eval iter X.env) (fun v s1 => wpAny (model X.prog X.w) X.A (pyIter v) (L2.PIE X pins σ tg R) X.xe s1) X.xe s
theorem pi_sem {X : Cx} {tg iter : Expr} : PI X tg iter (semI X tg iter) := ⟨fun pins s σ H R I h => h pins s I⟩
def It (X : Cx) (tg iter : Expr) (τ : Tau) (k : List Kd → Tau → Prop) : Prop := WI (semI X tg iter) τ k
theorem It.of {X : Cx} {tg iter : Expr} {wi : TI} {τ : Tau} {k : List Kd → Tau → Prop} (h : PI X tg iter wi) (w : WI wi τ k) : It X tg iter τ k :=
  fun σ H F R0 R Rr ok q pins s I => h.run pins s σ H Rr I (w σ H F R0 R Rr ok q)

theorem LeR.up {R R' H : Hp} (l : Le R R') (h : LeR R' H) : LeR R H := LeR.of l h
theorem paired_get' {R : Hp} {α : Type} {A : DR α} : ∀ {xs : List V} {l : List α}, Paired (A.rel R) xs l → ∀ (i : Nat) (x : V) (a : α), xs[i]? = some x → l[i]? = some a → A.rel R x a
  | _, _, .nil, i, x, a, e, _ => by simp at e
  | _, _, .cons r t, i, x, a, e1, e2 => by
    cases i with
    | zero => cases e1; cases e2; exact r
    | succ i => exact paired_get' t i x a (by simpa using e1) (by simpa using e2)
theorem itOk_list {K : PySem.W.Frag} {F R : Hp} {α : Type} {A : DR α} {p : Addr} {xs : List V} {l : List α} (h : SqL K R p xs) (hp : Paired (A.rel R) xs l) : ItOk (Itl K p) F R (l.map (.im A)) where
  go := fun F' R' H i _ _ l1 l2 hi => by
    rw [List.length_map, ← PySem.Paired.length hp] at hi
    exact ⟨xs, xs[i], (l2.up l1).sqL h, List.getElem?_eq_getElem hi⟩
  stop := fun F' R' H _ _ l1 l2 => ⟨xs, (l2.up l1).sqL h, by rw [List.length_map, ← PySem.Paired.length hp]; exact Nat.le_refl _⟩
  yld := fun F' R0 R' H σ τ i y x H' _ ok l1 ey ⟨e, hy⟩ => by
    subst e
    rw [List.getElem?_map] at ey
    cases ea : l[i]? with
    | none => rw [ea] at ey; cases ey
    | some a =>
      rw [ea] at ey
      cases ey
      have hx := hy xs ((ok.le.up l1).sqL h)
      exact ⟨R', Le.refl R', ok, trivial, A.up l1 (paired_get' hp i x a hx ea)⟩
theorem itOk_tup {K : PySem.W.Frag} {F R : Hp} {α : Type} {A : DR α} {p : Addr} {xs : List V} {l : List α} (h : SqT K R p xs) (hp : Paired (A.rel R) xs l) : ItOk (Itt K p) F R (l.map (.im A)) where
  go := fun F' R' H i _ _ l1 l2 hi => by
    rw [List.length_map, ← PySem.Paired.length hp] at hi
    exact ⟨xs, xs[i], (l2.up l1).sqT h, List.getElem?_eq_getElem hi⟩
  stop := fun F' R' H _ _ l1 l2 => ⟨xs, (l2.up l1).sqT h, by rw [List.length_map, ← PySem.Paired.length hp]; exact Nat.le_refl _⟩
  yld := fun F' R0 R' H σ τ i y x H' _ ok l1 ey ⟨e, hy⟩ => by
    subst e
    rw [List.getElem?_map] at ey
    cases ea : l[i]? with
    | none => rw [ea] at ey; cases ey
    | some a =>
      rw [ea] at ey
      cases ey
      have hx := hy xs ((ok.le.up l1).sqT h)
      exact ⟨R', Le.refl R', ok, trivial, A.up l1 (paired_get' hp i x a hx ea)⟩
/-- lo, lo + 1, .. -/
def rngK (lo : Int) (m : Nat) : List Kd := (List.range m).map fun (i : Nat) => .im rI (lo + (i : Int))
theorem itOk_rng {F R : Hp} {lo : Int} {m : Nat} : ItOk (Itr lo m) F R (rngK lo m) where
  go := fun F' R' H i _ _ _ _ hi => by
    show i < m
    simpa [rngK] using hi
  stop := fun F' R' H _ _ _ _ => by simp [rngK, Itr]
  yld := fun F' R0 R' H σ τ i y x H' _ ok l1 ey ⟨e, hy⟩ => by
    subst e; subst hy
    unfold rngK at ey
    rw [List.getElem?_map] at ey
    by_cases hi : i < m
    · rw [List.getElem?_range hi] at ey
      cases ey
      exact ⟨R', Le.refl R', ok, trivial, rfl⟩
    · rw [List.getElem?_eq_none (by simpa using hi)] at ey
      cases ey
theorem itOk_zipL {K : PySem.W.Frag} {F R : Hp} {α β : Type} {A : DR α} {B : DR β} {p q : Addr} {xs ys : List V} {l : List α} {m : List β} (h : SqL K R p xs) (hp : Paired (A.rel R) xs l) (h' : SqL K R q ys) (hp' : Paired (B.rel R) ys m) :
    ItOk (Itz K p q) F R ((l.zip m).map (.im (rPair K A B))) where
  go := fun F' R' H i _ _ l1 l2 hi => by
    rw [List.length_map, List.length_zip, ← PySem.Paired.length hp, ← PySem.Paired.length hp'] at hi
    exact ⟨xs, ys, xs[i], ys[i], (l2.up l1).sqL h, (l2.up l1).sqL h', List.getElem?_eq_getElem (by omega), List.getElem?_eq_getElem (by omega)⟩
  stop := fun F' R' H _ _ l1 l2 => ⟨xs, ys, (l2.up l1).sqL h, (l2.up l1).sqL h', by
    rw [List.length_map, List.length_zip, ← PySem.Paired.length hp, ← PySem.Paired.length hp']; omega⟩
  yld := fun F' R0 R' H σ τ i y x H' _ ok l1 ey ⟨T, a, b, e, hT, e', hx, hy⟩ => by
    subst e; subst e'
    rw [List.getElem?_map] at ey
    cases ea : (l.zip m)[i]? with
    | none => rw [ea] at ey; cases ey
    | some c =>
      rw [ea] at ey
      cases ey
      obtain ⟨e1, e2⟩ := List.getElem?_zip_eq_some.mp ea
      have hx := hx xs ((ok.le.up l1).sqL h)
      have hy := hy ys ((ok.le.up l1).sqL h')
      obtain ⟨hR, _⟩ := ok.fresh hT
      exact ⟨upd R' T (.tup [a, b]), Le.upd hR, ok.lay hT, trivial, T, a, b, rfl, .inl (.inl upd_same), A.up (l1.trans (Le.upd hR)) (paired_get' hp i a c.1 hx e1), B.up (l1.trans (Le.upd hR)) (paired_get' hp' i b c.2 hy e2)⟩
theorem itOk_zipT {K : PySem.W.Frag} {F R : Hp} {α β : Type} {A : DR α} {B : DR β} {p q : Addr} {xs ys : List V} {l : List α} {m : List β} (h : SqT K R p xs) (hp : Paired (A.rel R) xs l) (h' : SqT K R q ys) (hp' : Paired (B.rel R) ys m) :
    ItOk (ItzT K p q) F R ((l.zip m).map (.im (rPair K A B))) where
  go := fun F' R' H i _ _ l1 l2 hi => by
    rw [List.length_map, List.length_zip, ← PySem.Paired.length hp, ← PySem.Paired.length hp'] at hi
    exact ⟨xs, ys, xs[i], ys[i], (l2.up l1).sqT h, (l2.up l1).sqT h', List.getElem?_eq_getElem (by omega), List.getElem?_eq_getElem (by omega)⟩
  stop := fun F' R' H _ _ l1 l2 => ⟨xs, ys, (l2.up l1).sqT h, (l2.up l1).sqT h', by
    rw [List.length_map, List.length_zip, ← PySem.Paired.length hp, ← PySem.Paired.length hp']; omega⟩
  yld := fun F' R0 R' H σ τ i y x H' _ ok l1 ey ⟨T, a, b, e, hT, e', hx, hy⟩ => by
    subst e; subst e'
    rw [List.getElem?_map] at ey
    cases ea : (l.zip m)[i]? with
    | none => rw [ea] at ey; cases ey
    | some c =>
      rw [ea] at ey
      cases ey
      obtain ⟨e1, e2⟩ := List.getElem?_zip_eq_some.mp ea
      have hx := hx xs ((ok.le.up l1).sqT h)
      have hy := hy ys ((ok.le.up l1).sqT h')
      obtain ⟨hR, _⟩ := ok.fresh hT
      exact ⟨upd R' T (.tup [a, b]), Le.upd hR, ok.lay hT, trivial, T, a, b, rfl, .inl (.inl upd_same), A.up (l1.trans (Le.upd hR)) (paired_get' hp i a c.1 hx e1), B.up (l1.trans (Le.upd hR)) (paired_get' hp' i b c.2 hy e2)⟩
/-- the pairs of a dict -/
theorem kvs_get {β : Type} {B : DR β} {R : Hp} {kvs : List (Key × V)} {d : List (Int × β)} (h : KVs B R kvs d) (i : Nat) {k : Key} {v : V} {c : Int × β} (e1 : kvs[i]? = some (k, v)) (e2 : d[i]? = some c) : k = .inl c.1 ∧ B.rel R v c.2 := by
  unfold KVs at h
  induction h generalizing i with
  | nil => cases e1
  | cons r t ih =>
    cases i with
    | zero => cases e1; cases e2; exact r
    | succ i => exact ih i (by simpa using e1) (by simpa using e2)
theorem itOk_items {K : PySem.W.Frag} {F R : Hp} {β : Type} {B : DR β} {p : Addr} {o : Obj} {kvs : List (Key × V)} {d : List (Int × β)} (hF : F p = some (.frz o (.dK kvs))) (hp : KVs B R kvs d) : ItOk (Iti p o kvs) F R (d.map (.im (rPair K rI B))) where
  go := fun F' R' H i f1 f2 _ _ hi => ⟨f2 _ _ (f1 _ _ hF), by rw [List.length_map, ← PySem.Paired.length hp] at hi; exact hi⟩
  stop := fun F' R' H f1 f2 _ _ => ⟨f2 _ _ (f1 _ _ hF), by rw [List.length_map, ← PySem.Paired.length hp]; exact Nat.le_refl _⟩
  yld := fun F' R0 R' H σ τ i y x H' f1 ok l1 ey ⟨T, k, v, ek, e, hT, e'⟩ => by
    subst e; subst e'
    rw [List.getElem?_map] at ey
    cases ea : d[i]? with
    | none => rw [ea] at ey; cases ey
    | some c =>
      rw [ea] at ey
      cases ey
      obtain ⟨rk, rv⟩ := kvs_get hp i ek ea
      subst rk
      obtain ⟨hR, _⟩ := ok.fresh hT
      exact ⟨upd R' T (.tup [V.int c.1, v]), Le.upd hR, ok.lay hT, trivial, T, V.int c.1, v, rfl, .inl (.inl upd_same), rfl, B.up (l1.trans (Le.upd hR)) rv⟩
theorem itOk_vals {F R : Hp} {β : Type} {B : DR β} {p : Addr} {o : Obj} {kvs : List (Key × V)} {d : List (Int × β)} (hF : F p = some (.frz o (.dK kvs))) (hp : KVs B R kvs d) : ItOk (Itd p o kvs) F R (d.map fun c => .im B c.2) where
  go := fun F' R' H i f1 f2 _ _ hi => ⟨f2 _ _ (f1 _ _ hF), by rw [List.length_map, ← PySem.Paired.length hp] at hi; exact hi⟩
  stop := fun F' R' H f1 f2 _ _ => ⟨f2 _ _ (f1 _ _ hF), by rw [List.length_map, ← PySem.Paired.length hp]; exact Nat.le_refl _⟩
  yld := fun F' R0 R' H σ τ i y x H' f1 ok l1 ey ⟨e, k, ek⟩ => by
    subst e
    rw [List.getElem?_map] at ey
    cases ea : d[i]? with
    | none => rw [ea] at ey; cases ey
    | some c =>
      rw [ea] at ey
      cases ey
      obtain ⟨rk, rv⟩ := kvs_get hp i ek ea
      exact ⟨R', Le.refl R', ok, trivial, B.up l1 rv⟩
theorem itOk_keys {F R : Hp} {β : Type} {B : DR β} {p : Addr} {o : Obj} {kvs : List (Key × V)} {d : List (Int × β)} (hF : F p = some (.frz o (.dK kvs))) (hp : KVs B R kvs d) : ItOk (Itk p o kvs) F R (d.map fun c => .im rI c.1) where
  go := fun F' R' H i f1 f2 _ _ hi => ⟨f2 _ _ (f1 _ _ hF), by rw [List.length_map, ← PySem.Paired.length hp] at hi; exact hi⟩
  stop := fun F' R' H f1 f2 _ _ => ⟨f2 _ _ (f1 _ _ hF), by rw [List.length_map, ← PySem.Paired.length hp]; exact Nat.le_refl _⟩
  yld := fun F' R0 R' H σ τ i y x H' f1 ok l1 ey ⟨e, k, v, ek, ex⟩ => by
    subst e
    rw [List.getElem?_map] at ey
    cases ea : d[i]? with
    | none => rw [ea] at ey; cases ey
    | some c =>
      rw [ea] at ey
      cases ey
      obtain ⟨rk, rv⟩ := kvs_get hp i ek ea
      subst rk
      exact ⟨R', Le.refl R', ok, trivial, ex⟩

section
variable {G : Gm} {X : Cx} {N : List Str} {sc : Scope} {n : Nat} {τ τ1 : Tau} {P : Po} {k : List Kd → Tau → Prop} {y : Kd} {e e2 a b c tg iter elt : Expr} {es elts : List Expr} {pos p tpos : Pos} {st : Stmt} {sts body els : List Stmt} {kk : Nat}
theorem I_list (hX : XF G X N sc n) (h : E X e τ fun x τ1 => ∃ α, ∃ A : DR α, ∃ l, Fz x (.im (rL G.K A) l) ∧ k (l.map (.im A)) τ1) : It X tg e τ k :=
  It.of (pi_list pe_sem) fun σ H F R0 R Rr ok q => h σ H F R0 R _ ok fun x τ1 v R1 H1 ⟨α, A, l, fz, hk⟩ l1 ok1 w1 => by
    obtain ⟨R2, l2, ok2, ⟨pa, xs, e1, hs, hp⟩⟩ := fz_rel ok1 w1 fz
    refine ⟨pa, e1, ⟨xs, by rw [hX.eK]; exact .inl (ok2.le.rd hs)⟩, ?_⟩
    rw [hX.eK]
    exact q _ _ τ1 R2 H1 hk (l1.trans l2) ok2 (itOk_list (.inl hs) hp)
theorem I_tup (hX : XF G X N sc n) (h : E X e τ fun x τ1 => ∃ α, ∃ A : DR α, ∃ l, Fz x (.im (rT G.K A) l) ∧ k (l.map (.im A)) τ1) : It X tg e τ k :=
  It.of (pi_tup pe_sem) fun σ H F R0 R Rr ok q => h σ H F R0 R _ ok fun x τ1 v R1 H1 ⟨α, A, l, fz, hk⟩ l1 ok1 w1 => by
    obtain ⟨R2, l2, ok2, ⟨pa, xs, e1, hs, hp⟩⟩ := fz_rel ok1 w1 fz
    refine ⟨pa, e1, ⟨xs, by rw [hX.eK]; exact ok2.le.sqT hs⟩, ?_⟩
    rw [hX.eK]
    exact q _ _ τ1 R2 H1 hk (l1.trans l2) ok2 (itOk_tup hs hp)
/-- a name's list or tuple -/
theorem I_nameLT {i : Nat} {x : Str} {α : Type} {A : DR α} {l : List α} (hX : XF G X N sc n) (hN : N[i]? = some x) (hv : Vis sc x) (ht : τ[i]? = some (.im (rLT G.K A) l)) (h : k (l.map (.im A)) τ)
    (hd : (x == ("__debug__" : Str)) = false := by decide) (hcd : (x == ("__classdict__" : Str)) = false := by decide) : It X tg (.Name x pos) τ k := fun σ H F R0 R Rr ok q => by
  have pn : PE X (.Name x pos) (tVar i) := pe_var (i := i) (by rw [hX.eN]; exact hN) (hX.vis hv) hd hcd
  rcases ok.sl i _ ht with z | ⟨v, hv', r⟩
  · cases z
  · have hs : σ[i]? = some (some v) := by
      cases hs : σ[i]? with
      | none => rw [hs] at hv'; cases hv'
      | some u => rw [hs] at hv'; exact congrArg some hv'
    rcases r with ⟨pa, xs, e1, hq, hp⟩ | ⟨pa, xs, e1, hq, hp⟩
    · have := It.of (k := k) (pi_list (tg := tg) pn) (τ := τ)
      intro pins s I
      refine (pi_list (tg := tg) pn).run pins s σ H Rr I ⟨v, hs, pa, e1, ⟨xs, by rw [hX.eK]; exact .inl (ok.le.rd hq)⟩, ?_⟩
      rw [hX.eK]
      exact q _ _ τ R H h (Le.refl R) ok (itOk_list (.inl hq) hp)
    · intro pins s I
      refine (pi_tup (tg := tg) pn).run pins s σ H Rr I ⟨v, hs, pa, e1, ⟨xs, by rw [hX.eK]; exact ok.le.sqT hq⟩, ?_⟩
      rw [hX.eK]
      exact q _ _ τ R H h (Le.refl R) ok (itOk_tup hq hp)
theorem I_rng1 (hX : XF G X N sc n) (hg : sc.names.lookup ("range" : Str) = some .globalImplicit) (hm : G.mg ("range" : Str) = none) (hs : noStar [a] = true)
    (h : E X a τ fun x τ1 => ∃ j, Fz x (.im rI j) ∧ -(2 ^ 62) ≤ j ∧ j < 2 ^ 62 ∧ k (rngK 0 j.toNat) τ1) : It X tg (.Call (.Name "range" p) [a] [] pos) τ k :=
  It.of (pi_range1 (hX.gl hg) (hX.mgN hm) (pa_cons pe_sem pa_nil (by cases a <;> first | rfl | (simp [noStar] at hs))) (by cases a <;> first | rfl | (simp [noStar] at hs))) fun σ H F R0 R Rr ok q => h σ H F R0 R _ ok fun x τ1 v R1 H1 ⟨j, fz, hb, hc, hk⟩ l1 ok1 w1 => by
    obtain ⟨R2, l2, ok2, r⟩ := fz_rel ok1 w1 fz
    cases r
    exact ⟨j, rfl, hb, hc, q _ _ τ1 R2 H1 hk (l1.trans l2) ok2 itOk_rng⟩
theorem I_rng2 (hX : XF G X N sc n) (hg : sc.names.lookup ("range" : Str) = some .globalImplicit) (hm : G.mg ("range" : Str) = none) (hs : noStar [a, b] = true)
    (h : E X a τ fun x τ1 => ∃ i, Fz x (.im rI i) ∧ E X b τ1 fun y τ2 => ∃ j, Fz y (.im rI j) ∧ (-(2 ^ 62) ≤ i ∧ i < 2 ^ 62 ∧ -(2 ^ 62) ≤ j ∧ j < 2 ^ 62) ∧ k (rngK i (j - i).toNat) τ2) : It X tg (.Call (.Name "range" p) [a, b] [] pos) τ k := by
  have sb : noStar [b] = true := by cases a <;> first | exact hs | (simp [noStar] at hs)
  have pb : PA X [b] (tCons (sem X b) tNil) := pa_cons pe_sem pa_nil (by cases b <;> first | rfl | (simp [noStar] at sb))
  have st := star_of (env := X.env) hs
  have st1 := st a [b] (List.suffix_refl _)
  have st2 := st b [] (List.suffix_cons _ _)
  refine It.of (pi_range2 (hX.gl hg) (hX.mgN hm) (pa_cons pe_sem pb st1) (by rw [st1, st2]; rfl) (by rw [st2]; rfl)) fun σ H F R0 R Rr ok q => h σ H F R0 R _ ok fun x τ1 v R1 H1 ⟨i, fz, hb⟩ l1 ok1 w1 => ?_
  obtain ⟨R2, l2, ok2, r⟩ := fz_rel ok1 w1 fz
  cases r
  refine hb σ H1 F R0 R2 _ ok2 fun y τ2 u R3 H3 ⟨j, fz', hc, hk⟩ l3 ok3 w3 => ?_
  obtain ⟨R4, l4, ok4, r'⟩ := fz_rel ok3 w3 fz'
  cases r'
  exact ⟨i, j, rfl, hc, q _ _ τ2 R4 H3 hk ((l1.trans l2).trans (l3.trans l4)) ok4 itOk_rng⟩
/-- zip of two lists, of two tuples -/
theorem I_zip {α β : Type} {A : DR α} {B : DR β} (tup : Bool) (hX : XF G X N sc n) (hg : sc.names.lookup ("zip" : Str) = some .globalImplicit) (hm : G.mg ("zip" : Str) = none) (hs : noStar [a, b] = true)
    (h : E X a τ fun x τ1 => ∃ l : List α, Fz x (.im (if tup then rT G.K A else rL G.K A) l) ∧ E X b τ1 fun y τ2 => ∃ m : List β, Fz y (.im (if tup then rT G.K B else rL G.K B) m) ∧ k ((l.zip m).map (.im (rPair G.K A B))) τ2) :
    It X (.Tuple elts kk tpos) (.Call (.Name "zip" p) [a, b] [] pos) τ k := by
  have sb : noStar [b] = true := by cases a <;> first | exact hs | (simp [noStar] at hs)
  have pb : PA X [b] (tCons (sem X b) tNil) := pa_cons pe_sem pa_nil (by cases b <;> first | rfl | (simp [noStar] at sb))
  have st := star_of (env := X.env) hs
  have st1 := st a [b] (List.suffix_refl _)
  have st2 := st b [] (List.suffix_cons _ _)
  refine It.of (pi_zipA (hX.gl hg) (hX.mgN hm) (pa_cons pe_sem pb st1) st1 (by rw [st2]; rfl)) fun σ H F R0 R Rr ok q => h σ H F R0 R _ ok fun x τ1 v R1 H1 ⟨i, fz, hb⟩ l1 ok1 w1 => ?_
  obtain ⟨R2, l2, ok2, r⟩ := fz_rel ok1 w1 fz
  refine hb σ H1 F R0 R2 _ ok2 fun y τ2 u R3 H3 ⟨j, fz', hk⟩ l3 ok3 w3 => ?_
  obtain ⟨R4, l4, ok4, r'⟩ := fz_rel ok3 w3 fz'
  have lt := (l1.trans l2).trans (l3.trans l4)
  cases tup with
  | true =>
    obtain ⟨pa, xs, e1, hq, hp⟩ := (rT G.K A).up (l3.trans l4) r
    obtain ⟨pb, ys, e2, hq', hp'⟩ := r'
    subst e1; subst e2
    refine ⟨pa, pb, xs, ys, rfl, .inr ⟨by rw [hX.eK]; exact ok4.le.sqT hq, by rw [hX.eK]; exact ok4.le.sqT hq', ?_⟩⟩
    rw [hX.eK]
    exact q _ _ τ2 R4 H3 hk lt ok4 (itOk_zipT hq hp hq' hp')
  | false =>
    obtain ⟨pa, xs, e1, hq, hp⟩ := (rL G.K A).up (l3.trans l4) r
    obtain ⟨pb, ys, e2, hq', hp'⟩ := r'
    subst e1; subst e2
    refine ⟨pa, pb, xs, ys, rfl, .inl ⟨by rw [hX.eK]; exact .inl (ok4.le.rd hq), by rw [hX.eK]; exact .inl (ok4.le.rd hq'), ?_⟩⟩
    rw [hX.eK]
    exact q _ _ τ2 R4 H3 hk lt ok4 (itOk_zipL (.inl hq) hp (.inl hq') hp')

/-! ### for -/
theorem for_core {J : L2.It} {F R0 R1 H1 : Hp} {σ1 : L2.St} {ys : List Kd} {D : L2.Ends} {F' : Hp} (hF : Le F F') (hJ : ItOk J F R1 ys) (ok1 : Ok F' R0 R1 H1 σ1 τ1) (q : EndOk F' R0 R1 D P) (I : Nat → Tau → Prop) (h0 : I 0 τ1)
    (hs : ∀ (i : Nat) y τ', ys[i]? = some y → I i τ' → Tg X tg y τ' fun τ2 => S X body τ2 { P with nx := I (i + 1), ct := I (i + 1), bk := P.nx }) (hd : ∀ τ', I ys.length τ' → P.nx τ') :
    ∃ Wd : Nat → Nat → L2.St → Hp → Prop, (∃ m, Wd 0 m σ1 H1) ∧ ∀ i m σ H, Wd i m σ H →
      (J.stop i H ∧ D.nx σ H) ∨ (J.go i H ∧ ∃ Nx : L2.St → Hp → Prop, (∀ σ' H', Nx σ' H' → ∃ m', m' < m ∧ Wd (i + 1) m' σ' H') ∧ ∀ x H', J.yld i H x H' → semG X tg x σ H' fun σ2 H2 => semB X body { D with nx := Nx, ct := Nx, bk := D.nx } σ2 H2) := by
  refine ⟨fun i m σ H => m = ys.length - i ∧ i ≤ ys.length ∧ ∃ τ' R', I i τ' ∧ Le R1 R' ∧ Ok F' R0 R' H σ τ', ⟨ys.length, by simp, Nat.zero_le _, τ1, R1, h0, Le.refl R1, ok1⟩, ?_⟩
  rintro i m σ H ⟨rfl, hi, τ', R', hI, l1, ok⟩
  by_cases hlt : i < ys.length
  · refine .inr ⟨hJ.go F' R' H i hF ok.fr l1 ok.le hlt, fun σ2 H2 => i + 1 ≤ ys.length ∧ ∃ τ2 R2, I (i + 1) τ2 ∧ Le R1 R2 ∧ Ok F' R0 R2 H2 σ2 τ2, fun σ2 H2 ⟨h1, h2⟩ => ⟨ys.length - (i + 1), by omega, rfl, h1, h2⟩, fun x H2 hy => ?_⟩
    obtain ⟨R2, l2, ok2, im, rel⟩ := hJ.yld F' R0 R' H σ τ' i _ x H2 hF ok l1 (List.getElem?_eq_getElem hlt) hy
    have wv : VOk F' R2 H2 τ' x ys[i] := ⟨rel, fun p o => by
      cases hk : ys[i] with
      | no => rw [hk] at im; exact im.elim
      | im => rw [hk] at o; exact o.elim
      | ow => rw [hk] at im; exact im.elim⟩
    refine hs i _ τ' (List.getElem?_eq_getElem hlt) hI σ H2 F' R0 R2 x _ ok2 wv fun τ3 σ3 R3 H3 hb l3 ok3 => ?_
    have l13 := (l1.trans l2).trans l3
    refine hb σ3 H3 F' R0 R3 _ ok3 ⟨?_, ?_, ?_, ?_⟩
    · intro τ4 σ4 R4 H4 h4 l4 ok4
      exact ⟨hlt, τ4, R4, h4, l13.trans l4, ok4⟩
    · intro x τ4 v σ4 R4 H4 h4 l4 ok4 w4
      exact q.rt x τ4 v σ4 R4 H4 h4 (l13.trans l4) ok4 w4
    · intro τ4 σ4 R4 H4 h4 l4 ok4
      exact q.nx τ4 σ4 R4 H4 h4 (l13.trans l4) ok4
    · intro τ4 σ4 R4 H4 h4 l4 ok4
      exact ⟨hlt, τ4, R4, h4, l13.trans l4, ok4⟩
  · have e : i = ys.length := by omega
    subst e
    exact .inl ⟨hJ.stop F' R' H hF ok.fr l1 ok.le, q.nx τ' σ R' H (hd τ' hI) l1 ok⟩
/-- for tg in iter, by what holds at each turn -/
theorem S1_for (hX : XF G X N sc n) (hp : PassesOwn (model X.prog X.w) X.A X.env X.xe)
    (h : It X tg iter τ fun ys τ1 => ∃ I : Nat → Tau → Prop, I 0 τ1 ∧ (∀ (i : Nat) y τ', ys[i]? = some y → I i τ' → Tg X tg y τ' fun τ2 => S X body τ2 { P with nx := I (i + 1), ct := I (i + 1), bk := P.nx }) ∧ ∀ τ', I ys.length τ' → P.nx τ')
    (hs : ∀ x, foldedSetIterable iter X.env x = pure x := by intro _; rfl) : S1 X (.For tg iter body [] pos) τ P :=
  S1.of (ps_for hp hX.calm pi_sem pg_sem pss_sem hs) fun σ H F R0 R D ok q => h σ H F R0 R _ ok fun J ys τ1 R1 H1 ⟨I, h0, hs', hd⟩ l1 ok1 hJ =>
    for_core (Le.refl F) hJ ok1 (q.up l1) I h0 hs' hd

/-! ### a dict is walked: it is locked meanwhile -/
/-- the standing while the dict at d is locked -/
theorem Ok.lock {F R0 R H : Hp} {σ : L2.St} {d : Addr} {u : HO} {od : Obj} (ok : Ok F R0 R H σ τ) (hR : R d = some u) (hn : NF u) (hH : H d = some u) (nw : ∀ (i : Nat) k, τ[i]? = some k → ¬ owns k d) :
    Ok (upd F d (.frz od u)) R R (upd H d (.frz od u)) σ τ where
  len := ok.len
  fr := fun a o e => by
    by_cases h : a = d
    · subst h; rw [upd_same] at e ⊢; exact e
    · rw [upd_ne h] at e ⊢; exact ok.fr a o e
  le := fun a o e => by
    by_cases h : a = d
    · subst h
      rw [hR] at e; cases e
      exact .inr ⟨hn, od, upd_same⟩
    · rw [upd_ne h]; exact ok.le a o e
  r0 := Le.refl R
  nw := fun a h _ => h
  sl := fun i k e => by
    rcases ok.sl i k e with z | ⟨v, hv, r⟩
    · exact .inl z
    · refine .inr ⟨v, hv, ?_⟩
      cases k with
      | no => trivial
      | im A a => exact r
      | ow q C c =>
        obtain ⟨e1, e2, o, e3, e4⟩ := r
        exact ⟨e1, e2, o, by rw [upd_ne (fun z => nw i _ e z)]; exact e3, e4⟩
  ff := fun i k p e o => by
    have h : p ≠ d := fun z => nw i k e (by rw [← z]; exact o)
    rw [upd_ne h]; exact ok.ff i k p e o
  inj := ok.inj
  nt := ok.nt
theorem Ok.unlock {F R0 R R' H H' : Hp} {σ σ' : L2.St} {τ' : Tau} {d : Addr} {u : HO} {od : Obj} (ok : Ok F R0 R H σ τ) (hR : R d = some u) (hH : H d = some u) (l : Le R R') (ok' : Ok (upd F d (.frz od u)) R R' H' σ' τ') :
    Ok F R0 R' (upd H' d u) σ' τ' ∧ H' d = some (.frz od u) := by
  have hd : H' d = some (.frz od u) := ok'.fr d _ upd_same
  have hF : ∀ a, F a ≠ none → upd F d (.frz od u) a ≠ none := fun a h => by
    by_cases h' : a = d
    · subst h'; rw [upd_same]; simp
    · rw [upd_ne h']; exact h
  refine ⟨⟨ok'.len, fun a o e => ?_, fun a o e => ?_, ok.r0.trans l, fun a h1 h2 => ?_, fun i k e => ?_, fun i k p e o => ?_, ok'.inj, ok'.nt⟩, hd⟩
  · by_cases h : a = d
    · subst h
      have := ok.fr a o e
      rw [hH] at this; cases this
      exact upd_same
    · rw [upd_ne h]
      exact ok'.fr a o (by rw [upd_ne h]; exact e)
  · by_cases h : a = d
    · subst h
      have h1 : R' a = some u := l a u hR
      rw [h1] at e; cases e
      exact .inl upd_same
    · rw [upd_ne h]; exact ok'.le a o e
  · have := ok.nw a h1 h2
    exact ok'.nw a this (hF a h2)
  · rcases ok'.sl i k e with z | ⟨v, hv, r⟩
    · exact .inl z
    · refine .inr ⟨v, hv, ?_⟩
      cases k with
      | no => trivial
      | im A a => exact r
      | ow q C c =>
        obtain ⟨e1, e2, o, e3, e4⟩ := r
        have hq : q ≠ d := fun z => by
          have := ok'.ff i _ q e rfl
          rw [z, upd_same] at this; cases this
        exact ⟨e1, e2, o, by rw [upd_ne hq]; exact e3, e4⟩
  · have h1 := ok'.ff i k p e o
    have hp : p ≠ d := fun z => by rw [z, upd_same] at h1; cases h1
    rw [upd_ne hp] at h1; exact h1
/-- how a walk of a dict that a name holds begins, the dict locked -/
def DWalk (X : Cx) (tg iter : Expr) (j : Nat) {β : Type} (B : DR β) (d : List (Int × β)) (ys : List Kd) : Prop :=
  ∀ (F R H : Hp) (σ : L2.St) (Rr : L2.It → Hp → Prop) (p : Addr) (o : Obj) (kvs : List (Key × V)), σ[j]? = some (some (.ref p)) → F p = some (.frz o (.dK kvs)) → H p = some (.frz o (.dK kvs)) → KVs B R kvs d →
    (∀ J, ItOk J F R ys → Rr J H) → semI X tg iter σ H Rr
theorem dw_items {j : Nat} {x : Str} {β : Type} {B : DR β} {d : List (Int × β)} {apos cpos : Pos} (hX : XF G X N sc n) (hN : N[j]? = some x) (hv : Vis sc x) (hb : attributeBase (.Name x p) "items" X.env (eval (.Name x p) X.env) = eval (.Name x p) X.env := by rfl)
    (hd : (x == ("__debug__" : Str)) = false := by decide) (hcd : (x == ("__classdict__" : Str)) = false := by decide) (hline : (apos.endLine == cpos.line) = true := by rfl) :
    DWalk X (.Tuple elts kk tpos) (.Call (.Attribute (.Name x p) "items" apos) [] [] cpos) j B d (d.map (.im (rPair G.K rI B))) := fun F R H σ Rr p o kvs hs hF hH hp q pins s I =>
  (pi_items (pe_var (i := j) (by rw [hX.eN]; exact hN) (hX.vis hv) hd hcd) (hline := hline)).run pins s σ H Rr I ⟨.ref p, hs, p, o, kvs, rfl, hH, q _ (itOk_items hF hp)⟩
theorem dw_vals {j : Nat} {x : Str} {β : Type} {B : DR β} {d : List (Int × β)} {apos cpos : Pos} (hX : XF G X N sc n) (hN : N[j]? = some x) (hv : Vis sc x) (hb : attributeBase (.Name x p) "values" X.env (eval (.Name x p) X.env) = eval (.Name x p) X.env := by rfl)
    (hd : (x == ("__debug__" : Str)) = false := by decide) (hcd : (x == ("__classdict__" : Str)) = false := by decide) (hline : (apos.endLine == cpos.line) = true := by rfl) :
    DWalk X tg (.Call (.Attribute (.Name x p) "values" apos) [] [] cpos) j B d (d.map fun c => .im B c.2) := fun F R H σ Rr p o kvs hs hF hH hp q pins s I =>
  (pi_values (pe_var (i := j) (by rw [hX.eN]; exact hN) (hX.vis hv) hd hcd) (hline := hline)).run pins s σ H Rr I ⟨.ref p, hs, p, o, kvs, rfl, hH, q _ (itOk_vals hF hp)⟩
theorem dw_keys {j : Nat} {x : Str} {β : Type} {B : DR β} {d : List (Int × β)} (hX : XF G X N sc n) (hN : N[j]? = some x) (hv : Vis sc x)
    (hd : (x == ("__debug__" : Str)) = false := by decide) (hcd : (x == ("__classdict__" : Str)) = false := by decide) :
    DWalk X tg (.Name x p) j B d (d.map fun c => .im rI c.1) := fun F R H σ Rr p o kvs hs hF hH hp q pins s I =>
  (pi_keys (pe_var (i := j) (by rw [hX.eN]; exact hN) (hX.vis hv) hd hcd)).run pins s σ H Rr I ⟨.ref p, hs, p, o, rfl, .inl ⟨kvs, hH, q _ (itOk_keys hF hp)⟩⟩
/-- the dict that a name holds -/
theorem Ok.dict {F R0 R H : Hp} {σ : L2.St} {j : Nat} {β : Type} {B : DR β} {d : List (Int × β)} (ok : Ok F R0 R H σ τ) (ht : τ[j]? = some (.im (rD B) d)) :
    ∃ p kvs, σ[j]? = some (some (.ref p)) ∧ R p = some (.dK kvs) ∧ KVs B R kvs d ∧ (H p = some (.dK kvs) ∨ ∃ o, H p = some (.frz o (.dK kvs))) := by
  rcases ok.sl j _ ht with z | ⟨v, hv, p, kvs, e, hR, hp⟩
  · cases z
  · refine ⟨p, kvs, ?_, hR, hp, ?_⟩
    · cases hs : σ[j]? with
      | none => rw [hs] at hv; cases hv
      | some u => rw [hs] at hv; rw [show u = some v from hv, e]
    · rcases ok.le p _ hR with h | ⟨_, o, h⟩
      · exact .inl h
      · exact .inr ⟨o, h⟩
theorem Ok.notOwned {F R0 R H : Hp} {σ : L2.St} {p : Addr} {o : HO} (ok : Ok F R0 R H σ τ) (h : R p = some o) : ∀ (i : Nat) k, τ[i]? = some k → ¬ owns k p := fun i k e ho => by
  rcases ok.sl i k e with z | ⟨v, _, r⟩
  · subst z; exact ho
  · cases k with
    | no => exact ho
    | im => exact ho
    | ow q C c =>
      obtain ⟨_, e2, _⟩ := r
      have : q = p := ho
      rw [this, h] at e2; cases e2
theorem S1_forD {j : Nat} {β : Type} {B : DR β} {d : List (Int × β)} {ys : List Kd} (hX : XF G X N sc n) (hp : PassesOwn (model X.prog X.w) X.A X.env X.xe) (ht : τ[j]? = some (.im (rD B) d)) (hw : DWalk X tg iter j B d ys)
    (I : Nat → Tau → Prop) (h0 : I 0 τ) (hs : ∀ (i : Nat) y τ', ys[i]? = some y → I i τ' → Tg X tg y τ' fun τ2 => S X body τ2 { P with nx := I (i + 1), ct := I (i + 1), bk := P.nx }) (hd : ∀ τ', I ys.length τ' → P.nx τ')
    (hfs : ∀ x, foldedSetIterable iter X.env x = pure x := by intro _; rfl) : S1 X (.For tg iter body [] pos) τ P := fun σ H F R0 R D ok q => by
  obtain ⟨pa, kvs, hσ, hR, hkv, hH | ⟨o, hH⟩⟩ := ok.dict ht
  · -- not locked yet
    intro pins s I0
    refine (ps_lock (ps_for hp hX.calm pi_sem (pg_sem (tg := tg)) (pss_sem (st := body)) hfs)).run pins s σ H D I0 ⟨pa, .dK kvs, hH, True.intro, fun od => ?_⟩
    have okl := ok.lock (od := od) hR True.intro hH (ok.notOwned hR)
    refine hw (upd F pa (.frz od (.dK kvs))) R (upd H pa (.frz od (.dK kvs))) σ _ pa od kvs hσ upd_same upd_same hkv fun J hJ => ?_
    refine for_core (P := P) (Le.refl _) hJ okl ⟨?_, ?_, ?_, ?_⟩ I h0 hs hd
    · intro τ2 σ2 R2 H2 h2 l2 ok2
      obtain ⟨ok3, e3⟩ := ok.unlock hR hH l2 ok2
      exact ⟨e3, q.nx τ2 σ2 R2 _ h2 l2 ok3⟩
    · intro x τ2 v σ2 R2 H2 h2 l2 ok2 w2
      obtain ⟨ok3, e3⟩ := ok.unlock hR hH l2 ok2
      refine ⟨e3, q.rt x τ2 v σ2 R2 _ h2 l2 ok3 ⟨?_, fun p o => ⟨?_, (w2.own p o).2⟩⟩⟩
      · have hr := w2.rel
        cases x with
        | no => trivial
        | im A a => exact hr
        | ow q' C c =>
          obtain ⟨e1, e2, o', e4, e5⟩ := hr
          have hq : q' ≠ pa := fun z => by
            have := (w2.own q' rfl).1
            rw [z, upd_same] at this; cases this
          exact ⟨e1, e2, o', by rw [upd_ne hq]; exact e4, e5⟩
      · have h1 := (w2.own p o).1
        have hq : p ≠ pa := fun z => by rw [z, upd_same] at h1; cases h1
        rw [upd_ne hq] at h1; exact h1
    · intro τ2 σ2 R2 H2 h2 l2 ok2
      obtain ⟨ok3, e3⟩ := ok.unlock hR hH l2 ok2
      exact ⟨e3, q.bk τ2 σ2 R2 _ h2 l2 ok3⟩
    · intro τ2 σ2 R2 H2 h2 l2 ok2
      obtain ⟨ok3, e3⟩ := ok.unlock hR hH l2 ok2
      exact ⟨e3, q.ct τ2 σ2 R2 _ h2 l2 ok3⟩
  · -- a loop further out has locked it: it is in what must stay
    intro pins s I0
    refine (ps_for hp hX.calm pi_sem (pg_sem (tg := tg)) (pss_sem (st := body)) hfs).run pins s σ H D I0 ?_
    have okl : Ok (upd F pa (.frz o (.dK kvs))) R R H σ τ := ⟨ok.len, fun a u e => by
        by_cases h : a = pa
        · subst h; rw [upd_same] at e; cases e; exact hH
        · rw [upd_ne h] at e; exact ok.fr a u e, ok.le, Le.refl R, fun a h _ => h, ok.sl, fun i k p e oo => by
        have h : p ≠ pa := fun z => ok.notOwned hR i k e (by rw [← z]; exact oo)
        rw [upd_ne h]; exact ok.ff i k p e oo, ok.inj, ok.nt⟩
    have back : ∀ {τ2 : Tau} {σ2 : L2.St} {R2 H2 : Hp}, Le R R2 → Ok (upd F pa (.frz o (.dK kvs))) R R2 H2 σ2 τ2 → Ok F R0 R2 H2 σ2 τ2 := fun {τ2 σ2 R2 H2} l ok2 => by
      have hF : ∀ a u, F a = some u → upd F pa (.frz o (.dK kvs)) a ≠ none := fun a u e => by
        by_cases h : a = pa
        · subst h; rw [upd_same]; simp
        · rw [upd_ne h, e]; simp
      refine ⟨ok2.len, fun a u e => ?_, ok2.le, ok.r0.trans l, fun a h1 h2 => ?_, ok2.sl, fun i k p e oo => ?_, ok2.inj, ok2.nt⟩
      · by_cases h : a = pa
        · subst h
          have h1 := ok.fr a u e
          rw [hH] at h1; cases h1
          exact ok2.fr a _ upd_same
        · exact ok2.fr a u (by rw [upd_ne h]; exact e)
      · cases hf : F a with
        | none => exact absurd hf h2
        | some u => exact ok2.nw a (ok.nw a h1 h2) (hF a u hf)
      · have h1 := ok2.ff i k p e oo
        have h : p ≠ pa := fun z => by rw [z, upd_same] at h1; cases h1
        rw [upd_ne h] at h1; exact h1
    refine hw (upd F pa (.frz o (.dK kvs))) R H σ _ pa o kvs hσ upd_same hH hkv fun J hJ => ?_
    refine for_core (P := P) (Le.refl _) hJ okl ⟨?_, ?_, ?_, ?_⟩ I h0 hs hd
    · intro τ2 σ2 R2 H2 h2 l2 ok2
      exact q.nx τ2 σ2 R2 _ h2 l2 (back l2 ok2)
    · intro x τ2 v σ2 R2 H2 h2 l2 ok2 w2
      refine q.rt x τ2 v σ2 R2 _ h2 l2 (back l2 ok2) ⟨w2.rel, fun p oo => ⟨?_, (w2.own p oo).2⟩⟩
      have h1 := (w2.own p oo).1
      have h : p ≠ pa := fun z => by rw [z, upd_same] at h1; cases h1
      rw [upd_ne h] at h1; exact h1
    · intro τ2 σ2 R2 H2 h2 l2 ok2
      exact q.bk τ2 σ2 R2 _ h2 l2 (back l2 ok2)
    · intro τ2 σ2 R2 H2 h2 l2 ok2
      exact q.ct τ2 σ2 R2 _ h2 l2 (back l2 ok2)
end
end T
end
section
set_option Elab.async false
set_option linter.all false
set_option autoImplicit false
set_option maxRecDepth 100000
set_option maxHeartbeats 2000000
namespace T
open PySem PySem.Spec PyProof.Rows L2 RZ

/-! ### comprehensions -/
def wipeT (τ : Tau) : List Nat → Tau
  | [] => τ
  | v :: vs => (wipeT τ vs).set v .no
theorem Ok.wiped {F R0 R H : Hp} {σ : L2.St} {τ : Tau} (ok : Ok F R0 R H σ τ) : ∀ vs : List Nat, Ok F R0 R H (wipe σ vs) (wipeT τ vs)
  | [] => ok
  | v :: vs => by
    have ih := ok.wiped vs
    have h1 := ih.forget v
    refine ⟨?_, h1.fr, h1.le, h1.r0, h1.nw, fun i k e => ?_, h1.ff, h1.inj, h1.nt⟩
    · show ((wipe σ vs).set v none).length = _
      rw [List.length_set]; exact h1.len
    · by_cases hi : v = i
      · subst hi
        have e' : ((wipeT τ vs).set v .no)[v]? = some k := e
        by_cases hv : v < (wipeT τ vs).length
        · rw [List.getElem?_set_self hv] at e'; cases e'; exact .inl rfl
        · rw [List.getElem?_eq_none (by simpa using hv)] at e'; cases e'
      · have h2 := h1.sl i k e
        show SlotOk R H (((wipe σ vs).set v none)[i]?.join) k
        rw [List.getElem?_set_ne hi]
        exact h2
/-- the target of a block: its own slots alone are named -/
def WGv (g : TG) (vs : List Nat) (y : Kd) (τ : Tau) (k : Tau → Prop) : Prop := ∀ (σ : L2.St) (H F R0 R : Hp) (v : V) (Q : L2.St → Hp → Prop), Ok F R0 R H σ τ → VOk F R H τ v y →
  (∀ τ' σ' R' H', k τ' → wipe σ' vs = wipe σ vs → Le R R' → Ok F R0 R' H' σ' τ' → Q σ' H') → g v σ H Q
def TB (X : Cx) (vs : List Nat) (tg : Expr) (y : Kd) (τ : Tau) (k : Tau → Prop) : Prop := WGv (semG X tg) vs y τ k
theorem TB.of {X : Cx} {vs : List Nat} {tg : Expr} {g : TG} {y : Kd} {τ : Tau} {k : Tau → Prop} (h : PG X tg g) (w : WGv g vs y τ k) : TB X vs tg y τ k := fun σ H F R0 R v Q ok wv q pins s u I r => h.run pins s σ H v u Q I r (w σ H F R0 R v Q ok wv q)
theorem wipe_set_in {σ : L2.St} {i : Nat} {x : Option V} : ∀ {vs : List Nat}, i ∈ vs → wipe (σ.set i x) vs = wipe σ vs
  | [], h => by cases h
  | v :: vs, h => by
    show (wipe (σ.set i x) vs).set v none = (wipe σ vs).set v none
    by_cases hv : i ∈ vs
    · rw [wipe_set_in hv]
    · have e : v = i := by
        rcases List.mem_cons.mp h with z | z
        · exact z.symm
        · exact absurd z hv
      subst e
      apply List.ext_getElem?
      intro j
      have len : ∀ (σ : L2.St) (vs : List Nat), (wipe σ vs).length = σ.length := wipe_length
      by_cases hj : v = j
      · subst hj
        by_cases hl : v < σ.length
        · rw [List.getElem?_set_self (by rw [len, List.length_set]; exact hl), List.getElem?_set_self (by rw [len]; exact hl)]
        · rw [List.getElem?_eq_none (by rw [List.length_set, len, List.length_set]; omega), List.getElem?_eq_none (by rw [List.length_set, len]; omega)]
      · rw [List.getElem?_set_ne hj, List.getElem?_set_ne hj]
        by_cases hjv : j ∈ vs
        · have key : ∀ (σ : L2.St) (vs : List Nat), j ∈ vs → (wipe σ vs)[j]? = if j < σ.length then some none else none := by
            intro σ vs
            induction vs with
            | nil => intro h; cases h
            | cons w ws ih =>
              intro h
              show ((wipe σ ws).set w none)[j]? = _
              by_cases hw : w = j
              · subst hw
                by_cases hl : w < σ.length
                · rw [List.getElem?_set_self (by rw [len]; exact hl), if_pos hl]
                · rw [List.getElem?_eq_none (by rw [List.length_set, len]; omega), if_neg hl]
              · rw [List.getElem?_set_ne hw]
                refine ih ?_
                rcases List.mem_cons.mp h with z | z
                · exact absurd z.symm hw
                · exact z
          rw [key _ _ hjv, key _ _ hjv, List.length_set]
        · have out : ∀ (σ : L2.St) (vs : List Nat), j ∉ vs → (wipe σ vs)[j]? = σ[j]? := by
            intro σ vs
            induction vs with
            | nil => intro _; rfl
            | cons w ws ih =>
              intro h
              show ((wipe σ ws).set w none)[j]? = _
              rw [List.getElem?_set_ne (fun z => h (by rw [z]; exact List.mem_cons_self)), ih fun m => h (List.mem_cons_of_mem _ m)]
          rw [out _ _ hjv, out _ _ hjv, List.getElem?_set_ne hj]
def TBs (X : Cx) (vs : List Nat) : List Expr → List Kd → Tau → (Tau → Prop) → Prop
  | [], [], τ, k => k τ
  | e :: es, y :: ys, τ, k => TB X vs e y τ fun τ1 => TBs X vs es ys τ1 k
  | _, _, _, _ => False
theorem TBs.run {X : Cx} {vs : List Nat} : ∀ {es : List Expr} {ys : List Kd} {τ : Tau} {k : Tau → Prop}, TBs X vs es ys τ k → ∀ (σ : L2.St) (H F R0 R : Hp) (us : List V) (Q : L2.St → Hp → Prop), Ok F R0 R H σ τ → VsOk R H us ys →
    (∀ τ' σ' R' H', k τ' → wipe σ' vs = wipe σ vs → Le R R' → Ok F R0 R' H' σ' τ' → Q σ' H') → tgAll X es us σ H Q
  | [], [], τ, k, h, σ, H, F, R0, R, us, Q, ok, hv, q => by
    cases hv
    exact ⟨rfl, q τ σ R H h rfl (Le.refl R) ok⟩
  | e :: es, y :: ys, τ, k, h, σ, H, F, R0, R, us, Q, ok, hv, q => by
    cases hv with
    | @cons v _ us _ hr ht =>
      have wv : VOk F R H τ v y := ⟨hr.2, fun p o => by
        have hi := hr.1
        cases y with
        | no => exact hi.elim
        | im => exact o.elim
        | ow => exact hi.elim⟩
      exact ⟨v, us, rfl, h σ H F R0 R v _ ok wv fun τ1 σ1 R1 H1 h1 e1 l1 ok1 =>
        TBs.run h1 σ1 H1 F R0 R1 us Q ok1 (ht.up l1) fun τ2 σ2 R2 H2 h2 e2 l2 ok2 => q τ2 σ2 R2 H2 h2 (e2.trans e1) (l1.trans l2) ok2⟩
  | [], _ :: _, _, _, h, _, _, _, _, _, _, _, _, _, _ => h.elim
  | _ :: _, [], _, _, h, _, _, _, _, _, _, _, _, _, _ => h.elim
/-- a clause's tests -/
def semC (X : Cx) (ifs : List Expr) : TT := fun σ H Q => ∀ pins s, Inv X pins σ H s →
  wpAny (model X.prog X.w) X.A (forIn ifs true fun c r => if r = true then do let ok ← isTrue c X.env (eval c X.env); pure (ForInStep.yield ok) else pure (ForInStep.yield r)) (L2.TP X pins σ Q) X.xe s
theorem pts_sem {X : Cx} {ifs : List Expr} : PTs X ifs (semC X ifs) := ⟨fun pins s σ H Q I h => h pins s I⟩
def Cs (X : Cx) (ifs : List Expr) (τ : Tau) (k : Bool → Tau → Prop) : Prop := WT (semC X ifs) τ k
section
variable {G : Gm} {X : Cx} {N : List Str} {sc : Scope} {n : Nat} {τ τ1 : Tau} {k : KK} {y : Kd} {e a b c tg iter elt : Expr} {es elts ifs : List Expr} {pos p tpos : Pos} {vs : List Nat} {kt : Tau → Prop}
theorem TB_name {i : Nat} {x : Str} (hX : XF G X N sc n) (hN : N[i]? = some x) (hl : sc.names.lookup x = some .local) (hv : i ∈ vs) (h : kt (τ.set i y)) : TB X vs (.Name x pos) y τ kt :=
  TB.of (pg_name (i := i) (by rw [hX.eN]; exact hX.nd) (by rw [hX.eN]; exact hN) (hX.loc (.inl hl)) (.inr (by rw [hX.es]; exact hl))) fun σ H F R0 R v Q ok w q => q _ _ R H h (wipe_set_in hv) (Le.refl R) (ok.set' i w)
/-- a block's own name that an inner block reads -/
theorem TB_cell {i : Nat} {x : Str} (hX : XF G X N sc n) (hf : X.fn x = true) (hN : N[i]? = some x) (hl : sc.names.lookup x = some .cell) (hv : i ∈ vs) (h : kt (τ.set i y)) : TB X vs (.Name x pos) y τ kt :=
  TB.of (pg_name (i := i) (by rw [hX.eN]; exact hX.nd) (by rw [hX.eN]; exact hN) (hX.loc (.inr hl)) (.inl hf)) fun σ H F R0 R v Q ok w q => q _ _ R H h (wipe_set_in hv) (Le.refl R) (ok.set' i w)
theorem TB_tup {m : Nat} {ys : List Kd} (hX : XF G X N sc n) (hst : plainTg es = true) (hu : UnT G.K y ys) (h : TBs X vs es ys τ kt) (hlen : ys.length = es.length := by rfl) : TB X vs (.Tuple es m pos) y τ kt := by
  have hplain : ∀ {es : List Expr}, plainTg es = true → ∀ env, (assignEach es env).length = es.length ∧ (assignEach es env).findIdx? (·.1) = none := by
    intro es
    induction es with
    | nil => intro _ env; exact ⟨rfl, rfl⟩
    | cons e es ih =>
      intro h env
      have h' : plainTg es = true := by cases e <;> first | exact h | (simp [plainTg] at h)
      obtain ⟨h1, h2⟩ := ih h' env
      have e1 : assignEach (e :: es) env = (false, assign e env) :: assignEach es env := by cases e <;> first | rfl | (simp [plainTg] at h)
      rw [e1]
      exact ⟨by simp [h1], by rw [List.findIdx?_cons]; simp [h2]⟩
  have hpgs : ∀ {es : List Expr}, plainTg es = true → PGs X es (tgAll X es) := by
    intro es
    induction es with
    | nil => intro _; exact pgs_nil
    | cons e es ih =>
      intro h
      have h' : plainTg es = true := by cases e <;> first | exact h | (simp [plainTg] at h)
      exact pgs_cons pg_sem (ih h') (by cases e <;> first | rfl | (simp [plainTg] at h))
  obtain ⟨h1, h2⟩ := hplain hst X.env
  refine TB.of (pg_tup hX.calm (hpgs hst) h1 h2) fun σ H F R0 R v Q ok w q => ?_
  obtain ⟨p, us, e, hq, hv⟩ := hu R H v ok.le w.rel
  exact ⟨p, us, e, by rw [hX.eK]; exact hq, (vs_len hv).trans hlen, TBs.run h σ H F R0 R us Q ok hv q⟩
theorem Cs_nil {k : Bool → Tau → Prop} (h : k true τ) : Cs X [] τ k := fun σ H F R0 R Q ok q pins s I => pts_nil.run pins s σ H Q I (q true τ R H h (Le.refl R) ok)
theorem Cs_one {k : Bool → Tau → Prop} (h : C X c τ k) : Cs X [c] τ k := fun σ H F R0 R Q ok q pins s I => (pts_one pt_sem).run pins s σ H Q I (h σ H F R0 R Q ok q)
/-- the block's standing is the def's, but for its scope -/
theorem XF.blk (hX : XF G X N sc n) (s : Shared) (H : Hp) (scope : Scope) (Cc : Addr) (cl : List (Str × Addr)) (fp : List Addr) : XF G (X.blk s H scope (compEnvC scope cl Cc X.env) fp) N (relS scope sc) n :=
  ⟨hX.ep, hX.ew, hX.eK, hX.emg, hX.eb, hX.eN, by rw [← hX.es]; rfl, hX.calm, hX.room, hX.nd⟩
/-- frames: with a cell more that must stay -/
theorem Ok.hold {F R0 R H : Hp} {σ : L2.St} {D : Addr} {u : HO} (ok : Ok F R0 R H σ τ) (hR : R D = none) (hH : H D = some u) (nw : ∀ (i : Nat) k, τ[i]? = some k → ¬ owns k D) : Ok (upd F D u) R R H σ τ where
  len := ok.len
  fr := fun a o e => by
    by_cases h : a = D
    · subst h; rw [upd_same] at e; cases e; exact hH
    · rw [upd_ne h] at e; exact ok.fr a o e
  le := ok.le
  r0 := Le.refl R
  nw := fun a h _ => h
  sl := ok.sl
  ff := fun i k p e o => by
    have h : p ≠ D := fun z => nw i k e (by rw [← z]; exact o)
    rw [upd_ne h]; exact ok.ff i k p e o
  inj := ok.inj
  nt := ok.nt
theorem Ok.drop {F R0 R R' H H' : Hp} {σ σ' : L2.St} {τ' : Tau} {D : Addr} {u : HO} (ok : Ok F R0 R H σ τ) (hF : F D = none) (l : Le R R') (ok' : Ok (upd F D u) R R' H' σ' τ') : Ok F R0 R' H' σ' τ' ∧ H' D = some u ∧ (R D = none → R' D = none) ∧ ∀ (i : Nat) k, τ'[i]? = some k → ¬ owns k D := by
  have hsub : Le F (upd F D u) := Le.upd hF
  refine ⟨⟨ok'.len, fun a o e => ok'.fr a o (hsub a o e), ok'.le, ok.r0.trans l, fun a h1 h2 => ?_, ok'.sl, fun i k p e o => ?_, ok'.inj, ok'.nt⟩, ok'.fr D u upd_same, fun h => ok'.nw D h (by rw [upd_same]; simp), fun i k e o => ?_⟩
  · cases hf : F a with
    | none => exact absurd hf h2
    | some o => exact ok'.nw a (ok.nw a h1 h2) (by rw [hsub a o hf]; simp)
  · have h1 := ok'.ff i k p e o
    cases hf : F p with
    | none => rfl
    | some o' => rw [hsub p o' hf] at h1; cases h1
  · have h1 := ok'.ff i k D e o
    rw [upd_same] at h1; cases h1
theorem VOk.drop {F R H : Hp} {τ : Tau} {v : V} {x : Kd} {D : Addr} {u : HO} (hF : F D = none) (w : VOk (upd F D u) R H τ v x) : VOk F R H τ v x := ⟨w.rel, fun p o => ⟨(by
  have h1 := (w.own p o).1
  cases hf : F p with
  | none => rfl
  | some o' => rw [Le.upd (o := u) hF p o' hf] at h1; cases h1), (w.own p o).2⟩⟩
/-- semantic readings of a block's parts, for whatever block it is -/
def gB (X : Cx) (scope : Scope) (tg : Expr) : TG := fun v σ H Q => ∀ s0 H0 Cc cl fp, semG (X.blk s0 H0 scope (compEnvC scope cl Cc X.env) fp) tg v σ H Q
def cB (X : Cx) (scope : Scope) (ifs : List Expr) : TT := fun σ H Q => ∀ s0 H0 Cc cl fp, semC (X.blk s0 H0 scope (compEnvC scope cl Cc X.env) fp) ifs σ H Q
def eB (X : Cx) (scope : Scope) (e : Expr) : TE := fun σ H Q => ∀ s0 H0 Cc cl fp, sem (X.blk s0 H0 scope (compEnvC scope cl Cc X.env) fp) e σ H Q
/-- what a comprehension's turn shows: J by the turn, what is made so far, the slots -/
def LcTurn {β : Type} (G : Gm) (X : Cx) (N : List Str) (sc scope : Scope) (n : Nat) (vs : List Nat) (tg elt : Expr) (ifs : List Expr) (B : DR β) (J : Nat → List β → Tau → Prop) (i : Nat) (y : Kd) : Prop :=
  ∀ (out : List β) (τ' : Tau), J i out τ' → ∀ X', XF G X' N (relS scope sc) n → (∀ x, (scope.names.lookup x == some .cell) = true → X'.fn x = true) → TB X' vs tg y τ' fun τ2 => ∀ X', XF G X' N (relS scope sc) n → Cs X' ifs τ2 fun b τ3 =>
    (b = true → ∀ X', XF G X' N (relS scope sc) n → E X' elt τ3 fun x τ4 => ∃ c, Fz x (.im B c) ∧ out.length < 100000 ∧ J (i + 1) (out ++ [c]) (wipeT τ4 vs)) ∧ (b = false → J (i + 1) out (wipeT τ3 vs))
theorem lc_core' {β : Type} {B : DR β} {scope : Scope} {J : L2.It} {F F' R0 R1 H1 : Hp} {σ : L2.St} {ys : List Kd} {Q : VK} (hX : XF G X N sc n) (hF : Le F F') (hJ : ItOk J F R1 ys) (ok1 : Ok F' R0 R1 H1 σ τ1) (Jv : Nat → List β → Tau → Prop) (h0 : Jv 0 [] (wipeT τ1 vs))
    (hs : ∀ (i : Nat) y, ys[i]? = some y → LcTurn G X N sc scope n vs tg elt ifs B Jv i y)
    (hq : ∀ out τ' R' H' D, Jv ys.length out τ' → Le R1 R' → Ok F' R0 R' H' (wipe σ vs) τ' → VOk F' R' H' τ' (.ref D) (.ow D (cL B) out) → Q (.ref D) H') (D : Addr) (hD : H1 D = none) :
    ∃ Wd : Nat → Nat → Hp → Prop, (∃ m, Wd 0 m (upd H1 D (.lst []))) ∧ ∀ i m H, Wd i m H →
      (J.stop i H ∧ Q (.ref D) H) ∨ (J.go i H ∧ ∃ Nx : Hp → Prop, (∀ H', Nx H' → ∃ m', m' < m ∧ Wd (i + 1) m' H') ∧ ∀ x H', J.yld i H x H' → gB X scope tg x (wipe σ vs) H' fun σ2 H2 => wipe σ2 vs = wipe σ vs ∧ cB X scope ifs σ2 H2 fun b H3 =>
        if b = true then eB X scope elt σ2 H3 fun y H4 => ∃ acc, H4 D = some (.lst acc) ∧ acc.length < sizeLine ∧ Nx (upd H4 D (.lst (acc ++ [y]))) else Nx H3) := by
  obtain ⟨hR1, hF1, hn1⟩ := ok1.fresh hD
  have ww : wipe (wipe σ vs) vs = wipe σ vs := by
    have key : ∀ (σ : L2.St) (us : List Nat), (∀ u ∈ us, u ∈ vs) → wipe (wipe σ us) vs = wipe σ vs := by
      intro σ us
      induction us with
      | nil => intro _; rfl
      | cons u us ih =>
        intro h
        show wipe ((wipe σ us).set u none) vs = _
        rw [wipe_set_in (h u List.mem_cons_self), ih fun w hw => h w (List.mem_cons_of_mem _ hw)]
    exact key σ vs fun _ h => h
  -- the standing at a turn: the new list is not known for good, nor any slot's
  refine ⟨fun i m H => m = ys.length - i ∧ i ≤ ys.length ∧ ∃ out τ' R' acc, Jv i out τ' ∧ Le R1 R' ∧ Ok F' R0 R' H (wipe σ vs) τ' ∧ R' D = none ∧ H D = some (.lst acc) ∧ Paired (B.rel R') acc out ∧ ∀ (i : Nat) k, τ'[i]? = some k → ¬ owns k D,
    ⟨ys.length, by simp, Nat.zero_le _, [], wipeT τ1 vs, R1, [], h0, Le.refl R1, (ok1.new hD).wiped vs, hR1, upd_same, .nil, fun i k e o => ?_⟩, ?_⟩
  · have key : ∀ us : List Nat, ∀ (i : Nat) k, (wipeT τ1 us)[i]? = some k → ¬ owns k D := by
      intro us
      induction us with
      | nil => exact hn1
      | cons u us ih =>
        intro i k e o
        have e' : ((wipeT τ1 us).set u .no)[i]? = some k := e
        by_cases hu : u = i
        · subst hu
          by_cases hv : u < (wipeT τ1 us).length
          · rw [List.getElem?_set_self hv] at e'; cases e'; exact o
          · rw [List.getElem?_eq_none (by simpa using hv)] at e'; cases e'
        · rw [List.getElem?_set_ne hu] at e'
          exact ih i k e' o
    exact key vs i k e o
  · rintro i m H ⟨rfl, hi, out, τ', R', acc, hj, l1, ok, hRD, hHD, hp, hno⟩
    by_cases hlt : i < ys.length
    · refine .inr ⟨hJ.go F' R' H i hF ok.fr l1 ok.le hlt, fun H' => i + 1 ≤ ys.length ∧ ∃ out τ' R' acc, Jv (i + 1) out τ' ∧ Le R1 R' ∧ Ok F' R0 R' H' (wipe σ vs) τ' ∧ R' D = none ∧ H' D = some (.lst acc) ∧ Paired (B.rel R') acc out ∧ ∀ (i : Nat) k, τ'[i]? = some k → ¬ owns k D,
        fun H' ⟨h1, h2⟩ => ⟨ys.length - (i + 1), by omega, rfl, h1, h2⟩, fun x H2 hy => ?_⟩
      have okh := ok.hold (u := .lst acc) hRD hHD hno
      obtain ⟨R2, l2, ok2, im, rel⟩ := hJ.yld (upd F' D (.lst acc)) R' R' H (wipe σ vs) τ' i _ x H2 (fun a o e => Le.upd hF1 a o (hF a o e)) okh l1 (List.getElem?_eq_getElem hlt) hy
      have wv : VOk (upd F' D (.lst acc)) R2 H2 τ' x ys[i] := ⟨rel, fun p o => by
        cases hk : ys[i] with
        | no => rw [hk] at im; exact im.elim
        | im => rw [hk] at o; exact o.elim
        | ow => rw [hk] at im; exact im.elim⟩
      have turn := hs i _ (List.getElem?_eq_getElem hlt) out τ' hj
      intro s0 H0 Cc cl fp
      refine turn _ (hX.blk s0 H0 scope Cc cl fp) (fun x hx => hx) (wipe σ vs) H2 (upd F' D (.lst acc)) R' R2 x _ ok2 wv fun τ3 σ3 R3 H3 h3 e3 l3 ok3 => ⟨e3.trans ww, ?_⟩
      intro s1 H01 Cc1 cl1 fp1
      have l13 := (l1.trans l2).trans l3
      -- the next turn's standing, from a state of this one
      have next : ∀ {τ4 : Tau} {σ4 : L2.St} {R4 H4 : Hp} {out' : List β} {acc' : List V}, wipe σ4 vs = wipe σ vs → Le R' R4 → Ok (upd F' D (.lst acc)) R' R4 H4 σ4 τ4 → Jv (i + 1) out' (wipeT τ4 vs) →
          Ok F' R0 R4 H4 (wipe σ vs) (wipeT τ4 vs) ∧ H4 D = some (.lst acc) ∧ R4 D = none ∧ ∀ (i : Nat) k, (wipeT τ4 vs)[i]? = some k → ¬ owns k D := fun {τ4 σ4 R4 H4 out' acc'} ew l4 ok4 _ => by
        have okw := ok4.wiped vs
        rw [ew] at okw
        obtain ⟨a1, a2, a3, a4⟩ := ok.drop hF1 l4 okw
        exact ⟨a1, a2, a3 hRD, a4⟩
      refine h3 _ (hX.blk s1 H01 scope Cc1 cl1 fp1) σ3 H3 (upd F' D (.lst acc)) R' R3 _ ok3 fun b τ4 R4 H4 ⟨ht, hf⟩ l4 ok4 => ?_
      cases b with
      | false =>
        refine iteF ?_
        have hj4 := hf rfl
        obtain ⟨a1, a2, a3, a4⟩ := next (acc' := acc) (e3.trans ww) ((l2.trans l3).trans l4) ok4 hj4
        exact ⟨hlt, out, _, R4, acc, hj4, l13.trans l4, a1, a3, a2, paired_up B ((l2.trans l3).trans l4) hp, a4⟩
      | true =>
        refine iteT ?_
        intro s2 H02 Cc2 cl2 fp2
        refine ht rfl _ (hX.blk s2 H02 scope Cc2 cl2 fp2) σ3 H4 (upd F' D (.lst acc)) R' R4 _ ok4 fun x5 τ5 v5 R5 H5 ⟨c, fz, hz, hj5⟩ l5 ok5 w5 => ?_
        obtain ⟨R6, l6, ok6, rel6⟩ := fz_rel ok5 w5 fz
        have l26 := ((l2.trans l3).trans l4).trans (l5.trans l6)
        obtain ⟨a1, a2, a3, a4⟩ := next (acc' := acc) (e3.trans ww) l26 ok6 hj5
        refine ⟨acc, a2, by rw [sizeLine_eq, PySem.Paired.length hp]; omega, hlt, out ++ [c], _, R6, acc ++ [v5], hj5, l1.trans l26, ?_, a3, upd_same, (paired_up B l26 hp).snoc rel6, a4⟩
        -- the new list grows
        refine ⟨a1.len, fun a o e => ?_, fun a o e => ?_, a1.r0, a1.nw, fun j kd e => ?_, a1.ff, a1.inj, a1.nt⟩
        · have hn : a ≠ D := fun z => by rw [z, hF1] at e; cases e
          rw [upd_ne hn]; exact a1.fr a o e
        · have hn : a ≠ D := fun z => by rw [z, a3] at e; cases e
          rw [upd_ne hn]; exact a1.le a o e
        · rcases a1.sl j kd e with z | ⟨v, hv, r⟩
          · exact .inl z
          · refine .inr ⟨v, hv, ?_⟩
            cases kd with
            | no => trivial
            | im A a => exact r
            | ow q C c =>
              obtain ⟨e1, e2, o, e4, e5⟩ := r
              exact ⟨e1, e2, o, by rw [upd_ne (fun z => a4 j _ e z)]; exact e4, e5⟩
    · have e : i = ys.length := by omega
      subst e
      refine .inl ⟨hJ.stop F' R' H hF ok.fr l1 ok.le, hq out τ' R' H D hj l1 ok ⟨⟨rfl, hRD, _, hHD, acc, rfl, hp⟩, fun p o => ?_⟩⟩
      cases o
      exact ⟨hF1, hno⟩
end
end T
end
section
set_option Elab.async false
set_option linter.all false
set_option autoImplicit false
set_option maxRecDepth 100000
set_option maxHeartbeats 2000000
namespace T
open PySem PySem.Spec PyProof.Rows L2 RZ
section
variable {G : Gm} {X : Cx} {N : List Str} {sc : Scope} {n : Nat} {τ τ1 : Tau} {k : KK} {P : Po} {y : Kd} {e a b c tg iter elt kx vx : Expr} {es elts ifs : List Expr} {pos p tpos spos py : Pos} {vs : List Nat} {kt : Tau → Prop} {scope : Scope} {own : List (Str × Nat)}
/-- [elt for tg in iter if ..] -/
theorem E_lc {β : Type} (B : DR β) (hX : XF G X N sc n) (ok : blkC N sc scope own = true)
    (h : It X tg iter τ fun ys τ1 => ∃ J : Nat → List β → Tau → Prop, J 0 [] (wipeT τ1 (own.map (·.2))) ∧ (∀ (i : Nat) y, ys[i]? = some y → LcTurn G X N sc scope n (own.map (·.2)) tg elt ifs B J i y) ∧
      ∀ out τ', J ys.length out τ' → ∀ p, k (.ow p (cL B) out) τ') (hs : ∀ x, foldedSetIterable iter X.env x = pure x := by intro _; rfl) : E X (.ListComp elt [⟨tg, iter, ifs, 0⟩] scope pos) τ k :=
  E.of (pe_lc (own := own) (g := gB X scope tg) (tt := cB X scope ifs) (te := eB X scope elt) hX.calm (by rw [hX.eN]; exact hX.nd) pi_sem (by rw [hX.eN, hX.es]; exact blkOk_by ok)
    (fun s H C cl fp => ⟨fun pins s' σ H' v u Q I r hq => hq s H C cl fp pins s' u I r⟩) (fun s H C cl fp => ⟨fun pins s' σ H' Q I hq => hq s H C cl fp pins s' I⟩) (fun s H C cl fp => ⟨fun pins s' σ H' Q I hq => hq s H C cl fp pins s' I⟩) hs) fun σ H F R0 R Q ok q =>
    h σ H F R0 R _ ok fun J ys τ1 R1 H1 ⟨Jv, h0, hs', hd⟩ l1 ok1 hJ D hD =>
      lc_core' hX (Le.refl F) hJ ok1 Jv h0 hs' (fun out τ' R' H' D hj l ok' w => q _ τ' (.ref D) R' H' (hd out τ' hj D) (l1.trans l) (by
        -- the def's own slots again: what the block named is forgotten
        refine ⟨?_, ok'.fr, ok'.le, ok'.r0, ok'.nw, fun i kd e => ?_, ok'.ff, ok'.inj, ok'.nt⟩
        · have := ok'.len
          rw [wipe_length] at this
          exact this
        · rcases ok'.sl i kd e with z | ⟨v, hv, r⟩
          · exact .inl z
          · refine .inr ⟨v, ?_, r⟩
            cases hw : (wipe σ (own.map (·.2)))[i]? with
            | none => rw [hw] at hv; cases hv
            | some u =>
              rw [hw] at hv
              have hu : u = some v := hv
              subst hu
              rw [(wipe_some hw).1]
              rfl) w) D hD
/-- name = [..] on one line -/
theorem S1_setLc {β : Type} (B : DR β) {i : Nat} {x : Str} (hX : XF G X N sc n) (hN : N[i]? = some x) (hl : sc.names.lookup x = some .local) (hk : sc.kind = .function) (ok : blkC N sc scope own = true) (hline : (py.line == pos.line) = true)
    (ha : (scope.names.any fun (m, k) => m == x && (k == .local || k == .cell)) = false)
    (h : It X tg iter τ fun ys τ1 => ∃ J : Nat → List β → Tau → Prop, J 0 [] (wipeT τ1 (own.map (·.2))) ∧ (∀ (i : Nat) y, ys[i]? = some y → LcTurn G X N sc scope n (own.map (·.2)) tg elt ifs B J i y) ∧
      ∀ out τ', J ys.length out τ' → ∀ p, P.nx (τ'.set i (.ow p (cL B) out))) (hs : ∀ x, foldedSetIterable iter X.env x = pure x := by intro _; rfl) : S1 X (.Assign [.Name x py] (.ListComp elt [⟨tg, iter, ifs, 0⟩] scope pos) spos) τ P :=
  S1.of (ps_setLc (i := i) (own := own) (g := gB X scope tg) (tt := cB X scope ifs) (te := eB X scope elt) hX.calm (by rw [hX.eN]; exact hX.nd) (by rw [hX.eN]; exact hN) (by rw [hX.es]; exact hl)
    (sw_true (by rw [hX.es]; exact hk) (by rw [hX.es]; exact hl) hline ha) pi_sem (by rw [hX.eN, hX.es]; exact blkOk_by ok)
    (fun s H C cl fp => ⟨fun pins s' σ H' v u Q I r hq => hq s H C cl fp pins s' u I r⟩) (fun s H C cl fp => ⟨fun pins s' σ H' Q I hq => hq s H C cl fp pins s' I⟩) (fun s H C cl fp => ⟨fun pins s' σ H' Q I hq => hq s H C cl fp pins s' I⟩) hs) fun σ H F R0 R D ok q =>
    h σ H F R0 R _ ok fun J ys τ1 R1 H1 ⟨Jv, h0, hs', hd⟩ l1 ok1 hJ Dl hD =>
      lc_core' (Q := fun v H' => gName i v σ H' D.nx) hX (Le.refl F) hJ ok1 Jv h0 hs' (fun out τ' R' H' Dl hj l ok' w => q.nx _ _ R' H' (hd out τ' hj Dl) (l1.trans l) (Ok.set' (by
        refine ⟨?_, ok'.fr, ok'.le, ok'.r0, ok'.nw, fun i kd e => ?_, ok'.ff, ok'.inj, ok'.nt⟩
        · have := ok'.len
          rw [wipe_length] at this
          exact this
        · rcases ok'.sl i kd e with z | ⟨v, hv, r⟩
          · exact .inl z
          · refine .inr ⟨v, ?_, r⟩
            cases hw : (wipe σ (own.map (·.2)))[i]? with
            | none => rw [hw] at hv; cases hv
            | some u =>
              rw [hw] at hv
              have hu : u = some v := hv
              subst hu
              rw [(wipe_some hw).1]
              rfl) i w)) Dl hD
/-! ### what a name's cell does -/
theorem Ok.cell {F R0 R H : Hp} {σ : L2.St} {j : Nat} {γ : Type} {p : Addr} {C : CR γ} {c : γ} (ok : Ok F R0 R H σ τ) (ht : τ[j]? = some (.ow p C c)) : σ[j]? = some (some (.ref p)) ∧ R p = none ∧ F p = none ∧ ∃ o, H p = some o ∧ C.rel R o c := by
  rcases ok.sl j _ ht with z | ⟨v, hv, e1, e2, o, e3, e4⟩
  · cases z
  · refine ⟨?_, e2, ok.ff j _ p ht rfl, o, e3, e4⟩
    cases hs : σ[j]? with
    | none => rw [hs] at hv; cases hv
    | some u => rw [hs] at hv; rw [show u = some v from hv, e1]
theorem Ok.write {F R0 R H : Hp} {σ : L2.St} {j : Nat} {γ δ : Type} {p : Addr} {C : CR γ} {c : γ} {C' : CR δ} {c' : δ} {o' : HO} (ok : Ok F R0 R H σ τ) (ht : τ[j]? = some (.ow p C c)) (hr : C'.rel R o' c') :
    Ok F R0 R (upd H p o') σ (τ.set j (.ow p C' c')) := by
  obtain ⟨hs, hR, hF, o, hH, hc⟩ := ok.cell ht
  have hj : j < τ.length := (List.getElem?_eq_some_iff.mp ht).1
  refine ⟨by rw [List.length_set]; exact ok.len, fun a u e => ?_, fun a u e => ?_, ok.r0, ok.nw, fun i kd e => ?_, fun i kd q e oq => ?_, fun i l k m q e1 e2 o1 o2 => ?_, ok.nt⟩
  · have hn : a ≠ p := fun z => by rw [z, hF] at e; cases e
    rw [upd_ne hn]; exact ok.fr a u e
  · have hn : a ≠ p := fun z => by rw [z, hR] at e; cases e
    rw [upd_ne hn]; exact ok.le a u e
  · by_cases hi : j = i
    · subst hi
      rw [List.getElem?_set_self hj] at e
      cases e
      exact .inr ⟨.ref p, by rw [hs]; rfl, rfl, hR, o', upd_same, hr⟩
    · rw [List.getElem?_set_ne hi] at e
      rcases ok.sl i kd e with z | ⟨v, hv, r⟩
      · exact .inl z
      · refine .inr ⟨v, hv, ?_⟩
        cases kd with
        | no => trivial
        | im A a => exact r
        | ow q C2 c2 =>
          obtain ⟨e1, e2, o2, e3, e4⟩ := r
          have hq : q ≠ p := fun z => hi (ok.inj j i _ _ p ht e rfl z)
          exact ⟨e1, e2, o2, by rw [upd_ne hq]; exact e3, e4⟩
  · by_cases hi : j = i
    · subst hi
      rw [List.getElem?_set_self hj] at e
      cases e
      cases oq
      exact hF
    · rw [List.getElem?_set_ne hi] at e
      exact ok.ff i kd q e oq
  · have key : ∀ (i : Nat) kd, (τ.set j (.ow p C' c'))[i]? = some kd → ∃ kd0, τ[i]? = some kd0 ∧ ∀ q, owns kd q → owns kd0 q := fun i kd e => by
      by_cases hi : j = i
      · subst hi
        rw [List.getElem?_set_self hj] at e
        cases e
        exact ⟨_, ht, fun q h => h⟩
      · rw [List.getElem?_set_ne hi] at e
        exact ⟨kd, e, fun q h => h⟩
    obtain ⟨k0, a1, b1⟩ := key i k e1
    obtain ⟨m0, a2, b2⟩ := key l m e2
    exact ok.inj i l k0 m0 q a1 a2 (b1 q o1) (b2 q o2)
theorem pn {j : Nat} {x : Str} (hX : XF G X N sc n) (hN : N[j]? = some x) (hv : Vis sc x) (hd : (x == ("__debug__" : Str)) = false) (hcd : (x == ("__classdict__" : Str)) = false) : PE X (.Name x p) (tVar j) :=
  pe_var (i := j) (by rw [hX.eN]; exact hN) (hX.vis hv) hd hcd
/-- name.append(e), the name's list still its own -/
theorem E_append {j : Nat} {x : Str} {α : Type} {A : DR α} {q : Addr} {l0 : List α} {apos cpos : Pos} (hX : XF G X N sc n) (hN : N[j]? = some x) (hv : Vis sc x) (hse : noStar [e] = true) (ht : τ[j]? = some (.ow q (cL A) l0))
    (h : E X e τ fun y τ1 => ∃ a, Fz y (.im A a) ∧ ∃ l, τ1[j]? = some (.ow q (cL A) l) ∧ l.length < 100000 ∧ k (.im rN ()) (τ1.set j (.ow q (cL A) (l ++ [a]))))
    (hbase : attributeBase (.Name x p) "append" X.env (eval (.Name x p) X.env) = eval (.Name x p) X.env := by rfl) (hline : (apos.endLine == cpos.line) = true := by rfl)
    (hfew : ((backTo cpos (starEach [e] X.env)).all (fun x => !x.1) && (backToKw cpos (keywordEach [] X.env)).all (fun x => x.1.isSome) && decide ([e].length + ([] : List Keyword).length + (if ([] : List Keyword).isEmpty then 0 else 1) < 30)) = true := by rfl)
    (hd : (x == ("__debug__" : Str)) = false := by decide) (hcd : (x == ("__classdict__" : Str)) = false := by decide) : E X (.Call (.Attribute (.Name x p) "append" apos) [e] [] cpos) τ k := by
  have st := star_of (env := X.env) hse e [] (List.suffix_refl _)
  refine E.of (pe_bm PySem.F.plainAttrs_list PySem.F.slot_list_append PySem.F.type_list_append mt_append (pn hX hN hv hd hcd) (pa_cons pe_sem pa_nil st) hbase hfew hline st (by rfl)) ?_
  intro σ H F R0 R Q ok qq
  obtain ⟨hs, hR, hF, o, hH, xs, eo, hp⟩ := ok.cell ht
  subst eo
  refine ⟨.ref q, hs, .inl ⟨rfl, xs, .inl (.inl hH)⟩, ?_⟩
  refine h σ H F R0 R _ ok fun y τ1 v R1 H1 ⟨a, fz, l, ht1, hz, hk⟩ l1 ok1 w1 => ?_
  obtain ⟨R2, l2, ok2, r2⟩ := fz_rel ok1 w1 fz
  obtain ⟨hs2, hR2, hF2, o2, hH2, xs2, eo2, hp2⟩ := ok2.cell ht1
  subst eo2
  refine ⟨q, xs2, v, rfl, rfl, hH2, by rw [sizeLine_eq, PySem.Paired.length hp2]; omega, ?_⟩
  exact qq _ _ .non R2 _ hk (l1.trans l2) (ok2.write ht1 ⟨xs2 ++ [v], rfl, hp2.snoc r2⟩) (VOk.im rfl)
/-- name.pop(e) -/
theorem E_popAt {j : Nat} {x : Str} {α : Type} {A : DR α} {q : Addr} {l0 : List α} {apos cpos : Pos} (hX : XF G X N sc n) (hN : N[j]? = some x) (hv : Vis sc x) (hse : noStar [e] = true) (ht : τ[j]? = some (.ow q (cL A) l0))
    (h : E X e τ fun y τ1 => ∃ i, Fz y (.im rI i) ∧ ∃ l a, τ1[j]? = some (.ow q (cL A) l) ∧ 0 ≤ i ∧ i < 100000 ∧ l[i.toNat]? = some a ∧ k (.im A a) (τ1.set j (.ow q (cL A) (l.eraseIdx i.toNat))))
    (hbase : attributeBase (.Name x p) "pop" X.env (eval (.Name x p) X.env) = eval (.Name x p) X.env := by rfl) (hline : (apos.endLine == cpos.line) = true := by rfl)
    (hfew : ((backTo cpos (starEach [e] X.env)).all (fun x => !x.1) && (backToKw cpos (keywordEach [] X.env)).all (fun x => x.1.isSome) && decide ([e].length + ([] : List Keyword).length + (if ([] : List Keyword).isEmpty then 0 else 1) < 30)) = true := by rfl)
    (hd : (x == ("__debug__" : Str)) = false := by decide) (hcd : (x == ("__classdict__" : Str)) = false := by decide) : E X (.Call (.Attribute (.Name x p) "pop" apos) [e] [] cpos) τ k := by
  have st := star_of (env := X.env) hse e [] (List.suffix_refl _)
  refine E.of (pe_bm PySem.F.plainAttrs_list PySem.F.slot_list_pop PySem.F.type_list_pop mt_popAt (pn hX hN hv hd hcd) (pa_cons pe_sem pa_nil st) hbase hfew hline st (by rfl)) ?_
  intro σ H F R0 R Q ok qq
  obtain ⟨hs, hR, hF, o, hH, xs, eo, hp⟩ := ok.cell ht
  subst eo
  refine ⟨.ref q, hs, .inl ⟨rfl, xs, .inl (.inl hH)⟩, ?_⟩
  refine h σ H F R0 R _ ok fun y τ1 v R1 H1 ⟨i, fz, l, a, ht1, h0, hz, hi, hk⟩ l1 ok1 w1 => ?_
  obtain ⟨R2, l2, ok2, r2⟩ := fz_rel ok1 w1 fz
  cases r2
  obtain ⟨hs2, hR2, hF2, o2, hH2, xs2, eo2, hp2⟩ := ok2.cell ht1
  subst eo2
  have hlen := PySem.Paired.length hp2
  have hlt : i.toNat < l.length := (List.getElem?_eq_some_iff.mp hi).1
  have hx : xs2[i.toNat]? = some xs2[i.toNat] := List.getElem?_eq_getElem (by omega)
  refine ⟨q, xs2, i, i.toNat, xs2[i.toNat], rfl, rfl, hH2, by omega, by omega, ?_, hx, ?_⟩
  · exact seqIndex_of h0 (by omega)
  · have hr : A.rel R2 xs2[i.toNat] a := paired_get' hp2 _ _ _ hx hi
    have her : ∀ {xs : List V} {l : List α} (m : Nat), Paired (A.rel R2) xs l → Paired (A.rel R2) (xs.eraseIdx m) (l.eraseIdx m) := by
      intro xs l m hp
      induction hp generalizing m with
      | nil => exact .nil
      | cons r t ih => cases m with
        | zero => exact t
        | succ m => exact .cons r (ih m)
    exact qq _ _ _ R2 _ hk (l1.trans l2) (ok2.write ht1 ⟨_, rfl, her _ hp2⟩) (VOk.im hr)
/-! ### dicts with whole keys -/
def dget {β : Type} (d : List (Int × β)) (i : Int) : Option β := (d.find? fun c => decide (c.1 = i)).map (·.2)
def dput {β : Type} (d : List (Int × β)) (i : Int) (b : β) : List (Int × β) := if (d.any fun c => decide (c.1 = i)) = true then d.map (fun c => if c.1 = i then (c.1, b) else c) else d ++ [(i, b)]
def ddrop {β : Type} (d : List (Int × β)) (i : Int) : List (Int × β) := d.filter fun c => decide (c.1 ≠ i)
theorem kvs_dec {a : Key} {b i : Int} (h : a = .inl b) : decide (a = (.inl i : Key)) = decide (b = i) := by
  subst h
  rw [Bool.eq_iff_iff]
  simp
theorem kvs_find {β : Type} {B : DR β} {R : Hp} {kvs : List (Key × V)} {d : List (Int × β)} (h : KVs B R kvs d) (i : Int) : match dget d i with
    | none => valV kvs (.inl i : Key) = none
    | some b => ∃ v, valV kvs (.inl i : Key) = some v ∧ B.rel R v b := by
  unfold KVs at h
  induction h with
  | nil => exact rfl
  | @cons p c kvs d r t ih =>
    have e := kvs_dec (i := i) r.1
    by_cases hc : c.1 = i
    · have h1 : dget (c :: d) i = some c.2 := by unfold dget; rw [List.find?_cons]; simp [hc]
      rw [h1]
      exact ⟨p.2, valV_pos (by rw [r.1, hc]), r.2⟩
    · have h1 : dget (c :: d) i = dget d i := by unfold dget; rw [List.find?_cons]; simp [hc]
      rw [h1]
      have h2 : valV (p :: kvs) (.inl i : Key) = valV kvs (.inl i) := valV_neg (by rw [r.1]; intro z; exact hc (Sum.inl.inj z))
      rw [h2]
      exact ih
theorem kvs_put {β : Type} {B : DR β} {R : Hp} {kvs : List (Key × V)} {d : List (Int × β)} (h : KVs B R kvs d) (i : Int) {v : V} {b : β} (hr : B.rel R v b) : KVs B R (putK kvs (.inl i : Key) v) (dput d i b) := by
  have hany : ∀ {kvs : List (Key × V)} {d : List (Int × β)}, KVs B R kvs d → (kvs.any fun kv => decide (kv.1 = (.inl i : Key))) = (d.any fun c => decide (c.1 = i)) := by
    intro kvs d h
    unfold KVs at h
    induction h with
    | nil => rfl
    | cons r t ih => rw [List.any_cons, List.any_cons, ih, kvs_dec r.1]
  have hmap : ∀ {kvs : List (Key × V)} {d : List (Int × β)}, KVs B R kvs d → KVs B R (kvs.map fun kv => if kv.1 = (.inl i : Key) then (kv.1, v) else kv) (d.map fun c => if c.1 = i then (c.1, b) else c) := by
    intro kvs d h
    unfold KVs at h ⊢
    induction h with
    | nil => exact .nil
    | @cons p c kvs d r t ih =>
      refine .cons ?_ ih
      by_cases hc : c.1 = i
      · have hp : p.1 = (.inl i : Key) := by rw [r.1, hc]
        show (if p.1 = (.inl i : Key) then (p.1, v) else p).1 = .inl (if c.1 = i then (c.1, b) else c).1 ∧ B.rel R (if p.1 = (.inl i : Key) then (p.1, v) else p).2 (if c.1 = i then (c.1, b) else c).2
        rw [if_pos hp, if_pos hc]; exact ⟨r.1, hr⟩
      · have hp : ¬ p.1 = (.inl i : Key) := by rw [r.1]; intro z; exact hc (Sum.inl.inj z)
        show (if p.1 = (.inl i : Key) then (p.1, v) else p).1 = .inl (if c.1 = i then (c.1, b) else c).1 ∧ B.rel R (if p.1 = (.inl i : Key) then (p.1, v) else p).2 (if c.1 = i then (c.1, b) else c).2
        rw [if_neg hp, if_neg hc]; exact r
  unfold putK dput
  rw [hany h]
  split
  · exact hmap h
  · exact PySem.Paired.snoc h ⟨rfl, hr⟩
theorem kvs_drop {β : Type} {B : DR β} {R : Hp} {kvs : List (Key × V)} {d : List (Int × β)} (h : KVs B R kvs d) (i : Int) : KVs B R (dropK kvs (.inl i : Key)) (ddrop d i) := by
  unfold KVs dropK ddrop at *
  induction h with
  | nil => exact .nil
  | @cons p c kvs d r t ih =>
    rw [List.filter_cons, List.filter_cons]
    by_cases hc : c.1 = i
    · rw [if_neg (by rw [r.1, hc]; simp), if_neg (by simp [hc])]; exact ih
    · rw [if_pos (by rw [r.1]; simpa using hc), if_pos (by simpa using hc)]; exact .cons r ih
def DOf {β : Type} (x : Kd) (B : DR β) (d : List (Int × β)) : Prop := ∀ R H v, LeR R H → x.rel R H v → ∃ p kvs, v = .ref p ∧ Rd H p (.dK kvs) ∧ KVs B R kvs d
theorem dof_im {β : Type} {B : DR β} {d : List (Int × β)} : DOf (.im (rD B) d) B d := fun R H v l ⟨p, kvs, e, h, hp⟩ => ⟨p, kvs, e, l.rd (.inl h), hp⟩
theorem dof_ow {β : Type} {B : DR β} {d : List (Int × β)} {q : Addr} : DOf (.ow q (cD B) d) B d := fun R H v l ⟨e, hR, o, ho, kvs, eo, hp⟩ => ⟨q, kvs, e, .inl (by rw [ho, eo]), hp⟩
theorem dget_rd {H : Hp} {p : Addr} {kvs : List (Key × V)} {i : Int} (h : Rd H p (.dK kvs)) : DGet H p (.int i) (valV kvs (.inl i : Key)) := .inl ⟨kvs, .inl i, h, rfl, rfl⟩
/-- d[e], there -/
theorem E_dget {β : Type} {B : DR β} (hX : XF G X N sc n) (hs : NoSl b) (h : T.P X a τ fun pl τ1 => E X b τ1 fun y τ2 => ∃ i, Fz y (.im rI i) ∧ ∃ x d c, pl.kd τ2 = some x ∧ DOf x B d ∧ dget d i = some c ∧ k (.im B c) τ2) : E X (.Subscript a b pos) τ k :=
  E.of (pe_dget hX.hu pe_sem pe_sem hs) fun σ H F R0 R Q ok q => h σ H F R0 R _ ok fun pl τ1 v R1 H1 hb l1 ok1 at1 => hb σ H1 F R0 R1 _ ok1 fun y τ2 u R2 H2 ⟨i, fz, x, d, c, ex, hd, hg, hk⟩ l2 ok2 w2 => by
    obtain ⟨R3, l3, ok3, r3⟩ := fz_rel ok2 w2 fz
    cases r3
    obtain ⟨pa, kvs, e1, h1, h2⟩ := hd R3 H2 v ok3.le (Pl.rel ok3 (Pl.up (l2.trans l3) at1) ex)
    have hf := kvs_find h2 i
    rw [hg] at hf
    obtain ⟨u, e3, e4⟩ := hf
    exact ⟨pa, u, e1, by rw [← e3]; exact dget_rd h1, q _ τ2 u R3 H2 hk ((l1.trans l2).trans l3) ok3 (VOk.im e4)⟩
/-- d.get(e, f) -/
theorem E_dget2 {β : Type} {B : DR β} {apos cpos : Pos} (hX : XF G X N sc n) (m : M2 X a "get" apos b c cpos)
    (h : T.P X a τ fun pl τ1 => (∃ x d, pl.kd τ1 = some x ∧ DOf x B d) ∧ E X b τ1 fun y τ2 => ∃ i, Fz y (.im rI i) ∧ E X c τ2 fun z τ3 => ∃ w, Fz z (.im B w) ∧ ∃ x d, pl.kd τ3 = some x ∧ DOf x B d ∧ k (.im B ((dget d i).getD w)) τ3) :
    E X (.Call (.Attribute a "get" apos) [b, c] [] cpos) τ k :=
  E.of (pe_dget2 hX.hu pe_sem pe_sem pe_sem m) fun σ H F R0 R Q ok q => h σ H F R0 R _ ok fun pl τ1 v R1 H1 ⟨⟨x0, d0, ex0, hd0⟩, hb⟩ l1 ok1 at1 => by
    obtain ⟨pa, kvs0, e1, h1, h2⟩ := hd0 R1 H1 v ok1.le (Pl.rel ok1 at1 ex0)
    refine ⟨pa, e1, .inl ⟨kvs0, h1⟩, ?_⟩
    refine hb σ H1 F R0 R1 _ ok1 fun y τ2 u R2 H2 ⟨i, fz, hc⟩ l2 ok2 w2 => ?_
    obtain ⟨R3, l3, ok3, r3⟩ := fz_rel ok2 w2 fz
    cases r3
    refine hc σ H2 F R0 R3 _ ok3 fun z τ3 u3 R4 H4 ⟨w, fz', x, d, ex, hd, hk⟩ l4 ok4 w4 => ?_
    obtain ⟨R5, l5, ok5, r5⟩ := fz_rel ok4 w4 fz'
    have lt := (l2.trans l3).trans (l4.trans l5)
    obtain ⟨pa', kvs, e3, h3, h4⟩ := hd R5 H4 v ok5.le (Pl.rel ok5 (Pl.up lt at1) ex)
    rw [e1] at e3
    cases e3
    have hf := kvs_find h4 i
    refine ⟨valV kvs (.inl i : Key), dget_rd h3, ?_⟩
    cases hg : dget d i with
    | none =>
      rw [hg] at hf hk
      rw [hf]
      exact q _ τ3 _ R5 H4 hk (l1.trans lt) ok5 (VOk.im r5)
    | some b' =>
      rw [hg] at hf hk
      obtain ⟨u', e5, e6⟩ := hf
      rw [e5]
      exact q _ τ3 _ R5 H4 hk (l1.trans lt) ok5 (VOk.im e6)
/-- e in d, e not in d: as a value, as a test -/
theorem W_din {β : Type} {B : DR β} (neg : Bool) (h : E X a τ fun y τ1 => ∃ i, Fz y (.im rI i) ∧ T.P X b τ1 fun pl τ2 => ∃ x d, pl.kd τ2 = some x ∧ DOf x B d ∧ k (.im rB (if neg then !(dget d i).isSome else (dget d i).isSome)) τ2) :
    W (if neg then tDNotIn (sem X a) (sem X b) else tDIn (sem X a) (sem X b)) τ k := fun σ H F R0 R Q ok q => by
  have main : sem X a σ H fun y H1 => sem X b σ H1 fun x H2 => ∃ a o, x = .ref a ∧ DGet H2 a y o ∧ Q (.bl (if neg then !o.isSome else o.isSome)) H2 :=
    h σ H F R0 R _ ok fun y τ1 v R1 H1 ⟨i, fz, hb⟩ l1 ok1 w1 => by
      obtain ⟨R2, l2, ok2, r2⟩ := fz_rel ok1 w1 fz
      cases r2
      refine hb σ H1 F R0 R2 _ ok2 fun pl τ2 u R3 H3 ⟨x, d, ex, hd, hk⟩ l3 ok3 at3 => ?_
      obtain ⟨pa, kvs, e1, h1, h2⟩ := hd R3 H3 u ok3.le (Pl.rel ok3 at3 ex)
      have hf := kvs_find h2 i
      refine ⟨pa, valV kvs (.inl i : Key), e1, dget_rd h1, ?_⟩
      have hi : (valV kvs (.inl i : Key)).isSome = (dget d i).isSome := by
        cases hg : dget d i with
        | none => rw [hg] at hf; rw [hf]; rfl
        | some b' => rw [hg] at hf; obtain ⟨u', e5, _⟩ := hf; rw [e5]; rfl
      rw [hi]
      exact q _ τ2 _ R3 H3 hk ((l1.trans l2).trans l3) ok3 (VOk.im rfl)
  cases neg with
  | true => exact main
  | false => exact main
theorem C_din {β : Type} {B : DR β} (hX : XF G X N sc n) {kt : Bool → Tau → Prop} (h : E X a τ fun y τ1 => ∃ i, Fz y (.im rI i) ∧ T.P X b τ1 fun pl τ2 => ∃ x d, pl.kd τ2 = some x ∧ DOf x B d ∧ kt (dget d i).isSome τ2) (hm : behindInMarks .In b = false := by rfl) : C X (.Compare a [.In] [b] pos) τ kt :=
  C.of (pt_cmp (pc_din hX.hu pe_sem pe_sem) hm) fun σ H F R0 R Q ok q => W_din (B := B) (k := fun x τ' => ∃ c, x = .im rB c ∧ kt c τ') false (h.mono fun y τ1 ⟨i, fz, hb⟩ => ⟨i, fz, fun σ H F R0 R Q ok q => hb σ H F R0 R Q ok fun pl τ2 v R' H' ⟨x, d, e1, e2, e3⟩ l ok' at' => q pl τ2 v R' H' ⟨x, d, e1, e2, _, rfl, e3⟩ l ok' at'⟩) σ H F R0 R _ ok fun x τ1 v R1 H1 ⟨c, ex, hk⟩ l1 ok1 w1 => by
      subst ex
      exact ⟨c, w1.rel, q c τ1 R1 H1 hk l1 ok1⟩
theorem C_dnin {β : Type} {B : DR β} (hX : XF G X N sc n) {kt : Bool → Tau → Prop} (h : E X a τ fun y τ1 => ∃ i, Fz y (.im rI i) ∧ T.P X b τ1 fun pl τ2 => ∃ x d, pl.kd τ2 = some x ∧ DOf x B d ∧ kt (!(dget d i).isSome) τ2) (hm : behindInMarks .NotIn b = false := by rfl) : C X (.Compare a [.NotIn] [b] pos) τ kt :=
  C.of (pt_cmp (pc_dnotin hX.hu pe_sem pe_sem) hm) fun σ H F R0 R Q ok q => W_din (B := B) (k := fun x τ' => ∃ c, x = .im rB c ∧ kt c τ') true (h.mono fun y τ1 ⟨i, fz, hb⟩ => ⟨i, fz, fun σ H F R0 R Q ok q => hb σ H F R0 R Q ok fun pl τ2 v R' H' ⟨x, d, e1, e2, e3⟩ l ok' at' => q pl τ2 v R' H' ⟨x, d, e1, e2, _, rfl, e3⟩ l ok' at'⟩) σ H F R0 R _ ok fun x τ1 v R1 H1 ⟨c, ex, hk⟩ l1 ok1 w1 => by
      subst ex
      exact ⟨c, w1.rel, q c τ1 R1 H1 hk l1 ok1⟩
/-- name[e] = v, the name's dict still its own -/
theorem S1_dput {j : Nat} {x : Str} {β : Type} {B : DR β} {q : Addr} {pos' : Pos} (hX : XF G X N sc n) (hN : N[j]? = some x) (hv : Vis sc x)
    (h : E X c τ fun z τ1 => ∃ w, Fz z (.im B w) ∧ ∃ d0, τ1[j]? = some (.ow q (cD B) d0) ∧ E X b τ1 fun y τ2 => ∃ i, Fz y (.im rI i) ∧ ∃ d, τ2[j]? = some (.ow q (cD B) d) ∧ d.length < 100000 ∧ P.nx (τ2.set j (.ow q (cD B) (dput d i w))))
    (hs : swapsWith c (some (.Subscript (.Name x p) b pos')) pos.line X.env = pure false := by rfl) (hd : (x == ("__debug__" : Str)) = false := by decide) (hcd : (x == ("__classdict__" : Str)) = false := by decide) :
    S1 X (.Assign [.Subscript (.Name x p) b pos'] c pos) τ P :=
  S1.of (ps_dput hX.hu (pn hX hN hv hd hcd) pe_sem pe_sem hs) fun σ H F R0 R D ok qq => h σ H F R0 R _ ok fun z τ1 v R1 H1 ⟨w, fz, d0, ht0, hb⟩ l1 ok1 w1 => by
    obtain ⟨R2, l2, ok2, r2⟩ := fz_rel ok1 w1 fz
    obtain ⟨hs0, _⟩ := ok2.cell ht0
    refine ⟨.ref q, hs0, ?_⟩
    refine hb σ H1 F R0 R2 _ ok2 fun y τ2 u R3 H3 ⟨i, fz', d, ht, hz, hk⟩ l3 ok3 w3 => ?_
    obtain ⟨R4, l4, ok4, r4⟩ := fz_rel ok3 w3 fz'
    cases r4
    obtain ⟨hs', hR, hF, o, hH, kvs, eo, hp⟩ := ok4.cell ht
    subst eo
    refine ⟨q, _, rfl, DPut.k (k := .inl i) hH (by rw [sizeLine_eq, PySem.Paired.length hp]; omega), ?_⟩
    exact qq.nx _ σ R4 _ hk ((l1.trans l2).trans (l3.trans l4)) (ok4.write ht ⟨_, rfl, kvs_put hp i (B.up (l3.trans l4) r2)⟩)
/-- name.pop(e), there -/
theorem E_dpop {j : Nat} {x : Str} {β : Type} {B : DR β} {q : Addr} {d0 : List (Int × β)} {apos cpos : Pos} (hX : XF G X N sc n) (hN : N[j]? = some x) (hv : Vis sc x) (ht0 : τ[j]? = some (.ow q (cD B) d0)) (m : M1 X (.Name x p) "pop" apos e cpos)
    (h : E X e τ fun y τ1 => ∃ i, Fz y (.im rI i) ∧ ∃ d w, τ1[j]? = some (.ow q (cD B) d) ∧ dget d i = some w ∧ k (.im B w) (τ1.set j (.ow q (cD B) (ddrop d i))))
    (hd : (x == ("__debug__" : Str)) = false := by decide) (hcd : (x == ("__classdict__" : Str)) = false := by decide) : E X (.Call (.Attribute (.Name x p) "pop" apos) [e] [] cpos) τ k :=
  E.of (pe_dpop1 (pn hX hN hv hd hcd) pe_sem m) fun σ H F R0 R Q ok qq => by
    obtain ⟨hs0, hR0, hF0, o0, hH0, kvs0, eo0, hp0⟩ := ok.cell ht0
    subst eo0
    refine ⟨.ref q, hs0, q, rfl, .inl ⟨kvs0, .inl hH0⟩, ?_⟩
    refine h σ H F R0 R _ ok fun y τ1 v R1 H1 ⟨i, fz, d, w, ht, hg, hk⟩ l1 ok1 w1 => ?_
    obtain ⟨R2, l2, ok2, r2⟩ := fz_rel ok1 w1 fz
    cases r2
    obtain ⟨hs, hR, hF, o, hH, kvs, eo, hp⟩ := ok2.cell ht
    subst eo
    have hf := kvs_find hp i
    rw [hg] at hf
    obtain ⟨u, e5, e6⟩ := hf
    exact ⟨kvs, .inl i, u, hH, rfl, e5, qq _ _ u R2 _ hk (l1.trans l2) (ok2.write ht ⟨_, rfl, kvs_drop hp i⟩) (VOk.im e6)⟩
theorem E_dnew (h : ∀ p, k (.ow p (cD (β := Int) rI) []) τ) : E X (.Dict [] [] pos) τ k :=
  E.of pe_dnewK fun σ H F R0 R Q ok q p hp => by
    obtain ⟨hR, hF, ho⟩ := ok.fresh hp
    exact q _ τ (.ref p) R _ (h p) (Le.refl R) (ok.new hp) ⟨⟨rfl, hR, _, upd_same, [], rfl, .nil⟩, fun p' z => by cases z; exact ⟨hF, ho⟩⟩
theorem E_dnew' {β : Type} (B : DR β) (h : ∀ p, k (.ow p (cD B) []) τ) : E X (.Dict [] [] pos) τ k :=
  E.of pe_dnewK fun σ H F R0 R Q ok q p hp => by
    obtain ⟨hR, hF, ho⟩ := ok.fresh hp
    exact q _ τ (.ref p) R _ (h p) (Le.refl R) (ok.new hp) ⟨⟨rfl, hR, _, upd_same, [], rfl, .nil⟩, fun p' z => by cases z; exact ⟨hF, ho⟩⟩
end
end T
end
section
set_option Elab.async false
set_option linter.all false
set_option autoImplicit false
set_option maxRecDepth 100000
set_option exponentiation.threshold 10000
set_option maxHeartbeats 2000000
namespace T
open PySem PySem.Spec PyProof.Rows L2 RZ
theorem boot_lenB : bootBuiltins ("len" : Str) = some (.builtin "len") := by decide +kernel
theorem boot_absB : bootBuiltins ("abs" : Str) = some (.builtin "abs") := by decide +kernel
theorem boot_sumB : bootBuiltins ("sum" : Str) = some (.builtin "sum") := by decide +kernel
theorem boot_minB : bootBuiltins ("min" : Str) = some (.builtin "min") := by decide +kernel
theorem boot_maxB : bootBuiltins ("max" : Str) = some (.builtin "max") := by decide +kernel
theorem boot_sortedB : bootBuiltins ("sorted" : Str) = some (.builtin "sorted") := by decide +kernel
theorem boot_isiB : bootBuiltins ("isinstance" : Str) = some (.builtin "isinstance") := by decide +kernel
theorem boot_intB : bootBuiltins ("int" : Str) = some (.type "int") := by decide +kernel
theorem boot_boolB : bootBuiltins ("bool" : Str) = some (.type "bool") := by decide +kernel
theorem boot_strB : bootBuiltins ("str" : Str) = some (.type "str") := by decide +kernel
theorem boot_listB : bootBuiltins ("list" : Str) = some (.type "list") := by decide +kernel
theorem boot_tupleB : bootBuiltins ("tuple" : Str) = some (.type "tuple") := by decide +kernel
theorem boot_dictB : bootBuiltins ("dict" : Str) = some (.type "dict") := by decide +kernel
section
variable {X : Cx}
theorem call_lenR : CallR X (.builtin "len") (fun xs H Q => ∃ a kvs, xs = [V.ref a] ∧ Rd H a (.dK kvs) ∧ Q (.int kvs.length) H) := by
  intro pins s σ H xs us Q I r h
  obtain ⟨a, kvs, rfl, ha, q⟩ := h
  obtain ⟨u, rfl, ru⟩ := vals1 r
  cases ru
  exact d_len I ha fun t s' I' => ⟨.int kvs.length, H, I', ⟨t, rfl⟩, q⟩
theorem cr_lcm : CallR X (.builtin "math.lcm") (fun vs H Q => ∃ a b : Int, vs = [.int a, .int b] ∧ a.natAbs < 2 ^ 4000 ∧ b.natAbs < 2 ^ 4000 ∧ Q (.int ((Nat.lcm a.natAbs b.natAbs : Nat) : Int)) H) := by
  intro pins s σ H vs us Q I r h
  obtain ⟨a, b, rfl, ha, hb, q⟩ := h
  obtain ⟨t, u, rfl⟩ := Vals.int2 r
  have hlg : ∀ m : Nat, m < 2 ^ 4000 → ¬ m.log2 / 30 + 1 > 450 := fun m hm => by
    have : m.log2 ≤ 3999 := PySem.W.mg_log hm
    omega
  have one : (1 : Nat) < 2 ^ 4000 := Nat.one_lt_two_pow (by decide)
  have hmx : ∀ m n : Nat, m < 2 ^ 4000 → n < 2 ^ 4000 → max m n < 2 ^ 4000 := fun m n h1 h2 => Nat.max_lt.mpr ⟨h1, h2⟩
  have hsz : ((((Nat.lcm 1 a.natAbs).lcm b.natAbs : Nat) : Int)).natAbs.log2 < bitsLine := by
    rw [Int.natAbs_natCast, PySem.W.mc_lcm_one]
    have h1 : a.natAbs.lcm b.natAbs < 2 ^ 8000 := by
      refine Nat.lt_of_le_of_lt (PySem.W.mc_lcm_le _ _) ?_
      have := Nat.mul_lt_mul_of_lt_of_le ha (Nat.le_of_lt hb) (Nat.two_pow_pos 4000)
      rw [← Nat.pow_add] at this
      exact this
    have h2 : (a.natAbs.lcm b.natAbs).log2 ≤ 7999 := PySem.W.mg_log h1
    rw [bitsLine_eq]
    omega
  have g := PySem.W.mg_run_lcm a t b u (hlg _ (hmx _ _ one ha)) (hlg _ (hmx _ _ ha hb)) hsz
  rw [PySem.W.mc_lcm_one] at g
  exact call_function_meets PySem.W.MGF.kind_lcm PySem.W.MGF.plain_lcm PySem.W.MGF.entry_lcm (PySem.W.MGF.args_lcm _ _) g.meets ⟨.int _, H, I.tok _, ⟨_, rfl⟩, q⟩
theorem Inv.rdL {pins : List (Addr × Obj)} {σ : L2.St} {H : Hp} {s : Shared} {p : Addr} {xs : List V} (I : Inv X pins σ H s) (h : Rd H p (.lst xs)) :
    ∃ (its : List Value) (n : Nat), Vals xs its ∧ s.heap.get? p = some { cls := .type "list", data := .seq its.toArray n } ∧ xs.length ≤ sizeLine := by
  rcases h with h | ⟨o, h⟩
  · obtain ⟨z, its, n, r, e⟩ := I.hok p _ h
    exact ⟨its, n, r, e, z⟩
  · obtain ⟨_, z, its, n, r, e⟩ := I.hok p _ h
    exact ⟨its, n, r, e, z⟩
/-- xs + ys, lists that are read -/
theorem op_catR : OpR X (binaryOp .Add) (fun x y H Q => ∃ l b xs zs, x = .ref l ∧ y = .ref b ∧ Rd H l (.lst xs) ∧ Rd H b (.lst zs) ∧ xs.length + zs.length ≤ sizeLine ∧ ∀ p, H p = none → Q (.ref p) (upd H p (.lst (xs ++ zs)))) := by
  intro pins s σ H x y v u Q I rx ry h
  obtain ⟨l, b, xs, zs, rfl, rfl, hH, hB, hz, q⟩ := h
  cases rx
  cases ry
  obtain ⟨its, n, r, e, z⟩ := Inv.rdL I hH
  obtain ⟨its2, n2, r2, e2, z2⟩ := Inv.rdL I hB
  have hl := r.length
  have hl2 := r2.length
  refine PySem.P.add_list e e2 ?_ (by rw [List.size_toArray, List.size_toArray]; omega)
  have ea : its.toArray ++ its2.toArray = (its ++ its2).toArray := by simp
  rw [ea]
  exact ⟨.ref _, _, I.lnew (t' := s.toks) (r.append r2) (by rw [List.length_append]; omega), rfl, q _ I.fresh⟩
end
section
variable {G : Gm} {X : Cx} {N : List Str} {sc : Scope} {n : Nat} {τ τ1 : Tau} {k : KK} {P : Po} {y : Kd} {e a b c tg iter elt kx vx : Expr} {es elts ifs : List Expr} {pos p tpos spos py : Pos} {vs : List Nat} {kt : Tau → Prop} {scope : Scope} {own : List (Str × Nat)}
theorem pa1 (hs : noStar [e] = true) : PA X [e] (tCons (sem X e) tNil) := pa_cons pe_sem pa_nil (star_of hs _ _ (List.suffix_refl _))
theorem plain1 {env : PySem.Env} (q : Pos) : (backTo q (starEach [] env)).any (·.1) = false := by rfl
/-- xs + ys -/
theorem E_cat {α : Type} (A : DR α) (hX : XF G X N sc n) (h : E X a τ fun x τ1 => ∃ l, Fz x (.im (rL G.K A) l) ∧ E X b τ1 fun y τ2 => ∃ m, Fz y (.im (rL G.K A) m) ∧ l.length + m.length < 100000 ∧ ∀ p, k (.ow p (cL A) (l ++ m)) τ2) : E X (.BinOp a .Add b pos) τ k :=
  E.of (pe_op op_catR pe_sem pe_sem) (w_op (A := rL G.K A) (B := rL G.K A) (k1 := k) (h.mono fun x τ1 ⟨l, fz, hb⟩ => ⟨l, fz, hb.mono fun y τ2 ⟨m, fz', hz, hk⟩ => ⟨m, fz', fun σ H F R0 R Q v u ok r1 r2 q => by
    obtain ⟨pa, xs, e1, h1, hp1⟩ := r1
    obtain ⟨pb, ys, e2, h2, hp2⟩ := r2
    refine ⟨pa, pb, xs, ys, e1, e2, ok.le.rd h1, ok.le.rd h2, by rw [sizeLine_eq, PySem.Paired.length hp1, PySem.Paired.length hp2]; omega, fun p hp => ?_⟩
    obtain ⟨hR, hF, ho⟩ := ok.fresh hp
    have happ : ∀ {xs ys : List V} {l m : List α}, Paired (A.rel R) xs l → Paired (A.rel R) ys m → Paired (A.rel R) (xs ++ ys) (l ++ m) := by
      intro xs ys l m h1 h2
      induction h1 with
      | nil => exact h2
      | cons r t ih => exact .cons r ih
    exact q _ τ2 _ R _ (hk p) (Le.refl R) (ok.new hp) ⟨⟨rfl, hR, _, upd_same, _, rfl, happ hp1 hp2⟩, fun p' z => by cases z; exact ⟨hF, ho⟩⟩⟩⟩))
/-- t + u -/
theorem E_catT {α : Type} (A : DR α) (hX : XF G X N sc n) (h : E X a τ fun x τ1 => ∃ l, Fz x (.im (rT G.K A) l) ∧ E X b τ1 fun y τ2 => ∃ m, Fz y (.im (rT G.K A) m) ∧ l.length + m.length < 100000 ∧ k (.im (rT G.K A) (l ++ m)) τ2) : E X (.BinOp a .Add b pos) τ k :=
  E.of (pe_op op_catA pe_sem pe_sem) (w_op (A := rT G.K A) (B := rT G.K A) (k1 := k) (h.mono fun x τ1 ⟨l, fz, hb⟩ => ⟨l, fz, hb.mono fun y τ2 ⟨m, fz', hz, hk⟩ => ⟨m, fz', fun σ H F R0 R Q v u ok r1 r2 q => by
    obtain ⟨pa, xs, e1, h1, hp1⟩ := r1
    obtain ⟨pb, ys, e2, h2, hp2⟩ := r2
    have l1 := PySem.Paired.length hp1
    have l2 := PySem.Paired.length hp2
    refine ⟨pa, pb, xs, ys, e1, e2, by rw [hX.eK]; exact ok.le.sqT h1, by rw [hX.eK]; exact ok.le.sqT h2, by rw [sizeLine_eq, l1, l2]; omega, fun z => ?_, fun z z2 => ?_, fun z z2 p hp => ?_⟩
    · subst z; cases hp1
      exact q _ τ2 _ R H hk (Le.refl R) ok (VOk.im ⟨pb, ys, rfl, h2, hp2⟩)
    · subst z2; cases hp2
      rw [List.append_nil] at hk
      exact q _ τ2 _ R H hk (Le.refl R) ok (VOk.im ⟨pa, xs, rfl, h1, hp1⟩)
    · obtain ⟨hR, hF, ho⟩ := ok.fresh hp
      have happ : ∀ {xs ys : List V} {l m : List α}, Paired (A.rel R) xs l → Paired (A.rel R) ys m → Paired (A.rel R) (xs ++ ys) (l ++ m) := by
        intro xs ys l m h1 h2
        induction h1 with
        | nil => exact h2
        | cons r t ih => exact .cons r ih
      exact q _ τ2 _ _ _ hk (Le.upd hR) (ok.lay hp) (VOk.im ⟨p, _, rfl, .inl (.inl upd_same), paired_up A (Le.upd hR) (happ hp1 hp2)⟩)⟩⟩))
/-- name[e] = v, the name's list still its own -/
theorem S1_setL {j : Nat} {x : Str} {α : Type} {A : DR α} {q : Addr} {pos' : Pos} (hX : XF G X N sc n) (hN : N[j]? = some x) (hv : Vis sc x)
    (h : E X c τ fun z τ1 => ∃ w, Fz z (.im A w) ∧ ∃ d0, τ1[j]? = some (.ow q (cL A) d0) ∧ E X b τ1 fun y τ2 => ∃ i, Fz y (.im rI i) ∧ ∃ l m, τ2[j]? = some (.ow q (cL A) l) ∧ ixN l.length i = some m ∧ P.nx (τ2.set j (.ow q (cL A) (l.set m w))))
    (hs : swapsWithSole [.Subscript (.Name x p) b pos'] c pos.line X.env = pure false := by rfl) (hw : swappedStores [.Subscript (.Name x p) b pos'] c X.env = pure none := by rfl)
    (h1 : (assignEach [.Subscript (.Name x p) b pos'] X.env).map (·.2) = [assign (.Subscript (.Name x p) b pos') X.env] := by rfl)
    (ha : ∀ v, assign (.Subscript (.Name x p) b pos') X.env v = (do
      let ov ← holding [v] (eval (.Name x p) X.env)
      let iv ← holding [v, ov] (eval b X.env)
      standAt pos'
      holding [v, ov, iv] (setItem ov iv v)
      release [v, ov, iv] []) := by intro _; rfl) (hd : (x == ("__debug__" : Str)) = false := by decide) (hcd : (x == ("__classdict__" : Str)) = false := by decide) :
    S1 X (.Assign [.Subscript (.Name x p) b pos'] c pos) τ P :=
  S1.of (ps_asg pe_sem (pg_sub (pn hX hN hv hd hcd) pe_sem set_list ha) hs hw h1) fun σ H F R0 R D ok qq => h σ H F R0 R _ ok fun z τ1 v R1 H1 ⟨w, fz, d0, ht0, hb⟩ l1 ok1 w1 => by
    obtain ⟨R2, l2, ok2, r2⟩ := fz_rel ok1 w1 fz
    obtain ⟨hs0, _⟩ := ok2.cell ht0
    refine ⟨.ref q, hs0, ?_⟩
    refine hb σ H1 F R0 R2 _ ok2 fun y τ2 u R3 H3 ⟨i, fz', l, m, ht, hi, hk⟩ l3 ok3 w3 => ?_
    obtain ⟨R4, l4, ok4, r4⟩ := fz_rel ok3 w3 fz'
    cases r4
    obtain ⟨hs', hR, hF, o, hH, xs, eo, hp⟩ := ok4.cell ht
    subst eo
    refine ⟨q, xs, i, m, rfl, rfl, hH, by rw [PySem.Paired.length hp]; exact hi, ?_⟩
    have hset : ∀ {xs : List V} {l : List α} (m : Nat), Paired (A.rel R4) xs l → Paired (A.rel R4) (xs.set m v) (l.set m w) := by
      intro xs l m hp
      induction hp generalizing m with
      | nil => exact .nil
      | cons r t ih => cases m with
        | zero => exact .cons (A.up (l3.trans l4) r2) t
        | succ m => exact .cons r (ih m)
    exact qq.nx _ σ R4 _ hk ((l1.trans l2).trans (l3.trans l4)) (ok4.write ht ⟨_, rfl, hset m hp⟩)
/-! ### built-ins -/
theorem E_len (hX : XF G X N sc n) (hg : sc.names.lookup ("len" : Str) = some .globalImplicit) (hm : G.mg ("len" : Str) = none) (hs : noStar [e] = true)
    (h : T.P X e τ fun pl τ1 => ∃ x m, pl.kd τ1 = some x ∧ LenOf G.K x m ∧ k (.im rI (m : Int)) τ1) : E X (.Call (.Name "len" p) [e] [] pos) τ k :=
  E.of (pe_callB (call_len.or call_lenR) (hX.gl hg) (hX.mgN hm) boot_lenB (pa1 hs) (he := star_of hs _ _ (List.suffix_refl _))) fun σ H F R0 R Q ok q =>
    h σ H F R0 R _ ok fun pl τ1 v R1 H1 ⟨x, m, ex, hl, hk⟩ l1 ok1 at1 => by
      have fin : Q (.int (m : Int)) H1 := q _ τ1 _ R1 H1 hk l1 ok1 (VOk.im rfl)
      rcases hl R1 H1 v ok1.le (Pl.rel ok1 at1 ex) with h1 | ⟨pa, kvs, e1, h2, h3⟩
      · exact .inl ⟨v, m, rfl, by rw [hX.eK]; exact h1, fin⟩
      · subst h3
        exact .inr ⟨pa, kvs, by rw [e1], h2, fin⟩
theorem E_abs (hX : XF G X N sc n) (hg : sc.names.lookup ("abs" : Str) = some .globalImplicit) (hm : G.mg ("abs" : Str) = none) (hs : noStar [e] = true)
    (h : E X e τ fun x τ1 => ∃ i, Fz x (.im rI i) ∧ k (.im rI (i.natAbs : Int)) τ1) : E X (.Call (.Name "abs" p) [e] [] pos) τ k :=
  E.of (pe_callB call_abs (hX.gl hg) (hX.mgN hm) boot_absB (pa1 hs) (he := star_of hs _ _ (List.suffix_refl _))) fun σ H F R0 R Q ok q =>
    h σ H F R0 R _ ok fun x τ1 v R1 H1 ⟨i, fz, hk⟩ l1 ok1 w1 => by
      obtain ⟨R2, l2, ok2, r⟩ := fz_rel ok1 w1 fz
      cases r
      have e1 : (if i < 0 then -i else i) = (i.natAbs : Int) := by split <;> omega
      exact ⟨i, rfl, by rw [e1]; exact q _ τ1 _ R2 H1 hk (l1.trans l2) ok2 (VOk.im rfl)⟩
/-- int(..) of an int -/
theorem E_int1 (hX : XF G X N sc n) (hg : sc.names.lookup ("int" : Str) = some .globalImplicit) (hm : G.mg ("int" : Str) = none) (hs : noStar [e] = true)
    (h : E X e τ fun x τ1 => ∃ i, Fz x (.im rI i) ∧ k (.im rI i) τ1) : E X (.Call (.Name "int" p) [e] [] pos) τ k :=
  E.of (pe_callTy call_int1 (hX.gl hg) (hX.mgN hm) boot_intB (pa1 hs) (he := star_of hs _ _ (List.suffix_refl _))) fun σ H F R0 R Q ok q =>
    h σ H F R0 R _ ok fun x τ1 v R1 H1 ⟨i, fz, hk⟩ l1 ok1 w1 => by
      obtain ⟨R2, l2, ok2, r⟩ := fz_rel ok1 w1 fz
      cases r
      exact .inl ⟨i, rfl, q _ τ1 _ R2 H1 hk (l1.trans l2) ok2 (VOk.im rfl)⟩
/-- int(..) of a truth value -/
theorem E_intB (hX : XF G X N sc n) (hg : sc.names.lookup ("int" : Str) = some .globalImplicit) (hm : G.mg ("int" : Str) = none) (hs : noStar [e] = true)
    (h : E X e τ fun x τ1 => ∃ c, Fz x (.im rB c) ∧ k (.im rI (if c then 1 else 0)) τ1) : E X (.Call (.Name "int" p) [e] [] pos) τ k :=
  E.of (pe_callTy call_int1 (hX.gl hg) (hX.mgN hm) boot_intB (pa1 hs) (he := star_of hs _ _ (List.suffix_refl _))) fun σ H F R0 R Q ok q =>
    h σ H F R0 R _ ok fun x τ1 v R1 H1 ⟨i, fz, hk⟩ l1 ok1 w1 => by
      obtain ⟨R2, l2, ok2, r⟩ := fz_rel ok1 w1 fz
      cases r
      exact .inr ⟨i, rfl, q _ τ1 _ R2 H1 hk (l1.trans l2) ok2 (VOk.im rfl)⟩
/-- list(..) of a list, of a tuple: a new one -/
theorem E_list {α : Type} (A : DR α) (hX : XF G X N sc n) (hg : sc.names.lookup ("list" : Str) = some .globalImplicit) (hm : G.mg ("list" : Str) = none) (hs : noStar [e] = true)
    (h : E X e τ fun x τ1 => ∃ l, (Fz x (.im (rL G.K A) l) ∨ Fz x (.im (rT G.K A) l) ∨ Fz x (.im (rLT G.K A) l)) ∧ ∀ p, k (.ow p (cL A) l) τ1) : E X (.Call (.Name "list" p) [e] [] pos) τ k :=
  E.of (pe_callTy call_list_of (hX.gl hg) (hX.mgN hm) boot_listB (pa1 hs) (he := star_of hs _ _ (List.suffix_refl _))) fun σ H F R0 R Q ok q =>
    h σ H F R0 R _ ok fun x τ1 v R1 H1 ⟨l, fz, hk⟩ l1 ok1 w1 => by
      have key : ∃ R2, Le R1 R2 ∧ Ok F R0 R2 H1 σ τ1 ∧ ∃ pa xs, v = .ref pa ∧ (SqL G.K H1 pa xs ∨ SqT G.K H1 pa xs) ∧ Paired (A.rel R2) xs l := by
        have ofL : ∀ R2, Ok F R0 R2 H1 σ τ1 → (rL G.K A).rel R2 v l → ∃ pa xs, v = .ref pa ∧ (SqL G.K H1 pa xs ∨ SqT G.K H1 pa xs) ∧ Paired (A.rel R2) xs l := fun R2 ok2 ⟨pa, xs, e1, h1, hp⟩ => ⟨pa, xs, e1, .inl (.inl (ok2.le.rd h1)), hp⟩
        have ofT : ∀ R2, Ok F R0 R2 H1 σ τ1 → (rT G.K A).rel R2 v l → ∃ pa xs, v = .ref pa ∧ (SqL G.K H1 pa xs ∨ SqT G.K H1 pa xs) ∧ Paired (A.rel R2) xs l := fun R2 ok2 ⟨pa, xs, e1, h1, hp⟩ => ⟨pa, xs, e1, .inr (ok2.le.sqT h1), hp⟩
        rcases fz with fz | fz | fz
        · obtain ⟨R2, l2, ok2, r⟩ := fz_rel ok1 w1 fz; exact ⟨R2, l2, ok2, ofL R2 ok2 r⟩
        · obtain ⟨R2, l2, ok2, r⟩ := fz_rel ok1 w1 fz; exact ⟨R2, l2, ok2, ofT R2 ok2 r⟩
        · obtain ⟨R2, l2, ok2, r⟩ := fz_rel ok1 w1 fz
          exact ⟨R2, l2, ok2, r.elim (ofL R2 ok2) (ofT R2 ok2)⟩
      obtain ⟨R2, l2, ok2, pa, xs, e1, h1, hp⟩ := key
      refine ⟨pa, xs, by rw [e1], by rw [hX.eK]; exact h1, fun p hp' => ?_⟩
      obtain ⟨hR, hF, ho⟩ := ok2.fresh hp'
      exact q _ τ1 _ R2 _ (hk p) (l1.trans l2) (ok2.new hp') ⟨⟨rfl, hR, _, upd_same, xs, rfl, hp⟩, fun p' z => by cases z; exact ⟨hF, ho⟩⟩
/-- tuple(..) of a list, of a tuple -/
theorem E_tuple {α : Type} (A : DR α) (hX : XF G X N sc n) (hg : sc.names.lookup ("tuple" : Str) = some .globalImplicit) (hm : G.mg ("tuple" : Str) = none) (hs : noStar [e] = true)
    (h : E X e τ fun x τ1 => ∃ l, (Fz x (.im (rL G.K A) l) ∨ Fz x (.im (rT G.K A) l) ∨ Fz x (.im (rLT G.K A) l)) ∧ k (.im (rT G.K A) l) τ1) : E X (.Call (.Name "tuple" p) [e] [] pos) τ k :=
  E.of (pe_callTy call_tuple_of (hX.gl hg) (hX.mgN hm) boot_tupleB (pa1 hs) (he := star_of hs _ _ (List.suffix_refl _))) fun σ H F R0 R Q ok q =>
    h σ H F R0 R _ ok fun x τ1 v R1 H1 ⟨l, fz, hk⟩ l1 ok1 w1 => by
      have ofL : ∀ R2, Le R1 R2 → Ok F R0 R2 H1 σ τ1 → (rL G.K A).rel R2 v l → ∃ pa ys, [v] = [V.ref pa] ∧ ((SqL X.K H1 pa ys ∧ ∀ l, H1 l = none → Q (.ref l) (upd H1 l (.tup ys))) ∨ (SqT X.K H1 pa ys ∧ Q (.ref pa) H1)) := fun R2 l2 ok2 ⟨pa, xs, e1, h1, hp⟩ =>
        ⟨pa, xs, by rw [e1], .inl ⟨.inl (ok2.le.rd h1), fun p hp' => by
          obtain ⟨hR, hF, ho⟩ := ok2.fresh hp'
          exact q _ τ1 _ _ _ hk ((l1.trans l2).trans (Le.upd hR)) (ok2.lay hp') (VOk.im ⟨p, xs, rfl, .inl (.inl upd_same), paired_up A (Le.upd hR) hp⟩)⟩⟩
      have ofT : ∀ R2, Le R1 R2 → Ok F R0 R2 H1 σ τ1 → (rT G.K A).rel R2 v l → ∃ pa ys, [v] = [V.ref pa] ∧ ((SqL X.K H1 pa ys ∧ ∀ l, H1 l = none → Q (.ref l) (upd H1 l (.tup ys))) ∨ (SqT X.K H1 pa ys ∧ Q (.ref pa) H1)) := fun R2 l2 ok2 ⟨pa, xs, e1, h1, hp⟩ =>
        ⟨pa, xs, by rw [e1], .inr ⟨by rw [hX.eK]; exact ok2.le.sqT h1, q _ τ1 _ R2 H1 hk (l1.trans l2) ok2 (VOk.im ⟨pa, xs, rfl, h1, hp⟩)⟩⟩
      rcases fz with fz | fz | fz
      · obtain ⟨R2, l2, ok2, r⟩ := fz_rel ok1 w1 fz; exact ofL R2 l2 ok2 r
      · obtain ⟨R2, l2, ok2, r⟩ := fz_rel ok1 w1 fz; exact ofT R2 l2 ok2 r
      · obtain ⟨R2, l2, ok2, r⟩ := fz_rel ok1 w1 fz
        exact r.elim (ofL R2 l2 ok2) (ofT R2 l2 ok2)
theorem E_gcd (hX : XF G X N sc n) (hg : sc.names.lookup ("gcd" : Str) = some .globalImplicit) (hm : G.mg ("gcd" : Str) = some (.builtin "math.gcd")) (hs : noStar [a, b] = true)
    (h : E X a τ fun x τ1 => ∃ i, Fz x (.im rI i) ∧ E X b τ1 fun y τ2 => ∃ j, Fz y (.im rI j) ∧ k (.im rI ((Nat.gcd i.natAbs j.natAbs : Nat) : Int)) τ2) : E X (.Call (.Name "gcd" p) [a, b] [] pos) τ k := by
  have st := star_of (env := X.env) hs
  have st2 := st b [] (List.suffix_cons _ _)
  refine E.of (pe_callBfun cr_gcd (hX.gl hg) (hX.mgN hm) (pa_cons pe_sem (pa_cons pe_sem pa_nil st2) (st a [b] (List.suffix_refl _))) (he := st a [b] (List.suffix_refl _)) (hpl := by rw [st2]; rfl)) fun σ H F R0 R Q ok q => h σ H F R0 R _ ok fun x τ1 v R1 H1 ⟨i, fz, hb⟩ l1 ok1 w1 => ?_
  obtain ⟨R2, l2, ok2, r⟩ := fz_rel ok1 w1 fz
  cases r
  refine hb σ H1 F R0 R2 _ ok2 fun y τ2 u R3 H3 ⟨j, fz', hk⟩ l3 ok3 w3 => ?_
  obtain ⟨R4, l4, ok4, r'⟩ := fz_rel ok3 w3 fz'
  cases r'
  exact ⟨i, j, rfl, q _ τ2 _ R4 H3 hk ((l1.trans l2).trans (l3.trans l4)) ok4 (VOk.im rfl)⟩
theorem E_lcm (hX : XF G X N sc n) (hg : sc.names.lookup ("lcm" : Str) = some .globalImplicit) (hm : G.mg ("lcm" : Str) = some (.builtin "math.lcm")) (hs : noStar [a, b] = true)
    (h : E X a τ fun x τ1 => ∃ i, Fz x (.im rI i) ∧ E X b τ1 fun y τ2 => ∃ j, Fz y (.im rI j) ∧ i.natAbs < 2 ^ 4000 ∧ j.natAbs < 2 ^ 4000 ∧ k (.im rI ((Nat.lcm i.natAbs j.natAbs : Nat) : Int)) τ2) : E X (.Call (.Name "lcm" p) [a, b] [] pos) τ k := by
  have st := star_of (env := X.env) hs
  have st2 := st b [] (List.suffix_cons _ _)
  refine E.of (pe_callBfun cr_lcm (hX.gl hg) (hX.mgN hm) (pa_cons pe_sem (pa_cons pe_sem pa_nil st2) (st a [b] (List.suffix_refl _))) (he := st a [b] (List.suffix_refl _)) (hpl := by rw [st2]; rfl)) fun σ H F R0 R Q ok q => h σ H F R0 R _ ok fun x τ1 v R1 H1 ⟨i, fz, hb⟩ l1 ok1 w1 => ?_
  obtain ⟨R2, l2, ok2, r⟩ := fz_rel ok1 w1 fz
  cases r
  refine hb σ H1 F R0 R2 _ ok2 fun y τ2 u R3 H3 ⟨j, fz', h1, h2, hk⟩ l3 ok3 w3 => ?_
  obtain ⟨R4, l4, ok4, r'⟩ := fz_rel ok3 w3 fz'
  cases r'
  exact ⟨i, j, rfl, h1, h2, q _ τ2 _ R4 H3 hk ((l1.trans l2).trans (l3.trans l4)) ok4 (VOk.im rfl)⟩
/-- sorted(d): the keys, ascending -/
theorem E_sortedD {β : Type} (B : DR β) (hX : XF G X N sc n) (hg : sc.names.lookup ("sorted" : Str) = some .globalImplicit) (hm : G.mg ("sorted" : Str) = none) (hs : noStar [e] = true)
    (h : T.P X e τ fun pl τ1 => ∃ x d, pl.kd τ1 = some x ∧ DOf x B d ∧ d.length < 64 ∧ ∀ (ys : List Int) p, ys.Perm (d.map (·.1)) → ys.Pairwise (· ≤ ·) → k (.ow p (cL rI) ys) τ1) : E X (.Call (.Name "sorted" p) [e] [] pos) τ k :=
  E.of (pe_callB (call_sortedDI hX.calm) (hX.gl hg) (hX.mgN hm) boot_sortedB (pa1 hs) (he := star_of hs _ _ (List.suffix_refl _))) fun σ H F R0 R Q ok q =>
    h σ H F R0 R _ ok fun pl τ1 v R1 H1 ⟨x, d, ex, hd, hz, hk⟩ l1 ok1 at1 => by
      obtain ⟨pa, kvs, e1, h1, h2⟩ := hd R1 H1 v ok1.le (Pl.rel ok1 at1 ex)
      have hkeys : ∀ {kvs : List (Key × V)} {d : List (Int × β)}, KVs B R1 kvs d → kvs.map (·.1) = (d.map (·.1)).map Sum.inl := by
        intro kvs d h
        unfold KVs at h
        induction h with
        | nil => rfl
        | cons r t ih => rw [List.map_cons, List.map_cons, List.map_cons, ih, r.1]
      refine ⟨pa, kvs, d.map (·.1), by rw [e1], h1, hkeys h2, by rw [List.length_map]; exact hz, fun ys p hp hs' hpn => ?_⟩
      obtain ⟨hR, hF, ho⟩ := ok1.fresh hpn
      have hints : ∀ ys : List Int, Paired (rI.rel R1) (ys.map V.int) ys := by
        intro ys
        induction ys with
        | nil => exact .nil
        | cons y ys ih => exact .cons rfl ih
      exact q _ τ1 _ R1 _ (hk ys p hp hs') l1 (ok1.new hpn) ⟨⟨rfl, hR, _, upd_same, _, rfl, hints ys⟩, fun p' z => by cases z; exact ⟨hF, ho⟩⟩
/-! ### isinstance -/
/-- the built-in type of such data -/
def TyD (K : PySem.W.Frag) (x : Kd) (t : String) : Prop := ∀ R H v, LeR R H → x.rel R H v → TyX K H v (.type t)
theorem ty_I {K : PySem.W.Frag} {i : Int} : TyD K (.im rI i) "int" := fun R H v l h => by cases h; exact .base (.int i)
theorem ty_B {K : PySem.W.Frag} {i : Bool} : TyD K (.im rB i) "bool" := fun R H v l h => by cases h; exact .base (.bl i)
theorem ty_S {K : PySem.W.Frag} {i : Str} : TyD K (.im rS i) "str" := fun R H v l h => by cases h; exact .base (.str i)
theorem ty_N {K : PySem.W.Frag} : TyD K (.im rN ()) "NoneType" := fun R H v l h => by cases h; exact .base .non
theorem ty_sqT {K : PySem.W.Frag} {H : Hp} {p : Addr} {xs : List V} (h : SqT K H p xs) : TyX K H (.ref p) (.type "tuple") := by
  rcases h with (h | ⟨o, h⟩) | ⟨o, its, m, h1, h2, _⟩
  · exact .base (.tup h)
  · exact .fTuple h
  · exact .kTuple h1 h2
theorem ty_rd {K : PySem.W.Frag} {H : Hp} {p : Addr} {xs : List V} (h : Rd H p (.lst xs)) : TyX K H (.ref p) (.type "list") := by
  rcases h with h | ⟨o, h⟩
  · exact .base (.lst h)
  · exact .base (.frz h)
theorem ty_T {K : PySem.W.Frag} {α : Type} {A : DR α} {l : List α} : TyD K (.im (rT K A) l) "tuple" := fun R H v le ⟨p, xs, e, h, _⟩ => by subst e; exact ty_sqT (le.sqT h)
theorem ty_P {K : PySem.W.Frag} {α β : Type} {A : DR α} {B : DR β} {q : α × β} : TyD K (.im (rPair K A B) q) "tuple" := fun R H v le ⟨p, x, y, e, h, _⟩ => by subst e; exact ty_sqT (le.sqT h)
theorem ty_Q {K : PySem.W.Frag} {q : Rat} : TyD K (.im (rQ K) q) "tuple" := fun R H v le ⟨p, e, h⟩ => by subst e; exact ty_sqT (le.sqT h)
theorem ty_L {K : PySem.W.Frag} {α : Type} {A : DR α} {l : List α} : TyD K (.im (rL K A) l) "list" := fun R H v le ⟨p, xs, e, h, _⟩ => by subst e; exact ty_rd (le.rd h)
theorem E_isi {T0 : Str} {Tn : String} (hX : XF G X N sc n) (hg : sc.names.lookup ("isinstance" : Str) = some .globalImplicit) (hm : G.mg ("isinstance" : Str) = none) (hgT : sc.names.lookup T0 = some .globalImplicit) (hmT : G.mg T0 = none) (hbT : bootBuiltins T0 = some (.type Tn))
    {p2 : Pos} (hs : noStar [a] = true) (h : E X a τ fun x τ1 => ∃ y t c, Fz x y ∧ TyD G.K y t ∧ kitB t Tn = some c ∧ k (.im rB c) τ1) (hn : T0 ≠ "__name__" := by decide) (hd : (T0 == ("__debug__" : Str)) = false := by decide) :
    E X (.Call (.Name "isinstance" p) [a, .Name T0 p2] [] pos) τ k := by
  have st1 : starEach [a, .Name T0 p2] X.env = (false, eval a X.env) :: starEach [.Name T0 p2] X.env := by cases a <;> first | rfl | (simp [noStar] at hs)
  refine E.of (pe_callB call_isi (hX.gl hg) (hX.mgN hm) boot_isiB (pa_cons pe_sem (pa_cons (pe_bltn (v := .ty Tn) (hX.gl hgT) (hX.mgN hmT) hbT rfl hn hd) pa_nil) st1) (he := st1)) fun σ H F R0 R Q ok q => h σ H F R0 R _ ok fun x τ1 v R1 H1 ⟨y, t, c, fz, ht, hk, hkk⟩ l1 ok1 w1 => ?_
  obtain ⟨R2, l2, ok2, r, _⟩ := VOk.freeze ok1 w1 fz
  exact ⟨v, .ty Tn, .type t, .type Tn, c, rfl, .ty Tn, by rw [hX.eK]; exact ht R2 H1 v ok2.le r, by rw [hX.eK]; exact kit_ty hk, q _ τ1 _ R2 H1 hkk (l1.trans l2) ok2 (VOk.im rfl)⟩
end
/-! ### a def of the text -/
/-- the slots at a def's start -/
def tau0 (N : List Str) (ks : List Kd) : Tau := ks ++ List.replicate (N.length - ks.length) .no
theorem Ok.start {F R0 R H : Hp} {vs : List V} {ks : List Kd} (N : List Str) (ok : Ok F R0 R H (vs.map some) ks) : Ok F R0 R H (L2.start N vs) (tau0 N ks) := by
  have hl : vs.length = ks.length := by have := ok.len; rwa [List.length_map] at this
  have get : ∀ (i : Nat) x, (tau0 N ks)[i]? = some x → (ks[i]? = some x ∧ (L2.start N vs)[i]? = (vs.map some)[i]?) ∨ x = .no := fun i x e => by
    unfold tau0 at e
    by_cases hi : i < ks.length
    · rw [List.getElem?_append_left hi] at e
      refine .inl ⟨e, ?_⟩
      unfold L2.start
      rw [List.getElem?_append_left (by rw [List.length_map, hl]; exact hi)]
    · rw [List.getElem?_append_right (by omega)] at e
      right
      obtain ⟨_, e⟩ := List.getElem?_eq_some_iff.mp e
      rw [List.getElem_replicate] at e
      exact e.symm
  refine ⟨?_, ok.fr, ok.le, ok.r0, ok.nw, fun i x e => ?_, fun i x p e o => ?_, fun i j x y p e1 e2 o1 o2 => ?_, ok.nt⟩
  · unfold L2.start tau0
    rw [List.length_append, List.length_append, List.length_map, List.length_replicate, List.length_replicate, hl]
  · rcases get i x e with ⟨h1, h2⟩ | h
    · have := ok.sl i x h1
      unfold L2.St at *
      rw [h2]; exact this
    · exact .inl h
  · rcases get i x e with ⟨h1, h2⟩ | h
    · exact ok.ff i x p h1 o
    · subst h; exact o.elim
  · rcases get i x e1 with ⟨h1, _⟩ | h
    · rcases get j y e2 with ⟨h3, _⟩ | h'
      · exact ok.inj i j x y p h1 h3 o1 o2
      · subst h'; exact o2.elim
    · subst h; exact o1.elim
/-- what a def's end must show: the arguments' cells are still tracked, in some slot -/
def Fin (ks : List Kd) (k : Kd → List Kd → Prop) (x : Kd) (τ : Tau) : Prop := ∃ ks', k x ks' ∧ ks'.length = ks.length ∧ ∀ (i : Nat) y', ks'[i]? = some y' → y' = .no ∨ (∃ (j : Nat), τ[j]? = some y') ∧ ∃ y q, ks[i]? = some y ∧ owns y q ∧ owns y' q
theorem fin_no {ks : List Kd} {k : Kd → List Kd → Prop} {x : Kd} {τ : Tau} (h : k x (List.replicate ks.length .no)) : Fin ks k x τ := ⟨_, h, by simp, fun i y e => by
  obtain ⟨_, e⟩ := List.getElem?_eq_some_iff.mp e
  rw [List.getElem_replicate] at e
  exact .inl e.symm⟩
theorem Ok.finish {F R0 R R' H H' : Hp} {vs : List V} {ks : List Kd} {σ' : L2.St} {τ' : Tau} {ks' : List Kd} (ok : Ok F R0 R H (vs.map some) ks) (ok' : Ok F R0 R' H' σ' τ') (hl : ks'.length = ks.length)
    (h : ∀ (i : Nat) y', ks'[i]? = some y' → y' = .no ∨ (∃ (j : Nat), τ'[j]? = some y') ∧ ∃ y q, ks[i]? = some y ∧ owns y q ∧ owns y' q) : Ok F R0 R' H' (vs.map some) ks' := by
  have same : ∀ {y : Kd} {q q' : Addr}, owns y q → owns y q' → q = q' := fun {y q q'} h1 h2 => by
    cases y with
    | no => exact h1.elim
    | im => exact h1.elim
    | ow r C c => exact (show r = q from h1).symm.trans h2
  refine ⟨by rw [hl]; exact ok.len, ok'.fr, ok'.le, ok'.r0, ok'.nw, fun i y' e => ?_, fun i y' p e o => ?_, fun i j x y p e1 e2 o1 o2 => ?_, ok'.nt⟩
  · rcases h i y' e with z | ⟨⟨j, ej⟩, y, q, ey, oy, oy'⟩
    · exact .inl z
    · rcases ok'.sl j y' ej with z | ⟨v, hv, r⟩
      · exact .inl z
      · rcases ok.sl i y ey with z | ⟨u, hu, r0⟩
        · subst z; exact oy.elim
        · refine .inr ⟨u, hu, ?_⟩
          cases y with
          | no => exact oy.elim
          | im => exact oy.elim
          | ow q1 C c =>
            cases y' with
            | no => exact oy'.elim
            | im => exact oy'.elim
            | ow q2 C' c' =>
              obtain ⟨a1, _⟩ := r0
              obtain ⟨b1, b2, b3⟩ := r
              have e1 : q1 = q := oy
              have e2 : q2 = q := oy'
              refine ⟨?_, b2, b3⟩
              rw [a1, e1, e2]
  · rcases h i y' e with z | ⟨⟨j, ej⟩, _⟩
    · subst z; exact o.elim
    · exact ok'.ff j y' p ej o
  · rcases h i x e1 with z | ⟨_, x0, q1, ex, ox, ox'⟩
    · subst z; exact o1.elim
    · rcases h j y e2 with z | ⟨_, y0, q2, ey, oy, oy'⟩
      · subst z; exact o2.elim
      · have a1 := same o1 ox'
        have a2 := same o2 oy'
        subst a1
        subst a2
        exact ok.inj i j x0 y0 p ex ey ox oy
/-- THE RULE for a def that raises nothing: its body on kinds -/
theorem Fn.of {G : Gm} {x qual : Str} {st : Stmt} {f : Addr} {fd : FuncData} {N ps : List Str} {m : Nat} {C : Ct} (F : Fun G.K x qual st f fd) (hf : G.mg x = some (.ref f)) (b : Binds G.K fd ps []) (S0 : FnScope N ps (defScope st)) (len : ∀ ks k, C ks k → ks.length = ps.length)
    (body : ∀ (X : Cx), XF G X N (defScope st) m → (∀ x, X.fn x = true) → PassesOwn (model X.prog X.w) X.A X.env X.xe → ∀ ks k, C ks k → S X (defBody st) (tau0 N ks) { nx := fun τ => Fin ks k (.im rN ()) τ, rt := Fin ks k }) (hps : (defArgs st).args.map (·.arg) = ps := by rfl) : Fn G x (m + 1) C := by
  have hl : Lk G.K f fd ps := by
    obtain ⟨oc, od, kV, doc, pm, an, cdv, ct, osl, rfl, lk, _⟩ := F.ex
    exact ⟨⟨oc, od, osl, lk⟩, hps⟩
  refine ⟨⟨f, fd, ps, hf, F.kp, b, F.ok S0 (fun vs H Q E h => ?_) fun cdv A outer s H vs Q E hr h => ?_, hl⟩⟩
  · obtain ⟨F0, R0, R, ks, k, ok, hC, _⟩ := h
    have := ok.len
    rw [List.length_map] at this
    rw [this, len ks k hC]
  · obtain ⟨F0, R0, R, ks, k, ok, hC, hq⟩ := h
    refine ⟨_, pss_sem, ?_⟩
    have hX : XF G (cxOf CX0 G.P G.w G.K G.mg G.base N qual (defScope st) f cdv A outer s H E).nox N (defScope st) m := ⟨rfl, rfl, rfl, rfl, rfl, rfl, rfl, rfl, hr, S0.nd⟩
    refine body _ hX (fun _ => rfl) PassesOwn.never ks k hC (L2.start N vs) H F0 R0 R _ (ok.start N) ⟨?_, ?_, fun _ _ _ _ z => z.elim, fun _ _ _ _ z => z.elim⟩
    · rintro τ' σ' R' H' ⟨ks', hk, hl, hs⟩ l ok'
      exact hq _ ks' .non R' H' hk l (ok.finish ok' hl hs) (VOk.im rfl)
    · rintro x τ' v σ' R' H' ⟨ks', hk, hl, hs⟩ l ok' w
      refine hq x ks' v R' H' hk l (ok.finish ok' hl hs) ⟨w.rel, fun p o => ⟨(w.own p o).1, fun i y e oy => ?_⟩⟩
      rcases hs i y e with z | ⟨⟨j, ej⟩, _⟩
      · subst z; exact oy
      · exact (w.own p o).2 j y ej oy
end T
end
section
set_option Elab.async false
set_option linter.all false
set_option autoImplicit false
set_option maxRecDepth 100000
set_option maxHeartbeats 2000000
namespace T
open PySem PySem.Spec PyProof.Rows L2

/-! ### several values held at once -/
inductive VAll (F R H : Hp) (τ : Tau) : List V → List Kd → Prop
  | nil : VAll F R H τ [] []
  | cons {v : V} {y : Kd} {vs : List V} {ys : List Kd} (w : VOk F R H τ v y) (d : ∀ p, owns y p → ∀ z ∈ ys, ¬ owns z p) (t : VAll F R H τ vs ys) : VAll F R H τ (v :: vs) (y :: ys)
theorem VAll.mem {F R H : Hp} {τ : Tau} {vs : List V} {ys : List Kd} (h : VAll F R H τ vs ys) : ∀ z ∈ ys, ∃ v, VOk F R H τ v z := by
  induction h with
  | nil => intro z hz; cases hz
  | cons w _ _ ih =>
    intro z hz
    rcases List.mem_cons.mp hz with e | e
    · subst e; exact ⟨_, w⟩
    · exact ih z e
theorem VAll.drop {F R H : Hp} {τ : Tau} {D : Addr} {u : HO} (hF : F D = none) {vs : List V} {ys : List Kd} (h : VAll (upd F D u) R H τ vs ys) : VAll F R H τ vs ys := by
  induction h with
  | nil => exact .nil
  | cons w d _ ih => exact .cons (w.drop hF) d ih
theorem VOk.after {F R H : Hp} {τ : Tau} {u : V} {x y : Kd} (w : VOk F R H τ u y) (i : Nat) (d : ∀ p, owns x p → ¬ owns y p) : VOk F R H (τ.set i x) u y := ⟨w.rel, fun p o => ⟨(w.own p o).1, fun j k e ok => by
  by_cases hj : i = j
  · subst hj
    by_cases hl : i < τ.length
    · rw [List.getElem?_set_self hl] at e; cases e; exact d p ok o
    · rw [List.getElem?_eq_none (by simpa using hl)] at e; cases e
  · rw [List.getElem?_set_ne hj] at e
    exact (w.own p o).2 j k e ok⟩⟩
def Vs (X : Cx) : List Expr → Tau → (List Kd → Tau → Prop) → Prop
  | [], τ, k => k [] τ
  | e :: es, τ, k => E X e τ fun x τ1 => Vs X es τ1 fun ys τ2 => k (x :: ys) τ2
theorem Vs.run {X : Cx} : ∀ {es : List Expr} {τ : Tau} {k : List Kd → Tau → Prop}, Vs X es τ k → ∀ (σ : L2.St) (H F R0 R : Hp) (Q : List V → Hp → Prop), Ok F R0 R H σ τ →
    (∀ ys τ' vs R' H', k ys τ' → Le R R' → Ok F R0 R' H' σ τ' → VAll F R' H' τ' vs ys → Q vs H') → tAll X es σ H Q
  | [], τ, k, h, σ, H, F, R0, R, Q, ok, q => q [] τ [] R H h (Le.refl R) ok .nil
  | e :: es, τ, k, h, σ, H, F, R0, R, Q, ok, q => h σ H F R0 R _ ok fun x τ1 v R1 H1 h1 l1 ok1 w1 => by
    cases x with
    | no => exact Vs.run h1 σ H1 F R0 R1 _ ok1 fun ys τ2 vs R2 H2 hk l2 ok2 hv => q _ τ2 (v :: vs) R2 H2 hk (l1.trans l2) ok2 (.cons ⟨trivial, fun _ o => o.elim⟩ (fun _ o => o.elim) hv)
    | im A a => exact Vs.run h1 σ H1 F R0 R1 _ ok1 fun ys τ2 vs R2 H2 hk l2 ok2 hv => q _ τ2 (v :: vs) R2 H2 hk (l1.trans l2) ok2 (.cons (VOk.im (A.up l2 w1.rel)) (fun _ o => o.elim) hv)
    | ow p C c =>
      obtain ⟨e1, e2, o, e3, e4⟩ := w1.rel
      obtain ⟨hF, hn⟩ := w1.own p rfl
      have okh := ok1.hold e2 e3 hn
      refine Vs.run h1 σ H1 (upd F p o) R1 R1 _ okh fun ys τ2 vs R2 H2 hk l2 ok2 hv => ?_
      obtain ⟨ok2', hH2, hR2, hn2⟩ := ok1.drop hF l2 ok2
      refine q _ τ2 (v :: vs) R2 H2 hk (l1.trans l2) ok2' (.cons ⟨⟨e1, hR2 e2, o, hH2, C.up l2 e4⟩, fun p' h' => by cases h'; exact ⟨hF, hn2⟩⟩ (fun p' h' z hz oz => ?_) (hv.drop hF))
      cases h'
      obtain ⟨u, w⟩ := hv.mem z hz
      have := (w.own p oz).1
      rw [upd_same] at this
      cases this
section
variable {G : Gm} {X : Cx} {N : List Str} {sc : Scope} {n : Nat} {τ τ1 : Tau} {k : KK} {P : Po} {y : Kd} {e a b c tg iter elt kx vx : Expr} {es elts ifs : List Expr} {pos p tpos spos py px pz pt : Pos} {kt : Tau → Prop}
/-- x, y = a, b -/
theorem S1_par {i j : Nat} {x y : Str} {t1 t2 : _} {pt2 : Pos} (hX : XF G X N sc n) (hi : N[i]? = some x) (hj : N[j]? = some y) (hij : i ≠ j) (hx : sc.names.lookup x = some .local) (hy : sc.names.lookup y = some .local) (hn : noStar [a, b] = true)
    (h : Vs X [a, b] τ fun ys τ1 => ∃ u v, ys = [u, v] ∧ P.nx ((τ1.set i u).set j v))
    (hw : swappedStores [.Tuple [.Name x px, .Name y py] t1 pt] (.Tuple [a, b] t2 pt2) (envS sc) = pure (some [x, y]) := by rfl)
    (hs : swapsWithSole [.Tuple [.Name x px, .Name y py] t1 pt] (.Tuple [a, b] t2 pt2) pos.line X.env = pure false := by rfl) :
    S1 X (.Assign [.Tuple [.Name x px, .Name y py] t1 pt] (.Tuple [a, b] t2 pt2) pos) τ P :=
  S1.of (ps_par hX.calm (by rw [hX.eN]; exact hX.nd) (by rw [hX.eN]; exact hi) (by rw [hX.eN]; exact hj) hij (by rw [hX.es]; exact hx) (by rw [hX.es]; exact hy) (pa_all (star_of hn)) ((sw_env (by rw [hX.es]; rfl)).trans hw) hs) fun σ H F R0 R D ok q =>
    h.run σ H F R0 R _ ok fun ys τ1 vs R1 H1 ⟨u, v, e, hk⟩ l1 ok1 hv => by
      subst e
      cases hv with
      | cons w1 d1 t => cases t with
        | cons w2 d2 t =>
          cases t
          exact ⟨_, _, rfl, q.nx _ _ R1 H1 hk l1 ((ok1.set' i w1).set' j (w2.after i fun p o => d1 p o _ (by simp)))⟩
theorem S1_par3 {i j l : Nat} {x y z : Str} {t1 t2 : _} {pt2 : Pos} (hX : XF G X N sc n) (hi : N[i]? = some x) (hj : N[j]? = some y) (hl : N[l]? = some z) (hij : i ≠ j) (hil : i ≠ l) (hjl : j ≠ l) (hx : sc.names.lookup x = some .local) (hy : sc.names.lookup y = some .local) (hz : sc.names.lookup z = some .local) (hn : noStar [a, b, c] = true)
    (h : Vs X [a, b, c] τ fun ys τ1 => ∃ u v w, ys = [u, v, w] ∧ P.nx (((τ1.set i u).set j v).set l w))
    (hw : swappedStores [.Tuple [.Name x px, .Name y py, .Name z pz] t1 pt] (.Tuple [a, b, c] t2 pt2) (envS sc) = pure (some [x, y, z]) := by rfl)
    (hs : swapsWithSole [.Tuple [.Name x px, .Name y py, .Name z pz] t1 pt] (.Tuple [a, b, c] t2 pt2) pos.line X.env = pure false := by rfl) :
    S1 X (.Assign [.Tuple [.Name x px, .Name y py, .Name z pz] t1 pt] (.Tuple [a, b, c] t2 pt2) pos) τ P :=
  S1.of (ps_par3 hX.calm (by rw [hX.eN]; exact hX.nd) (by rw [hX.eN]; exact hi) (by rw [hX.eN]; exact hj) (by rw [hX.eN]; exact hl) hij hil hjl (by rw [hX.es]; exact hx) (by rw [hX.es]; exact hy) (by rw [hX.es]; exact hz) (pa_all (star_of hn)) ((sw_env (by rw [hX.es]; rfl)).trans hw) hs) fun σ H F R0 R D ok q =>
    h.run σ H F R0 R _ ok fun ys τ1 vs R1 H1 ⟨u, v, w, e, hk⟩ l1 ok1 hv => by
      subst e
      cases hv with
      | cons w1 d1 t => cases t with
        | cons w2 d2 t => cases t with
          | cons w3 d3 t =>
            cases t
            refine ⟨_, _, _, rfl, q.nx _ _ R1 H1 hk l1 (((ok1.set' i w1).set' j (w2.after i fun p o => d1 p o _ (by simp))).set' l ((w3.after i fun p o => d1 p o _ (by simp)).after j fun p o => d2 p o _ (by simp)))⟩
/-- names as targets -/
theorem pgn {i : Nat} {x : Str} (hX : XF G X N sc n) (hN : N[i]? = some x) (hl : sc.names.lookup x = some .local) : PG X (.Name x px) (gName i) :=
  pg_name (i := i) (by rw [hX.eN]; exact hX.nd) (by rw [hX.eN]; exact hN) (hX.loc (.inl hl)) (.inr (by rw [hX.es]; exact hl))
theorem pgnC {i : Nat} {x : Str} (hX : XF G X N sc n) (hf : ∀ x, X.fn x = true) (hN : N[i]? = some x) (hl : sc.names.lookup x = some .cell) : PG X (.Name x px) (gName i) :=
  pg_name (i := i) (by rw [hX.eN]; exact hX.nd) (by rw [hX.eN]; exact hN) (hX.loc (.inr hl)) (.inl (hf x))
theorem VAll.new {F R H : Hp} {p : Addr} {o : HO} (hp : H p = none) {vs : List V} {ys : List Kd} (h : VAll F R H τ vs ys) : VAll F R (upd H p o) τ vs ys := by
  induction h with
  | nil => exact .nil
  | @cons v y vs ys w d _ ih =>
    refine .cons ⟨?_, w.own⟩ d ih
    have hr := w.rel
    cases y with
    | no => trivial
    | im A a => exact hr
    | ow q C c =>
      obtain ⟨e1, e2, o', e3, e4⟩ := hr
      exact ⟨e1, e2, o', by rw [upd_ne (ne_of_none e3 hp)]; exact e3, e4⟩
theorem VAll.len {F R H : Hp} {vs : List V} {ys : List Kd} (h : VAll F R H τ vs ys) : vs.length = ys.length := by
  induction h with
  | nil => rfl
  | cons _ _ _ ih => simp [ih]
theorem asg_tup {ta : TA} {g : TG} {D : L2.Ends} {σ : L2.St} {H : Hp} (h : ta σ H fun xs H1 => xs.length ≤ sizeLine ∧ ∀ p, H1 p = none → g (.ref p) σ (upd H1 p (.tup xs)) D.nx) : tAsg (tTup ta) g D σ H := h
/-- the same by a tuple that goes at once: a name among them is captured -/
theorem S1_parG {i j : Nat} {tx ty : Expr} {t1 t2 : _} {pt2 : Pos} (hX : XF G X N sc n) (hgx : PG X tx (gName i)) (hgy : PG X ty (gName j)) (hn : noStar [a, b] = true)
    (h : Vs X [a, b] τ fun ys τ1 => ∃ u v, ys = [u, v] ∧ P.nx ((τ1.set i u).set j v)) (htx : plainTg [tx, ty] = true)
    (hw : swappedStores [.Tuple [tx, ty] t1 pt] (.Tuple [a, b] t2 pt2) (envS sc) = pure none := by rfl)
    (hs : swapsWithSole [.Tuple [tx, ty] t1 pt] (.Tuple [a, b] t2 pt2) pos.line X.env = pure false := by rfl) :
    S1 X (.Assign [.Tuple [tx, ty] t1 pt] (.Tuple [a, b] t2 pt2) pos) τ P := by
  have hty : plainTg [ty] = true := by cases tx <;> first | exact htx | (simp [plainTg] at htx)
  have e2 : assignEach [ty] X.env = [(false, assign ty X.env)] := by cases ty <;> first | rfl | (simp [plainTg] at hty)
  have e1 : assignEach [tx, ty] X.env = (false, assign tx X.env) :: assignEach [ty] X.env := by cases tx <;> first | rfl | (simp [plainTg] at htx)
  refine S1.of (ps_asg (pe_tup (pa_all (star_of hn))) (pg_tup (n := 2) hX.calm (pgs_cons hgx (pgs_cons hgy pgs_nil (by rw [e2]; rfl)) (by rw [e1]; rfl)) (by rw [e1, e2]; rfl) (by rw [e1, e2]; rfl)) hs ((sw_env (by rw [hX.es]; rfl)).trans hw) (by rfl)) fun σ H F R0 R D ok q => ?_
  refine asg_tup ?_
  refine h.run σ H F R0 R _ ok fun ys τ1 vs R1 H1 ⟨u, v, e, hk⟩ l1 ok1 hv => ?_
  subst e
  refine ⟨by rw [hv.len, sizeLine_eq]; simp, fun p hp => ?_⟩
  have okn := ok1.new (o := .tup vs) hp
  cases hv.new (o := .tup vs) hp with
  | cons w1 d1 t => cases t with
    | cons w2 d2 t =>
      cases t
      refine ⟨p, _, rfl, .inl (.inl upd_same), rfl, _, _, rfl, _, _, rfl, rfl, q.nx _ _ R1 _ hk l1 ((okn.set' i w1).set' j (w2.after i fun p o => d1 p o _ (by simp)))⟩
theorem S1_parG3 {i j l : Nat} {tx ty tz : Expr} {t1 t2 : _} {pt2 : Pos} (hX : XF G X N sc n) (hgx : PG X tx (gName i)) (hgy : PG X ty (gName j)) (hgz : PG X tz (gName l)) (hn : noStar [a, b, c] = true)
    (h : Vs X [a, b, c] τ fun ys τ1 => ∃ u v w, ys = [u, v, w] ∧ P.nx (((τ1.set i u).set j v).set l w)) (htx : plainTg [tx, ty, tz] = true)
    (hw : swappedStores [.Tuple [tx, ty, tz] t1 pt] (.Tuple [a, b, c] t2 pt2) (envS sc) = pure none := by rfl)
    (hs : swapsWithSole [.Tuple [tx, ty, tz] t1 pt] (.Tuple [a, b, c] t2 pt2) pos.line X.env = pure false := by rfl) :
    S1 X (.Assign [.Tuple [tx, ty, tz] t1 pt] (.Tuple [a, b, c] t2 pt2) pos) τ P := by
  have hty : plainTg [ty, tz] = true := by cases tx <;> first | exact htx | (simp [plainTg] at htx)
  have htz : plainTg [tz] = true := by cases ty <;> first | exact hty | (simp [plainTg] at hty)
  have e3 : assignEach [tz] X.env = [(false, assign tz X.env)] := by cases tz <;> first | rfl | (simp [plainTg] at htz)
  have e2 : assignEach [ty, tz] X.env = (false, assign ty X.env) :: assignEach [tz] X.env := by cases ty <;> first | rfl | (simp [plainTg] at hty)
  have e1 : assignEach [tx, ty, tz] X.env = (false, assign tx X.env) :: assignEach [ty, tz] X.env := by cases tx <;> first | rfl | (simp [plainTg] at htx)
  refine S1.of (ps_asg (pe_tup (pa_all (star_of hn))) (pg_tup (n := 3) hX.calm (pgs_cons hgx (pgs_cons hgy (pgs_cons hgz pgs_nil (by rw [e3]; rfl)) (by rw [e2]; rfl)) (by rw [e1]; rfl)) (by rw [e1, e2, e3]; rfl) (by rw [e1, e2, e3]; rfl)) hs ((sw_env (by rw [hX.es]; rfl)).trans hw) (by rfl)) fun σ H F R0 R D ok q => ?_
  refine asg_tup ?_
  refine h.run σ H F R0 R _ ok fun ys τ1 vs R1 H1 ⟨u, v, w, e, hk⟩ l1 ok1 hv => ?_
  subst e
  refine ⟨by rw [hv.len, sizeLine_eq]; simp, fun p hp => ?_⟩
  have okn := ok1.new (o := .tup vs) hp
  cases hv.new (o := .tup vs) hp with
  | cons w1 d1 t => cases t with
    | cons w2 d2 t => cases t with
      | cons w3 d3 t =>
        cases t
        refine ⟨p, _, rfl, .inl (.inl upd_same), rfl, _, _, rfl, _, _, rfl, _, _, rfl, rfl, q.nx _ _ R1 _ hk l1 (((okn.set' i w1).set' j (w2.after i fun p o => d1 p o _ (by simp))).set' l ((w3.after i fun p o => d1 p o _ (by simp)).after j fun p o => d2 p o _ (by simp)))⟩
/-! ### a list of unlike things, at once data -/
def LstOf {β : Type} (B : DR β) (b : β) (ys : List Kd) : Prop := ∀ R H p vs, R p = some (.lst vs) → VsOk R H vs ys → B.rel R (.ref p) b
def rLTri {α β γ : Type} (A : DR α) (B : DR β) (C : DR γ) : DR (α × β × γ) := ⟨fun R v p => ∃ a x y z, v = .ref a ∧ Rd R a (.lst [x, y, z]) ∧ A.rel R x p.1 ∧ B.rel R y p.2.1 ∧ C.rel R z p.2.2,
  fun l ⟨a, x, y, z, e, h, hx, hy, hz⟩ => ⟨a, x, y, z, e, l.rd h, A.up l hx, B.up l hy, C.up l hz⟩⟩
theorem lst_tri {α β γ : Type} {A : DR α} {B : DR β} {C : DR γ} {a : α} {b : β} {c : γ} : LstOf (rLTri A B C) (a, b, c) [.im A a, .im B b, .im C c] := fun R H p vs h v => by
  cases v with
  | cons r1 v => cases v with
    | cons r2 v => cases v with
      | cons r3 v => cases v; exact ⟨p, _, _, _, rfl, .inl h, r1.2, r2.2, r3.2⟩
theorem lst_L {K : PySem.W.Frag} {α : Type} {A : DR α} {l : List α} : LstOf (rL K A) l (l.map (.im A)) := fun R H p vs h v => ⟨p, vs, rfl, .inl h, paired_of v⟩
theorem ix_tri0 {K : PySem.W.Frag} {α β γ : Type} {A : DR α} {B : DR β} {C : DR γ} {q : α × β × γ} : IxOf K (.im (rLTri A B C) q) 0 A q.1 := fun R H v l ⟨p, x, y, z, e, h, h1, h2, h3⟩ => ⟨p, _, x, e, .inl (.inl (l.rd h)), rfl, h1⟩
theorem ix_tri1 {K : PySem.W.Frag} {α β γ : Type} {A : DR α} {B : DR β} {C : DR γ} {q : α × β × γ} : IxOf K (.im (rLTri A B C) q) 1 B q.2.1 := fun R H v l ⟨p, x, y, z, e, h, h1, h2, h3⟩ => ⟨p, _, y, e, .inl (.inl (l.rd h)), rfl, h2⟩
theorem ix_tri2 {K : PySem.W.Frag} {α β γ : Type} {A : DR α} {B : DR β} {C : DR γ} {q : α × β × γ} : IxOf K (.im (rLTri A B C) q) 2 C q.2.2 := fun R H v l ⟨p, x, y, z, e, h, h1, h2, h3⟩ => ⟨p, _, z, e, .inl (.inl (l.rd h)), rfl, h3⟩
theorem unl_tri {K : PySem.W.Frag} {α β γ : Type} {A : DR α} {B : DR β} {C : DR γ} {q : α × β × γ} : UnL K (.im (rLTri A B C) q) [.im A q.1, .im B q.2.1, .im C q.2.2] := fun R H v l ⟨p, x, y, z, e, h, h1, h2, h3⟩ => ⟨p, _, e, .inl (l.rd h), .cons ⟨trivial, h1⟩ (.cons ⟨trivial, h2⟩ (.cons ⟨trivial, h3⟩ .nil))⟩
theorem E_lstD (hs : noStar es = true) (h : Items X es τ fun ys τ' => ys.length ≤ 100000 ∧ ∃ β, ∃ B : DR β, ∃ b, LstOf B b ys ∧ k (.im B b) τ') : E X (.List es pos) τ k :=
  E.of (pe_lst (pa_all (star_of hs))) fun σ H F R0 R Q ok q => Items.run h σ H F R0 R _ ok fun ys τ' vs R' H' ⟨hz, β, B, b, hl, hk⟩ le ok' hv =>
    ⟨by rw [vs_len hv, sizeLine_eq]; omega, fun p hp => by
      obtain ⟨hR, hF, ho⟩ := ok'.fresh hp
      have okn := ok'.lay (o := .lst vs) hp
      exact q _ τ' _ _ _ hk (le.trans (Le.upd hR)) okn (VOk.im (hl _ (upd H' p (.lst vs)) p vs upd_same (hv.up (Le.upd hR))))⟩
/-- a, b, c = a list -/
theorem T_lst {m : Nat} {ys : List Kd} (hX : XF G X N sc n) (hst : plainTg es = true) (hu : UnL G.K y ys) (h : Tgs X es ys τ kt) (hlen : ys.length = es.length := by rfl) : Tg X (.Tuple es m pos) y τ kt := by
  have hplain : ∀ {es : List Expr}, plainTg es = true → ∀ env, (assignEach es env).length = es.length ∧ (assignEach es env).findIdx? (·.1) = none := by
    intro es
    induction es with
    | nil => intro _ env; exact ⟨rfl, rfl⟩
    | cons e es ih =>
      intro h env
      have h' : plainTg es = true := by cases e <;> first | exact h | (simp [plainTg] at h)
      obtain ⟨h1, h2⟩ := ih h' env
      have e1 : assignEach (e :: es) env = (false, assign e env) :: assignEach es env := by cases e <;> first | rfl | (simp [plainTg] at h)
      rw [e1]
      exact ⟨by simp [h1], by rw [List.findIdx?_cons]; simp [h2]⟩
  have hpgs : ∀ {es : List Expr}, plainTg es = true → PGs X es (tgAll X es) := by
    intro es
    induction es with
    | nil => intro _; exact pgs_nil
    | cons e es ih =>
      intro h
      have h' : plainTg es = true := by cases e <;> first | exact h | (simp [plainTg] at h)
      exact pgs_cons pg_sem (ih h') (by cases e <;> first | rfl | (simp [plainTg] at h))
  obtain ⟨h1, h2⟩ := hplain hst X.env
  refine Tg.of (pg_lst hX.calm (hpgs hst) h1 h2) fun σ H F R0 R v Q ok w q => ?_
  obtain ⟨p, us, e, hq, hv⟩ := hu R H v ok.le w.rel
  exact ⟨p, us, e, by rw [hX.eK]; exact hq, (vs_len hv).trans hlen, Tgs.run h σ H F R0 R us Q ok hv q⟩
/-! ### slices -/
def cutL {α : Type} (xs : List α) (lo hi : Option Int) : List α := (xs.drop (HT.sIx xs.length 0 lo)).take (HT.sIx xs.length xs.length hi - HT.sIx xs.length 0 lo)
theorem paired_cut {R : Hp} {α : Type} {A : DR α} {xs : List V} {l : List α} (h : Paired (A.rel R) xs l) (lo hi : Option Int) : Paired (A.rel R) (cutV xs lo hi) (cutL l lo hi) := by
  have hd : ∀ {xs : List V} {l : List α} (m : Nat), Paired (A.rel R) xs l → Paired (A.rel R) (xs.drop m) (l.drop m) := by
    intro xs l m h
    induction h generalizing m with
    | nil => cases m <;> exact .nil
    | cons r t ih => cases m with
      | zero => exact .cons r t
      | succ m => exact ih m
  have ht : ∀ {xs : List V} {l : List α} (m : Nat), Paired (A.rel R) xs l → Paired (A.rel R) (xs.take m) (l.take m) := by
    intro xs l m h
    induction h generalizing m with
    | nil => cases m <;> exact .nil
    | cons r t ih => cases m with
      | zero => exact .nil
      | succ m => exact .cons r (ih m)
  have hl := PySem.Paired.length h
  unfold cutV cutL
  rw [hl]
  exact ht _ (hd _ h)
/-- an end of a slice -/
def Pt (X : Cx) : Option Expr → Tau → (Option Int → Tau → Prop) → Prop
  | none, τ, k => k none τ
  | some e, τ, k => E X e τ fun x τ1 => ∃ i, Fz x (.im rI i) ∧ k (some i) τ1
def tPt (X : Cx) : Option Expr → TO
  | none => tNoPart
  | some e => tPart (sem X e)
theorem po_pt {lo : Option Expr} : PO X lo (tPt X lo) := by
  cases lo with
  | none => exact po_none
  | some e => exact po_some pe_sem
theorem Pt.run {lo : Option Expr} {k : Option Int → Tau → Prop} (h : Pt X lo τ k) (σ : L2.St) (H F R0 R : Hp) (Q : Option Int → Hp → Prop) (ok : Ok F R0 R H σ τ) (q : ∀ o τ' R' H', k o τ' → Le R R' → Ok F R0 R' H' σ τ' → Q o H') : tPt X lo σ H Q := by
  cases lo with
  | none => exact q none τ R H h (Le.refl R) ok
  | some e =>
    refine h σ H F R0 R _ ok fun x τ1 v R1 H1 ⟨i, fz, hk⟩ l1 ok1 w1 => ?_
    obtain ⟨R2, l2, ok2, r⟩ := fz_rel ok1 w1 fz
    cases r
    exact ⟨i, rfl, q _ τ1 R2 H1 hk (l1.trans l2) ok2⟩
/-- a[lo:hi] of a list -/
def SlOf (K : PySem.W.Frag) (x : Kd) {α : Type} (A : DR α) (l : List α) : Prop := ∀ R H v, LeR R H → x.rel R H v → ∃ p xs, v = .ref p ∧ SqL K H p xs ∧ Paired (A.rel R) xs l
theorem slof_L {K : PySem.W.Frag} {α : Type} {A : DR α} {l : List α} : SlOf K (.im (rL K A) l) A l := fun R H v le ⟨p, xs, e, h, hp⟩ => ⟨p, xs, e, .inl (le.rd h), hp⟩
theorem slof_cL {K : PySem.W.Frag} {α : Type} {A : DR α} {l : List α} {q : Addr} : SlOf K (.ow q (cL A) l) A l := fun R H v le ⟨e, hR, o, ho, xs, eo, hp⟩ => by
  subst eo; exact ⟨q, xs, e, .inl (.inl ho), hp⟩
theorem E_slL {lo hi : Option Expr} {p2 : Pos} {α : Type} {A : DR α} (hX : XF G X N sc n)
    (h : T.P X a τ fun pl τ1 => Pt X lo τ1 fun o1 τ2 => Pt X hi τ2 fun o2 τ3 => ∃ x l, pl.kd τ3 = some x ∧ SlOf G.K x A l ∧ ∀ p, k (.ow p (cL A) (cutL l o1 o2)) τ3) : E X (.Subscript a (.Slice lo hi none p2) pos) τ k :=
  E.of (pe_slice sl_list pe_sem po_pt po_pt) fun σ H F R0 R Q ok q => h σ H F R0 R _ ok fun pl τ1 v R1 H1 h1 l1 ok1 at1 =>
    Pt.run h1 σ H1 F R0 R1 _ ok1 fun o1 τ2 R2 H2 h2 l2 ok2 => Pt.run h2 σ H2 F R0 R2 _ ok2 fun o2 τ3 R3 H3 ⟨x, l, ex, hs, hk⟩ l3 ok3 => by
      obtain ⟨pa, xs, e1, hq, hp⟩ := hs R3 H3 v ok3.le (Pl.rel ok3 (Pl.up (l2.trans l3) at1) ex)
      refine ⟨pa, xs, e1, by rw [hX.eK]; exact hq, fun p hpn => ?_⟩
      obtain ⟨hR, hF, ho⟩ := ok3.fresh hpn
      exact q _ τ3 _ R3 _ (hk p) ((l1.trans l2).trans l3) (ok3.new hpn) ⟨⟨rfl, hR, _, upd_same, _, rfl, paired_cut hp _ _⟩, fun p' z => by cases z; exact ⟨hF, ho⟩⟩
/-- f() -/
theorem E_call0 {x : Str} {m : Nat} {C : Ct} (hX : XF G X N sc n) (f : Fn G x m C) (hm : m ≤ n) (hg : sc.names.lookup x = some .globalImplicit) (h : C [] fun r _ => k r τ) (hdb : (x == ("__debug__" : Str)) = false := by decide) :
    E X (.Call (.Name x p) [] [] pos) τ k := by
  obtain ⟨f, fd, pr, h1, h2, h3, h4, _⟩ := f.ex
  have h4' : FnOk X.prog X.w X.K X.mg X.base CX0 m f fd pr (spOf C) := by rw [hX.ep, hX.ew, hX.eK, hX.emg, hX.eb]; exact h4
  refine E.of (pe_call0 (E := E0) h4' (hX.room.mono hm) (hX.gl hg) (hX.mgN h1) (by rw [hX.eK]; exact h2) (by rw [hX.eK]; exact h3) .nil pass0 hdb) ?_
  intro σ H F R0 R Q ok q
  have hok : Ok (keepOf H []) R R H ((([] : List V)).map some) [] := ok.enter (vs := []) (ps := []) (ks := []) trivial trivial trivial
  refine ⟨keepOf H [], R, R, [], _, hok, h, fun r ks' v R2 H2 hr l2 ok2 w2 => ?_⟩
  obtain ⟨ok3, w3⟩ := ok.leave (vs := []) (ps := []) (ks := []) trivial trivial trivial l2 ok2
  exact q r τ v R2 H2 hr l2 ok3 (w3 v r w2)
end
end T
end
section
set_option Elab.async false
set_option linter.all false
set_option autoImplicit false
set_option maxRecDepth 100000
set_option maxHeartbeats 2000000
namespace T
open PySem PySem.Spec PyProof.Rows L2

/-! ### enumerate(tuple) -/
theorem meets_enum_newB1 {v : Value} {o : Obj} {H : Heap → Prop} (B : Begins v o H) :
    Meets (Builtin.«enumerate.__new__» ⟨[.type "enumerate", v], []⟩) (fun _ R s => H s.heap ∧
      R (.ok (.ret (.ref (s.heap.push o).objs.size))) { s with heap := (s.heap.push o).push { cls := .type "enumerate", data := .fields #[.none, .bool false, .ref s.heap.objs.size, rawInt 0, .none, .none] } }) :=
  .of_wp fun prog w A R s h => by
    obtain ⟨hp, g, d, tk, os⟩ := s; obtain ⟨h1, h⟩ := h
    have hsub := sub_enumerate
    have q1 : ∀ {A' : Around} {E : Value → Shared → Prop} {Q : Value → Shared → Prop}, Q (.ref hp.objs.size) ⟨hp.push o, g, d, tk, os⟩ → wpAny (model prog w) A' (pyIter v) Q E ⟨hp, g, d, tk, os⟩ :=
      fun q => B.iter prog w _ _ ⟨hp, g, d, tk, os⟩ _ h1 q
    wp_walk using q1
    refine wpAny_stack_any fun st => wpAny_pure ?_
    split
    · rename_i c _ _ _ _ _
      cases (c == Value.type "enumerate")
      · wp_walk using q1
        exact ⟨_, rfl, h⟩
      · wp_walk using q1
        exact ⟨_, rfl, h⟩
    · wp_walk using q1
      exact ⟨_, rfl, h⟩
theorem call_enum_tuple {prog : Program} {w : World} {A : Around} {E : Value → Shared → Prop} {s : Shared} {l : Addr} {items : Array Value} {Q : Value → Shared → Prop} (hL : s.heap.IsTuple l items)
    (h : ∀ h', IsEnum h' (s.heap.objs.size + 1) s.heap.objs.size 0 .none → h'.IsTupleIter s.heap.objs.size l 0 → (∀ b o, s.heap.get? b = some o → h'.get? b = some o) → Q (.ref (s.heap.objs.size + 1)) { s with heap := h' }) :
    wpAny (model prog w) A (call (.type "enumerate") [.ref l]) Q E s := by
  refine callType_new F.called_enumerate (by decide) (F.typeCall_enumerate_1 _) (F.newCall_enumerate_1 _) (fun obj => F.args_object_init_2 obj _) F.entry_enumerate_new
    (meets_enum_newB1 (begins_tuple l items)) ⟨hL, ?_⟩
  have hz : (s.heap.push { cls := .type "tuple_iterator", data := .fields #[.ref l, .int 0 0] }).objs.size = s.heap.objs.size + 1 := Heap.size_push ..
  show _ ∧ _
  rw [hz]
  have he : IsEnum ((s.heap.push { cls := .type "tuple_iterator", data := .fields #[.ref l, .int 0 0] }).push { cls := .type "enumerate", data := .fields #[.none, .bool false, .ref s.heap.objs.size, rawInt 0, .none, .none] }) (s.heap.objs.size + 1) s.heap.objs.size 0 .none := by
    have := Heap.get?_push_size (s.heap.push { cls := .type "tuple_iterator", data := .fields #[.ref l, .int 0 0] }) (o := { cls := .type "enumerate", data := .fields #[.none, .bool false, .ref s.heap.objs.size, rawInt 0, .none, .none] }) rfl
    rw [hz] at this; exact this
  refine ⟨⟨_, he, rfl⟩, h _ he ⟨_, Heap.get?_push_of_some _ (Heap.get?_push_size _ rfl), rfl, rfl⟩ fun b o x => Heap.get?_push_of_some _ (Heap.get?_push_of_some _ x)⟩
def IteT (K : PySem.W.Frag) (a : Addr) : L2.It :=
  ⟨fun i H => ∃ (xs : List V) (x : V), SqT K H a xs ∧ xs[i]? = some x, fun i H v H' => ∃ T x, v = .ref T ∧ H T = none ∧ H' = upd H T (.tup [.int (i : Nat), x]) ∧ ∀ xs, SqT K H a xs → xs[i]? = some x, fun i H => ∃ xs : List V, SqT K H a xs ∧ xs.length ≤ i⟩
theorem turn_enumT {P : Program} {w : World} {K : PySem.W.Frag} {elts : List Expr} {kk : Nat} {tpos : Pos} (a e it : Addr) :
    Turn P w K (.Tuple elts kk tpos) (IteT K a) [e, it] e (fun i h => (∃ old, IsEnum h e it ((i : Nat) : Int) old) ∧ h.IsTupleIter it a i ∧ e ≠ it ∧ a ≠ it ∧ e ≠ a) where
  mem := by simp
  obj := fun i h st b hb => by
    obtain ⟨⟨old, he⟩, ⟨o, ho, hc, hd⟩, _⟩ := st
    have e' : b = e ∨ b = it := by simpa using hb
    rcases e' with z | z
    · rw [z]; exact ⟨_, he, fun v q => nomatch q⟩
    · rw [z]; exact ⟨o, ho, fun v q => by rw [hd] at q; cases q⟩
  keep := fun i h h' st k => let ⟨⟨old, he⟩, hi, hne⟩ := st; ⟨⟨old, k e (by simp) _ he⟩, hi.at fun o q => k it (by simp) o q, hne⟩
  item := by
    intro X hP hw hK hc i pins s σ H E I hf st hg
    subst hP hw hK
    obtain ⟨⟨old, he⟩, hit, hne, hna, hea⟩ := st
    obtain ⟨xs, x, hq, hx⟩ := hg
    obtain ⟨its, rv, p, hz⟩ := I.tuple hq
    obtain ⟨u, hu, ru⟩ := rv.get hx
    have hel : e < s.heap.objs.size := Heap.lt_size he
    have hil : it < s.heap.objs.size := by obtain ⟨_, q, _⟩ := hit; exact Heap.lt_size q
    have hlt : i < its.toArray.size := by
      have := (List.getElem?_eq_some_iff.mp hu).1
      simpa using this
    refine wpAny_pyNext_enum_itemD (Draws.tuple (prog := X.prog) (w := X.w) (A := X.A.in1) (I.ok.hd hc) it a hna its.toArray) he ⟨hit, p⟩ hlt hne (by simp [hne, hea]) fun y h' tk hy ho hst hT hsz hk => ?_
    have ey : y = u := by
      have hy' : its[i]? = some y := by simpa using hy
      rw [hu] at hy'; exact (Option.some.inj hy').symm
    subst ey
    refine ⟨_, rfl, wpAny_letOwnedTupleGo_enum (s := { s with heap := h', toks := tk + 1 }) ho fun h'' he' sb => ?_⟩
    have hT2 : h''.get? s.heap.objs.size = some { cls := .type "tuple", data := .seq #[.int i tk, y] } := (sb.2 _ (Nat.ne_of_gt hel)).trans hT
    have new : ObjOk X.prog X.w (upd H s.heap.objs.size (.tup [.int (i : Nat), x])) h'' s.heap.objs.size (.tup [.int (i : Nat), x]) :=
      ⟨by show 2 ≤ sizeLine; decide, [.int i tk, y], .cons ⟨_, rfl⟩ (.cons ru .nil), ⟨_, hT2, rfl, _, rfl⟩⟩
    have I1 : Inv X pins σ (upd H s.heap.objs.size (.tup [.int (i : Nat), x])) { s with heap := h'', toks := tk + 1 } :=
      I.turnedNew (ch := [e, it]) (fun b ob hb q => (sb.2 b (fun z => hb (by simp [z]))).trans (hk b ob (fun z => hb (by simp [z])) (fun z => hb (by simp [z])) q)) hf (Nat.le_refl _) new
    refine ⟨.ref s.heap.objs.size, _, I1, rfl, ⟨_, x, rfl, I.hok.fresh (Nat.le_refl _), rfl, fun ys hy => by rw [I.tuple_inj hy hq]; exact hx⟩, ⟨⟨y, ?_⟩, hst.1.at fun o q => (sb.2 it (Ne.symm hne)).trans q, hne, hna, hea⟩, fun b hb => ?_⟩
    · have e1 : ((i + 1 : Nat) : Int) = (i : Int) + 1 := by omega
      rw [e1]; exact he'
    · have hb' : b < s.heap.objs.size := by
        have e' : b = e ∨ b = it := by simpa using hb
        rcases e' with z | z
        · rw [z]; exact hel
        · rw [z]; exact hil
      rw [upd_ne (Nat.ne_of_lt hb')]
      exact (hf b hb).1
  done := by
    intro X hP hw hK hc i pins s σ H E I hf st hg
    subst hP hw hK
    obtain ⟨⟨old, he⟩, hit, hne, hna, hea⟩ := st
    obtain ⟨xs, hq, hx⟩ := hg
    obtain ⟨its, rv, p, hz⟩ := I.tuple hq
    obtain ⟨f0, f1, f2, f3, f4, f5⟩ := hf it (by simp)
    have hl := rv.length
    have hn : its.toArray.size ≤ i := by simp; omega
    -- the iterator stands at i, at or behind the end
    have D : Draws X.prog X.w X.A.in1 it [it, a] i (fun _ _ => False) (fun j h => h.IsTupleIter it a i ∧ h.IsTuple a its.toArray ∧ j = i) :=
      { live := fun _ _ st => let ⟨o, ho, _⟩ := st.1; ⟨o, ho⟩
        frame := fun _ _ _ st hk => ⟨st.1.at fun o e => hk it (by simp) o e, st.2.1.at fun o e => hk a (by simp) o e, st.2.2⟩
        item := fun j s Q E hj st hQ => absurd hj (by rw [st.2.2]; exact Nat.lt_irrefl _)
        done := fun s Q E st hE => wpAny_nextOf_tuple_end (I.ok.hd hc) st.1 st.2.1 (Array.getElem?_eq_none hn) hE }
    exact wpAny_pyNext_enum_endD D he ⟨hit, p, rfl⟩ fun h' eb => ⟨rfl, I.turned (t' := s.toks) (fun b o hb q => eb b o hb q) f0 f1 f3 f4 f5⟩
  self := fun A i s Q E st h => let ⟨⟨_, he⟩, _⟩ := st; wpAny_pyIter_enum he h
def iEnumT (K : PySem.W.Frag) (ta : TA) : TI := fun σ H R => ta σ H fun vs H1 => ∃ a xs, vs = [.ref a] ∧ SqT K H1 a xs ∧ R (IteT K a) H1
theorem pi_enumT {X : Cx} {e : Expr} {ta : TA} {p pos tpos : Pos} {elts : List Expr} {kk : Nat} (hg : Gl X "enumerate") (hm : X.mg "enumerate" = none) (ha : PA X [e] ta) (hs : starEach [e] X.env = [(false, eval e X.env)] := by rfl) :
    PI X (.Tuple elts kk tpos) (.Call (.Name "enumerate" p) [e] [] pos) (iEnumT X.K ta) := by
  refine ⟨fun pins s σ H R I h => ?_⟩
  refine Call_ (ld_blt I hg hm boot_enumerate (PyProof.Rows.callWith_type1 (thn (ha.run pos pins s σ H _ I h) fun us s1 ⟨vs, H1, I1, r1, q1⟩ => ?_) hs rfl))
  obtain ⟨a, xs, ex, hq, q⟩ := q1
  subst ex
  cases r1 with
  | cons r rr =>
    cases rr
    cases r
    obtain ⟨its, rv, p', hz⟩ := I1.tuple hq
    have hal : a < s1.heap.objs.size := by obtain ⟨_, e, _⟩ := p'; exact Heap.lt_size e
    refine call_enum_tuple p' fun h' he hit hk => wpAny_pyIter_enum he ?_
    have I2 : Inv X pins σ H1 { s1 with heap := h' } := I1.kept (t' := s1.toks) hk
    refine ⟨s1.heap.objs.size + 1, [s1.heap.objs.size + 1, s1.heap.objs.size], _, _, H1, rfl, I2, turn_enumT a (s1.heap.objs.size + 1) s1.heap.objs.size, ⟨⟨.none, he⟩, hit, Nat.succ_ne_self _, Nat.ne_of_lt hal, Nat.ne_of_gt (Nat.lt_succ_of_lt hal)⟩, fun b hb => ?_, q⟩
    have e' : b = s1.heap.objs.size + 1 ∨ b = s1.heap.objs.size := by simpa using hb
    have hle : s1.heap.objs.size ≤ b := by
      rcases e' with z | z
      · rw [z]; exact Nat.le_add_right _ _
      · rw [z]; exact Nat.le_refl _
    exact I1.fpOk hle (I1.hok.fresh hle)
/-! ### min(dict) -/
theorem call_minD {X : Cx} (hcalm : X.calm = true) : CallR X (.builtin "min") (fun xs H Q => ∃ (a : Addr) (kvs : List (Key × V)) (ks : List Int), xs = [.ref a] ∧ Rd H a (.dK kvs) ∧ kvs.map (·.1) = ks.map Sum.inl ∧ 0 < ks.length ∧
    ∀ m, m ∈ ks → (∀ y, y ∈ ks → m ≤ y) → Q (.int m) H) := by
  intro pins s σ H xs us Q I r q
  obtain ⟨a, kvs, ks, ex, hd, hks, h0, q⟩ := q
  subst ex
  obtain ⟨u, eu, rx⟩ := vals1 r
  subst eu
  cases rx
  obtain ⟨z, lo, vs, rel, dd⟩ := dk_rd I.hok hd
  obtain ⟨ep, hat⟩ := dd.dictAt
  have hkeys : vs.map (·.1) = ks.map Sum.inl := rel.keys.symm.trans hks
  have hl : vs.length = ks.length := by
    have e := congrArg List.length hkeys
    rw [List.length_map, List.length_map] at e
    exact e
  have hlt : a < s.heap.objs.size := hat.lt_size
  let val : Nat → Int := fun i => ks[i]?.getD 0
  refine call_min_walk (wpAny_pyIter_dict lo hat ?_)
  refine ⟨_, _, _, _, _, _, _, rfl, Walks.dictKeys (A := X.A.in1) (I.ok.hd hcalm) s.heap.objs.size a (Nat.ne_of_lt hlt) vs ep, ⟨⟨_, Heap.get?_push_size _ rfl, rfl, rfl⟩, hat.push _⟩, fun b hb => ?_, by rw [hl]; exact h0, CmpOf.ints_lt val (fun i v => ?_), fun v h' tk hP hk => ?_⟩
  · show b < (s.heap.push _).objs.size
    rw [Heap.size_push]
    rcases List.mem_cons.mp hb with rfl | hb
    · exact Nat.lt_succ_self _
    · rcases List.mem_cons.mp hb with rfl | hb
      · exact Nat.lt_succ_of_lt hlt
      · cases hb
  · rintro ⟨k, x, e1, e2⟩
    have e3 : (vs.map (·.1))[i]? = some k := by rw [List.getElem?_map, e1]; rfl
    rw [hkeys, List.getElem?_map] at e3
    cases e4 : ks[i]? with
    | none => rw [e4] at e3; cases e3
    | some y =>
      rw [e4] at e3
      have e5 : Sum.inl y = k := Option.some.inj e3
      subst e5
      rcases keyIs_shape (show keyIs (Sum.inl y) v = true from e2) with ⟨i', t, ek, ev⟩ | ⟨z, t, ek, ev⟩
      · cases ek
        exact ⟨t, by show v = .int (ks[i]?.getD 0) t; rw [e4]; exact ev⟩
      · cases ek
  · obtain ⟨k, x, e1, e2⟩ := hP
    have e3 : (vs.map (·.1))[argBest (fun i j => decide (val i < val j)) (vs.length - 1)]? = some k := by rw [List.getElem?_map, e1]; rfl
    rw [hkeys, List.getElem?_map] at e3
    obtain ⟨b1, b2⟩ := argBest_lt val (vs.length - 1)
    generalize argBest (fun i j => decide (val i < val j)) (vs.length - 1) = m at *
    cases e4 : ks[m]? with
    | none => rw [e4] at e3; cases e3
    | some y =>
      rw [e4] at e3
      have e5 : Sum.inl y = k := Option.some.inj e3
      subst e5
      rcases keyIs_shape (show keyIs (Sum.inl y) v = true from e2) with ⟨i', t, ek, ev⟩ | ⟨z, t, ek, ev⟩
      · cases ek
        have hold : ∀ b o, s.heap.get? b = some o → h'.get? b = some o := fun b o e => by
          refine hk b o (fun hm => ?_) (Heap.get?_push_of_some _ e)
          rcases List.mem_cons.mp hm with e1 | hm
          · exact absurd (e1 ▸ Heap.lt_size e) (Nat.lt_irrefl _)
          · cases hm
        subst ev
        refine ⟨.int y, H, I.kept (t' := tk) hold, ⟨t, rfl⟩, q y (List.mem_of_getElem? e4) fun w hw => ?_⟩
        obtain ⟨j, hj⟩ := List.mem_iff_getElem?.mp hw
        have hjl : j < ks.length := (List.getElem?_eq_some_iff.mp hj).1
        have := b2 j (by omega)
        show y ≤ w
        have ey : val m = y := by show ks[m]?.getD 0 = y; rw [e4]; rfl
        have ew : val j = w := by show ks[j]?.getD 0 = w; rw [hj]; rfl
        rw [ey, ew] at this
        exact this
      · cases ek
/-! ### // by any divisor of less than 9000 bits -/
def CDivB (_ j : Int) : Prop := j ≠ 0 ∧ j.natAbs.log2 < 9000
theorem op_fdivB {X : Cx} : OpR X (binaryOp .FloorDiv) (L2.rI CDivB fun i j => .int (i.fdiv j)) := opI fun _ _ _ _ _ _ _ hc q => floordiv_int hc.1 q (.inl (PyProof.noPylong_of_log2 hc.2))
theorem divB_ok {i j : Int} (h0 : j ≠ 0) (h : j.natAbs < 2 ^ 9000) : CDivB i j := ⟨h0, by
  have hj : j.natAbs ≠ 0 := by omega
  exact (Nat.log2_lt hj).mpr h⟩
section
variable {G : Gm} {X : Cx} {N : List Str} {sc : Scope} {n : Nat} {τ τ1 : Tau} {k : KK} {P : Po} {y : Kd} {e a b c tg iter elt kx vx : Expr} {es elts ifs : List Expr} {pos p tpos spos py px pz pt : Pos} {kt : Tau → Prop} {st : Stmt} {sts : List Stmt} {kk : Nat}
theorem E_fdivB (h : E X a τ fun x τ1 => ∃ i, Fz x (.im rI i) ∧ E X b τ1 fun y τ2 => ∃ j, Fz y (.im rI j) ∧ CDivB i j ∧ k (.im rI (i.fdiv j)) τ2) : E X (.BinOp a .FloorDiv b pos) τ k :=
  E.of (pe_op op_fdivB pe_sem pe_sem) (w_opI (D := rI) (f := fun i j => i.fdiv j) (fun _ _ _ => rfl) h)
/-- ways that meet again -/
theorem S_join (J : Tau → Prop) (h1 : S1 X st τ { P with nx := J }) (h2 : ∀ τ', J τ' → S X sts τ' P) : S X (st :: sts) τ P :=
  S_cons fun σ H F R0 R D ok q => h1 σ H F R0 R D ok ⟨fun τ' σ' R' H' hj => q.nx τ' σ' R' H' (h2 τ' hj), q.rt, q.bk, q.ct⟩
/-- min(d): the least key -/
theorem E_minD {β : Type} (B : DR β) (hX : XF G X N sc n) (hg : sc.names.lookup ("min" : Str) = some .globalImplicit) (hm : G.mg ("min" : Str) = none) (hs : noStar [e] = true)
    (h : T.P X e τ fun pl τ1 => ∃ x d, pl.kd τ1 = some x ∧ DOf x B d ∧ d ≠ [] ∧ ∀ m, m ∈ d.map (·.1) → (∀ y ∈ d.map (·.1), m ≤ y) → k (.im rI m) τ1) : E X (.Call (.Name "min" p) [e] [] pos) τ k :=
  E.of (pe_callB (call_minD hX.calm) (hX.gl hg) (hX.mgN hm) boot_minB (pa1 hs) (he := star_of hs _ _ (List.suffix_refl _))) fun σ H F R0 R Q ok q =>
    h σ H F R0 R _ ok fun pl τ1 v R1 H1 ⟨x, d, ex, hd, hz, hk⟩ l1 ok1 at1 => by
      obtain ⟨pa, kvs, e1, h1, h2⟩ := hd R1 H1 v ok1.le (Pl.rel ok1 at1 ex)
      have hkeys : ∀ {kvs : List (Key × V)} {d : List (Int × β)}, KVs B R1 kvs d → kvs.map (·.1) = (d.map (·.1)).map Sum.inl := by
        intro kvs d h
        unfold KVs at h
        induction h with
        | nil => rfl
        | cons r t ih => rw [List.map_cons, List.map_cons, List.map_cons, ih, r.1]
      refine ⟨pa, kvs, d.map (·.1), by rw [e1], h1, hkeys h2, ?_, fun m hm1 hm2 => q _ τ1 _ R1 H1 (hk m hm1 hm2) l1 ok1 (VOk.im rfl)⟩
      cases d with
      | nil => exact absurd rfl hz
      | cons => simp
/-- enumerate of a tuple -/
theorem itOk_enumT {K : PySem.W.Frag} {F R : Hp} {α : Type} {A : DR α} {p : Addr} {xs : List V} {l : List α} (h : SqT K R p xs) (hp : Paired (A.rel R) xs l) : ItOk (IteT K p) F R (l.mapIdx fun i a => .im (rPair K rI A) ((i : Int), a)) where
  go := fun F' R' H i _ _ l1 l2 hi => by
    rw [List.length_mapIdx, ← PySem.Paired.length hp] at hi
    exact ⟨xs, xs[i], (l2.up l1).sqT h, List.getElem?_eq_getElem hi⟩
  stop := fun F' R' H _ _ l1 l2 => ⟨xs, (l2.up l1).sqT h, by rw [List.length_mapIdx, ← PySem.Paired.length hp]; exact Nat.le_refl _⟩
  yld := fun F' R0 R' H σ τ i y x H' _ ok l1 ey ⟨T, u, e, hT, e', hy⟩ => by
    subst e; subst e'
    rw [List.getElem?_mapIdx] at ey
    cases ea : l[i]? with
    | none => rw [ea] at ey; cases ey
    | some a =>
      rw [ea] at ey
      cases ey
      have hx := hy xs ((ok.le.up l1).sqT h)
      obtain ⟨hR, _⟩ := ok.fresh hT
      exact ⟨upd R' T (.tup [V.int (i : Nat), u]), Le.upd hR, ok.lay hT, trivial, T, V.int (i : Nat), u, rfl, .inl (.inl upd_same), rfl, A.up (l1.trans (Le.upd hR)) (paired_get' hp i u a hx ea)⟩
theorem I_enumT (hX : XF G X N sc n) (hg : sc.names.lookup ("enumerate" : Str) = some .globalImplicit) (hm : G.mg ("enumerate" : Str) = none) (hs : noStar [a] = true) {k : List Kd → Tau → Prop}
    (h : E X a τ fun x τ1 => ∃ α, ∃ A : DR α, ∃ l, Fz x (.im (rT G.K A) l) ∧ k (l.mapIdx fun i a => .im (rPair G.K rI A) ((i : Int), a)) τ1) : It X (.Tuple elts kk tpos) (.Call (.Name "enumerate" p) [a] [] pos) τ k :=
  It.of (pi_enumT (hX.gl hg) (hX.mgN hm) (pa_cons pe_sem pa_nil (by cases a <;> first | rfl | (simp [noStar] at hs))) (by cases a <;> first | rfl | (simp [noStar] at hs))) fun σ H F R0 R Rr ok q => h σ H F R0 R _ ok fun x τ1 v R1 H1 ⟨α, A, l, fz, hk⟩ l1 ok1 w1 => by
    obtain ⟨R2, l2, ok2, ⟨pa, xs, e1, hq, hp⟩⟩ := fz_rel ok1 w1 fz
    refine ⟨pa, xs, by rw [e1], by rw [hX.eK]; exact ok2.le.sqT hq, ?_⟩
    rw [hX.eK]
    exact q _ _ τ1 R2 H1 hk (l1.trans l2) ok2 (itOk_enumT hq hp)
end
end T
end
section
set_option Elab.async false
set_option linter.all false
set_option autoImplicit false
set_option maxRecDepth 100000
set_option maxHeartbeats 2000000
namespace T
open PySem PySem.Spec PyProof.Rows L2 RZ
section
variable {G : Gm} {X : Cx} {N : List Str} {sc : Scope} {n : Nat} {τ τ1 : Tau} {k : KK} {P : Po} {y : Kd} {e a b c tg iter elt kx vx : Expr} {es elts ifs : List Expr} {pos p tpos spos py : Pos} {vs : List Nat} {kt : Tau → Prop} {scope : Scope} {own : List (Str × Nat)}
/-- an expression's run while the dict that a name holds is locked -/
theorem E_lockD {te : TE} {j : Nat} {β : Type} {B : DR β} {d : List (Int × β)} (hpe : PE X e te) (ht : τ[j]? = some (.im (rD B) d))
    (h : ∀ (σ : L2.St) (F R H : Hp) (Q : VK) (p : Addr) (o : Obj) (kvs : List (Key × V)), σ[j]? = some (some (.ref p)) → F p = some (.frz o (.dK kvs)) → H p = some (.frz o (.dK kvs)) → KVs B R kvs d → Ok F R R H σ τ →
      (∀ x τ' v R' H', k x τ' → Le R R' → Ok F R R' H' σ τ' → VOk F R' H' τ' v x → Q v H') → te σ H Q) : E X e τ k := fun σ H F R0 R Q ok q => by
  obtain ⟨pa, kvs, hσ, hR, hkv, hH | ⟨o, hH⟩⟩ := ok.dict ht
  · intro pins s I0
    refine (pe_lock hpe).run pins s σ H Q I0 ⟨pa, .dK kvs, hH, True.intro, fun od => ?_⟩
    have okl := ok.lock (od := od) hR True.intro hH (ok.notOwned hR)
    refine h σ (upd F pa (.frz od (.dK kvs))) R (upd H pa (.frz od (.dK kvs))) _ pa od kvs hσ upd_same upd_same hkv okl fun x τ2 v R2 H2 h2 l2 ok2 w2 => ?_
    obtain ⟨ok3, e3⟩ := ok.unlock hR hH l2 ok2
    refine ⟨e3, q x τ2 v R2 _ h2 l2 ok3 ⟨?_, fun p o => ⟨?_, (w2.own p o).2⟩⟩⟩
    · have hr := w2.rel
      cases x with
      | no => trivial
      | im A a => exact hr
      | ow q' C c =>
        obtain ⟨e1, e2, o', e4, e5⟩ := hr
        have hq : q' ≠ pa := fun z => by
          have := (w2.own q' rfl).1
          rw [z, upd_same] at this; cases this
        exact ⟨e1, e2, o', by rw [upd_ne hq]; exact e4, e5⟩
    · have h1 := (w2.own p o).1
      have hq : p ≠ pa := fun z => by rw [z, upd_same] at h1; cases h1
      rw [upd_ne hq] at h1; exact h1
  · intro pins s I0
    refine hpe.run pins s σ H Q I0 ?_
    have okl : Ok (upd F pa (.frz o (.dK kvs))) R R H σ τ := ⟨ok.len, fun a u e => by
        by_cases h : a = pa
        · subst h; rw [upd_same] at e; cases e; exact hH
        · rw [upd_ne h] at e; exact ok.fr a u e, ok.le, Le.refl R, fun a h _ => h, ok.sl, fun i k p e oo => by
        have h : p ≠ pa := fun z => ok.notOwned hR i k e (by rw [← z]; exact oo)
        rw [upd_ne h]; exact ok.ff i k p e oo, ok.inj, ok.nt⟩
    have back : ∀ {τ2 : Tau} {σ2 : L2.St} {R2 H2 : Hp}, Le R R2 → Ok (upd F pa (.frz o (.dK kvs))) R R2 H2 σ2 τ2 → Ok F R0 R2 H2 σ2 τ2 := fun {τ2 σ2 R2 H2} l ok2 => by
      have hF : ∀ a u, F a = some u → upd F pa (.frz o (.dK kvs)) a ≠ none := fun a u e => by
        by_cases h : a = pa
        · subst h; rw [upd_same]; simp
        · rw [upd_ne h, e]; simp
      refine ⟨ok2.len, fun a u e => ?_, ok2.le, ok.r0.trans l, fun a h1 h2 => ?_, ok2.sl, fun i k p e oo => ?_, ok2.inj, ok2.nt⟩
      · by_cases h : a = pa
        · subst h
          have h1 := ok.fr a u e
          rw [hH] at h1; cases h1
          exact ok2.fr a _ upd_same
        · exact ok2.fr a u (by rw [upd_ne h]; exact e)
      · cases hf : F a with
        | none => exact absurd hf h2
        | some u => exact ok2.nw a (ok.nw a h1 h2) (hF a u hf)
      · have h1 := ok2.ff i k p e oo
        have h : p ≠ pa := fun z => by rw [z, upd_same] at h1; cases h1
        rw [upd_ne h] at h1; exact h1
    refine h σ (upd F pa (.frz o (.dK kvs))) R H _ pa o kvs hσ upd_same hH hkv okl fun x τ2 v R2 H2 h2 l2 ok2 w2 => ?_
    refine q x τ2 v R2 _ h2 l2 (back l2 ok2) ⟨w2.rel, fun p oo => ⟨?_, (w2.own p oo).2⟩⟩
    have h1 := (w2.own p oo).1
    have h : p ≠ pa := fun z => by rw [z, upd_same] at h1; cases h1
    rw [upd_ne h] at h1; exact h1
theorem Ok.unwipe {F R0 R H : Hp} {σ : L2.St} {vs : List Nat} (ok' : Ok F R0 R H (wipe σ vs) τ) : Ok F R0 R H σ τ := by
  refine ⟨?_, ok'.fr, ok'.le, ok'.r0, ok'.nw, fun i kd e => ?_, ok'.ff, ok'.inj, ok'.nt⟩
  · have := ok'.len
    rw [wipe_length] at this
    exact this
  · rcases ok'.sl i kd e with z | ⟨v, hv, r⟩
    · exact .inl z
    · refine .inr ⟨v, ?_, r⟩
      cases hw : (wipe σ vs)[i]? with
      | none => rw [hw] at hv; cases hv
      | some u =>
        rw [hw] at hv
        have hu : u = some v := hv
        subst hu
        rw [(wipe_some hw).1]
        rfl
/-- a list comprehension over a dict that a name holds -/
theorem E_lcD {β β0 : Type} (B : DR β) {j : Nat} {B0 : DR β0} {d : List (Int × β0)} {ys : List Kd} (hX : XF G X N sc n) (ok : blkC N sc scope own = true) (ht : τ[j]? = some (.im (rD B0) d)) (hw : DWalk X tg iter j B0 d ys)
    (J : Nat → List β → Tau → Prop) (h0 : J 0 [] (wipeT τ (own.map (·.2)))) (hst : ∀ (i : Nat) y, ys[i]? = some y → LcTurn G X N sc scope n (own.map (·.2)) tg elt ifs B J i y)
    (hd : ∀ out τ', J ys.length out τ' → ∀ p, k (.ow p (cL B) out) τ') (hs : ∀ x, foldedSetIterable iter X.env x = pure x := by intro _; rfl) : E X (.ListComp elt [⟨tg, iter, ifs, 0⟩] scope pos) τ k :=
  E_lockD (pe_lc (own := own) (g := gB X scope tg) (tt := cB X scope ifs) (te := eB X scope elt) hX.calm (by rw [hX.eN]; exact hX.nd) pi_sem (by rw [hX.eN, hX.es]; exact blkOk_by ok)
    (fun s H C cl fp => ⟨fun pins s' σ H' v u Q I r hq => hq s H C cl fp pins s' u I r⟩) (fun s H C cl fp => ⟨fun pins s' σ H' Q I hq => hq s H C cl fp pins s' I⟩) (fun s H C cl fp => ⟨fun pins s' σ H' Q I hq => hq s H C cl fp pins s' I⟩) hs) ht
    fun σ F R H Q p o kvs hσ hF hH hkv ok q => hw F R H σ _ p o kvs hσ hF hH hkv fun J' hJ D hD =>
      lc_core' hX (Le.refl F) hJ ok J h0 hst (fun out τ' R' H' D hj l ok' w => q _ τ' (.ref D) R' H' (hd out τ' hj D) l ok'.unwipe w) D hD
/-- what a dict comprehension's turn shows -/
def DcTurn {β : Type} (G : Gm) (X : Cx) (N : List Str) (sc scope : Scope) (n : Nat) (vs : List Nat) (tg kx vx : Expr) (ifs : List Expr) (B : DR β) (J : Nat → List (Int × β) → Tau → Prop) (i : Nat) (y : Kd) : Prop :=
  ∀ (out : List (Int × β)) (τ' : Tau), J i out τ' → ∀ X', XF G X' N (relS scope sc) n → (∀ x, (scope.names.lookup x == some .cell) = true → X'.fn x = true) → TB X' vs tg y τ' fun τ2 => ∀ X', XF G X' N (relS scope sc) n → Cs X' ifs τ2 fun b τ3 =>
    (b = true → ∀ X', XF G X' N (relS scope sc) n → E X' kx τ3 fun x τ4 => ∃ i', Fz x (.im rI i') ∧ ∀ X', XF G X' N (relS scope sc) n → E X' vx τ4 fun x2 τ5 => ∃ c, Fz x2 (.im B c) ∧ out.length < 100000 ∧ J (i + 1) (dput out i' c) (wipeT τ5 vs)) ∧ (b = false → J (i + 1) out (wipeT τ3 vs))
theorem dc_core' {β : Type} {B : DR β} {scope : Scope} {J : L2.It} {F F' R0 R1 H1 : Hp} {σ : L2.St} {ys : List Kd} {Q : VK} (hX : XF G X N sc n) (hF : Le F F') (hJ : ItOk J F R1 ys) (ok1 : Ok F' R0 R1 H1 σ τ1) (Jv : Nat → List (Int × β) → Tau → Prop) (h0 : Jv 0 [] (wipeT τ1 vs))
    (hs : ∀ (i : Nat) y, ys[i]? = some y → DcTurn G X N sc scope n vs tg kx vx ifs B Jv i y)
    (hq : ∀ out τ' R' H' D, Jv ys.length out τ' → Le R1 R' → Ok F' R0 R' H' (wipe σ vs) τ' → VOk F' R' H' τ' (.ref D) (.ow D (cD B) out) → Q (.ref D) H') (D : Addr) (hD : H1 D = none) :
    ∃ Wd : Nat → Nat → Hp → Prop, (∃ m, Wd 0 m (upd H1 D (.dK []))) ∧ ∀ i m H, Wd i m H →
      (J.stop i H ∧ Q (.ref D) H) ∨ (J.go i H ∧ ∃ Nx : Hp → Prop, (∀ H', Nx H' → ∃ m', m' < m ∧ Wd (i + 1) m' H') ∧ ∀ x H', J.yld i H x H' → gB X scope tg x (wipe σ vs) H' fun σ2 H2 => wipe σ2 vs = wipe σ vs ∧ cB X scope ifs σ2 H2 fun b H3 =>
        if b = true then eB X scope kx σ2 H3 fun y H4 => eB X scope vx σ2 H4 fun z H5 => ∃ kvs k, y = kV k ∧ H5 D = some (.dK kvs) ∧ kvs.length < sizeLine ∧ Nx (upd H5 D (.dK (putK kvs k z))) else Nx H3) := by
  obtain ⟨hR1, hF1, hn1⟩ := ok1.fresh hD
  have ww : wipe (wipe σ vs) vs = wipe σ vs := by
    have key : ∀ (σ : L2.St) (us : List Nat), (∀ u ∈ us, u ∈ vs) → wipe (wipe σ us) vs = wipe σ vs := by
      intro σ us
      induction us with
      | nil => intro _; rfl
      | cons u us ih =>
        intro h
        show wipe ((wipe σ us).set u none) vs = _
        rw [wipe_set_in (h u List.mem_cons_self), ih fun w hw => h w (List.mem_cons_of_mem _ hw)]
    exact key σ vs fun _ h => h
  refine ⟨fun i m H => m = ys.length - i ∧ i ≤ ys.length ∧ ∃ out τ' R' acc, Jv i out τ' ∧ Le R1 R' ∧ Ok F' R0 R' H (wipe σ vs) τ' ∧ R' D = none ∧ H D = some (.dK acc) ∧ KVs B R' acc out ∧ ∀ (i : Nat) k, τ'[i]? = some k → ¬ owns k D,
    ⟨ys.length, by simp, Nat.zero_le _, [], wipeT τ1 vs, R1, [], h0, Le.refl R1, (ok1.new hD).wiped vs, hR1, upd_same, .nil, fun i k e o => ?_⟩, ?_⟩
  · have key : ∀ us : List Nat, ∀ (i : Nat) k, (wipeT τ1 us)[i]? = some k → ¬ owns k D := by
      intro us
      induction us with
      | nil => exact hn1
      | cons u us ih =>
        intro i k e o
        have e' : ((wipeT τ1 us).set u .no)[i]? = some k := e
        by_cases hu : u = i
        · subst hu
          by_cases hv : u < (wipeT τ1 us).length
          · rw [List.getElem?_set_self hv] at e'; cases e'; exact o
          · rw [List.getElem?_eq_none (by simpa using hv)] at e'; cases e'
        · rw [List.getElem?_set_ne hu] at e'
          exact ih i k e' o
    exact key vs i k e o
  · rintro i m H ⟨rfl, hi, out, τ', R', acc, hj, l1, ok, hRD, hHD, hp, hno⟩
    by_cases hlt : i < ys.length
    · refine .inr ⟨hJ.go F' R' H i hF ok.fr l1 ok.le hlt, fun H' => i + 1 ≤ ys.length ∧ ∃ out τ' R' acc, Jv (i + 1) out τ' ∧ Le R1 R' ∧ Ok F' R0 R' H' (wipe σ vs) τ' ∧ R' D = none ∧ H' D = some (.dK acc) ∧ KVs B R' acc out ∧ ∀ (i : Nat) k, τ'[i]? = some k → ¬ owns k D,
        fun H' ⟨h1, h2⟩ => ⟨ys.length - (i + 1), by omega, rfl, h1, h2⟩, fun x H2 hy => ?_⟩
      have okh := ok.hold (u := .dK acc) hRD hHD hno
      obtain ⟨R2, l2, ok2, im, rel⟩ := hJ.yld (upd F' D (.dK acc)) R' R' H (wipe σ vs) τ' i _ x H2 (fun a o e => Le.upd hF1 a o (hF a o e)) okh l1 (List.getElem?_eq_getElem hlt) hy
      have wv : VOk (upd F' D (.dK acc)) R2 H2 τ' x ys[i] := ⟨rel, fun p o => by
        cases hk : ys[i] with
        | no => rw [hk] at im; exact im.elim
        | im => rw [hk] at o; exact o.elim
        | ow => rw [hk] at im; exact im.elim⟩
      have turn := hs i _ (List.getElem?_eq_getElem hlt) out τ' hj
      intro s0 H0 Cc cl fp
      refine turn _ (hX.blk s0 H0 scope Cc cl fp) (fun x hx => hx) (wipe σ vs) H2 (upd F' D (.dK acc)) R' R2 x _ ok2 wv fun τ3 σ3 R3 H3 h3 e3 l3 ok3 => ⟨e3.trans ww, ?_⟩
      intro s1 H01 Cc1 cl1 fp1
      have l13 := (l1.trans l2).trans l3
      have next : ∀ {τ4 : Tau} {σ4 : L2.St} {R4 H4 : Hp} {out' : List (Int × β)}, wipe σ4 vs = wipe σ vs → Le R' R4 → Ok (upd F' D (.dK acc)) R' R4 H4 σ4 τ4 → Jv (i + 1) out' (wipeT τ4 vs) →
          Ok F' R0 R4 H4 (wipe σ vs) (wipeT τ4 vs) ∧ H4 D = some (.dK acc) ∧ R4 D = none ∧ ∀ (i : Nat) k, (wipeT τ4 vs)[i]? = some k → ¬ owns k D := fun {τ4 σ4 R4 H4 out'} ew l4 ok4 _ => by
        have okw := ok4.wiped vs
        rw [ew] at okw
        obtain ⟨a1, a2, a3, a4⟩ := ok.drop hF1 l4 okw
        exact ⟨a1, a2, a3 hRD, a4⟩
      refine h3 _ (hX.blk s1 H01 scope Cc1 cl1 fp1) σ3 H3 (upd F' D (.dK acc)) R' R3 _ ok3 fun b τ4 R4 H4 ⟨ht, hf⟩ l4 ok4 => ?_
      cases b with
      | false =>
        refine iteF ?_
        have hj4 := hf rfl
        obtain ⟨a1, a2, a3, a4⟩ := next (e3.trans ww) ((l2.trans l3).trans l4) ok4 hj4
        exact ⟨hlt, out, _, R4, acc, hj4, l13.trans l4, a1, a3, a2, L2.Paired.mapP hp fun _ _ z => ⟨z.1, B.up ((l2.trans l3).trans l4) z.2⟩, a4⟩
      | true =>
        refine iteT ?_
        intro s2 H02 Cc2 cl2 fp2
        refine ht rfl _ (hX.blk s2 H02 scope Cc2 cl2 fp2) σ3 H4 (upd F' D (.dK acc)) R' R4 _ ok4 fun x5 τ5 v5 R5 H5 ⟨i', fz, hv⟩ l5 ok5 w5 => ?_
        obtain ⟨R6, l6, ok6, rel6⟩ := fz_rel ok5 w5 fz
        intro s3 H03 Cc3 cl3 fp3
        refine hv _ (hX.blk s3 H03 scope Cc3 cl3 fp3) σ3 H5 (upd F' D (.dK acc)) R' R6 _ ok6 fun x7 τ7 v7 R7 H7 ⟨c, fz', hz, hj5⟩ l7 ok7 w7 => ?_
        obtain ⟨R8, l8, ok8, rel8⟩ := fz_rel ok7 w7 fz'
        have l28 := (((l2.trans l3).trans l4).trans (l5.trans l6)).trans (l7.trans l8)
        obtain ⟨a1, a2, a3, a4⟩ := next (e3.trans ww) l28 ok8 hj5
        have ek : v5 = kV (.inl i' : Key) := by
          have z : v5 = V.int i' := rel6
          rw [z]; rfl
        have hp8 : KVs B R8 acc out := L2.Paired.mapP hp fun _ _ z => ⟨z.1, B.up l28 z.2⟩
        refine ⟨acc, .inl i', ek, a2, by rw [sizeLine_eq, PySem.Paired.length hp]; omega, hlt, dput out i' c, _, R8, putK acc (.inl i') v7, hj5, l1.trans l28, ?_, a3, upd_same, kvs_put hp8 i' rel8, a4⟩
        refine ⟨a1.len, fun a o e => ?_, fun a o e => ?_, a1.r0, a1.nw, fun j kd e => ?_, a1.ff, a1.inj, a1.nt⟩
        · have hn : a ≠ D := fun z => by rw [z, hF1] at e; cases e
          rw [upd_ne hn]; exact a1.fr a o e
        · have hn : a ≠ D := fun z => by rw [z, a3] at e; cases e
          rw [upd_ne hn]; exact a1.le a o e
        · rcases a1.sl j kd e with z | ⟨v, hv, r⟩
          · exact .inl z
          · refine .inr ⟨v, hv, ?_⟩
            cases kd with
            | no => trivial
            | im A a => exact r
            | ow q C c =>
              obtain ⟨e1, e2, o, e4, e5⟩ := r
              exact ⟨e1, e2, o, by rw [upd_ne (fun z => a4 j _ e z)]; exact e4, e5⟩
    · have e : i = ys.length := by omega
      subst e
      refine .inl ⟨hJ.stop F' R' H hF ok.fr l1 ok.le, hq out τ' R' H D hj l1 ok ⟨⟨rfl, hRD, _, hHD, acc, rfl, hp⟩, fun p o => ?_⟩⟩
      cases o
      exact ⟨hF1, hno⟩
/-- {kx: vx for tg in iter if ..} -/
theorem E_dc {β : Type} (B : DR β) (hX : XF G X N sc n) (ok : blkC N sc scope own = true)
    (h : It X tg iter τ fun ys τ1 => ∃ J : Nat → List (Int × β) → Tau → Prop, J 0 [] (wipeT τ1 (own.map (·.2))) ∧ (∀ (i : Nat) y, ys[i]? = some y → DcTurn G X N sc scope n (own.map (·.2)) tg kx vx ifs B J i y) ∧
      ∀ out τ', J ys.length out τ' → ∀ p, k (.ow p (cD B) out) τ') (hs : ∀ x, foldedSetIterable iter X.env x = pure x := by intro _; rfl) : E X (.DictComp kx vx [⟨tg, iter, ifs, 0⟩] scope pos) τ k :=
  E.of (pe_dc (own := own) (g := gB X scope tg) (tt := cB X scope ifs) (tk := eB X scope kx) (tv := eB X scope vx) hX.calm (by rw [hX.eN]; exact hX.nd) pi_sem (by rw [hX.eN, hX.es]; exact blkOk_by ok)
    (fun s H C cl fp => ⟨fun pins s' σ H' v u Q I r hq => hq s H C cl fp pins s' u I r⟩) (fun s H C cl fp => ⟨fun pins s' σ H' Q I hq => hq s H C cl fp pins s' I⟩) (fun s H C cl fp => ⟨fun pins s' σ H' Q I hq => hq s H C cl fp pins s' I⟩) (fun s H C cl fp => ⟨fun pins s' σ H' Q I hq => hq s H C cl fp pins s' I⟩) hs) fun σ H F R0 R Q ok q =>
    h σ H F R0 R _ ok fun J ys τ1 R1 H1 ⟨Jv, h0, hs', hd⟩ l1 ok1 hJ D hD =>
      dc_core' hX (Le.refl F) hJ ok1 Jv h0 hs' (fun out τ' R' H' D hj l ok' w => q _ τ' (.ref D) R' H' (hd out τ' hj D) (l1.trans l) ok'.unwipe w) D hD
theorem E_dcD {β β0 : Type} (B : DR β) {j : Nat} {B0 : DR β0} {d : List (Int × β0)} {ys : List Kd} (hX : XF G X N sc n) (ok : blkC N sc scope own = true) (ht : τ[j]? = some (.im (rD B0) d)) (hw : DWalk X tg iter j B0 d ys)
    (J : Nat → List (Int × β) → Tau → Prop) (h0 : J 0 [] (wipeT τ (own.map (·.2)))) (hst : ∀ (i : Nat) y, ys[i]? = some y → DcTurn G X N sc scope n (own.map (·.2)) tg kx vx ifs B J i y)
    (hd : ∀ out τ', J ys.length out τ' → ∀ p, k (.ow p (cD B) out) τ') (hs : ∀ x, foldedSetIterable iter X.env x = pure x := by intro _; rfl) : E X (.DictComp kx vx [⟨tg, iter, ifs, 0⟩] scope pos) τ k :=
  E_lockD (pe_dc (own := own) (g := gB X scope tg) (tt := cB X scope ifs) (tk := eB X scope kx) (tv := eB X scope vx) hX.calm (by rw [hX.eN]; exact hX.nd) pi_sem (by rw [hX.eN, hX.es]; exact blkOk_by ok)
    (fun s H C cl fp => ⟨fun pins s' σ H' v u Q I r hq => hq s H C cl fp pins s' u I r⟩) (fun s H C cl fp => ⟨fun pins s' σ H' Q I hq => hq s H C cl fp pins s' I⟩) (fun s H C cl fp => ⟨fun pins s' σ H' Q I hq => hq s H C cl fp pins s' I⟩) (fun s H C cl fp => ⟨fun pins s' σ H' Q I hq => hq s H C cl fp pins s' I⟩) hs) ht
    fun σ F R H Q p o kvs hσ hF hH hkv ok q => hw F R H σ _ p o kvs hσ hF hH hkv fun J' hJ D hD =>
      dc_core' hX (Le.refl F) hJ ok J h0 hst (fun out τ' R' H' D hj l ok' w => q _ τ' (.ref D) R' H' (hd out τ' hj D) l ok'.unwipe w) D hD
end
end T
end
section
set_option Elab.async false
set_option linter.all false
set_option autoImplicit false
set_option maxRecDepth 100000
set_option maxHeartbeats 2000000
namespace T
open PySem PySem.Spec PyProof.Rows L2 RZ
section
variable {G : Gm} {X : Cx} {N : List Str} {sc : Scope} {n : Nat} {τ τ1 : Tau} {k : KK} {P : Po} {y : Kd} {e a b c tg iter elt kx vx : Expr} {es elts ifs : List Expr} {pos p tpos spos py : Pos} {vs : List Nat} {kt : Tau → Prop} {scope : Scope} {own : List (Str × Nat)}
/-- a value, frozen or told otherwise -/
theorem E_fz (h : E X e τ fun x τ1 => ∃ y, Fz x y ∧ k y τ1) : E X e τ k := fun σ H F R0 R Q ok q =>
  h σ H F R0 R Q ok fun x τ1 v R1 H1 ⟨y, fz, hk⟩ l1 ok1 w1 => by
    obtain ⟨R2, l2, ok2, r2, w2⟩ := VOk.freeze ok1 w1 fz
    exact q y τ1 v R2 H1 hk (l1.trans l2) ok2 w2
/-- list(d), d a dict that a name owns: its keys -/
theorem E_listD {j : Nat} {x : Str} {β : Type} {B : DR β} {q : Addr} {d : List (Int × β)} {cp : Pos} (hX : XF G X N sc n) (hg : sc.names.lookup ("list" : Str) = some .globalImplicit) (hm : G.mg ("list" : Str) = none) (hN : N[j]? = some x) (hv : Vis sc x) (ht : τ[j]? = some (.ow q (cD B) d))
    (h : ∀ p, k (.ow p (cL rI) (d.map (·.1))) τ) (hd : (x == ("__debug__" : Str)) = false := by decide) (hcd : (x == ("__classdict__" : Str)) = false := by decide) : E X (.Call (.Name "list" p) [.Name x cp] [] pos) τ k :=
  E.of (pe_callTy (call_list_dK hX.calm) (hX.gl hg) (hX.mgN hm) boot_listB (pa_cons (pn hX hN hv hd hcd) pa_nil) (he := by rfl)) fun σ H F R0 R Q ok qq => by
    obtain ⟨hs, hR, hF, o, hH, kvs, eo, hp⟩ := ok.cell ht
    subst eo
    refine ⟨.ref q, hs, q, kvs, rfl, hH, fun p hp' => ?_⟩
    obtain ⟨hR', hF', ho⟩ := ok.fresh hp'
    have hk : ∀ {kvs : List (Key × V)} {d : List (Int × β)}, KVs B R kvs d → Paired (rI.rel R) (kvs.map fun kv => kV kv.1) (d.map (·.1)) := by
      intro kvs d h
      unfold KVs at h
      induction h with
      | nil => exact .nil
      | @cons p c kvs d r t ih =>
        refine .cons ?_ ih
        show kV p.1 = V.int c.1
        rw [r.1]; rfl
    exact qq _ τ _ R _ (h p) (Le.refl R) (ok.new hp') ⟨⟨rfl, hR', _, upd_same, _, rfl, hk hp⟩, fun p' z => by cases z; exact ⟨hF', ho⟩⟩
end
/-! ### given numbers: ints, or pairs in any form -/
abbrev Giv := Sum Int (Int × Int)
def rGiv (K : PySem.W.Frag) : DR Giv := ⟨fun R v g => match g with
  | .inl i => v = .int i
  | .inr p => (rPair K rI rI).rel R v p, fun {_ _ _ g} l h => match g, h with
  | .inl _, h => h
  | .inr _, h => (rPair K rI rI).up l h⟩
def gv : Giv → Rat
  | .inl i => (i : Rat)
  | .inr p => (p.1 : Rat) / (p.2 : Rat)
def okG : Giv → Prop
  | .inl _ => True
  | .inr p => p.2 ≠ 0 ∧ p.2.natAbs < 2 ^ 9000
theorem giv_Q {K : PySem.W.Frag} {R : Hp} {v : V} {q : Rat} (h : (rQ K).rel R v q) : (rGiv K).rel R v (.inr (q.num, (q.den : Int))) := by
  obtain ⟨a, e, h⟩ := h
  exact ⟨a, _, _, e, h, rfl, rfl⟩
theorem un_giv {K : PySem.W.Frag} {p : Int × Int} : UnT K (.im (rGiv K) (.inr p)) [.im rI p.1, .im rI p.2] := fun R H v l h => un_pair (K := K) (A := rI) (B := rI) (q := p) R H v l h
theorem gv_Q (q : Rat) : gv (.inr (q.num, (q.den : Int))) = q := by
  show (q.num : Rat) / ((q.den : Int) : Rat) = q
  rw [← Rat.divInt_eq_div, Rat.num_divInt_den]
end T
end
section
set_option Elab.async false
set_option linter.all false
set_option autoImplicit false
set_option maxRecDepth 100000
set_option maxHeartbeats 4000000
namespace T
open PySem PySem.Spec PyProof.Rows L2 RZ
theorem swD_true {kx vx : Expr} {gs : List Comprehension} {scope : Scope} {pos py : Pos} {y : Str} {l : Nat} {env : PySem.Env} (hk : env.scope.kind = .function) (hy : env.scope.names.lookup y = some .local) (hl : (py.line == pos.line) = true)
    (ha : (scope.names.any fun (n, k) => n == y && (k == .local || k == .cell)) = false) : swapsWith (.DictComp kx vx gs scope pos) (some (.Name y py)) l env = pure true := by
  have ky : env.kindOf y = some .local := hy
  have hb : env.blockKind = .function := by unfold Env.blockKind; rw [hk]; rfl
  unfold swapsWith
  simp only [hb, ky, ha, Expr.pos, hl]
  rfl
theorem ps_setDc {X : Cx} {i : Nat} {y : Str} {py : Pos} {kx vx tg iter : Expr} {ifs : List Expr} {scope : Scope} {own : List (Str × Nat)} {pos spos : Pos} {wi : TI} {g : TG} {tt : TT} {tk tv : TE} (hc : X.calm = true) (hN : X.N.Nodup) (hy : X.N[i]? = some y) (hyl : X.env.scope.names.lookup y = some .local)
    (hsw : swapsWith (.DictComp kx vx [⟨tg, iter, ifs, 0⟩] scope pos) (some (.Name y py)) spos.line X.env = pure true) (hi : PI X tg iter wi) (ok : BlkOk X.N X.env.scope scope own)
    (hg : ∀ (s : Shared) (H : Hp) (C : Addr) (cl : List (Str × Addr)) (fp : List Addr), PG (X.blk s H scope (compEnvC scope cl C X.env) fp) tg g) (ht : ∀ (s : Shared) (H : Hp) (C : Addr) (cl : List (Str × Addr)) (fp : List Addr), PTs (X.blk s H scope (compEnvC scope cl C X.env) fp) ifs tt)
    (hk : ∀ (s : Shared) (H : Hp) (C : Addr) (cl : List (Str × Addr)) (fp : List Addr), PE (X.blk s H scope (compEnvC scope cl C X.env) fp) kx tk)
    (he : ∀ (s : Shared) (H : Hp) (C : Addr) (cl : List (Str × Addr)) (fp : List Addr), PE (X.blk s H scope (compEnvC scope cl C X.env) fp) vx tv) (hs : ∀ x, foldedSetIterable iter X.env x = pure x := by intro _; rfl) :
    PS X (.Assign [.Name y py] (.DictComp kx vx [⟨tg, iter, ifs, 0⟩] scope pos) spos) (tAsg (tDc wi g tt tk tv (own.map (·.2))) (gName i)) := by
  refine ⟨fun pins s σ H D I h => ?_⟩
  rw [exec_Assign_Name_used _ _ _ _ hsw]
  refine wpAny_bind (wpAny_standAt (wpAny_bind ?_))
  show wpAny _ X.A (do let _ ← comprehension (.DictComp kx vx [⟨tg, iter, ifs, 0⟩] scope pos) scope X.env (firstIterPos [⟨tg, iter, ifs, 0⟩] pos) newDict false (eval iter X.env) (some (assign (.Name y py) X.env))) _ _ s
  have h : tDc wi g tt tk tv (own.map (·.2)) σ H (fun x H1 => gName i x σ H1 D.nx) := h
  refine wpAny_bind (thn (dc_core (Qf := fun _ s' => SP X pins D .next s') hc hN I hi ok hg ht hk he hs h fun L C s' m H' I' q hn f => ?_) fun _ s' hq => wpAny_pure (wpAny_pure hq))
  show wpAny _ _ (assign (.Name y py) X.env (.ref L)) _ _ _
  refine wpAny_assign_Name (store_ok2 (v := V.ref L) I' hN hy (.inl hyl) rfl (fun s2 I2 ⟨a, sb, ha⟩ => ?_) (.inr hyl))
  obtain ⟨f0, f1, f2, f3, f4, f5⟩ := f
  have haC : C ≠ a := by
    rcases ha with z | z
    · rw [z]; exact f1
    · exact fun e => f4 y a z e.symm
  refine ⟨m, hn.sameBut sb haC, fun h3 sb3 => ?_⟩
  exact ⟨_, H', I2.turned (t' := s2.toks) (fun b o hb e => (sb3.2 b hb).trans e) f0 f1 f3 f4 f5, q⟩
section
variable {G : Gm} {X : Cx} {N : List Str} {sc : Scope} {n : Nat} {τ τ1 : Tau} {k : KK} {P : Po} {y : Kd} {e a b c tg iter elt kx vx : Expr} {es elts ifs : List Expr} {pos p tpos spos py : Pos} {vs : List Nat} {kt : Tau → Prop} {scope : Scope} {own : List (Str × Nat)}
/-- a statement's run while the dict that a name holds is locked; it ends by going on -/
theorem S1_lockD {t : TS} {st : Stmt} {j : Nat} {β : Type} {B : DR β} {d : List (Int × β)} (hpe : PS X st t) (ht : τ[j]? = some (.im (rD B) d))
    (h : ∀ (σ : L2.St) (F R H : Hp) (D : L2.Ends) (p : Addr) (o : Obj) (kvs : List (Key × V)), σ[j]? = some (some (.ref p)) → F p = some (.frz o (.dK kvs)) → H p = some (.frz o (.dK kvs)) → KVs B R kvs d → Ok F R R H σ τ →
      (∀ τ' σ' R' H', P.nx τ' → Le R R' → Ok F R R' H' σ' τ' → D.nx σ' H') → t D σ H) : S1 X st τ P := fun σ H F R0 R D ok q => by
  obtain ⟨pa, kvs, hσ, hR, hkv, hH | ⟨o, hH⟩⟩ := ok.dict ht
  · intro pins s I0
    refine (ps_lock hpe).run pins s σ H D I0 ⟨pa, .dK kvs, hH, True.intro, fun od => ?_⟩
    have okl := ok.lock (od := od) hR True.intro hH (ok.notOwned hR)
    refine h σ (upd F pa (.frz od (.dK kvs))) R (upd H pa (.frz od (.dK kvs))) _ pa od kvs hσ upd_same upd_same hkv okl fun τ2 σ2 R2 H2 h2 l2 ok2 => ?_
    obtain ⟨ok3, e3⟩ := ok.unlock hR hH l2 ok2
    exact ⟨e3, q.nx τ2 σ2 R2 _ h2 l2 ok3⟩
  · intro pins s I0
    refine hpe.run pins s σ H D I0 ?_
    have okl : Ok (upd F pa (.frz o (.dK kvs))) R R H σ τ := ⟨ok.len, fun a u e => by
        by_cases h : a = pa
        · subst h; rw [upd_same] at e; cases e; exact hH
        · rw [upd_ne h] at e; exact ok.fr a u e, ok.le, Le.refl R, fun a h _ => h, ok.sl, fun i k p e oo => by
        have h : p ≠ pa := fun z => ok.notOwned hR i k e (by rw [← z]; exact oo)
        rw [upd_ne h]; exact ok.ff i k p e oo, ok.inj, ok.nt⟩
    refine h σ (upd F pa (.frz o (.dK kvs))) R H D pa o kvs hσ upd_same hH hkv okl fun τ2 σ2 R2 H2 h2 l ok2 => q.nx τ2 σ2 R2 _ h2 l ?_
    have hF : ∀ a u, F a = some u → upd F pa (.frz o (.dK kvs)) a ≠ none := fun a u e => by
      by_cases h : a = pa
      · subst h; rw [upd_same]; simp
      · rw [upd_ne h, e]; simp
    refine ⟨ok2.len, fun a u e => ?_, ok2.le, ok.r0.trans l, fun a h1 h2 => ?_, ok2.sl, fun i k p e oo => ?_, ok2.inj, ok2.nt⟩
    · by_cases h : a = pa
      · subst h
        have h1 := ok.fr a u e
        rw [hH] at h1; cases h1
        exact ok2.fr a _ upd_same
      · exact ok2.fr a u (by rw [upd_ne h]; exact e)
    · cases hf : F a with
      | none => exact absurd hf h2
      | some u => exact ok2.nw a (ok.nw a h1 h2) (hF a u hf)
    · have h1 := ok2.ff i k p e oo
      have h : p ≠ pa := fun z => by rw [z, upd_same] at h1; cases h1
      rw [upd_ne h] at h1; exact h1
/-- name = {..} on one line, over what is walked; over a dict that a name holds -/
theorem S1_setDc {β : Type} (B : DR β) {i : Nat} {x : Str} (hX : XF G X N sc n) (hN : N[i]? = some x) (hl : sc.names.lookup x = some .local) (hk : sc.kind = .function) (ok : blkC N sc scope own = true) (hline : (py.line == pos.line) = true)
    (ha : (scope.names.any fun (m, k) => m == x && (k == .local || k == .cell)) = false)
    (h : It X tg iter τ fun ys τ1 => ∃ J : Nat → List (Int × β) → Tau → Prop, J 0 [] (wipeT τ1 (own.map (·.2))) ∧ (∀ (i : Nat) y, ys[i]? = some y → DcTurn G X N sc scope n (own.map (·.2)) tg kx vx ifs B J i y) ∧
      ∀ out τ', J ys.length out τ' → ∀ p, P.nx (τ'.set i (.ow p (cD B) out))) (hs : ∀ x, foldedSetIterable iter X.env x = pure x := by intro _; rfl) : S1 X (.Assign [.Name x py] (.DictComp kx vx [⟨tg, iter, ifs, 0⟩] scope pos) spos) τ P :=
  S1.of (ps_setDc (i := i) (own := own) (g := gB X scope tg) (tt := cB X scope ifs) (tk := eB X scope kx) (tv := eB X scope vx) hX.calm (by rw [hX.eN]; exact hX.nd) (by rw [hX.eN]; exact hN) (by rw [hX.es]; exact hl)
    (swD_true (by rw [hX.es]; exact hk) (by rw [hX.es]; exact hl) hline ha) pi_sem (by rw [hX.eN, hX.es]; exact blkOk_by ok)
    (fun s H C cl fp => ⟨fun pins s' σ H' v u Q I r hq => hq s H C cl fp pins s' u I r⟩) (fun s H C cl fp => ⟨fun pins s' σ H' Q I hq => hq s H C cl fp pins s' I⟩) (fun s H C cl fp => ⟨fun pins s' σ H' Q I hq => hq s H C cl fp pins s' I⟩) (fun s H C cl fp => ⟨fun pins s' σ H' Q I hq => hq s H C cl fp pins s' I⟩) hs) fun σ H F R0 R D ok q =>
    h σ H F R0 R _ ok fun J ys τ1 R1 H1 ⟨Jv, h0, hs', hd⟩ l1 ok1 hJ Dl hD =>
      dc_core' (Q := fun v H' => gName i v σ H' D.nx) hX (Le.refl F) hJ ok1 Jv h0 hs' (fun out τ' R' H' Dl hj l ok' w => q.nx _ _ R' H' (hd out τ' hj Dl) (l1.trans l) (Ok.set' ok'.unwipe i w)) Dl hD
theorem S1_setDcD {β β0 : Type} (B : DR β) {i j : Nat} {x : Str} {B0 : DR β0} {d : List (Int × β0)} {ys : List Kd} (hX : XF G X N sc n) (hN : N[i]? = some x) (hl : sc.names.lookup x = some .local) (hk : sc.kind = .function) (ok : blkC N sc scope own = true) (hline : (py.line == pos.line) = true)
    (ha : (scope.names.any fun (m, k) => m == x && (k == .local || k == .cell)) = false) (ht : τ[j]? = some (.im (rD B0) d)) (hw : DWalk X tg iter j B0 d ys)
    (J : Nat → List (Int × β) → Tau → Prop) (h0 : J 0 [] (wipeT τ (own.map (·.2)))) (hst : ∀ (i : Nat) y, ys[i]? = some y → DcTurn G X N sc scope n (own.map (·.2)) tg kx vx ifs B J i y)
    (hd : ∀ out τ', J ys.length out τ' → ∀ p, P.nx (τ'.set i (.ow p (cD B) out))) (hs : ∀ x, foldedSetIterable iter X.env x = pure x := by intro _; rfl) : S1 X (.Assign [.Name x py] (.DictComp kx vx [⟨tg, iter, ifs, 0⟩] scope pos) spos) τ P :=
  S1_lockD (ps_setDc (i := i) (own := own) (g := gB X scope tg) (tt := cB X scope ifs) (tk := eB X scope kx) (tv := eB X scope vx) hX.calm (by rw [hX.eN]; exact hX.nd) (by rw [hX.eN]; exact hN) (by rw [hX.es]; exact hl)
    (swD_true (by rw [hX.es]; exact hk) (by rw [hX.es]; exact hl) hline ha) pi_sem (by rw [hX.eN, hX.es]; exact blkOk_by ok)
    (fun s H C cl fp => ⟨fun pins s' σ H' v u Q I r hq => hq s H C cl fp pins s' u I r⟩) (fun s H C cl fp => ⟨fun pins s' σ H' Q I hq => hq s H C cl fp pins s' I⟩) (fun s H C cl fp => ⟨fun pins s' σ H' Q I hq => hq s H C cl fp pins s' I⟩) (fun s H C cl fp => ⟨fun pins s' σ H' Q I hq => hq s H C cl fp pins s' I⟩) hs) ht
    fun σ F R H D p o kvs hσ hF hH hkv ok q => hw F R H σ _ p o kvs hσ hF hH hkv fun J' hJ Dl hD =>
      dc_core' (Q := fun v H' => gName i v σ H' D.nx) hX (Le.refl F) hJ ok J h0 hst (fun out τ' R' H' Dl hj l ok' w => q _ _ R' H' (hd out τ' hj Dl) l (Ok.set' ok'.unwipe i w)) Dl hD
theorem S1_setLcD {β β0 : Type} (B : DR β) {i j : Nat} {x : Str} {B0 : DR β0} {d : List (Int × β0)} {ys : List Kd} (hX : XF G X N sc n) (hN : N[i]? = some x) (hl : sc.names.lookup x = some .local) (hk : sc.kind = .function) (ok : blkC N sc scope own = true) (hline : (py.line == pos.line) = true)
    (ha : (scope.names.any fun (m, k) => m == x && (k == .local || k == .cell)) = false) (ht : τ[j]? = some (.im (rD B0) d)) (hw : DWalk X tg iter j B0 d ys)
    (J : Nat → List β → Tau → Prop) (h0 : J 0 [] (wipeT τ (own.map (·.2)))) (hst : ∀ (i : Nat) y, ys[i]? = some y → LcTurn G X N sc scope n (own.map (·.2)) tg elt ifs B J i y)
    (hd : ∀ out τ', J ys.length out τ' → ∀ p, P.nx (τ'.set i (.ow p (cL B) out))) (hs : ∀ x, foldedSetIterable iter X.env x = pure x := by intro _; rfl) : S1 X (.Assign [.Name x py] (.ListComp elt [⟨tg, iter, ifs, 0⟩] scope pos) spos) τ P :=
  S1_lockD (ps_setLc (i := i) (own := own) (g := gB X scope tg) (tt := cB X scope ifs) (te := eB X scope elt) hX.calm (by rw [hX.eN]; exact hX.nd) (by rw [hX.eN]; exact hN) (by rw [hX.es]; exact hl)
    (sw_true (by rw [hX.es]; exact hk) (by rw [hX.es]; exact hl) hline ha) pi_sem (by rw [hX.eN, hX.es]; exact blkOk_by ok)
    (fun s H C cl fp => ⟨fun pins s' σ H' v u Q I r hq => hq s H C cl fp pins s' u I r⟩) (fun s H C cl fp => ⟨fun pins s' σ H' Q I hq => hq s H C cl fp pins s' I⟩) (fun s H C cl fp => ⟨fun pins s' σ H' Q I hq => hq s H C cl fp pins s' I⟩) hs) ht
    fun σ F R H D p o kvs hσ hF hH hkv ok q => hw F R H σ _ p o kvs hσ hF hH hkv fun J' hJ Dl hD =>
      lc_core' (Q := fun v H' => gName i v σ H' D.nx) hX (Le.refl F) hJ ok J h0 hst (fun out τ' R' H' Dl hj l ok' w => q _ _ R' H' (hd out τ' hj Dl) l (Ok.set' ok'.unwipe i w)) Dl hD
end
theorem rngK_get {lo : Int} {m i : Nat} {y : Kd} (h : (rngK lo m)[i]? = some y) : i < m ∧ y = .im rI (lo + (i : Int)) := by
  unfold rngK at h
  rw [List.getElem?_map] at h
  by_cases hi : i < m
  · rw [List.getElem?_range hi] at h
    exact ⟨hi, (Option.some.inj h).symm⟩
  · rw [List.getElem?_eq_none (by simpa using hi)] at h; cases h
theorem rngK0_get {m i : Nat} {y : Kd} (h : (rngK 0 m)[i]? = some y) : i < m ∧ y = .im rI (i : Int) := by
  obtain ⟨a, b⟩ := rngK_get h
  exact ⟨a, by rw [b, Int.zero_add]⟩
theorem rngK_len {lo : Int} {m : Nat} : (rngK lo m).length = m := by simp [rngK]
theorem mapK_get {α : Type} {A : DR α} {l : List α} {i : Nat} {y : Kd} (h : (l.map (Kd.im A))[i]? = some y) : ∃ a, l[i]? = some a ∧ y = .im A a := by
  rw [List.getElem?_map] at h
  cases e : l[i]? with
  | none => rw [e] at h; cases h
  | some a => rw [e] at h; exact ⟨a, rfl, (Option.some.inj h).symm⟩
/-- ways that meet again in a value -/
theorem E_via {X : Cx} {e : Expr} {τ : Tau} {k : KK} (k' : KK) (h1 : E X e τ k') (h2 : ∀ x τ', k' x τ' → k x τ') : E X e τ k := W.mono h1 h2
end T
end
section
set_option Elab.async false
set_option linter.all false
set_option autoImplicit false
set_option maxRecDepth 100000
/-! Plain data of the elimination by dicts. -/
namespace T
abbrev DRow := List (Int × Int)
/-- the number at a place -/
def dv (d : DRow) (j : Int) : Int := (dget d j).getD 0
def gcdD (d : DRow) : Nat := d.foldl (fun g p => Nat.gcd g p.2.natAbs) 0
def primD (d : DRow) : DRow := if gcdD d = 1 then d else d.map fun p => (p.1, p.2.fdiv (gcdD d : Int))
def combStep (down : Int) (f : DRow) (p : Int × Int) : DRow := if dv f p.1 - down * p.2 ≠ 0 then dput f p.1 (dv f p.1 - down * p.2) else ddrop f p.1
def combF (up down : Int) (row lead : DRow) : DRow := lead.foldl (combStep down) (row.map fun p => (p.1, up * p.2))
def combD (row lead : DRow) (a : Int) : DRow :=
  let g : Int := ((Nat.gcd (dv row a).natAbs (dv lead a).natAbs : Nat) : Int)
  primD (combF ((dv lead a).fdiv g) ((dv row a).fdiv g) row lead)
abbrev Leads := List (Int × DRow)
/-- the row behind the leads whose places it names -/
def leftOf (leads : Leads) (row : DRow) (ks : List Int) : DRow := ks.foldl (fun left a => match dget leads a with
  | some l => combD left l a
  | none => left) (primD row)
def minK : List Int → Int
  | [] => 0
  | [a] => a
  | a :: r => min a (minK r)
def clearAll (left : DRow) (first : Int) (leads : Leads) (ks : List Int) : Leads := ks.foldl (fun ls a => match dget ls a with
  | some l => if (dget l first).isSome then dput ls a (combD l left first) else ls
  | none => ls) leads
def stepRow (leads : Leads) (row : DRow) : Leads :=
  let left := leftOf leads row (row.map (·.1))
  if left = [] then leads else
    let first := minK (left.map (·.1))
    dput (clearAll left first leads (leads.map (·.1))) first left
def redu (rows : List DRow) : Leads := rows.foldl stepRow []

/-! ### dicts -/
theorem dget_cons {β : Type} (c : Int × β) (d : List (Int × β)) (i : Int) : dget (c :: d) i = if c.1 = i then some c.2 else dget d i := by
  unfold dget
  rw [List.find?_cons]
  by_cases h : c.1 = i
  · simp [h]
  · simp [h]
theorem dget_nil {β : Type} (i : Int) : dget ([] : List (Int × β)) i = none := rfl
theorem dget_mem {β : Type} {d : List (Int × β)} {i : Int} {b : β} (h : dget d i = some b) : (i, b) ∈ d := by
  induction d with
  | nil => cases h
  | cons c d ih =>
    rw [dget_cons] at h
    by_cases e : c.1 = i
    · rw [if_pos e] at h
      cases h
      subst e
      exact List.mem_cons_self
    · rw [if_neg e] at h
      exact List.mem_cons_of_mem _ (ih h)
theorem dget_none {β : Type} {d : List (Int × β)} {i : Int} : dget d i = none ↔ i ∉ d.map (·.1) := by
  induction d with
  | nil => simp [dget_nil]
  | cons c d ih =>
    rw [dget_cons]
    by_cases e : c.1 = i
    · simp [e]
    · rw [if_neg e, ih]
      simp [Ne.symm e]
theorem dget_some_of_mem {β : Type} {d : List (Int × β)} (nd : (d.map (·.1)).Nodup) {i : Int} {b : β} (h : (i, b) ∈ d) : dget d i = some b := by
  induction d with
  | nil => cases h
  | cons c d ih =>
    rw [dget_cons]
    rw [List.map_cons, List.nodup_cons] at nd
    rcases List.mem_cons.mp h with e | e
    · rw [← e, if_pos rfl]
    · have hc : c.1 ≠ i := fun z => nd.1 (by rw [z]; exact List.mem_map.mpr ⟨(i, b), e, rfl⟩)
      rw [if_neg hc]
      exact ih nd.2 e
theorem any_key {β : Type} {d : List (Int × β)} {i : Int} : (d.any fun c => decide (c.1 = i)) = true ↔ i ∈ d.map (·.1) := by
  rw [List.any_eq_true]
  constructor
  · rintro ⟨c, hc, e⟩
    exact List.mem_map.mpr ⟨c, hc, by simpa using e⟩
  · intro h
    obtain ⟨c, hc, e⟩ := List.mem_map.mp h
    exact ⟨c, hc, by simpa using e⟩
theorem dput_new {β : Type} {d : List (Int × β)} {i : Int} {b : β} (h : i ∉ d.map (·.1)) : dput d i b = d ++ [(i, b)] := by
  unfold dput
  rw [if_neg fun z => h (any_key.mp z)]
theorem dget_app {β : Type} (d e : List (Int × β)) (i : Int) : dget (d ++ e) i = (dget d i).or (dget e i) := by
  induction d with
  | nil => simp [dget_nil]
  | cons c d ih =>
    rw [List.cons_append, dget_cons, dget_cons, ih]
    by_cases e : c.1 = i
    · simp [e]
    · simp [e]
theorem dget_dput {β : Type} (d : List (Int × β)) (i j : Int) (b : β) : dget (dput d i b) j = if i = j then some b else dget d j := by
  unfold dput
  by_cases h : (d.any fun c => decide (c.1 = i)) = true
  · rw [if_pos h]
    have hi := any_key.mp h
    clear h
    induction d with
    | nil => simp at hi
    | cons c d ih =>
      rw [List.map_cons, dget_cons, dget_cons]
      by_cases hc : c.1 = i
      · subst hc
        simp only [if_true]
        by_cases hj : c.1 = j
        · simp [hj]
        · simp only [hj, if_false]
          have key : ∀ d : List (Int × β), dget (d.map fun x => if x.1 = c.1 then (x.1, b) else x) j = dget d j := by
            intro d
            induction d with
            | nil => rfl
            | cons x d ih =>
              rw [List.map_cons, dget_cons, dget_cons, ih]
              by_cases hx : x.1 = c.1
              · simp [hx, hj]
              · simp [hx]
          exact key d
      · have hi' : i ∈ d.map (·.1) := by
          rcases List.mem_cons.mp hi with e | e
          · exact absurd e.symm hc
          · exact e
        simp only [hc, if_false]
        rw [ih hi']
        by_cases hj : c.1 = j
        · have : i ≠ j := fun z => hc (hj.trans z.symm)
          simp [hj, this]
        · simp [hj]
  · rw [if_neg h, dget_app, dget_cons, dget_nil]
    have hi : dget d i = none := dget_none.mpr fun z => h (any_key.mpr z)
    by_cases hj : i = j
    · subst hj
      rw [hi]; simp
    · simp [hj]
theorem dput_keys {β : Type} (d : List (Int × β)) (i : Int) (b : β) : (dput d i b).map (·.1) = if i ∈ d.map (·.1) then d.map (·.1) else d.map (·.1) ++ [i] := by
  unfold dput
  by_cases h : i ∈ d.map (·.1)
  · rw [if_pos (any_key.mpr h), if_pos h, List.map_map]
    apply List.map_congr_left
    intro c _
    show (if c.1 = i then (c.1, b) else c).1 = c.1
    split <;> rfl
  · rw [if_neg (fun z => h (any_key.mp z)), if_neg h]
    simp
theorem dput_mem {β : Type} {d : List (Int × β)} {i : Int} {b : β} {p : Int × β} (h : p ∈ dput d i b) : p = (i, b) ∨ p ∈ d := by
  unfold dput at h
  split at h
  · obtain ⟨c, hc, e⟩ := List.mem_map.mp h
    by_cases hi : c.1 = i
    · rw [if_pos hi] at e; subst hi; exact .inl e.symm
    · rw [if_neg hi] at e; rw [← e]; exact .inr hc
  · rcases List.mem_append.mp h with e | e
    · exact .inr e
    · exact .inl (by simpa using e)
theorem ddrop_mem {β : Type} {d : List (Int × β)} {i : Int} {p : Int × β} : p ∈ ddrop d i ↔ p ∈ d ∧ p.1 ≠ i := by
  unfold ddrop
  simp [List.mem_filter]
theorem dget_ddrop {β : Type} (d : List (Int × β)) (i j : Int) : dget (ddrop d i) j = if i = j then none else dget d j := by
  unfold ddrop
  induction d with
  | nil => simp [dget_nil]
  | cons c d ih =>
    rw [List.filter_cons]
    by_cases hc : c.1 = i
    · subst hc
      simp only [ne_eq, not_true, decide_false, Bool.false_eq_true, if_false]
      rw [ih, dget_cons]
      by_cases hj : c.1 = j
      · simp [hj]
      · simp [hj]
    · simp only [ne_eq, hc, not_false_eq_true, decide_true, if_true]
      rw [dget_cons, ih, dget_cons]
      by_cases hj : c.1 = j
      · have : i ≠ j := fun z => hc (hj.trans z.symm)
        simp [hj, this]
      · simp [hj]
theorem nodup_sub {β : Type} {d : List (Int × β)} (f : Int × β → Bool) (nd : (d.map (·.1)).Nodup) : ((d.filter f).map (·.1)).Nodup := by
  induction d with
  | nil => simp
  | cons c d ih =>
    rw [List.map_cons, List.nodup_cons] at nd
    rw [List.filter_cons]
    split
    · rw [List.map_cons, List.nodup_cons]
      refine ⟨fun h => nd.1 ?_, ih nd.2⟩
      obtain ⟨x, hx, e⟩ := List.mem_map.mp h
      exact List.mem_map.mpr ⟨x, (List.mem_filter.mp hx).1, e⟩
    · exact ih nd.2
theorem nodup_dput {β : Type} {d : List (Int × β)} {i : Int} {b : β} (nd : (d.map (·.1)).Nodup) : ((dput d i b).map (·.1)).Nodup := by
  rw [dput_keys]
  split
  · exact nd
  · rename_i h
    rw [List.nodup_append]
    exact ⟨nd, by simp, fun a ha b hb => by
      have : b = i := by simpa using hb
      subst this
      intro e; subst e; exact h ha⟩
/-- a row as the elimination keeps it -/
structure GoodD (d : DRow) : Prop where
  nd : (d.map (·.1)).Nodup
  nz : ∀ p ∈ d, p.2 ≠ 0
theorem GoodD.get {d : DRow} (g : GoodD d) {j : Int} : (dget d j).isSome = true ↔ dv d j ≠ 0 := by
  unfold dv
  cases h : dget d j with
  | none => simp
  | some b => simpa using g.nz _ (dget_mem h)
theorem GoodD.some {d : DRow} (g : GoodD d) {j : Int} (h : dv d j ≠ 0) : dget d j = some (dv d j) := by
  unfold dv at *
  cases e : dget d j with
  | none => rw [e] at h; exact absurd rfl h
  | some b => rfl
theorem dv_mem {d : DRow} (nd : (d.map (·.1)).Nodup) {p : Int × Int} (h : p ∈ d) : dv d p.1 = p.2 := by
  unfold dv
  rw [dget_some_of_mem nd (b := p.2) h]
  rfl
theorem dget_map {β γ : Type} (f : β → γ) (d : List (Int × β)) (j : Int) : dget (d.map fun p => (p.1, f p.2)) j = (dget d j).map f := by
  induction d with
  | nil => rfl
  | cons c d ih =>
    rw [List.map_cons, dget_cons, dget_cons, ih]
    by_cases h : c.1 = j
    · simp [h]
    · simp [h]
theorem keys_map {β γ : Type} (f : Int × β → γ) (d : List (Int × β)) : (d.map fun p => (p.1, f p)).map (·.1) = d.map (·.1) := by
  rw [List.map_map]; rfl
theorem dv_scale (c : Int) (d : DRow) (j : Int) : dv (d.map fun p => (p.1, c * p.2)) j = c * dv d j := by
  unfold dv
  rw [dget_map (fun x => c * x)]
  cases dget d j with
  | none => simp
  | some b => rfl
/-! ### the greatest common divisor -/
theorem gfold {d : DRow} : ∀ (g : Nat), (d.foldl (fun g p => Nat.gcd g p.2.natAbs) g ∣ g) ∧ (∀ p ∈ d, ((d.foldl (fun g p => Nat.gcd g p.2.natAbs) g : Nat) : Int) ∣ p.2) ∧ ∀ c : Nat, c ∣ g → (∀ p ∈ d, (c : Int) ∣ p.2) → c ∣ d.foldl (fun g p => Nat.gcd g p.2.natAbs) g := by
  induction d with
  | nil => intro g; exact ⟨Nat.dvd_refl _, fun p h => (by cases h), fun c h _ => h⟩
  | cons x d ih =>
    intro g
    obtain ⟨h1, h2, h3⟩ := ih (Nat.gcd g x.2.natAbs)
    rw [List.foldl_cons]
    refine ⟨Nat.dvd_trans h1 (Nat.gcd_dvd_left _ _), fun p hp => ?_, fun c hc hd => h3 c (Nat.dvd_gcd hc (Int.ofNat_dvd_left.mp (hd x List.mem_cons_self))) fun p hp => hd p (List.mem_cons_of_mem _ hp)⟩
    rcases List.mem_cons.mp hp with e | e
    · subst e
      exact Int.ofNat_dvd_left.mpr (Nat.dvd_trans h1 (Nat.gcd_dvd_right _ _))
    · exact h2 p e
theorem gcdD_dvd {d : DRow} {p : Int × Int} (h : p ∈ d) : (gcdD d : Int) ∣ p.2 := (gfold 0).2.1 p h
theorem gcdD_max {d : DRow} {c : Nat} (h : ∀ p ∈ d, (c : Int) ∣ p.2) : c ∣ gcdD d := (gfold 0).2.2 c (Nat.dvd_zero c) h
theorem gcdD_dv {d : DRow} (j : Int) : (gcdD d : Int) ∣ dv d j := by
  unfold dv
  cases h : dget d j with
  | none => exact Int.dvd_zero _
  | some b => exact gcdD_dvd (dget_mem h)
theorem gcdD_pos {d : DRow} (g : GoodD d) (h : d ≠ []) : 0 < gcdD d := by
  cases d with
  | nil => exact absurd rfl h
  | cons c d =>
    rcases Nat.eq_zero_or_pos (gcdD (c :: d)) with e | e
    · have h1 := gcdD_dvd (d := c :: d) (p := c) List.mem_cons_self
      rw [e] at h1
      have h2 : c.2 = 0 := by
        obtain ⟨k, hk⟩ := h1
        simpa using hk
      exact absurd h2 (g.nz c List.mem_cons_self)
    · exact e
theorem gcdD_take {d : DRow} {i : Nat} (h : (d.take i).foldl (fun g p => Nat.gcd g p.2.natAbs) 0 = 1) : gcdD d = 1 := by
  have h1 : gcdD d ∣ gcdD (d.take i) := gcdD_max fun p hp => gcdD_dvd (List.mem_of_mem_take hp)
  have h2 : gcdD (d.take i) = 1 := h
  rw [h2] at h1
  exact Nat.dvd_one.mp h1
/-- the row divided by its common divisor -/
theorem primD_dv {d : DRow} (j : Int) : (gcdD d : Int) * dv (primD d) j = dv d j := by
  unfold primD
  by_cases h : gcdD d = 1
  · rw [if_pos h, h]; simp
  · rw [if_neg h]
    have e : dv (d.map fun p => (p.1, p.2.fdiv (gcdD d : Int))) j = (dv d j).fdiv (gcdD d : Int) := by
      unfold dv
      rw [dget_map (fun x => Int.fdiv x (gcdD d : Int))]
      cases dget d j with
      | none => simp
      | some b => rfl
    rw [e]
    obtain ⟨c, hc⟩ := gcdD_dv (d := d) j
    rw [hc]
    by_cases h0 : (gcdD d : Int) = 0
    · rw [h0]; simp
    · rw [Int.mul_fdiv_cancel_left _ h0]
theorem primD_keys {d : DRow} : (primD d).map (·.1) = d.map (·.1) := by
  unfold primD
  split
  · rfl
  · exact keys_map (fun p => p.2.fdiv (gcdD d : Int)) d
theorem GoodD.prim {d : DRow} (g : GoodD d) : GoodD (primD d) := by
  refine ⟨by rw [primD_keys]; exact g.nd, fun p hp e => ?_⟩
  have nd : ((primD d).map (·.1)).Nodup := by rw [primD_keys]; exact g.nd
  have h1 := dv_mem nd hp
  have h2 := primD_dv (d := d) p.1
  rw [h1, e, Int.mul_zero] at h2
  have hk : p.1 ∈ d.map (·.1) := by rw [← primD_keys (d := d)]; exact List.mem_map.mpr ⟨p, hp, rfl⟩
  obtain ⟨q, hq, eq⟩ := List.mem_map.mp hk
  have h3 := dv_mem g.nd hq
  rw [eq] at h3
  exact g.nz q hq (by rw [← h3, ← h2])
/-! ### one row less another -/
theorem combF_good {row lead : DRow} {up down : Int} (gr : GoodD row) (gl : GoodD lead) (hu : up ≠ 0) (hd : down ≠ 0) : ∀ (n : Nat),
    GoodD ((lead.take n).foldl (combStep down) (row.map fun p => (p.1, up * p.2))) ∧ ∀ j, dv ((lead.take n).foldl (combStep down) (row.map fun p => (p.1, up * p.2))) j = up * dv row j - down * dv (lead.take n) j := by
  intro n
  induction n with
  | zero =>
    refine ⟨⟨by rw [List.take_zero, List.foldl_nil, keys_map (fun p => up * p.2)]; exact gr.nd, fun p hp e => ?_⟩, fun j => ?_⟩
    · obtain ⟨q, hq, eq⟩ := List.mem_map.mp hp
      subst eq
      rcases Int.mul_eq_zero.mp e with z | z
      · exact hu z
      · exact gr.nz q hq z
    · rw [List.take_zero, List.foldl_nil, dv_scale]
      simp [dv, dget_nil]
  | succ n ih =>
    obtain ⟨g, hv⟩ := ih
    cases hp : lead[n]? with
    | none =>
      have e : lead.take (n + 1) = lead.take n := by rw [List.take_succ, hp]; simp
      rw [e]; exact ⟨g, hv⟩
    | some p =>
    have e : lead.take (n + 1) = lead.take n ++ [p] := by rw [List.take_succ, hp]; rfl
    have hpre : lead.take n ++ [p] <+: lead := by rw [← e]; exact List.take_prefix _ _
    rw [e]
    generalize lead.take n = pre at g hv hpre
    rw [List.foldl_append, List.foldl_cons, List.foldl_nil]
    generalize pre.foldl (combStep down) (row.map fun p => (p.1, up * p.2)) = f at g hv
    -- the place is new
    have hmem : p ∈ lead := hpre.subset (by simp)
    have hnd : ((pre ++ [p]).map (·.1)).Nodup := by
      obtain ⟨t, ht⟩ := hpre
      have h := gl.nd
      rw [← ht, List.map_append] at h
      exact (List.nodup_append.mp h).1
    have hnew : p.1 ∉ pre.map (·.1) := by
      rw [List.map_append, List.nodup_append] at hnd
      intro z
      exact hnd.2.2 p.1 z p.1 (by simp) rfl
    have h0 : dv pre p.1 = 0 := by unfold dv; rw [dget_none.mpr hnew]; rfl
    have hdv : ∀ j, dv (pre ++ [p]) j = if p.1 = j then p.2 else dv pre j := fun j => by
      unfold dv
      rw [dget_app, dget_cons, dget_nil]
      by_cases hj : p.1 = j
      · subst hj
        rw [dget_none.mpr hnew]; simp
      · simp [hj]
    have hfp := hv p.1
    rw [h0] at hfp
    unfold combStep
    by_cases hz : dv f p.1 - down * p.2 ≠ 0
    · rw [if_pos hz]
      refine ⟨⟨nodup_dput g.nd, fun q hq => ?_⟩, fun j => ?_⟩
      · rcases dput_mem hq with e | e
        · rw [e]; exact hz
        · exact g.nz q e
      · rw [hdv]
        have e1 : dv (dput f p.1 (dv f p.1 - down * p.2)) j = if p.1 = j then dv f p.1 - down * p.2 else dv f j := by
          unfold dv
          rw [dget_dput]
          split <;> rfl
        rw [e1]
        by_cases hj : p.1 = j
        · subst hj
          rw [if_pos rfl, if_pos rfl, hfp]
          omega
        · rw [if_neg hj, if_neg hj, hv]
    · rw [if_neg hz]
      have hz' : dv f p.1 - down * p.2 = 0 := Decidable.not_not.mp hz
      refine ⟨⟨nodup_sub _ g.nd, fun q hq => g.nz q (ddrop_mem.mp hq).1⟩, fun j => ?_⟩
      rw [hdv]
      have e1 : dv (ddrop f p.1) j = if p.1 = j then 0 else dv f j := by
        unfold dv
        rw [dget_ddrop]
        split <;> rfl
      rw [e1]
      by_cases hj : p.1 = j
      · subst hj
        rw [if_pos rfl, if_pos rfl]
        omega
      · rw [if_neg hj, if_neg hj, hv]
theorem combF_all {row lead : DRow} {up down : Int} (gr : GoodD row) (gl : GoodD lead) (hu : up ≠ 0) (hd : down ≠ 0) : GoodD (combF up down row lead) ∧ ∀ j, dv (combF up down row lead) j = up * dv row j - down * dv lead j :=
  by
  have := combF_good gr gl hu hd lead.length
  rw [List.take_length] at this
  exact this
/-- what combined gives -/
theorem combD_all {row lead : DRow} {a : Int} (gr : GoodD row) (gl : GoodD lead) (hr : dv row a ≠ 0) (hl : dv lead a ≠ 0) : GoodD (combD row lead a) ∧
    ∃ g u d : Int, u ≠ 0 ∧ d ≠ 0 ∧ u * dv row a = d * dv lead a ∧ (∀ j, g * dv (combD row lead a) j = u * dv row j - d * dv lead j) ∧ (combD row lead a ≠ [] → g ≠ 0) ∧ u.natAbs ≤ (dv lead a).natAbs ∧ d.natAbs ≤ (dv row a).natAbs ∧ gcdD (combD row lead a) ≤ 1 ∧ (combD row lead a = [] → ∀ j, u * dv row j = d * dv lead j) := by
  have hg0 : 0 < Nat.gcd (dv row a).natAbs (dv lead a).natAbs := Nat.gcd_pos_of_pos_left _ (by omega)
  obtain ⟨r', hr'⟩ : ((Nat.gcd (dv row a).natAbs (dv lead a).natAbs : Nat) : Int) ∣ dv row a := Int.ofNat_dvd_left.mpr (Nat.gcd_dvd_left _ _)
  obtain ⟨l', hl'⟩ : ((Nat.gcd (dv row a).natAbs (dv lead a).natAbs : Nat) : Int) ∣ dv lead a := Int.ofNat_dvd_left.mpr (Nat.gcd_dvd_right _ _)
  have key : combD row lead a = primD (combF l' r' row lead) := by
    unfold combD
    generalize Nat.gcd (dv row a).natAbs (dv lead a).natAbs = g at *
    show primD (combF ((dv lead a).fdiv (g : Int)) ((dv row a).fdiv (g : Int)) row lead) = _
    rw [hr', hl', Int.mul_fdiv_cancel_left _ (by omega), Int.mul_fdiv_cancel_left _ (by omega)]
  generalize Nat.gcd (dv row a).natAbs (dv lead a).natAbs = g at *
  have gz : (g : Int) ≠ 0 := by omega
  have r0 : r' ≠ 0 := fun z => hr (by rw [hr', z, Int.mul_zero])
  have l0 : l' ≠ 0 := fun z => hl (by rw [hl', z, Int.mul_zero])
  obtain ⟨gf, hf⟩ := combF_all gr gl l0 r0
  have bnd : ∀ x y : Int, y = (g : Int) * x → x.natAbs ≤ y.natAbs := fun x y e => by
    rw [e, Int.natAbs_mul]
    have : (g : Int).natAbs = g := Int.natAbs_natCast g
    rw [this]
    exact Nat.le_mul_of_pos_left _ hg0
  rw [key]
  refine ⟨gf.prim, (gcdD (combF l' r' row lead) : Int), l', r', l0, r0, ?_, fun j => ?_, fun hne => ?_, bnd _ _ hl', bnd _ _ hr', ?_, fun he j => ?_⟩
  · rw [hr', hl']
    rw [← Int.mul_assoc, ← Int.mul_assoc, Int.mul_comm l', Int.mul_assoc, Int.mul_comm r', Int.mul_assoc, Int.mul_comm r' l']
  · rw [primD_dv, hf]
  · have hc : combF l' r' row lead ≠ [] := fun z => hne (by
      have := primD_keys (d := combF l' r' row lead)
      rw [z] at this ⊢
      simpa using this)
    have := gcdD_pos gf hc
    omega
  · -- a common divisor of what is left, times the divisor taken out, divides all
    have hx : ∀ p ∈ combF l' r' row lead, ((gcdD (combF l' r' row lead) * gcdD (primD (combF l' r' row lead)) : Nat) : Int) ∣ p.2 := fun p hp => by
      have e1 := dv_mem gf.nd hp
      have e2 := primD_dv (d := combF l' r' row lead) p.1
      obtain ⟨c, hc⟩ := gcdD_dv (d := primD (combF l' r' row lead)) p.1
      rw [← e1, ← e2, hc, Int.natCast_mul]
      exact ⟨c, by rw [Int.mul_assoc]⟩
    have h1 := gcdD_max hx
    rcases Nat.eq_zero_or_pos (gcdD (combF l' r' row lead)) with z | z
    · have hc : combF l' r' row lead = [] := by
        rcases Decidable.em (combF l' r' row lead = []) with q | q
        · exact q
        · exact absurd (gcdD_pos gf q) (by omega)
      rw [hc]
      decide
    · have h2 := Nat.le_of_dvd z h1
      rcases Nat.lt_or_ge 1 (gcdD (primD (combF l' r' row lead))) with q | q
      · have := Nat.mul_lt_mul_of_pos_left q z
        omega
      · exact q
  · have hc : combF l' r' row lead = [] := by
      have := primD_keys (d := combF l' r' row lead)
      rw [he] at this
      simpa using this.symm
    have := hf j
    rw [hc] at this
    simp [dv, dget_nil] at this
    simp only [dv]
    omega
end T
end
section
set_option Elab.async false
set_option linter.all false
set_option maxRecDepth 100000
set_option maxHeartbeats 2000000
namespace T
open PySem PySem.Spec PyProof.Rows L2
def top (i : Nat) : Stmt := PySem.Challenge.pw_mutehelms_k00_errors_and_numbers.main.body.getD i (.Pass ⟨0, 0, 0, 0⟩)
/-- the built-in names that stand unhidden -/
structure Bi (G : Gm) : Prop where
  abs : G.mg "abs" = none
  len : G.mg "len" = none
  isi : G.mg "isinstance" = none
  int : G.mg "int" = none
  str : G.mg "str" = none
  bool : G.mg "bool" = none
  tuple : G.mg "tuple" = none
  list : G.mg "list" = none
  dict : G.mg "dict" = none
  range : G.mg "range" = none
  zip : G.mg "zip" = none
  enum : G.mg "enumerate" = none
  min : G.mg "min" = none
  sorted : G.mg "sorted" = none
  repr : G.mg "repr" = none
/-! ### common_divisor -/
def cGcd : Ct := fun ks k => ∃ i j : Int, ks = [.im rI i, .im rI j] ∧ k (.im rI ((Nat.gcd i.natAbs j.natAbs : Nat) : Int)) [.no, .no]
theorem sc5 : FnScope ["one", "other", "left", "right"] ["one", "other"] (defScope (top 21)) := ⟨rfl, rfl, rfl, by decide +kernel, rfl, by decide +kernel, by decide +kernel⟩
theorem f5 {G : Gm} {f : Addr} {fd : FuncData} (F : Fun G.K "common_divisor" "common_divisor" (top 21) f fd) (hf : G.mg "common_divisor" = some (.ref f)) (b : Binds G.K fd ["one", "other"] [])
    (B : Bi G) : Fn G "common_divisor" 1 cGcd := by
  refine Fn.of F hf b sc5 (fun ks k ⟨i, j, h, _⟩ => by rw [h]; rfl) fun X hX hfn hp ks k ⟨i, j, hks, hk⟩ => ?_
  subst hks
  refine S_cons ?_
  refine S1_set (i := 2) hX rfl rfl ?_
  refine E_abs hX rfl B.abs rfl ?_
  refine E_name (i := 0) hX rfl (.inl rfl) rfl ?_
  refine ⟨_, .im _ _, ?_⟩
  refine S_cons ?_
  refine S1_set (i := 3) hX rfl rfl ?_
  refine E_abs hX rfl B.abs rfl ?_
  refine E_name (i := 1) hX rfl (.inl rfl) rfl ?_
  refine ⟨_, .im _ _, ?_⟩
  refine S_cons ?_
  refine S1_while hp (fun m τ => ∃ l : Nat, τ = [.im rI i, .im rI j, .im rI (l : Int), .im rI (m : Int)] ∧ Nat.gcd l m = Nat.gcd i.natAbs j.natAbs) j.natAbs ⟨i.natAbs, rfl, rfl⟩ fun m τ ⟨l, e, hg⟩ => ?_
  subst e
  refine C_neI ?_
  refine E_name (i := 3) hX rfl (.inl rfl) rfl ?_
  refine ⟨_, .im _ _, ?_⟩
  refine E_int ?_
  refine ⟨_, .im _ _, ?_⟩
  refine ⟨fun hc => ?_, fun hc => ?_⟩
  · have hm : m ≠ 0 := by simpa using hc
    refine S_one ?_
    refine S1_par (i := 2) (j := 3) hX rfl rfl (by decide) rfl rfl rfl ?_
    refine E_name (i := 3) hX rfl (.inl rfl) rfl ?_
    refine E_mod ?_
    refine E_name (i := 2) hX rfl (.inl rfl) rfl ?_
    refine ⟨_, .im _ _, ?_⟩
    refine E_name (i := 3) hX rfl (.inl rfl) rfl ?_
    refine ⟨_, .im _ _, by omega, ?_⟩
    refine ⟨_, _, rfl, l % m, Nat.mod_lt _ (by omega), m, ?_, ?_⟩
    · rw [Int.natCast_emod]; rfl
    · rw [← hg, Nat.gcd_comm l m, Nat.gcd_rec m l]; exact Nat.gcd_comm _ _
  · have hm : m = 0 := by simpa using hc
    subst hm
    refine S_one ?_
    refine S1_ret ?_
    refine E_name (i := 2) hX rfl (.inl rfl) rfl ?_
    rw [Nat.gcd_zero_right] at hg
    rw [hg]
    exact fin_no hk
/-! ### lowest, lowered -/
theorem low_num {t b : Int} (hb : b ≠ 0) : t.fdiv (if b < 0 then -((Nat.gcd t.natAbs b.natAbs : Nat) : Int) else ((Nat.gcd t.natAbs b.natAbs : Nat) : Int)) = ((t : Rat) / (b : Rat)).num := by
  rw [← Rat.divInt_eq_div, Rat.num_divInt]
  have hg : ((b.gcd t : Nat) : Int) = ((Nat.gcd t.natAbs b.natAbs : Nat) : Int) := by rw [Int.gcd, Nat.gcd_comm]
  rw [hg]
  have hgd : ((Nat.gcd t.natAbs b.natAbs : Nat) : Int) ∣ t := by
    exact Int.ofNat_dvd_left.mpr (Nat.gcd_dvd_left _ _)
  have hg0 : 0 < Nat.gcd t.natAbs b.natAbs := Nat.gcd_pos_of_pos_right _ (by omega)
  generalize Nat.gcd t.natAbs b.natAbs = g at *
  obtain ⟨c, hc⟩ := hgd
  have g0 : (g : Int) ≠ 0 := by omega
  by_cases h : b < 0
  · rw [if_pos h, Int.sign_eq_neg_one_of_neg h, hc]
    have e1 : (g : Int) * c = (-(g : Int)) * (-c) := by rw [Int.neg_mul_neg]
    have e2 : -1 * ((g : Int) * c) = (g : Int) * (-c) := by rw [Int.mul_neg]; omega
    rw [e2, Int.mul_ediv_cancel_left _ g0]
    rw [e1, Int.mul_fdiv_cancel_left _ (by omega)]
  · rw [if_neg h, Int.sign_eq_one_of_pos (by omega), hc, Int.one_mul, Int.mul_ediv_cancel_left _ g0, Int.mul_fdiv_cancel_left _ g0]
theorem low_den {t b : Int} (hb : b ≠ 0) : b.fdiv (if b < 0 then -((Nat.gcd t.natAbs b.natAbs : Nat) : Int) else ((Nat.gcd t.natAbs b.natAbs : Nat) : Int)) = ((((t : Rat) / (b : Rat)).den : Nat) : Int) := by
  rw [← Rat.divInt_eq_div, Rat.den_divInt, if_neg hb]
  have hg : b.gcd t = Nat.gcd t.natAbs b.natAbs := by rw [Int.gcd, Nat.gcd_comm]
  rw [hg]
  have hgd : Nat.gcd t.natAbs b.natAbs ∣ b.natAbs := Nat.gcd_dvd_right _ _
  have hg0 : 0 < Nat.gcd t.natAbs b.natAbs := Nat.gcd_pos_of_pos_right _ (by omega)
  generalize Nat.gcd t.natAbs b.natAbs = g at *
  obtain ⟨c, hc⟩ := hgd
  have g0 : (g : Int) ≠ 0 := by omega
  rw [hc, Nat.mul_div_cancel_left _ hg0]
  by_cases h : b < 0
  · rw [if_pos h]
    have e1 : b = (-(g : Int)) * (c : Int) := by
      have : ((b.natAbs : Nat) : Int) = -b := by omega
      have e : ((g * c : Nat) : Int) = -b := by rw [← hc]; exact this
      rw [Int.natCast_mul] at e
      rw [Int.neg_mul]; omega
    rw [e1, Int.mul_fdiv_cancel_left _ (by omega)]
  · rw [if_neg h]
    have e1 : b = (g : Int) * (c : Int) := by
      have : ((b.natAbs : Nat) : Int) = b := by omega
      have e : ((g * c : Nat) : Int) = b := by rw [← hc]; exact this
      rw [Int.natCast_mul] at e
      omega
    rw [e1, Int.mul_fdiv_cancel_left _ g0]
theorem gcd_lt {t b : Int} (hb : b ≠ 0) {m : Nat} (h : b.natAbs < m) : (if b < 0 then -((Nat.gcd t.natAbs b.natAbs : Nat) : Int) else ((Nat.gcd t.natAbs b.natAbs : Nat) : Int)).natAbs < m ∧ (if b < 0 then -((Nat.gcd t.natAbs b.natAbs : Nat) : Int) else ((Nat.gcd t.natAbs b.natAbs : Nat) : Int)) ≠ 0 := by
  have h1 : Nat.gcd t.natAbs b.natAbs ≤ b.natAbs := Nat.gcd_le_right _ (by omega)
  have h0 : 0 < Nat.gcd t.natAbs b.natAbs := Nat.gcd_pos_of_pos_right _ (by omega)
  generalize Nat.gcd t.natAbs b.natAbs = g at *
  split <;> omega
def cLow : Ct := fun ks k => ∃ t b : Int, ks = [.im rI t, .im rI b] ∧ b ≠ 0 ∧ b.natAbs < 2 ^ 9000 ∧ ∀ K, k (.im (rQ K) ((t : Rat) / (b : Rat))) [.no, .no]
def cLowK (K : PySem.W.Frag) : Ct := fun ks k => ∃ t b : Int, ks = [.im rI t, .im rI b] ∧ b ≠ 0 ∧ b.natAbs < 2 ^ 9000 ∧ k (.im (rQ K) ((t : Rat) / (b : Rat))) [.no, .no]
theorem sc6 : FnScope ["top", "bottom", "common"] ["top", "bottom"] (defScope (top 22)) := ⟨rfl, rfl, rfl, by decide +kernel, rfl, by decide +kernel, by decide +kernel⟩
theorem f6 {G : Gm} {f : Addr} {fd : FuncData} (F : Fun G.K "lowest" "lowest" (top 22) f fd) (hf : G.mg "lowest" = some (.ref f)) (b : Binds G.K fd ["top", "bottom"] [])
    (B : Bi G) (h1 : Fn G "common_divisor" 1 cGcd) : Fn G "lowest" 2 (cLowK G.K) := by
  refine Fn.of F hf b sc6 (fun ks k ⟨t, b, h, _⟩ => by rw [h]; rfl) fun X hX hfn hp ks k ⟨t, b, hks, hb0, hbz, hk⟩ => ?_
  subst hks
  refine S_cons ?_
  refine S1_if ?_
  refine C_eqI ?_
  refine E_name (i := 1) hX rfl (.inl rfl) rfl ?_  -- bottom
  refine ⟨_, .im _ _, ?_⟩
  refine E_int ?_
  refine ⟨_, .im _ _, ?_⟩
  refine ⟨fun hc => ?_, fun hc => ?_⟩
  · have hb1 : b = 1 := by simpa using hc
    subst hb1
    refine S_one ?_
    refine S1_ret ?_
    refine E_tup hX rfl (by decide) ?_
    refine E_name (i := 0) hX rfl (.inl rfl) rfl ?_  -- top
    refine ⟨_, .im _ _, ?_⟩
    refine E_int ?_
    refine ⟨_, .im _ _, ?_⟩
    refine ⟨by simp, _, _, _, tup_Q (q := (t : Rat) / ((1 : Int) : Rat)) ?_ ?_, fin_no hk⟩
    · have := low_num (t := t) (b := 1) (by decide)
      simpa using this
    · have := low_den (t := t) (b := 1) (by decide)
      simpa using this
  refine S_nil ?_
  -- common = common_divisor(top, bottom)
  refine S_cons ?_
  refine S1_set (i := 2) hX rfl rfl ?_  -- common
  refine E_call hX h1 (by omega) rfl rfl ?_
  refine A_cons rfl ?_
  refine P_name (i := 0) hX rfl (.inl rfl) rfl (by intro z; cases z) ?_  -- top
  refine A_cons rfl ?_
  refine P_name (i := 1) hX rfl (.inl rfl) rfl (by intro z; cases z) ?_  -- bottom
  refine A_nil ?_
  refine ⟨[_, _], ⟨rfl, rfl, trivial⟩, trivial, _, _, rfl, ?_⟩
  -- if bottom < 0:
  refine S_join (fun τ => τ = [.im rI t, .im rI b, .im rI (if b < 0 then -((Nat.gcd t.natAbs b.natAbs : Nat) : Int) else ((Nat.gcd t.natAbs b.natAbs : Nat) : Int))]) ?_ fun τ hτ => ?_
  · refine S1_if ?_
    refine C_lt ?_
    refine E_name (i := 1) hX rfl (.inl rfl) rfl ?_  -- bottom
    refine ⟨_, .im _ _, ?_⟩
    refine E_int ?_
    refine ⟨_, .im _ _, ?_⟩
    refine ⟨fun hc => ?_, fun hc => ?_⟩
    · -- common = -common
      refine S_one ?_
      refine S1_set (i := 2) hX rfl rfl ?_  -- common
      refine E_neg ?_
      refine E_name (i := 2) hX rfl (.inl rfl) rfl ?_  -- common
      refine ⟨_, .im _ _, ?_⟩
      show _ = _
      rw [if_pos (by simpa using hc)]
      rfl
    · refine S_nil ?_
      show _ = _
      rw [if_neg (by simpa using hc)]
      rfl
  subst hτ
  obtain ⟨g1, g2⟩ := gcd_lt (t := t) hb0 hbz
  -- return (top // common, bottom // common)
  refine S_one ?_
  refine S1_ret ?_
  refine E_tup hX rfl (by decide) ?_
  refine E_fdivB ?_
  refine E_name (i := 0) hX rfl (.inl rfl) rfl ?_  -- top
  refine ⟨_, .im _ _, ?_⟩
  refine E_name (i := 2) hX rfl (.inl rfl) rfl ?_  -- common
  refine ⟨_, .im _ _, divB_ok g2 g1, ?_⟩
  refine ⟨_, .im _ _, ?_⟩
  refine E_fdivB ?_
  refine E_name (i := 1) hX rfl (.inl rfl) rfl ?_  -- bottom
  refine ⟨_, .im _ _, ?_⟩
  refine E_name (i := 2) hX rfl (.inl rfl) rfl ?_  -- common
  refine ⟨_, .im _ _, divB_ok g2 g1, ?_⟩
  refine ⟨_, .im _ _, ?_⟩
  exact ⟨by simp, _, _, _, tup_Q (low_num hb0) (low_den hb0), fin_no hk⟩
end T
end
section
set_option Elab.async false
set_option linter.all false
set_option maxRecDepth 100000
set_option exponentiation.threshold 10000
set_option maxHeartbeats 2000000
namespace T
open PySem PySem.Spec PyProof.Rows L2
theorem take_get {α : Type} {l : List α} {i : Nat} {y : α} (h : l[i]? = some y) : l.take (i + 1) = l.take i ++ [y] := by rw [List.take_succ, h]; rfl
/-! ### made, made_row -/
def cMade (K : PySem.W.Frag) : Ct := fun ks k => ∃ g : Giv, ks = [.im (rGiv K) g] ∧ okG g ∧ k (.im (rQ K) (gv g)) [.no]
theorem sc8 : FnScope ["value", "top", "bottom"] ["value"] (defScope (top 23)) := ⟨rfl, rfl, rfl, by decide +kernel, rfl, by decide +kernel, by decide +kernel⟩
theorem f8 {G : Gm} {f : Addr} {fd : FuncData} (F : Fun G.K "made" "made" (top 23) f fd) (hf : G.mg "made" = some (.ref f)) (b : Binds G.K fd ["value"] [])
    (B : Bi G) (h1 : Fn G "lowest" 2 (cLowK G.K)) : Fn G "made" 3 (cMade G.K) := by
  refine Fn.of F hf b sc8 (fun ks k ⟨g, h, _⟩ => by rw [h]; rfl) fun X hX hfn hp ks k ⟨g, hks, hg, hk⟩ => ?_
  subst hks
  refine S_cons ?_
  refine S1_if ?_
  refine C_val ?_
  refine E_isi hX rfl B.isi rfl B.int rfl rfl ?_
  refine E_name (i := 0) hX rfl (.inl rfl) rfl ?_  -- value
  cases g with
  | inl i =>
    refine ⟨.im rI i, _, true, .cv fun R v h => h, ty_I, rfl, ?_⟩
    refine ⟨_, .im _ _, ?_⟩
    refine ⟨fun hc => ?_, fun hc => by cases hc⟩
    refine S_one ?_
    refine S1_ret ?_
    refine E_tup hX rfl (by decide) ?_
    refine E_name (i := 0) hX rfl (.inl rfl) rfl ?_  -- value
    refine ⟨.im rI i, .cv fun R v h => h, ?_⟩
    refine E_int ?_
    refine ⟨_, .im _ _, ?_⟩
    exact ⟨by simp, _, _, _, tup_Q (q := (i : Rat)) (by simp) (by simp), fin_no hk⟩
  | inr p =>
    refine ⟨.im (rPair G.K rI rI) p, _, false, .cv fun R v h => h, ty_P, rfl, ?_⟩
    refine ⟨_, .im _ _, ?_⟩
    refine ⟨fun hc => by (cases hc), fun hc => ?_⟩
    refine S_nil ?_
    refine S_cons ?_
    refine S1_asg ?_
    refine E_name (i := 0) hX rfl (.inl rfl) rfl ?_  -- value
    refine T_tup hX rfl un_giv ?_
    refine T_name (i := 1) hX rfl rfl ?_  -- top
    refine T_name (i := 2) hX rfl rfl ?_  -- bottom
    refine S_one ?_
    refine S1_ret ?_
    refine E_call hX h1 (by omega) rfl rfl ?_
    refine A_cons rfl ?_
    refine P_name (i := 1) hX rfl (.inl rfl) rfl (by intro z; cases z) ?_  -- top
    refine A_cons rfl ?_
    refine P_name (i := 2) hX rfl (.inl rfl) rfl (by intro z; cases z) ?_  -- bottom
    refine A_nil ?_
    exact ⟨[_, _], ⟨rfl, rfl, trivial⟩, trivial, _, _, rfl, hg.1, hg.2, fin_no hk⟩
def cRow (K : PySem.W.Frag) : Ct := fun ks k => ∃ l : List Giv, ks = [.im (rLT K (rGiv K)) l] ∧ (∀ g ∈ l, okG g) ∧ l.length ≤ 1000 ∧ k (.im (rT K (rQ K)) (l.map gv)) [.no]
/-! ### whole_row -/
def lcmDen (row : List Rat) : Nat := row.foldl (fun c q => Nat.lcm c q.den) 1
def wholeF (c : Nat) (p : Int × Rat) : Option (Int × Int) := if p.2.num ≠ 0 then some (p.1, p.2.num * ((c : Int).fdiv (p.2.den : Int))) else none
def wholeRow (row : List Rat) : DRow := (row.mapIdx fun i q => ((i : Int), q)).filterMap (wholeF (lcmDen row))
def cWhole (K : PySem.W.Frag) : Ct := fun ks k => ∃ row : List Rat, ks = [.im (rT K (rQ K)) row] ∧ (∃ m : Nat, 0 < m ∧ m < 2 ^ 1000 ∧ ∀ q ∈ row, q.den ∣ m ∧ q.num.natAbs < 2 ^ 1000) ∧ row.length ≤ 1000 ∧ ∀ p, k (.ow p (cD rI) (wholeRow row)) [.no]
theorem lcm_dvd {row : List Rat} {m : Nat} (h : ∀ q ∈ row, q.den ∣ m) : ∀ c, c ∣ m → row.foldl (fun c q => Nat.lcm c q.den) c ∣ m := by
  induction row with
  | nil => intro c hc; exact hc
  | cons q row ih =>
    intro c hc
    rw [List.foldl_cons]
    exact ih (fun x hx => h x (List.mem_cons_of_mem _ hx)) _ (Nat.lcm_dvd hc (h q List.mem_cons_self))
theorem whole_keys {c : Nat} : ∀ (l : List (Int × Rat)) {p : Int × Int}, p ∈ l.filterMap (wholeF c) → p.1 ∈ l.map (·.1) := by
  intro l p h
  obtain ⟨q, hq, e⟩ := List.mem_filterMap.mp h
  unfold wholeF at e
  split at e
  · cases e; exact List.mem_map.mpr ⟨q, hq, rfl⟩
  · cases e
end T
end
section
set_option Elab.async false
set_option linter.all false
set_option autoImplicit false
set_option maxRecDepth 100000
set_option maxHeartbeats 2000000
namespace T
open PySem PySem.Spec PyProof.Rows L2
/-! ### the laws' bag: [cells, place, digits, mixed, count] -/
structure Bag where
  cells : List Int
  pos : Int
  big : Int
  mixed : Int
  count : Int
def Bag.num (b : Bag) (i : Int) : Int := if i = 1 then b.pos else if i = 2 then b.big else if i = 3 then b.mixed else b.count
def Bag.put (b : Bag) (i v : Int) : Bag := if i = 1 then { b with pos := v } else if i = 2 then { b with big := v } else if i = 3 then { b with mixed := v } else { b with count := v }
def cBag (K : PySem.W.Frag) : CR Bag := ⟨fun R o b => ∃ v, o = .lst [v, .int b.pos, .int b.big, .int b.mixed, .int b.count] ∧ (rL K rI).rel R v b.cells, fun l ⟨v, e, h⟩ => ⟨v, e, DR.up _ l h⟩, fun ⟨v, e, _⟩ => ⟨fun ps z => (by rw [e] at z; cases z), fun f z => (by rw [e] at z; cases z)⟩⟩
/-- n draws so far -/
structure Bg (n : Nat) (b : Bag) : Prop where
  pos : 0 ≤ b.pos
  m0 : 0 ≤ b.mixed
  m1 : b.mixed < 2 ^ 31
  cnt : b.count = (n : Int)
theorem ix_bag0 {K : PySem.W.Frag} {b : Bag} {q : Addr} : IxOf K (.ow q (cBag K) b) 0 (rL K rI) b.cells := fun R H v le ⟨e, hR, o, ho, u, eo, hu⟩ => by
  subst eo; exact ⟨q, _, u, e, .inl (.inl (.inl ho)), rfl, hu⟩
theorem ix_bag {K : PySem.W.Frag} {b : Bag} {q : Addr} {i : Int} (hi : i = 1 ∨ i = 2 ∨ i = 3 ∨ i = 4) : IxOf K (.ow q (cBag K) b) i rI (b.num i) := fun R H v le ⟨e, hR, o, ho, u, eo, hu⟩ => by
  subst eo
  rcases hi with h | h | h | h
  · subst h; exact ⟨q, _, .int b.pos, e, .inl (.inl (.inl ho)), rfl, rfl⟩
  · subst h; exact ⟨q, _, .int b.big, e, .inl (.inl (.inl ho)), rfl, rfl⟩
  · subst h; exact ⟨q, _, .int b.mixed, e, .inl (.inl (.inl ho)), rfl, rfl⟩
  · subst h; exact ⟨q, _, .int b.count, e, .inl (.inl (.inl ho)), rfl, rfl⟩
section
variable {G : Gm} {X : Cx} {N : List Str} {sc : Scope} {n : Nat} {τ τ1 : Tau} {k : KK} {P : Po} {y : Kd} {e a b c tg iter elt kx vx : Expr} {es elts ifs : List Expr} {pos p tpos spos py : Pos} {vs : List Nat} {kt : Tau → Prop}
/-- bag[i], a number -/
theorem E_bag {j : Nat} {x : Str} {q : Addr} {bg : Bag} {i : Int} {ij : _} {ip : Pos} (hX : XF G X N sc n) (hN : N[j]? = some x) (hv : Vis sc x) (ht : τ[j]? = some (.ow q (cBag G.K) bg)) (h : k (.im rI (bg.num i)) τ) (hi : i = 1 ∨ i = 2 ∨ i = 3 ∨ i = 4 := by decide)
    (hd : (x == ("__debug__" : Str)) = false := by decide) (hcd : (x == ("__classdict__" : Str)) = false := by decide) : E X (.Subscript (.Name x p) (.Constant (.int i) ij ip) pos) τ k :=
  E_ix hX (fun _ _ => rfl) (P_name hX hN hv ht (by intro z; cases z) (E_int ⟨_, .im _ _, _, ht, _, _, _, ix_bag hi, h⟩) hd hcd)
/-- bag[i] = e -/
theorem S1_bag {j : Nat} {x : Str} {q : Addr} {i : Int} {ij : _} {ip pos' : Pos} (hX : XF G X N sc n) (hN : N[j]? = some x) (hv : Vis sc x)
    (h : E X c τ fun z τ1 => ∃ w, Fz z (.im rI w) ∧ ∃ bg, τ1[j]? = some (.ow q (cBag G.K) bg) ∧ P.nx (τ1.set j (.ow q (cBag G.K) (bg.put i w)))) (hi : i = 1 ∨ i = 2 ∨ i = 3 ∨ i = 4 := by decide)
    (hs : swapsWithSole [.Subscript (.Name x p) (.Constant (.int i) ij ip) pos'] c pos.line X.env = pure false := by rfl) (hw : swappedStores [.Subscript (.Name x p) (.Constant (.int i) ij ip) pos'] c X.env = pure none := by rfl)
    (hd : (x == ("__debug__" : Str)) = false := by decide) (hcd : (x == ("__classdict__" : Str)) = false := by decide) :
    S1 X (.Assign [.Subscript (.Name x p) (.Constant (.int i) ij ip) pos'] c pos) τ P :=
  S1.of (ps_asg pe_sem (pg_sub (pn hX hN hv hd hcd) pe_int set_list (by intro _; rfl)) hs hw (by rfl)) fun σ H F R0 R D ok qq => h σ H F R0 R _ ok fun z τ1 v R1 H1 ⟨w, fz, bg, ht, hk⟩ l1 ok1 w1 => by
    obtain ⟨R2, l2, ok2, r2⟩ := fz_rel ok1 w1 fz
    cases r2
    obtain ⟨hs0, hR, hF, o, hH, u, eo, hu⟩ := ok2.cell ht
    subst eo
    refine ⟨.ref q, hs0, ?_⟩
    rcases hi with h | h | h | h
    · subst h
      exact ⟨q, _, 1, 1, rfl, rfl, hH, rfl, qq.nx _ σ R2 _ hk (l1.trans l2) (ok2.write ht ⟨u, rfl, hu⟩)⟩
    · subst h
      exact ⟨q, _, 2, 2, rfl, rfl, hH, rfl, qq.nx _ σ R2 _ hk (l1.trans l2) (ok2.write ht ⟨u, rfl, hu⟩)⟩
    · subst h
      exact ⟨q, _, 3, 3, rfl, rfl, hH, rfl, qq.nx _ σ R2 _ hk (l1.trans l2) (ok2.write ht ⟨u, rfl, hu⟩)⟩
    · subst h
      exact ⟨q, _, 4, 4, rfl, rfl, hH, rfl, qq.nx _ σ R2 _ hk (l1.trans l2) (ok2.write ht ⟨u, rfl, hu⟩)⟩
/-- [cells, place, digits, mixed, count] -/
theorem E_lstBag {e0 e1 e2 e3 e4 : Expr} (hs : noStar [e0, e1, e2, e3, e4] = true) (h : Items X [e0, e1, e2, e3, e4] τ fun ys τ' => ∃ (cs : List Int) (a b c d : Int), ys = [.im (rL G.K rI) cs, .im rI a, .im rI b, .im rI c, .im rI d] ∧ ∀ p, k (.ow p (cBag G.K) ⟨cs, a, b, c, d⟩) τ') : E X (.List [e0, e1, e2, e3, e4] pos) τ k :=
  E.of (pe_lst (pa_all (star_of hs))) fun σ H F R0 R Q ok q => Items.run h σ H F R0 R _ ok fun ys τ' vs R' H' ⟨cs, a, b, c, d, e, hk⟩ le ok' hv =>
    ⟨by rw [vs_len hv, e, sizeLine_eq]; simp, fun p hp => by
      obtain ⟨hR, hF, ho⟩ := ok'.fresh hp
      subst e
      cases hv with
      | cons r0 hv => cases hv with
        | cons r1 hv => cases hv with
          | cons r2 hv => cases hv with
            | cons r3 hv => cases hv with
              | cons r4 hv =>
                cases hv
                obtain ⟨_, r1⟩ := r1
                obtain ⟨_, r2⟩ := r2
                obtain ⟨_, r3⟩ := r3
                obtain ⟨_, r4⟩ := r4
                cases r1; cases r2; cases r3; cases r4
                exact q _ τ' _ _ _ (hk p) le (ok'.new hp) ⟨⟨rfl, hR, _, upd_same, _, rfl, r0.2⟩, fun p' z => by cases z; exact ⟨hF, ho⟩⟩⟩
end
end T
end
section
set_option Elab.async false
set_option linter.all false
set_option maxRecDepth 100000
set_option maxHeartbeats 2000000
set_option exponentiation.threshold 10000
namespace T
open PySem PySem.Spec PyProof.Rows L2
/-! ### the bag -/
/-- the script: a list of whole numbers, known to the top or to nobody -/
def rSc (K : PySem.W.Frag) : DR (List Int) := ⟨fun R v l => ∃ p xs, v = .ref p ∧ SqL K R p xs ∧ Paired (rI.rel R) xs l, fun l ⟨p, xs, e, h, hp⟩ => ⟨p, xs, e, l.sqL h, paired_up rI l hp⟩⟩
theorem slof_Sc {K : PySem.W.Frag} {l : List Int} : SlOf K (.im (rSc K) l) rI l := fun R H v le ⟨p, xs, e, h, hp⟩ => ⟨p, xs, e, le.sqL h, hp⟩
def cBagNew (K : PySem.W.Frag) : Ct := fun ks k => ∃ l : List Int, ks = [.im (rSc K) l] ∧ l.length ≤ 1000 ∧ ∀ p b, Bg 0 b → k (.ow p (cBag K) b) [.no]
theorem sc24 : FnScope ["script", "mixed", "cell"] ["script"] (defScope (top 35)) := ⟨rfl, rfl, rfl, by decide +kernel, rfl, by decide +kernel, by decide +kernel⟩
theorem f24 {G : Gm} {f : Addr} {fd : FuncData} (F : Fun G.K "_law_bag" "_law_bag" (top 35) f fd) (hf : G.mg "_law_bag" = some (.ref f)) (b : Binds G.K fd ["script"] [])
    (B : Bi G) : Fn G "_law_bag" 1 (cBagNew G.K) := by
  refine Fn.of F hf b sc24 (fun ks k ⟨l, h, _⟩ => by rw [h]; rfl) fun X hX hfn hp ks k ⟨l, hks, hl, hk⟩ => ?_
  subst hks
  have cl : ∀ o1 o2 : Option Int, (cutL l o1 o2).length ≤ 1000 := fun o1 o2 => by
    unfold cutL
    rw [List.length_take, List.length_drop]; omega
  -- mixed = 17793
  refine S_cons ?_
  refine S1_set (i := 1) hX rfl rfl ?_  -- mixed
  refine E_int ?_
  -- for cell in script[:63]:
  refine S_cons ?_
  refine S1_for hX hp ?_
  refine I_list hX ?_
  refine E_slL (A := rI) hX ?_
  refine P_name (i := 0) hX rfl (.inl rfl) rfl (by intro z; cases z) ?_  -- script
  refine E_int ?_
  refine ⟨_, .im _ _, ?_⟩
  refine ⟨_, _, rfl, slof_Sc, fun p => ?_⟩
  refine ⟨_, _, _, .ow (frz_L (K := G.K)), ?_⟩
  refine ⟨fun i τ => ∃ m x2, 0 ≤ m ∧ m < 2 ^ 31 ∧ τ = [.im (rSc G.K) l, .im rI m, x2], ⟨17793, _, by decide, by decide, rfl⟩, fun i y τ hy hI => ?_, fun τ hI => ?_⟩
  · obtain ⟨m, x2, m0, m1, hτ⟩ := hI
    subst hτ
    obtain ⟨c, hc, ey⟩ := mapK_get hy
    subst ey
    refine T_name (i := 2) hX rfl rfl ?_  -- cell
    refine S_one ?_
    refine S1_set (i := 1) hX rfl rfl ?_  -- mixed
    refine E_mod ?_
    refine E_int1 hX rfl B.int rfl ?_
    refine E_add ?_
    refine E_add ?_
    refine E_mul ?_
    refine E_name (i := 1) hX rfl (.inl rfl) rfl ?_  -- mixed
    refine ⟨_, .im _ _, ?_⟩
    refine E_int ?_
    refine ⟨_, .im _ _, mulx_ok (a := 31) (b := 31) (by omega) (by decide) (by omega), ?_⟩
    refine ⟨_, .im _ _, ?_⟩
    refine E_mod ?_
    refine E_int1 hX rfl B.int rfl ?_
    refine E_name (i := 2) hX rfl (.inl rfl) rfl ?_  -- cell
    refine ⟨_, .im _ _, ?_⟩
    refine ⟨_, .im _ _, ?_⟩
    refine E_int ?_
    refine ⟨_, .im _ _, by decide, ?_⟩
    refine ⟨_, .im _ _, ?_⟩
    refine ⟨_, .im _ _, ?_⟩
    refine E_int ?_
    refine ⟨_, .im _ _, ?_⟩
    refine ⟨_, .im _ _, ?_⟩
    refine ⟨_, .im _ _, ?_⟩
    refine E_int ?_
    refine ⟨_, .im _ _, by decide, ?_⟩
    exact ⟨_, .im rI c, by omega, by omega, rfl⟩
  obtain ⟨m, x2, m0, m1, hτ⟩ := hI
  subst hτ
  -- return [[int(cell) for cell in script[:63]], 0, 0, mixed, 0]
  refine S_one ?_
  refine S1_ret ?_
  refine E_lstBag (G := G) rfl ?_
  refine E_lc (own := [("cell", 2)]) rI hX rfl ?_
  refine I_list hX ?_
  refine E_slL (A := rI) hX ?_
  refine P_name (i := 0) hX rfl (.inl rfl) rfl (by intro z; cases z) ?_  -- script
  refine E_int ?_
  refine ⟨_, .im _ _, ?_⟩
  refine ⟨_, _, rfl, slof_Sc, fun p => ?_⟩
  refine ⟨_, _, _, .ow (frz_L (K := G.K)), ?_⟩
  refine ⟨fun i out τ => out = (cutL l none (some 63)).take i ∧ τ = [.im (rSc G.K) l, .im rI m, .no], ⟨rfl, rfl⟩, fun i y hy => ?_, fun out τ hJ p => ?_⟩
  · rintro out τ ⟨ho, hτ⟩ X1 hX1 hf1
    subst hτ
    obtain ⟨c, hc, ey⟩ := mapK_get hy
    subst ey
    refine TB_name (i := 2) hX1 rfl rfl (by decide) ?_  -- cell
    intro X2 hX2
    refine Cs_nil ?_
    refine ⟨fun _ X3 hX3 => ?_, fun h => by cases h⟩
    refine E_int1 hX3 rfl B.int rfl ?_
    refine E_name (i := 2) hX3 rfl (.inl rfl) rfl ?_  -- cell
    refine ⟨_, .im _ _, ?_⟩
    refine ⟨_, .im _ _, ?_, ?_, rfl⟩
    · rw [ho, List.length_take]
      have := cl none (some 63)
      omega
    · rw [ho, take_get hc]
  obtain ⟨ho, hτ⟩ := hJ
  subst hτ
  refine ⟨_, .ow (frz_L (K := G.K)), ?_⟩
  refine E_int ?_
  refine ⟨_, .im _ _, ?_⟩
  refine E_int ?_
  refine ⟨_, .im _ _, ?_⟩
  refine E_name (i := 1) hX rfl (.inl rfl) rfl ?_  -- mixed
  refine ⟨_, .im _ _, ?_⟩
  refine E_int ?_
  refine ⟨_, .im _ _, ?_⟩
  exact ⟨_, _, _, _, _, rfl, fun p => fin_no (hk p _ ⟨Int.le_refl 0, m0, m1, rfl⟩)⟩
def cDraw (K : PySem.W.Frag) : Ct := fun ks k => ∃ (p : Addr) (b : Bag) (n : Nat) (m : Int), ks = [.ow p (cBag K) b, .im rI m] ∧ Bg n b ∧ n < 2 ^ 30 ∧ 0 < m ∧ m < 2 ^ 30 ∧ ∀ (d : Nat) (b' : Bag), (d : Int) < m → Bg (n + 1) b' → k (.im rI (d : Int)) [.ow p (cBag K) b', .no]
theorem fin_bag {p : Addr} {C : CR Bag} {b b' : Bag} {x : Kd} {xs : List Kd} {τ : Tau} {k : Kd → List Kd → Prop} {y : Kd} (j : Nat) (hj : τ[j]? = some (.ow p C b')) (h : k y (.ow p C b' :: List.replicate xs.length .no)) : Fin (.ow p C b :: xs) k y τ := by
  refine ⟨_, h, by simp, fun i z e => ?_⟩
  cases i with
  | zero =>
    cases e
    exact .inr ⟨⟨j, hj⟩, _, p, rfl, rfl, rfl⟩
  | succ i =>
    have e' : (List.replicate xs.length Kd.no)[i]? = some z := e
    obtain ⟨_, e2⟩ := List.getElem?_eq_some_iff.mp e'
    rw [List.getElem_replicate] at e2
    exact .inl e2.symm
theorem sc25 : FnScope ["bag", "many", "cell", "digit", "mixed"] ["bag", "many"] (defScope (top 36)) := ⟨rfl, rfl, rfl, by decide +kernel, rfl, by decide +kernel, by decide +kernel⟩
theorem f25 {G : Gm} {f : Addr} {fd : FuncData} (F : Fun G.K "_law_draw" "_law_draw" (top 36) f fd) (hf : G.mg "_law_draw" = some (.ref f)) (b : Binds G.K fd ["bag", "many"] [])
    (B : Bi G) : Fn G "_law_draw" 1 (cDraw G.K) := by
  refine Fn.of F hf b sc25 (fun ks k ⟨p, b, n, m, h, _⟩ => by rw [h]; rfl) fun X hX hfn hp ks k ⟨p, b, n, m, hks, hb, hn, hm0, hm1, hk⟩ => ?_
  subst hks
  have dk : ∀ (x : Int) (b' : Bag), 0 ≤ x → x < m → Bg (n + 1) b' → k (.im rI x) [.ow p (cBag G.K) b', .no] := fun x b' h0 h1 hb' => by
    have e : x = ((x.toNat : Nat) : Int) := by omega
    rw [e]
    exact hk x.toNat b' (by omega) hb'
  -- bag[4] = bag[4] + 1
  refine S_cons ?_
  refine S1_bag (q := p) (j := 0) (i := 4) hX rfl (.inl rfl) ?_
  refine E_add ?_
  refine E_bag (j := 0) (i := 4) hX rfl (.inl rfl) rfl ?_
  refine ⟨_, .im _ _, ?_⟩
  refine E_int ?_
  refine ⟨_, .im _ _, ?_⟩
  refine ⟨_, .im _ _, _, rfl, ?_⟩
  have hb1 : Bg (n + 1) (b.put 4 (b.num 4 + 1)) := ⟨hb.pos, hb.m0, hb.m1, by
    show b.count + 1 = _
    rw [hb.cnt]; rfl⟩
  generalize b.put 4 (b.num 4 + 1) = b1 at hb1
  -- if bag[2] == 0 and bag[1] < len(bag[0]):
  refine S_join (fun τ => ∃ b2 x2, Bg (n + 1) b2 ∧ τ = [.ow p (cBag G.K) b2, .im rI m, x2, .no, .no]) ?_ fun τ ⟨b2, x2, hb2, hτ⟩ => ?_
  · refine S1_if ?_
    refine C_and2 ?_
    refine C_eqI ?_
    refine E_bag (j := 0) (i := 2) hX rfl (.inl rfl) rfl ?_
    refine ⟨_, .im _ _, ?_⟩
    refine E_int ?_
    refine ⟨_, .im _ _, ?_⟩
    refine ⟨fun _ => ?_, fun _ => ?_⟩
    rotate_left
    · exact ⟨fun h => Bool.noConfusion h, fun _ => S_nil ⟨b1, _, hb1, rfl⟩⟩
    refine C_lt ?_
    refine E_bag (j := 0) (i := 1) hX rfl (.inl rfl) rfl ?_
    refine ⟨_, .im _ _, ?_⟩
    refine E_len hX rfl B.len rfl ?_
    refine P_val ?_
    refine E_ix hX (fun _ _ => rfl) ?_
    refine P_name (i := 0) hX rfl (.inl rfl) rfl (by intro z; cases z) ?_  -- bag
    refine E_int ?_
    refine ⟨_, .im _ _, _, rfl, _, _, _, ix_bag0, ?_⟩
    refine ⟨_, _, _, .im _ _, ?_⟩
    refine ⟨_, _, rfl, len_L, ?_⟩
    refine ⟨_, .im _ _, ?_⟩
    refine ⟨fun hc => ?_, fun hc => S_nil ⟨b1, _, hb1, rfl⟩⟩
    have hlt : b1.pos < (b1.cells.length : Int) := by
      have := of_decide_eq_true hc
      exact this
    have hp0 := hb1.pos
    obtain ⟨c, hc⟩ : ∃ c, atI b1.cells b1.pos = some c := by
      have e : b1.pos = ((b1.pos.toNat : Nat) : Int) := by omega
      have hl : b1.pos.toNat < b1.cells.length := by omega
      rw [e]
      exact ⟨_, atI_nat (List.getElem?_eq_getElem hl)⟩
    -- cell = bag[0][bag[1]]
    refine S_cons ?_
    refine S1_set (i := 2) hX rfl rfl ?_  -- cell
    refine E_ix hX (fun _ _ => rfl) ?_
    refine P_val ?_
    refine E_ix hX (fun _ _ => rfl) ?_
    refine P_name (i := 0) hX rfl (.inl rfl) rfl (by intro z; cases z) ?_  -- bag
    refine E_int ?_
    refine ⟨_, .im _ _, _, rfl, _, _, _, ix_bag0, ?_⟩
    refine ⟨_, _, _, .im _ _, ?_⟩
    refine E_bag (j := 0) (i := 1) hX rfl (.inl rfl) rfl ?_
    refine ⟨_, .im _ _, _, rfl, _, _, c, ix_L hc, ?_⟩
    -- bag[1] = bag[1] + 1
    refine S_cons ?_
    refine S1_bag (q := p) (j := 0) (i := 1) hX rfl (.inl rfl) ?_
    refine E_add ?_
    refine E_bag (j := 0) (i := 1) hX rfl (.inl rfl) rfl ?_
    refine ⟨_, .im _ _, ?_⟩
    refine E_int ?_
    refine ⟨_, .im _ _, ?_⟩
    refine ⟨_, .im _ _, _, rfl, ?_⟩
    have hb3 : Bg (n + 1) (b1.put 1 (b1.num 1 + 1)) := ⟨by
      show 0 ≤ b1.pos + 1
      omega, hb1.m0, hb1.m1, hb1.cnt⟩
    generalize b1.put 1 (b1.num 1 + 1) = b3 at hb3
    -- if cell >= 10 ** 18:
    refine S_one ?_
    refine S1_if ?_
    refine C_ge ?_
    refine E_name (i := 2) hX rfl (.inl rfl) rfl ?_  -- cell
    refine ⟨_, .im _ _, ?_⟩
    refine E_pow ?_
    refine E_int ?_
    refine ⟨_, .im _ _, ?_⟩
    refine E_int ?_
    refine ⟨_, .im _ _, ⟨by decide, by decide, by decide⟩, ?_⟩
    refine ⟨_, .im _ _, ?_⟩
    refine ⟨fun hc => ?_, fun hc => ?_⟩
    · refine S_one ?_
      refine S1_bag (q := p) (j := 0) (i := 2) hX rfl (.inl rfl) ?_
      refine E_name (i := 2) hX rfl (.inl rfl) rfl ?_  -- cell
      refine ⟨_, .im _ _, _, rfl, ?_⟩
      exact ⟨b3.put 2 c, _, ⟨hb3.pos, hb3.m0, hb3.m1, hb3.cnt⟩, rfl⟩
    · refine S_one ?_
      refine S1_bag (q := p) (j := 0) (i := 3) hX rfl (.inl rfl) ?_
      refine E_mod ?_
      refine E_int1 hX rfl B.int rfl ?_
      refine E_add ?_
      refine E_add ?_
      refine E_mul ?_
      refine E_bag (j := 0) (i := 3) hX rfl (.inl rfl) rfl ?_
      refine ⟨_, .im _ _, ?_⟩
      refine E_int ?_
      refine ⟨_, .im _ _, mulx_ok (a := 31) (b := 31) (by have h1 := hb3.m0; have h2 := hb3.m1; show b3.mixed.natAbs < _; omega) (by decide) (by omega), ?_⟩
      refine ⟨_, .im _ _, ?_⟩
      refine E_mul ?_
      refine E_mod ?_
      refine E_int1 hX rfl B.int rfl ?_
      refine E_name (i := 2) hX rfl (.inl rfl) rfl ?_  -- cell
      refine ⟨_, .im _ _, ?_⟩
      refine ⟨_, .im _ _, ?_⟩
      refine E_int ?_
      refine ⟨_, .im _ _, by decide, ?_⟩
      refine ⟨_, .im _ _, ?_⟩
      refine E_int ?_
      refine ⟨_, .im _ _, mulx_ok (a := 32) (b := 31) (by omega) (by decide) (by omega), ?_⟩
      refine ⟨_, .im _ _, ?_⟩
      refine ⟨_, .im _ _, ?_⟩
      refine E_int ?_
      refine ⟨_, .im _ _, ?_⟩
      refine ⟨_, .im _ _, ?_⟩
      refine ⟨_, .im _ _, ?_⟩
      refine E_int ?_
      refine ⟨_, .im _ _, by decide, ?_⟩
      refine ⟨_, .im _ _, _, rfl, ?_⟩
      refine ⟨b3.put 3 ((b3.num 3 * 69073 + c % 2147483587 * 30013 + 223) % 2147483579), _, ⟨hb3.pos, ?_, ?_, hb3.cnt⟩, rfl⟩
      · exact Int.emod_nonneg _ (by decide)
      · exact Int.lt_trans (Int.emod_lt_of_pos _ (by decide)) (by decide)
  subst hτ
  -- if bag[2] > 0:
  refine S_cons ?_
  refine S1_if ?_
  refine C_gt ?_
  refine E_bag (j := 0) (i := 2) hX rfl (.inl rfl) rfl ?_
  refine ⟨_, .im _ _, ?_⟩
  refine E_int ?_
  refine ⟨_, .im _ _, ?_⟩
  refine ⟨fun hc => ?_, fun hc => ?_⟩
  · -- digit = int(bag[2]) % many
    refine S_cons ?_
    refine S1_set (i := 3) hX rfl rfl ?_  -- digit
    refine E_mod ?_
    refine E_int1 hX rfl B.int rfl ?_
    refine E_bag (j := 0) (i := 2) hX rfl (.inl rfl) rfl ?_
    refine ⟨_, .im _ _, ?_⟩
    refine ⟨_, .im _ _, ?_⟩
    refine E_name (i := 1) hX rfl (.inl rfl) rfl ?_  -- many
    refine ⟨_, .im _ _, hm0, ?_⟩
    -- bag[2] = bag[2] // many
    refine S_cons ?_
    refine S1_bag (q := p) (j := 0) (i := 2) hX rfl (.inl rfl) ?_
    refine E_fdivB ?_
    refine E_bag (j := 0) (i := 2) hX rfl (.inl rfl) rfl ?_
    refine ⟨_, .im _ _, ?_⟩
    refine E_name (i := 1) hX rfl (.inl rfl) rfl ?_  -- many
    refine ⟨_, .im _ _, divB_ok (by omega) (Nat.lt_trans (show m.natAbs < 2 ^ 30 by omega) (Nat.pow_lt_pow_right (by omega) (by omega))), ?_⟩
    refine ⟨_, .im _ _, _, rfl, ?_⟩
    -- return digit
    refine S_one ?_
    refine S1_ret ?_
    refine E_name (i := 3) hX rfl (.inl rfl) rfl ?_  -- digit
    exact fin_bag (x := .no) (xs := [.im rI m]) 0 rfl (dk _ _ (Int.emod_nonneg _ (by omega)) (Int.emod_lt_of_pos _ hm0) ⟨hb2.pos, hb2.m0, hb2.m1, hb2.cnt⟩)
  refine S_nil ?_
  have c0 := hb2.cnt
  have c1 := hb2.m0
  have c2 := hb2.m1
  -- mixed = int(bag[3] + bag[4] * 1299721) % 2147483647
  refine S_cons ?_
  refine S1_set (i := 4) hX rfl rfl ?_  -- mixed
  refine E_mod ?_
  refine E_int1 hX rfl B.int rfl ?_
  refine E_add ?_
  refine E_bag (j := 0) (i := 3) hX rfl (.inl rfl) rfl ?_
  refine ⟨_, .im _ _, ?_⟩
  refine E_mul ?_
  refine E_bag (j := 0) (i := 4) hX rfl (.inl rfl) rfl ?_
  refine ⟨_, .im _ _, ?_⟩
  refine E_int ?_
  refine ⟨_, .im _ _, mulx_ok (a := 31) (b := 31) (by show b2.count.natAbs < _; omega) (by decide) (by omega), ?_⟩
  refine ⟨_, .im _ _, ?_⟩
  refine ⟨_, .im _ _, ?_⟩
  refine ⟨_, .im _ _, ?_⟩
  refine E_int ?_
  refine ⟨_, .im _ _, by decide, ?_⟩
  -- mixed = int(mixed ** 5) % 2147483647
  refine S_cons ?_
  refine S1_set (i := 4) hX rfl rfl ?_  -- mixed
  refine E_mod ?_
  refine E_int1 hX rfl B.int rfl ?_
  refine E_pow ?_
  refine E_name (i := 4) hX rfl (.inl rfl) rfl ?_  -- mixed
  refine ⟨_, .im _ _, ?_⟩
  refine E_int ?_
  refine ⟨_, .im _ _, ⟨by decide, by decide, by omega⟩, ?_⟩
  refine ⟨_, .im _ _, ?_⟩
  refine ⟨_, .im _ _, ?_⟩
  refine E_int ?_
  refine ⟨_, .im _ _, by decide, ?_⟩
  -- return int(mixed // 97) % many
  refine S_one ?_
  refine S1_ret ?_
  refine E_mod ?_
  refine E_int1 hX rfl B.int rfl ?_
  refine E_fdivB ?_
  refine E_name (i := 4) hX rfl (.inl rfl) rfl ?_  -- mixed
  refine ⟨_, .im _ _, ?_⟩
  refine E_int ?_
  refine ⟨_, .im _ _, divB_ok (by decide) (Nat.lt_trans (show (97 : Int).natAbs < 2 ^ 30 by decide) (Nat.pow_lt_pow_right (by omega) (by omega))), ?_⟩
  refine ⟨_, .im _ _, ?_⟩
  refine ⟨_, .im _ _, ?_⟩
  refine E_name (i := 1) hX rfl (.inl rfl) rfl ?_  -- many
  refine ⟨_, .im _ _, hm0, ?_⟩
  exact fin_bag (x := .no) (xs := [.im rI m]) 0 rfl (dk _ _ (Int.emod_nonneg _ (by omega)) (Int.emod_lt_of_pos _ hm0) hb2)
end T
end
section
set_option Elab.async false
set_option linter.all false
set_option autoImplicit false
set_option maxRecDepth 100000
set_option maxHeartbeats 2000000
namespace T
open PySem PySem.Spec PyProof.Rows L2
section
variable {G : Gm} {X : Cx} {N : List Str} {sc : Scope} {n : Nat} {τ τ1 : Tau} {k : KK} {P : Po} {y : Kd} {e a b c : Expr} {pos p : Pos}
/-- x.bit_length() -/
theorem E_bits {apos : Pos} (h : E X a τ fun x τ1 => ∃ i, Fz x (.im rI i) ∧ k (.im rI (Builtin.Int.intBits i : Nat)) τ1) (hbase : attributeBase a "bit_length" X.env (eval a X.env) = eval a X.env := by rfl) (hline : (apos.endLine == pos.line) = true := by rfl) :
    E X (.Call (.Attribute a "bit_length" apos) [] [] pos) τ k :=
  E.of (pe_bits pe_sem hbase hline) fun σ H F R0 R Q ok q => h σ H F R0 R _ ok fun x τ1 v R1 H1 ⟨i, fz, hk⟩ l1 ok1 w1 => by
    obtain ⟨R2, l2, ok2, r2⟩ := fz_rel ok1 w1 fz
    cases r2
    exact ⟨i, rfl, q _ τ1 _ R2 H1 hk (l1.trans l2) ok2 (VOk.im rfl)⟩
/-- a name's own cell handed on: the slot is forgotten -/
theorem E_own {i : Nat} {x : Str} {γ : Type} {q : Addr} {C : CR γ} {c0 : γ} (hX : XF G X N sc n) (hN : N[i]? = some x) (hv : Vis sc x) (ht : τ[i]? = some (.ow q C c0)) (h : k (.ow q C c0) (τ.set i .no))
    (hd : (x == ("__debug__" : Str)) = false := by decide) (hcd : (x == ("__classdict__" : Str)) = false := by decide) : E X (.Name x pos) τ k :=
  E.of (pe_var (i := i) (by rw [hX.eN]; exact hN) (hX.vis hv) hd hcd) fun σ H F R0 R Q ok qq => by
    obtain ⟨hs, hR, hF, o, hH, hc⟩ := ok.cell ht
    refine ⟨.ref q, hs, qq _ _ _ R H h (Le.refl R) (ok.forget i) ⟨⟨rfl, hR, o, hH, hc⟩, fun p' z => ?_⟩⟩
    cases z
    refine ⟨hF, fun j l el hl => ?_⟩
    by_cases hj : i = j
    · subst hj
      by_cases hi : i < τ.length
      · rw [List.getElem?_set_self hi] at el; cases el; exact hl
      · rw [List.getElem?_eq_none (by simpa using hi)] at el; cases el
    · rw [List.getElem?_set_ne hj] at el
      exact hj (ok.inj i j _ l q ht el rfl hl)
theorem intBits_lt (i : Int) : i.natAbs < 2 ^ Builtin.Int.intBits i := by
  unfold Builtin.Int.intBits
  split
  · rename_i h
    have : i = 0 := by simpa using h
    subst this; decide
  · rename_i h
    have h0 : i.natAbs ≠ 0 := by
      intro z
      exact h (by simpa using z)
    exact (Nat.log2_lt h0).mp (Nat.lt_succ_self _)
end
end T
end
section
set_option Elab.async false
set_option linter.all false
set_option maxRecDepth 100000
set_option maxHeartbeats 2000000
set_option exponentiation.threshold 10000
namespace T
open PySem PySem.Spec PyProof.Rows L2
/-! ### _law_of, _law_mixed -/
def cOf (K : PySem.W.Frag) : Ct := fun ks k => ∃ (α : Type) (A : DR α) (l : List α) (p : Addr) (b : Bag) (n : Nat), ks = [.ow p (cBag K) b, .im (rL K A) l] ∧ Bg n b ∧ n < 2 ^ 30 ∧ 0 < l.length ∧ l.length < 1000 ∧ ∀ a ∈ l, ∀ b', Bg (n + 1) b' → k (.im A a) [.ow p (cBag K) b', .no]
theorem sc26 : FnScope ["bag", "menu"] ["bag", "menu"] (defScope (top 37)) := ⟨rfl, rfl, rfl, by decide +kernel, rfl, by decide +kernel, by decide +kernel⟩
theorem f26 {G : Gm} {f : Addr} {fd : FuncData} (F : Fun G.K "_law_of" "_law_of" (top 37) f fd) (hf : G.mg "_law_of" = some (.ref f)) (b : Binds G.K fd ["bag", "menu"] [])
    (B : Bi G) (h1 : Fn G "_law_draw" 1 (cDraw G.K)) : Fn G "_law_of" 2 (cOf G.K) := by
  refine Fn.of F hf b sc26 (fun ks k ⟨α, A, l, p, b, n, h, _⟩ => by rw [h]; rfl) fun X hX hfn hp ks k ⟨α, A, l, p, b, n, hks, hb, hn, hl0, hl1, hk⟩ => ?_
  subst hks
  refine S_one ?_
  refine S1_ret ?_
  refine E_ix hX (fun _ _ => rfl) ?_
  refine P_name (i := 1) hX rfl (.inl rfl) rfl (by intro z; cases z) ?_  -- menu
  refine E_call hX h1 (by omega) rfl rfl ?_
  refine A_cons rfl ?_
  refine P_name (i := 0) hX rfl (.inl rfl) rfl (by intro z; cases z) ?_  -- bag
  refine A_cons rfl ?_
  refine P_val ?_
  refine E_len hX rfl B.len rfl ?_
  refine P_name (i := 1) hX rfl (.inl rfl) rfl (by intro z; cases z) ?_  -- menu
  refine ⟨_, _, rfl, len_L, ?_⟩
  refine ⟨_, _, _, .im _ _, ?_⟩
  refine A_nil ?_
  refine ⟨[_, _], ⟨rfl, rfl, trivial⟩, trivial, p, b, n, _, rfl, hb, hn, by omega, by omega, fun d b' hd hb' => ?_⟩
  have hdl : d < l.length := by omega
  have e : l[d]? = some l[d] := List.getElem?_eq_getElem hdl
  refine ⟨_, .im _ _, _, rfl, _, _, _, ix_L (atI_nat e), ?_⟩
  exact fin_bag (x := .no) (xs := [.im (rL G.K A) l]) 0 rfl (hk _ (List.getElem_mem hdl) b' hb')
theorem cons_erase_perm {α : Type} {l : List α} {d : Nat} (h : d < l.length) : (l[d] :: l.eraseIdx d).Perm l := by
  have e : l = l.take d ++ l[d] :: l.drop (d + 1) := by simp
  have e2 : l.eraseIdx d = l.take d ++ l.drop (d + 1) := List.eraseIdx_eq_take_drop_succ l d
  rw [e2]
  conv => rhs; rw [e]
  exact List.perm_middle.symm
def cMixed (K : PySem.W.Frag) : Ct := fun ks k => ∃ (α : Type) (A : DR α) (l : List α) (p : Addr) (b : Bag) (n : Nat), ks = [.ow p (cBag K) b, .im (rL K A) l] ∧ Bg n b ∧ n + l.length < 2 ^ 30 ∧ l.length < 1000 ∧ ∀ q l' b', l'.Perm l → Bg (n + l.length) b' → k (.ow q (cL A) l') [.ow p (cBag K) b', .no]
/-! ### _law_gcd, _law_frac -/
def cGcdL : Ct := fun ks k => ∃ i j : Int, ks = [.im rI i, .im rI j] ∧ j.natAbs < 2 ^ 100000 ∧ k (.im rI ((Nat.gcd i.natAbs j.natAbs : Nat) : Int)) [.no, .no]
theorem sc29 : FnScope ["up", "low", "turn"] ["up", "low"] (defScope (top 39)) := ⟨rfl, rfl, rfl, by decide +kernel, rfl, by decide +kernel, by decide +kernel⟩
theorem euclid_half {u l : Nat} (h : l < u) (h0 : 0 < l) : 2 * (u % l) ≤ u := by
  have h1 := Nat.mod_lt u h0
  have h2 := Nat.div_add_mod u l
  have h3 : 1 ≤ u / l := (Nat.one_le_div_iff h0).mpr (by omega)
  have h4 := Nat.mul_le_mul_left l h3
  omega
theorem f29 {G : Gm} {f : Addr} {fd : FuncData} (F : Fun G.K "_law_gcd" "_law_gcd" (top 39) f fd) (hf : G.mg "_law_gcd" = some (.ref f)) (b : Binds G.K fd ["up", "low"] [])
    (B : Bi G) : Fn G "_law_gcd" 1 cGcdL := by
  refine Fn.of F hf b sc29 (fun ks k ⟨i, j, h, _⟩ => by rw [h]; rfl) fun X hX hfn hp ks k ⟨i, j, hks, hj, hk⟩ => ?_
  subst hks
  have hL : Builtin.Int.intBits ((j.natAbs : Nat) : Int) ≤ 100000 := PyProof.Rows.intBits_le (by rw [Int.natAbs_natCast]; exact hj)
  have hlow := intBits_lt ((j.natAbs : Nat) : Int)
  rw [Int.natAbs_natCast] at hlow
  -- up, low = (abs(up), abs(low))
  refine S_cons ?_
  refine S1_par (i := 0) (j := 1) hX rfl rfl (by decide) rfl rfl rfl ?_
  refine E_abs hX rfl B.abs rfl ?_
  refine E_name (i := 0) hX rfl (.inl rfl) rfl ?_  -- up
  refine ⟨_, .im _ _, ?_⟩
  refine E_abs hX rfl B.abs rfl ?_
  refine E_name (i := 1) hX rfl (.inl rfl) rfl ?_  -- low
  refine ⟨_, .im _ _, ?_⟩
  refine ⟨_, _, rfl, ?_⟩
  -- for turn in range(4 * (low.bit_length() + 2)):
  refine S_cons ?_
  refine S1_for hX hp ?_
  refine I_rng1 hX rfl B.range rfl ?_
  refine E_mul ?_
  refine E_int ?_
  refine ⟨_, .im _ _, ?_⟩
  refine E_add ?_
  refine E_bits ?_
  refine E_name (i := 1) hX rfl (.inl rfl) rfl ?_
  refine ⟨_, .im _ _, ?_⟩
  refine ⟨_, .im _ _, ?_⟩
  refine E_int ?_
  refine ⟨_, .im _ _, ?_⟩
  generalize hLe : Builtin.Int.intBits ((j.natAbs : Nat) : Int) = L at *
  refine ⟨_, .im _ _, mulx_ok (a := 5) (b := 31) (by decide) (by omega) (by omega), ?_⟩
  refine ⟨_, .im _ _, by omega, by omega, ?_⟩
  have hturn : (4 * ((L : Int) + 2)).toNat = 4 * (L + 2) := by omega
  rw [hturn]
  refine ⟨fun n τ => ∃ (u l : Nat) (x2 : Kd), Nat.gcd u l = Nat.gcd i.natAbs j.natAbs ∧ (n % 2 = 0 → l * 2 ^ (n / 2) ≤ j.natAbs) ∧ (n % 2 = 1 → l < u ∧ u * 2 ^ (n / 2) ≤ j.natAbs) ∧ τ = [.im rI (u : Int), .im rI (l : Int), x2], ⟨i.natAbs, j.natAbs, _, rfl, (fun _ => by simp), (fun h => by simp at h), rfl⟩, fun n y τ hy hI => ?_, fun τ hI => ?_⟩
  · obtain ⟨u, l, x2, hg, he, ho, hτ⟩ := hI
    subst hτ
    obtain ⟨hn, ey⟩ := rngK0_get hy
    subst ey
    refine T_name (i := 2) hX rfl rfl ?_  -- turn
    refine S_cons ?_
    refine S1_if ?_
    refine C_eqI ?_
    refine E_name (i := 1) hX rfl (.inl rfl) rfl ?_  -- low
    refine ⟨_, .im _ _, ?_⟩
    refine E_int ?_
    refine ⟨_, .im _ _, ?_⟩
    refine ⟨fun hc => ?_, fun hc => ?_⟩
    · have hl0 : l = 0 := by
        have := of_decide_eq_true hc
        omega
      subst hl0
      refine S_one ?_
      refine S1_ret ?_
      refine E_name (i := 0) hX rfl (.inl rfl) rfl ?_  -- up
      rw [Nat.gcd_zero_right] at hg
      rw [hg]
      exact fin_no hk
    refine S_nil ?_
    have hl0 : 0 < l := by
      have : ¬ ((l : Int) = 0) := of_decide_eq_false hc
      omega
    -- up, low = (low, int(up) % low)
    refine S_one ?_
    refine S1_par (i := 0) (j := 1) hX rfl rfl (by decide) rfl rfl rfl ?_
    refine E_name (i := 1) hX rfl (.inl rfl) rfl ?_  -- low
    refine E_mod ?_
    refine E_int1 hX rfl B.int rfl ?_
    refine E_name (i := 0) hX rfl (.inl rfl) rfl ?_  -- up
    refine ⟨_, .im _ _, ?_⟩
    refine ⟨_, .im _ _, ?_⟩
    refine E_name (i := 1) hX rfl (.inl rfl) rfl ?_  -- low
    refine ⟨_, .im _ _, by omega, ?_⟩
    refine ⟨_, _, rfl, l, u % l, .im rI (n : Int), ?_, fun h => ?_, fun h => ⟨Nat.mod_lt _ hl0, ?_⟩, ?_⟩
    · rw [← hg, Nat.gcd_comm u l, Nat.gcd_rec l u]; exact Nat.gcd_comm _ _
    · -- n odd
      obtain ⟨h1, h2⟩ := ho (by omega)
      have h3 := euclid_half h1 hl0
      have e : (n + 1) / 2 = n / 2 + 1 := by omega
      rw [e, Nat.pow_succ]
      have h4 := Nat.mul_le_mul_right (2 ^ (n / 2)) h3
      have e2 : u % l * (2 ^ (n / 2) * 2) = 2 * (u % l) * 2 ^ (n / 2) := by
        rw [Nat.mul_comm (2 ^ (n / 2)) 2, ← Nat.mul_assoc, Nat.mul_comm (u % l) 2]
      rw [e2]
      exact Nat.le_trans h4 h2
    · have h1 := he (by omega)
      have e : (n + 1) / 2 = n / 2 := by omega
      rw [e]
      exact h1
    · rw [Int.natCast_emod]; rfl
  obtain ⟨u, l, x2, hg, he, ho, hτ⟩ := hI
  rw [rngK_len] at he
  subst hτ
  have hl0 : l = 0 := by
    have h1 := he (by omega)
    have e : 4 * (L + 2) / 2 = L + (L + 4) := by omega
    rw [e, Nat.pow_add] at h1
    rcases Nat.eq_zero_or_pos l with q | q
    · exact q
    · have h2 : 2 ^ L ≤ l * (2 ^ L * 2 ^ (L + 4)) := by
        have h3 : 1 ≤ 2 ^ (L + 4) := Nat.one_le_two_pow
        have h4 := Nat.mul_le_mul_left (2 ^ L) h3
        have h5 := Nat.le_mul_of_pos_left (2 ^ L * 2 ^ (L + 4)) q
        omega
      omega
  subst hl0
  refine S_one ?_
  refine S1_ret ?_
  refine E_name (i := 0) hX rfl (.inl rfl) rfl ?_  -- up
  rw [Nat.gcd_zero_right] at hg
  rw [hg]
  exact fin_no hk
end T
end
section
set_option Elab.async false
set_option linter.all false
set_option autoImplicit false
set_option maxRecDepth 100000
set_option maxHeartbeats 2000000
namespace T
open PySem PySem.Spec PyProof.Rows L2
theorem gives_int_gt_bi (p : Bool) (b : Int) (u : Tok) : Gives (Builtin.«int.__gt__» ⟨[.bool p, .int b u], []⟩) (.val (Value.bool ((fun x1 x2 => decide (x1 > x2)) (if p = true then (1 : Int) else 0) b))) :=
  .of_wp fun M A E s Q h => by obtain ⟨hp, g, d, tk, os⟩ := s; wp_walk; exact ⟨_, rfl, h⟩
theorem gt_bi {prog : Program} {w : World} {A : Around} {E : Value → Shared → Prop} {s : Shared} {p : Bool} {b : Int} {u : Tok} {Q : Value → Shared → Prop} (h : Q (.bool (decide (b < (if p then 1 else 0)))) s) : wpAny (model prog w) A (compareOp .Gt (.bool p) (.int b u)) Q E s :=
  by
  show wpAny _ _ (richCompare .Gt (.bool p) (.int b u)) _ _ _
  exact wpAny_richCompare_left (typeIs_bool' s p) (typeIs_int s b u) (by decide) (by rw [isSubtype_type]; kernel_rfl) F.slot_bool_gt
    (call_gives F.slot_bool_gt (typeIs_bool' s p) F.entry_int_gt (F.args_int_gt_2 _ _) (gives_int_gt_bi p b u) (Made.post_and (by intro hq; cases hq) h))
theorem op_gtBI {X : Cx} : OpR X (compareOp .Gt) (fun x y H Q => ∃ c j, x = .bl c ∧ y = .int j ∧ Q (.bl (decide (j < (if c then 1 else 0)))) H) := by
  intro pins s σ H x y v u Q I rx ry h
  obtain ⟨c, j, rfl, rfl, q⟩ := h
  cases rx
  obtain ⟨t, rfl⟩ := ry
  exact gt_bi ⟨.bl _, H, I, rfl, q⟩
section
variable {G : Gm} {X : Cx} {N : List Str} {sc : Scope} {n : Nat} {τ τ1 : Tau} {k : KK} {P : Po} {y : Kd} {e a b c : Expr} {pos p : Pos}
/-- a truth value > a number, as a test -/
theorem C_gtBI {kt : Bool → Tau → Prop} (h : E X a τ fun x τ1 => ∃ i, Fz x (.im rB i) ∧ E X b τ1 fun y τ2 => ∃ j, Fz y (.im rI j) ∧ kt (decide (j < (if i then 1 else 0))) τ2) : C X (.Compare a [.Gt] [b] pos) τ kt :=
  C_cmp op_gtBI (nomark _) (w_op (A := rB) (B := rI) (k1 := fun _ _ => True) (h.mono fun x τ1 ⟨i, fz, hb⟩ => ⟨i, fz, hb.mono fun y τ2 ⟨j, fz', hk⟩ => ⟨j, fz', fun σ H F R0 R Q v u ok r1 r2 q => by
    cases r1; cases r2
    exact ⟨i, j, rfl, rfl, q _ τ2 _ R H ⟨_, .im _ _, hk⟩ (Le.refl R) ok (VOk.im rfl)⟩⟩⟩))
end
end T
end
section
set_option Elab.async false
set_option linter.all false
set_option maxRecDepth 100000
set_option maxHeartbeats 2000000
set_option exponentiation.threshold 10000
namespace T
open PySem PySem.Spec PyProof.Rows L2
theorem lt_pow {n a b : Nat} (h : n < 2 ^ a) (hab : a ≤ b) : n < 2 ^ b := Nat.lt_of_lt_of_le h (Nat.pow_le_pow_right (by omega) hab)
theorem mul_lt_pow {x y : Int} {a b c : Nat} (hx : x.natAbs < 2 ^ a) (hy : y.natAbs < 2 ^ b) (h : a + b ≤ c) : (x * y).natAbs < 2 ^ c := by
  rw [Int.natAbs_mul]
  have := Nat.mul_lt_mul'' hx hy
  rw [← Nat.pow_add] at this
  exact lt_pow this h
/-! ### _law_frac, _law_plus, _law_mul -/
theorem sc30 : FnScope ["up", "low", "most"] ["up", "low"] (defScope (top 40)) := ⟨rfl, rfl, rfl, by decide +kernel, rfl, by decide +kernel, by decide +kernel⟩
theorem f30 {G : Gm} {f : Addr} {fd : FuncData} (F : Fun G.K "_law_frac" "_law_frac" (top 40) f fd) (hf : G.mg "_law_frac" = some (.ref f)) (b : Binds G.K fd ["up", "low"] [])
    (B : Bi G) (h1 : Fn G "_law_gcd" 1 cGcdL) : Fn G "_law_frac" 2 (cLowK G.K) := by
  refine Fn.of F hf b sc30 (fun ks k ⟨t, b, h, _⟩ => by rw [h]; rfl) fun X hX hfn hp ks k ⟨t, b, hks, hb0, hbz, hk⟩ => ?_
  subst hks
  refine S_cons ?_
  refine S1_set (i := 2) hX rfl rfl ?_  -- most
  refine E_call hX h1 (by omega) rfl rfl ?_
  refine A_cons rfl ?_
  refine P_name (i := 0) hX rfl (.inl rfl) rfl (by intro z; cases z) ?_  -- up
  refine A_cons rfl ?_
  refine P_name (i := 1) hX rfl (.inl rfl) rfl (by intro z; cases z) ?_  -- low
  refine A_nil ?_
  refine ⟨[_, _], ⟨rfl, rfl, trivial⟩, trivial, _, _, rfl, lt_pow hbz (by omega), ?_⟩
  -- if low < 0:
  refine S_join (fun τ => τ = [.im rI t, .im rI b, .im rI (if b < 0 then -((Nat.gcd t.natAbs b.natAbs : Nat) : Int) else ((Nat.gcd t.natAbs b.natAbs : Nat) : Int))]) ?_ fun τ hτ => ?_
  · refine S1_if ?_
    refine C_lt ?_
    refine E_name (i := 1) hX rfl (.inl rfl) rfl ?_  -- low
    refine ⟨_, .im _ _, ?_⟩
    refine E_int ?_
    refine ⟨_, .im _ _, ?_⟩
    refine ⟨fun hc => ?_, fun hc => ?_⟩
    · refine S_one ?_
      refine S1_set (i := 2) hX rfl rfl ?_
      refine E_sub ?_
      refine E_int ?_
      refine ⟨_, .im _ _, ?_⟩
      refine E_name (i := 2) hX rfl (.inl rfl) rfl ?_
      refine ⟨_, .im _ _, ?_⟩
      show _ = _
      rw [if_pos (by simpa using hc), Int.zero_sub]
      rfl
    · refine S_nil ?_
      show _ = _
      rw [if_neg (by simpa using hc)]
      rfl
  subst hτ
  obtain ⟨g1, g2⟩ := gcd_lt (t := t) hb0 hbz
  refine S_one ?_
  refine S1_ret ?_
  refine E_tup hX rfl (by decide) ?_
  refine E_fdivB ?_
  refine E_name (i := 0) hX rfl (.inl rfl) rfl ?_
  refine ⟨_, .im _ _, ?_⟩
  refine E_name (i := 2) hX rfl (.inl rfl) rfl ?_
  refine ⟨_, .im _ _, divB_ok g2 g1, ?_⟩
  refine ⟨_, .im _ _, ?_⟩
  refine E_fdivB ?_
  refine E_name (i := 1) hX rfl (.inl rfl) rfl ?_
  refine ⟨_, .im _ _, ?_⟩
  refine E_name (i := 2) hX rfl (.inl rfl) rfl ?_
  refine ⟨_, .im _ _, divB_ok g2 g1, ?_⟩
  refine ⟨_, .im _ _, ?_⟩
  exact ⟨by simp, _, _, _, tup_Q (low_num hb0) (low_den hb0), fin_no hk⟩
end T
end
section
set_option Elab.async false
set_option linter.all false
set_option maxRecDepth 100000
/-! Data of any shape as one relation. -/
namespace T
open PySem PySem.Spec PyProof.Rows L2
theorem LeR.of_le {R R' : Hp} (l : Le R R') : LeR R R' := fun a o h => .inl (l a o h)
mutual
theorem dp_up {K : PySem.W.Frag} {R H : Hp} (l : LeR R H) : ∀ (d : PyData) {v : V}, Dp K R v d → Dp K H v d
  | .none, _, h => by cases h; exact .non
  | .bool b, _, h => by cases h; exact .bl b
  | .int i, _, h => by cases h; exact .int i
  | .str x, _, h => by cases h; exact .str x
  | .list ds, _, h => by
    cases h with
    | lst h1 h2 => exact .lst (l.sqL h1) (dps_up l ds h2)
  | .tuple ds, _, h => by
    cases h with
    | tup h1 h2 => exact .tup (l.sqT h1) (dps_up l ds h2)
theorem dps_up {K : PySem.W.Frag} {R H : Hp} (l : LeR R H) : ∀ (ds : List PyData) {vs : List V}, DpAll K R vs ds → DpAll K H vs ds
  | [], _, h => by cases h; exact .nil
  | d :: ds, _, h => by
    cases h with
    | cons h1 h2 => exact .cons (dp_up l d h1) (dps_up l ds h2)
end
/-- data of any shape -/
def rU (K : PySem.W.Frag) : DR PyData := ⟨fun R v d => Dp K R v d, fun l h => dp_up (LeR.of_le l) _ h⟩
theorem fz_U {K : PySem.W.Frag} {α : Type} {A : DR α} {f : α → PyData} (hA : Deep K A f) {R : Hp} {v : V} {a : α} (h : A.rel R v a) : (rU K).rel R v (f a) := hA R v a h R (fun _ _ h => .inl h)
theorem deep_U {K : PySem.W.Frag} : Deep K (rU K) id := fun R v a h H l => dp_up l _ h
theorem dps_pair {K : PySem.W.Frag} {R : Hp} : ∀ {vs : List V} {ds : List PyData}, DpAll K R vs ds → Paired ((rU K).rel R) vs ds
  | _, _, .nil => .nil
  | _, _, .cons h t => .cons h (dps_pair t)
theorem ix_UL {K : PySem.W.Frag} {l : List PyData} {i : Int} {a : PyData} (ha : atI l i = some a) : IxOf K (.im (rU K) (.list l)) i (rU K) a := fun R H v le h => by
  cases h with
  | lst h1 h2 =>
    obtain ⟨w, e1, e2⟩ := at_of_paired (dps_pair h2) ha
    exact ⟨_, _, w, rfl, .inl (le.sqL h1), e1, e2⟩
theorem ix_UT {K : PySem.W.Frag} {l : List PyData} {i : Int} {a : PyData} (ha : atI l i = some a) : IxOf K (.im (rU K) (.tuple l)) i (rU K) a := fun R H v le h => by
  cases h with
  | tup h1 h2 =>
    obtain ⟨w, e1, e2⟩ := at_of_paired (dps_pair h2) ha
    exact ⟨_, _, w, rfl, .inr (le.sqT h1), e1, e2⟩
end T
namespace T
open PySem PySem.Spec PyProof.Rows L2
theorem ty_sqL {K : PySem.W.Frag} {H : Hp} {p : Addr} {xs : List V} (h : SqL K H p xs) : TyX K H (.ref p) (.type "list") := by
  rcases h with h | ⟨o, its, m, h1, h2, _⟩
  · exact ty_rd h
  · exact .kList h1 h2
theorem ty_Ui {K : PySem.W.Frag} {i : Int} : TyD K (.im (rU K) (.int i)) "int" := fun R H v l h => by cases h; exact .base (.int i)
theorem ty_Ub {K : PySem.W.Frag} {i : Bool} : TyD K (.im (rU K) (.bool i)) "bool" := fun R H v l h => by cases h; exact .base (.bl i)
theorem ty_Us {K : PySem.W.Frag} {i : Str} : TyD K (.im (rU K) (.str i)) "str" := fun R H v l h => by cases h; exact .base (.str i)
theorem ty_Ul {K : PySem.W.Frag} {l : List PyData} : TyD K (.im (rU K) (.list l)) "list" := fun R H v le h => by
  cases h with
  | lst h1 h2 => exact ty_sqL (le.sqL h1)
theorem ty_Ut {K : PySem.W.Frag} {l : List PyData} : TyD K (.im (rU K) (.tuple l)) "tuple" := fun R H v le h => by
  cases h with
  | tup h1 h2 => exact ty_sqT (le.sqT h1)
theorem len_UL {K : PySem.W.Frag} {l : List PyData} : LenOf K (.im (rU K) (.list l)) l.length := fun R H v le h => by
  cases h with
  | lst h1 h2 => exact .inl (.inl ⟨_, le.sqL h1, (PySem.Paired.length (dps_pair h2)).symm⟩)
theorem len_UT {K : PySem.W.Frag} {l : List PyData} : LenOf K (.im (rU K) (.tuple l)) l.length := fun R H v le h => by
  cases h with
  | tup h1 h2 => exact .inl (.inr ⟨_, le.sqT h1, (PySem.Paired.length (dps_pair h2)).symm⟩)
theorem fz_Ui {K : PySem.W.Frag} {i : Int} : Fz (.im (rU K) (.int i)) (.im rI i) := .cv fun R v h => by cases h; rfl
theorem fz_Ub {K : PySem.W.Frag} {i : Bool} : Fz (.im (rU K) (.bool i)) (.im rB i) := .cv fun R v h => by cases h; rfl
theorem fz_Us {K : PySem.W.Frag} {i : Str} : Fz (.im (rU K) (.str i)) (.im rS i) := .cv fun R v h => by cases h; rfl
end T
end
section
set_option Elab.async false
set_option linter.all false
set_option maxRecDepth 100000
set_option maxHeartbeats 2000000
namespace T
open PySem PySem.Spec PyProof.Rows L2
/-! ### a is None, a is not None -/
def IsNK (x : Kd) (c : Bool) : Prop := ∀ R H v, x.rel R H v → decide (v = V.non) = c
theorem isn_Un {K : PySem.W.Frag} : IsNK (.im (rU K) .none) true := fun R H v h => by cases h; rfl
theorem isn_L {K : PySem.W.Frag} {α : Type} {A : DR α} {l : List α} : IsNK (.im (rL K A) l) false := fun R H v ⟨a, xs, e, _⟩ => by subst e; rfl
theorem isn_N : IsNK (.im rN ()) true := fun R H v h => by cases h; rfl
theorem ty_Un {K : PySem.W.Frag} : TyD K (.im (rU K) .none) "NoneType" := fun R H v l h => by cases h; exact .base .non
theorem fz_none {K : PySem.W.Frag} : ∀ R v, rN.rel R v () → (rU K).rel R v .none := fun R v h => by cases h; exact .non
section
variable {G : Gm} {X : Cx} {τ : Tau} {k : KK} {a : Expr} {pos p2 : Pos}
theorem E_isN {j} (h : E X a τ fun x τ1 => ∃ c, IsNK x c ∧ k (.im rB c) τ1) : E X (.Compare a [.Is] [.Constant .none j p2] pos) τ k :=
  E.of (pe_cmp (pc_isN pe_sem)) fun σ H F R0 R Q ok q => h σ H F R0 R _ ok fun x τ1 v R1 H1 ⟨c, hc, hk⟩ l1 ok1 w1 => by
    rw [hc R1 H1 v w1.rel]
    exact q _ τ1 _ R1 H1 hk l1 ok1 (VOk.im rfl)
theorem C_notN {j} {kt : Bool → Tau → Prop} (h : E X a τ fun x τ1 => ∃ c, IsNK x c ∧ kt (!c) τ1) : C X (.Compare a [.IsNot] [.Constant .none j p2] pos) τ kt :=
  C.of (pt_cmp (pc_notN pe_sem)) fun σ H F R0 R Q ok q => h σ H F R0 R _ ok fun x τ1 v R1 H1 ⟨c, hc, hk⟩ l1 ok1 w1 => by
    have hd := hc R1 H1 v w1.rel
    refine ⟨!c, ?_, q _ τ1 R1 H1 hk l1 ok1⟩
    rw [← hd]
end
end T
end
section
set_option Elab.async false
set_option linter.all false
set_option maxRecDepth 100000
set_option maxHeartbeats 2000000
/-! Plain law: numbers in texts. -/
namespace T
open PySem PySem.Spec PyProof.Rows
abbrev tx (a : List Nat) : Str := SX.S a
def isDg (c : Nat) : Bool := decide (48 ≤ c) && decide (c ≤ 57)
/-- the digits of a whole number, no 0 ahead -/
def isW : List Nat → Bool
  | [] => false
  | c :: r => (c :: r).all isDg && (decide (c ≠ 48) || r.isEmpty)
abbrev wv (a : List Nat) : Nat := NumText.digitsVal a
def neg (a : List Nat) : Bool := decide (a.head? = some 45)
def frt (a : List Nat) : List Nat := if neg a then a.tail else a
def sg (a : List Nat) (u l : Int) : Option (Int × Int) := if neg a then (if u = 0 then none else some (-u, l)) else some (u, l)
/-- the number that a text writes -/
def numOf (a : List Nat) : Option (Int × Int) := match TL.par [47] [] (frt a) with
  | none => if isW (frt a) then sg a (wv (frt a)) 1 else none
  | some (p, q) => if isW p && isW q && decide (2 ≤ wv q) && decide (Nat.gcd (wv p) (wv q) = 1) then sg a (wv p) (wv q) else none
theorem isW_all {a : List Nat} (h : isW a = true) : a.all isDg = true ∧ a ≠ [] := by
  cases a with
  | nil => cases h
  | cons c r =>
    unfold isW at h
    rw [Bool.and_eq_true] at h
    exact ⟨h.1, by simp⟩
theorem pre_one {c : Nat} {r : List Nat} {s : Nat} : TL.pre [s] (c :: r) = decide (c = s) := by
  show ((c :: r).take 1 == [s]) = _
  rw [List.take_succ_cons, List.take_zero]
  by_cases h : c = s
  · subst h; simp
  · simp [h]
/-- cut everywhere: the first cut, and what stands behind it cut -/
theorem spl_par {s : Nat} : ∀ (f acc : List Nat), TL.spl [s] 0 acc f = match TL.par [s] acc f with
    | none => [acc ++ f]
    | some (p, q) => p :: TL.spl [s] 0 [] q
  | [], acc => by rw [TL.spl_nil, TL.par, List.append_nil]
  | c :: r, acc => by
    by_cases h : TL.pre [s] (c :: r) = true
    · rw [TL.spl_hit h, TL.par_hit h]; rfl
    · have h : TL.pre [s] (c :: r) = false := by simpa using h
      rw [TL.spl_miss h, TL.par_miss h, spl_par r (acc ++ [c])]
      cases TL.par [s] (acc ++ [c]) r with
      | none => rw [List.append_assoc]; rfl
      | some z => rfl
theorem par_none_mem {s : Nat} : ∀ {f acc : List Nat}, TL.par [s] acc f = none → s ∉ f
  | [], _, _ => by simp
  | c :: r, acc, h => by
    by_cases hc : TL.pre [s] (c :: r) = true
    · rw [TL.par_hit hc] at h; cases h
    · have hc : TL.pre [s] (c :: r) = false := by simpa using hc
      rw [TL.par_miss hc] at h
      rw [pre_one] at hc
      have := of_decide_eq_false hc
      simp only [List.mem_cons, not_or]
      exact ⟨fun z => this z.symm, par_none_mem h⟩
theorem par_some_eq {s : Nat} : ∀ {f acc p q : List Nat}, TL.par [s] acc f = some (p, q) → acc ++ f = p ++ s :: q
  | [], _, _, _, h => by cases h
  | c :: r, acc, p, q, h => by
    by_cases hc : TL.pre [s] (c :: r) = true
    · rw [TL.par_hit hc] at h
      rw [pre_one] at hc
      have e := of_decide_eq_true hc
      subst e
      have h := Option.some.inj h
      cases h
      rfl
    · have hc : TL.pre [s] (c :: r) = false := by simpa using hc
      rw [TL.par_miss hc] at h
      have := par_some_eq h
      rw [List.append_assoc] at this
      exact this
/-- the parts of the law's own reading -/
def prts (a : List Nat) : List (List Nat) := TL.spl [47] 0 [] (frt a)
theorem not_dg {q : List Nat} (h : 47 ∈ q) : isW q = false := by
  cases hq : isW q with
  | false => rfl
  | true =>
    have := List.all_eq_true.mp (isW_all hq).1 47 h
    exact absurd this (by decide)
/-- more than two parts -/
theorem num_many {a : List Nat} (h : 2 < (prts a).length) : numOf a = none := by
  unfold prts at h
  rw [spl_par] at h
  unfold numOf
  cases hp : TL.par [47] [] (frt a) with
  | none => rw [hp] at h; simp at h
  | some z =>
    obtain ⟨p, q⟩ := z
    rw [hp] at h
    have h : 2 < (p :: TL.spl [47] 0 [] q).length := h
    rw [List.length_cons, spl_par] at h
    cases hq : TL.par [47] [] q with
    | none => rw [hq] at h; simp at h
    | some z =>
      have hm : 47 ∈ q := by
        have := par_some_eq (p := z.1) (q := z.2) hq
        have this : q = z.1 ++ 47 :: z.2 := this
        rw [this]; simp
      dsimp only
      rw [not_dg hm]
      simp
/-- a part that is no whole number -/
theorem num_bad {a p : List Nat} (hm : p ∈ prts a) (h : isW p = false) : numOf a = none := by
  unfold prts at hm
  rw [spl_par] at hm
  unfold numOf
  cases hp : TL.par [47] [] (frt a) with
  | none =>
    rw [hp] at hm
    have hm : p = frt a := by simpa using hm
    rw [← hm]
    dsimp only
    rw [h]; rfl
  | some z =>
    obtain ⟨x, q⟩ := z
    rw [hp] at hm
    have hm : p ∈ x :: TL.spl [47] 0 [] q := hm
    dsimp only
    rcases List.mem_cons.mp hm with e | hm
    · rw [← e, h]; simp
    · rw [spl_par] at hm
      cases hq : TL.par [47] [] q with
      | none =>
        rw [hq] at hm
        have hm : p = q := by simpa using hm
        rw [← hm, h]; simp
      | some z =>
        have hm : 47 ∈ q := by
          have := par_some_eq (p := z.1) (q := z.2) hq
          have this : q = z.1 ++ 47 :: z.2 := this
          rw [this]; simp
        rw [not_dg hm]; simp
/-- one part, two parts: all of them whole numbers -/
theorem num_one {a p : List Nat} (e : prts a = [p]) (h : isW p = true) : numOf a = sg a (wv p) 1 := by
  unfold prts at e
  rw [spl_par] at e
  unfold numOf
  cases hp : TL.par [47] [] (frt a) with
  | none =>
    rw [hp] at e
    have e : frt a = p := by simpa using e
    dsimp only
    rw [e, h]; rfl
  | some z =>
    obtain ⟨x, q⟩ := z
    rw [hp] at e
    have e : x :: TL.spl [47] 0 [] q = [p] := e
    rw [spl_par] at e
    cases hq : TL.par [47] [] q with
    | none => rw [hq] at e; simp at e
    | some z => rw [hq] at e; simp at e
theorem num_two {a p q : List Nat} (e : prts a = [p, q]) (hp' : isW p = true) (hq' : isW q = true) : numOf a = if 2 ≤ wv q ∧ Nat.gcd (wv p) (wv q) = 1 then sg a (wv p) (wv q) else none := by
  unfold prts at e
  rw [spl_par] at e
  unfold numOf
  cases hp : TL.par [47] [] (frt a) with
  | none => rw [hp] at e; simp at e
  | some z =>
    obtain ⟨x, y⟩ := z
    rw [hp] at e
    have e : x :: TL.spl [47] 0 [] y = [p, q] := e
    rw [spl_par] at e
    cases hq : TL.par [47] [] y with
    | none =>
      rw [hq] at e
      have e : x = p ∧ y = q := by simpa using e
      obtain ⟨e1, e2⟩ := e
      subst e1 e2
      dsimp only
      rw [hp', hq']
      by_cases h : 2 ≤ wv y ∧ Nat.gcd (wv x) (wv y) = 1
      · rw [if_pos h, if_pos (by simp [h])]
      · rw [if_neg h, if_neg (by simpa using h)]
    | some z =>
      rw [hq] at e
      have e : x = p ∧ z.1 :: TL.spl [47] 0 [] z.2 = [q] := by simpa using e
      have := e.2
      rw [spl_par] at this
      cases hz : TL.par [47] [] z.2 with
      | none => rw [hz] at this; simp at this
      | some w => rw [hz] at this; simp at this
/-! ### how a number is written -/
def intL (i : Int) : List Nat := if i < 0 then 45 :: TL.numL i.natAbs else TL.numL i.natAbs
def wordL (q : Rat) : List Nat := if q.den = 1 then intL q.num else intL q.num ++ 47 :: TL.numL q.den
theorem int_tx (i : Int) : Str.ofString (toString i) = tx (intL i) := by
  unfold intL
  by_cases h : i < 0
  · rw [if_pos h]
    obtain ⟨n, e⟩ : ∃ n : Nat, i = Int.negSucc n := ⟨i.natAbs - 1, by omega⟩
    subst e
    have h1 := SX.num_S (n + 1)
    have e2 : (toString (Int.negSucc n)) = "-" ++ toString (((n + 1 : Nat) : Int)) := rfl
    rw [e2]
    have e3 : ∀ s : String, Str.ofString ("-" ++ s) = ("-" : Str) ++ Str.ofString s := fun s => by
      rw [Str.ofString_eq_toList, Str.ofString_eq_toList, Str.ofString_eq_toList]
      show Str.mk _ = Str.mk _
      congr 1
      simp
    rw [e3, h1]
    show tx [45] ++ tx _ = _
    rw [SX.S_cat]; rfl
  · rw [if_neg h]
    obtain ⟨n, e⟩ : ∃ n : Nat, i = (n : Int) := ⟨i.toNat, by omega⟩
    subst e
    exact SX.num_S n
theorem numL_isW (n : Nat) : isW (TL.numL n) = true := by
  have hd : (TL.numL n).all isDg = true := List.all_eq_true.mpr fun c hc => by
    have := TL.numL_digits n c hc
    unfold isDg
    simpa using this
  have key : ∀ n : Nat, ∃ c r, TL.numL n = c :: r ∧ (c ≠ 48 ∨ r = []) := by
    intro n
    induction n using Nat.strongRecOn with
    | _ n ih =>
      by_cases h : n < 10
      · exact ⟨_, _, TL.numL_lt h, .inr rfl⟩
      · obtain ⟨c, r, e, hc⟩ := ih (n / 10) (by omega)
        refine ⟨c, r ++ [48 + n % 10], by rw [TL.numL_step (by omega), e]; rfl, .inl fun z => ?_⟩
        rcases hc with hc | hc
        · exact hc z
        · have hv := TL.numL_val (n / 10)
          rw [e, hc, z] at hv
          have : n / 10 = 0 := hv.symm
          omega
  obtain ⟨c, r, e, hc⟩ := key n
  rw [e] at hd ⊢
  show ((c :: r).all isDg && (decide (c ≠ 48) || r.isEmpty)) = true
  rw [hd]
  rcases hc with h | h
  · simp [h]
  · subst h; simp
theorem numL_head {n : Nat} : (TL.numL n).head? ≠ some 45 := fun z => by
  cases h : TL.numL n with
  | nil => exact TL.numL_ne n h
  | cons c r =>
    rw [h] at z
    have e : c = 45 := by simpa using z
    exact TL.numL_free (n := n) (s := 45) (.inl (by omega)) (by rw [h, e]; simp)
theorem neg_int (i : Int) (r : List Nat) : neg (intL i ++ r) = decide (i < 0) ∧ frt (intL i ++ r) = TL.numL i.natAbs ++ r := by
  have hn : neg (intL i ++ r) = decide (i < 0) := by
    unfold neg intL
    by_cases h : i < 0
    · rw [if_pos h, decide_eq_true h]; rfl
    · rw [if_neg h, decide_eq_false h]
      refine decide_eq_false fun z => ?_
      have := numL_head (n := i.natAbs)
      cases e : TL.numL i.natAbs with
      | nil => exact TL.numL_ne _ e
      | cons c t =>
        rw [e] at z this
        exact this z
  refine ⟨hn, ?_⟩
  unfold frt
  rw [hn]
  unfold intL
  by_cases h : i < 0
  · rw [if_pos h, if_pos (by simpa using h)]; rfl
  · rw [if_neg h, if_neg (by simpa using h)]
/-- what is written is read -/
theorem num_word (q : Rat) : numOf (wordL q) = some (q.num, (q.den : Int)) := by
  have hsg : ∀ r l, sg (intL q.num ++ r) ((q.num.natAbs : Nat) : Int) l = some (q.num, l) := fun r l => by
    unfold sg
    rw [(neg_int q.num r).1]
    by_cases h : q.num < 0
    · rw [if_pos (by simpa using h), if_neg (by omega)]
      congr 2
      omega
    · rw [if_neg (by simpa using h)]
      congr 2
      omega
  unfold wordL
  by_cases hd : q.den = 1
  · rw [if_pos hd]
    have e := (neg_int q.num []).2
    rw [List.append_nil, List.append_nil] at e
    have hs := hsg [] 1
    rw [List.append_nil] at hs
    unfold numOf
    rw [e, TL.par_none1 (TL.numL_free (.inl (by omega)))]
    dsimp only
    rw [if_pos (numL_isW _), wv, TL.numL_val, hs, hd]; rfl
  · rw [if_neg hd]
    have e := (neg_int q.num (47 :: TL.numL q.den)).2
    unfold numOf
    rw [e]
    have hp : TL.par [47] [] (TL.numL q.num.natAbs ++ 47 :: TL.numL q.den) = some (TL.numL q.num.natAbs, TL.numL q.den) := TL.par_part1 (acc := []) (TL.numL_free (.inl (by omega)))
    rw [hp]
    dsimp only
    rw [if_pos ?_, wv, wv, TL.numL_val, TL.numL_val, hsg]
    have := q.den_pos
    have hr := q.reduced
    unfold wv
    rw [TL.numL_val, TL.numL_val, numL_isW, numL_isW]
    simp
    exact ⟨by omega, hr⟩
end T
end
section
set_option Elab.async false
set_option linter.all false
set_option maxRecDepth 100000
set_option maxHeartbeats 2000000
/-! Texts: rules of the layer. -/
namespace T
open PySem PySem.Spec PyProof.Rows L2
theorem ixN_nat {n i : Nat} (h : i < n) : ixN n (i : Int) = some i := by
  unfold ixN
  rw [if_pos (by omega), if_pos (by omega)]
  rfl
theorem at_nat {α : Type} {l : List α} {a : α} {i : Nat} (h : l[i]? = some a) : atI l (i : Int) = some a := by
  unfold atI
  rw [ixN_nat (List.getElem?_eq_some_iff.mp h).1]
  exact h
section
variable {G : Gm} {X : Cx} {N : List Str} {sc : Scope} {n : Nat} {τ τ1 : Tau} {k : KK} {P : Po} {y : Kd} {e a b c tg : Expr} {es : List Expr} {pos p p2 apos : Pos} {kt : Bool → Tau → Prop}
theorem E_addS (h : E X a τ fun x τ1 => ∃ i, Fz x (.im rS i) ∧ E X b τ1 fun y τ2 => ∃ j, Fz y (.im rS j) ∧ i.length + j.length ≤ 100000 ∧ k (.im rS (i ++ j)) τ2) : E X (.BinOp a .Add b pos) τ k :=
  E.of (pe_op op_add_str pe_sem pe_sem) (w_op (A := rS) (B := rS) (k1 := k) (h.mono fun x τ1 ⟨i, fz, hb⟩ => ⟨i, fz, hb.mono fun y τ2 ⟨j, fz', hl, hk⟩ => ⟨j, fz', fun σ H F R0 R Q v u ok r1 r2 q =>
    ⟨i, j, r1, r2, by rw [sizeLine_eq]; omega, q _ τ2 _ R H hk (Le.refl R) ok (VOk.im rfl)⟩⟩⟩))
theorem dec_S {i j : Str} : decide (V.str i = V.str j) = decide (i = j) := by rw [Bool.eq_iff_iff]; simp
theorem E_neS (h : E X a τ fun x τ1 => ∃ i, Fz x (.im rS i) ∧ E X b τ1 fun y τ2 => ∃ j, Fz y (.im rS j) ∧ k (.im rB (!decide (i = j))) τ2) : E X (.Compare a [.NotEq] [b] pos) τ k :=
  E.of (pe_cmpR op_ne pe_sem pe_sem (nomark _)) (w_op (A := rS) (B := rS) (k1 := k) (h.mono fun x τ1 ⟨i, fz, hb⟩ => ⟨i, fz, hb.mono fun y τ2 ⟨j, fz', hk⟩ => ⟨j, fz', fun σ H F R0 R Q v u ok r1 r2 q => by
    cases r1; cases r2
    exact ⟨rfl, by rw [dec_S]; exact q _ τ2 _ R H hk (Le.refl R) ok (VOk.im rfl)⟩⟩⟩))
theorem C_eqS (h : E X a τ fun x τ1 => ∃ i, Fz x (.im rS i) ∧ E X b τ1 fun y τ2 => ∃ j, Fz y (.im rS j) ∧ kt (decide (i = j)) τ2) : C X (.Compare a [.Eq] [b] pos) τ kt :=
  C_cmp op_eq (nomark _) (w_op (A := rS) (B := rS) (k1 := fun _ _ => True) (h.mono fun x τ1 ⟨i, fz, hb⟩ => ⟨i, fz, hb.mono fun y τ2 ⟨j, fz', hk⟩ => ⟨j, fz', fun σ H F R0 R Q v u ok r1 r2 q => by
    cases r1; cases r2
    exact ⟨rfl, by rw [dec_S]; exact q _ τ2 _ R H ⟨_, .im _ _, hk⟩ (Le.refl R) ok (VOk.im rfl)⟩⟩⟩))
theorem C_neS (h : E X a τ fun x τ1 => ∃ i, Fz x (.im rS i) ∧ E X b τ1 fun y τ2 => ∃ j, Fz y (.im rS j) ∧ kt (!decide (i = j)) τ2) : C X (.Compare a [.NotEq] [b] pos) τ kt :=
  C_cmp op_ne (nomark _) (w_op (A := rS) (B := rS) (k1 := fun _ _ => True) (h.mono fun x τ1 ⟨i, fz, hb⟩ => ⟨i, fz, hb.mono fun y τ2 ⟨j, fz', hk⟩ => ⟨j, fz', fun σ H F R0 R Q v u ok r1 r2 q => by
    cases r1; cases r2
    exact ⟨rfl, by rw [dec_S]; exact q _ τ2 _ R H ⟨_, .im _ _, hk⟩ (Le.refl R) ok (VOk.im rfl)⟩⟩⟩))
/-- one sign in a text, not in a text -/
theorem C_inS (h : E X a τ fun x τ1 => ∃ i : Nat, Fz x (.im rS (tx [i])) ∧ E X b τ1 fun y τ2 => ∃ j : List Nat, Fz y (.im rS (tx j)) ∧ kt (decide (i ∈ j)) τ2) (hm : behindInMarks .In b = false := by rfl) : C X (.Compare a [.In] [b] pos) τ kt :=
  C_cmp op_in_sign hm (w_op (A := rS) (B := rS) (k1 := fun _ _ => True) (h.mono fun x τ1 ⟨i, fz, hb⟩ => ⟨tx [i], fz, hb.mono fun y τ2 ⟨j, fz', hk⟩ => ⟨tx j, fz', fun σ H F R0 R Q v u ok r1 r2 q =>
    ⟨i, tx j, r1, r2, q _ τ2 _ R H ⟨_, .im _ _, hk⟩ (Le.refl R) ok (VOk.im rfl)⟩⟩⟩))
theorem C_ninS (h : E X a τ fun x τ1 => ∃ i : Nat, Fz x (.im rS (tx [i])) ∧ E X b τ1 fun y τ2 => ∃ j : List Nat, Fz y (.im rS (tx j)) ∧ kt (!decide (i ∈ j)) τ2) (hm : behindInMarks .NotIn b = false := by rfl) : C X (.Compare a [.NotIn] [b] pos) τ kt :=
  C_cmp op_notIn_sign hm (w_op (A := rS) (B := rS) (k1 := fun _ _ => True) (h.mono fun x τ1 ⟨i, fz, hb⟩ => ⟨tx [i], fz, hb.mono fun y τ2 ⟨j, fz', hk⟩ => ⟨tx j, fz', fun σ H F R0 R Q v u ok r1 r2 q =>
    ⟨i, tx j, r1, r2, q _ τ2 _ R H ⟨_, .im _ _, hk⟩ (Le.refl R) ok (VOk.im rfl)⟩⟩⟩))
/-! ### methods -/
theorem E_isdigit (h : E X a τ fun x τ1 => ∃ i, Fz x (.im rS i) ∧ k (.im rB (Txt.isdigit i)) τ1) (hbase : attributeBase a "isdigit" X.env (eval a X.env) = eval a X.env := by rfl) (hline : (apos.endLine == pos.line) = true := by rfl) :
    E X (.Call (.Attribute a "isdigit" apos) [] [] pos) τ k :=
  E.of (pe_m0 F.slot_str_isdigit F.type_str_isdigit mt_isdigit pe_sem hbase hline) fun σ H F R0 R Q ok q => h σ H F R0 R _ ok fun x τ1 v R1 H1 ⟨i, fz, hk⟩ l1 ok1 w1 => by
    obtain ⟨R2, l2, ok2, r2⟩ := fz_rel ok1 w1 fz
    cases r2
    exact ⟨⟨i, rfl⟩, i, rfl, rfl, trivial, q _ τ1 _ R2 H1 hk (l1.trans l2) ok2 (VOk.im rfl)⟩
/-- a method of one text: what both must be -/
theorem w_m1 {te to : TE} {r : V → List V → Hp → VK → Prop} {α β : Type} {A : DR α} {B : DR β}
    (h : W to τ fun x τ1 => ∃ i, Fz x (.im rS i) ∧ W te τ1 fun y τ2 => ∃ j, Fz y (.im B j) ∧
      ∀ (σ : L2.St) (H F R0 R : Hp) (Q : VK) (u : V), Ok F R0 R H σ τ2 → B.rel R u j → (∀ x τ' v R' H', k x τ' → Le R R' → Ok F R0 R' H' σ τ' → VOk F R' H' τ' v x → Q v H') → r (.str i) [u] H Q) : W (tM1 r to te) τ k :=
  fun σ H F R0 R Q ok q => h σ H F R0 R _ ok fun x τ1 v R1 H1 ⟨i, fz, hb⟩ l1 ok1 w1 => by
    obtain ⟨R2, l2, ok2, r2⟩ := fz_rel ok1 w1 fz
    cases r2
    refine ⟨⟨i, rfl⟩, hb σ H1 F R0 R2 _ ok2 fun y τ2 u R3 H3 ⟨j, fz', hr⟩ l3 ok3 w3 => ?_⟩
    obtain ⟨R4, l4, ok4, r4⟩ := fz_rel ok3 w3 fz'
    exact hr σ H3 F R0 R4 Q u ok4 r4 fun x τ' v R' H' hk l ok' w => q x τ' v R' H' hk ((l1.trans l2).trans ((l3.trans l4).trans l)) ok' w
theorem E_starts (hs : noStar [b] = true) (h : E X a τ fun x τ1 => ∃ i, Fz x (.im rS i) ∧ E X b τ1 fun y τ2 => ∃ j, Fz y (.im rS j) ∧ k (.im rB (Txt.startswith i j)) τ2)
    (hbase : attributeBase a "startswith" X.env (eval a X.env) = eval a X.env := by rfl) (hline : (apos.endLine == pos.line) = true := by rfl) : E X (.Call (.Attribute a "startswith" apos) [b] [] pos) τ k :=
  E.of (pe_m1 F.slot_str_startswith F.type_str_startswith mt_startswith pe_sem pe_sem (star_of hs _ _ (List.suffix_refl _)) hbase hline)
    (w_m1 (A := rS) (B := rS) (h.mono fun x τ1 ⟨i, fz, hb⟩ => ⟨i, fz, hb.mono fun y τ2 ⟨j, fz', hk⟩ => ⟨j, fz', fun σ H F R0 R Q u ok r q => ⟨i, j, rfl, by rw [r], q _ τ2 _ R H hk (Le.refl R) ok (VOk.im rfl)⟩⟩⟩))
theorem E_part (hs : noStar [b] = true) (h : E X a τ fun x τ1 => ∃ i, Fz x (.im rS i) ∧ E X b τ1 fun y τ2 => ∃ j, Fz y (.im rS j) ∧ (j.length == 0) = false ∧ i.length ≤ 100000 ∧ k (.im (rTri G.K rS rS rS) (Txt.partition i j)) τ2)
    (hbase : attributeBase a "partition" X.env (eval a X.env) = eval a X.env := by rfl) (hline : (apos.endLine == pos.line) = true := by rfl) : E X (.Call (.Attribute a "partition" apos) [b] [] pos) τ k :=
  E.of (pe_m1 F.slot_str_partition F.type_str_partition mt_partition pe_sem pe_sem (star_of hs _ _ (List.suffix_refl _)) hbase hline)
    (w_m1 (A := rS) (B := rS) (h.mono fun x τ1 ⟨i, fz, hb⟩ => ⟨i, fz, hb.mono fun y τ2 ⟨j, fz', h1, h2, hk⟩ => ⟨j, fz', fun σ H F R0 R Q u ok r q => ⟨i, j, rfl, by rw [r], h1, by rw [sizeLine_eq]; omega, fun p hp => by
      obtain ⟨hR, hF, ho⟩ := ok.fresh hp
      exact q _ τ2 _ _ _ hk (Le.upd hR) (ok.lay hp) (VOk.im ⟨p, _, _, _, rfl, .inl (.inl upd_same), rfl, rfl, rfl⟩)⟩⟩⟩))
theorem paired_S {R : Hp} : ∀ l : List Str, Paired (rS.rel R) (l.map V.str) l
  | [] => .nil
  | x :: l => .cons rfl (paired_S l)
theorem E_split (hs : noStar [b] = true) (h : E X a τ fun x τ1 => ∃ i, Fz x (.im rS i) ∧ E X b τ1 fun y τ2 => ∃ j, Fz y (.im rS j) ∧ (j.length == 0) = false ∧ i.length ≤ 100000 ∧ ∀ p, k (.ow p (cL rS) (Txt.split i j)) τ2)
    (hbase : attributeBase a "split" X.env (eval a X.env) = eval a X.env := by rfl) (hline : (apos.endLine == pos.line) = true := by rfl) : E X (.Call (.Attribute a "split" apos) [b] [] pos) τ k :=
  E.of (pe_m1 F.slot_str_split F.type_str_split mt_split pe_sem pe_sem (star_of hs _ _ (List.suffix_refl _)) hbase hline)
    (w_m1 (A := rS) (B := rS) (h.mono fun x τ1 ⟨i, fz, hb⟩ => ⟨i, fz, hb.mono fun y τ2 ⟨j, fz', h1, h2, hk⟩ => ⟨j, fz', fun σ H F R0 R Q u ok r q => ⟨i, j, rfl, by rw [r], h1, by rw [sizeLine_eq]; omega, fun p hp => by
      obtain ⟨hR, hF, ho⟩ := ok.fresh hp
      exact q _ τ2 _ R _ (hk p) (Le.refl R) (ok.new hp) ⟨⟨rfl, hR, _, upd_same, _, rfl, paired_S _⟩, fun p' z => by cases z; exact ⟨hF, ho⟩⟩⟩⟩⟩))
theorem strs_of_rel {R : Hp} : ∀ {xs : List V} {l : List Str}, Paired (rS.rel R) xs l → xs = l.map V.str
  | _, _, .nil => rfl
  | _, _, .cons h t => by
    have h : _ = V.str _ := h
    rw [h, strs_of_rel t]; rfl
theorem E_join (hX : XF G X N sc n) (hs : noStar [b] = true) (h : E X a τ fun x τ1 => ∃ i, Fz x (.im rS i) ∧ E X b τ1 fun y τ2 => ∃ l, Fz y (.im (rL G.K rS) l) ∧ (l.map (·.length)).sum + l.length * i.length ≤ 100000 ∧ k (.im rS (Txt.join i l)) τ2)
    (hbase : attributeBase a "join" X.env (eval a X.env) = eval a X.env := by rfl) (hline : (apos.endLine == pos.line) = true := by rfl) : E X (.Call (.Attribute a "join" apos) [b] [] pos) τ k :=
  E.of (pe_m1 F.slot_str_join F.type_str_join mt_join pe_sem pe_sem (star_of hs _ _ (List.suffix_refl _)) hbase hline)
    (w_m1 (A := rS) (B := rL G.K rS) (h.mono fun x τ1 ⟨i, fz, hb⟩ => ⟨i, fz, hb.mono fun y τ2 ⟨j, fz', h1, hk⟩ => ⟨j, fz', fun σ H F R0 R Q u ok r q => by
      obtain ⟨pa, xs, e1, hq, hp⟩ := r
      have := strs_of_rel hp
      subst this
      subst e1
      exact ⟨i, pa, j, rfl, rfl, .inl (by rw [hX.eK]; exact .inl (ok.le.rd hq)), by omega, q _ τ2 _ R H hk (Le.refl R) ok (VOk.im rfl)⟩⟩⟩))
/-! ### parts -/
theorem E_slTo (h : E X a τ fun x τ1 => ∃ i, Fz x (.im rS i) ∧ E X b τ1 fun y τ2 => ∃ j, Fz y (.im rI j) ∧ i.length ≤ 100000 ∧ k (.im rS (Txt.slice i none (some j))) τ2) : E X (.Subscript a (.Slice none (some b) none p2) pos) τ k :=
  E.of (pe_slice C8.sl_txt pe_sem po_none (po_some pe_sem)) fun σ H F R0 R Q ok q => h σ H F R0 R _ ok fun x τ1 v R1 H1 ⟨i, fz, hb⟩ l1 ok1 w1 => by
    obtain ⟨R2, l2, ok2, r2⟩ := fz_rel ok1 w1 fz
    cases r2
    refine hb σ H1 F R0 R2 _ ok2 fun y τ2 u R3 H3 ⟨j, fz', h1, hk⟩ l3 ok3 w3 => ?_
    obtain ⟨R4, l4, ok4, r4⟩ := fz_rel ok3 w3 fz'
    exact ⟨j, r4, i, rfl, by rw [sizeLine_eq]; omega, q _ τ2 _ R4 H3 hk ((l1.trans l2).trans (l3.trans l4)) ok4 (VOk.im rfl)⟩
theorem E_slFrom (h : E X a τ fun x τ1 => ∃ i, Fz x (.im rS i) ∧ E X b τ1 fun y τ2 => ∃ j, Fz y (.im rI j) ∧ i.length ≤ 100000 ∧ k (.im rS (Txt.slice i (some j) none)) τ2) : E X (.Subscript a (.Slice (some b) none none p2) pos) τ k :=
  E.of (pe_slice C8.sl_txt pe_sem (po_some pe_sem) po_none) fun σ H F R0 R Q ok q => h σ H F R0 R _ ok fun x τ1 v R1 H1 ⟨i, fz, hb⟩ l1 ok1 w1 => by
    obtain ⟨R2, l2, ok2, r2⟩ := fz_rel ok1 w1 fz
    cases r2
    refine hb σ H1 F R0 R2 _ ok2 fun y τ2 u R3 H3 ⟨j, fz', h1, hk⟩ l3 ok3 w3 => ?_
    obtain ⟨R4, l4, ok4, r4⟩ := fz_rel ok3 w3 fz'
    exact ⟨j, r4, i, rfl, by rw [sizeLine_eq]; omega, q _ τ2 _ R4 H3 hk ((l1.trans l2).trans (l3.trans l4)) ok4 (VOk.im rfl)⟩
/-- one sign of a text -/
theorem E_ixS (hs : PlainIx b) (h : E X a τ fun x τ1 => ∃ i : List Nat, Fz x (.im rS (tx i)) ∧ E X b τ1 fun y τ2 => ∃ j c, Fz y (.im rI j) ∧ i.length ≤ 100000 ∧ atI i j = some c ∧ k (.im rS (tx [c])) τ2) : E X (.Subscript a b pos) τ k :=
  E.of (pe_ix ix_str pe_sem pe_sem hs) (w_op (A := rS) (B := rI) (k1 := k) (h.mono fun x τ1 ⟨i, fz, hb⟩ => ⟨tx i, fz, hb.mono fun y τ2 ⟨j, c, fz', h1, h2, hk⟩ => ⟨j, fz', fun σ H F R0 R Q v u ok r1 r2 q =>
    ⟨tx i, j, c, r1, r2, by rw [SX.S_len, sizeLine_eq]; omega, h2, q _ τ2 _ R H hk (Le.refl R) ok (VOk.im rfl)⟩⟩⟩))
/-! ### numbers and texts -/
theorem E_strI (hX : XF G X N sc n) (hg : sc.names.lookup ("str" : Str) = some .globalImplicit) (hm : G.mg ("str" : Str) = none) (hs : noStar [e] = true)
    (h : E X e τ fun x τ1 => ∃ i, Fz x (.im rI i) ∧ i.natAbs.log2 < 1920 ∧ k (.im rS (toString i)) τ1) : E X (.Call (.Name "str" p) [e] [] pos) τ k :=
  E.of (pe_callTy call_str_int (hX.gl hg) (hX.mgN hm) boot_strB (pa1 hs) (he := star_of hs _ _ (List.suffix_refl _))) fun σ H F R0 R Q ok q =>
    h σ H F R0 R _ ok fun x τ1 v R1 H1 ⟨i, fz, hl, hk⟩ l1 ok1 w1 => by
      obtain ⟨R2, l2, ok2, r⟩ := fz_rel ok1 w1 fz
      cases r
      exact ⟨i, rfl, hl, q _ τ1 _ R2 H1 hk (l1.trans l2) ok2 (VOk.im rfl)⟩
theorem E_intS (hX : XF G X N sc n) (hg : sc.names.lookup ("int" : Str) = some .globalImplicit) (hm : G.mg ("int" : Str) = none) (hs : noStar [e] = true)
    (h : E X e τ fun x τ1 => ∃ i m, Fz x (.im rS i) ∧ PySem.intText? i = some m ∧ i.length ≤ 640 ∧ k (.im rI m) τ1) : E X (.Call (.Name "int" p) [e] [] pos) τ k :=
  E.of (pe_callTy call_int_str (hX.gl hg) (hX.mgN hm) boot_intB (pa1 hs) (he := star_of hs _ _ (List.suffix_refl _))) fun σ H F R0 R Q ok q =>
    h σ H F R0 R _ ok fun x τ1 v R1 H1 ⟨i, m, fz, h1, h2, hk⟩ l1 ok1 w1 => by
      obtain ⟨R2, l2, ok2, r⟩ := fz_rel ok1 w1 fz
      cases r
      exact ⟨i, m, rfl, h1, h2, q _ τ1 _ R2 H1 hk (l1.trans l2) ok2 (VOk.im rfl)⟩
/-- for x in text -/
theorem itOk_str {F R : Hp} {l : List Nat} : ItOk (Its (tx l)) F R (l.map fun c => .im rS (tx [c])) where
  go := fun F' R' H i _ _ _ _ hi => by
    show i < (tx l).cps.size
    simpa using hi
  stop := fun F' R' H _ _ _ _ => by
    show (tx l).cps.size ≤ _
    simp
  yld := fun F' R0 R' H σ τ i y x H' _ ok l1 ey ⟨e, c, hc, hy⟩ => by
    subst e; subst hy
    rw [List.getElem?_map] at ey
    have hc' : l[i]? = some c := by simpa using hc
    rw [hc'] at ey
    cases ey
    exact ⟨R', Le.refl R', ok, trivial, rfl⟩
theorem I_strS {k : List Kd → Tau → Prop} (h : E X e τ fun x τ1 => ∃ l : List Nat, Fz x (.im rS (tx l)) ∧ k (l.map fun c => .im rS (tx [c])) τ1) : T.It X tg e τ k :=
  T.It.of (pi_str pe_sem) fun σ H F R0 R Rr ok q => h σ H F R0 R _ ok fun x τ1 v R1 H1 ⟨l, fz, hk⟩ l1 ok1 w1 => by
    obtain ⟨R2, l2, ok2, r⟩ := fz_rel ok1 w1 fz
    exact ⟨tx l, r, q _ _ τ1 R2 H1 hk (l1.trans l2) ok2 itOk_str⟩
/-! ### f-strings -/
/-- how a value is written in an f-string -/
def FmtOf (x : Kd) (s : Str) : Prop := ∀ R H v, x.rel R H v → (v = .str s ∧ s.length ≤ 100000) ∨ ∃ i : Int, v = .int i ∧ i.natAbs.log2 < 1920 ∧ s = toString i
theorem fmt_S {s : Str} (h : s.length ≤ 100000) : FmtOf (.im rS s) s := fun R H v r => .inl ⟨r, h⟩
theorem fmt_I {i : Int} (h : i.natAbs.log2 < 1920) : FmtOf (.im rI i) (toString i) := fun R H v r => .inr ⟨i, r, h, rfl⟩
/-- f"{a}s{b}" -/
theorem E_f3 {s : Str} {j : Nat} {q1 q2 q3 : Pos} (h : E X a τ fun x τ1 => ∃ α, ∃ A : DR α, ∃ u t, Fz x (.im A u) ∧ FmtOf (.im A u) t ∧ t.length + s.length ≤ 100000 ∧ E X b τ1 fun y τ2 => ∃ β, ∃ B : DR β, ∃ u' t', Fz y (.im B u') ∧ FmtOf (.im B u') t' ∧ t.length + s.length + t'.length ≤ 100000 ∧ k (.im rS (t ++ s ++ t')) τ2) :
    E X (.JoinedStr [.FormattedValue a (-1) none q1, .Constant (.str s) j q2, .FormattedValue b (-1) none q3] pos) τ k := by
  have se := sizeLine_eq
  have app_len : ∀ u v : Str, (u ++ v).length = u.length + v.length := fun u v => by
    show (u.cps ++ v.cps).size = _
    rw [Array.size_append]; rfl
  have emp : ∀ u : Str, Str.empty ++ u = u := fun u => by
    show Str.mk (#[] ++ u.cps) = u
    rw [Array.empty_append]
  refine E.of (pe_joined (.cons (pe_fmt pe_sem) (.cons pe_str (.cons (pe_fmt pe_sem) .nil)))) fun σ H F R0 R Q ok q => ?_
  refine h σ H F R0 R _ ok fun x τ1 v R1 H1 ⟨α, A, u, t, fz, ft, hl0, hb⟩ l1 ok1 w1 => ?_
  obtain ⟨R2, l2, ok2, r2⟩ := fz_rel ok1 w1 fz
  have rest : t.length ≤ 100000 → ∃ y : Str, V.str t = .str y ∧ (Str.empty ++ y).length ≤ sizeLine ∧ tJs [tC (.str s), tFmt (sem X b)] (Str.empty ++ y) σ H1 fun out H2 => Q (.str out) H2 := fun ht => by
    refine ⟨t, rfl, by rw [emp]; omega, ?_⟩
    rw [emp]
    refine ⟨s, rfl, ?_, hb σ H1 F R0 R2 _ ok2 fun y τ2 w R3 H3 ⟨β, B, u', t', fz', ft', hl, hk⟩ l3 ok3 w3 => ?_⟩
    · rw [app_len]
      have := hl0
      omega
    · obtain ⟨R4, l4, ok4, r4⟩ := fz_rel ok3 w3 fz'
      have fin : ∃ y : Str, V.str t' = .str y ∧ (t ++ s ++ y).length ≤ sizeLine ∧ Q (.str (t ++ s ++ y)) H3 :=
        ⟨t', rfl, by rw [app_len, app_len]; omega, q _ τ2 _ R4 H3 hk ((l1.trans l2).trans (l3.trans l4)) ok4 (VOk.im rfl)⟩
      rcases ft' R4 H3 w r4 with ⟨e, z⟩ | ⟨i, e, z, e2⟩
      · subst e
        exact .inl ⟨t', rfl, by omega, fin⟩
      · subst e
        rw [e2] at fin
        exact .inr ⟨i, rfl, z, fin⟩
  rcases ft R2 H1 v r2 with ⟨e, z⟩ | ⟨i, e, z, e2⟩
  · subst e
    exact .inl ⟨t, rfl, by omega, rest (by omega)⟩
  · subst e
    subst e2
    exact .inr ⟨i, rfl, z, rest (by omega)⟩
end
end T
end
section
set_option Elab.async false
set_option linter.all false
set_option maxRecDepth 100000
set_option maxHeartbeats 2000000
set_option exponentiation.threshold 10000
namespace T
open PySem PySem.Spec PyProof.Rows L2
/-! ### _law_like, of data like one another -/
def SD : Nat → PyData → Prop
  | _, .int _ => True
  | _, .bool _ => True
  | _, .str _ => True
  | _, .none => True
  | m + 1, .list ds => ds.length ≤ 1000 ∧ ∀ x ∈ ds, SD m x
  | m + 1, .tuple ds => ds.length ≤ 1000 ∧ ∀ x ∈ ds, SD m x
  | _, _ => False
def cLike (m : Nat) (K : PySem.W.Frag) : Ct := fun ks k => ∃ d : PyData, ks = [.im (rU K) d, .im (rU K) d] ∧ SD m d ∧ k (.im rB true) [.no, .no]
theorem sc28 : FnScope ["told", "due", "key", "k"] ["told", "due"] (defScope (top 38)) := ⟨rfl, rfl, rfl, by decide +kernel, rfl, by decide +kernel, by decide +kernel⟩
theorem f28 {G : Gm} {f : Addr} {fd : FuncData} (F : Fun G.K "_law_like" "_law_like" (top 38) f fd) (hf : G.mg "_law_like" = some (.ref f)) (b : Binds G.K fd ["told", "due"] [])
    (B : Bi G) : ∀ m, Fn G "_law_like" (m + 1) (cLike m G.K) := by
  suffices step : ∀ m, (∀ m', m = m' + 1 → Fn G "_law_like" (m' + 1) (cLike m' G.K)) → Fn G "_law_like" (m + 1) (cLike m G.K) by
    intro m
    induction m with
    | zero => exact step 0 fun m' h => by omega
    | succ m ih =>
      refine step (m + 1) fun m' h => ?_
      have e : m' = m := Nat.succ.inj h.symm
      rw [e]; exact ih
  intro m ihm
  refine Fn.of F hf b sc28 (fun ks k ⟨d, h, _⟩ => by rw [h]; rfl) fun X hX hfn hp ks k ⟨d, hks, hd, hk⟩ => ?_
  subst hks
  cases d with
  | int i =>
    refine S_cons ?_
    refine S1_if ?_
    refine C_val ?_
    refine E_isi hX rfl B.isi rfl B.bool rfl rfl ?_
    refine E_name (i := 1) hX rfl (.inr (.inl rfl)) rfl ?_
    refine ⟨_, _, _, .im _ _, ty_Ui, rfl, ?_⟩
    refine ⟨_, .im _ _, ?_⟩
    refine ⟨fun hc => (by cases hc), fun _ => S_nil ?_⟩
    refine S_cons ?_
    refine S1_if ?_
    refine C_val ?_
    refine E_isi hX rfl B.isi rfl B.int rfl rfl ?_
    refine E_name (i := 1) hX rfl (.inr (.inl rfl)) rfl ?_
    refine ⟨_, _, _, .im _ _, ty_Ui, rfl, ?_⟩
    refine ⟨_, .im _ _, ?_⟩
    refine ⟨fun _ => ?_, fun hc => (by cases hc)⟩
    refine S_one ?_
    refine S1_ret ?_
    refine E_and3 ?_
    refine E_isi hX rfl B.isi rfl B.int rfl rfl ?_
    refine E_name (i := 0) hX rfl (.inr (.inl rfl)) rfl ?_
    refine ⟨_, _, _, .im _ _, ty_Ui, rfl, ?_⟩
    refine ⟨_, .im _ _, fun _ => ?_, fun hc => (by cases hc)⟩
    refine E_not ?_
    refine E_isi hX rfl B.isi rfl B.bool rfl rfl ?_
    refine E_name (i := 0) hX rfl (.inr (.inl rfl)) rfl ?_
    refine ⟨_, _, _, .im _ _, ty_Ui, rfl, ?_⟩
    refine ⟨_, .im _ _, ?_⟩
    refine ⟨_, .im _ _, fun _ => ?_, fun hc => (by cases hc)⟩
    refine E_eqI ?_
    refine E_name (i := 0) hX rfl (.inr (.inl rfl)) rfl ?_
    refine ⟨_, fz_Ui, ?_⟩
    refine E_name (i := 1) hX rfl (.inr (.inl rfl)) rfl ?_
    refine ⟨_, fz_Ui, ?_⟩
    rw [show decide (i = i) = true by simp]
    exact fin_no hk
  | bool i =>
    refine S_cons ?_
    refine S1_if ?_
    refine C_val ?_
    refine E_isi hX rfl B.isi rfl B.bool rfl rfl ?_
    refine E_name (i := 1) hX rfl (.inr (.inl rfl)) rfl ?_
    refine ⟨_, _, _, .im _ _, ty_Ub, rfl, ?_⟩
    refine ⟨_, .im _ _, ?_⟩
    refine ⟨fun _ => ?_, fun hc => (by cases hc)⟩
    refine S_one ?_
    refine S1_ret ?_
    refine E_and2 ?_
    refine E_isi hX rfl B.isi rfl B.bool rfl rfl ?_
    refine E_name (i := 0) hX rfl (.inr (.inl rfl)) rfl ?_
    refine ⟨_, _, _, .im _ _, ty_Ub, rfl, ?_⟩
    refine ⟨_, .im _ _, fun _ => ?_, fun hc => (by cases hc)⟩
    refine E_eqD (A := rB) (B := rB) hX deep_B deep_B ?_
    refine E_name (i := 0) hX rfl (.inr (.inl rfl)) rfl ?_
    refine ⟨_, fz_Ub, ?_⟩
    refine E_name (i := 1) hX rfl (.inr (.inl rfl)) rfl ?_
    refine ⟨_, fz_Ub, rfl, rfl, ?_⟩
    rw [show PyData.eqv (.bool i) (.bool i) = true by cases i <;> rfl]
    exact fin_no hk
  | str i =>
    refine S_cons ?_
    refine S1_if ?_
    refine C_val ?_
    refine E_isi hX rfl B.isi rfl B.bool rfl rfl ?_
    refine E_name (i := 1) hX rfl (.inr (.inl rfl)) rfl ?_
    refine ⟨_, _, _, .im _ _, ty_Us, rfl, ?_⟩
    refine ⟨_, .im _ _, ?_⟩
    refine ⟨fun hc => (by cases hc), fun _ => S_nil ?_⟩
    refine S_cons ?_
    refine S1_if ?_
    refine C_val ?_
    refine E_isi hX rfl B.isi rfl B.int rfl rfl ?_
    refine E_name (i := 1) hX rfl (.inr (.inl rfl)) rfl ?_
    refine ⟨_, _, _, .im _ _, ty_Us, rfl, ?_⟩
    refine ⟨_, .im _ _, ?_⟩
    refine ⟨fun hc => (by cases hc), fun _ => S_nil ?_⟩
    refine S_cons ?_
    refine S1_if ?_
    refine C_val ?_
    refine E_isi hX rfl B.isi rfl B.str rfl rfl ?_
    refine E_name (i := 1) hX rfl (.inr (.inl rfl)) rfl ?_
    refine ⟨_, _, _, .im _ _, ty_Us, rfl, ?_⟩
    refine ⟨_, .im _ _, ?_⟩
    refine ⟨fun _ => ?_, fun hc => (by cases hc)⟩
    refine S_one ?_
    refine S1_ret ?_
    refine E_and2 ?_
    refine E_isi hX rfl B.isi rfl B.str rfl rfl ?_
    refine E_name (i := 0) hX rfl (.inr (.inl rfl)) rfl ?_
    refine ⟨_, _, _, .im _ _, ty_Us, rfl, ?_⟩
    refine ⟨_, .im _ _, fun _ => ?_, fun hc => (by cases hc)⟩
    refine E_eqS ?_
    refine E_name (i := 0) hX rfl (.inr (.inl rfl)) rfl ?_
    refine ⟨_, fz_Us, ?_⟩
    refine E_name (i := 1) hX rfl (.inr (.inl rfl)) rfl ?_
    refine ⟨_, fz_Us, ?_⟩
    rw [show decide (i = i) = true by simp]
    exact fin_no hk
  | list l =>
    obtain ⟨m, rfl⟩ : ∃ m', m = m' + 1 := by
      cases m with
      | zero => exact hd.elim
      | succ m => exact ⟨m, rfl⟩
    have ih := ihm m rfl
    obtain ⟨hl, hs⟩ := hd
    refine S_cons ?_
    refine S1_if ?_
    refine C_val ?_
    refine E_isi hX rfl B.isi rfl B.bool rfl rfl ?_
    refine E_name (i := 1) hX rfl (.inr (.inl rfl)) rfl ?_
    refine ⟨_, _, _, .im _ _, ty_Ul, rfl, ?_⟩
    refine ⟨_, .im _ _, ?_⟩
    refine ⟨fun hc => (by cases hc), fun _ => S_nil ?_⟩
    refine S_cons ?_
    refine S1_if ?_
    refine C_val ?_
    refine E_isi hX rfl B.isi rfl B.int rfl rfl ?_
    refine E_name (i := 1) hX rfl (.inr (.inl rfl)) rfl ?_
    refine ⟨_, _, _, .im _ _, ty_Ul, rfl, ?_⟩
    refine ⟨_, .im _ _, ?_⟩
    refine ⟨fun hc => (by cases hc), fun _ => S_nil ?_⟩
    refine S_cons ?_
    refine S1_if ?_
    refine C_val ?_
    refine E_isi hX rfl B.isi rfl B.str rfl rfl ?_
    refine E_name (i := 1) hX rfl (.inr (.inl rfl)) rfl ?_
    refine ⟨_, _, _, .im _ _, ty_Ul, rfl, ?_⟩
    refine ⟨_, .im _ _, ?_⟩
    refine ⟨fun hc => (by cases hc), fun _ => S_nil ?_⟩
    refine S_cons ?_
    refine S1_if ?_
    refine C_val ?_
    refine E_isi hX rfl B.isi rfl B.dict rfl rfl ?_
    refine E_name (i := 1) hX rfl (.inr (.inl rfl)) rfl ?_
    refine ⟨_, _, _, .im _ _, ty_Ul, rfl, ?_⟩
    refine ⟨_, .im _ _, ?_⟩
    refine ⟨fun hc => (by cases hc), fun _ => S_nil ?_⟩
    refine S_cons ?_
    refine S1_if ?_
    refine C_or2 ?_
    refine C_val ?_
    refine E_isi hX rfl B.isi rfl B.list rfl rfl ?_
    refine E_name (i := 1) hX rfl (.inr (.inl rfl)) rfl ?_
    refine ⟨_, _, _, .im _ _, ty_Ul, rfl, ?_⟩
    refine ⟨_, .im _ _, ?_⟩
    refine ⟨fun _ => ?_, fun hc => (by cases hc)⟩
    refine ⟨fun _ => ?_, fun hc => (by cases hc)⟩
    refine S_cons ?_
    refine S1_if ?_
    refine C_or2 ?_
    refine C_neD (A := rB) (B := rB) hX deep_B deep_B ?_
    refine E_isi hX rfl B.isi rfl B.list rfl rfl ?_
    refine E_name (i := 0) hX rfl (.inr (.inl rfl)) rfl ?_
    refine ⟨_, _, _, .im _ _, ty_Ul, rfl, ?_⟩
    refine ⟨_, .im _ _, ?_⟩
    refine E_isi hX rfl B.isi rfl B.list rfl rfl ?_
    refine E_name (i := 1) hX rfl (.inr (.inl rfl)) rfl ?_
    refine ⟨_, _, _, .im _ _, ty_Ul, rfl, ?_⟩
    refine ⟨_, .im _ _, rfl, rfl, ?_⟩
    refine ⟨fun hc => (by cases hc), fun _ => ?_⟩
    refine C_neD (A := rB) (B := rB) hX deep_B deep_B ?_
    refine E_isi hX rfl B.isi rfl B.tuple rfl rfl ?_
    refine E_name (i := 0) hX rfl (.inr (.inl rfl)) rfl ?_
    refine ⟨_, _, _, .im _ _, ty_Ul, rfl, ?_⟩
    refine ⟨_, .im _ _, ?_⟩
    refine E_isi hX rfl B.isi rfl B.tuple rfl rfl ?_
    refine E_name (i := 1) hX rfl (.inr (.inl rfl)) rfl ?_
    refine ⟨_, _, _, .im _ _, ty_Ul, rfl, ?_⟩
    refine ⟨_, .im _ _, rfl, rfl, ?_⟩
    refine ⟨fun hc => (by cases hc), fun _ => S_nil ?_⟩
    refine S_cons ?_
    refine S1_if ?_
    refine C_neI ?_
    refine E_len hX rfl B.len rfl ?_
    refine P_name (i := 0) hX rfl (.inr (.inl rfl)) rfl (by intro z; cases z) ?_
    refine ⟨_, _, rfl, len_UL, ?_⟩
    refine ⟨_, .im _ _, ?_⟩
    refine E_len hX rfl B.len rfl ?_
    refine P_name (i := 1) hX rfl (.inr (.inl rfl)) rfl (by intro z; cases z) ?_
    refine ⟨_, _, rfl, len_UL, ?_⟩
    refine ⟨_, .im _ _, ?_⟩
    refine ⟨fun hc => (by simp at hc), fun _ => S_nil ?_⟩
    refine S_one ?_
    refine S1_ret ?_
    refine E_eqD (A := rL G.K rI) (B := rL G.K rI) hX (deep_L deep_I) (deep_L deep_I) ?_
    refine E_lc (own := [("k", 3)]) rI hX rfl ?_
    refine I_rng1 hX rfl B.range rfl ?_
    refine E_len hX rfl B.len rfl ?_
    refine P_name (i := 1) hX rfl (.inr (.inl rfl)) rfl (by intro z; cases z) ?_
    refine ⟨_, _, rfl, len_UL, ?_⟩
    refine ⟨_, .im _ _, by omega, by omega, ?_⟩
    refine ⟨fun i out τ => out = [] ∧ τ = [.im (rU G.K) (.list l), .im (rU G.K) (.list l), .no, .no], ⟨rfl, rfl⟩, fun i y hy => ?_, fun out τ hJ p => ?_⟩
    · rintro out τ ⟨ho, hτ⟩ X1 hX1 hf1
      subst hτ
      obtain ⟨hi1, ey⟩ := rngK0_get hy
      subst ey
      have hil : i < l.length := by omega
      have el : l[i]? = some l[i] := List.getElem?_eq_getElem hil
      refine TB_name (i := 3) hX1 rfl rfl (by decide) ?_  -- k
      intro X2 hX2
      refine Cs_one ?_
      refine C_not ?_
      refine C_val ?_
      refine E_call hX2 ih (by omega) rfl rfl ?_
      refine A_cons rfl ?_
      refine P_val ?_
      refine E_ix hX2 (fun _ _ => rfl) ?_
      refine P_name (i := 0) hX2 rfl (.inr (.inl rfl)) rfl (by intro z; cases z) ?_
      refine E_name (i := 3) hX2 rfl (.inl rfl) rfl ?_
      refine ⟨_, .im _ _, _, rfl, _, _, l[i], ix_UL (at_nat el), ?_⟩
      refine ⟨_, _, _, .im _ _, ?_⟩
      refine A_cons rfl ?_
      refine P_val ?_
      refine E_ix hX2 (fun _ _ => rfl) ?_
      refine P_name (i := 1) hX2 rfl (.inr (.inl rfl)) rfl (by intro z; cases z) ?_
      refine E_name (i := 3) hX2 rfl (.inl rfl) rfl ?_
      refine ⟨_, .im _ _, _, rfl, _, _, l[i], ix_UL (at_nat el), ?_⟩
      refine ⟨_, _, _, .im _ _, ?_⟩
      refine A_nil ?_
      refine ⟨[_, _], ⟨rfl, rfl, trivial⟩, trivial, l[i], rfl, hs _ (List.getElem_mem hil), ?_⟩
      refine ⟨_, .im _ _, ?_⟩
      refine ⟨fun h => (by cases h), fun _ => ?_⟩
      exact ⟨ho, rfl⟩
    obtain ⟨ho, hτ⟩ := hJ
    subst hτ ho
    refine ⟨_, .ow (frz_L (K := G.K)), ?_⟩
    refine E_lst rfl (A := rI) ?_
    refine ⟨by simp, [], rfl, fun pe => ?_⟩
    refine ⟨_, .ow (frz_L (K := G.K)), rfl, rfl, ?_⟩
    exact fin_no hk
  | tuple l =>
    obtain ⟨m, rfl⟩ : ∃ m', m = m' + 1 := by
      cases m with
      | zero => exact hd.elim
      | succ m => exact ⟨m, rfl⟩
    have ih := ihm m rfl
    obtain ⟨hl, hs⟩ := hd
    refine S_cons ?_
    refine S1_if ?_
    refine C_val ?_
    refine E_isi hX rfl B.isi rfl B.bool rfl rfl ?_
    refine E_name (i := 1) hX rfl (.inr (.inl rfl)) rfl ?_
    refine ⟨_, _, _, .im _ _, ty_Ut, rfl, ?_⟩
    refine ⟨_, .im _ _, ?_⟩
    refine ⟨fun hc => (by cases hc), fun _ => S_nil ?_⟩
    refine S_cons ?_
    refine S1_if ?_
    refine C_val ?_
    refine E_isi hX rfl B.isi rfl B.int rfl rfl ?_
    refine E_name (i := 1) hX rfl (.inr (.inl rfl)) rfl ?_
    refine ⟨_, _, _, .im _ _, ty_Ut, rfl, ?_⟩
    refine ⟨_, .im _ _, ?_⟩
    refine ⟨fun hc => (by cases hc), fun _ => S_nil ?_⟩
    refine S_cons ?_
    refine S1_if ?_
    refine C_val ?_
    refine E_isi hX rfl B.isi rfl B.str rfl rfl ?_
    refine E_name (i := 1) hX rfl (.inr (.inl rfl)) rfl ?_
    refine ⟨_, _, _, .im _ _, ty_Ut, rfl, ?_⟩
    refine ⟨_, .im _ _, ?_⟩
    refine ⟨fun hc => (by cases hc), fun _ => S_nil ?_⟩
    refine S_cons ?_
    refine S1_if ?_
    refine C_val ?_
    refine E_isi hX rfl B.isi rfl B.dict rfl rfl ?_
    refine E_name (i := 1) hX rfl (.inr (.inl rfl)) rfl ?_
    refine ⟨_, _, _, .im _ _, ty_Ut, rfl, ?_⟩
    refine ⟨_, .im _ _, ?_⟩
    refine ⟨fun hc => (by cases hc), fun _ => S_nil ?_⟩
    refine S_cons ?_
    refine S1_if ?_
    refine C_or2 ?_
    refine C_val ?_
    refine E_isi hX rfl B.isi rfl B.list rfl rfl ?_
    refine E_name (i := 1) hX rfl (.inr (.inl rfl)) rfl ?_
    refine ⟨_, _, _, .im _ _, ty_Ut, rfl, ?_⟩
    refine ⟨_, .im _ _, ?_⟩
    refine ⟨fun hc => (by cases hc), fun _ => ?_⟩
    refine C_val ?_
    refine E_isi hX rfl B.isi rfl B.tuple rfl rfl ?_
    refine E_name (i := 1) hX rfl (.inr (.inl rfl)) rfl ?_
    refine ⟨_, _, _, .im _ _, ty_Ut, rfl, ?_⟩
    refine ⟨_, .im _ _, ?_⟩
    refine ⟨fun _ => ?_, fun hc => (by cases hc)⟩
    refine S_cons ?_
    refine S1_if ?_
    refine C_or2 ?_
    refine C_neD (A := rB) (B := rB) hX deep_B deep_B ?_
    refine E_isi hX rfl B.isi rfl B.list rfl rfl ?_
    refine E_name (i := 0) hX rfl (.inr (.inl rfl)) rfl ?_
    refine ⟨_, _, _, .im _ _, ty_Ut, rfl, ?_⟩
    refine ⟨_, .im _ _, ?_⟩
    refine E_isi hX rfl B.isi rfl B.list rfl rfl ?_
    refine E_name (i := 1) hX rfl (.inr (.inl rfl)) rfl ?_
    refine ⟨_, _, _, .im _ _, ty_Ut, rfl, ?_⟩
    refine ⟨_, .im _ _, rfl, rfl, ?_⟩
    refine ⟨fun hc => (by cases hc), fun _ => ?_⟩
    refine C_neD (A := rB) (B := rB) hX deep_B deep_B ?_
    refine E_isi hX rfl B.isi rfl B.tuple rfl rfl ?_
    refine E_name (i := 0) hX rfl (.inr (.inl rfl)) rfl ?_
    refine ⟨_, _, _, .im _ _, ty_Ut, rfl, ?_⟩
    refine ⟨_, .im _ _, ?_⟩
    refine E_isi hX rfl B.isi rfl B.tuple rfl rfl ?_
    refine E_name (i := 1) hX rfl (.inr (.inl rfl)) rfl ?_
    refine ⟨_, _, _, .im _ _, ty_Ut, rfl, ?_⟩
    refine ⟨_, .im _ _, rfl, rfl, ?_⟩
    refine ⟨fun hc => (by cases hc), fun _ => S_nil ?_⟩
    refine S_cons ?_
    refine S1_if ?_
    refine C_neI ?_
    refine E_len hX rfl B.len rfl ?_
    refine P_name (i := 0) hX rfl (.inr (.inl rfl)) rfl (by intro z; cases z) ?_
    refine ⟨_, _, rfl, len_UT, ?_⟩
    refine ⟨_, .im _ _, ?_⟩
    refine E_len hX rfl B.len rfl ?_
    refine P_name (i := 1) hX rfl (.inr (.inl rfl)) rfl (by intro z; cases z) ?_
    refine ⟨_, _, rfl, len_UT, ?_⟩
    refine ⟨_, .im _ _, ?_⟩
    refine ⟨fun hc => (by simp at hc), fun _ => S_nil ?_⟩
    refine S_one ?_
    refine S1_ret ?_
    refine E_eqD (A := rL G.K rI) (B := rL G.K rI) hX (deep_L deep_I) (deep_L deep_I) ?_
    refine E_lc (own := [("k", 3)]) rI hX rfl ?_
    refine I_rng1 hX rfl B.range rfl ?_
    refine E_len hX rfl B.len rfl ?_
    refine P_name (i := 1) hX rfl (.inr (.inl rfl)) rfl (by intro z; cases z) ?_
    refine ⟨_, _, rfl, len_UT, ?_⟩
    refine ⟨_, .im _ _, by omega, by omega, ?_⟩
    refine ⟨fun i out τ => out = [] ∧ τ = [.im (rU G.K) (.tuple l), .im (rU G.K) (.tuple l), .no, .no], ⟨rfl, rfl⟩, fun i y hy => ?_, fun out τ hJ p => ?_⟩
    · rintro out τ ⟨ho, hτ⟩ X1 hX1 hf1
      subst hτ
      obtain ⟨hi1, ey⟩ := rngK0_get hy
      subst ey
      have hil : i < l.length := by omega
      have el : l[i]? = some l[i] := List.getElem?_eq_getElem hil
      refine TB_name (i := 3) hX1 rfl rfl (by decide) ?_  -- k
      intro X2 hX2
      refine Cs_one ?_
      refine C_not ?_
      refine C_val ?_
      refine E_call hX2 ih (by omega) rfl rfl ?_
      refine A_cons rfl ?_
      refine P_val ?_
      refine E_ix hX2 (fun _ _ => rfl) ?_
      refine P_name (i := 0) hX2 rfl (.inr (.inl rfl)) rfl (by intro z; cases z) ?_
      refine E_name (i := 3) hX2 rfl (.inl rfl) rfl ?_
      refine ⟨_, .im _ _, _, rfl, _, _, l[i], ix_UT (at_nat el), ?_⟩
      refine ⟨_, _, _, .im _ _, ?_⟩
      refine A_cons rfl ?_
      refine P_val ?_
      refine E_ix hX2 (fun _ _ => rfl) ?_
      refine P_name (i := 1) hX2 rfl (.inr (.inl rfl)) rfl (by intro z; cases z) ?_
      refine E_name (i := 3) hX2 rfl (.inl rfl) rfl ?_
      refine ⟨_, .im _ _, _, rfl, _, _, l[i], ix_UT (at_nat el), ?_⟩
      refine ⟨_, _, _, .im _ _, ?_⟩
      refine A_nil ?_
      refine ⟨[_, _], ⟨rfl, rfl, trivial⟩, trivial, l[i], rfl, hs _ (List.getElem_mem hil), ?_⟩
      refine ⟨_, .im _ _, ?_⟩
      refine ⟨fun h => (by cases h), fun _ => ?_⟩
      exact ⟨ho, rfl⟩
    obtain ⟨ho, hτ⟩ := hJ
    subst hτ ho
    refine ⟨_, .ow (frz_L (K := G.K)), ?_⟩
    refine E_lst rfl (A := rI) ?_
    refine ⟨by simp, [], rfl, fun pe => ?_⟩
    refine ⟨_, .ow (frz_L (K := G.K)), rfl, rfl, ?_⟩
    exact fin_no hk
  | none =>
    refine S_cons ?_
    refine S1_if ?_
    refine C_val ?_
    refine E_isi hX rfl B.isi rfl B.bool rfl rfl ?_
    refine E_name (i := 1) hX rfl (.inr (.inl rfl)) rfl ?_
    refine ⟨_, _, _, .im _ _, ty_Un, rfl, ?_⟩
    refine ⟨_, .im _ _, ?_⟩
    refine ⟨fun hc => (by cases hc), fun _ => S_nil ?_⟩
    refine S_cons ?_
    refine S1_if ?_
    refine C_val ?_
    refine E_isi hX rfl B.isi rfl B.int rfl rfl ?_
    refine E_name (i := 1) hX rfl (.inr (.inl rfl)) rfl ?_
    refine ⟨_, _, _, .im _ _, ty_Un, rfl, ?_⟩
    refine ⟨_, .im _ _, ?_⟩
    refine ⟨fun hc => (by cases hc), fun _ => S_nil ?_⟩
    refine S_cons ?_
    refine S1_if ?_
    refine C_val ?_
    refine E_isi hX rfl B.isi rfl B.str rfl rfl ?_
    refine E_name (i := 1) hX rfl (.inr (.inl rfl)) rfl ?_
    refine ⟨_, _, _, .im _ _, ty_Un, rfl, ?_⟩
    refine ⟨_, .im _ _, ?_⟩
    refine ⟨fun hc => (by cases hc), fun _ => S_nil ?_⟩
    refine S_cons ?_
    refine S1_if ?_
    refine C_val ?_
    refine E_isi hX rfl B.isi rfl B.dict rfl rfl ?_
    refine E_name (i := 1) hX rfl (.inr (.inl rfl)) rfl ?_
    refine ⟨_, _, _, .im _ _, ty_Un, rfl, ?_⟩
    refine ⟨_, .im _ _, ?_⟩
    refine ⟨fun hc => (by cases hc), fun _ => S_nil ?_⟩
    refine S_cons ?_
    refine S1_if ?_
    refine C_or2 ?_
    refine C_val ?_
    refine E_isi hX rfl B.isi rfl B.list rfl rfl ?_
    refine E_name (i := 1) hX rfl (.inr (.inl rfl)) rfl ?_
    refine ⟨_, _, _, .im _ _, ty_Un, rfl, ?_⟩
    refine ⟨_, .im _ _, ?_⟩
    refine ⟨fun hc => (by cases hc), fun _ => ?_⟩
    refine C_val ?_
    refine E_isi hX rfl B.isi rfl B.tuple rfl rfl ?_
    refine E_name (i := 1) hX rfl (.inr (.inl rfl)) rfl ?_
    refine ⟨_, _, _, .im _ _, ty_Un, rfl, ?_⟩
    refine ⟨_, .im _ _, ?_⟩
    refine ⟨fun hc => (by cases hc), fun _ => S_nil ?_⟩
    refine S_one ?_
    refine S1_ret ?_
    refine E_and2 ?_
    refine E_isN ?_
    refine E_name (i := 1) hX rfl (.inr (.inl rfl)) rfl ?_
    refine ⟨_, isn_Un, ?_⟩
    refine ⟨_, .im _ _, fun _ => ?_, fun hc => (by cases hc)⟩
    refine E_isN ?_
    refine E_name (i := 0) hX rfl (.inr (.inl rfl)) rfl ?_
    refine ⟨_, isn_Un, ?_⟩
    exact fin_no hk
  | _ => cases m <;> exact hd.elim
end T
end
section
set_option Elab.async false
set_option linter.all false
set_option maxRecDepth 100000
set_option maxHeartbeats 2000000
set_option exponentiation.threshold 10000
namespace T
open PySem PySem.Spec PyProof.Rows L2
theorem E_strL {X : Cx} {s : Str} {j : Nat} {pos : Pos} {τ : Tau} {k : KK} (a : List Nat) (e : s = tx a) (h : k (.im rS (tx a)) τ) : E X (.Constant (.str s) j pos) τ k := by
  subst e
  exact E_str h
def Asc (a : List Nat) : Prop := ∀ c ∈ a, c < 128
theorem dg_asc : ∀ c, c < 128 → Unicode.isDigit c = isDg c := by decide +kernel
theorem isdigit_tx {a : List Nat} (h : Asc a) : Txt.isdigit (tx a) = (!a.isEmpty && a.all isDg) := by
  show (decide ((tx a).length > 0) && (tx a).cps.all Unicode.isDigit) = _
  rw [SX.S_len, ← Array.all_toList]
  congr 1
  · cases a <;> simp
  · show a.all Unicode.isDigit = _
    have key : ∀ l : List Nat, (∀ c ∈ l, c < 128) → l.all Unicode.isDigit = l.all isDg := by
      intro l
      induction l with
      | nil => intro _; rfl
      | cons c r ih => intro hl; rw [List.all_cons, List.all_cons, dg_asc c (hl c List.mem_cons_self), ih fun x hx => hl x (List.mem_cons_of_mem _ hx)]
    exact key a h
theorem starts_tx {a : List Nat} {c : Nat} : Txt.startswith (tx a) (tx [c]) = decide (a.head? = some c) := by
  show (decide (0 + (tx [c]).length ≤ (tx a).length) && Builtin.Str.subAt (tx a) (tx [c]) 0) = _
  rw [SX.S_len, SX.S_len]
  cases a with
  | nil => simp
  | cons x r =>
    have h1 : Builtin.Str.subAt (tx (x :: r)) (tx [c]) 0 = decide (x = c) := by
      unfold Builtin.Str.subAt
      show ((x :: r).toArray.extract 0 (0 + 1) == [c].toArray) = _
      rw [List.extract_toArray]
      have e : List.extract (x :: r) 0 (0 + 1) = [x] := by simp [List.extract]
      rw [e]
      by_cases h : x = c
      · subst h; simp
      · simp [h]
    rw [h1]
    simp
theorem tx_eq {a b : List Nat} : decide (tx a = tx b) = decide (a = b) := by
  by_cases h : a = b
  · subst h; simp
  · rw [decide_eq_false h]
    exact decide_eq_false fun z => h (SX.S_inj z)
/-! ### is_whole -/
def cIsW : Ct := fun ks k => ∃ a : List Nat, ks = [.im rS (tx a)] ∧ Asc a ∧ a.length ≤ 600 ∧ k (.im rB (isW a)) [.no]
theorem sq27 : FnScope ["word"] ["word"] (defScope (top 27)) := ⟨rfl, rfl, rfl, by decide +kernel, rfl, by decide +kernel, by decide +kernel⟩
theorem q27 {G : Gm} {f : Addr} {fd : FuncData} (F : Fun G.K "is_whole" "is_whole" (top 27) f fd) (hf : G.mg "is_whole" = some (.ref f)) (b : Binds G.K fd ["word"] []) : Fn G "is_whole" 1 cIsW := by
  refine Fn.of F hf b sq27 (fun ks k ⟨a, h, _⟩ => by rw [h]; rfl) fun X hX hfn hp ks k ⟨a, hks, ha, hl, hk⟩ => ?_
  subst hks
  -- return word.isdigit() and (word == "0" or word[0] != "0")
  refine S_one ?_
  refine S1_ret ?_
  refine E_and2 ?_
  refine E_isdigit ?_
  refine E_name (i := 0) hX rfl (.inl rfl) rfl ?_  -- word
  refine ⟨_, .im _ _, ?_⟩
  rw [isdigit_tx ha]
  refine ⟨_, .im _ _, fun hc => ?_, fun hc => ?_⟩
  · refine E_or2 ?_
    refine E_eqS ?_
    refine E_name (i := 0) hX rfl (.inl rfl) rfl ?_  -- word
    refine ⟨_, .im _ _, ?_⟩
    refine E_strL [48] (by decide +kernel) ?_
    refine ⟨_, .im _ _, ?_⟩
    rw [tx_eq]
    cases a with
    | nil => cases hc
    | cons c r =>
      have hd : (c :: r).all isDg = true := by
        have : (true && (c :: r).all isDg) = true := hc
        simpa using this
      have e1 : isW (c :: r) = (decide (c ≠ 48) || r.isEmpty) := by
        show ((c :: r).all isDg && (decide (c ≠ 48) || r.isEmpty)) = _
        rw [hd]; rfl
      rw [e1] at hk
      refine ⟨_, .im _ _, fun hc => ?_, fun hc => ?_⟩
      · have e := of_decide_eq_true hc
        cases e
        exact fin_no hk
      · have hne := of_decide_eq_false hc
        refine E_neS ?_
        refine E_ixS (fun _ _ => rfl) ?_
        refine E_name (i := 0) hX rfl (.inl rfl) rfl ?_  -- word
        refine ⟨_, .im _ _, ?_⟩
        refine E_int ?_
        refine ⟨_, c, .im _ _, by omega, at_nat (i := 0) rfl, ?_⟩
        refine ⟨_, .im _ _, ?_⟩
        refine E_strL [48] (by decide +kernel) ?_
        refine ⟨_, .im _ _, ?_⟩
        rw [tx_eq]
        have e2 : (!decide (([c] : List Nat) = [48])) = (decide (c ≠ 48) || r.isEmpty) := by
          by_cases h : c = 48
          · subst h
            cases r with
            | nil => exact absurd rfl hne
            | cons x t => simp
          · simp [h]
        rw [e2]
        exact fin_no hk
  · have e1 : isW a = false := by
      cases h : isW a with
      | false => rfl
      | true =>
        obtain ⟨h1, h2⟩ := isW_all h
        rw [h1] at hc
        cases a with
        | nil => exact absurd rfl h2
        | cons c r => cases hc
    rw [e1] at hk
    exact fin_no hk
/-! ### whole_of -/
def PieceB (G : Gm) : Prop := ∃ t, G.mg "PIECE" = some (.int 3600 t)
def cWholeOf : Ct := fun ks k => ∃ a : List Nat, ks = [.im rS (tx a)] ∧ a.all isDg = true ∧ a ≠ [] ∧ a.length ≤ 600 ∧ k (.im rI ((wv a : Nat) : Int)) [.no]
theorem sq26 : FnScope ["digits", "padded", "number", "at"] ["digits"] (defScope (top 26)) := ⟨rfl, rfl, rfl, by decide +kernel, rfl, by decide +kernel, by decide +kernel⟩
theorem q26 {G : Gm} {f : Addr} {fd : FuncData} (F : Fun G.K "whole_of" "whole_of" (top 26) f fd) (hf : G.mg "whole_of" = some (.ref f)) (b : Binds G.K fd ["digits"] [])
    (B : Bi G) (BP : PieceB G) : Fn G "whole_of" 1 cWholeOf := by
  obtain ⟨tp, hp1⟩ := BP
  refine Fn.of F hf b sq26 (fun ks k ⟨a, h, _⟩ => by rw [h]; rfl) fun X hX hfn hp ks k ⟨a, hks, ha, hne, hl, hk⟩ => ?_
  subst hks
  -- if len(digits) <= PIECE:
  refine S_cons ?_
  refine S1_if ?_
  refine C_le ?_
  refine E_len hX rfl B.len rfl ?_
  refine P_name (i := 0) hX rfl (.inl rfl) rfl (by intro z; cases z) ?_  -- digits
  refine ⟨_, _, rfl, len_S (by rw [SX.S_len]; omega), ?_⟩
  refine ⟨_, .im _ _, ?_⟩
  refine E_glob (v := .int 3600) (u := .int 3600 tp) (A := rI) (a := 3600) hX rfl hp1 ⟨tp, rfl⟩ (fun R => rfl) ?_
  refine ⟨_, .im _ _, ?_⟩
  rw [SX.S_len]
  refine ⟨fun hc => ?_, fun hc => ?_⟩
  · -- return int(digits)
    refine S_one ?_
    refine S1_ret ?_
    refine E_intS hX rfl B.int rfl ?_
    refine E_name (i := 0) hX rfl (.inl rfl) rfl ?_  -- digits
    refine ⟨tx a, _, .im _ _, SX.int_S ha hne (by omega), by rw [SX.S_len]; omega, ?_⟩
    exact fin_no hk
  · have := of_decide_eq_false hc
    omega
/-! ### negated -/
def cNegd (K : PySem.W.Frag) : Ct := fun ks k => ∃ q : Int × Int, ks = [.im (rPair K rI rI) q] ∧ k (.im (rPair K rI rI) (-q.1, q.2)) [.no]
theorem sq24 : FnScope ["number"] ["number"] (defScope (top 24)) := ⟨rfl, rfl, rfl, by decide +kernel, rfl, by decide +kernel, by decide +kernel⟩
theorem q24 {G : Gm} {f : Addr} {fd : FuncData} (F : Fun G.K "negated" "negated" (top 24) f fd) (hf : G.mg "negated" = some (.ref f)) (b : Binds G.K fd ["number"] []) : Fn G "negated" 1 (cNegd G.K) := by
  refine Fn.of F hf b sq24 (fun ks k ⟨q, h, _⟩ => by rw [h]; rfl) fun X hX hfn hp ks k ⟨q, hks, hk⟩ => ?_
  subst hks
  -- return (-number[0], number[1])
  refine S_one ?_
  refine S1_ret ?_
  refine E_tup hX rfl (by decide) ?_
  refine E_neg ?_
  refine E_ix hX (fun _ _ => rfl) ?_
  refine P_name (i := 0) hX rfl (.inl rfl) rfl (by intro z; cases z) ?_  -- number
  refine E_int ?_
  refine ⟨_, .im _ _, _, rfl, _, _, _, ix_pair0, ?_⟩
  refine ⟨_, .im _ _, ?_⟩
  refine ⟨_, .im _ _, ?_⟩
  refine E_ix hX (fun _ _ => rfl) ?_
  refine P_name (i := 0) hX rfl (.inl rfl) rfl (by intro z; cases z) ?_  -- number
  refine E_int ?_
  refine ⟨_, .im _ _, _, rfl, _, _, _, ix_pair1, ?_⟩
  refine ⟨_, .im _ _, ?_⟩
  refine ⟨by simp, _, rPair G.K rI rI, (-q.1, q.2), tup_pair, ?_⟩
  exact fin_no hk
end T
end
section
set_option Elab.async false
set_option linter.all false
set_option maxRecDepth 100000
set_option maxHeartbeats 2000000
set_option exponentiation.threshold 10000
namespace T
open PySem PySem.Spec PyProof.Rows L2
theorem neg_cons {a : List Nat} (h : neg a = true) : ∃ r, a = 45 :: r := by
  have h := of_decide_eq_true h
  cases a with
  | nil => cases h
  | cons c r => exact ⟨r, by rw [show c = 45 by simpa using h]⟩
theorem frt_len (a : List Nat) : (frt a).length ≤ a.length := by
  unfold frt
  split
  · rw [List.length_tail]; omega
  · exact Nat.le_refl _
theorem frt_asc {a : List Nat} (h : Asc a) : Asc (frt a) := fun c hc => by
  unfold frt at hc
  split at hc
  · exact h c (List.mem_of_mem_tail hc)
  · exact h c hc
theorem frt_eq {a : List Nat} : decide (frt a = a) = !neg a := by
  cases h : neg a with
  | true =>
    obtain ⟨r, e⟩ := neg_cons h
    subst e
    refine decide_eq_false fun z => ?_
    have z : r = 45 :: r := z
    have := congrArg List.length z
    simp at this
  | false =>
    refine decide_eq_true ?_
    unfold frt
    rw [h]; rfl
/-! ### read_number -/
def cRead (K : PySem.W.Frag) : Ct := fun ks k => ∃ a : List Nat, ks = [.im rS (tx a)] ∧ Asc a ∧ a.length ≤ 600 ∧ (numOf a = none → k (.im rN ()) [.no]) ∧ ∀ u l, numOf a = some (u, l) → k (.im (rPair K rI rI) (u, l)) [.no]
abbrev rdN : List Str := ["word", "front", "top", "slash", "bottom", "number"]
theorem sq28 : FnScope rdN ["word"] (defScope (top 28)) := ⟨rfl, rfl, rfl, by decide +kernel, rfl, by decide +kernel, by decide +kernel⟩
theorem q28t {G : Gm} {X : Cx} {P : Po} {a : List Nat} {u l : Int} {x2 x3 x4 : Kd} (hX : XF G X rdN (defScope (top 28)) 1) (h1 : Fn G "negated" 1 (cNegd G.K)) (hn : numOf a = sg a u l)
    (p0 : ∀ τ, numOf a = none → P.rt (.im rN ()) τ) (p1 : ∀ τ u l, numOf a = some (u, l) → P.rt (.im (rPair G.K rI rI) (u, l)) τ) :
    S X ((defBody (top 28)).drop 5) [.im rS (tx a), .im rS (tx (frt a)), x2, x3, x4, .im (rPair G.K rI rI) (u, l)] P := by
  -- if front == word:
  refine S_cons ?_
  refine S1_if ?_
  refine C_eqS ?_
  refine E_name (i := 1) hX rfl (.inl rfl) rfl ?_  -- front
  refine ⟨_, .im _ _, ?_⟩
  refine E_name (i := 0) hX rfl (.inl rfl) rfl ?_  -- word
  refine ⟨_, .im _ _, ?_⟩
  rw [tx_eq, frt_eq]
  unfold sg at hn
  refine ⟨fun hc => ?_, fun hc => ?_⟩
  · -- return number
    have hg : neg a = false := by simpa using hc
    rw [hg, if_neg (by simp)] at hn
    refine S_one ?_
    refine S1_ret ?_
    refine E_name (i := 5) hX rfl (.inl rfl) rfl ?_  -- number
    exact p1 _ u l hn
  · refine S_nil ?_
    have hg : neg a = true := by simpa using hc
    rw [hg, if_pos rfl] at hn
    -- return negated(number) if number[0] != 0 else None
    refine S_one ?_
    refine S1_ret ?_
    refine E_if ?_
    refine C_neI ?_
    refine E_ix hX (fun _ _ => rfl) ?_
    refine P_name (i := 5) hX rfl (.inl rfl) rfl (by intro z; cases z) ?_  -- number
    refine E_int ?_
    refine ⟨_, .im _ _, _, rfl, _, _, _, ix_pair0, ?_⟩
    refine ⟨_, .im _ _, ?_⟩
    refine E_int ?_
    refine ⟨_, .im _ _, ?_⟩
    refine ⟨fun hc => ?_, fun hc => ?_⟩
    · have hu : u ≠ 0 := by simpa using hc
      rw [if_neg hu] at hn
      refine E_call hX h1 (by omega) rfl rfl ?_
      refine A_cons rfl ?_
      refine P_name (i := 5) hX rfl (.inl rfl) rfl (by intro z; cases z) ?_  -- number
      refine A_nil ?_
      refine ⟨[_], ⟨rfl, trivial⟩, trivial, (u, l), rfl, ?_⟩
      exact p1 _ (-u) l hn
    · have hu : u = 0 := by simpa using hc
      rw [if_pos hu] at hn
      refine E_none ?_
      exact p0 _ hn
theorem q28 {G : Gm} {f : Addr} {fd : FuncData} (F : Fun G.K "read_number" "read_number" (top 28) f fd) (hf : G.mg "read_number" = some (.ref f)) (b : Binds G.K fd ["word"] [])
    (h1 : Fn G "negated" 1 (cNegd G.K)) (h2 : Fn G "is_whole" 1 cIsW) (h3 : Fn G "whole_of" 1 cWholeOf) (h4 : Fn G "common_divisor" 1 cGcd) : Fn G "read_number" 2 (cRead G.K) := by
  refine Fn.of F hf b sq28 (fun ks k ⟨a, h, _⟩ => by rw [h]; rfl) fun X hX hfn hp ks k ⟨a, hks, ha, hl, hk0, hk1⟩ => ?_
  subst hks
  have fl := frt_len a
  have fa := frt_asc ha
  -- front = word[1:] if word.startswith('-') else word
  refine S_cons ?_
  refine S1_set (i := 1) hX rfl rfl ?_  -- front
  have hfront : E X (.IfExp (match defBody (top 28) with | .Assign _ (.IfExp c _ _ _) _ :: _ => c | _ => .Constant .none 0 ⟨0, 0, 0, 0⟩) (match defBody (top 28) with | .Assign _ (.IfExp _ a _ _) _ :: _ => a | _ => .Constant .none 0 ⟨0, 0, 0, 0⟩) (match defBody (top 28) with | .Assign _ (.IfExp _ _ a _) _ :: _ => a | _ => .Constant .none 0 ⟨0, 0, 0, 0⟩) (match defBody (top 28) with | .Assign _ (.IfExp _ _ _ p) _ :: _ => p | _ => ⟨0, 0, 0, 0⟩)) (tau0 rdN [.im rS (tx a)]) fun x τ => x = .im rS (tx (frt a)) ∧ τ = tau0 rdN [.im rS (tx a)] := by
    refine E_if ?_
    refine C_val ?_
    refine E_starts rfl ?_
    refine E_name (i := 0) hX rfl (.inl rfl) rfl ?_  -- word
    refine ⟨_, .im _ _, ?_⟩
    refine E_strL [45] (by decide +kernel) ?_
    refine ⟨_, .im _ _, ?_⟩
    rw [starts_tx]
    refine ⟨_, .im _ _, fun hc => ?_, fun hc => ?_⟩
    · have hg : neg a = true := hc
      refine E_slFrom ?_
      refine E_name (i := 0) hX rfl (.inl rfl) rfl ?_  -- word
      refine ⟨_, .im _ _, ?_⟩
      refine E_int ?_
      refine ⟨_, .im _ _, by rw [SX.S_len]; omega, ?_⟩
      rw [SX.slice_from (by omega)]
      refine ⟨?_, rfl⟩
      unfold frt
      rw [hg, if_pos rfl]
      show Kd.im rS (tx (a.drop 1)) = _
      rw [List.drop_one]
    · have hg : neg a = false := hc
      refine E_name (i := 0) hX rfl (.inl rfl) rfl ?_  -- word
      refine ⟨?_, rfl⟩
      unfold frt
      rw [hg, if_neg (by simp)]
  refine W.mono hfront fun x τ ⟨ex, eτ⟩ => ?_
  subst ex eτ
  -- top, slash, bottom = front.partition('/')
  refine S_cons ?_
  refine S1_asg ?_
  refine E_part (G := G) rfl ?_
  refine E_name (i := 1) hX rfl (.inl rfl) rfl ?_  -- front
  refine ⟨_, .im _ _, ?_⟩
  refine E_strL [47] (by decide +kernel) ?_
  refine ⟨_, .im _ _, by decide, by rw [SX.S_len]; omega, ?_⟩
  have hnum := numOf.eq_1 a
  cases hp : TL.par [47] [] (frt a) with
  | none =>
    rw [hp] at hnum
    rw [SX.partition_none (by simp) hp]
    refine T_tup hX rfl un_tri ?_
    refine T_name (i := 2) hX rfl rfl ?_  -- top
    refine T_name (i := 3) hX rfl rfl ?_  -- slash
    refine T_name (i := 4) hX rfl rfl ?_  -- bottom
    -- if not is_whole(top):
    refine S_cons ?_
    refine S1_if ?_
    refine C_not ?_
    refine C_val ?_
    refine E_call hX h2 (by omega) rfl rfl ?_
    refine A_cons rfl ?_
    refine P_name (i := 2) hX rfl (.inl rfl) rfl (by intro z; cases z) ?_  -- top
    refine A_nil ?_
    refine ⟨[_], ⟨rfl, trivial⟩, trivial, frt a, rfl, fa, by omega, ?_⟩
    refine ⟨_, .im _ _, ?_⟩
    refine ⟨fun hc => ?_, fun hc => ?_⟩
    · have hw : isW (frt a) = false := by simpa using hc
      refine S_one ?_
      refine S1_ret ?_
      refine E_none ?_
      exact fin_no (hk0 (by rw [hnum]; dsimp only; rw [hw]; rfl))
    refine S_nil ?_
    have hw : isW (frt a) = true := by simpa using hc
    obtain ⟨w1, w2⟩ := isW_all hw
    -- number = (whole_of(top), 1)
    refine S_cons ?_
    refine S1_set (i := 5) hX rfl rfl ?_  -- number
    refine E_tup hX rfl (by decide) ?_
    refine E_call hX h3 (by omega) rfl rfl ?_
    refine A_cons rfl ?_
    refine P_name (i := 2) hX rfl (.inl rfl) rfl (by intro z; cases z) ?_  -- top
    refine A_nil ?_
    refine ⟨[_], ⟨rfl, trivial⟩, trivial, frt a, rfl, w1, w2, by omega, ?_⟩
    refine ⟨_, .im _ _, ?_⟩
    refine E_int ?_
    refine ⟨_, .im _ _, ?_⟩
    refine ⟨by simp, _, rPair G.K rI rI, ((wv (frt a) : Int), 1), tup_pair, ?_⟩
    -- if slash == '/':
    refine S_cons ?_
    refine S1_if ?_
    refine C_eqS ?_
    refine E_name (i := 3) hX rfl (.inl rfl) rfl ?_  -- slash
    refine ⟨_, .im _ _, ?_⟩
    refine E_strL [47] (by decide +kernel) ?_
    refine ⟨_, .im _ _, ?_⟩
    rw [tx_eq]
    refine ⟨fun hc => (by cases hc), fun hc => ?_⟩
    refine S_nil ?_
    refine q28t hX h1 (u := (wv (frt a) : Int)) (l := 1) ?_ (fun τ h => fin_no (hk0 h)) (fun τ u l h => fin_no (hk1 u l h))
    rw [hnum]
    dsimp only
    rw [hw]; rfl
  | some z =>
    obtain ⟨p, q⟩ := z
    rw [hp] at hnum
    rw [SX.partition_some (by simp) hp]
    have heq := par_some_eq hp
    have heq : frt a = p ++ 47 :: q := heq
    have hlen := congrArg List.length heq
    rw [List.length_append, List.length_cons] at hlen
    have ap : Asc p := fun c hc => fa c (by rw [heq]; simp [hc])
    have aq : Asc q := fun c hc => fa c (by rw [heq]; simp [hc])
    refine T_tup hX rfl un_tri ?_
    refine T_name (i := 2) hX rfl rfl ?_  -- top
    refine T_name (i := 3) hX rfl rfl ?_  -- slash
    refine T_name (i := 4) hX rfl rfl ?_  -- bottom
    -- if not is_whole(top):
    refine S_cons ?_
    refine S1_if ?_
    refine C_not ?_
    refine C_val ?_
    refine E_call hX h2 (by omega) rfl rfl ?_
    refine A_cons rfl ?_
    refine P_name (i := 2) hX rfl (.inl rfl) rfl (by intro z; cases z) ?_  -- top
    refine A_nil ?_
    refine ⟨[_], ⟨rfl, trivial⟩, trivial, p, rfl, ap, by omega, ?_⟩
    refine ⟨_, .im _ _, ?_⟩
    refine ⟨fun hc => ?_, fun hc => ?_⟩
    · have hw : isW p = false := by simpa using hc
      refine S_one ?_
      refine S1_ret ?_
      refine E_none ?_
      exact fin_no (hk0 (by rw [hnum]; dsimp only; rw [hw]; rfl))
    refine S_nil ?_
    have hw : isW p = true := by simpa using hc
    obtain ⟨w1, w2⟩ := isW_all hw
    -- number = (whole_of(top), 1)
    refine S_cons ?_
    refine S1_set (i := 5) hX rfl rfl ?_  -- number
    refine E_tup hX rfl (by decide) ?_
    refine E_call hX h3 (by omega) rfl rfl ?_
    refine A_cons rfl ?_
    refine P_name (i := 2) hX rfl (.inl rfl) rfl (by intro z; cases z) ?_  -- top
    refine A_nil ?_
    refine ⟨[_], ⟨rfl, trivial⟩, trivial, p, rfl, w1, w2, by omega, ?_⟩
    refine ⟨_, .im _ _, ?_⟩
    refine E_int ?_
    refine ⟨_, .im _ _, ?_⟩
    refine ⟨by simp, _, rPair G.K rI rI, ((wv p : Int), 1), tup_pair, ?_⟩
    -- if slash == '/':
    refine S_cons ?_
    refine S1_if ?_
    refine C_eqS ?_
    refine E_name (i := 3) hX rfl (.inl rfl) rfl ?_  -- slash
    refine ⟨_, .im _ _, ?_⟩
    refine E_strL [47] (by decide +kernel) ?_
    refine ⟨_, .im _ _, ?_⟩
    rw [tx_eq]
    refine ⟨fun hc => ?_, fun hc => (by cases hc)⟩
    -- if not is_whole(bottom):
    refine S_cons ?_
    refine S1_if ?_
    refine C_not ?_
    refine C_val ?_
    refine E_call hX h2 (by omega) rfl rfl ?_
    refine A_cons rfl ?_
    refine P_name (i := 4) hX rfl (.inl rfl) rfl (by intro z; cases z) ?_  -- bottom
    refine A_nil ?_
    refine ⟨[_], ⟨rfl, trivial⟩, trivial, q, rfl, aq, by omega, ?_⟩
    refine ⟨_, .im _ _, ?_⟩
    refine ⟨fun hc => ?_, fun hc => ?_⟩
    · have hw : isW q = false := by simpa using hc
      refine S_one ?_
      refine S1_ret ?_
      refine E_none ?_
      exact fin_no (hk0 (by rw [hnum]; dsimp only; rw [hw]; simp))
    refine S_nil ?_
    have hw2 : isW q = true := by simpa using hc
    obtain ⟨w3, w4⟩ := isW_all hw2
    -- number = (whole_of(top), whole_of(bottom))
    refine S_cons ?_
    refine S1_set (i := 5) hX rfl rfl ?_  -- number
    refine E_tup hX rfl (by decide) ?_
    refine E_call hX h3 (by omega) rfl rfl ?_
    refine A_cons rfl ?_
    refine P_name (i := 2) hX rfl (.inl rfl) rfl (by intro z; cases z) ?_  -- top
    refine A_nil ?_
    refine ⟨[_], ⟨rfl, trivial⟩, trivial, p, rfl, w1, w2, by omega, ?_⟩
    refine ⟨_, .im _ _, ?_⟩
    refine E_call hX h3 (by omega) rfl rfl ?_
    refine A_cons rfl ?_
    refine P_name (i := 4) hX rfl (.inl rfl) rfl (by intro z; cases z) ?_  -- bottom
    refine A_nil ?_
    refine ⟨[_], ⟨rfl, trivial⟩, trivial, q, rfl, w3, w4, by omega, ?_⟩
    refine ⟨_, .im _ _, ?_⟩
    refine ⟨by simp, _, rPair G.K rI rI, ((wv p : Int), (wv q : Int)), tup_pair, ?_⟩
    -- if number[1] < 2 or common_divisor(number[0], number[1]) != 1:
    dsimp only at hnum
    rw [hw, hw2] at hnum
    refine S_one ?_
    refine S1_if ?_
    refine C_or2 ?_
    refine C_lt ?_
    refine E_ix hX (fun _ _ => rfl) ?_
    refine P_name (i := 5) hX rfl (.inl rfl) rfl (by intro z; cases z) ?_  -- number
    refine E_int ?_
    refine ⟨_, .im _ _, _, rfl, _, _, _, ix_pair1, ?_⟩
    refine ⟨_, .im _ _, ?_⟩
    refine E_int ?_
    refine ⟨_, .im _ _, ?_⟩
    have bad : ¬ (2 ≤ wv q ∧ Nat.gcd (wv p) (wv q) = 1) → numOf a = none := fun h => by
      rw [hnum]
      refine if_neg fun z => h ?_
      simpa using z
    refine ⟨fun hc => ⟨fun _ => ?_, fun h => (by cases h)⟩, fun hc => ?_⟩
    · have hlt : ((wv q : Nat) : Int) < 2 := of_decide_eq_true hc
      refine S_one ?_
      refine S1_ret ?_
      refine E_none ?_
      exact fin_no (hk0 (bad fun z => by omega))
    have hge : ¬ ((wv q : Nat) : Int) < 2 := of_decide_eq_false hc
    refine C_neI ?_
    refine E_call hX h4 (by omega) rfl rfl ?_
    refine A_cons rfl ?_
    refine P_val ?_
    refine E_ix hX (fun _ _ => rfl) ?_
    refine P_name (i := 5) hX rfl (.inl rfl) rfl (by intro z; cases z) ?_  -- number
    refine E_int ?_
    refine ⟨_, .im _ _, _, rfl, _, _, _, ix_pair0, ?_⟩
    refine ⟨_, _, _, .im _ _, ?_⟩
    refine A_cons rfl ?_
    refine P_val ?_
    refine E_ix hX (fun _ _ => rfl) ?_
    refine P_name (i := 5) hX rfl (.inl rfl) rfl (by intro z; cases z) ?_  -- number
    refine E_int ?_
    refine ⟨_, .im _ _, _, rfl, _, _, _, ix_pair1, ?_⟩
    refine ⟨_, _, _, .im _ _, ?_⟩
    refine A_nil ?_
    refine ⟨[_, _], ⟨rfl, rfl, trivial⟩, trivial, (wv p : Int), (wv q : Int), rfl, ?_⟩
    refine ⟨_, .im _ _, ?_⟩
    refine E_int ?_
    refine ⟨_, .im _ _, ?_⟩
    rw [Int.natAbs_natCast, Int.natAbs_natCast]
    refine ⟨fun hc => ?_, fun hc => ?_⟩
    · have hne : ((Nat.gcd (wv p) (wv q) : Nat) : Int) ≠ 1 := by simpa using hc
      refine S_one ?_
      refine S1_ret ?_
      refine E_none ?_
      exact fin_no (hk0 (bad fun z => hne (by rw [z.2]; rfl)))
    refine S_nil ?_
    have hgc : ((Nat.gcd (wv p) (wv q) : Nat) : Int) = 1 := by simpa using hc
    refine q28t hX h1 (u := (wv p : Int)) (l := (wv q : Int)) ?_ (fun τ h => fin_no (hk0 h)) (fun τ u l h => fin_no (hk1 u l h))
    rw [hnum]
    exact if_pos (by simp; omega)
end T
end
section
set_option Elab.async false
set_option linter.all false
set_option maxRecDepth 100000
set_option maxHeartbeats 2000000
set_option exponentiation.threshold 10000
namespace T
open PySem PySem.Spec PyProof.Rows L2
theorem log_lt {n : Nat} (h : n < 2 ^ 100) : n.log2 < 1920 := by
  by_cases h0 : n = 0
  · subst h0; decide
  · exact Nat.lt_trans ((Nat.log2_lt h0).mpr h) (by omega)
theorem num_len {n : Nat} (h : n < 2 ^ 100) : (TL.numL n).length ≤ 100 := TL.numL_len (by omega) (Nat.lt_of_lt_of_le h (by decide))
theorem int_len {i : Int} (h : i.natAbs < 2 ^ 100) : (intL i).length ≤ 101 := by
  have := num_len h
  unfold intL
  split
  · rw [List.length_cons]; omega
  · omega
def NB (q : Rat) : Prop := q.num.natAbs < 2 ^ 100 ∧ q.den < 2 ^ 100
theorem word_len {q : Rat} (h : NB q) : (wordL q).length ≤ 202 := by
  have h1 := int_len h.1
  have h2 := num_len h.2
  unfold wordL
  split
  · omega
  · rw [List.length_append, List.length_cons]; omega
theorem num_asc (n : Nat) : Asc (TL.numL n) := fun c hc => by
  have := TL.numL_digits n c hc
  omega
theorem int_asc (i : Int) : Asc (intL i) := fun c hc => by
  unfold intL at hc
  split at hc
  · rcases List.mem_cons.mp hc with e | h
    · omega
    · exact num_asc _ c h
  · exact num_asc _ c hc
theorem word_asc (q : Rat) : Asc (wordL q) := fun c hc => by
  unfold wordL at hc
  split at hc
  · exact int_asc _ c hc
  · rcases List.mem_append.mp hc with h | h
    · exact int_asc _ c h
    · rcases List.mem_cons.mp h with e | h
      · omega
      · exact num_asc _ c h
theorem tx_cat {a b : List Nat} : tx a ++ tx b = tx (a ++ b) := SX.S_cat a b
theorem nat_tx (n : Nat) : Str.ofString (toString ((n : Nat) : Int)) = tx (TL.numL n) := SX.num_S n
/-! ### whole_text -/
def cText : Ct := fun ks k => ∃ i : Int, ks = [.im rI i] ∧ i.natAbs < 2 ^ 100 ∧ k (.im rS (tx (intL i))) [.no]
theorem sq25 : FnScope ["number", "pieces", "left", "piece", "digits"] ["number"] (defScope (top 25)) := ⟨rfl, rfl, rfl, by decide +kernel, rfl, by decide +kernel, by decide +kernel⟩
theorem q25 {G : Gm} {f : Addr} {fd : FuncData} (F : Fun G.K "whole_text" "whole_text" (top 25) f fd) (hf : G.mg "whole_text" = some (.ref f)) (b : Binds G.K fd ["number"] []) (B : Bi G) : Fn G "whole_text" 1 cText := by
  refine Fn.of F hf b sq25 (fun ks k ⟨i, h, _⟩ => by rw [h]; rfl) fun X hX hfn hp ks k ⟨i, hks, hi, hk⟩ => ?_
  subst hks
  -- if number.bit_length() < 12000:
  refine S_cons ?_
  refine S1_if ?_
  refine C_lt ?_
  refine E_bits ?_
  refine E_name (i := 0) hX rfl (.inl rfl) rfl ?_  -- number
  refine ⟨_, .im _ _, ?_⟩
  refine ⟨_, .im _ _, ?_⟩
  refine E_int ?_
  refine ⟨_, .im _ _, ?_⟩
  have hb : Builtin.Int.intBits i ≤ 100 := PyProof.Rows.intBits_le hi
  refine ⟨fun hc => ?_, fun hc => ?_⟩
  · -- return str(number)
    refine S_one ?_
    refine S1_ret ?_
    refine E_strI hX rfl B.str rfl ?_
    refine E_name (i := 0) hX rfl (.inl rfl) rfl ?_  -- number
    refine ⟨i, .im _ _, log_lt hi, ?_⟩
    rw [int_tx]
    exact fin_no hk
  · have := of_decide_eq_false hc
    omega
/-! ### number_text, ratio_text, read_ratio -/
def cNumT (K : PySem.W.Frag) : Ct := fun ks k => ∃ q : Rat, ks = [.im (rQ K) q] ∧ NB q ∧ k (.im rS (tx (wordL q))) [.no]
theorem sq29 : FnScope ["number", "top", "bottom"] ["number"] (defScope (top 29)) := ⟨rfl, rfl, rfl, by decide +kernel, rfl, by decide +kernel, by decide +kernel⟩
theorem nat_nn (n : Nat) : intL (n : Int) = TL.numL n := by
  unfold intL
  rw [if_neg (by omega)]; rfl
theorem q29 {G : Gm} {f : Addr} {fd : FuncData} (F : Fun G.K "number_text" "number_text" (top 29) f fd) (hf : G.mg "number_text" = some (.ref f)) (b : Binds G.K fd ["number"] [])
    (h1 : Fn G "whole_text" 1 cText) : Fn G "number_text" 2 (cNumT G.K) := by
  refine Fn.of F hf b sq29 (fun ks k ⟨q, h, _⟩ => by rw [h]; rfl) fun X hX hfn hp ks k ⟨q, hks, hq, hk⟩ => ?_
  subst hks
  have l1 := int_len hq.1
  have l2 := num_len hq.2
  have hd : ((q.den : Nat) : Int).natAbs < 2 ^ 100 := by rw [Int.natAbs_natCast]; exact hq.2
  -- top, bottom = number
  refine S_cons ?_
  refine S1_asg ?_
  refine E_name (i := 0) hX rfl (.inl rfl) rfl ?_  -- number
  refine T_tup hX rfl un_Q ?_
  refine T_name (i := 1) hX rfl rfl ?_  -- top
  refine T_name (i := 2) hX rfl rfl ?_  -- bottom
  -- if bottom == 1:
  refine S_cons ?_
  refine S1_if ?_
  refine C_eqI ?_
  refine E_name (i := 2) hX rfl (.inl rfl) rfl ?_  -- bottom
  refine ⟨_, .im _ _, ?_⟩
  refine E_int ?_
  refine ⟨_, .im _ _, ?_⟩
  unfold wordL at hk
  refine ⟨fun hc => ?_, fun hc => ?_⟩
  · -- return whole_text(top)
    have h := of_decide_eq_true hc
    rw [if_pos (by omega)] at hk
    refine S_one ?_
    refine S1_ret ?_
    refine E_call hX h1 (by omega) rfl rfl ?_
    refine A_cons rfl ?_
    refine P_name (i := 1) hX rfl (.inl rfl) rfl (by intro z; cases z) ?_  -- top
    refine A_nil ?_
    refine ⟨[_], ⟨rfl, trivial⟩, trivial, q.num, rfl, hq.1, ?_⟩
    exact fin_no hk
  · refine S_nil ?_
    have h := of_decide_eq_false hc
    rw [if_neg (by omega)] at hk
    -- return f'{whole_text(top)}/{whole_text(bottom)}'
    refine S_one ?_
    refine S1_ret ?_
    refine E_f3 ?_
    refine E_call hX h1 (by omega) rfl rfl ?_
    refine A_cons rfl ?_
    refine P_name (i := 1) hX rfl (.inl rfl) rfl (by intro z; cases z) ?_  -- top
    refine A_nil ?_
    refine ⟨[_], ⟨rfl, trivial⟩, trivial, q.num, rfl, hq.1, ?_⟩
    refine ⟨_, rS, _, _, .im _ _, fmt_S (by rw [SX.S_len]; omega), by rw [SX.S_len, show ("/" : Str).length = 1 by decide +kernel]; omega, ?_⟩
    refine E_call hX h1 (by omega) rfl rfl ?_
    refine A_cons rfl ?_
    refine P_name (i := 2) hX rfl (.inl rfl) rfl (by intro z; cases z) ?_  -- bottom
    refine A_nil ?_
    refine ⟨[_], ⟨rfl, trivial⟩, trivial, (q.den : Int), rfl, hd, ?_⟩
    rw [nat_nn]
    refine ⟨_, rS, _, _, .im _ _, fmt_S (by rw [SX.S_len]; omega), by rw [show ("/" : Str).length = 1 by decide +kernel, SX.S_len, SX.S_len]; omega, ?_⟩
    rw [show ("/" : Str) = tx [47] by decide +kernel, tx_cat, tx_cat, List.append_assoc]
    exact fin_no hk
def cRatT (K : PySem.W.Frag) : Ct := fun ks k => ∃ g : Giv, ks = [.im (rGiv K) g] ∧ okG g ∧ NB (gv g) ∧ k (.im rS (tx (wordL (gv g)))) [.no]
theorem sq32 : FnScope ["number"] ["number"] (defScope (top 32)) := ⟨rfl, rfl, rfl, by decide +kernel, rfl, by decide +kernel, by decide +kernel⟩
theorem q32 {G : Gm} {f : Addr} {fd : FuncData} (F : Fun G.K "ratio_text" "ratio_text" (top 32) f fd) (hf : G.mg "ratio_text" = some (.ref f)) (b : Binds G.K fd ["number"] [])
    (h1 : Fn G "number_text" 2 (cNumT G.K)) (h2 : Fn G "made" 3 (cMade G.K)) : Fn G "ratio_text" 4 (cRatT G.K) := by
  refine Fn.of F hf b sq32 (fun ks k ⟨g, h, _⟩ => by rw [h]; rfl) fun X hX hfn hp ks k ⟨g, hks, hg, hq, hk⟩ => ?_
  subst hks
  refine S_one ?_
  refine S1_ret ?_
  refine E_call hX h1 (by omega) rfl rfl ?_
  refine A_cons rfl ?_
  refine P_val ?_
  refine E_call hX h2 (by omega) rfl rfl ?_
  refine A_cons rfl ?_
  refine P_name (i := 0) hX rfl (.inl rfl) rfl (by intro z; cases z) ?_  -- number
  refine A_nil ?_
  refine ⟨[_], ⟨rfl, trivial⟩, trivial, g, rfl, hg, ?_⟩
  refine ⟨_, _, _, .im _ _, ?_⟩
  refine A_nil ?_
  refine ⟨[_], ⟨rfl, trivial⟩, trivial, gv g, rfl, hq, ?_⟩
  exact fin_no hk
theorem sq33 : FnScope ["text"] ["text"] (defScope (top 33)) := ⟨rfl, rfl, rfl, by decide +kernel, rfl, by decide +kernel, by decide +kernel⟩
theorem q33 {G : Gm} {f : Addr} {fd : FuncData} (F : Fun G.K "read_ratio" "read_ratio" (top 33) f fd) (hf : G.mg "read_ratio" = some (.ref f)) (b : Binds G.K fd ["text"] [])
    (h1 : Fn G "read_number" 2 (cRead G.K)) : Fn G "read_ratio" 3 (cRead G.K) := by
  refine Fn.of F hf b sq33 (fun ks k ⟨a, h, _⟩ => by rw [h]; rfl) fun X hX hfn hp ks k ⟨a, hks, ha, hl, hk0, hk1⟩ => ?_
  subst hks
  refine S_one ?_
  refine S1_ret ?_
  refine E_call hX h1 (by omega) rfl rfl ?_
  refine A_cons rfl ?_
  refine P_name (i := 0) hX rfl (.inl rfl) rfl (by intro z; cases z) ?_  -- text
  refine A_nil ?_
  exact ⟨[_], ⟨rfl, trivial⟩, trivial, a, rfl, ha, hl, fun h => fin_no (hk0 h), fun u l h => fin_no (hk1 u l h)⟩
/-! ### _law_word -/
theorem sq41 : FnScope ["p"] ["p"] (defScope (top 41)) := ⟨rfl, rfl, rfl, by decide +kernel, rfl, by decide +kernel, by decide +kernel⟩
theorem q41 {G : Gm} {f : Addr} {fd : FuncData} (F : Fun G.K "_law_word" "_law_word" (top 41) f fd) (hf : G.mg "_law_word" = some (.ref f)) (b : Binds G.K fd ["p"] []) (B : Bi G) : Fn G "_law_word" 1 (cNumT G.K) := by
  refine Fn.of F hf b sq41 (fun ks k ⟨q, h, _⟩ => by rw [h]; rfl) fun X hX hfn hp ks k ⟨q, hks, hq, hk⟩ => ?_
  subst hks
  have l1 := int_len hq.1
  have l2 := num_len hq.2
  have hd : ((q.den : Nat) : Int).natAbs < 2 ^ 100 := by rw [Int.natAbs_natCast]; exact hq.2
  -- return str(p[0]) if p[1] == 1 else f'{p[0]}/{p[1]}'
  refine S_one ?_
  refine S1_ret ?_
  refine E_if ?_
  refine C_eqI ?_
  refine E_ix hX (fun _ _ => rfl) ?_
  refine P_name (i := 0) hX rfl (.inl rfl) rfl (by intro z; cases z) ?_  -- p
  refine E_int ?_
  refine ⟨_, .im _ _, _, rfl, _, _, _, ix_Q1, ?_⟩
  refine ⟨_, .im _ _, ?_⟩
  refine E_int ?_
  refine ⟨_, .im _ _, ?_⟩
  unfold wordL at hk
  refine ⟨fun hc => ?_, fun hc => ?_⟩
  · have h := of_decide_eq_true hc
    rw [if_pos (by omega)] at hk
    refine E_strI hX rfl B.str rfl ?_
    refine E_ix hX (fun _ _ => rfl) ?_
    refine P_name (i := 0) hX rfl (.inl rfl) rfl (by intro z; cases z) ?_  -- p
    refine E_int ?_
    refine ⟨_, .im _ _, _, rfl, _, _, _, ix_Q0, ?_⟩
    refine ⟨_, .im _ _, log_lt hq.1, ?_⟩
    rw [int_tx]
    exact fin_no hk
  · have h := of_decide_eq_false hc
    rw [if_neg (by omega)] at hk
    refine E_f3 ?_
    refine E_ix hX (fun _ _ => rfl) ?_
    refine P_name (i := 0) hX rfl (.inl rfl) rfl (by intro z; cases z) ?_  -- p
    refine E_int ?_
    refine ⟨_, .im _ _, _, rfl, _, _, _, ix_Q0, ?_⟩
    refine ⟨_, rI, q.num, _, .im _ _, fmt_I (log_lt hq.1), by rw [int_tx, SX.S_len, show ("/" : Str).length = 1 by decide +kernel]; omega, ?_⟩
    refine E_ix hX (fun _ _ => rfl) ?_
    refine P_name (i := 0) hX rfl (.inl rfl) rfl (by intro z; cases z) ?_  -- p
    refine E_int ?_
    refine ⟨_, .im _ _, _, rfl, _, _, _, ix_Q1, ?_⟩
    refine ⟨_, rI, (q.den : Int), _, .im _ _, fmt_I (log_lt hd), by rw [show ("/" : Str).length = 1 by decide +kernel, int_tx, nat_tx, SX.S_len, SX.S_len]; omega, ?_⟩
    rw [int_tx, nat_tx, show ("/" : Str) = tx [47] by decide +kernel, tx_cat, tx_cat, List.append_assoc]
    exact fin_no hk
end T
end
section
set_option Elab.async false
set_option linter.all false
set_option maxRecDepth 100000
set_option maxHeartbeats 4000000
/-! An error of the package as a value: made, asked for its classes, its attribute read. -/
namespace PySem.XV
open PySem PySem.W PySem.Calls PyProof.Rows PySem.HandSPX PySem.Builtin PySem.Builtin.ObjectAttr
section
variable {M : Model} {A : Around} {E : Value → Shared → Prop} {h : Heap} {g : Array GenState} {d : Drawn} {t : Nat} {os : OsState} {rest : List Value} {kw : List (Str × Value)}
variable {nm q : Str} {C N : Addr} {bs bm bmB : List Value} {hdct : Bool} {sn : List Str} {sub : List Value} {ab : Bool} {col : Option Bool} {dd : Option Addr} {k0 k1 k2 k3 k5 : Option Value} {B newId initId : String}
theorem chkNew (Fb : ExcBaseFacts B newId initId bmB) (hT : ∀ X : String, bm.contains (.type X) = bmB.contains (.type X)) {Q : Unit → Shared → Prop}
    (hC : h.get? C = some (excClassObj nm q C N bs bm hdct sn sub ab col dd k0 k1 k2 k3 k5 newId)) (hq : Q () ⟨h, g, d, t, os⟩) : wpAny M A (checkBuiltinCall newId ⟨.ref C :: rest, kw⟩) Q E ⟨h, g, d, t, os⟩ := by
  have c1 : (Value.ref C :: bm).contains (.type B) = true := by rw [List.contains_cons, hT, Fb.hasB, Bool.or_true]
  have c2 := Fb.noStar
  simp only [checkBuiltinCall, Fb.newKind, Fb.newSplit, Fb.newRow]
  repeat (first
    | refine wpAny_loadPart_at hC ?_
    | (refine wpAny_isSubtype_exc hC ?_; rw [c1])
    | refine wpAny_staticBase_exc hC ?_
    | refine wpAny_madeBy_exc hC ?_
    | simp only [bne_self_eq_false, Bool.false_eq_true, if_false]
    | wp_step)
  exact hq
end
section
variable {prog : Program} {w : World} {A : Around} {E : Value → Shared → Prop} {R : Result → Shared → Prop} {h : Heap} {g : Array GenState} {d : Drawn} {t : Nat} {os : OsState} {rest : List Value} {kw : List (Str × Value)}
variable {nm q : Str} {C N : Addr} {bs bm bmB : List Value} {hdct : Bool} {sn : List Str} {sub : List Value} {ab : Bool} {col : Option Bool} {dd : Option Addr} {k0 k1 k2 k3 k5 : Option Value} {B newId initId : String}
theorem newKw (Fb : ExcBaseFacts B newId initId bmB) (hT : ∀ X : String, bm.contains (.type X) = bmB.contains (.type X))
    (hC : h.get? C = some (excClassObj nm q C N bs bm hdct sn sub ab col dd k0 k1 k2 k3 k5 newId))
    (hq : R (.ok (.ret (.ref (h.objs.size + 1)))) ⟨(h.push (kdv_tup rest)).push (excO C h.objs.size), g, d, t, os⟩) (hr : rest.length ≤ sizeLine) :
    codeAny (model prog w) A (.builtin newId ⟨.ref C :: rest, kw⟩) R ⟨h, g, d, t, os⟩ := by
  have hends := Fb.ends
  have c1 : (Value.ref C :: bm).contains (.type B) = true := by rw [List.contains_cons, hT, Fb.hasB, Bool.or_true]
  have c2 : (Value.ref C :: bm).contains (.type "AttributeError") = false := by rw [List.contains_cons, hT, Fb.noAttr]; rfl
  have c3 : (Value.ref C :: bm).contains (.type "NameError") = false := by rw [List.contains_cons, hT, Fb.noName]; rfl
  have hrest := hr
  refine codeAny_builtinAt Fb.entry ?_
  unfold Builtin.«BaseException.__new__»
  refine wpAt_bind ?_
  show wpAt _ _ _ (stack >>= _) _ _ _
  refine wpAt_bind (wpAt_stack fun p below => wpAt_of_wpAny ?_)
  wp_walk
  refine wpAt_of_wpAny ?_
  rw [Fb.owner]
  repeat (first
    | with_reducible refine wpAny_madeHere_exc Fb.canon hC ?_
    | with_reducible refine wpAny_loadPart_at hC ?_
    | (with_reducible refine wpAny_isSubtype_exc hC ?_; first | rw [c1] | rw [c2] | rw [c3])
    | wp_step)
  show R _ _
  rw [Heap.size_push]
  exact hq
/-- C(.., k = v) up to its own __init__ -/
theorem callKw (Fb : ExcBaseFacts B newId initId bmB) (hT : ∀ X : String, bm.contains (.type X) = bmB.contains (.type X)) {fI : Addr}
    (hC : h.get? C = some (excClassObj nm q C N bs bm hdct sn sub ab col dd k0 k1 k2 k3 k5 newId))
    (hi : Looks (model prog w) h (typeLookup (.ref C) "__init__") (some (.ref fI))) (hb : ∀ self, Looks (model prog w) h (bindSpecial (.ref fI) self) (.ref fI, [self])) (hr : rest.length ≤ sizeLine)
    (hq : codeAny (model prog w) (A.under (.builtin "type.__call__" ⟨.ref C :: rest, kw⟩)) (.call (.ref fI) ⟨.ref (h.objs.size + 1) :: rest, kw⟩) (InitBack (h.objs.size + 1) R)
      ⟨(h.push (kdv_tup rest)).push (excO C h.objs.size), g, d, t, os⟩) : codeAny (model prog w) A (.call (.ref C) ⟨rest, kw⟩) R ⟨h, g, d, t, os⟩ := by
  have f1 := tc_lookup
  have f2 := tc_bind (.ref C)
  have hTy : (⟨h, g, d, t, os⟩ : Shared).TypeIs (.ref C) "type" := ⟨_, hC, rfl⟩
  have ty0 : Looks (model prog w) h (isInstance (.ref C) (.type "type")) true := fun A' Q' E' s' k q' => by
    obtain ⟨h', g', d', t', os'⟩ := s'
    have hC' := k _ _ hC
    have f3 := tc_sub
    have hT' : (⟨h', g', d', t', os'⟩ : Shared).TypeIs (.ref C) "type" := ⟨_, hC', rfl⟩
    repeat (any_goals (first | assumption | with_reducible refine wpAny_loadPart_at hC' ?_ | wp_step))
  refine codeAny_of_tree ?_
  show wpAny _ _ (callAny (.ref C) _) _ _ _
  repeat (any_goals (first | assumption | with_reducible refine wpAny_loadPart_at hC ?_ | wp_step))
  refine ⟨rfl, ?_⟩
  refine codeAny_call_builtin_at (Code.quiet_builtin _ (by decide +kernel)) entry_typeCall (check_slot tc_kind tc_split ty0 (tc_args _ _ _) ?_)
  repeat (first | with_reducible refine wpAny_loadPart_at hC ?_ | with_reducible refine wpAny_madeBy_exc hC ?_ | wp_step)
  refine codeAny_call_builtin_code (Code.quiet_builtin _ Fb.quiet) (chkNew Fb hT hC ?_)
  refine newKw Fb hT hC ?_ hr
  show wpAny _ _ _ _ _ _
  have kk : ∀ b o, h.get? b = some o → ((h.push (kdv_tup rest)).push (excO C h.objs.size)).get? b = some o := fun b o e => Heap.get?_push_of_some _ (Heap.get?_push_of_some _ e)
  have hC1 := kk _ _ hC
  have hg : ((h.push (kdv_tup rest)).push (excO C h.objs.size)).get? (h.objs.size + 1) = some (excO C h.objs.size) := by heap_get
  have own : (Value.ref C :: bm).contains (.ref C) = true := by simp
  have i1 := hi.keeps kk
  have b1 := (hb (.ref (h.objs.size + 1))).keeps kk
  unfold isInstance
  repeat (first | with_reducible refine wpAny_loadPart_at hg ?_ | (with_reducible refine wpAny_isSubtype_exc hC1 ?_; rw [own]) | wp_step)
  refine wpAny_isSubtype_exc (C := C) hC1 ?_
  rw [own]
  repeat wp_step
  show wpAny _ _ (typeLookup (.ref C) _) _ _ _
  refine i1.at ?_
  refine wpAny_holding (wpAny_bind (b1.at ?_))
  refine wpAny_bind (wpAny_call (codeAny_mono hq fun r s' z => ?_))
  rcases r with e | (v | _ | _ | _) <;> first | exact z | exact z.elim | skip
  obtain ⟨rfl, z⟩ := z
  first
    | exact wpAny_pure (wpAny_pure z)
    | (wp_walk; exact z)
end
section
variable {prog : Program} {w : World} {A : Around} {R : Result → Shared → Prop} {hp : Heap} {g : Array GenState} {d : Drawn} {t : Nat} {os : OsState} {bmB : List Value} {B : String}
/-- the first attribute of an error -/
theorem saNew {K : Frag} {name : Str} {tk : Tok} {v : Value} {x C : Addr} {fv : Array Value} (SF : StoreFacts B bmB "object.__setattr__" "object") (X : K.In hp) (hx : hp.get? x = some { cls := .ref C, data := .fields fv })
    (ho : excOver K C bmB = true) (hd : hasDictIn K C = true) (ht : takerIn K C name = some none)
    (hq : ∀ h' tk' dx, (∀ b o, b ≠ x → hp.get? b = some o → h'.get? b = some o) → hp.objs.size ≤ dx → dx ≠ x → h'.get? x = some { cls := .ref C, dict := some dx, data := .fields fv } →
      h'.Ns1 dx (fun y => if y = name then some v else none) → R (.ok (.ret .none)) ⟨h', g, d, tk', os⟩) :
    codeAny (model prog w) A (.call (.builtin "object.__setattr__") ⟨[.ref x, .str name tk, v], []⟩) R ⟨hp, g, d, t, os⟩ := by
  have I : InstAt hp x { cls := .ref C, data := .fields fv } C none := ⟨hx, rfl, rfl, trivial⟩
  refine osa_openX (s := ⟨hp, g, d, t, os⟩) SF X I ho ht fun b => ?_
  have far : x ≠ hp.objs.size := Nat.ne_of_lt (Heap.lt_size hx)
  obtain ⟨cd, hc, hh⟩ := any_some hd
  have look : Looks (model prog w) hp (classData C) cd := looks_clsIn X hc
  show wpAny _ _ (storeInOwnDict (.ref x) (.ref C) (.str name tk) name v b) _ _ _
  obtain ⟨nm, bs, mro, ns, qn, hd', sn, sb, ab, col, del⟩ := cd
  dsimp only at hh
  subst hh
  unfold storeInOwnDict ownDictForStores
  repeat (first
    | with_reducible refine store_in_new ?_ ?_
    | with_reducible refine wpAny_loadPart_at hx ?_
    | with_reducible refine look.at ?_
    | wp_step)
  · exact ⟨_, #[], _, (Heap.get?_update_ne _ _ _ _ far.symm).trans (Heap.get?_push_at rfl rfl), rfl, fun e he => absurd he (by simp), fun _ => rfl⟩
  · intro h' tk' hn' hs
    have h1 : (hp.push { cls := .type "dict", data := .dict #[] }).get? x = some { cls := .ref C, data := .fields fv } := Heap.get?_push_of_some _ hx
    refine hq h' tk' hp.objs.size (fun b o hb ho => ?_) (Nat.le_refl _) far.symm ?_ hn'
    · exact (hs.2 b (Nat.ne_of_lt (Heap.lt_size ho))).trans ((Heap.get?_update_ne _ _ _ _ hb).trans (Heap.get?_push_of_some _ ho))
    · exact (hs.2 x far).trans (Heap.get?_update_self _ h1 rfl)
end
end PySem.XV
end
section
set_option Elab.async false
set_option linter.all false
set_option maxRecDepth 100000
set_option maxHeartbeats 4000000
namespace XE
open PySem PySem.Spec PyProof.Rows L2
/-- what the written part says of an error's class at C: its __init__ at fI, its attribute f -/
structure ECls (K : PySem.W.Frag) (C fI : Addr) (f : Str) : Prop where
  base : ∃ B newId initId bmB, ExcBaseFacts B newId initId bmB ∧ StoreFacts B bmB "object.__setattr__" "object" ∧ PySem.W.excInitIn K C bmB newId = true ∧ PySem.W.excOver K C bmB = true
  sa : PySem.W.findIn K (.ref C) "__setattr__" = some (some (.builtin "object.__setattr__"))
  hd : PySem.W.hasDictIn K C = true
  kC : PySem.W.keepIn K (.ref C) = true
  tk : PySem.W.takerIn K C f = some none
  no : PySem.W.findIn K (.ref C) f = some none
  iC : PySem.W.findIn K (.ref C) "__init__" = some (some (.ref fI))
  tI : PySem.W.typeIn K (.ref fI) = some (.type "function")
  ga : PySem.W.findIn K (.ref C) "__getattribute__" = some (some (.builtin "BaseException.__getattribute__"))
  gg : PySem.W.findIn K (.ref C) "__getattr__" = some none
  ex : PySem.W.subIn K (.ref C) (.type "BaseException") = some true
  ca : PySem.W.findIn K (.ref C) "__class__" = some (some (.builtin "object.__class__"))
  cn : PySem.W.specialIn K (.builtin "object.__class__") "__get__" = some (some (.builtin "getset_descriptor.__get__"))
  ct : PySem.W.takesIn K (.builtin "object.__class__") = some true
  mo : PySem.W.mroIn K C (.type "object") = some true
section
variable {P : Program} {w : World} {H : Hp} {h : Heap} {a C dx : Addr} {d : Option Addr} {fs : List (Str × V)}
theorem exoR (ok : HOk P w H h) (q : Rd H a (exo a C d)) : ∃ t1 : Addr, h.get? a = some ({ cls := .ref C, dict := d, data := .fields #[.ref t1, .none, .none, .none, .bool false, .none] } : Obj) := by
  rcases q with q | ⟨o, q⟩
  · exact exo_at ok q
  · have x : h.get? a = some o ∧ ObjOk P w H h a (exo a C d) := ok a _ q
    have y : ObjOk P w H h a (.ext fun h => ∃ t1 : Addr, h.get? a = some ({ cls := .ref C, dict := d, data := .fields #[.ref t1, .none, .none, .none, .bool false, .none] } : Obj)) := x.2
    exact y.1
theorem exdR (ok : HOk P w H h) (q : Rd H dx (exd dx fs)) : ∃ mA, h.Ns1 dx mA ∧ ∀ f, RelO (fs.lookup f) (mA f) := by
  rcases q with q | ⟨o, q⟩
  · exact exd_at ok q
  · have x : h.get? dx = some o ∧ ObjOk P w H h dx (exd dx fs) := ok dx _ q
    have y : ObjOk P w H h dx (.ext fun h => ∃ mA, h.Ns1 dx mA ∧ ∀ f, RelO (fs.lookup f) (mA f)) := x.2
    exact y.1
end
section
variable {X : Cx} {pins : List (Addr × Obj)} {σ : L2.St} {H : Hp} {s : Shared} {a C fI dx : Addr} {f : Str} {y : V} {u : Value} {Q : Unit → Shared → Prop} {E : Value → Shared → Prop} {A : Around}
/-- self.f = y, the one attribute -/
theorem putNew (T : ECls X.K C fI f) (I : Inv X pins σ H s) (e : H a = some (exo a C none)) (ry : RelV y u)
    (h : ∀ dx s', H dx = none → dx ≠ a → Inv X pins σ (upd (upd H dx (exd dx [(f, y)])) a (exo a C (some dx))) s' → Q () s') : wpAny (model X.prog X.w) A (setAttr (.ref a) f u) Q E s := by
  obtain ⟨B, newId, initId, bmB, hF, hS, hI, hO⟩ := T.base
  obtain ⟨t1, ho⟩ := exo_at I.hok e
  obtain ⟨hp, g, dr, t, os⟩ := s
  have ia : PySem.W.InstAt hp a ({ cls := .ref C, dict := none, data := .fields #[.ref t1, .none, .none, .none, .bool false, .none] } : Obj) C none := ⟨ho, rfl, rfl, trivial⟩
  refine PySem.W.set_plain I.kIn ia T.sa ?_
  refine PySem.XV.saNew hS I.kIn ho hO T.hd T.tk fun h' tk' dx keep dn dne hx hn => ?_
  have hnd : H dx = none := I.hok.fresh dn
  have old : ∀ {b : Addr} {o : Obj}, hp.get? b = some o → b ≠ dx := fun {b o} q => Nat.ne_of_lt (Nat.lt_of_lt_of_le (Heap.lt_size q) dn)
  have nota : ∀ {b : Addr}, H b = none → b ≠ a := fun {b} n z => by rw [z, e] at n; cases n
  have un : Un X.fs [] H (upd (upd H dx (exd dx [(f, y)])) a (exo a C (some dx))) hp h' :=
    ⟨fun b o q n _ _ => keep b o (nota n) q, fun b o q n _ _ => ⟨o.slots, keep b o (nota n) q⟩,
      fun b o q n _ => by rw [upd_ne (nota n), upd_ne (old q)]; exact n,
      fun b o q _ => (Classical.em (b = a)).elim (fun hb => ⟨_, hb ▸ hx⟩) fun hb => ⟨o, keep b o hb q⟩,
      fun b xs q => by rw [upd_ne (at_ne e q exo_tup), upd_ne (ne_of_none q hnd)]; exact q,
      fun b o v q => by rw [upd_ne (at_ne e q exo_frz), upd_ne (ne_of_none q hnd)]; exact q,
      fun b ps q => ⟨#[], by rw [upd_ne (at_ne e q exo_tbl), upd_ne (ne_of_none q hnd), q]; simp⟩⟩
  refine h dx _ hnd dne (I.un (t' := tk') un fun b o q => ?_)
  by_cases hb : b = a
  · subst hb; rw [upd_same] at q; cases q; exact exo_ok hx
  · rw [upd_ne hb] at q
    by_cases hd : b = dx
    · subst hd; rw [upd_same] at q; cases q
      exact exd_ok hn (relO_put (fs := []) ry fun g => True.intro)
    · rw [upd_ne hd] at q
      have nx : ∀ {c : Addr} {o : HO}, H c = some o → c ≠ dx := fun {c o} hc => ne_of_none hc hnd
      exact (I.hok b o q).stay
        (fun c v hc z => keep c v (hc.elim (fun hc => by rw [hc]; exact hb) fun hc => at_ne e hc exo_own) z)
        (fun c hc => by rw [upd_ne (at_ne e hc exo_own), upd_ne (nx hc)]; exact hc)
        (fun c xs hc => by rw [upd_ne (at_ne e hc exo_tup), upd_ne (nx hc)]; exact hc)
end
section
variable {X : Cx} {o e : Expr} {es : List Expr} {to te : TE} {ta : TA} {f : Str} {p p' pos : Pos} {C fI : Addr}
theorem ps_put (T : ECls X.K C fI f) (ho : PE X o to) (he : PE X e te) (hs : swapsWith e (some (.Attribute o f p')) pos.line X.env = pure false := by rfl) :
    PS X (.Assign [.Attribute o f p'] e pos) (fun D σ H => te σ H fun y H1 => to σ H1 fun x H2 => ∃ a : Addr, x = .ref a ∧ H2 a = some (exo a C none) ∧
      ∀ dx, H2 dx = none → dx ≠ a → D.nx σ (upd (upd H2 dx (exd dx [(f, y)])) a (exo a C (some dx)))) := by
  refine ⟨fun pins s σ H D I h => ?_⟩
  refine plainObj_wpAny_Assign_Attribute (thn (he.run pins s σ H _ I h) fun v s1 ⟨y, H1, I1, r1, q1⟩ => thn (ho.run pins s1 σ H1 _ I1 q1) fun u s2 ⟨x, H2, I2, r2, a, ex, ea, q⟩ => ?_) hs
  subst ex
  obtain rfl : u = Value.ref a := r2
  exact putNew T I2 ea r1 fun dx s' n ne J => ⟨σ, _, J, q dx n ne⟩
/-- what __init__ does -/
def spI (C : Addr) (f : Str) : L2.Sp := fun vs H Q _ => ∃ (a : Addr) (y : V), vs = [.ref a, y] ∧ H a = some (exo a C none) ∧
  ∀ dx, H dx = none → dx ≠ a → Q .non (upd (upd H dx (exd dx [(f, y)])) a (exo a C (some dx)))
theorem upd3 {H : Hp} {a dx : Addr} {o1 o2 o3 : HO} (hne : dx ≠ a) : upd (upd (upd H a o1) dx o2) a o3 = upd (upd H dx o2) a o3 := by
  funext b
  by_cases h1 : b = a
  · subst h1; rw [upd_same, upd_same]
  · rw [upd_ne h1, upd_ne h1]
    by_cases h2 : b = dx
    · subst h2; rw [upd_same, upd_same]
    · rw [upd_ne h2, upd_ne h2, upd_ne h1]
/-- C(v), C(f = v) -/
theorem runMk {CX : CXT} {k : Nat} {fd : FuncData} {pins : List (Addr × Obj)} {σ : L2.St} {H : Hp} {s : Shared} {Q : VK} {us : List Value} {kw : List (Str × Value)} {u : Value} {y : V} (T : ECls X.K C fI f)
    (F1 : FnOk X.prog X.w X.K X.mg X.base CX k fI fd ["self", f] (spI C f)) (hr : Room (k + 1) X.A) (hx : Passes CX X (fun _ _ _ => False)) (I : Inv X pins σ H s) (ry : RelV y u) (hus : us.length ≤ sizeLine)
    (hb : ∀ (s' : Shared) (a : Addr), X.K.In s'.heap → BindsTo s' fd ⟨.ref a :: us, kw⟩ ((["self", f] : List Str).zip [.ref a, u]))
    (q : ∀ a dx, H a = none → H dx = none → dx ≠ a → Q (.ref a) (upd (upd H dx (exd dx [(f, y)])) a (exo a C (some dx)))) : wpAny (model X.prog X.w) X.A (call (.ref C) us kw) (EP X pins σ Q) X.xe s := by
  obtain ⟨B, newId, initId, bmB, hF, hS, hI, hO⟩ := T.base
  obtain ⟨nm, N, qn, bs, bm, hdct, sn, sub, ab, col, dd, k0, k1, k2, k3, k5, hC, hT⟩ := PySem.W.excInit_of I.kIn hI
  obtain ⟨hp, g, dr, tk, os⟩ := s
  have hsz : hp.objs.size ≤ hp.objs.size + 1 := Nat.le_succ _
  have hn : H (hp.objs.size + 1) = none := I.hok.fresh hsz
  have keep : ∀ b o, hp.get? b = some o → ((hp.push (PySem.W.kdv_tup us)).push (PySem.HandSPX.excO C hp.objs.size)).get? b = some o := fun b o z => Heap.get?_push_of_some _ (Heap.get?_push_of_some _ z)
  have at1 : ((hp.push (PySem.W.kdv_tup us)).push (PySem.HandSPX.excO C hp.objs.size)).get? (hp.objs.size + 1) = some (PySem.HandSPX.excO C hp.objs.size) := by heap_get
  have I2 : Inv X pins σ (upd H (hp.objs.size + 1) (exo (hp.objs.size + 1) C none)) ⟨(hp.push (PySem.W.kdv_tup us)).push (PySem.HandSPX.excO C hp.objs.size), g, dr, tk, os⟩ :=
    I.laid (t' := tk) keep hsz (exo_ok at1)
  have r2 : Vals [V.ref (hp.objs.size + 1), y] [Value.ref (hp.objs.size + 1), u] := .cons rfl (.cons ry .nil)
  have hq : spI C f [V.ref (hp.objs.size + 1), y] (upd H (hp.objs.size + 1) (exo (hp.objs.size + 1) C none)) (fun v H2 => v = .non ∧ Q (.ref (hp.objs.size + 1)) H2) (fun _ _ _ => False) :=
    ⟨_, y, rfl, upd_same, fun dx h1 h2 => by
      rw [upd3 h2]
      exact ⟨rfl, q _ dx hn (by rwa [upd_ne h2] at h1) h2⟩⟩
  refine wpAny_call (PySem.XV.callKw hF hT hC (PySem.W.looks_findIn I.kIn T.iC) (fun self => PySem.W.bind_fn I.kIn self T.tI) hus
    (codeAny_mono (F1.run _ X.stack _ _ ⟨Value.ref (hp.objs.size + 1) :: us, kw⟩ [Value.ref (hp.objs.size + 1), u] _ _ (fun _ _ _ => False) (hr.make C us kw) (I2.env0.make C us kw) (hb _ _ I2.kIn) r2 hq) fun r s' hq' => ?_))
  cases r with
  | error er => exact hx pins σ _ _ er s' I2 hq'
  | ok fl =>
    cases fl with
    | ret v0 =>
      obtain ⟨v, H2, I3, rv, ev, q3⟩ := I2.after hq'
      subst ev
      exact ⟨rv, V.ref (hp.objs.size + 1), H2, I3, rfl, q3⟩
    | next => exact False.elim hq'
    | brk => exact False.elim hq'
    | cont => exact False.elim hq'
def tMk (C : Addr) (f : Str) (ta : TA) : TE := fun σ H Q => ta σ H fun vs H1 => ∃ y, vs = [y] ∧ ∀ a dx, H1 a = none → H1 dx = none → dx ≠ a → Q (.ref a) (upd (upd H1 dx (exd dx [(f, y)])) a (exo a C (some dx)))
theorem pe_mk {CX : CXT} {k : Nat} {fd : FuncData} {x : Str} (T : ECls X.K C fI f) (F1 : FnOk X.prog X.w X.K X.mg X.base CX k fI fd ["self", f] (spI C f)) (hr : Room (k + 1) X.A) (hb : Binds X.K fd ["self", f] []) (hx : Passes CX X (fun _ _ _ => False)) (hg : Gl X x) (hm : X.mg x = some (.ref C)) (ha : PA X [e] ta)
    (hdb : (x == ("__debug__" : Str)) = false := by decide) (he : starEach [e] X.env = (false, eval e X.env) :: starEach [] X.env := by rfl) (hpl : (backTo pos (starEach [] X.env)).any (·.1) = false := by rfl) :
    PE X (.Call (.Name x p) [e] [] pos) (tMk C f ta) := by
  refine ⟨fun pins s σ H Q I h => ?_⟩
  refine wpAny_Call_Name_kw (ld_glob I hg hm ?_ hdb)
  refine PySem.W.callWith_K (h₀ := X.base) I.ok.mod.kin T.kC (thn (ha.run pos pins s σ H _ I h) fun us s1 ⟨vs, H1, I1, r1, y, ev, q1⟩ => ⟨I1.kIn, ?_⟩) he hpl
  subst ev
  obtain ⟨u, eu, ry⟩ := vals1 r1
  subst eu
  show wpAny _ _ (call (.ref C) [u]) _ _ _
  exact runMk (kw := []) T F1 hr hx I1 ry (by rw [sizeLine_eq]; simp) (fun s' a X' => hb s' [.ref a, u] X' (by rfl)) q1
theorem pe_mkK {CX : CXT} {k : Nat} {fd : FuncData} {x : Str} {kws : List Keyword} (T : ECls X.K C fI f) (F1 : FnOk X.prog X.w X.K X.mg X.base CX k fI fd ["self", f] (spI C f)) (hr : Room (k + 1) X.A)
    (hb : ∀ (s' : Shared) (a : Addr) (u : Value), X.K.In s'.heap → BindsTo s' fd ⟨[.ref a], [(f, u)]⟩ ((["self", f] : List Str).zip [.ref a, u])) (hx : Passes CX X (fun _ _ _ => False)) (hg : Gl X x) (hm : X.mg x = some (.ref C)) (hkw : PK X kws ta)
    (hall : (backToKw pos (keywordEach kws X.env)).all (·.1.isSome) = true := by rfl) (hks : (backToKw pos (keywordEach kws X.env)).filterMap (·.1) = [f] := by rfl) (hdb : (x == ("__debug__" : Str)) = false := by decide)
    (hpl : ((backTo pos (starEach [] X.env)).any (·.1) || (backToKw pos (keywordEach kws X.env)).any (·.1.isNone)) = false := by rfl) : PE X (.Call (.Name x p) [] kws pos) (tMk C f ta) := by
  refine ⟨fun pins s σ H Q I h => ?_⟩
  refine wpAny_Call_Name_kw (ld_glob I hg hm ?_ hdb)
  refine PySem.W.callWith_KW0 (h₀ := X.base) I.ok.mod.kin T.kC hall ?_ hpl
  refine thn (hkw.run pos pins s σ H _ I h) fun ws s2 ⟨zs, H2, I2, rz, y, ev, q2⟩ => ⟨I2.kIn, ?_⟩
  subst ev
  obtain ⟨u, eu, ry⟩ := vals1 rz
  subst eu
  rw [hks]
  exact runMk (us := []) (kw := [(f, u)]) T F1 hr hx I2 ry (by rw [sizeLine_eq]; simp) (fun s' a X' => hb s' a u X') q2
/-- isinstance(e, c) -/
def rIsX (K : PySem.W.Frag) : List V → Hp → VK → Prop := fun xs H Q => ∃ (a C dx fI : Addr) (f : Str) (fs : List (Str × V)) (c : V) (cv : Value) (b : Bool), xs = [.ref a, c] ∧ ECls K C fI f ∧ Rd H a (exo a C (some dx)) ∧ Rd H dx (exd dx fs) ∧
  ClsV c cv ∧ PySem.W.kitOne K (.ref C) cv = some b ∧ Q (.bl b) H
theorem call_isX : CallR X (.builtin "isinstance") (rIsX X.K) := by
  intro pins s σ H xs us Q I r h
  obtain ⟨a, C, dx, fI, f, fs, c, cv, b, rfl, T, h1, h2, k, hk, q⟩ := h
  obtain ⟨u1, u2, rfl, r1, r2⟩ := vals2 r
  have e2 := k.eq r2
  subst e2
  obtain rfl : u1 = Value.ref a := r1
  obtain ⟨t1, ho⟩ := exoR I.hok h1
  obtain ⟨mA, hns, _⟩ := exdR I.hok h2
  obtain ⟨od, hod, _⟩ := lookIn_ns hns
  have J : PySem.W.InstAt s.heap a ({ cls := .ref C, dict := some dx, data := .fields #[.ref t1, .none, .none, .none, .bool false, .none] } : Obj) C (some od) := ⟨ho, rfl, rfl, hod⟩
  obtain ⟨cd, hc, _⟩ := PySem.W.any_some T.hd
  exact PySem.W.kia_one (PySem.W.kitx_exc (by rw [hc]; rfl) T.ga T.gg T.ex T.ca T.cn T.ct T.mo) I.kIn J hk (fun z => nomatch z) fun tk => ⟨.bl b, H, I.tok tk, rfl, q⟩
/-- e.f -/
theorem pe_fld {e : Expr} {te : TE} {n : Str} (he : PE X e te) (hb : attributeBase e n X.env (eval e X.env) = eval e X.env := by rfl) :
    PE X (.Attribute e n pos) (fun σ H Q => te σ H fun x H1 => ∃ (a C dx fI : Addr) (y : V), x = .ref a ∧ ECls X.K C fI n ∧ Rd H1 a (exo a C (some dx)) ∧ Rd H1 dx (exd dx [(n, y)]) ∧ Q y H1) := by
  refine ⟨fun pins s σ H Q I h => ?_⟩
  refine attr_of hb (thn (he.run pins s σ H _ I h) fun u s1 hh => ?_)
  obtain ⟨x, H1, I1, rx, a, C, dx, fI, y, ex, T, h1, h2, q⟩ := hh
  subst ex
  obtain rfl : u = Value.ref a := rx
  obtain ⟨t1, ho⟩ := exoR I1.hok h1
  obtain ⟨mA, hns, hr⟩ := exdR I1.hok h2
  obtain ⟨od, hod, hl⟩ := lookIn_ns hns
  have l : (([(n, y)] : List (Str × V)).lookup n) = some y := by simp [List.lookup]
  obtain ⟨u, hu, ru⟩ := RelO.some_of (v := y) (o := mA n) (by rw [← l]; exact hr n)
  have J : PySem.W.InstAt s1.heap a ({ cls := .ref C, dict := some dx, data := .fields #[.ref t1, .none, .none, .none, .bool false, .none] } : Obj) C (some od) := ⟨ho, rfl, rfl, hod⟩
  have fo : PySem.W.findObj X.K C (some od) n = some (.value u) := PySem.W.findObj_own T.hd T.no rfl (by rw [hl, hu])
  exact PySem.HandSPX.exc_get I1.kIn J T.ga T.gg T.ex fo (handed_of ru) ⟨y, H1, I1.tok _, ru, q⟩
end
end XE
end
section
set_option Elab.async false
set_option linter.all false
set_option maxRecDepth 100000
set_option maxHeartbeats 2000000
/-! Errors as values: rules of the layer. -/
namespace T
open PySem PySem.Spec PyProof.Rows L2 XE
/-- an error of the class at C with its one attribute f = d -/
def rX (K : PySem.W.Frag) : DR (Addr × Str × PyData) := ⟨fun R v q => ∃ (a dx : Addr) (y : V), v = .ref a ∧ Rd R a (exo a q.1 (some dx)) ∧ Rd R dx (exd dx [(q.2.1, y)]) ∧ (rU K).rel R y q.2.2,
  fun l ⟨a, dx, y, e, h1, h2, h3⟩ => ⟨a, dx, y, e, l.rd h1, l.rd h2, (rU _).up l h3⟩⟩
theorem exd_tbl {e : Addr} {fs : List (Str × V)} {ps : Array Value} : exd e fs ≠ .tbl ps := fun z => by
  have z' : HO.ext _ = HO.tbl ps := z
  cases z'
/-- what the written part says of an error's class: its name x, its attribute f -/
structure ErrC (G : Gm) (x f : Str) (C : Addr) : Prop where
  gC : G.mg x = some (.ref C)
  ex : ∃ fI fd, ECls G.K C fI f ∧ Binds G.K fd ["self", f] [] ∧ (∀ (s' : Shared) (a : Addr) (u : Value), G.K.In s'.heap → BindsTo s' fd ⟨[.ref a], [(f, u)]⟩ ((["self", f] : List Str).zip [.ref a, u])) ∧
    FnOk G.P G.w G.K G.mg G.base CX0 1 fI fd ["self", f] (spI C f)
section
variable {G : Gm} {X : Cx} {N : List Str} {sc : Scope} {n : Nat} {τ τ1 : Tau} {k : KK} {P : Po} {y : Kd} {e a b c tg : Expr} {es : List Expr} {pos p p2 apos kpos : Pos} {nm : Option Str} {C : Addr} {x f : Str}
theorem mk_cont {σ : L2.St} {F R0 R1 H1 : Hp} {v : V} {d : PyData} {Q : VK} {R : Hp} (ok1 : Ok F R0 R1 H1 σ τ1) (r : (rU G.K).rel R1 v d) (l : Le R R1) (hk : k (.im (rX G.K) (C, f, d)) τ1)
    (q : ∀ x τ' v R' H', k x τ' → Le R R' → Ok F R0 R' H' σ τ' → VOk F R' H' τ' v x → Q v H') :
    ∃ y, [v] = [y] ∧ ∀ a dx, H1 a = none → H1 dx = none → dx ≠ a → Q (.ref a) (upd (upd H1 dx (exd dx [(f, y)])) a (exo a C (some dx))) :=
  ⟨v, rfl, fun a dx h1 h2 h3 => by
    obtain ⟨n1, _, _⟩ := ok1.fresh h2
    have ok2 := ok1.lay (o := exd dx [(f, v)]) h2 fun ps => exd_tbl
    have hb : upd H1 dx (exd dx [(f, v)]) a = none := by rw [upd_ne (Ne.symm h3)]; exact h1
    obtain ⟨n2, _, _⟩ := ok2.fresh hb
    have ok3 := ok2.lay (o := exo a C (some dx)) hb fun ps => exo_tbl
    have l2 : Le R1 (upd (upd R1 dx (exd dx [(f, v)])) a (exo a C (some dx))) := (Le.upd n1).trans (Le.upd n2)
    exact q _ τ1 _ _ _ hk (l.trans l2) ok3 (VOk.im ⟨a, dx, v, rfl, .inl upd_same, .inl (by rw [upd_ne h3, upd_same]), (rU _).up l2 r⟩)⟩
/-- C(e) -/
theorem E_mk (hX : XF G X N sc n) (hC : ErrC G x f C) (hn : 2 ≤ n) (hg : sc.names.lookup x = some .globalImplicit) (hs : noStar [e] = true)
    (h : E X e τ fun y τ1 => ∃ d, Fz y (.im (rU G.K) d) ∧ k (.im (rX G.K) (C, f, d)) τ1) (hdb : (x == ("__debug__" : Str)) = false := by decide) (hpl : (backTo pos (starEach [] X.env)).any (·.1) = false := by rfl) : E X (.Call (.Name x p) [e] [] pos) τ k := by
  obtain ⟨fI, fd, hT, hb, hkb, hF⟩ := hC.ex
  have hT' : ECls X.K C fI f := by rw [hX.eK]; exact hT
  have hF' : FnOk X.prog X.w X.K X.mg X.base CX0 1 fI fd ["self", f] (spI C f) := by rw [hX.ep, hX.ew, hX.eK, hX.emg, hX.eb]; exact hF
  refine E.of (pe_mk hT' hF' (hX.room.mono hn) (by rw [hX.eK]; exact hb) pass0 (hX.gl hg) (hX.mgN hC.gC) (pa1 hs) hdb (star_of hs _ _ (List.suffix_refl _)) hpl) fun σ H F R0 R Q ok q => ?_
  refine h σ H F R0 R _ ok fun y τ1 v R1 H1 ⟨d, fz, hk⟩ l1 ok1 w1 => ?_
  obtain ⟨R2, l2, ok2, r⟩ := fz_rel ok1 w1 fz
  exact mk_cont ok2 r (l1.trans l2) hk q
/-- C(f = e) -/
theorem E_mkK (hX : XF G X N sc n) (hC : ErrC G x f C) (hn : 2 ≤ n) (hg : sc.names.lookup x = some .globalImplicit)
    (h : E X e τ fun y τ1 => ∃ d, Fz y (.im (rU G.K) d) ∧ k (.im (rX G.K) (C, f, d)) τ1) (hnm : nm = some f := by rfl) (hdb : (x == ("__debug__" : Str)) = false := by decide)
    (hall : (backToKw pos (keywordEach [⟨nm, e, kpos⟩] X.env)).all (·.1.isSome) = true := by rfl) (hks : (backToKw pos (keywordEach [⟨nm, e, kpos⟩] X.env)).filterMap (·.1) = [f] := by rfl)
    (hpl : ((backTo pos (starEach [] X.env)).any (·.1) || (backToKw pos (keywordEach [⟨nm, e, kpos⟩] X.env)).any (·.1.isNone)) = false := by rfl) : E X (.Call (.Name x p) [] [⟨nm, e, kpos⟩] pos) τ k := by
  obtain ⟨fI, fd, hT, hb, hkb, hF⟩ := hC.ex
  have hT' : ECls X.K C fI f := by rw [hX.eK]; exact hT
  have hF' : FnOk X.prog X.w X.K X.mg X.base CX0 1 fI fd ["self", f] (spI C f) := by rw [hX.ep, hX.ew, hX.eK, hX.emg, hX.eb]; exact hF
  refine E.of (pe_mkK hT' hF' (hX.room.mono hn) (by rw [hX.eK]; exact hkb) pass0 (hX.gl hg) (hX.mgN hC.gC) (pk_cons pe_sem pk_nil) hall hks hdb hpl) fun σ H F R0 R Q ok q => ?_
  refine h σ H F R0 R _ ok fun y τ1 v R1 H1 ⟨d, fz, hk⟩ l1 ok1 w1 => ?_
  obtain ⟨R2, l2, ok2, r⟩ := fz_rel ok1 w1 fz
  exact mk_cont ok2 r (l1.trans l2) hk q
/-- isinstance(e, T), T an own class; a built-in one -/
theorem E_isXo {D : Addr} {T0 : Str} (hX : XF G X N sc n) (hg : sc.names.lookup ("isinstance" : Str) = some .globalImplicit) (hm : G.mg ("isinstance" : Str) = none) (hgT : sc.names.lookup T0 = some .globalImplicit) (hmT : G.mg T0 = some (.ref D))
    (hs : noStar [a] = true) (h : E X a τ fun x τ1 => ∃ C fI f d c, Fz x (.im (rX G.K) (C, f, d)) ∧ ECls G.K C fI f ∧ PySem.W.kitOne G.K (.ref C) (.ref D) = some c ∧ k (.im rB c) τ1) (hd : (T0 == ("__debug__" : Str)) = false := by decide) :
    E X (.Call (.Name "isinstance" p) [a, .Name T0 p2] [] pos) τ k := by
  have st1 : starEach [a, .Name T0 p2] X.env = (false, eval a X.env) :: starEach [.Name T0 p2] X.env := by cases a <;> first | rfl | (simp [noStar] at hs)
  refine E.of (pe_callB call_isX (hX.gl hg) (hX.mgN hm) boot_isiB (pa_cons pe_sem (pa_cons (pe_glob (v := .ref D) (hX.gl hgT) (hX.mgN hmT) rfl hd) pa_nil) st1) (he := st1)) fun σ H F R0 R Q ok q => h σ H F R0 R _ ok fun x τ1 v R1 H1 ⟨C, fI, f, d, c, fz, hT, hk, hkk⟩ l1 ok1 w1 => ?_
  obtain ⟨R2, l2, ok2, r⟩ := fz_rel ok1 w1 fz
  obtain ⟨a, dx, y, e, h1, h2, _⟩ := r
  subst e
  exact ⟨a, C, dx, fI, f, _, .ref D, .ref D, c, rfl, by rw [hX.eK]; exact hT, ok2.le.rd h1, ok2.le.rd h2, .own D, by rw [hX.eK]; exact hk, q _ τ1 _ R2 H1 hkk (l1.trans l2) ok2 (VOk.im rfl)⟩
theorem E_isXb {Tn : String} {T0 : Str} (hX : XF G X N sc n) (hg : sc.names.lookup ("isinstance" : Str) = some .globalImplicit) (hm : G.mg ("isinstance" : Str) = none) (hgT : sc.names.lookup T0 = some .globalImplicit) (hmT : G.mg T0 = none) (hbT : bootBuiltins T0 = some (.type Tn))
    (hs : noStar [a] = true) (h : E X a τ fun x τ1 => ∃ C fI f d c, Fz x (.im (rX G.K) (C, f, d)) ∧ ECls G.K C fI f ∧ PySem.W.kitOne G.K (.ref C) (.type Tn) = some c ∧ k (.im rB c) τ1) (hn : T0 ≠ "__name__" := by decide) (hd : (T0 == ("__debug__" : Str)) = false := by decide) :
    E X (.Call (.Name "isinstance" p) [a, .Name T0 p2] [] pos) τ k := by
  have st1 : starEach [a, .Name T0 p2] X.env = (false, eval a X.env) :: starEach [.Name T0 p2] X.env := by cases a <;> first | rfl | (simp [noStar] at hs)
  refine E.of (pe_callB call_isX (hX.gl hg) (hX.mgN hm) boot_isiB (pa_cons pe_sem (pa_cons (pe_bltn (v := .ty Tn) (hX.gl hgT) (hX.mgN hmT) hbT rfl hn hd) pa_nil) st1) (he := st1)) fun σ H F R0 R Q ok q => h σ H F R0 R _ ok fun x τ1 v R1 H1 ⟨C, fI, f, d, c, fz, hT, hk, hkk⟩ l1 ok1 w1 => ?_
  obtain ⟨R2, l2, ok2, r⟩ := fz_rel ok1 w1 fz
  obtain ⟨a, dx, y, e, h1, h2, _⟩ := r
  subst e
  exact ⟨a, C, dx, fI, f, _, .ty Tn, .type Tn, c, rfl, by rw [hX.eK]; exact hT, ok2.le.rd h1, ok2.le.rd h2, .ty Tn, by rw [hX.eK]; exact hk, q _ τ1 _ R2 H1 hkk (l1.trans l2) ok2 (VOk.im rfl)⟩
/-- e.f -/
theorem E_fld {g : Str} (hX : XF G X N sc n) (h : E X a τ fun x τ1 => ∃ C fI d, Fz x (.im (rX G.K) (C, g, d)) ∧ ECls G.K C fI g ∧ k (.im (rU G.K) d) τ1) (hb : attributeBase a g X.env (eval a X.env) = eval a X.env := by rfl) : E X (.Attribute a g pos) τ k :=
  E.of (XE.pe_fld pe_sem hb) fun σ H F R0 R Q ok q => h σ H F R0 R _ ok fun x τ1 v R1 H1 ⟨C, fI, d, fz, hT, hk⟩ l1 ok1 w1 => by
    obtain ⟨R2, l2, ok2, r⟩ := fz_rel ok1 w1 fz
    obtain ⟨a, dx, y, e, h1, h2, h3⟩ := r
    subst e
    exact ⟨a, C, dx, fI, y, rfl, by rw [hX.eK]; exact hT, ok2.le.rd h1, ok2.le.rd h2, q _ τ1 _ R2 H1 hk (l1.trans l2) ok2 (VOk.im h3)⟩
/-- sorted(l) of texts -/
theorem pair_strs {R : Hp} : ∀ {xs : List V} {l : List Str}, Paired (rS.rel R) xs l → xs = l.map V.str
  | _, _, .nil => rfl
  | _, _, .cons h t => by rw [List.map_cons, ← pair_strs t, show _ = V.str _ from h]
theorem strs_pair {R : Hp} : ∀ l : List Str, Paired (rS.rel R) (l.map V.str) l
  | [] => .nil
  | y :: l => .cons rfl (strs_pair l)
theorem E_sortedS (hX : XF G X N sc n) (hg : sc.names.lookup ("sorted" : Str) = some .globalImplicit) (hm : G.mg ("sorted" : Str) = none) (hs : noStar [e] = true)
    (h : E X e τ fun x τ1 => ∃ l : List Str, Fz x (.im (rL G.K rS) l) ∧ l.length < 64 ∧ ∀ (ys : List Str) p, ys.Perm l → sortedS ys = true → k (.ow p (cL rS) ys) τ1) : E X (.Call (.Name "sorted" p) [e] [] pos) τ k :=
  E.of (pe_callB cr_sortedS (hX.gl hg) (hX.mgN hm) boot_sortedB (pa1 hs) (he := star_of hs _ _ (List.suffix_refl _))) fun σ H F R0 R Q ok q => h σ H F R0 R _ ok fun x τ1 v R1 H1 ⟨l, fz, hl, hk⟩ l1 ok1 w1 => by
    obtain ⟨R2, l2, ok2, a, xs, e, h1, h2⟩ := fz_rel ok1 w1 fz
    subst e
    refine ⟨a, l, rfl, ?_, hl, fun ys p hp hso hn => ?_⟩
    · rw [← pair_strs h2]; exact .inl (ok2.le.rd h1)
    · obtain ⟨hR, hF, ho⟩ := ok2.fresh hn
      exact q _ τ1 _ R2 _ (hk ys p hp hso) (l1.trans l2) (ok2.new hn) ⟨⟨rfl, hR, _, upd_same, _, rfl, strs_pair ys⟩, fun p' z => by cases z; exact ⟨hF, ho⟩⟩
theorem pr_append {α : Type} {F : V → α → Prop} : ∀ {xs ys : List V} {l m : List α}, Paired F xs l → Paired F ys m → Paired F (xs ++ ys) (l ++ m)
  | _, _, _, _, .nil, h => h
  | _, _, _, _, .cons a t, h => .cons a (pr_append t h)
/-- name.extend(e), e a fresh list -/
theorem E_extend {j : Nat} {x : Str} {α : Type} {A : DR α} {q : Addr} {l0 : List α} {apos cpos : Pos} (hX : XF G X N sc n) (hN : N[j]? = some x) (hv : Vis sc x) (hse : noStar [e] = true) (ht : τ[j]? = some (.ow q (cL A) l0))
    (h : E X e τ fun y τ1 => ∃ m p l, y = .ow p (cL A) m ∧ τ1[j]? = some (.ow q (cL A) l) ∧ l.length + m.length < 100000 ∧ k (.im rN ()) (τ1.set j (.ow q (cL A) (l ++ m))))
    (hbase : attributeBase (.Name x p) "extend" X.env (eval (.Name x p) X.env) = eval (.Name x p) X.env := by rfl) (hline : (apos.endLine == cpos.line) = true := by rfl)
    (hfew : ((backTo cpos (starEach [e] X.env)).all (fun x => !x.1) && (backToKw cpos (keywordEach [] X.env)).all (fun x => x.1.isSome) && decide ([e].length + ([] : List Keyword).length + (if ([] : List Keyword).isEmpty then 0 else 1) < 30)) = true := by rfl)
    (hd : (x == ("__debug__" : Str)) = false := by decide) (hcd : (x == ("__classdict__" : Str)) = false := by decide) : E X (.Call (.Attribute (.Name x p) "extend" apos) [e] [] cpos) τ k := by
  have st := star_of (env := X.env) hse e [] (List.suffix_refl _)
  refine E.of (pe_bm PySem.F.plainAttrs_list PySem.F.slot_list_extend PySem.F.type_list_extend mt_extend (pn hX hN hv hd hcd) (pa_cons pe_sem pa_nil st) hbase hfew hline st (by rfl)) ?_
  intro σ H F R0 R Q ok qq
  obtain ⟨hs, hR, hF, o, hH, xs, eo, hp⟩ := ok.cell ht
  subst eo
  refine ⟨.ref q, hs, .inl ⟨rfl, xs, .inl (.inl hH)⟩, ?_⟩
  refine h σ H F R0 R _ ok fun y τ1 v R1 H1 ⟨m, p, l, ey, ht1, hz, hk⟩ l1 ok1 w1 => ?_
  subst ey
  obtain ⟨e1, e2, o1, e3, ys, eo1, hp1⟩ := w1.rel
  subst eo1
  subst e1
  obtain ⟨hs2, hR2, hF2, o2, hH2, xs2, eo2, hp2⟩ := ok1.cell ht1
  subst eo2
  refine ⟨q, p, xs2, ys, rfl, rfl, hH2, e3, by rw [sizeLine_eq, PySem.Paired.length hp2, PySem.Paired.length hp1]; omega, ?_⟩
  exact qq _ _ .non R1 _ hk l1 (ok1.write ht1 ⟨xs2 ++ ys, rfl, pr_append hp2 hp1⟩) (VOk.im rfl)
end
end T
end
section
set_option Elab.async false
set_option linter.all false
set_option maxRecDepth 100000
set_option maxHeartbeats 4000000
set_option exponentiation.threshold 100000
namespace T
open PySem PySem.Spec PyProof.Rows L2
/-! ### lists of texts against one another -/
theorem lay_str {x : Str} (h : PyData.strOk x = true) : (PyData.str x).canLay0 = true := by simp [PyData.canLay0, h]
theorem dep_str (x : Str) : (PyData.str x).depth = 0 := by simp [PyData.depth]
theorem lay_strs : ∀ {l : List Str}, (∀ x ∈ l, PyData.strOk x = true) → PyData.canLayAll0 (l.map fun i => .str i) = true
  | [], _ => by simp [PyData.canLayAll0]
  | x :: l, h => by
    rw [List.map_cons, PyData.canLayAll0, lay_str (h x List.mem_cons_self), lay_strs fun y hy => h y (List.mem_cons_of_mem _ hy)]; rfl
theorem dep_strs : ∀ l : List Str, PyData.depthAll (l.map fun i => .str i) = 0
  | [] => by simp [PyData.depthAll]
  | x :: l => by rw [List.map_cons, PyData.depthAll, dep_str, dep_strs l]; rfl
theorem shp_strs {l : List Str} (h : ∀ x ∈ l, PyData.strOk x = true) : SeqAt.shaped (.list (l.map fun i => .str i)) = true := by
  have h1 : (PyData.list (l.map fun i => PyData.str i)).canLay0 = true := by rw [PyData.canLay0]; exact lay_strs h
  have h2 : (PyData.list (l.map fun i => PyData.str i)).depth ≤ 1 := by rw [PyData.depth, dep_strs]; exact Nat.le_refl _
  simp [SeqAt.shaped, h1]
  omega
theorem tx_ok {a : List Nat} (h : Asc a) : PyData.strOk (tx a) = true := by
  unfold PyData.strOk
  rw [← Array.all_toList]
  show a.all _ = true
  refine List.all_eq_true.mpr fun c hc => ?_
  have := h c hc
  simp; omega
theorem eqv_strs : ∀ l m : List Str, PyData.eqvAll (l.map fun i => .str i) (m.map fun i => .str i) = decide (l = m)
  | [], [] => by simp [PyData.eqvAll]
  | [], y :: m => by simp [PyData.eqvAll]
  | x :: l, [] => by simp [PyData.eqvAll]
  | x :: l, y :: m => by
    rw [List.map_cons, List.map_cons, PyData.eqvAll, eqv_strs l m]
    have e : PyData.eqv (.str x) (.str y) = decide (x = y) := by
      rw [PyData.eqv]; rw [Bool.eq_iff_iff]; simp
    rw [e, Bool.eq_iff_iff]
    simp
theorem eqv_strL (l m : List Str) : PyData.eqv (.list (l.map fun i => .str i)) (.list (m.map fun i => .str i)) = decide (l = m) := by rw [PyData.eqv, eqv_strs]
/-! ### sizes and parts -/
theorem wv_snoc (a : List Nat) (c : Nat) : wv (a ++ [c]) = wv a * 10 + (c - 48) := by
  unfold wv NumText.digitsVal
  rw [List.foldl_append]; rfl
theorem wv_lt {a : List Nat} (h : a.all isDg = true) : wv a < 10 ^ a.length := by
  have key : ∀ (a : List Nat) (s m : Nat), a.all isDg = true → s < 10 ^ m → a.foldl (fun acc c => acc * 10 + (c - 48)) s < 10 ^ (m + a.length) := by
    intro a
    induction a with
    | nil => intro s m _ h; exact h
    | cons c r ih =>
      intro s m ha hs
      rw [List.all_cons, Bool.and_eq_true] at ha
      have hc : c ≤ 57 := by
        have := ha.1
        unfold isDg at this
        simp at this
        omega
      have := ih (s * 10 + (c - 48)) (m + 1) ha.2 (by rw [Nat.pow_succ]; omega)
      rw [List.length_cons]
      have e : m + 1 + r.length = m + (r.length + 1) := by omega
      rw [e] at this
      exact this
  have := key a 0 0 h (by decide)
  rwa [Nat.zero_add] at this
theorem wv_big {a : List Nat} (h : a.all isDg = true) (hl : a.length ≤ 600) : wv a < 2 ^ 100000 :=
  Nat.lt_of_lt_of_le (wv_lt h) (Nat.le_trans (Nat.pow_le_pow_right (by omega) hl) (by
    have : (10 : Nat) ^ 600 ≤ (2 ^ 4) ^ 600 := Nat.pow_le_pow_left (by omega) 600
    refine Nat.le_trans this ?_
    rw [← Nat.pow_mul]
    exact Nat.pow_le_pow_right (by omega) (by omega)))
theorem wv_pos {c : Nat} {r : List Nat} (hc : c ≠ 48) (h : (c :: r).all isDg = true) : 0 < wv (c :: r) := by
  have key : ∀ (a : List Nat) (s : Nat), 0 < s → 0 < a.foldl (fun acc c => acc * 10 + (c - 48)) s := by
    intro a
    induction a with
    | nil => intro s h; exact h
    | cons c r ih => intro s h; exact ih (s * 10 + (c - 48)) (by omega)
  have hd : 48 ≤ c := by
    rw [List.all_cons, Bool.and_eq_true] at h
    have := h.1
    unfold isDg at this
    simp at this
    omega
  exact key r (0 * 10 + (c - 48)) (by omega)
theorem wv_zero {p : List Nat} (h : isW p = true) (hz : wv p = 0) : p = [48] := by
  cases p with
  | nil => cases h
  | cons c r =>
    have ha := (isW_all h).1
    have h2 : (decide (c ≠ 48) || r.isEmpty) = true := by
      have : ((c :: r).all isDg && (decide (c ≠ 48) || r.isEmpty)) = true := h
      rw [ha] at this
      exact this
    by_cases hc : c = 48
    · subst hc
      have : r.isEmpty = true := by simpa using h2
      rw [List.isEmpty_iff.mp this]
    · have := wv_pos hc ha
      omega
theorem spl_mem {s : Nat} : ∀ {f acc p : List Nat}, p ∈ TL.spl [s] 0 acc f → ∀ c ∈ p, c ∈ acc ∨ c ∈ f
  | [], acc, p, h => by
    rw [TL.spl_nil] at h
    intro c hc
    rw [List.mem_singleton.mp h] at hc
    exact .inl hc
  | x :: r, acc, p, h => by
    intro c hc
    by_cases hx : TL.pre [s] (x :: r) = true
    · rw [TL.spl_hit hx] at h
      rcases List.mem_cons.mp h with e | h
      · rw [e] at hc; exact .inl hc
      · rcases spl_mem h c hc with z | z
        · cases z
        · exact .inr (List.mem_cons_of_mem _ z)
    · have hx : TL.pre [s] (x :: r) = false := by simpa using hx
      rw [TL.spl_miss hx] at h
      rcases spl_mem h c hc with z | z
      · rcases List.mem_append.mp z with z | z
        · exact .inl z
        · rw [List.mem_singleton.mp z]; exact .inr List.mem_cons_self
      · exact .inr (List.mem_cons_of_mem _ z)
theorem spl_len {s : Nat} : ∀ {f acc p : List Nat}, p ∈ TL.spl [s] 0 acc f → p.length ≤ acc.length + f.length
  | [], acc, p, h => by
    rw [TL.spl_nil] at h
    rw [List.mem_singleton.mp h]
    exact Nat.le_add_right _ _
  | x :: r, acc, p, h => by
    rw [List.length_cons]
    by_cases hx : TL.pre [s] (x :: r) = true
    · rw [TL.spl_hit hx] at h
      rcases List.mem_cons.mp h with e | h
      · rw [e]; omega
      · have := spl_len h
        have z : (([] : List Nat)).length = 0 := rfl
        have : p.length ≤ ([] : List Nat).length + r.length := this
        omega
    · have hx : TL.pre [s] (x :: r) = false := by simpa using hx
      rw [TL.spl_miss hx] at h
      have := spl_len h
      rw [List.length_append, List.length_singleton] at this
      omega
theorem spl_ne {s : Nat} (f : List Nat) : TL.spl [s] 0 [] f ≠ [] := by
  rw [spl_par]
  cases TL.par [s] [] f with
  | none => simp
  | some z => obtain ⟨p, q⟩ := z; simp
theorem prts_one {a p : List Nat} (h : prts a = [p]) : frt a = p := by
  unfold prts at h
  rw [spl_par] at h
  cases hp : TL.par [47] [] (frt a) with
  | none => rw [hp] at h; simpa using h
  | some z =>
    obtain ⟨x, y⟩ := z
    rw [hp] at h
    have h : x :: TL.spl [47] 0 [] y = [p] := h
    exact absurd (List.cons.inj h).2 (spl_ne y)
theorem prts_asc {a p : List Nat} (ha : Asc a) (h : p ∈ prts a) : Asc p := fun c hc => by
  rcases spl_mem h c hc with z | z
  · cases z
  · exact frt_asc ha c z
theorem prts_len {a p : List Nat} (hl : a.length ≤ 600) (h : p ∈ prts a) : p.length ≤ 600 := by
  have := spl_len h
  have h2 := frt_len a
  have this : p.length ≤ ([] : List Nat).length + (frt a).length := this
  have z : (([] : List Nat)).length = 0 := rfl
  omega
def dgs : List Nat := [48, 49, 50, 51, 52, 53, 54, 55, 56, 57]
theorem in_dgs (c : Nat) : decide (c ∈ dgs) = isDg c := by
  unfold dgs isDg
  rw [Bool.eq_iff_iff]
  simp
  omega
/-! ### _law_number -/
abbrev lnN : List Str := ["word", "body", "parts", "part", "up", "low", "sign"]
theorem sq42 : FnScope lnN ["word"] (defScope (top 42)) := ⟨rfl, rfl, rfl, by decide +kernel, rfl, by decide +kernel, by decide +kernel⟩
/-- the end: up and low are known -/
theorem q42t {G : Gm} {X : Cx} {P : Po} {a : List Nat} {u l : Nat} {x1 x2 x3 x6 : Kd} (hX : XF G X lnN (defScope (top 42)) 1) (hn : numOf a = sg a u l) (hz : u = 0 → neg a = false → a = [48])
    (p0 : ∀ τ, numOf a = none → P.rt (.im rN ()) τ) (p1 : ∀ τ u l, numOf a = some (u, l) → P.rt (.im (rPair G.K rI rI) (u, l)) τ) :
    S X ((defBody (top 42)).drop 6) [.im rS (tx a), x1, x2, x3, .im rI (u : Int), .im rI (l : Int), x6] P := by
  -- if up == 0 and word != '0':
  refine S_cons ?_
  refine S1_if ?_
  refine C_and2 ?_
  refine C_eqI ?_
  refine E_name (i := 4) hX rfl (.inl rfl) rfl ?_  -- up
  refine ⟨_, .im _ _, ?_⟩
  refine E_int ?_
  refine ⟨_, .im _ _, ?_⟩
  unfold sg at hn
  have tail : (u = 0 → a = [48]) → S X ((defBody (top 42)).drop 7) [.im rS (tx a), x1, x2, x3, .im rI (u : Int), .im rI (l : Int), x6] P := fun hu => by
    -- return (0 - up if word.startswith('-') else up, low)
    refine S_one ?_
    refine S1_ret ?_
    refine E_tup hX rfl (by decide) ?_
    refine E_if ?_
    refine C_val ?_
    refine E_starts rfl ?_
    refine E_name (i := 0) hX rfl (.inl rfl) rfl ?_  -- word
    refine ⟨_, .im _ _, ?_⟩
    refine E_strL [45] (by decide +kernel) ?_
    refine ⟨_, .im _ _, ?_⟩
    rw [starts_tx]
    refine ⟨_, .im _ _, fun hc => ?_, fun hc => ?_⟩
    · have hg : neg a = true := hc
      have hu0 : ¬ (u : Int) = 0 := fun z => by
        rw [hu (by omega)] at hg
        cases hg
      rw [hg, if_pos rfl, if_neg hu0] at hn
      refine E_sub ?_
      refine E_int ?_
      refine ⟨_, .im _ _, ?_⟩
      refine E_name (i := 4) hX rfl (.inl rfl) rfl ?_  -- up
      refine ⟨_, .im _ _, ?_⟩
      refine ⟨_, .im _ _, ?_⟩
      refine E_name (i := 5) hX rfl (.inl rfl) rfl ?_  -- low
      refine ⟨_, .im _ _, ?_⟩
      refine ⟨by simp, _, rPair G.K rI rI, (0 - (u : Int), (l : Int)), tup_pair, ?_⟩
      rw [Int.zero_sub]
      exact p1 _ _ _ hn
    · have hg : neg a = false := hc
      rw [hg, if_neg (by simp)] at hn
      refine E_name (i := 4) hX rfl (.inl rfl) rfl ?_  -- up
      refine ⟨_, .im _ _, ?_⟩
      refine E_name (i := 5) hX rfl (.inl rfl) rfl ?_  -- low
      refine ⟨_, .im _ _, ?_⟩
      refine ⟨by simp, _, rPair G.K rI rI, ((u : Int), (l : Int)), tup_pair, ?_⟩
      exact p1 _ _ _ hn
  refine ⟨fun hc => ?_, fun hc => ⟨fun h => (by cases h), fun _ => ?_⟩⟩
  · have hu0 : (u : Int) = 0 := of_decide_eq_true hc
    refine C_neS ?_
    refine E_name (i := 0) hX rfl (.inl rfl) rfl ?_  -- word
    refine ⟨_, .im _ _, ?_⟩
    refine E_strL [48] (by decide +kernel) ?_
    refine ⟨_, .im _ _, ?_⟩
    rw [tx_eq]
    refine ⟨fun hc => ?_, fun hc => ?_⟩
    · -- return None
      have ha : ¬ a = [48] := by simpa using hc
      have hg : neg a = true := by
        cases h : neg a with
        | true => rfl
        | false => exact absurd (hz (by omega) h) ha
      rw [hg, if_pos rfl, if_pos hu0] at hn
      refine S_one ?_
      refine S1_ret ?_
      refine E_none ?_
      exact p0 _ hn
    · refine S_nil ?_
      have ha : a = [48] := by simpa using hc
      exact tail fun _ => ha
  · refine S_nil ?_
    have hu0 : ¬ (u : Int) = 0 := of_decide_eq_false hc
    exact tail fun z => absurd (by omega) hu0
theorem q42u {G : Gm} {X : Cx} {P : Po} {a : List Nat} {x1 x3 x6 : Kd} (hX : XF G X lnN (defScope (top 42)) 1) (B : Bi G) (h1 : Fn G "_law_gcd" 1 cGcdL) (hl : a.length ≤ 600) (hw : ∀ q ∈ prts a, isW q = true) (hm : ¬ 2 < (prts a).length)
    (p0 : ∀ τ, numOf a = none → P.rt (.im rN ()) τ) (p1 : ∀ τ u l, numOf a = some (u, l) → P.rt (.im (rPair G.K rI rI) (u, l)) τ) :
    S X ((defBody (top 42)).drop 4) [.im rS (tx a), x1, .im (rL G.K rS) ((prts a).map tx), x3, .no, .no, x6] P := by
  have good : ∀ q ∈ prts a, PySem.intText? (tx q) = some ((wv q : Nat) : Int) ∧ (tx q).length ≤ 640 := fun q hq => by
    obtain ⟨w1, w2⟩ := isW_all (hw q hq)
    have := prts_len hl hq
    exact ⟨SX.int_S w1 w2 (by omega), by rw [SX.S_len]; omega⟩
  -- up, low = (int(parts[0]), int(parts[-1]) if len(parts) == 2 else 1)
  refine S_cons ?_
  refine S1_par (i := 4) (j := 5) hX rfl rfl (by decide) rfl rfl rfl ?_ rfl
  refine E_intS hX rfl B.int rfl ?_
  refine E_ix hX (fun _ _ => rfl) ?_
  refine P_name (i := 2) hX rfl (.inl rfl) rfl (by intro z; cases z) ?_  -- parts
  refine E_int ?_
  cases e : prts a with
  | nil => exact absurd e (by unfold prts; exact spl_ne _)
  | cons p r =>
    rw [e] at good hm hw
    obtain ⟨g1, g2⟩ := good p List.mem_cons_self
    refine ⟨_, .im _ _, _, rfl, _, _, _, ix_L (a := tx p) (at_nat (i := 0) rfl), ?_⟩
    refine ⟨_, _, .im _ _, g1, g2, ?_⟩
    refine E_if ?_
    refine C_eqI ?_
    refine E_len hX rfl B.len rfl ?_
    refine P_name (i := 2) hX rfl (.inl rfl) rfl (by intro z; cases z) ?_  -- parts
    refine ⟨_, _, rfl, len_L, ?_⟩
    refine ⟨_, .im _ _, ?_⟩
    refine E_int ?_
    refine ⟨_, .im _ _, ?_⟩
    cases r with
    | nil =>
      refine ⟨fun hc => (by cases of_decide_eq_true hc), fun hc => ?_⟩
      refine E_int ?_
      refine ⟨_, _, rfl, ?_⟩
      -- if len(parts) == 2 and ..:
      refine S_cons ?_
      refine S1_if ?_
      refine C_and2 ?_
      refine C_eqI ?_
      refine E_len hX rfl B.len rfl ?_
      refine P_name (i := 2) hX rfl (.inl rfl) rfl (by intro z; cases z) ?_  -- parts
      refine ⟨_, _, rfl, len_L, ?_⟩
      refine ⟨_, .im _ _, ?_⟩
      refine E_int ?_
      refine ⟨_, .im _ _, ?_⟩
      refine ⟨fun hc => (by cases of_decide_eq_true hc), fun hc => ⟨fun h => (by cases h), fun _ => ?_⟩⟩
      refine S_nil ?_
      have w0 := hw p List.mem_cons_self
      refine q42t (u := wv p) (l := 1) hX ?_ (fun hz hg => ?_) p0 p1
      · exact num_one e w0
      · have ef := prts_one e
        unfold frt at ef
        rw [hg, if_neg (by simp)] at ef
        rw [ef]; exact wv_zero w0 hz
    | cons q r =>
      cases r with
      | cons z r => exact absurd (by simp) hm
      | nil =>
        obtain ⟨g3, g4⟩ := good q (List.mem_cons_of_mem _ List.mem_cons_self)
        refine ⟨fun hc => ?_, fun hc => absurd rfl (of_decide_eq_false hc)⟩
        refine E_intS hX rfl B.int rfl ?_
        refine E_ix hX (fun _ _ => rfl) ?_
        refine P_name (i := 2) hX rfl (.inl rfl) rfl (by intro z; cases z) ?_  -- parts
        refine E_neg ?_
        refine E_int ?_
        refine ⟨_, .im _ _, ?_⟩
        refine ⟨_, .im _ _, _, rfl, _, _, _, ix_L (a := tx q) rfl, ?_⟩
        refine ⟨_, _, .im _ _, g3, g4, ?_⟩
        refine ⟨_, _, rfl, ?_⟩
        have w1 := hw p List.mem_cons_self
        have w2 := hw q (List.mem_cons_of_mem _ List.mem_cons_self)
        have hnum := num_two e w1 w2
        have lq := prts_len hl (p := q) (by rw [e]; simp)
        have bq := wv_big (isW_all w2).1 lq
        -- if len(parts) == 2 and ..:
        refine S_cons ?_
        refine S1_if ?_
        refine C_and2 ?_
        refine C_eqI ?_
        refine E_len hX rfl B.len rfl ?_
        refine P_name (i := 2) hX rfl (.inl rfl) rfl (by intro z; cases z) ?_  -- parts
        refine ⟨_, _, rfl, len_L, ?_⟩
        refine ⟨_, .im _ _, ?_⟩
        refine E_int ?_
        refine ⟨_, .im _ _, ?_⟩
        refine ⟨fun hc => ?_, fun hc => absurd rfl (of_decide_eq_false hc)⟩
        refine C_or2 ?_
        refine C_lt ?_
        refine E_name (i := 5) hX rfl (.inl rfl) rfl ?_  -- low
        refine ⟨_, .im _ _, ?_⟩
        refine E_int ?_
        refine ⟨_, .im _ _, ?_⟩
        refine ⟨fun hc => ⟨fun _ => ?_, fun h => (by cases h)⟩, fun hc => ?_⟩
        · have hlt : ((wv q : Nat) : Int) < 2 := of_decide_eq_true hc
          rw [if_neg (by omega)] at hnum
          refine S_one ?_
          refine S1_ret ?_
          refine E_none ?_
          exact p0 _ hnum
        have hge : ¬ ((wv q : Nat) : Int) < 2 := of_decide_eq_false hc
        refine C_neI ?_
        refine E_call hX h1 (by omega) rfl rfl ?_
        refine A_cons rfl ?_
        refine P_name (i := 4) hX rfl (.inl rfl) rfl (by intro z; cases z) ?_  -- up
        refine A_cons rfl ?_
        refine P_name (i := 5) hX rfl (.inl rfl) rfl (by intro z; cases z) ?_  -- low
        refine A_nil ?_
        refine ⟨[_, _], ⟨rfl, rfl, trivial⟩, trivial, ((wv p : Nat) : Int), ((wv q : Nat) : Int), rfl, by rw [Int.natAbs_natCast]; exact bq, ?_⟩
        refine ⟨_, .im _ _, ?_⟩
        refine E_int ?_
        refine ⟨_, .im _ _, ?_⟩
        rw [Int.natAbs_natCast, Int.natAbs_natCast]
        refine ⟨fun hc => ?_, fun hc => ?_⟩
        · have hne : ((Nat.gcd (wv p) (wv q) : Nat) : Int) ≠ 1 := by simpa using hc
          rw [if_neg fun z => hne (by rw [z.2]; rfl)] at hnum
          refine S_one ?_
          refine S1_ret ?_
          refine E_none ?_
          exact p0 _ hnum
        refine S_nil ?_
        have hgc : ((Nat.gcd (wv p) (wv q) : Nat) : Int) = 1 := by simpa using hc
        rw [if_pos ⟨by omega, by omega⟩] at hnum
        refine q42t (u := wv p) (l := wv q) hX hnum (fun hz hg => ?_) p0 p1
        rw [hz, Nat.gcd_zero_left] at hgc
        omega
theorem q42 {G : Gm} {f : Addr} {fd : FuncData} (F : Fun G.K "_law_number" "_law_number" (top 42) f fd) (hf : G.mg "_law_number" = some (.ref f)) (b : Binds G.K fd ["word"] [])
    (B : Bi G) (h1 : Fn G "_law_gcd" 1 cGcdL) : Fn G "_law_number" 2 (cRead G.K) := by
  refine Fn.of F hf b sq42 (fun ks k ⟨a, h, _⟩ => by rw [h]; rfl) fun X hX hfn hp ks k ⟨a, hks, ha, hl, hk0, hk1⟩ => ?_
  subst hks
  have fl := frt_len a
  -- body = word[1:] if word.startswith('-') else word
  refine S_cons ?_
  refine S1_set (i := 1) hX rfl rfl ?_  -- body
  have hfront : E X (.IfExp (match defBody (top 42) with | .Assign _ (.IfExp c _ _ _) _ :: _ => c | _ => .Constant .none 0 ⟨0, 0, 0, 0⟩) (match defBody (top 42) with | .Assign _ (.IfExp _ a _ _) _ :: _ => a | _ => .Constant .none 0 ⟨0, 0, 0, 0⟩) (match defBody (top 42) with | .Assign _ (.IfExp _ _ a _) _ :: _ => a | _ => .Constant .none 0 ⟨0, 0, 0, 0⟩) (match defBody (top 42) with | .Assign _ (.IfExp _ _ _ p) _ :: _ => p | _ => ⟨0, 0, 0, 0⟩)) (tau0 lnN [.im rS (tx a)]) fun x τ => x = .im rS (tx (frt a)) ∧ τ = tau0 lnN [.im rS (tx a)] := by
    refine E_if ?_
    refine C_val ?_
    refine E_starts rfl ?_
    refine E_name (i := 0) hX rfl (.inl rfl) rfl ?_  -- word
    refine ⟨_, .im _ _, ?_⟩
    refine E_strL [45] (by decide +kernel) ?_
    refine ⟨_, .im _ _, ?_⟩
    rw [starts_tx]
    refine ⟨_, .im _ _, fun hc => ?_, fun hc => ?_⟩
    · have hg : neg a = true := hc
      refine E_slFrom ?_
      refine E_name (i := 0) hX rfl (.inl rfl) rfl ?_  -- word
      refine ⟨_, .im _ _, ?_⟩
      refine E_int ?_
      refine ⟨_, .im _ _, by rw [SX.S_len]; omega, ?_⟩
      rw [SX.slice_from (by omega)]
      refine ⟨?_, rfl⟩
      unfold frt
      rw [hg, if_pos rfl]
      show Kd.im rS (tx (a.drop 1)) = _
      rw [List.drop_one]
    · have hg : neg a = false := hc
      refine E_name (i := 0) hX rfl (.inl rfl) rfl ?_  -- word
      refine ⟨?_, rfl⟩
      unfold frt
      rw [hg, if_neg (by simp)]
  refine W.mono hfront fun x τ ⟨ex, eτ⟩ => ?_
  subst ex eτ
  -- parts = body.split('/')
  refine S_cons ?_
  refine S1_set (i := 2) hX rfl rfl ?_  -- parts
  refine E_split rfl ?_
  refine E_name (i := 1) hX rfl (.inl rfl) rfl ?_  -- body
  refine ⟨_, .im _ _, ?_⟩
  refine E_strL [47] (by decide +kernel) ?_
  refine ⟨_, .im _ _, by decide, by rw [SX.S_len]; omega, fun pp => ?_⟩
  rw [SX.split_S (by simp) (by decide)]
  -- if len(parts) > 2:
  refine S_cons ?_
  refine S1_if ?_
  refine C_gt ?_
  refine E_len hX rfl B.len rfl ?_
  refine P_name (i := 2) hX rfl (.inl rfl) rfl (by intro z; cases z) ?_  -- parts
  refine ⟨_, _, rfl, len_cL, ?_⟩
  refine ⟨_, .im _ _, ?_⟩
  refine E_int ?_
  refine ⟨_, .im _ _, ?_⟩
  rw [List.length_map]
  refine ⟨fun hc => ?_, fun hc => ?_⟩
  · have hc : (2 : Int) < ((prts a).length : Nat) := of_decide_eq_true hc
    refine S_one ?_
    refine S1_ret ?_
    refine E_none ?_
    exact fin_no (hk0 (num_many (by omega)))
  refine S_nil ?_
  have hm : ¬ (2 : Int) < ((prts a).length : Nat) := of_decide_eq_false hc
  -- for part in parts:
  refine S_cons ?_
  refine S1_for hX hp ?_
  refine I_list hX ?_
  refine E_frz (i := 2) hX rfl (.inl rfl) rfl (frz_L (K := G.K)) ?_  -- parts
  refine ⟨_, _, _, .im _ _, ?_⟩
  refine ⟨fun i τ => (∀ q ∈ (prts a).take i, isW q = true) ∧ ∃ x3 x6, τ = [.im rS (tx a), .im rS (tx (frt a)), .im (rL G.K rS) ((prts a).map tx), x3, .no, .no, x6], ⟨fun q h => by simp at h, _, _, rfl⟩, fun i y τ hy hI => ?_, fun τ hI => ?_⟩
  · obtain ⟨hw, x3, x6, eτ⟩ := hI
    subst eτ
    rw [List.map_map, List.getElem?_map] at hy
    cases hq : (prts a)[i]? with
    | none =>
      have hq : (TL.spl [47] 0 [] (frt a))[i]? = none := hq
      rw [hq] at hy; cases hy
    | some q =>
    have hq' : (TL.spl [47] 0 [] (frt a))[i]? = some q := hq
    rw [hq'] at hy
    have hy : Kd.im rS (tx q) = y := Option.some.inj hy
    subst hy
    have mq : q ∈ prts a := List.mem_of_getElem? hq
    have aq := prts_asc ha mq
    have lq := prts_len hl mq
    have bad : isW q = false → Fin [Kd.im rS (tx a)] k (.im rN ()) [] → True := fun _ _ => trivial
    refine T_name (i := 3) hX rfl rfl ?_  -- part
    -- if part == '' or [..] != []:
    refine S_cons ?_
    refine S1_if ?_
    refine C_or2 ?_
    refine C_eqS ?_
    refine E_name (i := 3) hX rfl (.inl rfl) rfl ?_  -- part
    refine ⟨_, .im _ _, ?_⟩
    refine E_strL [] (by decide +kernel) ?_
    refine ⟨_, .im _ _, ?_⟩
    rw [tx_eq]
    refine ⟨fun hc => ⟨fun _ => ?_, fun h => (by cases h)⟩, fun hc => ?_⟩
    · have e0 : q = [] := of_decide_eq_true hc
      refine S_one ?_
      refine S1_ret ?_
      refine E_none ?_
      exact fin_no (hk0 (num_bad mq (by rw [e0]; rfl)))
    have ne : q ≠ [] := of_decide_eq_false hc
    refine C_neD hX (deep_L deep_S) (deep_L deep_S) ?_
    refine E_lc (own := [("sign", 6)]) rS hX rfl ?_
    refine I_strS ?_
    refine E_name (i := 3) hX rfl (.inl rfl) rfl ?_  -- part
    refine ⟨_, .im _ _, ?_⟩
    refine ⟨fun j out τ => out = ((q.take j).filter fun c => !isDg c).map (fun c => tx [c]) ∧ τ = [.im rS (tx a), .im rS (tx (frt a)), .im (rL G.K rS) ((prts a).map tx), .im rS (tx q), .no, .no, .no], ⟨rfl, rfl⟩, fun j y hy => ?_, fun out τ hJ p => ?_⟩
    · rintro out τ ⟨ho, hτ⟩ X1 hX1 hf1
      subst hτ
      rw [List.getElem?_map] at hy
      cases hc : q[j]? with
      | none => rw [hc] at hy; cases hy
      | some c =>
      rw [hc] at hy
      have hy : Kd.im rS (tx [c]) = y := Option.some.inj hy
      subst hy
      have etake : q.take (j + 1) = q.take j ++ [c] := by rw [List.take_succ, hc]; rfl
      have lt : j < q.length := (List.getElem?_eq_some_iff.mp hc).1
      have lo : out.length ≤ q.length := by
        rw [ho, List.length_map]
        exact Nat.le_trans (List.length_filter_le _ _) (List.length_take_le' _ _)
      refine TB_name (i := 6) hX1 rfl rfl (by decide) ?_  -- sign
      intro X2 hX2
      refine Cs_one ?_
      refine C_ninS ?_
      refine E_name (i := 6) hX2 rfl (.inl rfl) rfl ?_  -- sign
      refine ⟨c, .im _ _, ?_⟩
      refine E_strL dgs (by decide +kernel) ?_
      refine ⟨_, .im _ _, ?_⟩
      rw [in_dgs]
      refine ⟨fun hb X3 hX3 => ?_, fun hb => ?_⟩
      · refine E_name (i := 6) hX3 rfl (.inl rfl) rfl ?_  -- sign
        refine ⟨_, .im _ _, by omega, ?_, rfl⟩
        rw [etake, List.filter_append, List.map_append, ho]
        have : [c].filter (fun c => !isDg c) = [c] := by simp; simpa using hb
        rw [this]; rfl
      · refine ⟨?_, rfl⟩
        rw [etake, List.filter_append, List.map_append, ho]
        have : [c].filter (fun c => !isDg c) = [] := by simp; simpa using hb
        rw [this]; simp
    obtain ⟨ho, hτ⟩ := hJ
    subst hτ
    rw [List.length_map, List.take_length] at ho
    have ascO : ∀ x ∈ out, PyData.strOk x = true := fun x hx => by
      rw [ho] at hx
      obtain ⟨c, hc, e⟩ := List.mem_map.mp hx
      rw [← e]
      refine tx_ok fun z hz => ?_
      rw [List.mem_singleton.mp hz]
      exact aq c (List.mem_filter.mp hc).1
    refine ⟨_, .ow frz_L, ?_⟩
    refine E_lst rfl (A := rS) ?_
    refine ⟨by simp, [], rfl, fun p2 => ?_⟩
    refine ⟨_, .ow frz_L, shp_strs ascO, shp_strs (l := []) (by simp), ?_⟩
    rw [eqv_strL]
    refine ⟨fun hc => ?_, fun hc => ?_⟩
    · have hne : ¬ out = [] := by simpa using hc
      refine S_one ?_
      refine S1_ret ?_
      refine E_none ?_
      refine fin_no (hk0 (num_bad mq ?_))
      cases hw : isW q with
      | false => rfl
      | true =>
        refine absurd ?_ hne
        rw [ho, List.filter_eq_nil_iff.mpr fun c hc => by
          have := List.all_eq_true.mp (isW_all hw).1 c hc
          simp [this]]
        rfl
    refine S_nil ?_
    have hdig : q.all isDg = true := by
      have he : out = [] := by simpa using hc
      rw [ho] at he
      have := List.map_eq_nil_iff.mp he
      refine List.all_eq_true.mpr fun c hc => ?_
      have := List.filter_eq_nil_iff.mp this c hc
      simpa using this
    cases q with
    | nil => exact absurd rfl ne
    | cons c r =>
    have ew : isW (c :: r) = (decide (c ≠ 48) || r.isEmpty) := by
      show ((c :: r).all isDg && (decide (c ≠ 48) || r.isEmpty)) = _
      rw [hdig]; rfl
    have more : isW (c :: r) = true → ∀ q ∈ (prts a).take (i + 1), isW q = true := fun h q hq2 => by
      rw [List.take_succ, hq] at hq2
      rcases List.mem_append.mp hq2 with z | z
      · exact hw q z
      · rw [List.mem_singleton.mp z]; exact h
    -- if part[0] == '0' and part != '0':
    refine S_one ?_
    refine S1_if ?_
    refine C_and2 ?_
    refine C_eqS ?_
    refine E_ixS (fun _ _ => rfl) ?_
    refine E_name (i := 3) hX rfl (.inl rfl) rfl ?_  -- part
    refine ⟨_, .im _ _, ?_⟩
    refine E_int ?_
    refine ⟨_, c, .im _ _, by omega, at_nat (i := 0) rfl, ?_⟩
    refine ⟨_, .im _ _, ?_⟩
    refine E_strL [48] (by decide +kernel) ?_
    refine ⟨_, .im _ _, ?_⟩
    rw [tx_eq]
    refine ⟨fun hc => ?_, fun hc => ⟨fun h => (by cases h), fun _ => ?_⟩⟩
    · have hc0 : c = 48 := by simpa using hc
      refine C_neS ?_
      refine E_name (i := 3) hX rfl (.inl rfl) rfl ?_  -- part
      refine ⟨_, .im _ _, ?_⟩
      refine E_strL [48] (by decide +kernel) ?_
      refine ⟨_, .im _ _, ?_⟩
      rw [tx_eq]
      refine ⟨fun hc => ?_, fun hc => ?_⟩
      · have hne : ¬ (c :: r) = [48] := fun z => by rw [decide_eq_true z] at hc; cases hc
        refine S_one ?_
        refine S1_ret ?_
        refine E_none ?_
        refine fin_no (hk0 (num_bad mq ?_))
        rw [ew]
        cases r with
        | nil => exact absurd (by rw [hc0]) hne
        | cons x t => simp [hc0]
      · refine S_nil ?_
        have he : (c :: r) = [48] := by
          cases h : decide ((c :: r) = [48]) with
          | true => exact of_decide_eq_true h
          | false => rw [h] at hc; cases hc
        exact ⟨more (by rw [he]; rfl), _, _, rfl⟩
    · refine S_nil ?_
      have hc0 : ¬ c = 48 := by simpa using hc
      exact ⟨more (by rw [ew]; simp [hc0]), _, _, rfl⟩
  · obtain ⟨hw, x3, x6, eτ⟩ := hI
    subst eτ
    rw [List.length_map, List.length_map] at hw
    have hw : ∀ q ∈ (prts a).take (prts a).length, isW q = true := hw
    rw [List.take_length] at hw
    exact q42u hX B h1 hl hw (by omega) (fun τ h => fin_no (hk0 h)) (fun τ u l h => fin_no (hk1 u l h))
end T
end
section
set_option Elab.async false
set_option linter.all false
set_option maxRecDepth 100000
set_option maxHeartbeats 4000000
set_option exponentiation.threshold 100000
namespace T
open PySem PySem.Spec PyProof.Rows L2
/-! ### _law_of a text -/
def cOfT (K : PySem.W.Frag) : Ct := fun ks k => ∃ (l : List Nat) (p : Addr) (b : Bag) (n : Nat), ks = [.ow p (cBag K) b, .im rS (tx l)] ∧ Bg n b ∧ n < 2 ^ 30 ∧ 0 < l.length ∧ l.length < 1000 ∧ ∀ a ∈ l, ∀ b', Bg (n + 1) b' → k (.im rS (tx [a])) [.ow p (cBag K) b', .no]
theorem sq37 : FnScope ["bag", "menu"] ["bag", "menu"] (defScope (top 37)) := ⟨rfl, rfl, rfl, by decide +kernel, rfl, by decide +kernel, by decide +kernel⟩
theorem q37 {G : Gm} {f : Addr} {fd : FuncData} (F : Fun G.K "_law_of" "_law_of" (top 37) f fd) (hf : G.mg "_law_of" = some (.ref f)) (b : Binds G.K fd ["bag", "menu"] [])
    (B : Bi G) (h1 : Fn G "_law_draw" 1 (cDraw G.K)) : Fn G "_law_of" 2 (cOfT G.K) := by
  refine Fn.of F hf b sq37 (fun ks k ⟨l, p, b, n, h, _⟩ => by rw [h]; rfl) fun X hX hfn hp ks k ⟨l, p, b, n, hks, hb, hn, hl0, hl1, hk⟩ => ?_
  subst hks
  -- return menu[_law_draw(bag, len(menu))]
  refine S_one ?_
  refine S1_ret ?_
  refine E_ixS (fun _ _ => rfl) ?_
  refine E_name (i := 1) hX rfl (.inl rfl) rfl ?_  -- menu
  refine ⟨_, .im _ _, ?_⟩
  refine E_call hX h1 (by omega) rfl rfl ?_
  refine A_cons rfl ?_
  refine P_name (i := 0) hX rfl (.inl rfl) rfl (by intro z; cases z) ?_  -- bag
  refine A_cons rfl ?_
  refine P_val ?_
  refine E_len hX rfl B.len rfl ?_
  refine P_name (i := 1) hX rfl (.inl rfl) rfl (by intro z; cases z) ?_  -- menu
  refine ⟨_, _, rfl, len_S (by rw [SX.S_len]; omega), ?_⟩
  refine ⟨_, _, _, .im _ _, ?_⟩
  refine A_nil ?_
  rw [SX.S_len]
  refine ⟨[_, _], ⟨rfl, rfl, trivial⟩, trivial, p, b, n, _, rfl, hb, hn, by omega, by omega, fun d b' hd hb' => ?_⟩
  have hdl : d < l.length := by omega
  have e : l[d]? = some l[d] := List.getElem?_eq_getElem hdl
  refine ⟨_, l[d], .im _ _, by omega, at_nat e, ?_⟩
  exact fin_bag (x := .no) (xs := [.im rS (tx l)]) 0 rfl (hk _ (List.getElem_mem hdl) b' hb')
/-! ### _law_figures -/
def cFig (K : PySem.W.Frag) : Ct := fun ks k => ∃ (p : Addr) (b : Bag) (n m : Nat), ks = [.ow p (cBag K) b, .im rI (m : Int)] ∧ Bg n b ∧ n < 2 ^ 29 ∧ 0 < m ∧ m ≤ 9 ∧
  ∀ (i n' : Nat) (b' : Bag), i < 10 ^ m → n' ≤ n + 10 → Bg n' b' → k (.im rI (i : Int)) [.ow p (cBag K) b', .no]
theorem sq47 : FnScope ["bag", "most", "made_v", "k"] ["bag", "most"] (defScope (top 47)) := ⟨rfl, rfl, rfl, by decide +kernel, rfl, by decide +kernel, by decide +kernel⟩
theorem mulX_small {i j : Int} (hi : i.natAbs < 2 ^ 100) (hj : j.natAbs < 2 ^ 100) : CMulX i j := by
  have h1 : Builtin.Int.intBits i ≤ 100 := PyProof.Rows.intBits_le hi
  have h2 : Builtin.Int.intBits j ≤ 100 := PyProof.Rows.intBits_le hj
  show (Builtin.Int.intBits i : Int) + (Builtin.Int.intBits j : Int) ≤ 134217728
  omega
theorem ten_pow {m : Nat} (h : m ≤ 18) : 10 ^ m < 2 ^ 100 := Nat.lt_of_le_of_lt (Nat.pow_le_pow_right (by omega) h) (by decide)
theorem q47 {G : Gm} {f : Addr} {fd : FuncData} (F : Fun G.K "_law_figures" "_law_figures" (top 47) f fd) (hf : G.mg "_law_figures" = some (.ref f)) (b : Binds G.K fd ["bag", "most"] [])
    (B : Bi G) (h1 : Fn G "_law_draw" 1 (cDraw G.K)) : Fn G "_law_figures" 2 (cFig G.K) := by
  refine Fn.of F hf b sq47 (fun ks k ⟨p, b, n, m, h, _⟩ => by rw [h]; rfl) fun X hX hfn hp ks k ⟨p, b, n, m, hks, hb, hn, hm0, hm9, hk⟩ => ?_
  subst hks
  -- made_v = 0
  refine S_cons ?_
  refine S1_set (i := 2) hX rfl rfl ?_  -- made_v
  refine E_int ?_
  -- for k in range(1 + _law_draw(bag, most)):
  refine S_cons ?_
  refine S1_for hX hp ?_
  refine I_rng1 hX rfl B.range rfl ?_
  refine E_add ?_
  refine E_int ?_
  refine ⟨_, .im _ _, ?_⟩
  refine E_call hX h1 (by omega) rfl rfl ?_
  refine A_cons rfl ?_
  refine P_name (i := 0) hX rfl (.inl rfl) rfl (by intro z; cases z) ?_  -- bag
  refine A_cons rfl ?_
  refine P_name (i := 1) hX rfl (.inl rfl) rfl (by intro z; cases z) ?_  -- most
  refine A_nil ?_
  refine ⟨[_, _], ⟨rfl, rfl, trivial⟩, trivial, p, b, n, _, rfl, hb, by omega, by omega, by omega, fun d b1 hd hb1 => ?_⟩
  refine ⟨_, .im _ _, ?_⟩
  refine ⟨_, .im _ _, by omega, by omega, ?_⟩
  refine ⟨fun i τ => ∃ (v : Nat) (b' : Bag) (x3 : Kd), v < 10 ^ i ∧ Bg (n + 1 + i) b' ∧ τ = [.ow p (cBag G.K) b', .im rI (m : Int), .im rI (v : Int), x3], ⟨0, b1, _, by simp, hb1, rfl⟩, fun i y τ hy hI => ?_, fun τ hI => ?_⟩
  · obtain ⟨v, b2, x3, hv, hb2, eτ⟩ := hI
    subst eτ
    obtain ⟨hi1, ey⟩ := rngK0_get hy
    subst ey
    have hv18 : v < 2 ^ 100 := Nat.lt_trans hv (ten_pow (by omega))
    refine T_name (i := 3) hX rfl rfl ?_  -- k
    -- made_v = made_v * 10 + _law_draw(bag, 10)
    refine S_one ?_
    refine S1_set (i := 2) hX rfl rfl ?_  -- made_v
    refine E_add ?_
    refine E_mul ?_
    refine E_name (i := 2) hX rfl (.inl rfl) rfl ?_  -- made_v
    refine ⟨_, .im _ _, ?_⟩
    refine E_int ?_
    refine ⟨_, .im _ _, mulX_small (by rw [Int.natAbs_natCast]; exact hv18) (by decide), ?_⟩
    refine ⟨_, .im _ _, ?_⟩
    refine E_call hX h1 (by omega) rfl rfl ?_
    refine A_cons rfl ?_
    refine P_name (i := 0) hX rfl (.inl rfl) rfl (by intro z; cases z) ?_  -- bag
    refine A_cons rfl ?_
    refine P_val ?_
    refine E_int ?_
    refine ⟨_, _, _, .im _ _, ?_⟩
    refine A_nil ?_
    refine ⟨[_, _], ⟨rfl, rfl, trivial⟩, trivial, p, b2, _, 10, rfl, hb2, by omega, by omega, by omega, fun d2 b3 hd2 hb3 => ?_⟩
    refine ⟨_, .im _ _, ?_⟩
    refine ⟨v * 10 + d2, b3, .im rI (i : Int), by rw [Nat.pow_succ]; omega, hb3, ?_⟩
    have e : (v : Int) * 10 + (d2 : Int) = ((v * 10 + d2 : Nat) : Int) := by omega
    rw [e]; rfl
  · obtain ⟨v, b2, x3, hv, hb2, eτ⟩ := hI
    subst eτ
    rw [rngK_len] at hv hb2
    -- return made_v
    refine S_one ?_
    refine S1_ret ?_
    refine E_name (i := 2) hX rfl (.inl rfl) rfl ?_  -- made_v
    refine fin_bag (x := .no) (xs := [.im rI (m : Int)]) 0 rfl (hk v _ b2 (Nat.lt_of_lt_of_le hv (Nat.pow_le_pow_right (by omega) ?_)) ?_ hb2)
    · omega
    · omega
/-! ### numbers in lowest terms, their size -/
theorem frac_NB {t b : Int} (hb : b ≠ 0) (h1 : t.natAbs < 2 ^ 100) (h2 : b.natAbs < 2 ^ 100) : NB ((t : Rat) / (b : Rat)) := by
  have hg0 : 0 < Nat.gcd t.natAbs b.natAbs := Nat.gcd_pos_of_pos_right _ (by omega)
  constructor
  · rw [← Rat.divInt_eq_div, Rat.num_divInt]
    have hg : ((b.gcd t : Nat) : Int) = ((Nat.gcd t.natAbs b.natAbs : Nat) : Int) := by rw [Int.gcd, Nat.gcd_comm]
    rw [hg]
    have e1 : (b.sign * t).natAbs ≤ t.natAbs := by
      rw [Int.natAbs_mul]
      have : b.sign.natAbs ≤ 1 := by
        rw [Int.natAbs_sign]
        split <;> omega
      calc b.sign.natAbs * t.natAbs ≤ 1 * t.natAbs := Nat.mul_le_mul_right _ this
        _ = t.natAbs := Nat.one_mul _
    have e2 : (b.sign * t / ((Nat.gcd t.natAbs b.natAbs : Nat) : Int)).natAbs ≤ (b.sign * t).natAbs := Int.natAbs_ediv_le_natAbs _ _
    omega
  · rw [← Rat.divInt_eq_div, Rat.den_divInt, if_neg hb]
    exact Nat.lt_of_le_of_lt (Nat.div_le_self _ _) h2
/-! ### _law_string -/
def cStr (K : PySem.W.Frag) : Ct := fun ks k => ∃ (p : Addr) (b : Bag) (n : Nat) (known : List (List Nat)), ks = [.ow p (cBag K) b, .im (rL K rS) (known.map tx)] ∧ Bg n b ∧ n < 2 ^ 28 ∧ 0 < known.length ∧ known.length < 1000 ∧ (∀ a ∈ known, Asc a ∧ a.length ≤ 600) ∧
  ∀ (a : List Nat) (n' : Nat) (b' : Bag), Asc a → a.length ≤ 600 → n' ≤ n + 40 → Bg n' b' → k (.im rS (tx a)) [.ow p (cBag K) b', .no]
abbrev lsN : List Str := ["bag", "known", "way", "src", "k", "bend", "more"]
theorem sq48 : FnScope lsN ["bag", "known"] (defScope (top 48)) := ⟨rfl, rfl, rfl, by decide +kernel, rfl, by decide +kernel, by decide +kernel⟩
def signs1 : List Nat := [48, 49, 50, 51, 52, 53, 54, 55, 56, 57, 47, 45, 43, 32, 97, 46, 10]
def signs2 : List Nat := [48, 47, 45, 49, 32, 43, 50]
theorem join_one : ∀ l : List Nat, TL.joinL [] (l.map fun c => [c]) = l
  | [] => rfl
  | [c] => rfl
  | c :: d :: r => by
    have := join_one (d :: r)
    show [c] ++ ([] ++ TL.joinL [] ((d :: r).map fun c => [c])) = _
    rw [this]; rfl
theorem sum_one : ∀ l : List Nat, ((l.map fun c => tx [c]).map (·.length)).sum = l.length
  | [] => rfl
  | c :: r => by
    rw [List.map_cons, List.map_cons, List.sum_cons, sum_one r, SX.S_len, List.length_cons, List.length_cons]
    simp; omega
theorem q48e {G : Gm} {X : Cx} {P : Po} {a more : List Nat} {p : Addr} {b : Bag} {kk bend : Nat} {x1 x2 : Kd} (hX : XF G X lsN (defScope (top 48)) 4) (B : Bi G) (ha : Asc a) (hm : Asc more) (hl : a.length ≤ 202) (hl2 : more.length ≤ 1)
    (pr : ∀ c, Asc c → c.length ≤ 600 → P.rt (.im rS (tx c)) [.ow p (cBag G.K) b, x1, x2, .im rS (tx a), .im rI (kk : Int), .im rI (bend : Int), .im rS (tx more)]) :
    S X ((defBody (top 48)).drop 6) [.ow p (cBag G.K) b, x1, x2, .im rS (tx a), .im rI (kk : Int), .im rI (bend : Int), .im rS (tx more)] P := by
  -- return src if bend == 0 else src[:k] + more + src[k + int(bend < 3):]
  refine S_one ?_
  refine S1_ret ?_
  refine E_if ?_
  refine C_eqI ?_
  refine E_name (i := 5) hX rfl (.inl rfl) rfl ?_  -- bend
  refine ⟨_, .im _ _, ?_⟩
  refine E_int ?_
  refine ⟨_, .im _ _, ?_⟩
  refine ⟨fun hc => ?_, fun hc => ?_⟩
  · refine E_name (i := 3) hX rfl (.inl rfl) rfl ?_  -- src
    exact pr a ha (by omega)
  · refine E_addS ?_
    refine E_addS ?_
    refine E_slTo ?_
    refine E_name (i := 3) hX rfl (.inl rfl) rfl ?_  -- src
    refine ⟨_, .im _ _, ?_⟩
    refine E_name (i := 4) hX rfl (.inl rfl) rfl ?_  -- k
    refine ⟨_, .im _ _, by rw [SX.S_len]; omega, ?_⟩
    rw [SX.slice_to (by omega)]
    refine ⟨_, .im _ _, ?_⟩
    refine E_name (i := 6) hX rfl (.inl rfl) rfl ?_  -- more
    have l1 : (a.take kk).length ≤ a.length := List.length_take_le' _ _
    refine ⟨_, .im _ _, by rw [SX.S_len, SX.S_len]; simp only [Int.toNat_natCast]; omega, ?_⟩
    rw [tx_cat]
    refine ⟨_, .im _ _, ?_⟩
    refine E_slFrom ?_
    refine E_name (i := 3) hX rfl (.inl rfl) rfl ?_  -- src
    refine ⟨_, .im _ _, ?_⟩
    refine E_add ?_
    refine E_name (i := 4) hX rfl (.inl rfl) rfl ?_  -- k
    refine ⟨_, .im _ _, ?_⟩
    refine E_intB hX rfl B.int rfl ?_
    refine E_lt ?_
    refine E_name (i := 5) hX rfl (.inl rfl) rfl ?_  -- bend
    refine ⟨_, .im _ _, ?_⟩
    refine E_int ?_
    refine ⟨_, .im _ _, ?_⟩
    refine ⟨_, .im _ _, ?_⟩
    refine ⟨_, .im _ _, ?_⟩
    refine ⟨_, .im _ _, by rw [SX.S_len]; omega, ?_⟩
    have hnn : (0 : Int) ≤ (kk : Int) + (if decide ((bend : Int) < 3) = true then 1 else 0) := by split <;> omega
    rw [SX.slice_from hnn]
    generalize ((kk : Int) + (if decide ((bend : Int) < 3) = true then 1 else 0)).toNat = z
    have l2 : (a.drop z).length ≤ a.length := by rw [List.length_drop]; omega
    simp only [Int.toNat_natCast]
    refine ⟨_, .im _ _, by rw [SX.S_len, SX.S_len, List.length_append]; omega, ?_⟩
    rw [tx_cat]
    refine pr _ (fun c hc => ?_) ?_
    · rcases List.mem_append.mp hc with h | h
      · rcases List.mem_append.mp h with h | h
        · exact ha c (List.mem_of_mem_take h)
        · exact hm c h
      · exact ha c (List.mem_of_mem_drop h)
    · rw [List.length_append, List.length_append]; omega
theorem q48 {G : Gm} {f : Addr} {fd : FuncData} (F : Fun G.K "_law_string" "_law_string" (top 48) f fd) (hf : G.mg "_law_string" = some (.ref f)) (b : Binds G.K fd ["bag", "known"] [])
    (B : Bi G) (h1 : Fn G "_law_draw" 1 (cDraw G.K)) (h2 : Fn G "_law_of" 2 (cOf G.K)) (h3 : Fn G "_law_of" 2 (cOfT G.K)) (h4 : Fn G "_law_figures" 2 (cFig G.K)) (h5 : Fn G "_law_frac" 2 (cLowK G.K)) (h6 : Fn G "_law_word" 1 (cNumT G.K)) : Fn G "_law_string" 5 (cStr G.K) := by
  refine Fn.of F hf b sq48 (fun ks k ⟨p, b, n, known, h, _⟩ => by rw [h]; rfl) fun X hX hfn hp ks k ⟨p, b, n, known, hks, hb, hn, hl0, hl1, hkn, hk⟩ => ?_
  subst hks
  -- way = _law_draw(bag, 4)
  refine S_cons ?_
  refine S1_set (i := 2) hX rfl rfl ?_  -- way
  refine E_call hX h1 (by omega) rfl rfl ?_
  refine A_cons rfl ?_
  refine P_name (i := 0) hX rfl (.inr (.inl rfl)) rfl (by intro z; cases z) ?_  -- bag
  refine A_cons rfl ?_
  refine P_val ?_
  refine E_int ?_
  refine ⟨_, _, _, .im _ _, ?_⟩
  refine A_nil ?_
  refine ⟨[_, _], ⟨rfl, rfl, trivial⟩, trivial, p, b, n, 4, rfl, hb, by omega, by omega, by omega, fun way b1 hw hb1 => ?_⟩
  -- if way == 0:
  refine S_cons ?_
  refine S1_if ?_
  refine C_eqI ?_
  refine E_name (i := 2) hX rfl (.inl rfl) rfl ?_  -- way
  refine ⟨_, .im _ _, ?_⟩
  refine E_int ?_
  refine ⟨_, .im _ _, ?_⟩
  refine ⟨fun hc => ?_, fun hc => ?_⟩
  · -- return _law_of(bag, known)
    refine S_one ?_
    refine S1_ret ?_
    refine E_call hX h2 (by omega) rfl rfl ?_
    refine A_cons rfl ?_
    refine P_name (i := 0) hX rfl (.inr (.inl rfl)) rfl (by intro z; cases z) ?_  -- bag
    refine A_cons rfl ?_
    refine P_name (i := 1) hX rfl (.inl rfl) rfl (by intro z; cases z) ?_  -- known
    refine A_nil ?_
    refine ⟨[_, _], ⟨rfl, rfl, trivial⟩, trivial, _, rS, known.map tx, p, b1, n + 1, rfl, hb1, by omega, by rw [List.length_map]; omega, by rw [List.length_map]; omega, fun a ha b2 hb2 => ?_⟩
    obtain ⟨c, hc, e⟩ := List.mem_map.mp ha
    subst e
    obtain ⟨c1, c2⟩ := hkn c hc
    exact fin_bag (x := .no) (xs := [.im (rL G.K rS) (known.map tx)]) 0 rfl (hk c _ b2 c1 c2 (by omega) hb2)
  refine S_nil ?_
  -- if way == 1:
  refine S_cons ?_
  refine S1_if ?_
  refine C_eqI ?_
  refine E_name (i := 2) hX rfl (.inl rfl) rfl ?_  -- way
  refine ⟨_, .im _ _, ?_⟩
  refine E_int ?_
  refine ⟨_, .im _ _, ?_⟩
  refine ⟨fun hc => ?_, fun hc => ?_⟩
  · -- return ''.join([..])
    refine S_one ?_
    refine S1_ret ?_
    refine E_join hX rfl ?_
    refine E_strL [] (by decide +kernel) ?_
    refine ⟨_, .im _ _, ?_⟩
    refine E_lc (own := [("k", 4)]) rS hX rfl ?_
    refine I_rng1 hX rfl B.range rfl ?_
    refine E_call hX h1 (by omega) rfl rfl ?_
    refine A_cons rfl ?_
    refine P_name (i := 0) hX rfl (.inr (.inl rfl)) rfl (by intro z; cases z) ?_  -- bag
    refine A_cons rfl ?_
    refine P_val ?_
    refine E_int ?_
    refine ⟨_, _, _, .im _ _, ?_⟩
    refine A_nil ?_
    refine ⟨[_, _], ⟨rfl, rfl, trivial⟩, trivial, p, b1, n + 1, 7, rfl, hb1, by omega, by omega, by omega, fun m b2 hm hb2 => ?_⟩
    refine ⟨_, .im _ _, by omega, by omega, ?_⟩
    refine ⟨fun i out τ => ∃ (cs : List Nat) (b' : Bag), out = cs.map (fun c => tx [c]) ∧ cs.length = i ∧ Asc cs ∧ Bg (n + 1 + 1 + i) b' ∧ τ = [.ow p (cBag G.K) b', .im (rL G.K rS) (known.map tx), .im rI (way : Int), .no, .no, .no, .no], ⟨[], b2, rfl, rfl, (fun c hc => by cases hc), hb2, rfl⟩, fun i y hy => ?_, fun out τ hJ pl => ?_⟩
    · rintro out τ ⟨cs, b3, ho, hcl, hca, hb3, hτ⟩ X1 hX1 hf1
      subst hτ
      obtain ⟨hi1, ey⟩ := rngK0_get hy
      subst ey
      refine TB_name (i := 4) hX1 rfl rfl (by decide) ?_  -- k
      intro X2 hX2
      refine Cs_nil ?_
      refine ⟨fun _ X3 hX3 => ?_, fun h => by cases h⟩
      refine E_call hX3 h3 (by omega) rfl rfl ?_
      refine A_cons rfl ?_
      refine P_name (i := 0) hX3 rfl (.inr (.inl rfl)) rfl (by intro z; cases z) ?_  -- bag
      refine A_cons rfl ?_
      refine P_val ?_
      refine E_strL signs1 (by decide +kernel) ?_
      refine ⟨_, _, _, .im _ _, ?_⟩
      refine A_nil ?_
      refine ⟨[_, _], ⟨rfl, rfl, trivial⟩, trivial, signs1, p, b3, _, rfl, hb3, by omega, by decide, by decide, fun c hc b4 hb4 => ?_⟩
      refine ⟨_, .im _ _, by rw [ho, List.length_map]; omega, cs ++ [c], b4, by rw [ho, List.map_append]; rfl, by simp [hcl], fun z hz => ?_, hb4, rfl⟩
      rcases List.mem_append.mp hz with h | h
      · exact hca z h
      · rw [List.mem_singleton.mp h]
        exact (by decide : ∀ c ∈ signs1, c < 128) c hc
    · obtain ⟨cs, b3, ho, hcl, hca, hb3, hτ⟩ := hJ
      subst hτ
      rw [rngK_len] at hcl hb3
      subst ho
      have hml : cs.length ≤ 7 := by omega
      refine ⟨_, .ow (frz_L (K := G.K)), by rw [sum_one, List.length_map, SX.S_len, List.length_nil, Nat.mul_zero]; omega, ?_⟩
      have ej : Txt.join (tx []) (cs.map fun c => tx [c]) = tx cs := by
        have := SX.join_S [] (cs.map fun c => [c])
        rw [List.map_map, join_one] at this
        exact this
      rw [ej]
      exact fin_bag (x := .no) (xs := [.im (rL G.K rS) (known.map tx)]) 0 rfl (hk cs _ b3 hca (by omega) (by omega) hb3)
  refine S_nil ?_
  -- src = _law_word(_law_frac(_law_figures(bag, 4) * _law_of(bag, [1, -1]), 1 + _law_figures(bag, 4)))
  refine S_cons ?_
  refine S1_set (i := 3) hX rfl rfl ?_  -- src
  refine E_call hX h6 (by omega) rfl rfl ?_
  refine A_cons rfl ?_
  refine P_val ?_
  refine E_call hX h5 (by omega) rfl rfl ?_
  refine A_cons rfl ?_
  refine P_val ?_
  refine E_mul ?_
  refine E_call hX h4 (by omega) rfl rfl ?_
  refine A_cons rfl ?_
  refine P_name (i := 0) hX rfl (.inr (.inl rfl)) rfl (by intro z; cases z) ?_  -- bag
  refine A_cons rfl ?_
  refine P_val ?_
  refine E_int ?_
  refine ⟨_, _, _, .im _ _, ?_⟩
  refine A_nil ?_
  refine ⟨[_, _], ⟨rfl, rfl, trivial⟩, trivial, p, b1, n + 1, 4, rfl, hb1, by omega, by omega, by omega, fun u n2 b2 hu hn2 hb2 => ?_⟩
  refine ⟨_, .im _ _, ?_⟩
  refine E_call hX h2 (by omega) rfl rfl ?_
  refine A_cons rfl ?_
  refine P_name (i := 0) hX rfl (.inr (.inl rfl)) rfl (by intro z; cases z) ?_  -- bag
  refine A_cons rfl ?_
  refine P_val ?_
  refine E_lst rfl (A := rI) ?_
  refine E_int ?_
  refine ⟨_, .im _ _, ?_⟩
  refine E_neg ?_
  refine E_int ?_
  refine ⟨_, .im _ _, ?_⟩
  refine ⟨_, .im _ _, ?_⟩
  refine ⟨by simp, [1, -1], rfl, fun pl => ?_⟩
  refine ⟨_, _, _, .ow (frz_L (K := G.K)), ?_⟩
  refine A_nil ?_
  refine ⟨[_, _], ⟨rfl, rfl, trivial⟩, trivial, _, rI, [1, -1], p, b2, n2, rfl, hb2, by omega, by decide, by decide, fun sgn hs b3 hb3 => ?_⟩
  have hs1 : sgn.natAbs = 1 := (by decide : ∀ a ∈ ([1, -1] : List Int), a.natAbs = 1) sgn hs
  have hu4 : u < 10000 := hu
  refine ⟨_, .im _ _, mulX_small (by rw [Int.natAbs_natCast]; omega) (by omega), ?_⟩
  refine ⟨_, _, _, .im _ _, ?_⟩
  refine A_cons rfl ?_
  refine P_val ?_
  refine E_add ?_
  refine E_int ?_
  refine ⟨_, .im _ _, ?_⟩
  refine E_call hX h4 (by omega) rfl rfl ?_
  refine A_cons rfl ?_
  refine P_name (i := 0) hX rfl (.inr (.inl rfl)) rfl (by intro z; cases z) ?_  -- bag
  refine A_cons rfl ?_
  refine P_val ?_
  refine E_int ?_
  refine ⟨_, _, _, .im _ _, ?_⟩
  refine A_nil ?_
  refine ⟨[_, _], ⟨rfl, rfl, trivial⟩, trivial, p, b3, n2 + 1, 4, rfl, hb3, by omega, by omega, by omega, fun v n4 b4 hv hn4 hb4 => ?_⟩
  have hv4 : v < 10000 := hv
  have hv0 : (1 : Int) + (v : Int) ≠ 0 := by omega
  refine ⟨_, .im _ _, ?_⟩
  refine ⟨_, _, _, .im _ _, ?_⟩
  refine A_nil ?_
  have bv : ((1 : Int) + (v : Int)).natAbs < 2 ^ 100 := by omega
  have bu : ((u : Int) * sgn).natAbs < 2 ^ 100 := by rw [Int.natAbs_mul, hs1, Int.natAbs_natCast]; omega
  refine ⟨[_, _], ⟨rfl, rfl, trivial⟩, trivial, (u : Int) * sgn, 1 + (v : Int), rfl, hv0, Nat.lt_of_lt_of_le bv (Nat.pow_le_pow_right (by omega) (by omega)), ?_⟩
  refine ⟨_, _, _, .im _ _, ?_⟩
  refine A_nil ?_
  have nb := frac_NB hv0 bu bv
  refine ⟨[_], ⟨rfl, trivial⟩, trivial, _, rfl, nb, ?_⟩
  have asc := word_asc ((((u : Int) * sgn : Int) : Rat) / ((1 + (v : Int) : Int) : Rat))
  have len := word_len nb
  have len0 : 0 < (wordL ((((u : Int) * sgn : Int) : Rat) / ((1 + (v : Int) : Int) : Rat))).length := by
    have h : ∀ i : Int, 0 < (intL i).length := fun i => by
      unfold intL
      have := List.length_pos_iff.mpr (TL.numL_ne i.natAbs)
      split
      · simp
      · exact this
    unfold wordL
    split
    · exact h _
    · rw [List.length_append]; have := h ((((u : Int) * sgn : Int) : Rat) / ((1 + (v : Int) : Int) : Rat)).num; omega
  generalize wordL ((((u : Int) * sgn : Int) : Rat) / ((1 + (v : Int) : Int) : Rat)) = a at asc len len0
  -- k, bend = _law_draw(bag, len(src)), _law_draw(bag, 4)
  refine S_cons ?_
  refine S1_par (i := 4) (j := 5) hX rfl rfl (by decide) rfl rfl rfl ?_ rfl
  refine E_call hX h1 (by omega) rfl rfl ?_
  refine A_cons rfl ?_
  refine P_name (i := 0) hX rfl (.inr (.inl rfl)) rfl (by intro z; cases z) ?_  -- bag
  refine A_cons rfl ?_
  refine P_val ?_
  refine E_len hX rfl B.len rfl ?_
  refine P_name (i := 3) hX rfl (.inl rfl) rfl (by intro z; cases z) ?_  -- src
  refine ⟨_, _, rfl, len_S (by rw [SX.S_len]; omega), ?_⟩
  refine ⟨_, _, _, .im _ _, ?_⟩
  refine A_nil ?_
  rw [SX.S_len]
  refine ⟨[_, _], ⟨rfl, rfl, trivial⟩, trivial, p, b4, n4, _, rfl, hb4, by omega, by omega, by omega, fun kk b5 hkk hb5 => ?_⟩
  refine E_call hX h1 (by omega) rfl rfl ?_
  refine A_cons rfl ?_
  refine P_name (i := 0) hX rfl (.inr (.inl rfl)) rfl (by intro z; cases z) ?_  -- bag
  refine A_cons rfl ?_
  refine P_val ?_
  refine E_int ?_
  refine ⟨_, _, _, .im _ _, ?_⟩
  refine A_nil ?_
  refine ⟨[_, _], ⟨rfl, rfl, trivial⟩, trivial, p, b5, n4 + 1, 4, rfl, hb5, by omega, by omega, by omega, fun bend b6 hbe hb6 => ?_⟩
  refine ⟨_, _, rfl, ?_⟩
  -- more = '' if bend == 1 else _law_of(bag, '0/-1 +2')
  refine S_cons ?_
  refine S1_set (i := 6) hX rfl rfl ?_  -- more
  refine E_if ?_
  refine C_eqI ?_
  refine E_name (i := 5) hX rfl (.inl rfl) rfl ?_  -- bend
  refine ⟨_, .im _ _, ?_⟩
  refine E_int ?_
  refine ⟨_, .im _ _, ?_⟩
  refine ⟨fun hc => ?_, fun hc => ?_⟩
  · refine E_strL [] (by decide +kernel) ?_
    exact q48e hX B asc (fun c hc => by cases hc) len (by simp) fun c c1 c2 => fin_bag (x := .no) (xs := [.im (rL G.K rS) (known.map tx)]) 0 rfl (hk c _ b6 c1 c2 (by omega) hb6)
  · refine E_call hX h3 (by omega) rfl rfl ?_
    refine A_cons rfl ?_
    refine P_name (i := 0) hX rfl (.inr (.inl rfl)) rfl (by intro z; cases z) ?_  -- bag
    refine A_cons rfl ?_
    refine P_val ?_
    refine E_strL signs2 (by decide +kernel) ?_
    refine ⟨_, _, _, .im _ _, ?_⟩
    refine A_nil ?_
    refine ⟨[_, _], ⟨rfl, rfl, trivial⟩, trivial, signs2, p, b6, _, rfl, hb6, by omega, by decide, by decide, fun c hc b7 hb7 => ?_⟩
    exact q48e hX B asc (fun z hz => by rw [List.mem_singleton.mp hz]; exact (by decide : ∀ c ∈ signs2, c < 128) c hc) len (by simp) fun c c1 c2 => fin_bag (x := .no) (xs := [.im (rL G.K rS) (known.map tx)]) 0 rfl (hk c _ b7 c1 c2 (by omega) hb7)
end T
end
section
set_option Elab.async false
set_option linter.all false
set_option maxRecDepth 100000
set_option maxHeartbeats 2000000
namespace T
open PySem PySem.Spec PyProof.Rows L2
/-! ### f(k = e, ..) -/
def semK (X : Cx) (kws : List Keyword) (pos : Pos) : TA := fun σ H Q => ∀ pins s, Inv X pins σ H s → wpAny (model X.prog X.w) X.A (evalAll ((backToKw pos (keywordEach kws X.env)).map (·.2))) (L2.AP X pins σ Q) X.xe s
def AK (X : Cx) (kws : List Keyword) (pos : Pos) (τ : Tau) (k : Ks) : Prop := WA (semK X kws pos) τ k
theorem AK.of {X : Cx} {kws : List Keyword} {pos : Pos} {ta : TA} {τ : Tau} {k : Ks} (h : PK X kws ta) (w : WA ta τ k) : AK X kws pos τ k :=
  fun σ H F R0 R Q ok q pins s I => h.run pos pins s σ H Q I (w σ H F R0 R Q ok q)
universe uu
def gK {α : Type uu} (rev : Bool) (us ws : List α) : List α := us ++ (if rev then ws.reverse else ws)
/-- how a def's keywords bind -/
structure KB (G : Gm) (x : Str) (ks : List Str) (rev : Bool) : Prop where
  ex : ∃ (f : Addr) (fd : FuncData) (oc : Value) (od : Option Addr) (osl : Array (Option Value)), G.mg x = some (.ref f) ∧ G.K.lookup f = some ⟨oc, od, .func fd, osl⟩ ∧ KBinds G.K fd (fd.params.args.map (·.arg)) ks (gK rev) (gK rev)
section
variable {G : Gm} {X : Cx} {N : List Str} {sc : Scope} {n : Nat} {τ τ1 : Tau} {k : KK} {e a b : Expr} {es : List Expr} {pos p kpos : Pos} {nm : Option Str} {kws : List Keyword}
/-- one keyword, two keywords -/
theorem AK_one {k : Ks} (h : T.P X e τ fun p τ1 => k [p] τ1) : AK X [⟨nm, e, kpos⟩] pos τ k :=
  AK.of (pk_cons pe_sem pk_nil) fun σ H F R0 R Q ok q => h σ H F R0 R _ ok fun p τ1 v R1 H1 h1 l1 ok1 a1 => q [p] τ1 [v] R1 H1 h1 l1 ok1 ⟨a1, trivial⟩
theorem AK_two {nm2 : Option Str} {kpos2 : Pos} {k : Ks} (h : T.P X a τ fun p τ1 => T.P X b τ1 fun q τ2 => k [p, q] τ2) : AK X [⟨nm, a, kpos⟩, ⟨nm2, b, kpos2⟩] pos τ k :=
  AK.of (pk_cons pe_sem (pk_cons pe_sem pk_nil)) fun σ H F R0 R Q ok q => h σ H F R0 R _ ok fun p τ1 v R1 H1 h1 l1 ok1 a1 =>
    h1 σ H1 F R0 R1 _ ok1 fun p2 τ2 v2 R2 H2 h2 l2 ok2 a2 => q [p, p2] τ2 [v, v2] R2 H2 h2 (l1.trans l2) ok2 ⟨Pl.up l2 a1, a2, trivial⟩
theorem plAll_append {σ : L2.St} {R H : Hp} : ∀ {vs ws : List V} {ps qs : List Pl}, PlAll σ R H vs ps → PlAll σ R H ws qs → PlAll σ R H (vs ++ ws) (ps ++ qs)
  | [], _, [], _, _, h => h
  | _ :: _, _, _ :: _, _, h, h' => ⟨h.1, plAll_append h.2 h'⟩
theorem plAll_rev {σ : L2.St} {R H : Hp} : ∀ {vs : List V} {ps : List Pl}, PlAll σ R H vs ps → PlAll σ R H vs.reverse ps.reverse
  | [], [], h => h
  | _ :: _, _ :: _, h => by
    rw [List.reverse_cons, List.reverse_cons]
    exact plAll_append (plAll_rev h.2) ⟨h.1, trivial⟩
theorem plAll_gK {σ : L2.St} {R H : Hp} {vs : List V} {ps : List Pl} (rev : Bool) (h : PlAll σ R H vs ps) : PlAll σ R H (gK rev [] vs) (gK rev [] ps) := by
  cases rev with
  | true => exact plAll_rev h
  | false => exact h
/-- f(k = e, ..) -/
theorem E_callK {x : Str} {m : Nat} {C : Ct} {ns : List Str} (rev : Bool) (hX : XF G X N sc n) (f : Fn G x m C) (kb : KB G x ns rev) (hm : m ≤ n) (hg : sc.names.lookup x = some .globalImplicit)
    (h : AK X kws pos τ fun ps τ1 => ∃ ks, KsOf τ1 (gK rev [] ps) ks ∧ OneOw ks ∧ C ks fun r ks' => k r (updArgs τ1 (gK rev [] ps) ks ks')) (hdb : (x == ("__debug__" : Str)) = false := by decide)
    (hall : (backToKw pos (keywordEach kws X.env)).all (·.1.isSome) = true := by rfl) (hns : (backToKw pos (keywordEach kws X.env)).filterMap (·.1) = ns := by rfl)
    (hpl : ((backTo pos (starEach [] X.env)).any (·.1) || (backToKw pos (keywordEach kws X.env)).any (·.1.isNone)) = false := by rfl) : E X (.Call (.Name x p) [] kws pos) τ k := by
  obtain ⟨f, fd, pr, h1, h2, _, h4, ⟨oc, od, osl, lk⟩, hps⟩ := f.ex
  obtain ⟨f', fd', oc', od', osl', h1', lk', hkb⟩ := kb.ex
  rw [h1] at h1'
  cases h1'
  rw [lk] at lk'
  cases lk'
  rw [hps] at hkb
  have h4' : FnOk X.prog X.w X.K X.mg X.base CX0 m f fd pr (spOf C) := by rw [hX.ep, hX.ew, hX.eK, hX.emg, hX.eb]; exact h4
  have hkb' : KBinds X.K fd pr ns (gK rev) (gK rev) := by rw [hX.eK]; exact hkb
  intro σ H F R0 R Q ok q pins s I
  have hw : semK X kws pos σ H fun zs H1 => spOf C (gK rev [] zs) H1 Q E0 := h σ H F R0 R _ ok fun ps τ1 vs R1 H1 ⟨ks, hk, ho, hc⟩ l1 ok1 a1 => by
    have a2 := plAll_gK rev a1
    refine ⟨keepOf H1 ks, R1, R1, ks, _, ok1.enter a2 hk ho, hc, fun r ks' v R2 H2 hr l2 ok2 w2 => ?_⟩
    obtain ⟨ok3, w3⟩ := ok1.leave a2 hk ho l2 ok2
    exact q r _ v R2 H2 hr (l1.trans l2) ok3 (w3 v r w2)
  refine wpAny_Call_Name_kw (ld_glob I (hX.gl hg) (hX.mgN h1) ?_ hdb)
  refine PySem.W.callWith_KW0 (h₀ := X.base) I.ok.mod.kin (by rw [hX.eK]; exact h2) hall (thn (hw pins s I) fun us s1 ⟨zs, H1, I1, rz, hq⟩ => ⟨I1.kIn, ?_⟩) hpl
  rw [hns]
  exact run_fnk (vs := []) (us := []) h4' (hX.room.mono hm) hkb' pass0 I1 .nil rz hq
end
end T
end
section
set_option Elab.async false
set_option linter.all false
set_option maxRecDepth 100000
set_option maxHeartbeats 4000000
namespace T
open PySem PySem.Spec PyProof.Rows L2
/-! ### a def with one default -/
abbrev FunDf (K : PySem.W.Frag) (x : Str) (st : Stmt) (dvs : List V) (f : Addr) (fd : FuncData) : Prop := FunD K x x (defArgs st) (defBody st) (defScope st) dvs [] f fd
theorem FnD.of {G : Gm} {x : Str} {st : Stmt} {f : Addr} {fd : FuncData} {N ps : List Str} {m : Nat} {C : Ct} {dvs : List V} (F : FunDf G.K x st dvs f fd) (hf : G.mg x = some (.ref f)) (b : Binds G.K fd ps []) (S0 : FnScope N ps (defScope st)) (len : ∀ ks k, C ks k → ks.length = ps.length)
    (body : ∀ (X : Cx), XF G X N (defScope st) m → (∀ x, X.fn x = true) → PassesOwn (model X.prog X.w) X.A X.env X.xe → ∀ ks k, C ks k → S X (defBody st) (tau0 N ks) { nx := fun τ => Fin ks k (.im rN ()) τ, rt := Fin ks k }) (hps : (defArgs st).args.map (·.arg) = ps := by rfl) : Fn G x (m + 1) C := by
  have hl : Lk G.K f fd ps := by
    obtain ⟨oc, od, dV, kV, doc, pm, an, cdv, ct, osl, rfl, lk, _⟩ := F.ex
    exact ⟨⟨oc, od, osl, lk⟩, hps⟩
  have hok : FnOk G.P G.w G.K G.mg G.base CX0 (m + 1) f fd ps (spOf C) := by
    obtain ⟨oc, od, dV, kV, doc, pm, an, cdv, ct, osl, rfl, lk, hcd, _, _⟩ := F.ex
    refine fn_of lk hcd S0 (fun vs H Q E h => ?_) fun A outer s H vs Q E hr hsp => ?_
    · obtain ⟨F0, R0, R, ks, k, ok, hC, _⟩ := h
      have := ok.len
      rw [List.length_map] at this
      rw [this, len ks k hC]
    · obtain ⟨F0, R0, R, ks, k, ok, hC, hq⟩ := hsp
      refine ⟨_, pss_sem.nox, ?_⟩
      have hX : XF G (cxOf CX0 G.P G.w G.K G.mg G.base N x (defScope st) f cdv A outer s H E).nox N (defScope st) m := ⟨rfl, rfl, rfl, rfl, rfl, rfl, rfl, rfl, hr, S0.nd⟩
      refine body _ hX (fun _ => rfl) PassesOwn.never ks k hC (L2.start N vs) H F0 R0 R _ (ok.start N) ⟨?_, ?_, fun _ _ _ _ z => z.elim, fun _ _ _ _ z => z.elim⟩
      · rintro τ' σ' R' H' ⟨ks', hk, hl, hs⟩ l ok'
        exact hq _ ks' .non R' H' hk l (ok.finish ok' hl hs) (VOk.im rfl)
      · rintro x τ' v σ' R' H' ⟨ks', hk, hl, hs⟩ l ok' w
        refine hq x ks' v R' H' hk l (ok.finish ok' hl hs) ⟨w.rel, fun p o => ⟨(w.own p o).1, fun i y e oy => ?_⟩⟩
        rcases hs i y e with z | ⟨⟨j, ej⟩, _⟩
        · subst z; exact oy
        · exact (w.own p o).2 j y ej oy
  exact ⟨⟨f, fd, ps, hf, F.kp, b, hok, hl⟩⟩
/-- a def called without its last argument, an int -/
structure FnI (G : Gm) (x : Str) (m : Nat) (i : Int) (C : Ct) : Prop where
  ex : ∃ (f : Addr) (fd : FuncData) (ps : List Str) (ds : List Value), G.mg x = some (.ref f) ∧ PySem.W.keepIn G.K (.ref f) = true ∧ Binds G.K fd ps ds ∧ Vals [.int i] ds ∧ FnOk G.P G.w G.K G.mg G.base CX0 m f fd ps (spOf C)
section
variable {G : Gm} {X : Cx} {N : List Str} {sc : Scope} {n : Nat} {τ τ1 : Tau} {k : KK} {e a b : Expr} {es : List Expr} {pos p : Pos}
theorem ksOf_snoc {τ : Tau} {x : Kd} : ∀ {ps : List Pl} {ks : List Kd}, KsOf τ ps ks → KsOf τ (ps ++ [.val x]) (ks ++ [x])
  | [], [], _ => ⟨rfl, trivial⟩
  | _ :: _, _ :: _, h => ⟨h.1, ksOf_snoc h.2⟩
/-- f(e), the last argument by default -/
theorem E_callI {x : Str} {m : Nat} {i : Int} {C : Ct} (hX : XF G X N sc n) (f : FnI G x m i C) (hm : m ≤ n) (hg : sc.names.lookup x = some .globalImplicit) (hs : noStar (e :: es) = true)
    (h : A X (e :: es) τ fun ps τ1 => ∃ ks, KsOf τ1 ps ks ∧ OneOw (ks ++ [.im rI i]) ∧ C (ks ++ [.im rI i]) fun r ks' => k r (updArgs τ1 (ps ++ [.val (.im rI i)]) (ks ++ [.im rI i]) ks')) (hdb : (x == ("__debug__" : Str)) = false := by decide) (hpl : (backTo pos (starEach es X.env)).any (·.1) = false := by rfl) :
    E X (.Call (.Name x p) (e :: es) [] pos) τ k := by
  obtain ⟨f, fd, pr, ds, h1, h2, h3, hv, h4⟩ := f.ex
  have h4' : FnOk X.prog X.w X.K X.mg X.base CX0 m f fd pr (spOf C) := by rw [hX.ep, hX.ew, hX.eK, hX.emg, hX.eb]; exact h4
  refine E.of (pe_call (E := E0) h4' (hX.room.mono hm) (hX.gl hg) (hX.mgN h1) (by rw [hX.eK]; exact h2) (by rw [hX.eK]; exact h3) hv pass0 pa_sem hdb (star_of hs _ _ (List.suffix_refl _)) hpl) ?_
  intro σ H F R0 R Q ok q
  refine h σ H F R0 R _ ok fun ps τ1 vs R1 H1 ⟨ks, hk, h1, hc⟩ l1 ok1 a1 => ?_
  have a2 : PlAll σ R1 H1 (vs ++ [V.int i]) (ps ++ [.val (.im rI i)]) := plAll_append a1 ⟨⟨rfl, fun _ z => z⟩, trivial⟩
  have hk2 := ksOf_snoc (x := .im rI i) hk
  refine ⟨keepOf H1 (ks ++ [.im rI i]), R1, R1, ks ++ [.im rI i], _, ok1.enter a2 hk2 h1, hc, fun r ks' v R2 H2 hr l2 ok2 w2 => ?_⟩
  obtain ⟨ok3, w3⟩ := ok1.leave a2 hk2 h1 l2 ok2
  exact q r _ v R2 H2 hr (l1.trans l2) ok3 (w3 v r w2)
end
/-! ### ratio -/
theorem sq31 : FnScope ["top", "bottom"] ["top", "bottom"] (defScope (top 31)) := ⟨rfl, rfl, rfl, by decide +kernel, rfl, by decide +kernel, by decide +kernel⟩
theorem ratio_args {K : PySem.W.Frag} {f : Addr} {fd : FuncData} (F : FunDf K "ratio" (top 31) [.int 1] f fd) : Binds K fd ["top", "bottom"] [] ∧ ∃ ds, Vals [.int 1] ds ∧ Binds K fd ["top", "bottom"] ds := by
  constructor
  · obtain ⟨ds, h1, h2⟩ := F.binds1 (ps := ["top", "bottom"]) 2 1 (by simp) rfl fun T kV doc pm an cdv ct us its l1 l2 => by
      match us, its, l1, l2 with
      | [_, _], [_], _, _ => exact ⟨_, rfl, rfl⟩
    cases h1
    exact h2
  · obtain ⟨ds, h1, h2⟩ := F.binds1 (ps := ["top", "bottom"]) 1 0 (by simp) rfl fun T kV doc pm an cdv ct us its l1 l2 => by
      match us, its, l1, l2 with
      | [_], [_], _, _ => exact ⟨_, rfl, rfl⟩
    exact ⟨ds, h1, h2⟩
theorem q31 {G : Gm} {f : Addr} {fd : FuncData} (F : FunDf G.K "ratio" (top 31) [.int 1] f fd) (hf : G.mg "ratio" = some (.ref f)) (h1 : Fn G "lowest" 2 (cLowK G.K)) : Fn G "ratio" 3 (cLowK G.K) := by
  refine FnD.of F hf (ratio_args F).1 sq31 (fun ks k ⟨t, b, h, _⟩ => by rw [h]; rfl) fun X hX hfn hp ks k ⟨t, b, hks, hb0, hb1, hk⟩ => ?_
  subst hks
  -- return lowest(top, bottom)
  refine S_one ?_
  refine S1_ret ?_
  refine E_call hX h1 (by omega) rfl rfl ?_
  refine A_cons rfl ?_
  refine P_name (i := 0) hX rfl (.inl rfl) rfl (by intro z; cases z) ?_  -- top
  refine A_cons rfl ?_
  refine P_name (i := 1) hX rfl (.inl rfl) rfl (by intro z; cases z) ?_  -- bottom
  refine A_nil ?_
  refine ⟨[_, _], ⟨rfl, rfl, trivial⟩, trivial, t, b, rfl, hb0, hb1, ?_⟩
  exact fin_no hk
theorem q31i {G : Gm} {f : Addr} {fd : FuncData} (F : FunDf G.K "ratio" (top 31) [.int 1] f fd) (hf : G.mg "ratio" = some (.ref f)) (h1 : Fn G "ratio" 3 (cLowK G.K)) : FnI G "ratio" 3 1 (cLowK G.K) := by
  obtain ⟨f', fd', ps, e1, e2, e3, e4, ⟨⟨oc, od, osl, lk⟩, hps⟩⟩ := h1.ex
  rw [hf] at e1
  cases e1
  obtain ⟨ds, hv, hb⟩ := (ratio_args F).2
  obtain ⟨oc', od', dV, kV, doc, pm, an, cdv, ct, osl', efd, lk', _⟩ := F.ex
  have efd2 : fd' = fd := by
    rw [lk] at lk'
    have z := congrArg Obj.data (Option.some.inj lk')
    have z2 : Data.func fd' = Data.func fd := z
    exact Data.func.inj z2
  subst efd2
  have eps : ps = (["top", "bottom"] : List Str) := by
    rw [← hps, efd]; rfl
  subst eps
  exact ⟨f, fd', _, ds, hf, e2, hb, hv, e4⟩
/-- ratio's keywords -/
theorem kb_ratio {G : Gm} {f : Addr} {fd : FuncData} (F : FunDf G.K "ratio" (top 31) [.int 1] f fd) (hf : G.mg "ratio" = some (.ref f)) : KB G "ratio" ["bottom", "top"] true := by
  obtain ⟨oc, od, dV, kV, doc, pm, an, cdv, ct, osl, rfl, lk, hcd, hD, hK⟩ := F.ex
  rcases hD with ⟨e, _⟩ | ⟨_, T, o, its, m, rfl, lT, oT, rT⟩
  · cases e
  have l1 : its.length = 1 := rT.length.symm
  refine ⟨f, _, oc, od, osl, hf, lk, ⟨fun s us ws hK hl => ?_, fun {vs us zs ws} r1 r2 => ?_⟩⟩
  · have hp : (defArgs (top 31)).args.map (·.arg) = (["top", "bottom"] : List Str) := rfl
    have hl' : (us ++ ws).length = 2 := by
      have h3 : (us ++ ws.reverse).length = ((defArgs (top 31)).args.map (·.arg)).length := hl
      rw [hp, List.length_append, List.length_reverse] at h3
      rw [List.length_append]
      exact h3
    show BindsTo s _ ⟨us, (["bottom", "top"] : List Str).zip ws⟩ (((defArgs (top 31)).args.map (·.arg)).zip (us ++ ws.reverse))
    rw [hp]
    have go : ∀ (kk : Option (Array Value) → Sem (List (Str × Value))) (r : List (Str × Value)) (args : Args), bindArgs (PySem.W.fnOf "ratio" "ratio" (defArgs (top 31)) (defBody (top 31)) (defScope (top 31)) (.ref T) kV doc pm an cdv ct) args = seqItems? (.ref T) >>= kk → kk (some its.toArray) = pure r →
        BindsTo s (PySem.W.fnOf "ratio" "ratio" (defArgs (top 31)) (defBody (top 31)) (defScope (top 31)) (.ref T) kV doc pm an cdv ct) args r := fun kk r args e1 e2 => BindsTo.of_looks fun M => by
      rw [e1]; exact looks_items hK lT oT (.of_pure e2)
    match us, ws, its, hl', l1 with
    | [u, v], [], [_], _, _ => exact go _ _ _ rfl rfl
    | [u], [v], [_], _, _ => exact go _ _ _ rfl rfl
    | [], [v, u], [_], _, _ => exact go _ _ _ rfl rfl
  · have key : ∀ {vs : List V} {us : List Value}, Vals vs us → Vals vs.reverse us.reverse := by
      intro vs us h
      induction h with
      | nil => exact .nil
      | cons r t ih => rw [List.reverse_cons, List.reverse_cons]; exact ih.append (.cons r .nil)
    exact r1.append (key r2)
end T
end
section
set_option Elab.async false
set_option linter.all false
set_option maxRecDepth 100000
set_option maxHeartbeats 4000000
namespace T
open PySem PySem.Spec PyProof.Rows L2 XE
/-! ### the errors of the package -/
def kinds : List Str := ["BadSum", "BadText", "Unlike", "Untold", "BadCrew", "BadWish", "BadRules", "BadBond", "BadLot", "BadTables", "BadData", "BadProgram", "BadPlant", "BadGoal", "BadScript", "NoSuch", "Ended"]
def bnames : List String := ["ValueError", "LookupError", "KeyError", "IndexError", "RuntimeError", "ArithmeticError"]
def fldOf (x : Str) : Str := if x = "BadSum" ∨ x = "Untold" then "at" else if x = "Unlike" ∨ x = "Ended" then "what" else if x = "NoSuch" then "name" else "line"
/-- whether an error of a kind belongs to a class -/
def kinB (k n : Str) : Bool := decide (k = n) || (decide (n = "ValueError") && !(decide (k = "NoSuch") || decide (k = "Ended"))) || (decide (n = "LookupError") && decide (k = "NoSuch")) || (decide (n = "RuntimeError") && decide (k = "Ended")) ||
  (decide (n = "BadText") && !(decide (k = "NoSuch") || decide (k = "Ended") || decide (k = "BadSum") || decide (k = "Unlike") || decide (k = "Untold")))
def clsOf (G : Gm) (x : Str) : Addr := match G.mg x with
  | some (.ref C) => C
  | _ => 0
structure ErrF (G : Gm) : Prop where
  all : ∀ x ∈ kinds, ErrC G x (fldOf x) (clsOf G x)
  own : ∀ x ∈ kinds, ∀ n ∈ kinds, PySem.W.kitOne G.K (.ref (clsOf G x)) (.ref (clsOf G n)) = some (kinB x n)
  blt : ∀ x ∈ kinds, ∀ n ∈ bnames, PySem.W.kitOne G.K (.ref (clsOf G x)) (.type n) = some (kinB x (n : Str))
  non : ∀ n ∈ bnames, G.mg (n : Str) = none
theorem ErrF.of {G : Gm} (h : ErrF G) {x f : Str} (hx : x ∈ kinds) (hf : fldOf x = f) : ErrC G x f (clsOf G x) := by
  have := h.all x hx
  rwa [hf] at this
theorem ErrF.cls {G : Gm} (h : ErrF G) {x : Str} (hx : x ∈ kinds) : ∃ fI, ECls G.K (clsOf G x) fI (fldOf x) := by
  obtain ⟨fI, _, a, _⟩ := (h.all x hx).ex
  exact ⟨fI, a⟩
section
variable {G : Gm} {X : Cx} {N : List Str} {sc : Scope} {n : Nat} {τ : Tau} {a b : Expr} {pos : Pos}
theorem any_strs {R : Hp} {s : Str} : ∀ {xs : List V} {l : List Str}, Paired (rS.rel R) xs l → xs.all flatV = true ∧ inV (.str s) xs = decide (s ∈ l)
  | [], [], .nil => ⟨rfl, by simp [inV]⟩
  | x :: xs, y :: l, .cons h t => by
    obtain ⟨h1, h2⟩ := any_strs (s := s) t
    have h : x = V.str y := h
    subst h
    refine ⟨by rw [List.all_cons, h1]; rfl, ?_⟩
    unfold inV at h2 ⊢
    rw [List.any_cons, h2, Bool.eq_iff_iff]
    show (y == s || decide (s ∈ l)) = true ↔ _
    simp
    constructor
    · rintro (h | h)
      · exact .inl h.symm
      · exact .inr h
    · rintro (h | h)
      · exact .inl h.symm
      · exact .inr h
theorem C_inT {kt : Bool → Tau → Prop} (hX : XF G X N sc n) (h : E X a τ fun x τ1 => ∃ s, Fz x (.im rS s) ∧ E X b τ1 fun y τ2 => ∃ l, Fz y (.im (rT G.K rS) l) ∧ kt (decide (s ∈ l)) τ2) (hm : behindInMarks .In b = false := by rfl) : C X (.Compare a [.In] [b] pos) τ kt :=
  C_cmp op_in_seq hm (w_op (A := rS) (B := rT G.K rS) (k1 := fun _ _ => True) (h.mono fun x τ1 ⟨i, fz, hb⟩ => ⟨i, fz, hb.mono fun y τ2 ⟨l, fz', hk⟩ => ⟨l, fz', fun σ H F R0 R Q v u ok r1 r2 q => by
    obtain ⟨p, xs, e, hs, hp⟩ := r2
    subst e
    have e1 : v = V.str i := r1
    subst e1
    obtain ⟨f1, f2⟩ := any_strs (s := i) hp
    refine ⟨p, xs, rfl, .inr (by rw [hX.eK]; exact ok.le.sqT hs), rfl, f1, ?_⟩
    rw [if_neg (by simp), f2]
    exact q _ τ2 _ R H ⟨_, .im _ _, hk⟩ (Le.refl R) ok (VOk.im rfl)⟩⟩))
end
/-! ### _law_error -/
def cErr (G : Gm) : Ct := fun ks k => ∃ (kind : Str) (d : PyData) (b : Bool), ks = [.im rS kind, .im (rU G.K) d, .im rB b] ∧ kind ∈ kinds ∧ k (.im (rX G.K) (clsOf G kind, fldOf kind, d)) [.no, .no, .no]
theorem sq43 : FnScope ["kind", "thing", "named"] ["kind", "thing", "named"] (defScope (top 43)) := ⟨rfl, rfl, rfl, by decide +kernel, rfl, by decide +kernel, by decide +kernel⟩
theorem q43 {G : Gm} {f : Addr} {fd : FuncData} (F : Fun G.K "_law_error" "_law_error" (top 43) f fd) (hf : G.mg "_law_error" = some (.ref f)) (b : Binds G.K fd ["kind", "thing", "named"] [])
    (hE : ErrF G) : Fn G "_law_error" 3 (cErr G) := by
  refine Fn.of F hf b sq43 (fun ks k ⟨kind, d, b, h, _⟩ => by rw [h]; rfl) fun X hX hfn hp ks k ⟨kind, d, b, hks, hm, hk⟩ => ?_
  subst hks
  -- if kind == BadSum
  refine S_cons ?_
  refine S1_if ?_
  refine C_eqS ?_
  refine E_name (i := 0) hX rfl (.inl rfl) rfl ?_  -- kind
  refine ⟨_, .im _ _, ?_⟩
  refine E_str ?_
  refine ⟨_, .im _ _, ?_⟩
  refine ⟨fun hc => ?_, fun hc => ?_⟩
  · have e := of_decide_eq_true hc
    subst e
    have hfl : fldOf "BadSum" = "at" := by decide +kernel
    have hx : ErrC G "BadSum" "at" (clsOf G "BadSum") := hE.of (by decide +kernel) hfl
    rw [hfl] at hk
    refine S_one ?_
    refine S1_ret ?_
    refine E_if ?_
    refine C_val ?_
    refine E_name (i := 2) hX rfl (.inl rfl) rfl ?_  -- named
    refine ⟨_, .im _ _, fun hb => ?_, fun hb => ?_⟩
    · refine E_mkK hX hx (by omega) rfl ?_
      refine E_name (i := 1) hX rfl (.inl rfl) rfl ?_  -- thing
      exact ⟨_, .im _ _, fin_no hk⟩
    · refine E_mk hX hx (by omega) rfl rfl ?_
      refine E_name (i := 1) hX rfl (.inl rfl) rfl ?_  -- thing
      exact ⟨_, .im _ _, fin_no hk⟩
  refine S_nil ?_
  have n0 := of_decide_eq_false hc
  -- if kind == BadText
  refine S_cons ?_
  refine S1_if ?_
  refine C_eqS ?_
  refine E_name (i := 0) hX rfl (.inl rfl) rfl ?_  -- kind
  refine ⟨_, .im _ _, ?_⟩
  refine E_str ?_
  refine ⟨_, .im _ _, ?_⟩
  refine ⟨fun hc => ?_, fun hc => ?_⟩
  · have e := of_decide_eq_true hc
    subst e
    have hfl : fldOf "BadText" = "line" := by decide +kernel
    have hx : ErrC G "BadText" "line" (clsOf G "BadText") := hE.of (by decide +kernel) hfl
    rw [hfl] at hk
    refine S_one ?_
    refine S1_ret ?_
    refine E_if ?_
    refine C_val ?_
    refine E_name (i := 2) hX rfl (.inl rfl) rfl ?_  -- named
    refine ⟨_, .im _ _, fun hb => ?_, fun hb => ?_⟩
    · refine E_mkK hX hx (by omega) rfl ?_
      refine E_name (i := 1) hX rfl (.inl rfl) rfl ?_  -- thing
      exact ⟨_, .im _ _, fin_no hk⟩
    · refine E_mk hX hx (by omega) rfl rfl ?_
      refine E_name (i := 1) hX rfl (.inl rfl) rfl ?_  -- thing
      exact ⟨_, .im _ _, fin_no hk⟩
  refine S_nil ?_
  have n1 := of_decide_eq_false hc
  -- if kind == Unlike
  refine S_cons ?_
  refine S1_if ?_
  refine C_eqS ?_
  refine E_name (i := 0) hX rfl (.inl rfl) rfl ?_  -- kind
  refine ⟨_, .im _ _, ?_⟩
  refine E_str ?_
  refine ⟨_, .im _ _, ?_⟩
  refine ⟨fun hc => ?_, fun hc => ?_⟩
  · have e := of_decide_eq_true hc
    subst e
    have hfl : fldOf "Unlike" = "what" := by decide +kernel
    have hx : ErrC G "Unlike" "what" (clsOf G "Unlike") := hE.of (by decide +kernel) hfl
    rw [hfl] at hk
    refine S_one ?_
    refine S1_ret ?_
    refine E_if ?_
    refine C_val ?_
    refine E_name (i := 2) hX rfl (.inl rfl) rfl ?_  -- named
    refine ⟨_, .im _ _, fun hb => ?_, fun hb => ?_⟩
    · refine E_mkK hX hx (by omega) rfl ?_
      refine E_name (i := 1) hX rfl (.inl rfl) rfl ?_  -- thing
      exact ⟨_, .im _ _, fin_no hk⟩
    · refine E_mk hX hx (by omega) rfl rfl ?_
      refine E_name (i := 1) hX rfl (.inl rfl) rfl ?_  -- thing
      exact ⟨_, .im _ _, fin_no hk⟩
  refine S_nil ?_
  have n2 := of_decide_eq_false hc
  -- if kind == Untold
  refine S_cons ?_
  refine S1_if ?_
  refine C_eqS ?_
  refine E_name (i := 0) hX rfl (.inl rfl) rfl ?_  -- kind
  refine ⟨_, .im _ _, ?_⟩
  refine E_str ?_
  refine ⟨_, .im _ _, ?_⟩
  refine ⟨fun hc => ?_, fun hc => ?_⟩
  · have e := of_decide_eq_true hc
    subst e
    have hfl : fldOf "Untold" = "at" := by decide +kernel
    have hx : ErrC G "Untold" "at" (clsOf G "Untold") := hE.of (by decide +kernel) hfl
    rw [hfl] at hk
    refine S_one ?_
    refine S1_ret ?_
    refine E_if ?_
    refine C_val ?_
    refine E_name (i := 2) hX rfl (.inl rfl) rfl ?_  -- named
    refine ⟨_, .im _ _, fun hb => ?_, fun hb => ?_⟩
    · refine E_mkK hX hx (by omega) rfl ?_
      refine E_name (i := 1) hX rfl (.inl rfl) rfl ?_  -- thing
      exact ⟨_, .im _ _, fin_no hk⟩
    · refine E_mk hX hx (by omega) rfl rfl ?_
      refine E_name (i := 1) hX rfl (.inl rfl) rfl ?_  -- thing
      exact ⟨_, .im _ _, fin_no hk⟩
  refine S_nil ?_
  have n3 := of_decide_eq_false hc
  -- if kind == BadCrew
  refine S_cons ?_
  refine S1_if ?_
  refine C_eqS ?_
  refine E_name (i := 0) hX rfl (.inl rfl) rfl ?_  -- kind
  refine ⟨_, .im _ _, ?_⟩
  refine E_str ?_
  refine ⟨_, .im _ _, ?_⟩
  refine ⟨fun hc => ?_, fun hc => ?_⟩
  · have e := of_decide_eq_true hc
    subst e
    have hfl : fldOf "BadCrew" = "line" := by decide +kernel
    have hx : ErrC G "BadCrew" "line" (clsOf G "BadCrew") := hE.of (by decide +kernel) hfl
    rw [hfl] at hk
    refine S_one ?_
    refine S1_ret ?_
    refine E_if ?_
    refine C_val ?_
    refine E_name (i := 2) hX rfl (.inl rfl) rfl ?_  -- named
    refine ⟨_, .im _ _, fun hb => ?_, fun hb => ?_⟩
    · refine E_mkK hX hx (by omega) rfl ?_
      refine E_name (i := 1) hX rfl (.inl rfl) rfl ?_  -- thing
      exact ⟨_, .im _ _, fin_no hk⟩
    · refine E_mk hX hx (by omega) rfl rfl ?_
      refine E_name (i := 1) hX rfl (.inl rfl) rfl ?_  -- thing
      exact ⟨_, .im _ _, fin_no hk⟩
  refine S_nil ?_
  have n4 := of_decide_eq_false hc
  -- if kind == BadWish
  refine S_cons ?_
  refine S1_if ?_
  refine C_eqS ?_
  refine E_name (i := 0) hX rfl (.inl rfl) rfl ?_  -- kind
  refine ⟨_, .im _ _, ?_⟩
  refine E_str ?_
  refine ⟨_, .im _ _, ?_⟩
  refine ⟨fun hc => ?_, fun hc => ?_⟩
  · have e := of_decide_eq_true hc
    subst e
    have hfl : fldOf "BadWish" = "line" := by decide +kernel
    have hx : ErrC G "BadWish" "line" (clsOf G "BadWish") := hE.of (by decide +kernel) hfl
    rw [hfl] at hk
    refine S_one ?_
    refine S1_ret ?_
    refine E_if ?_
    refine C_val ?_
    refine E_name (i := 2) hX rfl (.inl rfl) rfl ?_  -- named
    refine ⟨_, .im _ _, fun hb => ?_, fun hb => ?_⟩
    · refine E_mkK hX hx (by omega) rfl ?_
      refine E_name (i := 1) hX rfl (.inl rfl) rfl ?_  -- thing
      exact ⟨_, .im _ _, fin_no hk⟩
    · refine E_mk hX hx (by omega) rfl rfl ?_
      refine E_name (i := 1) hX rfl (.inl rfl) rfl ?_  -- thing
      exact ⟨_, .im _ _, fin_no hk⟩
  refine S_nil ?_
  have n5 := of_decide_eq_false hc
  -- if kind == BadRules
  refine S_cons ?_
  refine S1_if ?_
  refine C_eqS ?_
  refine E_name (i := 0) hX rfl (.inl rfl) rfl ?_  -- kind
  refine ⟨_, .im _ _, ?_⟩
  refine E_str ?_
  refine ⟨_, .im _ _, ?_⟩
  refine ⟨fun hc => ?_, fun hc => ?_⟩
  · have e := of_decide_eq_true hc
    subst e
    have hfl : fldOf "BadRules" = "line" := by decide +kernel
    have hx : ErrC G "BadRules" "line" (clsOf G "BadRules") := hE.of (by decide +kernel) hfl
    rw [hfl] at hk
    refine S_one ?_
    refine S1_ret ?_
    refine E_if ?_
    refine C_val ?_
    refine E_name (i := 2) hX rfl (.inl rfl) rfl ?_  -- named
    refine ⟨_, .im _ _, fun hb => ?_, fun hb => ?_⟩
    · refine E_mkK hX hx (by omega) rfl ?_
      refine E_name (i := 1) hX rfl (.inl rfl) rfl ?_  -- thing
      exact ⟨_, .im _ _, fin_no hk⟩
    · refine E_mk hX hx (by omega) rfl rfl ?_
      refine E_name (i := 1) hX rfl (.inl rfl) rfl ?_  -- thing
      exact ⟨_, .im _ _, fin_no hk⟩
  refine S_nil ?_
  have n6 := of_decide_eq_false hc
  -- if kind == BadBond
  refine S_cons ?_
  refine S1_if ?_
  refine C_eqS ?_
  refine E_name (i := 0) hX rfl (.inl rfl) rfl ?_  -- kind
  refine ⟨_, .im _ _, ?_⟩
  refine E_str ?_
  refine ⟨_, .im _ _, ?_⟩
  refine ⟨fun hc => ?_, fun hc => ?_⟩
  · have e := of_decide_eq_true hc
    subst e
    have hfl : fldOf "BadBond" = "line" := by decide +kernel
    have hx : ErrC G "BadBond" "line" (clsOf G "BadBond") := hE.of (by decide +kernel) hfl
    rw [hfl] at hk
    refine S_one ?_
    refine S1_ret ?_
    refine E_if ?_
    refine C_val ?_
    refine E_name (i := 2) hX rfl (.inl rfl) rfl ?_  -- named
    refine ⟨_, .im _ _, fun hb => ?_, fun hb => ?_⟩
    · refine E_mkK hX hx (by omega) rfl ?_
      refine E_name (i := 1) hX rfl (.inl rfl) rfl ?_  -- thing
      exact ⟨_, .im _ _, fin_no hk⟩
    · refine E_mk hX hx (by omega) rfl rfl ?_
      refine E_name (i := 1) hX rfl (.inl rfl) rfl ?_  -- thing
      exact ⟨_, .im _ _, fin_no hk⟩
  refine S_nil ?_
  have n7 := of_decide_eq_false hc
  -- if kind == BadLot
  refine S_cons ?_
  refine S1_if ?_
  refine C_eqS ?_
  refine E_name (i := 0) hX rfl (.inl rfl) rfl ?_  -- kind
  refine ⟨_, .im _ _, ?_⟩
  refine E_str ?_
  refine ⟨_, .im _ _, ?_⟩
  refine ⟨fun hc => ?_, fun hc => ?_⟩
  · have e := of_decide_eq_true hc
    subst e
    have hfl : fldOf "BadLot" = "line" := by decide +kernel
    have hx : ErrC G "BadLot" "line" (clsOf G "BadLot") := hE.of (by decide +kernel) hfl
    rw [hfl] at hk
    refine S_one ?_
    refine S1_ret ?_
    refine E_if ?_
    refine C_val ?_
    refine E_name (i := 2) hX rfl (.inl rfl) rfl ?_  -- named
    refine ⟨_, .im _ _, fun hb => ?_, fun hb => ?_⟩
    · refine E_mkK hX hx (by omega) rfl ?_
      refine E_name (i := 1) hX rfl (.inl rfl) rfl ?_  -- thing
      exact ⟨_, .im _ _, fin_no hk⟩
    · refine E_mk hX hx (by omega) rfl rfl ?_
      refine E_name (i := 1) hX rfl (.inl rfl) rfl ?_  -- thing
      exact ⟨_, .im _ _, fin_no hk⟩
  refine S_nil ?_
  have n8 := of_decide_eq_false hc
  -- if kind == BadTables
  refine S_cons ?_
  refine S1_if ?_
  refine C_eqS ?_
  refine E_name (i := 0) hX rfl (.inl rfl) rfl ?_  -- kind
  refine ⟨_, .im _ _, ?_⟩
  refine E_str ?_
  refine ⟨_, .im _ _, ?_⟩
  refine ⟨fun hc => ?_, fun hc => ?_⟩
  · have e := of_decide_eq_true hc
    subst e
    have hfl : fldOf "BadTables" = "line" := by decide +kernel
    have hx : ErrC G "BadTables" "line" (clsOf G "BadTables") := hE.of (by decide +kernel) hfl
    rw [hfl] at hk
    refine S_one ?_
    refine S1_ret ?_
    refine E_if ?_
    refine C_val ?_
    refine E_name (i := 2) hX rfl (.inl rfl) rfl ?_  -- named
    refine ⟨_, .im _ _, fun hb => ?_, fun hb => ?_⟩
    · refine E_mkK hX hx (by omega) rfl ?_
      refine E_name (i := 1) hX rfl (.inl rfl) rfl ?_  -- thing
      exact ⟨_, .im _ _, fin_no hk⟩
    · refine E_mk hX hx (by omega) rfl rfl ?_
      refine E_name (i := 1) hX rfl (.inl rfl) rfl ?_  -- thing
      exact ⟨_, .im _ _, fin_no hk⟩
  refine S_nil ?_
  have n9 := of_decide_eq_false hc
  -- if kind == BadData
  refine S_cons ?_
  refine S1_if ?_
  refine C_eqS ?_
  refine E_name (i := 0) hX rfl (.inl rfl) rfl ?_  -- kind
  refine ⟨_, .im _ _, ?_⟩
  refine E_str ?_
  refine ⟨_, .im _ _, ?_⟩
  refine ⟨fun hc => ?_, fun hc => ?_⟩
  · have e := of_decide_eq_true hc
    subst e
    have hfl : fldOf "BadData" = "line" := by decide +kernel
    have hx : ErrC G "BadData" "line" (clsOf G "BadData") := hE.of (by decide +kernel) hfl
    rw [hfl] at hk
    refine S_one ?_
    refine S1_ret ?_
    refine E_if ?_
    refine C_val ?_
    refine E_name (i := 2) hX rfl (.inl rfl) rfl ?_  -- named
    refine ⟨_, .im _ _, fun hb => ?_, fun hb => ?_⟩
    · refine E_mkK hX hx (by omega) rfl ?_
      refine E_name (i := 1) hX rfl (.inl rfl) rfl ?_  -- thing
      exact ⟨_, .im _ _, fin_no hk⟩
    · refine E_mk hX hx (by omega) rfl rfl ?_
      refine E_name (i := 1) hX rfl (.inl rfl) rfl ?_  -- thing
      exact ⟨_, .im _ _, fin_no hk⟩
  refine S_nil ?_
  have n10 := of_decide_eq_false hc
  -- if kind == BadProgram
  refine S_cons ?_
  refine S1_if ?_
  refine C_eqS ?_
  refine E_name (i := 0) hX rfl (.inl rfl) rfl ?_  -- kind
  refine ⟨_, .im _ _, ?_⟩
  refine E_str ?_
  refine ⟨_, .im _ _, ?_⟩
  refine ⟨fun hc => ?_, fun hc => ?_⟩
  · have e := of_decide_eq_true hc
    subst e
    have hfl : fldOf "BadProgram" = "line" := by decide +kernel
    have hx : ErrC G "BadProgram" "line" (clsOf G "BadProgram") := hE.of (by decide +kernel) hfl
    rw [hfl] at hk
    refine S_one ?_
    refine S1_ret ?_
    refine E_if ?_
    refine C_val ?_
    refine E_name (i := 2) hX rfl (.inl rfl) rfl ?_  -- named
    refine ⟨_, .im _ _, fun hb => ?_, fun hb => ?_⟩
    · refine E_mkK hX hx (by omega) rfl ?_
      refine E_name (i := 1) hX rfl (.inl rfl) rfl ?_  -- thing
      exact ⟨_, .im _ _, fin_no hk⟩
    · refine E_mk hX hx (by omega) rfl rfl ?_
      refine E_name (i := 1) hX rfl (.inl rfl) rfl ?_  -- thing
      exact ⟨_, .im _ _, fin_no hk⟩
  refine S_nil ?_
  have n11 := of_decide_eq_false hc
  -- if kind == BadPlant
  refine S_cons ?_
  refine S1_if ?_
  refine C_eqS ?_
  refine E_name (i := 0) hX rfl (.inl rfl) rfl ?_  -- kind
  refine ⟨_, .im _ _, ?_⟩
  refine E_str ?_
  refine ⟨_, .im _ _, ?_⟩
  refine ⟨fun hc => ?_, fun hc => ?_⟩
  · have e := of_decide_eq_true hc
    subst e
    have hfl : fldOf "BadPlant" = "line" := by decide +kernel
    have hx : ErrC G "BadPlant" "line" (clsOf G "BadPlant") := hE.of (by decide +kernel) hfl
    rw [hfl] at hk
    refine S_one ?_
    refine S1_ret ?_
    refine E_if ?_
    refine C_val ?_
    refine E_name (i := 2) hX rfl (.inl rfl) rfl ?_  -- named
    refine ⟨_, .im _ _, fun hb => ?_, fun hb => ?_⟩
    · refine E_mkK hX hx (by omega) rfl ?_
      refine E_name (i := 1) hX rfl (.inl rfl) rfl ?_  -- thing
      exact ⟨_, .im _ _, fin_no hk⟩
    · refine E_mk hX hx (by omega) rfl rfl ?_
      refine E_name (i := 1) hX rfl (.inl rfl) rfl ?_  -- thing
      exact ⟨_, .im _ _, fin_no hk⟩
  refine S_nil ?_
  have n12 := of_decide_eq_false hc
  -- if kind == BadGoal
  refine S_cons ?_
  refine S1_if ?_
  refine C_eqS ?_
  refine E_name (i := 0) hX rfl (.inl rfl) rfl ?_  -- kind
  refine ⟨_, .im _ _, ?_⟩
  refine E_str ?_
  refine ⟨_, .im _ _, ?_⟩
  refine ⟨fun hc => ?_, fun hc => ?_⟩
  · have e := of_decide_eq_true hc
    subst e
    have hfl : fldOf "BadGoal" = "line" := by decide +kernel
    have hx : ErrC G "BadGoal" "line" (clsOf G "BadGoal") := hE.of (by decide +kernel) hfl
    rw [hfl] at hk
    refine S_one ?_
    refine S1_ret ?_
    refine E_if ?_
    refine C_val ?_
    refine E_name (i := 2) hX rfl (.inl rfl) rfl ?_  -- named
    refine ⟨_, .im _ _, fun hb => ?_, fun hb => ?_⟩
    · refine E_mkK hX hx (by omega) rfl ?_
      refine E_name (i := 1) hX rfl (.inl rfl) rfl ?_  -- thing
      exact ⟨_, .im _ _, fin_no hk⟩
    · refine E_mk hX hx (by omega) rfl rfl ?_
      refine E_name (i := 1) hX rfl (.inl rfl) rfl ?_  -- thing
      exact ⟨_, .im _ _, fin_no hk⟩
  refine S_nil ?_
  have n13 := of_decide_eq_false hc
  -- if kind == BadScript
  refine S_cons ?_
  refine S1_if ?_
  refine C_eqS ?_
  refine E_name (i := 0) hX rfl (.inl rfl) rfl ?_  -- kind
  refine ⟨_, .im _ _, ?_⟩
  refine E_str ?_
  refine ⟨_, .im _ _, ?_⟩
  refine ⟨fun hc => ?_, fun hc => ?_⟩
  · have e := of_decide_eq_true hc
    subst e
    have hfl : fldOf "BadScript" = "line" := by decide +kernel
    have hx : ErrC G "BadScript" "line" (clsOf G "BadScript") := hE.of (by decide +kernel) hfl
    rw [hfl] at hk
    refine S_one ?_
    refine S1_ret ?_
    refine E_if ?_
    refine C_val ?_
    refine E_name (i := 2) hX rfl (.inl rfl) rfl ?_  -- named
    refine ⟨_, .im _ _, fun hb => ?_, fun hb => ?_⟩
    · refine E_mkK hX hx (by omega) rfl ?_
      refine E_name (i := 1) hX rfl (.inl rfl) rfl ?_  -- thing
      exact ⟨_, .im _ _, fin_no hk⟩
    · refine E_mk hX hx (by omega) rfl rfl ?_
      refine E_name (i := 1) hX rfl (.inl rfl) rfl ?_  -- thing
      exact ⟨_, .im _ _, fin_no hk⟩
  refine S_nil ?_
  have n14 := of_decide_eq_false hc
  -- if kind == NoSuch
  refine S_cons ?_
  refine S1_if ?_
  refine C_eqS ?_
  refine E_name (i := 0) hX rfl (.inl rfl) rfl ?_  -- kind
  refine ⟨_, .im _ _, ?_⟩
  refine E_str ?_
  refine ⟨_, .im _ _, ?_⟩
  refine ⟨fun hc => ?_, fun hc => ?_⟩
  · have e := of_decide_eq_true hc
    subst e
    have hfl : fldOf "NoSuch" = "name" := by decide +kernel
    have hx : ErrC G "NoSuch" "name" (clsOf G "NoSuch") := hE.of (by decide +kernel) hfl
    rw [hfl] at hk
    refine S_one ?_
    refine S1_ret ?_
    refine E_if ?_
    refine C_val ?_
    refine E_name (i := 2) hX rfl (.inl rfl) rfl ?_  -- named
    refine ⟨_, .im _ _, fun hb => ?_, fun hb => ?_⟩
    · refine E_mkK hX hx (by omega) rfl ?_
      refine E_name (i := 1) hX rfl (.inl rfl) rfl ?_  -- thing
      exact ⟨_, .im _ _, fin_no hk⟩
    · refine E_mk hX hx (by omega) rfl rfl ?_
      refine E_name (i := 1) hX rfl (.inl rfl) rfl ?_  -- thing
      exact ⟨_, .im _ _, fin_no hk⟩
  refine S_nil ?_
  have n15 := of_decide_eq_false hc
  have m0 := hm
  have m1 := (List.mem_cons.mp m0).resolve_left n0
  have m2 := (List.mem_cons.mp m1).resolve_left n1
  have m3 := (List.mem_cons.mp m2).resolve_left n2
  have m4 := (List.mem_cons.mp m3).resolve_left n3
  have m5 := (List.mem_cons.mp m4).resolve_left n4
  have m6 := (List.mem_cons.mp m5).resolve_left n5
  have m7 := (List.mem_cons.mp m6).resolve_left n6
  have m8 := (List.mem_cons.mp m7).resolve_left n7
  have m9 := (List.mem_cons.mp m8).resolve_left n8
  have m10 := (List.mem_cons.mp m9).resolve_left n9
  have m11 := (List.mem_cons.mp m10).resolve_left n10
  have m12 := (List.mem_cons.mp m11).resolve_left n11
  have m13 := (List.mem_cons.mp m12).resolve_left n12
  have m14 := (List.mem_cons.mp m13).resolve_left n13
  have m15 := (List.mem_cons.mp m14).resolve_left n14
  have m16 := (List.mem_cons.mp m15).resolve_left n15
  have e := List.mem_singleton.mp m16
  subst e
  have hfl : fldOf "Ended" = "what" := by decide +kernel
  have hx : ErrC G "Ended" "what" (clsOf G "Ended") := hE.of (by decide +kernel) hfl
  rw [hfl] at hk
  refine S_one ?_
  refine S1_ret ?_
  refine E_if ?_
  refine C_val ?_
  refine E_name (i := 2) hX rfl (.inl rfl) rfl ?_  -- named
  refine ⟨_, .im _ _, fun hb => ?_, fun hb => ?_⟩
  · refine E_mkK hX hx (by omega) rfl ?_
    refine E_name (i := 1) hX rfl (.inl rfl) rfl ?_  -- thing
    exact ⟨_, .im _ _, fin_no hk⟩
  · refine E_mk hX hx (by omega) rfl rfl ?_
    refine E_name (i := 1) hX rfl (.inl rfl) rfl ?_  -- thing
    exact ⟨_, .im _ _, fin_no hk⟩
/-! ### _law_field -/
def cFld (G : Gm) : Ct := fun ks k => ∃ (kind : Str) (d : PyData), ks = [.im (rX G.K) (clsOf G kind, fldOf kind, d), .im rS kind] ∧ kind ∈ kinds ∧ k (.im (rU G.K) d) [.no, .no]
theorem sq44 : FnScope ["e", "kind"] ["e", "kind"] (defScope (top 44)) := ⟨rfl, rfl, rfl, by decide +kernel, rfl, by decide +kernel, by decide +kernel⟩
theorem q44 {G : Gm} {f : Addr} {fd : FuncData} (F : Fun G.K "_law_field" "_law_field" (top 44) f fd) (hf : G.mg "_law_field" = some (.ref f)) (b : Binds G.K fd ["e", "kind"] [])
    (hE : ErrF G) : Fn G "_law_field" 1 (cFld G) := by
  refine Fn.of F hf b sq44 (fun ks k ⟨kind, d, h, _⟩ => by rw [h]; rfl) fun X hX hfn hp ks k ⟨kind, d, hks, hm, hk⟩ => ?_
  subst hks
  obtain ⟨fI, hT⟩ := hE.cls hm
  -- if kind in (BadSum, Untold)
  refine S_cons ?_
  refine S1_if ?_
  refine C_inT hX ?_
  refine E_name (i := 1) hX rfl (.inl rfl) rfl ?_  -- kind
  refine ⟨_, .im _ _, ?_⟩
  refine E_tup hX rfl (by decide) ?_
  refine E_str ?_
  refine ⟨_, .im _ _, ?_⟩
  refine E_str ?_
  refine ⟨_, .im _ _, ?_⟩
  refine ⟨by simp, _, rT G.K rS, ["BadSum", "Untold"], tup_T (l := (["BadSum", "Untold"] : List Str)), ?_⟩
  refine ⟨_, .im _ _, ?_⟩
  refine ⟨fun hc => ?_, fun hc => ?_⟩
  · have hq : kind = "BadSum" ∨ kind = "Untold" := by simpa using of_decide_eq_true hc
    have hfl : fldOf kind = "at" := by rcases hq with e | e <;> (subst e; decide +kernel)
    rw [hfl] at hT
    refine S_one ?_
    refine S1_ret ?_
    refine E_fld hX ?_
    refine E_name (i := 0) hX rfl (.inl rfl) rfl ?_  -- e
    rw [hfl]
    exact ⟨_, fI, d, .im _ _, hT, fin_no hk⟩
  refine S_nil ?_
  have nat : ¬ (kind = "BadSum" ∨ kind = "Untold") := by simpa using of_decide_eq_false hc
  -- if kind in (Unlike, Ended)
  refine S_cons ?_
  refine S1_if ?_
  refine C_inT hX ?_
  refine E_name (i := 1) hX rfl (.inl rfl) rfl ?_  -- kind
  refine ⟨_, .im _ _, ?_⟩
  refine E_tup hX rfl (by decide) ?_
  refine E_str ?_
  refine ⟨_, .im _ _, ?_⟩
  refine E_str ?_
  refine ⟨_, .im _ _, ?_⟩
  refine ⟨by simp, _, rT G.K rS, ["Unlike", "Ended"], tup_T (l := (["Unlike", "Ended"] : List Str)), ?_⟩
  refine ⟨_, .im _ _, ?_⟩
  refine ⟨fun hc => ?_, fun hc => ?_⟩
  · have hq : kind = "Unlike" ∨ kind = "Ended" := by simpa using of_decide_eq_true hc
    have hfl : fldOf kind = "what" := by rcases hq with e | e <;> (subst e; decide +kernel)
    rw [hfl] at hT
    refine S_one ?_
    refine S1_ret ?_
    refine E_fld hX ?_
    refine E_name (i := 0) hX rfl (.inl rfl) rfl ?_  -- e
    rw [hfl]
    exact ⟨_, fI, d, .im _ _, hT, fin_no hk⟩
  refine S_nil ?_
  have nwhat : ¬ (kind = "Unlike" ∨ kind = "Ended") := by simpa using of_decide_eq_false hc
  -- return e.name if kind == 'NoSuch' else e.line
  refine S_one ?_
  refine S1_ret ?_
  refine E_if ?_
  refine C_eqS ?_
  refine E_name (i := 1) hX rfl (.inl rfl) rfl ?_  -- kind
  refine ⟨_, .im _ _, ?_⟩
  refine E_str ?_
  refine ⟨_, .im _ _, ?_⟩
  refine ⟨fun hc => ?_, fun hc => ?_⟩
  · have hfl : fldOf kind = "name" := by rw [of_decide_eq_true hc]; decide +kernel
    rw [hfl] at hT
    refine E_fld hX ?_
    refine E_name (i := 0) hX rfl (.inl rfl) rfl ?_  -- e
    rw [hfl]
    exact ⟨_, fI, d, .im _ _, hT, fin_no hk⟩
  · have hfl : fldOf kind = "line" := by
      unfold fldOf
      rw [if_neg nat, if_neg nwhat, if_neg (of_decide_eq_false hc)]
    rw [hfl] at hT
    refine E_fld hX ?_
    refine E_name (i := 0) hX rfl (.inl rfl) rfl ?_  -- e
    rw [hfl]
    exact ⟨_, fI, d, .im _ _, hT, fin_no hk⟩
/-! ### _law_kin -/
def kinNames : List Str := ["BadSum", "BadText", "Unlike", "Untold", "BadCrew", "BadWish", "BadRules", "BadBond", "BadLot", "BadTables", "BadData", "BadProgram", "BadPlant", "BadGoal", "BadScript", "NoSuch", "Ended", "ValueError", "LookupError", "KeyError", "IndexError", "RuntimeError", "ArithmeticError"]
def kinL (kind : Str) : List (Str × Bool) := kinNames.map fun n => (n, kinB kind n)
def kinS (kind : Str) : List Str := ((kinL kind).filter (·.2)).map (·.1)
def cKin (G : Gm) : Ct := fun ks k => ∃ (kind : Str) (d : PyData), ks = [.im (rX G.K) (clsOf G kind, fldOf kind, d)] ∧ kind ∈ kinds ∧ ∀ (ys : List Str) p, ys.Perm (kinS kind) → sortedS ys = true → k (.ow p (cL rS) ys) [.no]
abbrev knN : List Str := ["e", "made_v", "word", "yes"]
theorem sq45 : FnScope knN ["e"] (defScope (top 45)) := ⟨rfl, rfl, rfl, by decide +kernel, rfl, by decide +kernel, by decide +kernel⟩
theorem q45t {G : Gm} {X : Cx} {P : Po} {q : Addr × Str × PyData} {p : Addr} {l : List (Str × Bool)} (hX : XF G X knN (defScope (top 45)) 1) (B : Bi G) (hl : l.length < 64)
    (pr : ∀ (ys : List Str) p, ys.Perm ((l.filter (·.2)).map (·.1)) → sortedS ys = true → ∀ τ, P.rt (.ow p (cL rS) ys) τ) :
    S X ((defBody (top 45)).drop 10) [.im (rX G.K) q, .ow p (cL (rPair G.K rS rB)) l, .no, .no] P := by
  refine S_one ?_
  refine S1_ret ?_
  refine E_sortedS hX rfl B.sorted rfl ?_
  refine E_lc (own := [("word", 2), ("yes", 3)]) rS hX rfl ?_
  refine I_list hX ?_
  refine E_frz (i := 1) hX rfl (.inl rfl) rfl (frz_L (K := G.K)) ?_  -- made_v
  refine ⟨_, _, _, .im _ _, ?_⟩
  refine ⟨fun i out τ => out = ((l.take i).filter (·.2)).map (·.1) ∧ τ = [.im (rX G.K) q, .im (rL G.K (rPair G.K rS rB)) l, .no, .no], ⟨rfl, rfl⟩, fun i y hy => ?_, fun out τ hJ pl => ?_⟩
  · rintro out τ ⟨ho, hτ⟩ X1 hX1 hf1
    subst hτ
    rw [List.getElem?_map] at hy
    cases hc : l[i]? with
    | none => rw [hc] at hy; cases hy
    | some c =>
    rw [hc] at hy
    have hy : Kd.im (rPair G.K rS rB) c = y := Option.some.inj hy
    subst hy
    have etake : l.take (i + 1) = l.take i ++ [c] := by rw [List.take_succ, hc]; rfl
    have lo : out.length ≤ l.length := by
      rw [ho, List.length_map]
      exact Nat.le_trans (List.length_filter_le _ _) (List.length_take_le' _ _)
    refine TB_tup hX1 rfl un_pair ?_
    refine TB_name (i := 2) hX1 rfl rfl (by decide) ?_  -- word
    refine TB_name (i := 3) hX1 rfl rfl (by decide) ?_  -- yes
    intro X2 hX2
    refine Cs_one ?_
    refine C_val ?_
    refine E_name (i := 3) hX2 rfl (.inl rfl) rfl ?_  -- yes
    refine ⟨_, .im _ _, fun hb X3 hX3 => ?_, fun hb => ?_⟩
    · refine E_name (i := 2) hX3 rfl (.inl rfl) rfl ?_  -- word
      refine ⟨_, .im _ _, by omega, ?_, rfl⟩
      rw [etake, List.filter_append, List.map_append, ho]
      have : [c].filter (·.2) = [c] := by simp; exact hb
      rw [this]; rfl
    · refine ⟨?_, rfl⟩
      rw [etake, List.filter_append, List.map_append, ho]
      have : [c].filter (·.2) = [] := by simp; exact hb
      rw [this]; simp
  · obtain ⟨ho, hτ⟩ := hJ
    subst hτ
    rw [List.length_map, List.take_length] at ho
    subst ho
    refine ⟨_, .ow (frz_L (K := G.K)), ?_, fun ys p hp hs => pr ys p hp hs _⟩
    rw [List.length_map]
    exact Nat.lt_of_le_of_lt (List.length_filter_le _ _) hl
theorem q45 {G : Gm} {f : Addr} {fd : FuncData} (F : Fun G.K "_law_kin" "_law_kin" (top 45) f fd) (hf : G.mg "_law_kin" = some (.ref f)) (b : Binds G.K fd ["e"] [])
    (B : Bi G) (hE : ErrF G) : Fn G "_law_kin" 2 (cKin G) := by
  refine Fn.of F hf b sq45 (fun ks k ⟨kind, d, h, _⟩ => by rw [h]; rfl) fun X hX hfn hp ks k ⟨kind, d, hks, hm, hk⟩ => ?_
  subst hks
  obtain ⟨fI, hT⟩ := hE.cls hm
  have own : ∀ {n : Str}, n ∈ kinds → PySem.W.kitOne G.K (.ref (clsOf G kind)) (.ref (clsOf G n)) = some (kinB kind n) := fun h => hE.own kind hm _ h
  have blt : ∀ {n : String}, n ∈ bnames → PySem.W.kitOne G.K (.ref (clsOf G kind)) (.type n) = some (kinB kind (n : Str)) := fun h => hE.blt kind hm _ h
  refine S_cons ?_
  refine S1_set (i := 1) hX rfl rfl ?_  -- made_v
  refine E_lst rfl (A := rPair G.K rS rB) ?_
  refine E_tup hX rfl (by decide) ?_
  refine E_str ?_
  refine ⟨_, .im _ _, ?_⟩
  refine E_isXo (D := clsOf G "BadSum") hX rfl B.isi rfl (hE.all "BadSum" (by decide +kernel)).gC rfl ?_
  refine E_name (i := 0) hX rfl (.inl rfl) rfl ?_  -- e
  refine ⟨_, fI, _, d, _, .im _ _, hT, own (by decide +kernel), ?_⟩
  refine ⟨_, .im _ _, ?_⟩
  refine ⟨by simp, _, rPair G.K rS rB, ("BadSum", kinB kind "BadSum"), tup_pair, ?_⟩
  refine ⟨_, .im _ _, ?_⟩
  refine E_tup hX rfl (by decide) ?_
  refine E_str ?_
  refine ⟨_, .im _ _, ?_⟩
  refine E_isXo (D := clsOf G "BadText") hX rfl B.isi rfl (hE.all "BadText" (by decide +kernel)).gC rfl ?_
  refine E_name (i := 0) hX rfl (.inl rfl) rfl ?_  -- e
  refine ⟨_, fI, _, d, _, .im _ _, hT, own (by decide +kernel), ?_⟩
  refine ⟨_, .im _ _, ?_⟩
  refine ⟨by simp, _, rPair G.K rS rB, ("BadText", kinB kind "BadText"), tup_pair, ?_⟩
  refine ⟨_, .im _ _, ?_⟩
  refine E_tup hX rfl (by decide) ?_
  refine E_str ?_
  refine ⟨_, .im _ _, ?_⟩
  refine E_isXo (D := clsOf G "Unlike") hX rfl B.isi rfl (hE.all "Unlike" (by decide +kernel)).gC rfl ?_
  refine E_name (i := 0) hX rfl (.inl rfl) rfl ?_  -- e
  refine ⟨_, fI, _, d, _, .im _ _, hT, own (by decide +kernel), ?_⟩
  refine ⟨_, .im _ _, ?_⟩
  refine ⟨by simp, _, rPair G.K rS rB, ("Unlike", kinB kind "Unlike"), tup_pair, ?_⟩
  refine ⟨_, .im _ _, ?_⟩
  refine ⟨by simp, [("BadSum", kinB kind "BadSum"), ("BadText", kinB kind "BadText"), ("Unlike", kinB kind "Unlike")], rfl, fun p0 => ?_⟩
  refine S_cons ?_
  refine S1_expr ?_
  refine E_extend (j := 1) (A := rPair G.K rS rB) (q := p0) hX rfl (.inl rfl) rfl rfl ?_
  refine E_lst rfl (A := rPair G.K rS rB) ?_
  refine E_tup hX rfl (by decide) ?_
  refine E_str ?_
  refine ⟨_, .im _ _, ?_⟩
  refine E_isXo (D := clsOf G "Untold") hX rfl B.isi rfl (hE.all "Untold" (by decide +kernel)).gC rfl ?_
  refine E_name (i := 0) hX rfl (.inl rfl) rfl ?_  -- e
  refine ⟨_, fI, _, d, _, .im _ _, hT, own (by decide +kernel), ?_⟩
  refine ⟨_, .im _ _, ?_⟩
  refine ⟨by simp, _, rPair G.K rS rB, ("Untold", kinB kind "Untold"), tup_pair, ?_⟩
  refine ⟨_, .im _ _, ?_⟩
  refine E_tup hX rfl (by decide) ?_
  refine E_str ?_
  refine ⟨_, .im _ _, ?_⟩
  refine E_isXo (D := clsOf G "BadCrew") hX rfl B.isi rfl (hE.all "BadCrew" (by decide +kernel)).gC rfl ?_
  refine E_name (i := 0) hX rfl (.inl rfl) rfl ?_  -- e
  refine ⟨_, fI, _, d, _, .im _ _, hT, own (by decide +kernel), ?_⟩
  refine ⟨_, .im _ _, ?_⟩
  refine ⟨by simp, _, rPair G.K rS rB, ("BadCrew", kinB kind "BadCrew"), tup_pair, ?_⟩
  refine ⟨_, .im _ _, ?_⟩
  refine E_tup hX rfl (by decide) ?_
  refine E_str ?_
  refine ⟨_, .im _ _, ?_⟩
  refine E_isXo (D := clsOf G "BadWish") hX rfl B.isi rfl (hE.all "BadWish" (by decide +kernel)).gC rfl ?_
  refine E_name (i := 0) hX rfl (.inl rfl) rfl ?_  -- e
  refine ⟨_, fI, _, d, _, .im _ _, hT, own (by decide +kernel), ?_⟩
  refine ⟨_, .im _ _, ?_⟩
  refine ⟨by simp, _, rPair G.K rS rB, ("BadWish", kinB kind "BadWish"), tup_pair, ?_⟩
  refine ⟨_, .im _ _, ?_⟩
  refine ⟨by simp, [("Untold", kinB kind "Untold"), ("BadCrew", kinB kind "BadCrew"), ("BadWish", kinB kind "BadWish")], rfl, fun p1 => ?_⟩
  refine ⟨_, _, _, rfl, rfl, by simp, ?_⟩
  refine S_cons ?_
  refine S1_expr ?_
  refine E_extend (j := 1) (A := rPair G.K rS rB) (q := p0) hX rfl (.inl rfl) rfl rfl ?_
  refine E_lst rfl (A := rPair G.K rS rB) ?_
  refine E_tup hX rfl (by decide) ?_
  refine E_str ?_
  refine ⟨_, .im _ _, ?_⟩
  refine E_isXo (D := clsOf G "BadRules") hX rfl B.isi rfl (hE.all "BadRules" (by decide +kernel)).gC rfl ?_
  refine E_name (i := 0) hX rfl (.inl rfl) rfl ?_  -- e
  refine ⟨_, fI, _, d, _, .im _ _, hT, own (by decide +kernel), ?_⟩
  refine ⟨_, .im _ _, ?_⟩
  refine ⟨by simp, _, rPair G.K rS rB, ("BadRules", kinB kind "BadRules"), tup_pair, ?_⟩
  refine ⟨_, .im _ _, ?_⟩
  refine E_tup hX rfl (by decide) ?_
  refine E_str ?_
  refine ⟨_, .im _ _, ?_⟩
  refine E_isXo (D := clsOf G "BadBond") hX rfl B.isi rfl (hE.all "BadBond" (by decide +kernel)).gC rfl ?_
  refine E_name (i := 0) hX rfl (.inl rfl) rfl ?_  -- e
  refine ⟨_, fI, _, d, _, .im _ _, hT, own (by decide +kernel), ?_⟩
  refine ⟨_, .im _ _, ?_⟩
  refine ⟨by simp, _, rPair G.K rS rB, ("BadBond", kinB kind "BadBond"), tup_pair, ?_⟩
  refine ⟨_, .im _ _, ?_⟩
  refine E_tup hX rfl (by decide) ?_
  refine E_str ?_
  refine ⟨_, .im _ _, ?_⟩
  refine E_isXo (D := clsOf G "BadLot") hX rfl B.isi rfl (hE.all "BadLot" (by decide +kernel)).gC rfl ?_
  refine E_name (i := 0) hX rfl (.inl rfl) rfl ?_  -- e
  refine ⟨_, fI, _, d, _, .im _ _, hT, own (by decide +kernel), ?_⟩
  refine ⟨_, .im _ _, ?_⟩
  refine ⟨by simp, _, rPair G.K rS rB, ("BadLot", kinB kind "BadLot"), tup_pair, ?_⟩
  refine ⟨_, .im _ _, ?_⟩
  refine ⟨by simp, [("BadRules", kinB kind "BadRules"), ("BadBond", kinB kind "BadBond"), ("BadLot", kinB kind "BadLot")], rfl, fun p2 => ?_⟩
  refine ⟨_, _, _, rfl, rfl, by simp, ?_⟩
  refine S_cons ?_
  refine S1_expr ?_
  refine E_extend (j := 1) (A := rPair G.K rS rB) (q := p0) hX rfl (.inl rfl) rfl rfl ?_
  refine E_lst rfl (A := rPair G.K rS rB) ?_
  refine E_tup hX rfl (by decide) ?_
  refine E_str ?_
  refine ⟨_, .im _ _, ?_⟩
  refine E_isXo (D := clsOf G "BadTables") hX rfl B.isi rfl (hE.all "BadTables" (by decide +kernel)).gC rfl ?_
  refine E_name (i := 0) hX rfl (.inl rfl) rfl ?_  -- e
  refine ⟨_, fI, _, d, _, .im _ _, hT, own (by decide +kernel), ?_⟩
  refine ⟨_, .im _ _, ?_⟩
  refine ⟨by simp, _, rPair G.K rS rB, ("BadTables", kinB kind "BadTables"), tup_pair, ?_⟩
  refine ⟨_, .im _ _, ?_⟩
  refine E_tup hX rfl (by decide) ?_
  refine E_str ?_
  refine ⟨_, .im _ _, ?_⟩
  refine E_isXo (D := clsOf G "BadData") hX rfl B.isi rfl (hE.all "BadData" (by decide +kernel)).gC rfl ?_
  refine E_name (i := 0) hX rfl (.inl rfl) rfl ?_  -- e
  refine ⟨_, fI, _, d, _, .im _ _, hT, own (by decide +kernel), ?_⟩
  refine ⟨_, .im _ _, ?_⟩
  refine ⟨by simp, _, rPair G.K rS rB, ("BadData", kinB kind "BadData"), tup_pair, ?_⟩
  refine ⟨_, .im _ _, ?_⟩
  refine ⟨by simp, [("BadTables", kinB kind "BadTables"), ("BadData", kinB kind "BadData")], rfl, fun p3 => ?_⟩
  refine ⟨_, _, _, rfl, rfl, by simp, ?_⟩
  refine S_cons ?_
  refine S1_expr ?_
  refine E_extend (j := 1) (A := rPair G.K rS rB) (q := p0) hX rfl (.inl rfl) rfl rfl ?_
  refine E_lst rfl (A := rPair G.K rS rB) ?_
  refine E_tup hX rfl (by decide) ?_
  refine E_str ?_
  refine ⟨_, .im _ _, ?_⟩
  refine E_isXo (D := clsOf G "BadProgram") hX rfl B.isi rfl (hE.all "BadProgram" (by decide +kernel)).gC rfl ?_
  refine E_name (i := 0) hX rfl (.inl rfl) rfl ?_  -- e
  refine ⟨_, fI, _, d, _, .im _ _, hT, own (by decide +kernel), ?_⟩
  refine ⟨_, .im _ _, ?_⟩
  refine ⟨by simp, _, rPair G.K rS rB, ("BadProgram", kinB kind "BadProgram"), tup_pair, ?_⟩
  refine ⟨_, .im _ _, ?_⟩
  refine E_tup hX rfl (by decide) ?_
  refine E_str ?_
  refine ⟨_, .im _ _, ?_⟩
  refine E_isXo (D := clsOf G "BadPlant") hX rfl B.isi rfl (hE.all "BadPlant" (by decide +kernel)).gC rfl ?_
  refine E_name (i := 0) hX rfl (.inl rfl) rfl ?_  -- e
  refine ⟨_, fI, _, d, _, .im _ _, hT, own (by decide +kernel), ?_⟩
  refine ⟨_, .im _ _, ?_⟩
  refine ⟨by simp, _, rPair G.K rS rB, ("BadPlant", kinB kind "BadPlant"), tup_pair, ?_⟩
  refine ⟨_, .im _ _, ?_⟩
  refine ⟨by simp, [("BadProgram", kinB kind "BadProgram"), ("BadPlant", kinB kind "BadPlant")], rfl, fun p4 => ?_⟩
  refine ⟨_, _, _, rfl, rfl, by simp, ?_⟩
  refine S_cons ?_
  refine S1_expr ?_
  refine E_extend (j := 1) (A := rPair G.K rS rB) (q := p0) hX rfl (.inl rfl) rfl rfl ?_
  refine E_lst rfl (A := rPair G.K rS rB) ?_
  refine E_tup hX rfl (by decide) ?_
  refine E_str ?_
  refine ⟨_, .im _ _, ?_⟩
  refine E_isXo (D := clsOf G "BadGoal") hX rfl B.isi rfl (hE.all "BadGoal" (by decide +kernel)).gC rfl ?_
  refine E_name (i := 0) hX rfl (.inl rfl) rfl ?_  -- e
  refine ⟨_, fI, _, d, _, .im _ _, hT, own (by decide +kernel), ?_⟩
  refine ⟨_, .im _ _, ?_⟩
  refine ⟨by simp, _, rPair G.K rS rB, ("BadGoal", kinB kind "BadGoal"), tup_pair, ?_⟩
  refine ⟨_, .im _ _, ?_⟩
  refine E_tup hX rfl (by decide) ?_
  refine E_str ?_
  refine ⟨_, .im _ _, ?_⟩
  refine E_isXo (D := clsOf G "BadScript") hX rfl B.isi rfl (hE.all "BadScript" (by decide +kernel)).gC rfl ?_
  refine E_name (i := 0) hX rfl (.inl rfl) rfl ?_  -- e
  refine ⟨_, fI, _, d, _, .im _ _, hT, own (by decide +kernel), ?_⟩
  refine ⟨_, .im _ _, ?_⟩
  refine ⟨by simp, _, rPair G.K rS rB, ("BadScript", kinB kind "BadScript"), tup_pair, ?_⟩
  refine ⟨_, .im _ _, ?_⟩
  refine ⟨by simp, [("BadGoal", kinB kind "BadGoal"), ("BadScript", kinB kind "BadScript")], rfl, fun p5 => ?_⟩
  refine ⟨_, _, _, rfl, rfl, by simp, ?_⟩
  refine S_cons ?_
  refine S1_expr ?_
  refine E_extend (j := 1) (A := rPair G.K rS rB) (q := p0) hX rfl (.inl rfl) rfl rfl ?_
  refine E_lst rfl (A := rPair G.K rS rB) ?_
  refine E_tup hX rfl (by decide) ?_
  refine E_str ?_
  refine ⟨_, .im _ _, ?_⟩
  refine E_isXo (D := clsOf G "NoSuch") hX rfl B.isi rfl (hE.all "NoSuch" (by decide +kernel)).gC rfl ?_
  refine E_name (i := 0) hX rfl (.inl rfl) rfl ?_  -- e
  refine ⟨_, fI, _, d, _, .im _ _, hT, own (by decide +kernel), ?_⟩
  refine ⟨_, .im _ _, ?_⟩
  refine ⟨by simp, _, rPair G.K rS rB, ("NoSuch", kinB kind "NoSuch"), tup_pair, ?_⟩
  refine ⟨_, .im _ _, ?_⟩
  refine E_tup hX rfl (by decide) ?_
  refine E_str ?_
  refine ⟨_, .im _ _, ?_⟩
  refine E_isXo (D := clsOf G "Ended") hX rfl B.isi rfl (hE.all "Ended" (by decide +kernel)).gC rfl ?_
  refine E_name (i := 0) hX rfl (.inl rfl) rfl ?_  -- e
  refine ⟨_, fI, _, d, _, .im _ _, hT, own (by decide +kernel), ?_⟩
  refine ⟨_, .im _ _, ?_⟩
  refine ⟨by simp, _, rPair G.K rS rB, ("Ended", kinB kind "Ended"), tup_pair, ?_⟩
  refine ⟨_, .im _ _, ?_⟩
  refine ⟨by simp, [("NoSuch", kinB kind "NoSuch"), ("Ended", kinB kind "Ended")], rfl, fun p6 => ?_⟩
  refine ⟨_, _, _, rfl, rfl, by simp, ?_⟩
  refine S_cons ?_
  refine S1_expr ?_
  refine E_extend (j := 1) (A := rPair G.K rS rB) (q := p0) hX rfl (.inl rfl) rfl rfl ?_
  refine E_lst rfl (A := rPair G.K rS rB) ?_
  refine E_tup hX rfl (by decide) ?_
  refine E_str ?_
  refine ⟨_, .im _ _, ?_⟩
  refine E_isXb (Tn := "ValueError") hX rfl B.isi rfl (hE.non "ValueError" (by decide)) (by decide +kernel) rfl ?_
  refine E_name (i := 0) hX rfl (.inl rfl) rfl ?_  -- e
  refine ⟨_, fI, _, d, _, .im _ _, hT, blt (by decide), ?_⟩
  refine ⟨_, .im _ _, ?_⟩
  refine ⟨by simp, _, rPair G.K rS rB, ("ValueError", kinB kind "ValueError"), tup_pair, ?_⟩
  refine ⟨_, .im _ _, ?_⟩
  refine E_tup hX rfl (by decide) ?_
  refine E_str ?_
  refine ⟨_, .im _ _, ?_⟩
  refine E_isXb (Tn := "LookupError") hX rfl B.isi rfl (hE.non "LookupError" (by decide)) (by decide +kernel) rfl ?_
  refine E_name (i := 0) hX rfl (.inl rfl) rfl ?_  -- e
  refine ⟨_, fI, _, d, _, .im _ _, hT, blt (by decide), ?_⟩
  refine ⟨_, .im _ _, ?_⟩
  refine ⟨by simp, _, rPair G.K rS rB, ("LookupError", kinB kind "LookupError"), tup_pair, ?_⟩
  refine ⟨_, .im _ _, ?_⟩
  refine ⟨by simp, [("ValueError", kinB kind "ValueError"), ("LookupError", kinB kind "LookupError")], rfl, fun p7 => ?_⟩
  refine ⟨_, _, _, rfl, rfl, by simp, ?_⟩
  refine S_cons ?_
  refine S1_expr ?_
  refine E_extend (j := 1) (A := rPair G.K rS rB) (q := p0) hX rfl (.inl rfl) rfl rfl ?_
  refine E_lst rfl (A := rPair G.K rS rB) ?_
  refine E_tup hX rfl (by decide) ?_
  refine E_str ?_
  refine ⟨_, .im _ _, ?_⟩
  refine E_isXb (Tn := "KeyError") hX rfl B.isi rfl (hE.non "KeyError" (by decide)) (by decide +kernel) rfl ?_
  refine E_name (i := 0) hX rfl (.inl rfl) rfl ?_  -- e
  refine ⟨_, fI, _, d, _, .im _ _, hT, blt (by decide), ?_⟩
  refine ⟨_, .im _ _, ?_⟩
  refine ⟨by simp, _, rPair G.K rS rB, ("KeyError", kinB kind "KeyError"), tup_pair, ?_⟩
  refine ⟨_, .im _ _, ?_⟩
  refine E_tup hX rfl (by decide) ?_
  refine E_str ?_
  refine ⟨_, .im _ _, ?_⟩
  refine E_isXb (Tn := "IndexError") hX rfl B.isi rfl (hE.non "IndexError" (by decide)) (by decide +kernel) rfl ?_
  refine E_name (i := 0) hX rfl (.inl rfl) rfl ?_  -- e
  refine ⟨_, fI, _, d, _, .im _ _, hT, blt (by decide), ?_⟩
  refine ⟨_, .im _ _, ?_⟩
  refine ⟨by simp, _, rPair G.K rS rB, ("IndexError", kinB kind "IndexError"), tup_pair, ?_⟩
  refine ⟨_, .im _ _, ?_⟩
  refine ⟨by simp, [("KeyError", kinB kind "KeyError"), ("IndexError", kinB kind "IndexError")], rfl, fun p8 => ?_⟩
  refine ⟨_, _, _, rfl, rfl, by simp, ?_⟩
  refine S_cons ?_
  refine S1_expr ?_
  refine E_extend (j := 1) (A := rPair G.K rS rB) (q := p0) hX rfl (.inl rfl) rfl rfl ?_
  refine E_lst rfl (A := rPair G.K rS rB) ?_
  refine E_tup hX rfl (by decide) ?_
  refine E_str ?_
  refine ⟨_, .im _ _, ?_⟩
  refine E_isXb (Tn := "RuntimeError") hX rfl B.isi rfl (hE.non "RuntimeError" (by decide)) (by decide +kernel) rfl ?_
  refine E_name (i := 0) hX rfl (.inl rfl) rfl ?_  -- e
  refine ⟨_, fI, _, d, _, .im _ _, hT, blt (by decide), ?_⟩
  refine ⟨_, .im _ _, ?_⟩
  refine ⟨by simp, _, rPair G.K rS rB, ("RuntimeError", kinB kind "RuntimeError"), tup_pair, ?_⟩
  refine ⟨_, .im _ _, ?_⟩
  refine E_tup hX rfl (by decide) ?_
  refine E_str ?_
  refine ⟨_, .im _ _, ?_⟩
  refine E_isXb (Tn := "ArithmeticError") hX rfl B.isi rfl (hE.non "ArithmeticError" (by decide)) (by decide +kernel) rfl ?_
  refine E_name (i := 0) hX rfl (.inl rfl) rfl ?_  -- e
  refine ⟨_, fI, _, d, _, .im _ _, hT, blt (by decide), ?_⟩
  refine ⟨_, .im _ _, ?_⟩
  refine ⟨by simp, _, rPair G.K rS rB, ("ArithmeticError", kinB kind "ArithmeticError"), tup_pair, ?_⟩
  refine ⟨_, .im _ _, ?_⟩
  refine ⟨by simp, [("RuntimeError", kinB kind "RuntimeError"), ("ArithmeticError", kinB kind "ArithmeticError")], rfl, fun p9 => ?_⟩
  refine ⟨_, _, _, rfl, rfl, by simp, ?_⟩
  refine q45t (l := kinL kind) hX B (by unfold kinL; rw [List.length_map]; decide) fun ys p h1 h2 τ => ?_
  exact fin_no (hk ys p h1 h2)
/-! ### _law_due_kin -/
def dueS (kind : Str) : List Str := if kind = "NoSuch" then ["LookupError", "NoSuch"] else if kind = "Ended" then ["Ended", "RuntimeError"] else if kind ∈ (["BadSum", "BadText", "Unlike", "Untold"] : List Str) then [kind, "ValueError"] else [kind, "BadText", "ValueError"]
def cDue : Ct := fun ks k => ∃ kind : Str, ks = [.im rS kind] ∧ ∀ (ys : List Str) p, ys.Perm (dueS kind) → sortedS ys = true → k (.ow p (cL rS) ys) [.no]
theorem sq46 : FnScope ["kind"] ["kind"] (defScope (top 46)) := ⟨rfl, rfl, rfl, by decide +kernel, rfl, by decide +kernel, by decide +kernel⟩
theorem q46 {G : Gm} {f : Addr} {fd : FuncData} (F : Fun G.K "_law_due_kin" "_law_due_kin" (top 46) f fd) (hf : G.mg "_law_due_kin" = some (.ref f)) (b : Binds G.K fd ["kind"] [])
    (B : Bi G) : Fn G "_law_due_kin" 1 cDue := by
  refine Fn.of F hf b sq46 (fun ks k ⟨kind, h, _⟩ => by rw [h]; rfl) fun X hX hfn hp ks k ⟨kind, hks, hk⟩ => ?_
  subst hks
  unfold dueS at hk
  -- if kind == "NoSuch"
  refine S_cons ?_
  refine S1_if ?_
  refine C_eqS ?_
  refine E_name (i := 0) hX rfl (.inl rfl) rfl ?_  -- kind
  refine ⟨_, .im _ _, ?_⟩
  refine E_str ?_
  refine ⟨_, .im _ _, ?_⟩
  refine ⟨fun hc => ?_, fun hc => ?_⟩
  · rw [if_pos (of_decide_eq_true hc)] at hk
    refine S_one ?_
    refine S1_ret ?_
    refine E_lst rfl (A := rS) ?_
    refine E_str ?_
    refine ⟨_, .im _ _, ?_⟩
    refine E_str ?_
    refine ⟨_, .im _ _, ?_⟩
    refine ⟨by simp, ["LookupError", "NoSuch"], rfl, fun p => ?_⟩
    exact fin_no (hk ["LookupError", "NoSuch"] p (List.Perm.refl _) (by decide +kernel))
  refine S_nil ?_
  rw [if_neg (of_decide_eq_false hc)] at hk
  -- if kind == "Ended"
  refine S_cons ?_
  refine S1_if ?_
  refine C_eqS ?_
  refine E_name (i := 0) hX rfl (.inl rfl) rfl ?_  -- kind
  refine ⟨_, .im _ _, ?_⟩
  refine E_str ?_
  refine ⟨_, .im _ _, ?_⟩
  refine ⟨fun hc => ?_, fun hc => ?_⟩
  · rw [if_pos (of_decide_eq_true hc)] at hk
    refine S_one ?_
    refine S1_ret ?_
    refine E_lst rfl (A := rS) ?_
    refine E_str ?_
    refine ⟨_, .im _ _, ?_⟩
    refine E_str ?_
    refine ⟨_, .im _ _, ?_⟩
    refine ⟨by simp, ["Ended", "RuntimeError"], rfl, fun p => ?_⟩
    exact fin_no (hk ["Ended", "RuntimeError"] p (List.Perm.refl _) (by decide +kernel))
  refine S_nil ?_
  rw [if_neg (of_decide_eq_false hc)] at hk
  -- if kind in (..)
  refine S_cons ?_
  refine S1_if ?_
  refine C_inT hX ?_
  refine E_name (i := 0) hX rfl (.inl rfl) rfl ?_  -- kind
  refine ⟨_, .im _ _, ?_⟩
  refine E_tup hX rfl (by decide) ?_
  refine E_str ?_
  refine ⟨_, .im _ _, ?_⟩
  refine E_str ?_
  refine ⟨_, .im _ _, ?_⟩
  refine E_str ?_
  refine ⟨_, .im _ _, ?_⟩
  refine E_str ?_
  refine ⟨_, .im _ _, ?_⟩
  refine ⟨by simp, _, rT G.K rS, ["BadSum", "BadText", "Unlike", "Untold"], tup_T (l := (["BadSum", "BadText", "Unlike", "Untold"] : List Str)), ?_⟩
  refine ⟨_, .im _ _, ?_⟩
  refine ⟨fun hc => ?_, fun hc => ?_⟩
  · rw [if_pos (of_decide_eq_true hc)] at hk
    refine S_one ?_
    refine S1_ret ?_
    refine E_sortedS hX rfl B.sorted rfl ?_
    refine E_lst rfl (A := rS) ?_
    refine E_name (i := 0) hX rfl (.inl rfl) rfl ?_  -- kind
    refine ⟨_, .im _ _, ?_⟩
    refine E_str ?_
    refine ⟨_, .im _ _, ?_⟩
    refine ⟨by simp, [kind, "ValueError"], rfl, fun p => ?_⟩
    exact ⟨_, .ow (frz_L (K := G.K)), by simp, fun ys p h1 h2 => fin_no (hk ys p h1 h2)⟩
  refine S_nil ?_
  rw [if_neg (of_decide_eq_false hc)] at hk
  refine S_one ?_
  refine S1_ret ?_
  refine E_sortedS hX rfl B.sorted rfl ?_
  refine E_lst rfl (A := rS) ?_
  refine E_name (i := 0) hX rfl (.inl rfl) rfl ?_  -- kind
  refine ⟨_, .im _ _, ?_⟩
  refine E_str ?_
  refine ⟨_, .im _ _, ?_⟩
  refine E_str ?_
  refine ⟨_, .im _ _, ?_⟩
  refine ⟨by simp, [kind, "BadText", "ValueError"], rfl, fun p => ?_⟩
  exact ⟨_, .ow (frz_L (K := G.K)), by simp, fun ys p h1 h2 => fin_no (hk ys p h1 h2)⟩
end T
end
section
set_option Elab.async false
set_option linter.all false
set_option maxRecDepth 100000
set_option maxHeartbeats 4000000
set_option exponentiation.threshold 100000
namespace T
open PySem PySem.Spec PyProof.Rows L2 XE
/-! ### two sorted lists of the same texts -/
theorem str_ext {x y : Str} (h : x.cps.toList = y.cps.toList) : x = y := by
  cases x; cases y
  congr 1
  exact Array.toList_inj.mp h
abbrev leS (a b : Str) : Prop := a.cps.toList ≤ b.cps.toList
theorem rising_pw : ∀ (l : List Str) (p : Str), risingS p l = true → (p :: l).Pairwise leS
  | [], p, _ => List.pairwise_singleton _ _
  | x :: r, p, h => by
    have h : (!ltCps x.cps.toList p.cps.toList && risingS x r) = true := h
    rw [Bool.and_eq_true] at h
    have ih := rising_pw r x h.2
    have h1 : leS p x := by
      have := h.1
      rw [ltCps_eq] at this
      exact List.not_lt.mp (by simpa using this)
    refine List.pairwise_cons.mpr ⟨fun y hy => ?_, ih⟩
    rcases List.mem_cons.mp hy with e | hy
    · rw [e]; exact h1
    · exact List.le_trans h1 ((List.pairwise_cons.mp ih).1 y hy)
theorem sorted_pw {l : List Str} (h : sortedS l = true) : l.Pairwise leS := by
  cases l with
  | nil => exact .nil
  | cons x r => exact rising_pw r x h
theorem pw_uniq : ∀ {l m : List Str}, l.Pairwise leS → m.Pairwise leS → l.Perm m → l = m
  | [], m, _, _, h => (List.nil_perm.mp h).symm
  | x :: l, [], _, _, h => absurd (List.perm_nil.mp h) (by simp)
  | x :: l, y :: m, h1, h2, h => by
    have e : x = y := by
      have a : x ∈ y :: m := h.mem_iff.mp List.mem_cons_self
      have b : y ∈ x :: l := h.mem_iff.mpr List.mem_cons_self
      rcases List.mem_cons.mp a with e | a
      · exact e
      rcases List.mem_cons.mp b with e | b
      · exact e.symm
      exact str_ext (List.le_antisymm ((List.pairwise_cons.mp h1).1 y b) ((List.pairwise_cons.mp h2).1 x a))
    subst e
    rw [pw_uniq (List.pairwise_cons.mp h1).2 (List.pairwise_cons.mp h2).2 h.cons_inv]
theorem sorted_uniq {l m : List Str} (h1 : sortedS l = true) (h2 : sortedS m = true) (h : l.Perm m) : l = m := pw_uniq (sorted_pw h1) (sorted_pw h2) h
theorem kin_due : ∀ kind ∈ kinds, ((kinS kind).isPerm (dueS kind)) = true := by decide +kernel
theorem kin_ok : ∀ n ∈ kinNames, PyData.strOk n = true := by decide +kernel
theorem kin_sub {kind n : Str} (h : n ∈ kinS kind) : n ∈ kinNames := by
  obtain ⟨p, hp, e⟩ := List.mem_map.mp h
  obtain ⟨n', hn, e'⟩ := List.mem_map.mp (List.mem_filter.mp hp).1
  rw [← e, ← e']; exact hn
/-! ### what the law calls -/
structure LF (G : Gm) : Prop where
  B : Bi G
  E : ErrF G
  bag : Fn G "_law_bag" 1 (cBagNew G.K)
  draw : Fn G "_law_draw" 1 (cDraw G.K)
  of : Fn G "_law_of" 2 (cOf G.K)
  like : Fn G "_law_like" 4 (cLike 3 G.K)
  fig : Fn G "_law_figures" 2 (cFig G.K)
  frac : Fn G "_law_frac" 2 (cLowK G.K)
  word : Fn G "_law_word" 1 (cNumT G.K)
  num : Fn G "_law_number" 2 (cRead G.K)
  str : Fn G "_law_string" 5 (cStr G.K)
  err : Fn G "_law_error" 3 (cErr G)
  fld : Fn G "_law_field" 1 (cFld G)
  kin : Fn G "_law_kin" 2 (cKin G)
  due : Fn G "_law_due_kin" 1 cDue
  ratio : Fn G "ratio" 3 (cLowK G.K)
  ratioI : FnI G "ratio" 3 1 (cLowK G.K)
  kratio : KB G "ratio" ["bottom", "top"] true
  rtext : Fn G "ratio_text" 4 (cRatT G.K)
  krtext : KB G "ratio_text" ["number"] false
  read : Fn G "read_ratio" 3 (cRead G.K)
  kread : KB G "read_ratio" ["text"] false
/-! ### the law's first part: the errors -/
def stL (i : Nat) : Stmt := (defBody (top 49)).getD i (.Pass ⟨0, 0, 0, 0⟩)
def forB : Stmt → List Stmt
  | .For _ _ b _ _ => b
  | _ => []
abbrev lwN : List Str := ["script", "bag", "kinds", "things", "kind", "thing", "e", "turn", "up", "low", "many", "great", "due", "told", "known", "src"]
abbrev lwS : Scope := defScope (top 49)
theorem sq49 : FnScope lwN ["script"] lwS := ⟨rfl, rfl, rfl, by decide +kernel, rfl, by decide +kernel, by decide +kernel⟩
def thingsL : List PyData := [.int 0, .int 7, .int (-3), .int (10 ^ 12), .str "letters", .str "", .none, .tuple [.int 1, .int 2], .bool true, .tuple [.str "a", .none], .str "line 3"]
theorem things_SD : ∀ d ∈ thingsL, SD 3 d := by
  intro d h
  unfold thingsL at h
  simp only [List.mem_cons, List.not_mem_nil, or_false] at h
  rcases h with h | h | h | h | h | h | h | h | h | h | h <;> subst h <;> simp [SD]
section
variable {G : Gm} {X : Cx} {P : Po} {ns : List Int} {pb : Addr} {b : Bag} {n : Nat} {K : PySem.W.Frag}
theorem fzI {i : Int} : Fz (.im rI i) (.im (rU K) (.int i)) := .cv fun R v h => fz_U deep_I h
theorem fzB {i : Bool} : Fz (.im rB i) (.im (rU K) (.bool i)) := .cv fun R v h => fz_U deep_B h
theorem fzS {i : Str} : Fz (.im rS i) (.im (rU K) (.str i)) := .cv fun R v h => fz_U deep_S h
theorem fzN : Fz (.im rN ()) (.im (rU K) .none) := .cv fun R v h => fz_U deep_N h
theorem fzQ {q : Rat} : Fz (.im (rQ K) q) (.im (rU K) (.tuple [.int q.num, .int q.den])) := .cv fun R v h => fz_U deep_Q h
theorem fzII {i j : Int} : Fz (.im (rPair K rI rI) (i, j)) (.im (rU K) (.tuple [.int i, .int j])) := .cv fun R v h => fz_U (deep_P deep_I deep_I) h
theorem fzSN {i : Str} : Fz (.im (rPair K rS rN) (i, ())) (.im (rU K) (.tuple [.str i, .none])) := .cv fun R v h => fz_U (deep_P deep_S deep_N) h
theorem tE (Fs : LF G) (hX : XF G X lwN lwS 5) {kind : Str} (hm : kind ∈ kinds) {x2 x5 x6 x7 x8 x9 x10 x11 x12 x13 x14 x15 : Kd} (hb : Bg n b) (hn : n < 2 ^ 28)
    (nx : ∀ b' y5 y6, Bg (n + 2) b' → P.nx [.im (rSc G.K) ns, .ow pb (cBag G.K) b', x2, .im (rL G.K (rU G.K)) thingsL, .im rS kind, y5, y6, x7, x8, x9, x10, x11, x12, x13, x14, x15]) :
    S X (forB (stL 3)) [.im (rSc G.K) ns, .ow pb (cBag G.K) b, x2, .im (rL G.K (rU G.K)) thingsL, .im rS kind, x5, x6, x7, x8, x9, x10, x11, x12, x13, x14, x15] P := by
  -- thing = _law_of(bag, things)
  refine S_cons ?_
  refine S1_set (i := 5) hX rfl rfl ?_  -- thing
  refine E_call hX Fs.of (by omega) rfl rfl ?_
  refine A_cons rfl ?_
  refine P_name (i := 1) hX rfl (.inl rfl) rfl (by intro z; cases z) ?_  -- bag
  refine A_cons rfl ?_
  refine P_name (i := 3) hX rfl (.inl rfl) rfl (by intro z; cases z) ?_  -- things
  refine A_nil ?_
  refine ⟨[_, _], ⟨rfl, rfl, trivial⟩, trivial, _, rU G.K, thingsL, pb, b, n, rfl, hb, by omega, by decide, by decide, fun d hd b1 hb1 => ?_⟩
  have hsd := things_SD d hd
  -- e = _law_error(kind, thing, _law_draw(bag, 2) == 0)
  refine S_cons ?_
  refine S1_set (i := 6) hX rfl rfl ?_  -- e
  refine E_call hX Fs.err (by omega) rfl rfl ?_
  refine A_cons rfl ?_
  refine P_name (i := 4) hX rfl (.inl rfl) rfl (by intro z; cases z) ?_  -- kind
  refine A_cons rfl ?_
  refine P_name (i := 5) hX rfl (.inl rfl) rfl (by intro z; cases z) ?_  -- thing
  refine A_cons rfl ?_
  refine P_val ?_
  refine E_eqI ?_
  refine E_call hX Fs.draw (by omega) rfl rfl ?_
  refine A_cons rfl ?_
  refine P_name (i := 1) hX rfl (.inl rfl) rfl (by intro z; cases z) ?_  -- bag
  refine A_cons rfl ?_
  refine P_val ?_
  refine E_int ?_
  refine ⟨_, _, _, .im _ _, ?_⟩
  refine A_nil ?_
  refine ⟨[_, _], ⟨rfl, rfl, trivial⟩, trivial, pb, b1, n + 1, 2, rfl, hb1, by omega, by omega, by omega, fun dr b2 hdr hb2 => ?_⟩
  refine ⟨_, .im _ _, ?_⟩
  refine E_int ?_
  refine ⟨_, .im _ _, ?_⟩
  refine ⟨_, _, _, .im _ _, ?_⟩
  refine A_nil ?_
  refine ⟨[_, _, _], ⟨rfl, rfl, rfl, trivial⟩, trivial, kind, d, _, rfl, hm, ?_⟩
  -- if _law_kin(e) != _law_due_kin(kind) or not _law_like(_law_field(e, kind), thing):
  refine S_one ?_
  refine S1_if ?_
  refine C_or2 ?_
  refine C_neD hX (deep_L deep_S) (deep_L deep_S) ?_
  refine E_call hX Fs.kin (by omega) rfl rfl ?_
  refine A_cons rfl ?_
  refine P_name (i := 6) hX rfl (.inl rfl) rfl (by intro z; cases z) ?_  -- e
  refine A_nil ?_
  refine ⟨[_], ⟨rfl, trivial⟩, trivial, kind, d, rfl, hm, fun ys py h1 h2 => ?_⟩
  refine ⟨_, .ow (frz_L (K := G.K)), ?_⟩
  refine E_call hX Fs.due (by omega) rfl rfl ?_
  refine A_cons rfl ?_
  refine P_name (i := 4) hX rfl (.inl rfl) rfl (by intro z; cases z) ?_  -- kind
  refine A_nil ?_
  refine ⟨[_], ⟨rfl, trivial⟩, trivial, kind, rfl, fun zs pz h3 h4 => ?_⟩
  have hkd : (kinS kind).Perm (dueS kind) := List.isPerm_iff.mp (kin_due kind hm)
  have oky : ∀ x ∈ ys, PyData.strOk x = true := fun x hx => kin_ok x (kin_sub (h1.mem_iff.mp hx))
  have okz : ∀ x ∈ zs, PyData.strOk x = true := fun x hx => kin_ok x (kin_sub (hkd.mem_iff.mpr (h3.mem_iff.mp hx)))
  have eyz : ys = zs := sorted_uniq h2 h4 ((h1.trans hkd).trans h3.symm)
  refine ⟨_, .ow (frz_L (K := G.K)), shp_strs oky, shp_strs okz, ?_⟩
  rw [eqv_strL, decide_eq_true eyz]
  refine ⟨fun hc => (by cases hc), fun _ => ?_⟩
  refine C_not ?_
  refine C_val ?_
  refine E_call hX Fs.like (by omega) rfl rfl ?_
  refine A_cons rfl ?_
  refine P_val ?_
  refine E_call hX Fs.fld (by omega) rfl rfl ?_
  refine A_cons rfl ?_
  refine P_name (i := 6) hX rfl (.inl rfl) rfl (by intro z; cases z) ?_  -- e
  refine A_cons rfl ?_
  refine P_name (i := 4) hX rfl (.inl rfl) rfl (by intro z; cases z) ?_  -- kind
  refine A_nil ?_
  refine ⟨[_, _], ⟨rfl, rfl, trivial⟩, trivial, kind, d, rfl, hm, ?_⟩
  refine ⟨_, _, _, .im _ _, ?_⟩
  refine A_cons rfl ?_
  refine P_name (i := 5) hX rfl (.inl rfl) rfl (by intro z; cases z) ?_  -- thing
  refine A_nil ?_
  refine ⟨[_, _], ⟨rfl, rfl, trivial⟩, trivial, d, rfl, hsd, ?_⟩
  refine ⟨_, .im _ _, ?_⟩
  refine ⟨fun hc => (by cases hc), fun _ => S_nil ?_⟩
  exact nx b2 _ _ hb2
end
end T
end
section
set_option Elab.async false
set_option linter.all false
set_option maxRecDepth 100000
set_option maxHeartbeats 4000000
set_option exponentiation.threshold 100000
namespace T
open PySem PySem.Spec PyProof.Rows L2 XE
/-! ### the law's second part: numbers -/
structure TN (up low many great : Int) (due : Rat) : Prop where
  du : ((up : Int) : Rat) / ((low : Int) : Rat) = due
  u4 : up.natAbs < 2 ^ 20
  l0 : 0 < low
  l4 : low.natAbs < 2 ^ 20
  m0 : many ≠ 0
  m4 : many.natAbs < 2 ^ 20
  g9 : great.natAbs < 2 ^ 40
theorem rat_one (g : Int) : ((g : Int) : Rat) / ((1 : Int) : Rat) = (g : Rat) := by
  have e : ((1 : Int) : Rat) = 1 := rfl
  rw [e]
  grind
theorem rat_neg (g : Int) : ((g : Int) : Rat) / ((-1 : Int) : Rat) = ((0 - g : Int) : Rat) := by
  have e : ((-1 : Int) : Rat) = -1 := rfl
  rw [e, Int.zero_sub, Rat.intCast_neg]
  grind
theorem NB_int {g : Int} (h : g.natAbs < 2 ^ 100) : NB (g : Rat) := ⟨by rw [Rat.num_intCast]; exact h, by rw [Rat.den_intCast]; decide⟩
theorem word_int (g : Int) : wordL (g : Rat) = intL g := by
  unfold wordL
  rw [if_pos (Rat.den_intCast g), Rat.num_intCast]
theorem word_zero : wordL ((0 : Int) : Rat) = [48] := by rw [word_int]; decide +kernel
section
variable {up low many great : Int} {due : Rat}
theorem TN.e1 (t : TN up low many great due) : ((up * many : Int) : Rat) / ((low * many : Int) : Rat) = due := by
  rw [← Rat.divInt_eq_div, Rat.divInt_mul_right t.m0, Rat.divInt_eq_div]; exact t.du
theorem TN.lm (t : TN up low many great due) : low * many ≠ 0 ∧ (low * many).natAbs < 2 ^ 40 := by
  refine ⟨Int.mul_ne_zero (by have := t.l0; omega) t.m0, ?_⟩
  rw [Int.natAbs_mul]
  have := Nat.mul_lt_mul'' t.l4 t.m4
  rwa [← Nat.pow_add] at this
theorem TN.um (t : TN up low many great due) : (up * many).natAbs < 2 ^ 40 := by
  rw [Int.natAbs_mul]
  have := Nat.mul_lt_mul'' t.u4 t.m4
  rwa [← Nat.pow_add] at this
theorem TN.nb (t : TN up low many great due) : NB due := by
  rw [← t.du]
  exact frac_NB (by have := t.l0; omega) (Nat.lt_trans t.u4 (by decide)) (Nat.lt_trans t.l4 (by decide))
theorem p9000 {n : Nat} (h : n < 2 ^ 40) : n < 2 ^ 9000 := Nat.lt_of_lt_of_le h (Nat.pow_le_pow_right (by omega) (by omega))
theorem p100 {n : Nat} (h : n < 2 ^ 40) : n < 2 ^ 100 := Nat.lt_of_lt_of_le h (Nat.pow_le_pow_right (by omega) (by omega))
end
abbrev numP (q : Rat) : PyData := .tuple [.int q.num, .int (q.den : Int)]
section
variable {G : Gm} {X : Cx} {P : Po} {ns : List Int} {pb : Addr} {b : Bag} {n : Nat} {K : PySem.W.Frag} {up low many great : Int} {due : Rat} {x2 x3 x4 x5 x6 x7 x8 x9 x10 x11 x12 x13 x14 x15 : Kd}
abbrev nD (due fr : Rat) (great up : Int) : List PyData := [numP due, numP due, .tuple [.int great, .int 1], .tuple [.int (0 - up), .int 1], numP fr]
theorem nD_eq (due fr : Rat) (great up : Int) : ([due, due, (great : Rat), ((0 - up : Int) : Rat), fr].map fun q => PyData.tuple [.int q.num, .int (q.den : Int)]) = nD due fr great up := by
  simp only [List.map_cons, List.map_nil, Rat.num_intCast, Rat.den_intCast]
  rfl
theorem SD_num (q : Rat) : SD 1 (numP q) := by simp [SD]
theorem t2a {rest : List Stmt} (Fs : LF G) (hX : XF G X lwN lwS 5) (t : TN up low many great due)
    (nx : ∀ y13, S X rest [.im (rSc G.K) ns, .ow pb (cBag G.K) b, x2, x3, x4, x5, x6, x7, .im rI up, .im rI low, .im rI many, .im rI great, .im (rQ G.K) due, y13, x14, x15] P) :
    S X ((forB (stL 4)).getD 3 (.Pass ⟨0, 0, 0, 0⟩) :: (forB (stL 4)).getD 4 (.Pass ⟨0, 0, 0, 0⟩) :: rest) [.im (rSc G.K) ns, .ow pb (cBag G.K) b, x2, x3, x4, x5, x6, x7, .im rI up, .im rI low, .im rI many, .im rI great, .im (rQ G.K) due, x13, x14, x15] P := by
  obtain ⟨l1, l2⟩ := t.lm
  have u1 := t.um
  have l0 := t.l0
  have mul1 : CMulX up many := mulX_small (Nat.lt_trans t.u4 (by decide)) (Nat.lt_trans t.m4 (by decide))
  have mul2 : CMulX low many := mulX_small (Nat.lt_trans t.l4 (by decide)) (Nat.lt_trans t.m4 (by decide))
  -- told = [..]
  refine S_cons ?_
  refine S1_set (i := 13) hX rfl rfl ?_  -- told
  refine E_lst rfl (A := rQ G.K) ?_
  refine E_call hX Fs.ratio (by omega) rfl rfl ?_
  refine A_cons rfl ?_
  refine P_val ?_
  refine E_mul ?_
  refine E_name (i := 8) hX rfl (.inl rfl) rfl ?_  -- up
  refine ⟨_, .im _ _, ?_⟩
  refine E_name (i := 10) hX rfl (.inl rfl) rfl ?_  -- many
  refine ⟨_, .im _ _, mul1, ?_⟩
  refine ⟨_, _, _, .im _ _, ?_⟩
  refine A_cons rfl ?_
  refine P_val ?_
  refine E_mul ?_
  refine E_name (i := 9) hX rfl (.inl rfl) rfl ?_  -- low
  refine ⟨_, .im _ _, ?_⟩
  refine E_name (i := 10) hX rfl (.inl rfl) rfl ?_  -- many
  refine ⟨_, .im _ _, mul2, ?_⟩
  refine ⟨_, _, _, .im _ _, ?_⟩
  refine A_nil ?_
  refine ⟨[_, _], ⟨rfl, rfl, trivial⟩, trivial, up * many, low * many, rfl, l1, p9000 l2, ?_⟩
  rw [t.e1]
  refine ⟨_, .im _ _, ?_⟩
  refine E_callK true hX Fs.ratio Fs.kratio (by omega) rfl ?_
  refine AK_two ?_
  refine P_val ?_
  refine E_mul ?_
  refine E_name (i := 9) hX rfl (.inl rfl) rfl ?_  -- low
  refine ⟨_, .im _ _, ?_⟩
  refine E_name (i := 10) hX rfl (.inl rfl) rfl ?_  -- many
  refine ⟨_, .im _ _, mul2, ?_⟩
  refine ⟨_, _, _, .im _ _, ?_⟩
  refine P_val ?_
  refine E_mul ?_
  refine E_name (i := 8) hX rfl (.inl rfl) rfl ?_  -- up
  refine ⟨_, .im _ _, ?_⟩
  refine E_name (i := 10) hX rfl (.inl rfl) rfl ?_  -- many
  refine ⟨_, .im _ _, mul1, ?_⟩
  refine ⟨_, _, _, .im _ _, ?_⟩
  refine ⟨[_, _], ⟨rfl, rfl, trivial⟩, trivial, up * many, low * many, rfl, l1, p9000 l2, ?_⟩
  rw [t.e1]
  refine ⟨_, .im _ _, ?_⟩
  refine E_callI hX Fs.ratioI (by omega) rfl rfl ?_
  refine A_cons rfl ?_
  refine P_name (i := 11) hX rfl (.inl rfl) rfl (by intro z; cases z) ?_  -- great
  refine A_nil ?_
  refine ⟨[_], ⟨rfl, trivial⟩, trivial, great, 1, rfl, by decide, p9000 (by decide), ?_⟩
  rw [rat_one]
  refine ⟨_, .im _ _, ?_⟩
  refine E_call hX Fs.ratio (by omega) rfl rfl ?_
  refine A_cons rfl ?_
  refine P_name (i := 8) hX rfl (.inl rfl) rfl (by intro z; cases z) ?_  -- up
  refine A_cons rfl ?_
  refine P_val ?_
  refine E_neg ?_
  refine E_int ?_
  refine ⟨_, .im _ _, ?_⟩
  refine ⟨_, _, _, .im _ _, ?_⟩
  refine A_nil ?_
  refine ⟨[_, _], ⟨rfl, rfl, trivial⟩, trivial, up, -1, rfl, by decide, p9000 (by decide), ?_⟩
  rw [rat_neg]
  refine ⟨_, .im _ _, ?_⟩
  refine E_call hX Fs.ratio (by omega) rfl rfl ?_
  refine A_cons rfl ?_
  refine P_name (i := 11) hX rfl (.inl rfl) rfl (by intro z; cases z) ?_  -- great
  refine A_cons rfl ?_
  refine P_val ?_
  refine E_int ?_
  refine ⟨_, _, _, .im _ _, ?_⟩
  refine A_nil ?_
  refine ⟨[_, _], ⟨rfl, rfl, trivial⟩, trivial, great, 999999999, rfl, by decide, p9000 (by decide), ?_⟩
  refine ⟨_, .im _ _, ?_⟩
  refine ⟨by simp, [due, due, (great : Rat), ((0 - up : Int) : Rat), ((great : Int) : Rat) / ((999999999 : Int) : Rat)], rfl, fun p => ?_⟩
  generalize hfr : ((great : Int) : Rat) / ((999999999 : Int) : Rat) = fr
  -- if not _law_like(told, [..]):
  refine S_cons ?_
  refine S1_if ?_
  refine C_not ?_
  refine C_val ?_
  refine E_call hX Fs.like (by omega) rfl rfl ?_
  refine A_cons rfl ?_
  refine P_val ?_
  refine E_frz (i := 13) hX rfl (.inl rfl) rfl (frz_L (K := G.K)) ?_  -- told
  refine ⟨_, rU G.K, .list (nD due fr great up), .cv fun R v h => (by rw [← nD_eq]; exact fz_U (deep_L deep_Q) h), ?_⟩
  refine A_cons rfl ?_
  refine P_val ?_
  refine E_lst rfl (A := rU G.K) ?_
  refine E_name (i := 12) hX rfl (.inl rfl) rfl ?_  -- due
  refine ⟨_, fzQ, ?_⟩
  refine E_name (i := 12) hX rfl (.inl rfl) rfl ?_  -- due
  refine ⟨_, fzQ, ?_⟩
  refine E_tup hX rfl (by decide) ?_
  refine E_name (i := 11) hX rfl (.inl rfl) rfl ?_  -- great
  refine ⟨_, .im _ _, ?_⟩
  refine E_int ?_
  refine ⟨_, .im _ _, ?_⟩
  refine ⟨by simp, _, rPair G.K rI rI, (great, 1), tup_pair, ?_⟩
  refine ⟨_, fzII, ?_⟩
  refine E_tup hX rfl (by decide) ?_
  refine E_sub ?_
  refine E_int ?_
  refine ⟨_, .im _ _, ?_⟩
  refine E_name (i := 8) hX rfl (.inl rfl) rfl ?_  -- up
  refine ⟨_, .im _ _, ?_⟩
  refine ⟨_, .im _ _, ?_⟩
  refine E_int ?_
  refine ⟨_, .im _ _, ?_⟩
  refine ⟨by simp, _, rPair G.K rI rI, (0 - up, 1), tup_pair, ?_⟩
  refine ⟨_, fzII, ?_⟩
  refine E_call hX Fs.frac (by omega) rfl rfl ?_
  refine A_cons rfl ?_
  refine P_name (i := 11) hX rfl (.inl rfl) rfl (by intro z; cases z) ?_  -- great
  refine A_cons rfl ?_
  refine P_val ?_
  refine E_int ?_
  refine ⟨_, _, _, .im _ _, ?_⟩
  refine A_nil ?_
  refine ⟨[_, _], ⟨rfl, rfl, trivial⟩, trivial, great, 999999999, rfl, by decide, p9000 (by decide), ?_⟩
  rw [hfr]
  refine ⟨_, fzQ, ?_⟩
  refine ⟨by simp, nD due fr great up, rfl, fun p2 => ?_⟩
  refine ⟨_, rU G.K, .list (nD due fr great up), .ov (frz_L (K := G.K)) (fun R v h => (by have z := fz_U (K := G.K) (deep_L (deep_U (K := G.K))) h; rwa [List.map_id] at z)), ?_⟩
  refine A_nil ?_
  have hsd : SD 3 (.list (nD due fr great up)) := ⟨by simp, fun d hd => by
    simp only [List.mem_cons, List.not_mem_nil, or_false] at hd
    rcases hd with h | h | h | h | h <;> subst h <;> simp [SD]⟩
  refine ⟨[_, _], ⟨rfl, rfl, trivial⟩, trivial, _, rfl, hsd, ?_⟩
  refine ⟨_, .im _ _, ?_⟩
  refine ⟨fun hc => (by cases hc), fun _ => S_nil ?_⟩
  exact nx _
end
end T
end
section
set_option Elab.async false
set_option linter.all false
set_option maxRecDepth 100000
set_option maxHeartbeats 4000000
set_option exponentiation.threshold 100000
namespace T
open PySem PySem.Spec PyProof.Rows L2 XE
section
variable {G : Gm} {X : Cx} {P : Po} {ns : List Int} {pb : Addr} {b : Bag} {n : Nat} {K : PySem.W.Frag} {up low many great : Int} {due : Rat} {x2 x3 x4 x5 x6 x7 x8 x9 x10 x11 x12 x13 x14 x15 : Kd}
theorem fzGI {i : Int} : Fz (.im rI i) (.im (rGiv K) (.inl i)) := .cv fun R v h => h
theorem fzGP {i j : Int} : Fz (.im (rPair K rI rI) (i, j)) (.im (rGiv K) (.inr (i, j))) := .cv fun R v h => h
theorem fzGQ {q : Rat} : Fz (.im (rQ K) q) (.im (rGiv K) (.inr (q.num, (q.den : Int)))) := .cv fun R v h => giv_Q h
theorem t2b {rest : List Stmt} (Fs : LF G) (hX : XF G X lwN lwS 5) (t : TN up low many great due)
    (nx : ∀ y13, S X rest [.im (rSc G.K) ns, .ow pb (cBag G.K) b, x2, x3, x4, x5, x6, x7, .im rI up, .im rI low, .im rI many, .im rI great, .im (rQ G.K) due, y13, x14, x15] P) :
    S X ((forB (stL 4)).getD 5 (.Pass ⟨0, 0, 0, 0⟩) :: (forB (stL 4)).getD 6 (.Pass ⟨0, 0, 0, 0⟩) :: rest) [.im (rSc G.K) ns, .ow pb (cBag G.K) b, x2, x3, x4, x5, x6, x7, .im rI up, .im rI low, .im rI many, .im rI great, .im (rQ G.K) due, x13, x14, x15] P := by
  obtain ⟨l1, l2⟩ := t.lm
  have u1 := t.um
  have l0 := t.l0
  have g9 := t.g9
  have nb := t.nb
  have mul1 : CMulX up many := mulX_small (Nat.lt_trans t.u4 (by decide)) (Nat.lt_trans t.m4 (by decide))
  have mul2 : CMulX low many := mulX_small (Nat.lt_trans t.l4 (by decide)) (Nat.lt_trans t.m4 (by decide))
  have nbg : NB (great : Rat) := NB_int (p100 g9)
  have nb0 : NB ((0 : Int) : Rat) := NB_int (by decide)
  have z0 : gv (.inr (0, low * many)) = ((0 : Int) : Rat) := by
    show ((0 : Int) : Rat) / ((low * many : Int) : Rat) = _
    have e : ((0 : Int) : Rat) = 0 := rfl
    rw [e]
    grind
  have asc1 := word_asc due
  have asc2 := int_asc great
  -- told = [..]
  refine S_cons ?_
  refine S1_set (i := 13) hX rfl rfl ?_  -- told
  refine E_lst rfl (A := rS) ?_
  refine E_call hX Fs.rtext (by omega) rfl rfl ?_
  refine A_cons rfl ?_
  refine P_val ?_
  refine E_tup hX rfl (by decide) ?_
  refine E_mul ?_
  refine E_name (i := 8) hX rfl (.inl rfl) rfl ?_  -- up
  refine ⟨_, .im _ _, ?_⟩
  refine E_name (i := 10) hX rfl (.inl rfl) rfl ?_  -- many
  refine ⟨_, .im _ _, mul1, ?_⟩
  refine ⟨_, .im _ _, ?_⟩
  refine E_mul ?_
  refine E_name (i := 9) hX rfl (.inl rfl) rfl ?_  -- low
  refine ⟨_, .im _ _, ?_⟩
  refine E_name (i := 10) hX rfl (.inl rfl) rfl ?_  -- many
  refine ⟨_, .im _ _, mul2, ?_⟩
  refine ⟨_, .im _ _, ?_⟩
  refine ⟨by simp, _, rPair G.K rI rI, (up * many, low * many), tup_pair, ?_⟩
  refine ⟨_, _, _, fzGP, ?_⟩
  refine A_nil ?_
  have e1 : gv (.inr (up * many, low * many)) = due := t.e1
  refine ⟨[_], ⟨rfl, trivial⟩, trivial, .inr (up * many, low * many), rfl, ⟨l1, p9000 l2⟩, by rw [e1]; exact nb, ?_⟩
  rw [e1]
  refine ⟨_, .im _ _, ?_⟩
  refine E_call hX Fs.rtext (by omega) rfl rfl ?_
  refine A_cons rfl ?_
  refine P_val ?_
  refine E_name (i := 11) hX rfl (.inl rfl) rfl ?_  -- great
  refine ⟨_, _, _, fzGI (K := G.K), ?_⟩
  refine A_nil ?_
  refine ⟨[_], ⟨rfl, trivial⟩, trivial, .inl great, rfl, trivial, nbg, ?_⟩
  rw [show gv (.inl great) = (great : Rat) from rfl, word_int]
  refine ⟨_, .im _ _, ?_⟩
  refine E_callK false hX Fs.rtext Fs.krtext (by omega) rfl ?_
  refine AK_one ?_
  refine P_val ?_
  refine E_name (i := 12) hX rfl (.inl rfl) rfl ?_  -- due
  refine ⟨_, _, _, fzGQ, ?_⟩
  have dp := due.den_pos
  have db : (due.den : Int).natAbs < 2 ^ 9000 := by
    rw [Int.natAbs_natCast]
    exact Nat.lt_of_lt_of_le nb.2 (Nat.pow_le_pow_right (by omega) (by omega))
  refine ⟨[_], ⟨rfl, trivial⟩, trivial, .inr (due.num, (due.den : Int)), rfl, ⟨(by omega : ((due.den : Nat) : Int) ≠ 0), db⟩, by rw [gv_Q]; exact nb, ?_⟩
  rw [gv_Q]
  refine ⟨_, .im _ _, ?_⟩
  refine E_call hX Fs.rtext (by omega) rfl rfl ?_
  refine A_cons rfl ?_
  refine P_val ?_
  refine E_tup hX rfl (by decide) ?_
  refine E_int ?_
  refine ⟨_, .im _ _, ?_⟩
  refine E_mul ?_
  refine E_name (i := 9) hX rfl (.inl rfl) rfl ?_  -- low
  refine ⟨_, .im _ _, ?_⟩
  refine E_name (i := 10) hX rfl (.inl rfl) rfl ?_  -- many
  refine ⟨_, .im _ _, mul2, ?_⟩
  refine ⟨_, .im _ _, ?_⟩
  refine ⟨by simp, _, rPair G.K rI rI, (0, low * many), tup_pair, ?_⟩
  refine ⟨_, _, _, fzGP, ?_⟩
  refine A_nil ?_
  refine ⟨[_], ⟨rfl, trivial⟩, trivial, .inr (0, low * many), rfl, ⟨l1, p9000 l2⟩, by rw [z0]; exact nb0, ?_⟩
  rw [z0, word_zero]
  refine ⟨_, .im _ _, ?_⟩
  refine ⟨by simp, [tx (wordL due), tx (intL great), tx (wordL due), tx [48]], rfl, fun p => ?_⟩
  -- if not _law_like(told, [..]):
  refine S_cons ?_
  refine S1_if ?_
  refine C_not ?_
  refine C_val ?_
  refine E_call hX Fs.like (by omega) rfl rfl ?_
  refine A_cons rfl ?_
  refine P_val ?_
  refine E_frz (i := 13) hX rfl (.inl rfl) rfl (frz_L (K := G.K)) ?_  -- told
  refine ⟨_, rU G.K, .list ([tx (wordL due), tx (intL great), tx (wordL due), tx [48]].map fun i => .str i), .cv fun R v h => fz_U (deep_L deep_S) h, ?_⟩
  refine A_cons rfl ?_
  refine P_val ?_
  refine E_lst rfl (A := rS) ?_
  refine E_call hX Fs.word (by omega) rfl rfl ?_
  refine A_cons rfl ?_
  refine P_name (i := 12) hX rfl (.inl rfl) rfl (by intro z; cases z) ?_  -- due
  refine A_nil ?_
  refine ⟨[_], ⟨rfl, trivial⟩, trivial, due, rfl, nb, ?_⟩
  refine ⟨_, .im _ _, ?_⟩
  refine E_strI hX rfl Fs.B.str rfl ?_
  refine E_name (i := 11) hX rfl (.inl rfl) rfl ?_  -- great
  refine ⟨_, .im _ _, log_lt (p100 g9), ?_⟩
  rw [int_tx]
  refine ⟨_, .im _ _, ?_⟩
  refine E_call hX Fs.word (by omega) rfl rfl ?_
  refine A_cons rfl ?_
  refine P_name (i := 12) hX rfl (.inl rfl) rfl (by intro z; cases z) ?_  -- due
  refine A_nil ?_
  refine ⟨[_], ⟨rfl, trivial⟩, trivial, due, rfl, nb, ?_⟩
  refine ⟨_, .im _ _, ?_⟩
  refine E_strL [48] (by decide +kernel) ?_
  refine ⟨_, .im _ _, ?_⟩
  refine ⟨by simp, [tx (wordL due), tx (intL great), tx (wordL due), tx [48]], rfl, fun p2 => ?_⟩
  refine ⟨_, rU G.K, .list ([tx (wordL due), tx (intL great), tx (wordL due), tx [48]].map fun i => .str i), .ov (frz_L (K := G.K)) (fun R v h => fz_U (deep_L deep_S) h), ?_⟩
  refine A_nil ?_
  have hsd : SD 3 (.list ([tx (wordL due), tx (intL great), tx (wordL due), tx [48]].map fun i => .str i)) := ⟨by simp, fun d hd => by
    obtain ⟨i, _, e⟩ := List.mem_map.mp hd
    subst e; simp [SD]⟩
  refine ⟨[_, _], ⟨rfl, rfl, trivial⟩, trivial, _, rfl, hsd, ?_⟩
  refine ⟨_, .im _ _, ?_⟩
  refine ⟨fun hc => (by cases hc), fun _ => S_nil ?_⟩
  exact nx _
theorem t2c (Fs : LF G) (hX : XF G X lwN lwS 5) (t : TN up low many great due)
    (nx : P.nx [.im (rSc G.K) ns, .ow pb (cBag G.K) b, x2, x3, x4, x5, x6, x7, .im rI up, .im rI low, .im rI many, .im rI great, .im (rQ G.K) due, x13, x14, x15]) :
    S X [(forB (stL 4)).getD 7 (.Pass ⟨0, 0, 0, 0⟩)] [.im (rSc G.K) ns, .ow pb (cBag G.K) b, x2, x3, x4, x5, x6, x7, .im rI up, .im rI low, .im rI many, .im rI great, .im (rQ G.K) due, x13, x14, x15] P := by
  have g9 := t.g9
  have nb := t.nb
  have nbg : NB (great : Rat) := NB_int (p100 g9)
  have num1 := num_word due
  have num2 : numOf (intL great) = some (great, 1) := by
    have := num_word (great : Rat)
    rw [word_int, Rat.num_intCast, Rat.den_intCast] at this
    exact this
  have len1 := word_len nb
  have len2 := int_len (p100 g9)
  -- if not _law_like([..], [..]):
  refine S_one ?_
  refine S1_if ?_
  refine C_not ?_
  refine C_val ?_
  refine E_call hX Fs.like (by omega) rfl rfl ?_
  refine A_cons rfl ?_
  refine P_val ?_
  refine E_lst rfl (A := rPair G.K rI rI) ?_
  refine E_call hX Fs.read (by omega) rfl rfl ?_
  refine A_cons rfl ?_
  refine P_val ?_
  refine E_call hX Fs.word (by omega) rfl rfl ?_
  refine A_cons rfl ?_
  refine P_name (i := 12) hX rfl (.inl rfl) rfl (by intro z; cases z) ?_  -- due
  refine A_nil ?_
  refine ⟨[_], ⟨rfl, trivial⟩, trivial, due, rfl, nb, ?_⟩
  refine ⟨_, _, _, .im _ _, ?_⟩
  refine A_nil ?_
  refine ⟨[_], ⟨rfl, trivial⟩, trivial, wordL due, rfl, word_asc due, by omega, fun h => (by rw [num1] at h; cases h), fun u l h => ?_⟩
  rw [num1] at h
  cases h
  refine ⟨_, .im _ _, ?_⟩
  refine E_callK false hX Fs.read Fs.kread (by omega) rfl ?_
  refine AK_one ?_
  refine P_val ?_
  refine E_strI hX rfl Fs.B.str rfl ?_
  refine E_name (i := 11) hX rfl (.inl rfl) rfl ?_  -- great
  refine ⟨_, .im _ _, log_lt (p100 g9), ?_⟩
  rw [int_tx]
  refine ⟨_, _, _, .im _ _, ?_⟩
  refine ⟨[_], ⟨rfl, trivial⟩, trivial, intL great, rfl, int_asc great, by omega, fun h => (by rw [num2] at h; cases h), fun u l h => ?_⟩
  rw [num2] at h
  cases h
  refine ⟨_, .im _ _, ?_⟩
  refine ⟨by simp, [(due.num, (due.den : Int)), (great, 1)], rfl, fun p => ?_⟩
  refine ⟨_, rU G.K, .list ([(due.num, (due.den : Int)), (great, 1)].map fun q => .tuple [.int q.1, .int q.2]), .ov (frz_L (K := G.K)) (fun R v h => fz_U (deep_L (deep_P deep_I deep_I)) h), ?_⟩
  refine A_cons rfl ?_
  refine P_val ?_
  refine E_lst rfl (A := rPair G.K rI rI) ?_
  refine E_name (i := 12) hX rfl (.inl rfl) rfl ?_  -- due
  refine ⟨.im (rPair G.K rI rI) (due.num, (due.den : Int)), .cv (fun R v ⟨a, e, h⟩ => ⟨a, _, _, e, h, rfl, rfl⟩), ?_⟩
  refine E_tup hX rfl (by decide) ?_
  refine E_name (i := 11) hX rfl (.inl rfl) rfl ?_  -- great
  refine ⟨_, .im _ _, ?_⟩
  refine E_int ?_
  refine ⟨_, .im _ _, ?_⟩
  refine ⟨by simp, _, rPair G.K rI rI, (great, 1), tup_pair, ?_⟩
  refine ⟨_, .im _ _, ?_⟩
  refine ⟨by simp, [(due.num, (due.den : Int)), (great, 1)], rfl, fun p2 => ?_⟩
  refine ⟨_, rU G.K, .list ([(due.num, (due.den : Int)), (great, 1)].map fun q => .tuple [.int q.1, .int q.2]), .ov (frz_L (K := G.K)) (fun R v h => fz_U (deep_L (deep_P deep_I deep_I)) h), ?_⟩
  refine A_nil ?_
  have hsd : SD 3 (.list ([(due.num, (due.den : Int)), (great, 1)].map fun q => .tuple [.int q.1, .int q.2])) := ⟨by simp, fun d hd => by
    obtain ⟨i, _, e⟩ := List.mem_map.mp hd
    subst e; simp [SD]⟩
  refine ⟨[_, _], ⟨rfl, rfl, trivial⟩, trivial, _, rfl, hsd, ?_⟩
  refine ⟨_, .im _ _, ?_⟩
  refine ⟨fun hc => (by cases hc), fun _ => S_nil ?_⟩
  exact nx
end
end T
end
section
set_option Elab.async false
set_option linter.all false
set_option maxRecDepth 100000
set_option maxHeartbeats 4000000
set_option exponentiation.threshold 100000
namespace T
open PySem PySem.Spec PyProof.Rows L2 XE
section
variable {G : Gm} {X : Cx} {P : Po} {ns : List Int} {pb : Addr} {b : Bag} {n : Nat} {K : PySem.W.Frag} {x2 x3 x4 x5 x6 x7 x8 x9 x10 x11 x12 x13 x14 x15 : Kd}
theorem tN (Fs : LF G) (hX : XF G X lwN lwS 5) (hb : Bg n b) (hn : n < 2 ^ 20)
    (nx : ∀ b' n' y8 y9 y10 y11 y12 y13, n' ≤ n + 60 → Bg n' b' → P.nx [.im (rSc G.K) ns, .ow pb (cBag G.K) b', x2, x3, x4, x5, x6, x7, y8, y9, y10, y11, y12, y13, x14, x15]) :
    S X (forB (stL 4)) [.im (rSc G.K) ns, .ow pb (cBag G.K) b, x2, x3, x4, x5, x6, x7, x8, x9, x10, x11, x12, x13, x14, x15] P := by
  -- up, low, many = ..
  refine S_cons ?_
  refine S1_par3 (i := 8) (j := 9) (l := 10) hX rfl rfl rfl (by decide) (by decide) (by decide) rfl rfl rfl rfl ?_ rfl
  refine E_mul ?_
  refine E_call hX Fs.fig (by omega) rfl rfl ?_
  refine A_cons rfl ?_
  refine P_name (i := 1) hX rfl (.inl rfl) rfl (by intro z; cases z) ?_  -- bag
  refine A_cons rfl ?_
  refine P_val ?_
  refine E_int ?_
  refine ⟨_, _, _, .im _ _, ?_⟩
  refine A_nil ?_
  refine ⟨[_, _], ⟨rfl, rfl, trivial⟩, trivial, pb, b, n, 4, rfl, hb, by omega, by omega, by omega, fun u n1 b1 hu hn1 hb1 => ?_⟩
  refine ⟨_, .im _ _, ?_⟩
  refine E_call hX Fs.of (by omega) rfl rfl ?_
  refine A_cons rfl ?_
  refine P_name (i := 1) hX rfl (.inl rfl) rfl (by intro z; cases z) ?_  -- bag
  refine A_cons rfl ?_
  refine P_val ?_
  refine E_lst rfl (A := rI) ?_
  refine E_int ?_
  refine ⟨_, .im _ _, ?_⟩
  refine E_neg ?_
  refine E_int ?_
  refine ⟨_, .im _ _, ?_⟩
  refine ⟨_, .im _ _, ?_⟩
  refine ⟨by simp, [1, -1], rfl, fun pl => ?_⟩
  refine ⟨_, _, _, .ow (frz_L (K := G.K)), ?_⟩
  refine A_nil ?_
  refine ⟨[_, _], ⟨rfl, rfl, trivial⟩, trivial, _, rI, [1, -1], pb, b1, n1, rfl, hb1, by omega, by decide, by decide, fun s1 hs b2 hb2 => ?_⟩
  have hs1 : s1.natAbs = 1 := (by decide : ∀ a ∈ ([1, -1] : List Int), a.natAbs = 1) s1 hs
  have hu4 : u < 10000 := hu
  refine ⟨_, .im _ _, mulX_small (by rw [Int.natAbs_natCast]; omega) (by omega), ?_⟩
  refine E_add ?_
  refine E_int ?_
  refine ⟨_, .im _ _, ?_⟩
  refine E_call hX Fs.fig (by omega) rfl rfl ?_
  refine A_cons rfl ?_
  refine P_name (i := 1) hX rfl (.inl rfl) rfl (by intro z; cases z) ?_  -- bag
  refine A_cons rfl ?_
  refine P_val ?_
  refine E_int ?_
  refine ⟨_, _, _, .im _ _, ?_⟩
  refine A_nil ?_
  refine ⟨[_, _], ⟨rfl, rfl, trivial⟩, trivial, pb, b2, n1 + 1, 4, rfl, hb2, by omega, by omega, by omega, fun v n3 b3 hv hn3 hb3 => ?_⟩
  have hv4 : v < 10000 := hv
  refine ⟨_, .im _ _, ?_⟩
  refine E_call hX Fs.of (by omega) rfl rfl ?_
  refine A_cons rfl ?_
  refine P_name (i := 1) hX rfl (.inl rfl) rfl (by intro z; cases z) ?_  -- bag
  refine A_cons rfl ?_
  refine P_val ?_
  refine E_lst rfl (A := rI) ?_
  refine E_int ?_
  refine ⟨_, .im _ _, ?_⟩
  refine E_int ?_
  refine ⟨_, .im _ _, ?_⟩
  refine E_int ?_
  refine ⟨_, .im _ _, ?_⟩
  refine E_neg ?_
  refine E_int ?_
  refine ⟨_, .im _ _, ?_⟩
  refine ⟨_, .im _ _, ?_⟩
  refine E_neg ?_
  refine E_int ?_
  refine ⟨_, .im _ _, ?_⟩
  refine ⟨_, .im _ _, ?_⟩
  refine E_int ?_
  refine ⟨_, .im _ _, ?_⟩
  refine ⟨by simp, [1, 1, 2, -1, -9973, 360], rfl, fun pl2 => ?_⟩
  refine ⟨_, _, _, .ow (frz_L (K := G.K)), ?_⟩
  refine A_nil ?_
  refine ⟨[_, _], ⟨rfl, rfl, trivial⟩, trivial, _, rI, [1, 1, 2, -1, -9973, 360], pb, b3, n3, rfl, hb3, by omega, by decide, by decide, fun many hm b4 hb4 => ?_⟩
  have hm0 : many ≠ 0 ∧ many.natAbs < 2 ^ 20 := (by decide : ∀ a ∈ ([1, 1, 2, -1, -9973, 360] : List Int), a ≠ 0 ∧ a.natAbs < 2 ^ 20) many hm
  refine ⟨_, _, _, rfl, ?_⟩
  -- great = _law_figures(bag, 9) * _law_of(bag, [-1, 1])
  refine S_cons ?_
  refine S1_set (i := 11) hX rfl rfl ?_  -- great
  refine E_mul ?_
  refine E_call hX Fs.fig (by omega) rfl rfl ?_
  refine A_cons rfl ?_
  refine P_name (i := 1) hX rfl (.inl rfl) rfl (by intro z; cases z) ?_  -- bag
  refine A_cons rfl ?_
  refine P_val ?_
  refine E_int ?_
  refine ⟨_, _, _, .im _ _, ?_⟩
  refine A_nil ?_
  refine ⟨[_, _], ⟨rfl, rfl, trivial⟩, trivial, pb, b4, n3 + 1, 9, rfl, hb4, by omega, by omega, by omega, fun g n5 b5 hg hn5 hb5 => ?_⟩
  refine ⟨_, .im _ _, ?_⟩
  refine E_call hX Fs.of (by omega) rfl rfl ?_
  refine A_cons rfl ?_
  refine P_name (i := 1) hX rfl (.inl rfl) rfl (by intro z; cases z) ?_  -- bag
  refine A_cons rfl ?_
  refine P_val ?_
  refine E_lst rfl (A := rI) ?_
  refine E_neg ?_
  refine E_int ?_
  refine ⟨_, .im _ _, ?_⟩
  refine ⟨_, .im _ _, ?_⟩
  refine E_int ?_
  refine ⟨_, .im _ _, ?_⟩
  refine ⟨by simp, [-1, 1], rfl, fun pl3 => ?_⟩
  refine ⟨_, _, _, .ow (frz_L (K := G.K)), ?_⟩
  refine A_nil ?_
  refine ⟨[_, _], ⟨rfl, rfl, trivial⟩, trivial, _, rI, [-1, 1], pb, b5, n5, rfl, hb5, by omega, by decide, by decide, fun s2 hs2 b6 hb6 => ?_⟩
  have hs3 : s2.natAbs = 1 := (by decide : ∀ a ∈ ([-1, 1] : List Int), a.natAbs = 1) s2 hs2
  have hg9 : g < 1000000000 := hg
  refine ⟨_, .im _ _, mulX_small (by rw [Int.natAbs_natCast]; omega) (by omega), ?_⟩
  -- due = _law_frac(up, low)
  refine S_cons ?_
  refine S1_set (i := 12) hX rfl rfl ?_  -- due
  refine E_call hX Fs.frac (by omega) rfl rfl ?_
  refine A_cons rfl ?_
  refine P_name (i := 8) hX rfl (.inl rfl) rfl (by intro z; cases z) ?_  -- up
  refine A_cons rfl ?_
  refine P_name (i := 9) hX rfl (.inl rfl) rfl (by intro z; cases z) ?_  -- low
  refine A_nil ?_
  refine ⟨[_, _], ⟨rfl, rfl, trivial⟩, trivial, (u : Int) * s1, 1 + (v : Int), rfl, by omega, p9000 (by omega), ?_⟩
  have tn : TN ((u : Int) * s1) (1 + (v : Int)) many ((g : Int) * s2) ((((u : Int) * s1 : Int) : Rat) / ((1 + (v : Int) : Int) : Rat)) :=
    ⟨rfl, by rw [Int.natAbs_mul, hs1, Int.natAbs_natCast]; omega, by omega, by omega, hm0.1, hm0.2, by rw [Int.natAbs_mul, hs3, Int.natAbs_natCast]; omega⟩
  generalize ((((u : Int) * s1 : Int) : Rat) / ((1 + (v : Int) : Int) : Rat)) = due at tn
  generalize (u : Int) * s1 = up at tn
  generalize (1 : Int) + (v : Int) = low at tn
  generalize (g : Int) * s2 = great at tn
  refine t2a Fs hX tn fun y13 => ?_
  refine t2b Fs hX tn fun y13 => ?_
  refine t2c Fs hX tn ?_
  exact nx b6 (n5 + 1) _ _ _ _ _ _ (by omega) hb6
/-! ### the law's third part: strings -/
def knownL : List (List Nat) := [[50, 47, 52], [51, 47, 49], [48, 50], [45, 48], [43, 51], [49, 47, 48], [48, 47, 49], [45], [47], [], [45, 45, 49], [49, 47, 45, 50], [45, 49, 47, 50], [32, 49], [49, 32], [49, 10], [49, 95, 48], [48], [53, 47, 55], [48, 47, 51]]
theorem tS (Fs : LF G) (hX : XF G X lwN lwS 5) (hb : Bg n b) (hn : n < 2 ^ 20)
    (nx : ∀ b' n' y15, n' ≤ n + 40 → Bg n' b' → P.nx [.im (rSc G.K) ns, .ow pb (cBag G.K) b', x2, x3, x4, x5, x6, x7, x8, x9, x10, x11, x12, x13, .im (rL G.K rS) (knownL.map tx), y15]) :
    S X (forB (stL 6)) [.im (rSc G.K) ns, .ow pb (cBag G.K) b, x2, x3, x4, x5, x6, x7, x8, x9, x10, x11, x12, x13, .im (rL G.K rS) (knownL.map tx), x15] P := by
  -- src = _law_string(bag, known)
  refine S_cons ?_
  refine S1_set (i := 15) hX rfl rfl ?_  -- src
  refine E_call hX Fs.str (by omega) rfl rfl ?_
  refine A_cons rfl ?_
  refine P_name (i := 1) hX rfl (.inl rfl) rfl (by intro z; cases z) ?_  -- bag
  refine A_cons rfl ?_
  refine P_name (i := 14) hX rfl (.inl rfl) rfl (by intro z; cases z) ?_  -- known
  refine A_nil ?_
  have hk : ∀ a ∈ knownL, Asc a ∧ a.length ≤ 600 := by
    have h : ∀ a ∈ knownL, (a.all (· < 128)) = true ∧ a.length ≤ 600 := by decide
    exact fun a ha => ⟨fun c hc => by have := List.all_eq_true.mp (h a ha).1 c hc; simpa using this, (h a ha).2⟩
  refine ⟨[_, _], ⟨rfl, rfl, trivial⟩, trivial, pb, b, n, knownL, rfl, hb, by omega, by decide, by decide, hk, fun a n1 b1 ha hl hn1 hb1 => ?_⟩
  -- if not _law_like(read_ratio(src), _law_number(src)):
  refine S_one ?_
  refine S1_if ?_
  refine C_not ?_
  refine C_val ?_
  refine E_call hX Fs.like (by omega) rfl rfl ?_
  refine A_cons rfl ?_
  refine P_val ?_
  refine E_call hX Fs.read (by omega) rfl rfl ?_
  refine A_cons rfl ?_
  refine P_name (i := 15) hX rfl (.inl rfl) rfl (by intro z; cases z) ?_  -- src
  refine A_nil ?_
  refine ⟨[_], ⟨rfl, trivial⟩, trivial, a, rfl, ha, hl, fun h => ?_, fun u l h => ?_⟩
  · refine ⟨_, rU G.K, .none, fzN, ?_⟩
    refine A_cons rfl ?_
    refine P_val ?_
    refine E_call hX Fs.num (by omega) rfl rfl ?_
    refine A_cons rfl ?_
    refine P_name (i := 15) hX rfl (.inl rfl) rfl (by intro z; cases z) ?_  -- src
    refine A_nil ?_
    refine ⟨[_], ⟨rfl, trivial⟩, trivial, a, rfl, ha, hl, fun h2 => ?_, fun u l h2 => (by rw [h] at h2; cases h2)⟩
    refine ⟨_, rU G.K, .none, fzN, ?_⟩
    refine A_nil ?_
    refine ⟨[_, _], ⟨rfl, rfl, trivial⟩, trivial, .none, rfl, trivial, ?_⟩
    refine ⟨_, .im _ _, ?_⟩
    refine ⟨fun hc => (by cases hc), fun _ => S_nil ?_⟩
    exact nx b1 n1 _ hn1 hb1
  · refine ⟨_, rU G.K, .tuple [.int u, .int l], fzII, ?_⟩
    refine A_cons rfl ?_
    refine P_val ?_
    refine E_call hX Fs.num (by omega) rfl rfl ?_
    refine A_cons rfl ?_
    refine P_name (i := 15) hX rfl (.inl rfl) rfl (by intro z; cases z) ?_  -- src
    refine A_nil ?_
    refine ⟨[_], ⟨rfl, trivial⟩, trivial, a, rfl, ha, hl, fun h2 => (by rw [h] at h2; cases h2), fun u2 l2 h2 => ?_⟩
    rw [h] at h2
    cases h2
    refine ⟨_, rU G.K, .tuple [.int u, .int l], fzII, ?_⟩
    refine A_nil ?_
    refine ⟨[_, _], ⟨rfl, rfl, trivial⟩, trivial, .tuple [.int u, .int l], rfl, (by simp [SD]), ?_⟩
    refine ⟨_, .im _ _, ?_⟩
    refine ⟨fun hc => (by cases hc), fun _ => S_nil ?_⟩
    exact nx b1 n1 _ hn1 hb1
end
end T
end
section
set_option Elab.async false
set_option linter.all false
set_option maxRecDepth 100000
set_option maxHeartbeats 4000000
namespace T
open PySem PySem.Spec PyProof.Rows L2 XE
/-! ### a list of constant texts -/
def mkC (q : Str × Pos) : Expr := .Constant (.str q.1) 0 q.2
theorem noStar_c : ∀ L : List (Str × Pos), noStar (L.map mkC) = true
  | [] => rfl
  | _ :: L => noStar_c L
section
variable {G : Gm} {X : Cx} {P : Po} {ns : List Int} {pb : Addr} {b : Bag} {n : Nat} {K : PySem.W.Frag} {x2 x3 x4 x5 x6 x7 x8 x9 x10 x11 x12 x13 x14 x15 : Kd}
theorem items_c : ∀ (L : List (Str × Pos)) {τ : Tau} {k : List Kd → Tau → Prop}, k (L.map fun q => .im rS q.1) τ → Items X (L.map mkC) τ k
  | [], _, _, h => h
  | q :: L, _, _, h => E_str ⟨_, .im _ _, items_c L h⟩
theorem E_strs {L : List (Str × Pos)} {τ : Tau} {k : KK} {pos : Pos} (hl : L.length ≤ 1000) (h : ∀ p, k (.ow p (cL rS) (L.map (·.1))) τ) : E X (.List (L.map mkC) pos) τ k :=
  E_lst (noStar_c L) (items_c L ⟨by rw [List.length_map]; omega, L.map (·.1), by rw [List.map_map]; rfl, h⟩)
theorem kn_st : ∃ (p q q2 : Pos) (L : List (Str × Pos)), stL 5 = .Assign [.Name "known" p] (.List (L.map mkC) q2) q ∧ L.map (·.1) = knownL.map tx := ⟨_, _, _, [("2/4", _), ("3/1", _), ("02", _), ("-0", _), ("+3", _), ("1/0", _), ("0/1", _), ("-", _), ("/", _), ("", _), ("--1", _), ("1/-2", _), ("-1/2", _), (" 1", _), ("1 ", _), ("1\n", _), ("1_0", _), ("0", _), ("5/7", _), ("0/3", _)], rfl, by decide +kernel⟩
theorem kn1 (hX : XF G X lwN lwS 5) {p q q2 : Pos} {L : List (Str × Pos)} (hL : L.map (·.1) = knownL.map tx) (nx : ∀ pw, P.nx [.im (rSc G.K) ns, .ow pb (cBag G.K) b, x2, x3, x4, x5, x6, x7, x8, x9, x10, x11, x12, x13, .ow pw (cL rS) (knownL.map tx), x15]) :
    S1 X (.Assign [.Name "known" p] (.List (L.map mkC) q2) q) [.im (rSc G.K) ns, .ow pb (cBag G.K) b, x2, x3, x4, x5, x6, x7, x8, x9, x10, x11, x12, x13, x14, x15] P := by
  refine S1_set (i := 14) hX rfl rfl ?_
  have hl := congrArg List.length hL
  rw [List.length_map, List.length_map] at hl
  have hl : L.length = 20 := hl
  refine E_strs (by omega) fun pw => ?_
  rw [hL]
  exact nx pw
theorem kn0 (hX : XF G X lwN lwS 5) (st : Stmt) (h : stL 5 = st) (nx : ∀ pw, P.nx [.im (rSc G.K) ns, .ow pb (cBag G.K) b, x2, x3, x4, x5, x6, x7, x8, x9, x10, x11, x12, x13, .ow pw (cL rS) (knownL.map tx), x15]) :
    S1 X st [.im (rSc G.K) ns, .ow pb (cBag G.K) b, x2, x3, x4, x5, x6, x7, x8, x9, x10, x11, x12, x13, x14, x15] P := by
  obtain ⟨p, q, q2, L, e, hL⟩ := kn_st
  rw [← h, e]
  exact kn1 hX hL nx
end
end T
end
section
set_option Elab.async false
set_option linter.all false
set_option maxRecDepth 100000
set_option maxHeartbeats 4000000
set_option exponentiation.threshold 100000
namespace T
open PySem PySem.Spec PyProof.Rows L2 XE
section
variable {F R0 R H : Hp} {σ : L2.St} {τ : Tau}
theorem Ok.frz (ok : Ok F R0 R H σ τ) {i : Nat} {γ : Type} {p : Addr} {C : CR γ} {A : DR γ} {c : γ} (ht : τ[i]? = some (.ow p C c)) (f : FrzC C A) : ∃ R', Le R R' ∧ Ok F R0 R' H σ (τ.set i (.im A c)) := by
  obtain ⟨hs, hR, hF, o, hH, hc⟩ := ok.cell ht
  have hi : i < τ.length := (List.getElem?_eq_some_iff.mp ht).1
  have ok1 : Ok F R0 (upd R p o) H σ (τ.set i .no) := (ok.forget i).know hR hF hH (ho := (C.nt hc).1) fun j l el hl => by
    by_cases hj : i = j
    · subst hj
      rw [List.getElem?_set_self hi] at el
      cases el
      exact hl
    · rw [List.getElem?_set_ne hj] at el
      exact hj (ok.inj i j _ l p ht el rfl hl)
  have ok2 := ok1.set (i := i) (v := .ref p) (x := .im A c) (by simpa using hi) (VOk.im (f _ p o c upd_same (C.up (Le.upd hR) hc)))
  have es : σ.set i (some (.ref p)) = σ := by
    apply List.ext_getElem?
    intro j
    by_cases hj : i = j
    · subst hj
      rw [List.getElem?_set_self (by rw [ok.len]; exact hi), hs]
    · rw [List.getElem?_set_ne hj]
  rw [es, List.set_set] at ok2
  exact ⟨_, Le.upd hR, ok2⟩
variable {X : Cx} {O : Po} {sts : List Stmt}
theorem S_frz {i : Nat} {γ : Type} {p : Addr} {C : CR γ} {A : DR γ} {c : γ} (ht : τ[i]? = some (.ow p C c)) (f : FrzC C A) (h : S X sts (τ.set i (.im A c)) O) : S X sts τ O := fun σ H F R0 R D ok en => by
  obtain ⟨R', l, ok'⟩ := ok.frz ht f
  exact h σ H F R0 R' D ok' (en.up l)
end
def cLaw (K : PySem.W.Frag) : Ct := fun ks k => ∃ ns : List Int, ks = [.im (rSc K) ns] ∧ ns.length ≤ 1000 ∧ k (.im rB true) [.no]
theorem q49 {G : Gm} {f : Addr} {fd : FuncData} (F : Fun G.K "law" "law" (top 49) f fd) (hf : G.mg "law" = some (.ref f)) (b : Binds G.K fd ["script"] [])
    (Fs : LF G) : Fn G "law" 6 (cLaw G.K) := by
  refine Fn.of F hf b sq49 (fun ks k ⟨ns, h, _⟩ => by rw [h]; rfl) fun X hX hfn hp ks k ⟨ns, hks, hns, hk⟩ => ?_
  subst hks
  obtain ⟨s5, h5, hbody⟩ : ∃ s5, stL 5 = s5 ∧ defBody (top 49) = [stL 0, stL 1, stL 2, stL 3, stL 4, s5, stL 6, stL 7] := ⟨_, rfl, rfl⟩
  rw [hbody]
  -- bag, kinds = _law_bag(script), [..]
  refine S_cons ?_
  refine S1_par (i := 1) (j := 2) hX rfl rfl (by decide) rfl rfl rfl ?_ rfl
  refine E_call hX Fs.bag (by omega) rfl rfl ?_
  refine A_cons rfl ?_
  refine P_name (i := 0) hX rfl (.inl rfl) rfl (by intro z; cases z) ?_  -- script
  refine A_nil ?_
  refine ⟨[_], ⟨rfl, trivial⟩, trivial, ns, rfl, hns, fun pb b0 hb0 => ?_⟩
  refine E_lst rfl (A := rS) ?_
  refine E_str ?_
  refine ⟨_, .im _ _, ?_⟩
  refine E_str ?_
  refine ⟨_, .im _ _, ?_⟩
  refine E_str ?_
  refine ⟨_, .im _ _, ?_⟩
  refine E_str ?_
  refine ⟨_, .im _ _, ?_⟩
  refine E_str ?_
  refine ⟨_, .im _ _, ?_⟩
  refine E_str ?_
  refine ⟨_, .im _ _, ?_⟩
  refine E_str ?_
  refine ⟨_, .im _ _, ?_⟩
  refine E_str ?_
  refine ⟨_, .im _ _, ?_⟩
  refine E_str ?_
  refine ⟨_, .im _ _, ?_⟩
  refine ⟨by simp, ["BadSum", "BadText", "Unlike", "Untold", "BadCrew", "BadWish", "BadRules", "BadBond", "BadLot"], rfl, fun pk => ?_⟩
  refine ⟨_, _, rfl, ?_⟩
  -- kinds.extend([..])
  refine S_cons ?_
  refine S1_expr ?_
  refine E_extend (j := 2) (A := rS) (q := pk) hX rfl (.inl rfl) rfl rfl ?_
  refine E_lst rfl (A := rS) ?_
  refine E_str ?_
  refine ⟨_, .im _ _, ?_⟩
  refine E_str ?_
  refine ⟨_, .im _ _, ?_⟩
  refine E_str ?_
  refine ⟨_, .im _ _, ?_⟩
  refine E_str ?_
  refine ⟨_, .im _ _, ?_⟩
  refine E_str ?_
  refine ⟨_, .im _ _, ?_⟩
  refine E_str ?_
  refine ⟨_, .im _ _, ?_⟩
  refine E_str ?_
  refine ⟨_, .im _ _, ?_⟩
  refine E_str ?_
  refine ⟨_, .im _ _, ?_⟩
  refine ⟨by simp, ["BadTables", "BadData", "BadProgram", "BadPlant", "BadGoal", "BadScript", "NoSuch", "Ended"], rfl, fun pk2 => ?_⟩
  refine ⟨_, _, _, rfl, rfl, by simp, ?_⟩
  -- things = [..]
  refine S_cons ?_
  refine S1_set (i := 3) hX rfl rfl ?_  -- things
  refine E_lst rfl (A := rU G.K) ?_
  refine E_int ?_
  refine ⟨_, fzI (K := G.K), ?_⟩
  refine E_int ?_
  refine ⟨_, fzI (K := G.K), ?_⟩
  refine E_neg ?_
  refine E_int ?_
  refine ⟨_, .im _ _, ?_⟩
  refine ⟨_, fzI (K := G.K), ?_⟩
  refine E_pow ?_
  refine E_int ?_
  refine ⟨_, .im _ _, ?_⟩
  refine E_int ?_
  refine ⟨_, .im _ _, ⟨by decide, by decide, by decide⟩, ?_⟩
  refine ⟨_, fzI (K := G.K), ?_⟩
  refine E_str ?_
  refine ⟨_, fzS (K := G.K), ?_⟩
  refine E_str ?_
  refine ⟨_, fzS (K := G.K), ?_⟩
  refine E_none ?_
  refine ⟨_, fzN (K := G.K), ?_⟩
  refine E_tup hX rfl (by decide) ?_
  refine E_int ?_
  refine ⟨_, .im _ _, ?_⟩
  refine E_int ?_
  refine ⟨_, .im _ _, ?_⟩
  refine ⟨by simp, _, rPair G.K rI rI, (1, 2), tup_pair, ?_⟩
  refine ⟨_, fzII, ?_⟩
  refine E_bool ?_
  refine ⟨_, fzB (K := G.K), ?_⟩
  refine E_tup hX rfl (by decide) ?_
  refine E_str ?_
  refine ⟨_, .im _ _, ?_⟩
  refine E_none ?_
  refine ⟨_, .im _ _, ?_⟩
  refine ⟨by simp, _, rPair G.K rS rN, ("a", ()), tup_pair, ?_⟩
  refine ⟨_, fzSN, ?_⟩
  refine E_str ?_
  refine ⟨_, fzS (K := G.K), ?_⟩
  refine ⟨by simp, thingsL, rfl, fun pt => ?_⟩
  -- for kind in kinds:
  refine S_cons ?_
  refine S1_for hX hp ?_
  refine I_list hX ?_
  refine E_frz (i := 2) hX rfl (.inl rfl) rfl (frz_L (K := G.K)) ?_  -- kinds
  refine ⟨_, _, kinds, .im _ _, ?_⟩
  refine ⟨fun i τ => ∃ (b : Bag) (x3 x4 x5 x6 : Kd), Bg (2 * i) b ∧ (x3 = .ow pt (cL (rU G.K)) thingsL ∨ x3 = .im (rL G.K (rU G.K)) thingsL) ∧ τ = [.im (rSc G.K) ns, .ow pb (cBag G.K) b, .im (rL G.K rS) kinds, x3, x4, x5, x6, .no, .no, .no, .no, .no, .no, .no, .no, .no], ⟨b0, _, _, _, _, hb0, .inl rfl, rfl⟩, fun i y τ hy hI => ?_, fun τ hI => ?_⟩
  · obtain ⟨b, x3, x4, x5, x6, hb, h3, hτ⟩ := hI
    subst hτ
    obtain ⟨kind, hkk, ey⟩ := mapK_get hy
    subst ey
    have hm : kind ∈ kinds := List.mem_of_getElem? hkk
    have hi : i < 17 := (List.getElem?_eq_some_iff.mp hkk).1
    refine T_name (i := 4) hX rfl rfl ?_  -- kind
    rcases h3 with h3 | h3
    · subst h3
      refine S_frz (i := 3) rfl (frz_L (K := G.K)) ?_
      exact tE Fs hX hm hb (by omega) fun b' y5 y6 hb' => ⟨b', _, _, _, _, hb', .inr rfl, rfl⟩
    · subst h3
      exact tE Fs hX hm hb (by omega) fun b' y5 y6 hb' => ⟨b', _, _, _, _, hb', .inr rfl, rfl⟩
  obtain ⟨b, x3, x4, x5, x6, hb, h3, hτ⟩ := hI
  subst hτ
  rw [List.length_map] at hb
  have hb : Bg 34 b := hb
  -- for turn in range(6):
  refine S_cons ?_
  refine S1_for hX hp ?_
  refine I_rng1 hX rfl Fs.B.range rfl ?_
  refine E_int ?_
  refine ⟨_, .im _ _, by omega, by omega, ?_⟩
  refine ⟨fun i τ => ∃ (b : Bag) (n : Nat) (x7 x8 x9 x10 x11 x12 x13 : Kd), n ≤ 34 + 60 * i ∧ Bg n b ∧ τ = [.im (rSc G.K) ns, .ow pb (cBag G.K) b, .im (rL G.K rS) kinds, x3, x4, x5, x6, x7, x8, x9, x10, x11, x12, x13, .no, .no], ⟨b, 34, _, _, _, _, _, _, _, by omega, hb, rfl⟩, fun i y τ hy hI => ?_, fun τ hI => ?_⟩
  · obtain ⟨b, n, x7, x8, x9, x10, x11, x12, x13, hn, hb, hτ⟩ := hI
    subst hτ
    obtain ⟨hi1, ey⟩ := rngK0_get hy
    subst ey
    have hi6 : i < 6 := hi1
    refine T_name (i := 7) hX rfl rfl ?_  -- turn
    exact tN Fs hX hb (by omega) fun b' n' y8 y9 y10 y11 y12 y13 hn' hb' => ⟨b', n', _, _, _, _, _, _, _, by omega, hb', rfl⟩
  obtain ⟨b, n, x7, x8, x9, x10, x11, x12, x13, hn, hb, hτ⟩ := hI
  subst hτ
  rw [rngK_len] at hn
  have hn : n ≤ 34 + 60 * 6 := hn
  -- known = [..]
  refine S_cons ?_
  refine kn0 hX s5 h5 fun pw => ?_
  -- for turn in range(14):
  refine S_cons ?_
  refine S1_for hX hp ?_
  refine I_rng1 hX rfl Fs.B.range rfl ?_
  refine E_int ?_
  refine ⟨_, .im _ _, by omega, by omega, ?_⟩
  refine ⟨fun i τ => ∃ (b : Bag) (n : Nat) (x7 x14 x15 : Kd), n ≤ 394 + 40 * i ∧ Bg n b ∧ (x14 = .ow pw (cL rS) (knownL.map tx) ∨ x14 = .im (rL G.K rS) (knownL.map tx)) ∧ τ = [.im (rSc G.K) ns, .ow pb (cBag G.K) b, .im (rL G.K rS) kinds, x3, x4, x5, x6, x7, x8, x9, x10, x11, x12, x13, x14, x15], ⟨b, n, _, _, _, by omega, hb, .inl rfl, rfl⟩, fun i y τ hy hI => ?_, fun τ hI => ?_⟩
  · obtain ⟨b, n, x7, x14, x15, hn, hb, h14, hτ⟩ := hI
    subst hτ
    obtain ⟨hi1, ey⟩ := rngK0_get hy
    subst ey
    have hi6 : i < 14 := hi1
    refine T_name (i := 7) hX rfl rfl ?_  -- turn
    rcases h14 with h14 | h14
    · subst h14
      refine S_frz (i := 14) rfl (frz_L (K := G.K)) ?_
      exact tS Fs hX hb (by omega) fun b' n' y15 hn' hb' => ⟨b', n', _, _, _, by omega, hb', .inr rfl, rfl⟩
    · subst h14
      exact tS Fs hX hb (by omega) fun b' n' y15 hn' hb' => ⟨b', n', _, _, _, by omega, hb', .inr rfl, rfl⟩
  obtain ⟨b, n, x7, x14, x15, hn, hb, h14, hτ⟩ := hI
  subst hτ
  -- return True
  refine S_one ?_
  refine S1_ret ?_
  refine E_bool ?_
  exact fin_no hk
end T
end
section
set_option Elab.async false
set_option linter.all false
set_option maxRecDepth 100000
set_option maxHeartbeats 4000000
namespace T
open PySem PySem.Spec PyProof.Rows L2 XE
/-! ### the classes of the errors, as the top has written them -/
def clsK (K : PySem.W.Frag) (x : Str) : Addr := match PySem.W.nsIn K mainGlobals x with
  | some (some (.ref C)) => C
  | _ => 0
def iniK (K : PySem.W.Frag) (x : Str) : Addr := match PySem.W.findIn K (.ref (clsK K x)) "__init__" with
  | some (some (.ref f)) => f
  | _ => 0
def bmOf (x : Str) : List Value := if x = "NoSuch" then [.type "LookupError", .type "Exception", .type "BaseException", .type "object"] else if x = "Ended" then [.type "RuntimeError", .type "Exception", .type "BaseException", .type "object"] else [.type "ValueError", .type "Exception", .type "BaseException", .type "object"]
def newOf (x : Str) : String := if x = "NoSuch" then "LookupError.__new__" else if x = "Ended" then "RuntimeError.__new__" else "ValueError.__new__"
def ixOf (x : Str) : Str := if x ∈ (["BadSum", "Unlike", "Untold", "NoSuch", "Ended"] : List Str) then x else "BadText"
def oneB (K : PySem.W.Frag) (x : Str) : Bool :=
  decide (PySem.W.nsIn K mainGlobals x = some (some (.ref (clsK K x)))) && (PySem.W.excInitIn K (clsK K x) (bmOf x) (newOf x) && (PySem.W.excOver K (clsK K x) (bmOf x) &&
  (decide (PySem.W.findIn K (.ref (clsK K x)) "__setattr__" = some (some (.builtin "object.__setattr__"))) && (PySem.W.hasDictIn K (clsK K x) && (PySem.W.keepIn K (.ref (clsK K x)) &&
  (decide (PySem.W.takerIn K (clsK K x) (fldOf x) = some none) && (decide (PySem.W.findIn K (.ref (clsK K x)) (fldOf x) = some none) && (decide (PySem.W.findIn K (.ref (clsK K x)) "__init__" = some (some (.ref (iniK K (ixOf x))))) &&
  (decide (PySem.W.typeIn K (.ref (iniK K (ixOf x))) = some (.type "function")) && (decide (PySem.W.findIn K (.ref (clsK K x)) "__getattribute__" = some (some (.builtin "BaseException.__getattribute__"))) && (decide (PySem.W.findIn K (.ref (clsK K x)) "__getattr__" = some none) &&
  (decide (PySem.W.subIn K (.ref (clsK K x)) (.type "BaseException") = some true) && (decide (PySem.W.findIn K (.ref (clsK K x)) "__class__" = some (some (.builtin "object.__class__"))) && decide (PySem.W.mroIn K (clsK K x) (.type "object") = some true))))))))))))))
def gsB (K : PySem.W.Frag) : Bool := decide (PySem.W.specialIn K (.builtin "object.__class__") "__get__" = some (some (.builtin "getset_descriptor.__get__"))) && decide (PySem.W.takesIn K (.builtin "object.__class__") = some true)
def allB (K : PySem.W.Frag) : Bool := kinds.all (oneB K)
def kinK (K : PySem.W.Frag) : Bool := kinds.all fun x => kinds.all (fun n => decide (PySem.W.kitOne K (.ref (clsK K x)) (.ref (clsK K n)) = some (kinB x n))) && bnames.all fun n => decide (PySem.W.kitOne K (.ref (clsK K x)) (.type n) = some (kinB x (n : Str)))
theorem base_of {K : PySem.W.Frag} {C : Addr} {x : Str} (h1 : PySem.W.excInitIn K C (bmOf x) (newOf x) = true) (h2 : PySem.W.excOver K C (bmOf x) = true) :
    ∃ B newId initId bmB, ExcBaseFacts B newId initId bmB ∧ StoreFacts B bmB "object.__setattr__" "object" ∧ PySem.W.excInitIn K C bmB newId = true ∧ PySem.W.excOver K C bmB = true := by
  unfold bmOf at h1 h2
  unfold newOf at h1
  by_cases a : x = "NoSuch"
  · rw [if_pos a, if_pos a] at h1
    rw [if_pos a] at h2
    exact ⟨_, _, _, _, PySem.F.excBase_LookupError, PySem.F.store_LookupError, h1, h2⟩
  · rw [if_neg a, if_neg a] at h1
    rw [if_neg a] at h2
    by_cases b : x = "Ended"
    · rw [if_pos b, if_pos b] at h1
      rw [if_pos b] at h2
      exact ⟨_, _, _, _, PySem.F.excBase_RuntimeError, PySem.F.store_RuntimeError, h1, h2⟩
    · rw [if_neg b, if_neg b] at h1
      rw [if_neg b] at h2
      exact ⟨_, _, _, _, PySem.F.excBase_ValueError, PySem.F.store_ValueError, h1, h2⟩
theorem one_of {K : PySem.W.Frag} {x : Str} (g : gsB K = true) (h : oneB K x = true) : PySem.W.nsIn K mainGlobals x = some (some (.ref (clsK K x))) ∧ ECls K (clsK K x) (iniK K (ixOf x)) (fldOf x) := by
  unfold oneB at h
  unfold gsB at g
  simp only [Bool.and_eq_true, decide_eq_true_eq] at h g
  obtain ⟨a1, a2, a3, a4, a5, a6, a7, a8, a9, a10, a11, a12, a13, a14, a15⟩ := h
  exact ⟨a1, base_of a2 a3, a4, a5, a6, a7, a8, a9, a10, a11, a12, a13, a14, g.1, g.2, a15⟩
/-! ### their __init__ -/
def clsBody : Stmt → List Stmt
  | .ClassDef (body := b) .. => b
  | _ => []
abbrev stI (i : Nat) : Stmt := (clsBody (top i)).getD 0 (.Pass ⟨0, 0, 0, 0⟩)
/-- what is wanted of an __init__ at fI that keeps f -/
def InitOk (K : PySem.W.Frag) (fI : Addr) (f : Str) : Prop := ∃ fd, Binds K fd ["self", f] [] ∧ (∀ (s' : Shared) (a : Addr) (u : Value), K.In s'.heap → BindsTo s' fd ⟨[.ref a], [(f, u)]⟩ ((["self", f] : List Str).zip [.ref a, u])) ∧
  ∀ (P : Program) (w : World) (mg : Str → Option Value) (base : Heap) (C : Addr), ECls K C fI f → FnOk P w K mg base CX0 1 fI fd ["self", f] (spI C f)
theorem initBadSum {K : PySem.W.Frag} {C fI : Addr} {oc kV doc pm cdv ct : Value} {od an : Option Addr} {osl : Array (Option Value)} (aC : PySem.W.nsIn K mainGlobals "BadSum" = some (some (.ref C))) (aI : PySem.W.findIn K (.ref C) "__init__" = some (some (.ref fI)))
    (lI : K.lookup fI = some ⟨oc, od, .func (PySem.W.fnOf "__init__" "BadSum.__init__" (defArgs (stI 1)) (defBody (stI 1)) (defScope (stI 1)) .none kV doc pm an cdv ct), osl⟩) (cI : PySem.W.codeIn K cdv "BadSum.__init__" = true) (kI : PySem.W.keepIn K (.ref fI) = true) : InitOk K (iniK K "BadSum") "at" := by
  have e : iniK K "BadSum" = fI := by
    have c : clsK K "BadSum" = C := by unfold clsK; rw [aC]
    unfold iniK
    rw [c, aI]
  rw [e]
  have F := fun_mk (st := stI 1) lI cI kI
  have sc : FnScope ["self", "at"] ["self", "at"] (defScope (stI 1)) := ⟨rfl, rfl, rfl, by decide +kernel, rfl, by decide +kernel, by decide +kernel⟩
  refine ⟨_, F.binds (ps := ["self", "at"]) fun _ _ _ _ _ _ us hl => match us, hl with | [_, _], _ => rfl, fun s' a u _ => .of_eq rfl, fun P w mg base C T => ?_⟩
  refine F.ok sc (fun vs H Q E h => ?_) fun cdv A outer s H vs Q E hr h => ?_
  · obtain ⟨a, y, e, _⟩ := h
    rw [e]; rfl
  · obtain ⟨a, y, e, ha, hq⟩ := h
    subst e
    refine ⟨_, pss_one (ps_put (C := C) (fI := fI) T (pv 0) (pv 1)), ?_⟩
    exact ⟨_, rfl, _, rfl, a, rfl, ha, hq⟩
theorem initBadText {K : PySem.W.Frag} {C fI : Addr} {oc kV doc pm cdv ct : Value} {od an : Option Addr} {osl : Array (Option Value)} (aC : PySem.W.nsIn K mainGlobals "BadText" = some (some (.ref C))) (aI : PySem.W.findIn K (.ref C) "__init__" = some (some (.ref fI)))
    (lI : K.lookup fI = some ⟨oc, od, .func (PySem.W.fnOf "__init__" "BadText.__init__" (defArgs (stI 2)) (defBody (stI 2)) (defScope (stI 2)) .none kV doc pm an cdv ct), osl⟩) (cI : PySem.W.codeIn K cdv "BadText.__init__" = true) (kI : PySem.W.keepIn K (.ref fI) = true) : InitOk K (iniK K "BadText") "line" := by
  have e : iniK K "BadText" = fI := by
    have c : clsK K "BadText" = C := by unfold clsK; rw [aC]
    unfold iniK
    rw [c, aI]
  rw [e]
  have F := fun_mk (st := stI 2) lI cI kI
  have sc : FnScope ["self", "line"] ["self", "line"] (defScope (stI 2)) := ⟨rfl, rfl, rfl, by decide +kernel, rfl, by decide +kernel, by decide +kernel⟩
  refine ⟨_, F.binds (ps := ["self", "line"]) fun _ _ _ _ _ _ us hl => match us, hl with | [_, _], _ => rfl, fun s' a u _ => .of_eq rfl, fun P w mg base C T => ?_⟩
  refine F.ok sc (fun vs H Q E h => ?_) fun cdv A outer s H vs Q E hr h => ?_
  · obtain ⟨a, y, e, _⟩ := h
    rw [e]; rfl
  · obtain ⟨a, y, e, ha, hq⟩ := h
    subst e
    refine ⟨_, pss_one (ps_put (C := C) (fI := fI) T (pv 0) (pv 1)), ?_⟩
    exact ⟨_, rfl, _, rfl, a, rfl, ha, hq⟩
theorem initUnlike {K : PySem.W.Frag} {C fI : Addr} {oc kV doc pm cdv ct : Value} {od an : Option Addr} {osl : Array (Option Value)} (aC : PySem.W.nsIn K mainGlobals "Unlike" = some (some (.ref C))) (aI : PySem.W.findIn K (.ref C) "__init__" = some (some (.ref fI)))
    (lI : K.lookup fI = some ⟨oc, od, .func (PySem.W.fnOf "__init__" "Unlike.__init__" (defArgs (stI 14)) (defBody (stI 14)) (defScope (stI 14)) .none kV doc pm an cdv ct), osl⟩) (cI : PySem.W.codeIn K cdv "Unlike.__init__" = true) (kI : PySem.W.keepIn K (.ref fI) = true) : InitOk K (iniK K "Unlike") "what" := by
  have e : iniK K "Unlike" = fI := by
    have c : clsK K "Unlike" = C := by unfold clsK; rw [aC]
    unfold iniK
    rw [c, aI]
  rw [e]
  have F := fun_mk (st := stI 14) lI cI kI
  have sc : FnScope ["self", "what"] ["self", "what"] (defScope (stI 14)) := ⟨rfl, rfl, rfl, by decide +kernel, rfl, by decide +kernel, by decide +kernel⟩
  refine ⟨_, F.binds (ps := ["self", "what"]) fun _ _ _ _ _ _ us hl => match us, hl with | [_, _], _ => rfl, fun s' a u _ => .of_eq rfl, fun P w mg base C T => ?_⟩
  refine F.ok sc (fun vs H Q E h => ?_) fun cdv A outer s H vs Q E hr h => ?_
  · obtain ⟨a, y, e, _⟩ := h
    rw [e]; rfl
  · obtain ⟨a, y, e, ha, hq⟩ := h
    subst e
    refine ⟨_, pss_one (ps_put (C := C) (fI := fI) T (pv 0) (pv 1)), ?_⟩
    exact ⟨_, rfl, _, rfl, a, rfl, ha, hq⟩
theorem initUntold {K : PySem.W.Frag} {C fI : Addr} {oc kV doc pm cdv ct : Value} {od an : Option Addr} {osl : Array (Option Value)} (aC : PySem.W.nsIn K mainGlobals "Untold" = some (some (.ref C))) (aI : PySem.W.findIn K (.ref C) "__init__" = some (some (.ref fI)))
    (lI : K.lookup fI = some ⟨oc, od, .func (PySem.W.fnOf "__init__" "Untold.__init__" (defArgs (stI 15)) (defBody (stI 15)) (defScope (stI 15)) .none kV doc pm an cdv ct), osl⟩) (cI : PySem.W.codeIn K cdv "Untold.__init__" = true) (kI : PySem.W.keepIn K (.ref fI) = true) : InitOk K (iniK K "Untold") "at" := by
  have e : iniK K "Untold" = fI := by
    have c : clsK K "Untold" = C := by unfold clsK; rw [aC]
    unfold iniK
    rw [c, aI]
  rw [e]
  have F := fun_mk (st := stI 15) lI cI kI
  have sc : FnScope ["self", "at"] ["self", "at"] (defScope (stI 15)) := ⟨rfl, rfl, rfl, by decide +kernel, rfl, by decide +kernel, by decide +kernel⟩
  refine ⟨_, F.binds (ps := ["self", "at"]) fun _ _ _ _ _ _ us hl => match us, hl with | [_, _], _ => rfl, fun s' a u _ => .of_eq rfl, fun P w mg base C T => ?_⟩
  refine F.ok sc (fun vs H Q E h => ?_) fun cdv A outer s H vs Q E hr h => ?_
  · obtain ⟨a, y, e, _⟩ := h
    rw [e]; rfl
  · obtain ⟨a, y, e, ha, hq⟩ := h
    subst e
    refine ⟨_, pss_one (ps_put (C := C) (fI := fI) T (pv 0) (pv 1)), ?_⟩
    exact ⟨_, rfl, _, rfl, a, rfl, ha, hq⟩
theorem initNoSuch {K : PySem.W.Frag} {C fI : Addr} {oc kV doc pm cdv ct : Value} {od an : Option Addr} {osl : Array (Option Value)} (aC : PySem.W.nsIn K mainGlobals "NoSuch" = some (some (.ref C))) (aI : PySem.W.findIn K (.ref C) "__init__" = some (some (.ref fI)))
    (lI : K.lookup fI = some ⟨oc, od, .func (PySem.W.fnOf "__init__" "NoSuch.__init__" (defArgs (stI 16)) (defBody (stI 16)) (defScope (stI 16)) .none kV doc pm an cdv ct), osl⟩) (cI : PySem.W.codeIn K cdv "NoSuch.__init__" = true) (kI : PySem.W.keepIn K (.ref fI) = true) : InitOk K (iniK K "NoSuch") "name" := by
  have e : iniK K "NoSuch" = fI := by
    have c : clsK K "NoSuch" = C := by unfold clsK; rw [aC]
    unfold iniK
    rw [c, aI]
  rw [e]
  have F := fun_mk (st := stI 16) lI cI kI
  have sc : FnScope ["self", "name"] ["self", "name"] (defScope (stI 16)) := ⟨rfl, rfl, rfl, by decide +kernel, rfl, by decide +kernel, by decide +kernel⟩
  refine ⟨_, F.binds (ps := ["self", "name"]) fun _ _ _ _ _ _ us hl => match us, hl with | [_, _], _ => rfl, fun s' a u _ => .of_eq rfl, fun P w mg base C T => ?_⟩
  refine F.ok sc (fun vs H Q E h => ?_) fun cdv A outer s H vs Q E hr h => ?_
  · obtain ⟨a, y, e, _⟩ := h
    rw [e]; rfl
  · obtain ⟨a, y, e, ha, hq⟩ := h
    subst e
    refine ⟨_, pss_one (ps_put (C := C) (fI := fI) T (pv 0) (pv 1)), ?_⟩
    exact ⟨_, rfl, _, rfl, a, rfl, ha, hq⟩
theorem initEnded {K : PySem.W.Frag} {C fI : Addr} {oc kV doc pm cdv ct : Value} {od an : Option Addr} {osl : Array (Option Value)} (aC : PySem.W.nsIn K mainGlobals "Ended" = some (some (.ref C))) (aI : PySem.W.findIn K (.ref C) "__init__" = some (some (.ref fI)))
    (lI : K.lookup fI = some ⟨oc, od, .func (PySem.W.fnOf "__init__" "Ended.__init__" (defArgs (stI 17)) (defBody (stI 17)) (defScope (stI 17)) .none kV doc pm an cdv ct), osl⟩) (cI : PySem.W.codeIn K cdv "Ended.__init__" = true) (kI : PySem.W.keepIn K (.ref fI) = true) : InitOk K (iniK K "Ended") "what" := by
  have e : iniK K "Ended" = fI := by
    have c : clsK K "Ended" = C := by unfold clsK; rw [aC]
    unfold iniK
    rw [c, aI]
  rw [e]
  have F := fun_mk (st := stI 17) lI cI kI
  have sc : FnScope ["self", "what"] ["self", "what"] (defScope (stI 17)) := ⟨rfl, rfl, rfl, by decide +kernel, rfl, by decide +kernel, by decide +kernel⟩
  refine ⟨_, F.binds (ps := ["self", "what"]) fun _ _ _ _ _ _ us hl => match us, hl with | [_, _], _ => rfl, fun s' a u _ => .of_eq rfl, fun P w mg base C T => ?_⟩
  refine F.ok sc (fun vs H Q E h => ?_) fun cdv A outer s H vs Q E hr h => ?_
  · obtain ⟨a, y, e, _⟩ := h
    rw [e]; rfl
  · obtain ⟨a, y, e, ha, hq⟩ := h
    subst e
    refine ⟨_, pss_one (ps_put (C := C) (fI := fI) T (pv 0) (pv 1)), ?_⟩
    exact ⟨_, rfl, _, rfl, a, rfl, ha, hq⟩
/-- the six -/
structure Inits (K : PySem.W.Frag) : Prop where
  iBadSum : InitOk K (iniK K "BadSum") "at"
  iBadText : InitOk K (iniK K "BadText") "line"
  iUnlike : InitOk K (iniK K "Unlike") "what"
  iUntold : InitOk K (iniK K "Untold") "at"
  iNoSuch : InitOk K (iniK K "NoSuch") "name"
  iEnded : InitOk K (iniK K "Ended") "what"
theorem inits_all {K : PySem.W.Frag} (h : Inits K) : ∀ x ∈ kinds, InitOk K (iniK K (ixOf x)) (fldOf x) := by
  have key : ∀ x ∈ kinds, (ixOf x, fldOf x) ∈ ([("BadSum", "at"), ("BadText", "line"), ("Unlike", "what"), ("Untold", "at"), ("NoSuch", "name"), ("Ended", "what")] : List (Str × Str)) := by decide +kernel
  intro x hx
  have := key x hx
  simp only [List.mem_cons, List.not_mem_nil, or_false, Prod.mk.injEq] at this
  rcases this with ⟨e1, e2⟩ | ⟨e1, e2⟩ | ⟨e1, e2⟩ | ⟨e1, e2⟩ | ⟨e1, e2⟩ | ⟨e1, e2⟩
  · rw [e1, e2]; exact h.iBadSum
  · rw [e1, e2]; exact h.iBadText
  · rw [e1, e2]; exact h.iUnlike
  · rw [e1, e2]; exact h.iUntold
  · rw [e1, e2]; exact h.iNoSuch
  · rw [e1, e2]; exact h.iEnded
theorem errF_of {K : PySem.W.Frag} {h : Heap} {mg : Str → Option Value} (X : K.In h) (G : h.Ns mainGlobals mg) (g : gsB K = true) (a : allB K = true) (k : kinK K = true) (ini : Inits K) (nb : ∀ n ∈ bnames, PySem.W.nsIn K mainGlobals (n : Str) = some none) (P : Program) (w : World) (base : Heap) : ErrF ⟨P, w, K, mg, base⟩ := by
  have one : ∀ x ∈ kinds, oneB K x = true := List.all_eq_true.mp a
  have cl : ∀ x ∈ kinds, mg x = some (.ref (clsK K x)) := fun x hx => PySem.W.mg_of X G (one_of g (one x hx)).1
  have ec : ∀ x ∈ kinds, clsOf ⟨P, w, K, mg, base⟩ x = clsK K x := fun x hx => by
    unfold clsOf
    rw [show (Gm.mg ⟨P, w, K, mg, base⟩) x = some (.ref (clsK K x)) from cl x hx]
  have kk := List.all_eq_true.mp k
  refine ⟨fun x hx => ?_, fun x hx n hn => ?_, fun x hx n hn => ?_, fun n hn => PySem.W.mg_none_of X G (nb n hn)⟩
  · rw [ec x hx]
    obtain ⟨fd, b1, b2, b3⟩ := inits_all ini x hx
    have T := (one_of g (one x hx)).2
    exact ⟨cl x hx, _, fd, T, b1, b2, b3 P w mg base _ T⟩
  · rw [ec x hx, ec n hn]
    have := kk x hx
    rw [Bool.and_eq_true] at this
    exact of_decide_eq_true (List.all_eq_true.mp this.1 n hn)
  · rw [ec x hx]
    have := kk x hx
    rw [Bool.and_eq_true] at this
    exact of_decide_eq_true (List.all_eq_true.mp this.2 n hn)
/-! ### the defs -/
def DF (K : PySem.W.Frag) (mg : Str → Option Value) (x : Str) (st : Stmt) (ps : List Str) : Prop := ∃ (f : Addr) (fd : FuncData), Fun K x x st f fd ∧ mg x = some (.ref f) ∧ Binds K fd ps []
theorem df_mk {K : PySem.W.Frag} {h : Heap} {mg : Str → Option Value} {x : Str} {st : Stmt} {f : Addr} {oc kV doc pm cdv ct : Value} {od an : Option Addr} {osl : Array (Option Value)} (ps : List Str) (X : K.In h) (G : h.Ns mainGlobals mg)
    (hb : ∀ (kV doc pm : Value) (an : Option Addr) (cdv ct : Value) (us : List Value), us.length = ps.length → bindArgs (PySem.W.fnOf x x (defArgs st) (defBody st) (defScope st) .none kV doc pm an cdv ct) ⟨us, []⟩ = pure (ps.zip us))
    (a : PySem.W.nsIn K mainGlobals x = some (some (.ref f))) (l : K.lookup f = some ⟨oc, od, .func (PySem.W.fnOf x x (defArgs st) (defBody st) (defScope st) .none kV doc pm an cdv ct), osl⟩) (c : PySem.W.codeIn K cdv x = true) (k : PySem.W.keepIn K (.ref f) = true) : DF K mg x st ps :=
  ⟨f, _, fun_mk l c k, PySem.W.mg_of X G a, (fun_mk l c k).binds hb⟩
theorem kb_one {G : Gm} {x y : Str} {st : Stmt} {f : Addr} {fd : FuncData} (F : Fun G.K x x st f fd) (hm : G.mg x = some (.ref f)) (hp : (defArgs st).args.map (·.arg) = [y])
    (h1 : ∀ (kV doc pm : Value) (an : Option Addr) (cdv ct u : Value), bindArgs (PySem.W.fnOf x x (defArgs st) (defBody st) (defScope st) .none kV doc pm an cdv ct) ⟨[u], []⟩ = pure [(y, u)])
    (h2 : ∀ (kV doc pm : Value) (an : Option Addr) (cdv ct u : Value), bindArgs (PySem.W.fnOf x x (defArgs st) (defBody st) (defScope st) .none kV doc pm an cdv ct) ⟨[], [(y, u)]⟩ = pure [(y, u)]) : KB G x [y] false := by
  obtain ⟨oc, od, kV, doc, pm, an, cdv, ct, osl, rfl, lk, hcd⟩ := F.ex
  refine ⟨f, _, oc, od, osl, hm, lk, ⟨fun s us ws hK hl => ?_, fun {vs us zs ws} r1 r2 => ?_⟩⟩
  · have hl' : (us ++ ws).length = 1 := by
      have h3 : (gK false us ws).length = ((defArgs st).args.map (·.arg)).length := hl
      rw [hp] at h3
      exact h3
    show BindsTo s _ ⟨us, ([y] : List Str).zip ws⟩ (((defArgs st).args.map (·.arg)).zip (us ++ ws))
    rw [hp]
    match us, ws, hl' with
    | [u], [], _ => exact .of_eq (h1 kV doc pm an cdv ct u)
    | [], [u], _ => exact .of_eq (h2 kV doc pm an cdv ct u)
  · exact r1.append r2
/-- ratio -/
def RF (K : PySem.W.Frag) (mg : Str → Option Value) : Prop := ∃ (f : Addr) (fd : FuncData), FunDf K "ratio" (top 31) [.int 1] f fd ∧ mg "ratio" = some (.ref f)
theorem rf_mk {K : PySem.W.Frag} {h : Heap} {mg : Str → Option Value} {f T : Addr} {oc kV doc pm cdv ct : Value} {od od2 an : Option Addr} {osl osl2 : Array (Option Value)} {t : Tok} {n : Nat} (X : K.In h) (G : h.Ns mainGlobals mg)
    (a : PySem.W.nsIn K mainGlobals "ratio" = some (some (.ref f))) (l : K.lookup f = some ⟨oc, od, .func (PySem.W.fnOf "ratio" "ratio" (defArgs (top 31)) (defBody (top 31)) (defScope (top 31)) (.ref T) kV doc pm an cdv ct), osl⟩) (c : PySem.W.codeIn K cdv "ratio" = true) (k : PySem.W.keepIn K (.ref f) = true)
    (lT : K.lookup T = some ⟨.type "tuple", od2, .seq #[.int 1 t] n, osl2⟩) : RF K mg :=
  ⟨f, _, ⟨⟨oc, od, _, kV, doc, pm, an, cdv, ct, osl, rfl, l, c, .inr ⟨by simp, T, _, [.int 1 t], n, rfl, lT, rfl, .cons ⟨t, rfl⟩ .nil⟩, .inl rfl⟩, k⟩, PySem.W.mg_of X G a⟩
structure Defs (K : PySem.W.Frag) (mg : Str → Option Value) : Prop where
  d21 : DF K mg "common_divisor" (top 21) ["one", "other"]
  d22 : DF K mg "lowest" (top 22) ["top", "bottom"]
  d23 : DF K mg "made" (top 23) ["value"]
  d24 : DF K mg "negated" (top 24) ["number"]
  d25 : DF K mg "whole_text" (top 25) ["number"]
  d26 : DF K mg "whole_of" (top 26) ["digits"]
  d27 : DF K mg "is_whole" (top 27) ["word"]
  d28 : DF K mg "read_number" (top 28) ["word"]
  d29 : DF K mg "number_text" (top 29) ["number"]
  d32 : DF K mg "ratio_text" (top 32) ["number"]
  d33 : DF K mg "read_ratio" (top 33) ["text"]
  d35 : DF K mg "_law_bag" (top 35) ["script"]
  d36 : DF K mg "_law_draw" (top 36) ["bag", "many"]
  d37 : DF K mg "_law_of" (top 37) ["bag", "menu"]
  d38 : DF K mg "_law_like" (top 38) ["told", "due"]
  d39 : DF K mg "_law_gcd" (top 39) ["up", "low"]
  d40 : DF K mg "_law_frac" (top 40) ["up", "low"]
  d41 : DF K mg "_law_word" (top 41) ["p"]
  d42 : DF K mg "_law_number" (top 42) ["word"]
  d43 : DF K mg "_law_error" (top 43) ["kind", "thing", "named"]
  d44 : DF K mg "_law_field" (top 44) ["e", "kind"]
  d45 : DF K mg "_law_kin" (top 45) ["e"]
  d46 : DF K mg "_law_due_kin" (top 46) ["kind"]
  d47 : DF K mg "_law_figures" (top 47) ["bag", "most"]
  d48 : DF K mg "_law_string" (top 48) ["bag", "known"]
  d49 : DF K mg "law" (top 49) ["script"]
  r : RF K mg
/-- all that the top has written -/
structure FX (K : PySem.W.Frag) (mg : Str → Option Value) : Prop where
  defs : Defs K mg
  bi : ∀ (P : Program) (w : World) (base : Heap), Bi ⟨P, w, K, mg, base⟩
  pie : ∃ t, mg "PIECE" = some (.int 3600 t)
  err : ∀ (P : Program) (w : World) (base : Heap), ErrF ⟨P, w, K, mg, base⟩
theorem law_of {K : PySem.W.Frag} {mg : Str → Option Value} (X : FX K mg) : ∃ (f : Addr) (fd : FuncData), mg "law" = some (.ref f) ∧ (∀ (s : Shared) (u : Value), BindsTo s fd ⟨[u], []⟩ [("script", u)]) ∧ ∀ (P : Program) (w : World) (base : Heap), FnOk P w K mg base CX0 6 f fd ["script"] (spOf (cLaw K)) := by
  have D := X.defs
  obtain ⟨a21, fd21, F21, m21, b21⟩ := D.d21
  obtain ⟨a22, fd22, F22, m22, b22⟩ := D.d22
  obtain ⟨a23, fd23, F23, m23, b23⟩ := D.d23
  obtain ⟨a24, fd24, F24, m24, b24⟩ := D.d24
  obtain ⟨a25, fd25, F25, m25, b25⟩ := D.d25
  obtain ⟨a26, fd26, F26, m26, b26⟩ := D.d26
  obtain ⟨a27, fd27, F27, m27, b27⟩ := D.d27
  obtain ⟨a28, fd28, F28, m28, b28⟩ := D.d28
  obtain ⟨a29, fd29, F29, m29, b29⟩ := D.d29
  obtain ⟨a32, fd32, F32, m32, b32⟩ := D.d32
  obtain ⟨a33, fd33, F33, m33, b33⟩ := D.d33
  obtain ⟨a35, fd35, F35, m35, b35⟩ := D.d35
  obtain ⟨a36, fd36, F36, m36, b36⟩ := D.d36
  obtain ⟨a37, fd37, F37, m37, b37⟩ := D.d37
  obtain ⟨a38, fd38, F38, m38, b38⟩ := D.d38
  obtain ⟨a39, fd39, F39, m39, b39⟩ := D.d39
  obtain ⟨a40, fd40, F40, m40, b40⟩ := D.d40
  obtain ⟨a41, fd41, F41, m41, b41⟩ := D.d41
  obtain ⟨a42, fd42, F42, m42, b42⟩ := D.d42
  obtain ⟨a43, fd43, F43, m43, b43⟩ := D.d43
  obtain ⟨a44, fd44, F44, m44, b44⟩ := D.d44
  obtain ⟨a45, fd45, F45, m45, b45⟩ := D.d45
  obtain ⟨a46, fd46, F46, m46, b46⟩ := D.d46
  obtain ⟨a47, fd47, F47, m47, b47⟩ := D.d47
  obtain ⟨a48, fd48, F48, m48, b48⟩ := D.d48
  obtain ⟨a49, fd49, F49, m49, b49⟩ := D.d49
  obtain ⟨ar, fdr, Fr, mr⟩ := D.r
  have hbind : ∀ (s : Shared) (u : Value), BindsTo s fd49 ⟨[u], []⟩ [("script", u)] := by
    obtain ⟨oc, od, kV, doc, pm, an, cdv, ct, osl, rfl, lk, hcd⟩ := F49.ex
    exact fun s u => .of_eq rfl
  refine ⟨a49, fd49, m49, hbind, fun P w base => ?_⟩
  have B := X.bi P w base
  have E := X.err P w base
  have pie : PieceB ⟨P, w, K, mg, base⟩ := X.pie
  have g21 := f5 (G := ⟨P, w, K, mg, base⟩) F21 m21 b21 B
  have g22 := f6 (G := ⟨P, w, K, mg, base⟩) F22 m22 b22 B g21
  have g23 := f8 (G := ⟨P, w, K, mg, base⟩) F23 m23 b23 B g22
  have g24 := q24 (G := ⟨P, w, K, mg, base⟩) F24 m24 b24 
  have g25 := q25 (G := ⟨P, w, K, mg, base⟩) F25 m25 b25 B
  have g26 := q26 (G := ⟨P, w, K, mg, base⟩) F26 m26 b26 B pie
  have g27 := q27 (G := ⟨P, w, K, mg, base⟩) F27 m27 b27 
  have g28 := q28 (G := ⟨P, w, K, mg, base⟩) F28 m28 b28 g24 g27 g26 g21
  have g29 := q29 (G := ⟨P, w, K, mg, base⟩) F29 m29 b29 g25
  have gr := q31 (G := ⟨P, w, K, mg, base⟩) Fr mr g22
  have gri := q31i (G := ⟨P, w, K, mg, base⟩) Fr mr gr
  have g32 := q32 (G := ⟨P, w, K, mg, base⟩) F32 m32 b32 g29 g23
  have g33 := q33 (G := ⟨P, w, K, mg, base⟩) F33 m33 b33 g28
  have g35 := f24 (G := ⟨P, w, K, mg, base⟩) F35 m35 b35 B
  have g36 := f25 (G := ⟨P, w, K, mg, base⟩) F36 m36 b36 B
  have g37 := f26 (G := ⟨P, w, K, mg, base⟩) F37 m37 b37 B g36
  have g37t := q37 (G := ⟨P, w, K, mg, base⟩) F37 m37 b37 B g36
  have g38 := f28 (G := ⟨P, w, K, mg, base⟩) F38 m38 b38 B
  have g39 := f29 (G := ⟨P, w, K, mg, base⟩) F39 m39 b39 B
  have g40 := f30 (G := ⟨P, w, K, mg, base⟩) F40 m40 b40 B g39
  have g41 := q41 (G := ⟨P, w, K, mg, base⟩) F41 m41 b41 B
  have g42 := q42 (G := ⟨P, w, K, mg, base⟩) F42 m42 b42 B g39
  have g43 := q43 (G := ⟨P, w, K, mg, base⟩) F43 m43 b43 E
  have g44 := q44 (G := ⟨P, w, K, mg, base⟩) F44 m44 b44 E
  have g45 := q45 (G := ⟨P, w, K, mg, base⟩) F45 m45 b45 B E
  have g46 := q46 (G := ⟨P, w, K, mg, base⟩) F46 m46 b46 B
  have g47 := q47 (G := ⟨P, w, K, mg, base⟩) F47 m47 b47 B g36
  have g48 := q48 (G := ⟨P, w, K, mg, base⟩) F48 m48 b48 B g36 g37 g37t g47 g40 g41
  have Fs : LF ⟨P, w, K, mg, base⟩ := { B := B, E := E, bag := g35, draw := g36, of := g37, like := g38 3, fig := g47, frac := g40, word := g41, num := g42, str := g48, err := g43, fld := g44, kin := g45, due := g46, ratio := gr, ratioI := gri, kratio := kb_ratio (G := ⟨P, w, K, mg, base⟩) Fr mr, rtext := g32, krtext := kb_one (G := ⟨P, w, K, mg, base⟩) F32 m32 rfl (fun _ _ _ _ _ _ _ => rfl) (fun _ _ _ _ _ _ _ => rfl), read := g33, kread := kb_one (G := ⟨P, w, K, mg, base⟩) F33 m33 rfl (fun _ _ _ _ _ _ _ => rfl) (fun _ _ _ _ _ _ _ => rfl) }
  obtain ⟨f, fd, ps, h1, h2, h3, h4, ⟨⟨oc, od, osl, lk⟩, hps⟩⟩ := (q49 (G := ⟨P, w, K, mg, base⟩) F49 m49 b49 Fs).ex
  have ef : f = a49 := by
    have z : some (Value.ref f) = some (Value.ref a49) := h1.symm.trans m49
    exact Value.ref.inj (Option.some.inj z)
  subst ef
  obtain ⟨oc', od', kV, doc, pm, an, cdv, ct, osl', efd, lk', _⟩ := F49.ex
  have efd2 : fd = fd49 := by
    have z := congrArg Obj.data (Option.some.inj (lk.symm.trans lk'))
    exact Data.func.inj z
  subst efd2
  have eps : ps = (["script"] : List Str) := by
    rw [← hps, efd]; rfl
  subst eps
  exact h4
/-- the law's promise at its call -/
theorem law_sp {K : PySem.W.Frag} {H : Hp} {a : Addr} {ns : List Int} (hns : ns.length ≤ 63) (hS : SqL K H a (ns.map V.int)) : spOf (cLaw K) [.ref a] H (fun v _ => v = .bl true) fun _ _ _ => False := by
  obtain ⟨R, hR, hle, hnt⟩ : ∃ R : Hp, SqL K R a (ns.map V.int) ∧ LeR R H ∧ ∀ b ps, R b ≠ some (.tbl ps) := by
    rcases hS with h | h
    · refine ⟨upd (fun _ => none) a (.lst (ns.map V.int)), .inl (.inl upd_same), fun b o e => ?_, fun b ps e => ?_⟩
      · by_cases hb : b = a
        · subst hb
          rw [upd_same] at e
          cases e
          exact h.imp id fun ⟨o, h⟩ => ⟨trivial, o, h⟩
        · rw [upd_ne hb] at e; cases e
      · by_cases hb : b = a
        · subst hb; rw [upd_same] at e; cases e
        · rw [upd_ne hb] at e; cases e
    · exact ⟨fun _ => none, .inr h, fun b o e => (by cases e), fun b ps e => (by cases e)⟩
  have hpr : ∀ l : List Int, Paired (rI.rel R) (l.map V.int) l := fun l => by
    induction l with
    | nil => exact .nil
    | cons i l ih => exact .cons rfl ih
  have ok0 : Ok (fun _ => none) R R H (([.ref a] : List V).map some) [.im (rSc K) ns] := by
    refine ⟨rfl, fun b o e => (by cases e), hle, Le.refl R, fun _ h _ => h, ?_, fun i k p e o => rfl, ?_, hnt⟩
    · intro i k e
      match i, e with
      | 0, e => cases e; exact .inr ⟨.ref a, rfl, a, _, rfl, hR, hpr ns⟩
    · intro i j k l p e1 e2 o1 o2
      match i, e1 with
      | 0, e1 => cases e1; exact o1.elim
  refine ⟨fun _ => none, R, R, [.im (rSc K) ns], fun x _ => x = .im rB true, ok0, ⟨ns, rfl, by omega, rfl⟩, fun x ks' v R' H' e l ok w => ?_⟩
  subst e
  exact w.rel
theorem walk0 {l : PySem.W.OpenLaw} {q : Program} {loose : List Str} {XP : (Str → Option Value) → Heap → Prop} {YP : World → Heap → Prop} {d : DefRec} {K : Params → PySem.W.Frag} (hn : l.most = some 63) (hdf : d.params.defaults = []) (hdn : d.name = "law")
    (hY : ∀ (w : World) (h : Heap), YP w h → (K w.params).In h)
    (F : ∀ (w : World) (mg : Str → Option Value) (h : Heap), (K w.params).In h → h.Ns mainGlobals mg → FX (K w.params) mg) :
    PySem.W.WalkO q loose XP YP l.row.toRowW d [] (fun f vs => PySem.call f vs) := by
  refine L2.walk_ofK (n := 63) (k := 6) (x := "script") (CX := CX0) (sp := fun K => spOf (cLaw K)) hn (by decide) hdf ⟨rfl, by decide, by decide⟩ hY (fun w mg fa h KX G hmg => ?_) (fun K H a ns hl _ hS => law_sp hl hS) fun _ _ _ _ z => z
  obtain ⟨f, fd, h1, h2, h3⟩ := law_of (F w mg h KX G)
  rw [hdn] at hmg
  have e := hmg.symm.trans h1
  cases e
  exact ⟨fd, h2, fun base _ _ => h3 l.prog w base⟩
theorem bi_mk {K : PySem.W.Frag} {h : Heap} {mg : Str → Option Value} (X : K.In h) (G : h.Ns mainGlobals mg)
    (z_abs : PySem.W.nsIn K mainGlobals "abs" = some none)
    (z_len : PySem.W.nsIn K mainGlobals "len" = some none)
    (z_isi : PySem.W.nsIn K mainGlobals "isinstance" = some none)
    (z_int : PySem.W.nsIn K mainGlobals "int" = some none)
    (z_str : PySem.W.nsIn K mainGlobals "str" = some none)
    (z_bool : PySem.W.nsIn K mainGlobals "bool" = some none)
    (z_tuple : PySem.W.nsIn K mainGlobals "tuple" = some none)
    (z_list : PySem.W.nsIn K mainGlobals "list" = some none)
    (z_dict : PySem.W.nsIn K mainGlobals "dict" = some none)
    (z_range : PySem.W.nsIn K mainGlobals "range" = some none)
    (z_zip : PySem.W.nsIn K mainGlobals "zip" = some none)
    (z_enum : PySem.W.nsIn K mainGlobals "enumerate" = some none)
    (z_min : PySem.W.nsIn K mainGlobals "min" = some none)
    (z_sorted : PySem.W.nsIn K mainGlobals "sorted" = some none)
    (z_repr : PySem.W.nsIn K mainGlobals "repr" = some none)
    (P : Program) (w : World) (base : Heap) : Bi ⟨P, w, K, mg, base⟩ where
  abs := PySem.W.mg_none_of X G z_abs
  len := PySem.W.mg_none_of X G z_len
  isi := PySem.W.mg_none_of X G z_isi
  int := PySem.W.mg_none_of X G z_int
  str := PySem.W.mg_none_of X G z_str
  bool := PySem.W.mg_none_of X G z_bool
  tuple := PySem.W.mg_none_of X G z_tuple
  list := PySem.W.mg_none_of X G z_list
  dict := PySem.W.mg_none_of X G z_dict
  range := PySem.W.mg_none_of X G z_range
  zip := PySem.W.mg_none_of X G z_zip
  enum := PySem.W.mg_none_of X G z_enum
  min := PySem.W.mg_none_of X G z_min
  sorted := PySem.W.mg_none_of X G z_sorted
  repr := PySem.W.mg_none_of X G z_repr
theorem fx_mk {K : PySem.W.Frag} {h : Heap} {mg : Str → Option Value} {t : Tok} (X : K.In h) (G : h.Ns mainGlobals mg) (D : Defs K mg) (B : ∀ (P : Program) (w : World) (base : Heap), Bi ⟨P, w, K, mg, base⟩) (pie : PySem.W.nsIn K mainGlobals "PIECE" = some (some (.int 3600 t)))
    (ini : Inits K)
    (nValueError : PySem.W.nsIn K mainGlobals "ValueError" = some none)
    (nLookupError : PySem.W.nsIn K mainGlobals "LookupError" = some none)
    (nKeyError : PySem.W.nsIn K mainGlobals "KeyError" = some none)
    (nIndexError : PySem.W.nsIn K mainGlobals "IndexError" = some none)
    (nRuntimeError : PySem.W.nsIn K mainGlobals "RuntimeError" = some none)
    (nArithmeticError : PySem.W.nsIn K mainGlobals "ArithmeticError" = some none)
    (gs : gsB K = true) (al : allB K = true) (ki : kinK K = true) : FX K mg :=
  ⟨D, B, ⟨t, PySem.W.mg_of X G pie⟩, errF_of X G gs al ki ini fun n hn => by
    unfold bnames at hn
    simp only [List.mem_cons, List.not_mem_nil, or_false] at hn
    rcases hn with e | e | e | e | e | e <;> subst e
    · exact nValueError
    · exact nLookupError
    · exact nKeyError
    · exact nIndexError
    · exact nRuntimeError
    · exact nArithmeticError⟩
end T
end
section
set_option Elab.async false
set_option linter.all false
set_option maxRecDepth 100000
set_option maxHeartbeats 4000000
open PySem PySem.W PyProof.Rows
set_option maxRecDepth 100000 in
set_option maxHeartbeats 0 in
theorem PySem.Challenge.cw_mutehelms_k00_errors_and_numbers_holds : PySem.Challenge.rw_mutehelms_k00_errors_and_numbers.Holds := by
  w_on; o_law; k_head; (case hw => w_witness2)
  k_fill
  refine T.walk0 (l := PySem.Challenge.rw_mutehelms_k00_errors_and_numbers) rfl rfl rfl (fun w h Y => PySem.W.kIn_of Y) ?F
  case F =>
    intro w mg h KX G
    refine' T.fx_mk KX G ⟨?d21, ?d22, ?d23, ?d24, ?d25, ?d26, ?d27, ?d28, ?d29, ?d32, ?d33, ?d35, ?d36, ?d37, ?d38, ?d39, ?d40, ?d41, ?d42, ?d43, ?d44, ?d45, ?d46, ?d47, ?d48, ?d49, ?r⟩ ?bi ?pie ⟨?iBadSum, ?iBadText, ?iUnlike, ?iUntold, ?iNoSuch, ?iEnded⟩ ?nValueError ?nLookupError ?nKeyError ?nIndexError ?nRuntimeError ?nArithmeticError ?gs ?al ?ki
    case d21 =>
      refine' T.df_mk ["one", "other"] KX G (fun _ _ _ _ _ _ us hl => match us, hl with | [_, _], _ => rfl) ?a ?l ?c ?k
      (case a => k_is); (case l => k_is); (case c => k_is); (case k => k_is)
    case d22 =>
      refine' T.df_mk ["top", "bottom"] KX G (fun _ _ _ _ _ _ us hl => match us, hl with | [_, _], _ => rfl) ?a ?l ?c ?k
      (case a => k_is); (case l => k_is); (case c => k_is); (case k => k_is)
    case d23 =>
      refine' T.df_mk ["value"] KX G (fun _ _ _ _ _ _ us hl => match us, hl with | [_], _ => rfl) ?a ?l ?c ?k
      (case a => k_is); (case l => k_is); (case c => k_is); (case k => k_is)
    case d24 =>
      refine' T.df_mk ["number"] KX G (fun _ _ _ _ _ _ us hl => match us, hl with | [_], _ => rfl) ?a ?l ?c ?k
      (case a => k_is); (case l => k_is); (case c => k_is); (case k => k_is)
    case d25 =>
      refine' T.df_mk ["number"] KX G (fun _ _ _ _ _ _ us hl => match us, hl with | [_], _ => rfl) ?a ?l ?c ?k
      (case a => k_is); (case l => k_is); (case c => k_is); (case k => k_is)
    case d26 =>
      refine' T.df_mk ["digits"] KX G (fun _ _ _ _ _ _ us hl => match us, hl with | [_], _ => rfl) ?a ?l ?c ?k
      (case a => k_is); (case l => k_is); (case c => k_is); (case k => k_is)
    case d27 =>
      refine' T.df_mk ["word"] KX G (fun _ _ _ _ _ _ us hl => match us, hl with | [_], _ => rfl) ?a ?l ?c ?k
      (case a => k_is); (case l => k_is); (case c => k_is); (case k => k_is)
    case d28 =>
      refine' T.df_mk ["word"] KX G (fun _ _ _ _ _ _ us hl => match us, hl with | [_], _ => rfl) ?a ?l ?c ?k
      (case a => k_is); (case l => k_is); (case c => k_is); (case k => k_is)
    case d29 =>
      refine' T.df_mk ["number"] KX G (fun _ _ _ _ _ _ us hl => match us, hl with | [_], _ => rfl) ?a ?l ?c ?k
      (case a => k_is); (case l => k_is); (case c => k_is); (case k => k_is)
    case d32 =>
      refine' T.df_mk ["number"] KX G (fun _ _ _ _ _ _ us hl => match us, hl with | [_], _ => rfl) ?a ?l ?c ?k
      (case a => k_is); (case l => k_is); (case c => k_is); (case k => k_is)
    case d33 =>
      refine' T.df_mk ["text"] KX G (fun _ _ _ _ _ _ us hl => match us, hl with | [_], _ => rfl) ?a ?l ?c ?k
      (case a => k_is); (case l => k_is); (case c => k_is); (case k => k_is)
    case d35 =>
      refine' T.df_mk ["script"] KX G (fun _ _ _ _ _ _ us hl => match us, hl with | [_], _ => rfl) ?a ?l ?c ?k
      (case a => k_is); (case l => k_is); (case c => k_is); (case k => k_is)
    case d36 =>
      refine' T.df_mk ["bag", "many"] KX G (fun _ _ _ _ _ _ us hl => match us, hl with | [_, _], _ => rfl) ?a ?l ?c ?k
      (case a => k_is); (case l => k_is); (case c => k_is); (case k => k_is)
    case d37 =>
      refine' T.df_mk ["bag", "menu"] KX G (fun _ _ _ _ _ _ us hl => match us, hl with | [_, _], _ => rfl) ?a ?l ?c ?k
      (case a => k_is); (case l => k_is); (case c => k_is); (case k => k_is)
    case d38 =>
      refine' T.df_mk ["told", "due"] KX G (fun _ _ _ _ _ _ us hl => match us, hl with | [_, _], _ => rfl) ?a ?l ?c ?k
      (case a => k_is); (case l => k_is); (case c => k_is); (case k => k_is)
    case d39 =>
      refine' T.df_mk ["up", "low"] KX G (fun _ _ _ _ _ _ us hl => match us, hl with | [_, _], _ => rfl) ?a ?l ?c ?k
      (case a => k_is); (case l => k_is); (case c => k_is); (case k => k_is)
    case d40 =>
      refine' T.df_mk ["up", "low"] KX G (fun _ _ _ _ _ _ us hl => match us, hl with | [_, _], _ => rfl) ?a ?l ?c ?k
      (case a => k_is); (case l => k_is); (case c => k_is); (case k => k_is)
    case d41 =>
      refine' T.df_mk ["p"] KX G (fun _ _ _ _ _ _ us hl => match us, hl with | [_], _ => rfl) ?a ?l ?c ?k
      (case a => k_is); (case l => k_is); (case c => k_is); (case k => k_is)
    case d42 =>
      refine' T.df_mk ["word"] KX G (fun _ _ _ _ _ _ us hl => match us, hl with | [_], _ => rfl) ?a ?l ?c ?k
      (case a => k_is); (case l => k_is); (case c => k_is); (case k => k_is)
    case d43 =>
      refine' T.df_mk ["kind", "thing", "named"] KX G (fun _ _ _ _ _ _ us hl => match us, hl with | [_, _, _], _ => rfl) ?a ?l ?c ?k
      (case a => k_is); (case l => k_is); (case c => k_is); (case k => k_is)
    case d44 =>
      refine' T.df_mk ["e", "kind"] KX G (fun _ _ _ _ _ _ us hl => match us, hl with | [_, _], _ => rfl) ?a ?l ?c ?k
      (case a => k_is); (case l => k_is); (case c => k_is); (case k => k_is)
    case d45 =>
      refine' T.df_mk ["e"] KX G (fun _ _ _ _ _ _ us hl => match us, hl with | [_], _ => rfl) ?a ?l ?c ?k
      (case a => k_is); (case l => k_is); (case c => k_is); (case k => k_is)
    case d46 =>
      refine' T.df_mk ["kind"] KX G (fun _ _ _ _ _ _ us hl => match us, hl with | [_], _ => rfl) ?a ?l ?c ?k
      (case a => k_is); (case l => k_is); (case c => k_is); (case k => k_is)
    case d47 =>
      refine' T.df_mk ["bag", "most"] KX G (fun _ _ _ _ _ _ us hl => match us, hl with | [_, _], _ => rfl) ?a ?l ?c ?k
      (case a => k_is); (case l => k_is); (case c => k_is); (case k => k_is)
    case d48 =>
      refine' T.df_mk ["bag", "known"] KX G (fun _ _ _ _ _ _ us hl => match us, hl with | [_, _], _ => rfl) ?a ?l ?c ?k
      (case a => k_is); (case l => k_is); (case c => k_is); (case k => k_is)
    case d49 =>
      refine' T.df_mk ["script"] KX G (fun _ _ _ _ _ _ us hl => match us, hl with | [_], _ => rfl) ?a ?l ?c ?k
      (case a => k_is); (case l => k_is); (case c => k_is); (case k => k_is)
    case r =>
      refine' T.rf_mk KX G ?a ?l ?c ?k ?t
      (case a => k_is); (case l => k_is); (case c => k_is); (case k => k_is); (case t => k_is)
    case bi =>
      refine' T.bi_mk KX G ?b0 ?b1 ?b2 ?b3 ?b4 ?b5 ?b6 ?b7 ?b8 ?b9 ?b10 ?b11 ?b12 ?b13 ?b14
      (case b0 => k_is); (case b1 => k_is); (case b2 => k_is); (case b3 => k_is); (case b4 => k_is); (case b5 => k_is); (case b6 => k_is); (case b7 => k_is); (case b8 => k_is); (case b9 => k_is); (case b10 => k_is); (case b11 => k_is); (case b12 => k_is); (case b13 => k_is); (case b14 => k_is)
    (case pie => k_is)
    case iBadSum =>
      refine' T.initBadSum ?aC ?aI ?lI ?cI ?kI
      (case aC => k_is); (case aI => k_is); (case lI => k_is); (case cI => k_is); (case kI => k_is)
    case iBadText =>
      refine' T.initBadText ?aC ?aI ?lI ?cI ?kI
      (case aC => k_is); (case aI => k_is); (case lI => k_is); (case cI => k_is); (case kI => k_is)
    case iUnlike =>
      refine' T.initUnlike ?aC ?aI ?lI ?cI ?kI
      (case aC => k_is); (case aI => k_is); (case lI => k_is); (case cI => k_is); (case kI => k_is)
    case iUntold =>
      refine' T.initUntold ?aC ?aI ?lI ?cI ?kI
      (case aC => k_is); (case aI => k_is); (case lI => k_is); (case cI => k_is); (case kI => k_is)
    case iNoSuch =>
      refine' T.initNoSuch ?aC ?aI ?lI ?cI ?kI
      (case aC => k_is); (case aI => k_is); (case lI => k_is); (case cI => k_is); (case kI => k_is)
    case iEnded =>
      refine' T.initEnded ?aC ?aI ?lI ?cI ?kI
      (case aC => k_is); (case aI => k_is); (case lI => k_is); (case cI => k_is); (case kI => k_is)
    (case nValueError => k_is); (case nLookupError => k_is); (case nKeyError => k_is); (case nIndexError => k_is); (case nRuntimeError => k_is); (case nArithmeticError => k_is)
    (case gs => kernel_rfl); (case al => kernel_rfl); (case ki => kernel_rfl)
#print axioms PySem.Challenge.cw_mutehelms_k00_errors_and_numbers_holds
end
