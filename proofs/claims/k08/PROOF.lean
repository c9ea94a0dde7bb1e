import PyProof.Rows.All
import Wide.All
import OpenK.AllK
import Wide.FinOn
import PySem.Challenge.RW_tallywindows_k08_whole_times_of_single_e
import HandS.ForMost
import HandS.Exc
import HandS.ExcOwn
import HandS.WordsExc
import HandS.IsInst
import HandS.TupAny
import HandS.TupMul
import HandS.Style
import HandS.Zip
import HandS.Wide
import HandS.SortInts
import HandS.Conv
import KE.GoesMore
import KE.GoesEnum
import HandS.More
import HandS.SetFor
import PyProof.ListRange
import HandS.Sort
import KE.SortData
set_option Elab.async false
set_option linter.all false
set_option maxRecDepth 100000
set_option maxHeartbeats 4000000
/-! A data layer over HandS: values as data, states as lists of cells, constructs as partial functions. -/
namespace TW
open PySem PySem.Spec PyProof.Rows L2

/-! ### data -/
inductive D where
  | non | bl (b : Bool) | int (i : Int) | str (x : Str) | tup (l : List D) | lst (l : List D) | dct (l : List (Int × D)) | scr (ns : List Int) | rf (a : Addr)

mutual
/-- the value v is the data d, by the frozen part F of the heap -/
inductive Dr (K : PySem.W.Frag) (F : Hp) : V → D → Prop
  | non : Dr K F .non .non
  | bl (b : Bool) : Dr K F (.bl b) (.bl b)
  | int (i : Int) : Dr K F (.int i) (.int i)
  | str (x : Str) : Dr K F (.str x) (.str x)
  | tup {a : Addr} {xs : List V} {ds : List D} : F a = some (.tup xs) → DrL K F xs ds → Dr K F (.ref a) (.tup ds)
  | lst {a : Addr} {xs : List V} {ds : List D} : F a = some (.lst xs) → DrL K F xs ds → Dr K F (.ref a) (.lst ds)
  | dct {a : Addr} {ys : List (Key × V)} {ds : List (Int × D)} : F a = some (.dK ys) → DrK K F ys ds → Dr K F (.ref a) (.dct ds)
  | scr {a : Addr} {ns : List Int} : SqL K F a (ns.map V.int) → Dr K F (.ref a) (.scr ns)
  | rf (a : Addr) : Dr K F (.ref a) (.rf a)
inductive DrL (K : PySem.W.Frag) (F : Hp) : List V → List D → Prop
  | nil : DrL K F [] []
  | cons {v : V} {vs : List V} {d : D} {ds : List D} : Dr K F v d → DrL K F vs ds → DrL K F (v :: vs) (d :: ds)
inductive DrK (K : PySem.W.Frag) (F : Hp) : List (Key × V) → List (Int × D) → Prop
  | nil : DrK K F [] []
  | cons {i : Int} {v : V} {vs : List (Key × V)} {d : D} {ds : List (Int × D)} : Dr K F v d → DrK K F vs ds → DrK K F ((.inl i, v) :: vs) ((i, d) :: ds)
end
abbrev Drs (K : PySem.W.Frag) (F : Hp) : List V → List D → Prop := Paired (Dr K F)
def KR (K : PySem.W.Frag) (F : Hp) (x : Key × V) (y : Int × D) : Prop := x.1 = .inl y.1 ∧ Dr K F x.2 y.2
abbrev Krs (K : PySem.W.Frag) (F : Hp) : List (Key × V) → List (Int × D) → Prop := Paired (KR K F)

section
variable {K : PySem.W.Frag} {F F' H H' : Hp}
theorem DrL.p : ∀ {xs : List V} {ds : List D}, DrL K F xs ds → Drs K F xs ds
  | _, _, .nil => .nil
  | _, _, .cons a b => .cons a b.p
theorem DrL.of : ∀ {xs : List V} {ds : List D}, Drs K F xs ds → DrL K F xs ds
  | _, _, .nil => .nil
  | _, _, .cons a b => .cons a (DrL.of b)
theorem DrK.p : ∀ {xs : List (Key × V)} {ds : List (Int × D)}, DrK K F xs ds → Krs K F xs ds
  | _, _, .nil => .nil
  | _, _, .cons a b => .cons ⟨rfl, a⟩ b.p
theorem DrK.of : ∀ {xs : List (Key × V)} {ds : List (Int × D)}, Krs K F xs ds → DrK K F xs ds
  | _, _, .nil => .nil
  | (k, v) :: _, (i, d) :: _, .cons ⟨e, a⟩ b => by
    cases (show k = Sum.inl i from e)
    exact .cons a (DrK.of b)
mutual
theorem Dr.mono (e : Same F F') : ∀ {v : V} {d : D}, Dr K F v d → Dr K F' v d
  | _, _, .non => .non
  | _, _, .bl b => .bl b
  | _, _, .int i => .int i
  | _, _, .str x => .str x
  | _, _, .tup h l => .tup (e _ _ h) (DrL.mono e l)
  | _, _, .lst h l => .lst (e _ _ h) (DrL.mono e l)
  | _, _, .dct h l => .dct (e _ _ h) (DrK.mono e l)
  | _, _, .scr h => .scr (e.seq h)
  | _, _, .rf a => .rf a
theorem DrL.mono (e : Same F F') : ∀ {v : List V} {d : List D}, DrL K F v d → DrL K F' v d
  | _, _, .nil => .nil
  | _, _, .cons a b => .cons (a.mono e) (DrL.mono e b)
theorem DrK.mono (e : Same F F') : ∀ {v : List (Key × V)} {d : List (Int × D)}, DrK K F v d → DrK K F' v d
  | _, _, .nil => .nil
  | _, _, .cons a b => .cons (a.mono e) (DrK.mono e b)
end
theorem Drs.mono (e : Same F F') {v : List V} {d : List D} (h : Drs K F v d) : Drs K F' v d := Paired.mapP h fun _ _ x => x.mono e
theorem KR.mono (e : Same F F') {x : Key × V} {y : Int × D} (h : KR K F x y) : KR K F' x y := ⟨h.1, h.2.mono e⟩
theorem Krs.mono (e : Same F F') {v : List (Key × V)} {d : List (Int × D)} (h : Krs K F v d) : Krs K F' v d := Paired.mapP h fun _ _ x => x.mono e
end

theorem Paired.get? {α β : Type} {R : α → β → Prop} : ∀ {xs : List α} {ys : List β} {i : Nat} {y : β}, Paired R xs ys → ys[i]? = some y → ∃ x, xs[i]? = some x ∧ R x y
  | _, _, _, _, .nil, e => by simp at e
  | _, _, 0, _, .cons r _, e => by simp at e; subst e; exact ⟨_, rfl, r⟩
  | _, _, i + 1, _, .cons _ t, e => by
    obtain ⟨x, h1, h2⟩ := Paired.get? (i := i) t (by simpa using e)
    exact ⟨x, by simpa using h1, h2⟩
theorem Paired.get2? {α β : Type} {R : α → β → Prop} : ∀ {xs : List α} {ys : List β} {i : Nat} {x : α}, Paired R xs ys → xs[i]? = some x → ∃ y, ys[i]? = some y ∧ R x y
  | _, _, _, _, .nil, e => by simp at e
  | _, _, 0, _, .cons r _, e => by simp at e; subst e; exact ⟨_, rfl, r⟩
  | _, _, i + 1, _, .cons _ t, e => by
    obtain ⟨x, h1, h2⟩ := Paired.get2? (i := i) t (by simpa using e)
    exact ⟨x, by simpa using h1, h2⟩
theorem Paired.app {α β : Type} {R : α → β → Prop} : ∀ {xs xs' : List α} {ys ys' : List β}, Paired R xs ys → Paired R xs' ys' → Paired R (xs ++ xs') (ys ++ ys')
  | _, _, _, _, .nil, s => s
  | _, _, _, _, .cons r t, s => .cons r (Paired.app t s)
theorem Paired.take' {α β : Type} {R : α → β → Prop} : ∀ {xs : List α} {ys : List β} (n : Nat), Paired R xs ys → Paired R (xs.take n) (ys.take n)
  | _, _, 0, _ => .nil
  | _, _, _ + 1, .nil => .nil
  | _, _, n + 1, .cons r t => .cons r (Paired.take' n t)
theorem Paired.drop' {α β : Type} {R : α → β → Prop} : ∀ {xs : List α} {ys : List β} (n : Nat), Paired R xs ys → Paired R (xs.drop n) (ys.drop n)
  | _, _, 0, r => r
  | _, _, _ + 1, .nil => .nil
  | _, _, n + 1, .cons _ t => Paired.drop' n t
theorem Paired.set' {α β : Type} {R : α → β → Prop} {x : α} {y : β} (r : R x y) : ∀ {xs : List α} {ys : List β} (i : Nat), Paired R xs ys → Paired R (xs.set i x) (ys.set i y)
  | _, _, _, .nil => .nil
  | _, _, 0, .cons _ t => .cons r t
  | _, _, i + 1, .cons q t => .cons q (Paired.set' r i t)
theorem Paired.len {α β : Type} {R : α → β → Prop} : ∀ {xs : List α} {ys : List β}, Paired R xs ys → xs.length = ys.length
  | _, _, .nil => rfl
  | _, _, .cons _ t => by rw [List.length_cons, List.length_cons, Paired.len t]
/-- ints -/
theorem Drs.ints {K : PySem.W.Frag} {F : Hp} : ∀ {xs : List V} {ns : List Int}, Drs K F xs (ns.map D.int) → xs = ns.map V.int
  | _, [], .nil => rfl
  | _, n :: ns, .cons r t => by
    cases r
    rw [List.map_cons, Drs.ints t]
theorem Drs.ofInts {K : PySem.W.Frag} {F : Hp} : ∀ {ns : List Int}, Drs K F (ns.map V.int) (ns.map D.int)
  | [] => .nil
  | n :: ns => .cons (.int n) Drs.ofInts
theorem Drs.bools {K : PySem.W.Frag} {F : Hp} : ∀ {xs : List V} {ns : List Bool}, Drs K F xs (ns.map D.bl) → xs = ns.map V.bl
  | _, [], .nil => rfl
  | _, n :: ns, .cons r t => by
    cases r
    rw [List.map_cons, Drs.bools t]

/-! ### cells and states -/
inductive C where
  | un | vl (d : D) | ow (p : Bool) (l : List D) | dc (p : Bool) (l : List (Int × D))
def C.own : C → Bool
  | .ow _ _ => true
  | .dc _ _ => true
  | _ => false
def gt : List C → Nat → C
  | [], _ => .un
  | c :: _, 0 => c
  | _ :: r, n + 1 => gt r n
def st : List C → Nat → C → List C
  | [], _, _ => []
  | _ :: r, 0, c => c :: r
  | x :: r, n + 1, c => x :: st r n c
theorem st_len : ∀ (S : List C) (i : Nat) (c : C), (st S i c).length = S.length
  | [], _, _ => rfl
  | _ :: _, 0, _ => rfl
  | _ :: r, n + 1, c => by
    show (st r n c).length + 1 = r.length + 1
    rw [st_len r n c]
theorem gt_st : ∀ {S : List C} {i : Nat} {c : C}, i < S.length → gt (st S i c) i = c
  | [], _, _, h => absurd h (Nat.not_lt_zero _)
  | _ :: _, 0, _, _ => rfl
  | _ :: r, n + 1, c, h => gt_st (S := r) (i := n) (Nat.lt_of_succ_lt_succ h)
theorem gt_ne : ∀ {S : List C} {i j : Nat} {c : C}, j ≠ i → gt (st S i c) j = gt S j
  | [], _, _, _, _ => rfl
  | _ :: _, 0, 0, _, h => absurd rfl h
  | _ :: _, 0, _ + 1, _, _ => rfl
  | _ :: _, _ + 1, 0, _, _ => rfl
  | _ :: r, n + 1, m + 1, c, h => gt_ne (S := r) (i := n) (j := m) fun e => h (by rw [e])
theorem gt_out : ∀ {S : List C} {i : Nat}, S.length ≤ i → gt S i = .un
  | [], _, _ => rfl
  | _ :: _, 0, h => absurd h (Nat.not_succ_le_zero _)
  | _ :: r, n + 1, h => gt_out (S := r) (Nat.le_of_succ_le_succ h)
theorem gt_lt {S : List C} {i : Nat} (h : gt S i ≠ .un) : i < S.length := by
  by_cases q : i < S.length
  · exact q
  · exact absurd (gt_out (by omega)) h
def sg (σ : L2.St) (i : Nat) : Option V := match σ[i]? with
  | some o => o
  | none => none
theorem sg_some {σ : L2.St} {i : Nat} {v : V} (h : sg σ i = some v) : σ[i]? = some (some v) := by
  unfold sg at h
  cases e : σ[i]? with
  | none => rw [e] at h; cases h
  | some o => rw [e] at h; cases h; rfl
theorem sg_set {σ : L2.St} {i : Nat} {v : Option V} (h : i < σ.length) : sg (σ.set i v) i = v := by
  unfold sg
  rw [List.getElem?_set_self h]
theorem sg_ne {σ : L2.St} {i j : Nat} {v : Option V} (h : j ≠ i) : sg (σ.set i v) j = sg σ j := by
  unfold sg
  rw [List.getElem?_set_ne (Ne.symm h)]

/-- what stood at the entry: the frozen part, the heap, the one object that may be changed -/
structure Bs where
  F : Hp
  H : Hp
  M : Option Addr
def Bs.ok (B : Bs) (p : Bool) (a : Addr) : Prop := if p = true then B.M = some a else B.H a = none
def RC (K : PySem.W.Frag) (B : Bs) (F H : Hp) (v : Option V) : C → Prop
  | .un => True
  | .vl d => ∃ x, v = some x ∧ Dr K F x d
  | .ow p l => ∃ a xs, v = some (.ref a) ∧ F a = none ∧ B.ok p a ∧ H a = some (.lst xs) ∧ Drs K F xs l
  | .dc p l => ∃ a ys, v = some (.ref a) ∧ F a = none ∧ B.ok p a ∧ H a = some (.dK ys) ∧ Krs K F ys l

structure Rp (K : PySem.W.Frag) (B : Bs) (F H : Hp) (σ : L2.St) (S : List C) : Prop where
  len : S.length = σ.length
  sub : Same F H
  f0 : Same B.F F
  h0 : ∀ a o, B.H a = some o → B.M ≠ some a → H a = some o
  h1 : ∀ a, B.H a ≠ none → H a ≠ none
  m1 : ∀ a, B.M = some a → B.H a ≠ none
  fr : ∀ a, B.H a ≠ none → B.F a = none → F a = none
  sl : ∀ i, RC K B F H (sg σ i) (gt S i)
  nd : ∀ i j a, (gt S i).own = true → (gt S j).own = true → sg σ i = some (.ref a) → sg σ j = some (.ref a) → i = j

/-- the heap has grown, nothing that stood is changed -/
structure Ext (F H F' H' : Hp) : Prop where
  f : Same F F'
  s : Same F' H'
  h : Same H H'
  n : ∀ a, H a ≠ none → F a = none → F' a = none
theorem Ext.refl {F H : Hp} (s : Same F H) : Ext F H F H := ⟨Same.refl _, s, Same.refl _, fun _ _ h => h⟩
theorem Ext.trans {F H F1 H1 F2 H2 : Hp} (a : Ext F H F1 H1) (b : Ext F1 H1 F2 H2) : Ext F H F2 H2 := by
  refine ⟨a.f.trans b.f, b.s, a.h.trans b.h, fun x h1 h2 => b.n x (fun q => ?_) (a.n x h1 h2)⟩
  exact h1 (a.h.free q)
theorem same_new {H : Hp} {p : Addr} {o : HO} (h : H p = none) : Same H (upd H p o) := fun b x e => by
  rw [upd_ne (ne_of_none e h)]
  exact e
theorem Ext.new {F H : Hp} (s : Same F H) {p : Addr} (h : H p = none) (o : HO) : Ext F H (upd F p o) (upd H p o) := by
  refine ⟨same_new (s.free h), fun b x e => ?_, same_new h, fun a h1 h2 => ?_⟩
  · by_cases q : b = p
    · rw [q, upd_same] at e ⊢; exact e
    · rw [upd_ne q] at e ⊢; exact s _ _ e
  · have q : a ≠ p := fun e => h1 (by rw [e]; exact h)
    rw [upd_ne q]; exact h2
theorem Ext.newH {F H : Hp} (s : Same F H) {p : Addr} (h : H p = none) (o : HO) : Ext F H F (upd H p o) :=
  ⟨Same.refl _, s.trans (same_new h), same_new h, fun _ _ h => h⟩

section
variable {K : PySem.W.Frag} {B : Bs} {F H F' H' : Hp} {σ : L2.St} {S : List C}
theorem RC.mv {v : Option V} {c : C} (e : Ext F H F' H') (h : RC K B F H v c) : RC K B F' H' v c := by
  cases c with
  | un => trivial
  | vl d => obtain ⟨x, h1, h2⟩ := h; exact ⟨x, h1, h2.mono e.f⟩
  | ow p l =>
    obtain ⟨a, xs, h1, h2, h3, h4, h5⟩ := h
    exact ⟨a, xs, h1, e.n a (by rw [h4]; simp) h2, h3, e.h _ _ h4, Drs.mono e.f h5⟩
  | dc p l =>
    obtain ⟨a, xs, h1, h2, h3, h4, h5⟩ := h
    exact ⟨a, xs, h1, e.n a (by rw [h4]; simp) h2, h3, e.h _ _ h4, Krs.mono e.f h5⟩
theorem Rp.mv (e : Ext F H F' H') (h : Rp K B F H σ S) : Rp K B F' H' σ S :=
  ⟨h.len, e.s, h.f0.trans e.f, fun a o h1 h2 => e.h _ _ (h.h0 a o h1 h2), fun a h1 q => h.h1 a h1 (e.h.free q), h.m1, fun a h1 h2 => e.n a (h.h1 a h1) (h.fr a h1 h2), fun i => (h.sl i).mv e, h.nd⟩
theorem Rp.lt (h : Rp K B F H σ S) {i : Nat} (q : gt S i ≠ .un) : i < σ.length := by rw [← h.len]; exact gt_lt q
/-- a slot gets a value -/
theorem Rp.set {v : V} {d : D} (h : Rp K B F H σ S) (i : Nat) (hd : Dr K F v d) : Rp K B F H (σ.set i (some v)) (st S i (.vl d)) := by
  refine ⟨by rw [st_len, List.length_set]; exact h.len, h.sub, h.f0, h.h0, h.h1, h.m1, h.fr, fun j => ?_, fun j k a h1 h2 h3 h4 => ?_⟩
  · by_cases e : j = i
    · subst e
      by_cases hl : j < S.length
      · rw [gt_st hl, sg_set (by rw [← h.len]; exact hl)]
        exact ⟨v, rfl, hd⟩
      · rw [gt_out (by rw [st_len]; omega)]; trivial
    · rw [gt_ne e, sg_ne e]; exact h.sl j
  · have ej : j ≠ i := fun e => by
      subst e
      rw [gt_st (by have := gt_lt (S := st S j (.vl d)) (i := j) (fun q => by rw [q] at h1; cases h1); rw [st_len] at this; exact this)] at h1
      cases h1
    have ek : k ≠ i := fun e => by
      subst e
      rw [gt_st (by have := gt_lt (S := st S k (.vl d)) (i := k) (fun q => by rw [q] at h2; cases h2); rw [st_len] at this; exact this)] at h2
      cases h2
    rw [gt_ne ej] at h1
    rw [gt_ne ek] at h2
    rw [sg_ne ej] at h3
    rw [sg_ne ek] at h4
    exact h.nd j k a h1 h2 h3 h4
/-- a cell is forgotten or said otherwise, not owned -/
theorem Rp.cell {c : C} (h : Rp K B F H σ S) (i : Nat) (hc : RC K B F H (sg σ i) c) (ho : c.own = true → (gt S i).own = true) : Rp K B F H σ (st S i c) := by
  refine ⟨by rw [st_len]; exact h.len, h.sub, h.f0, h.h0, h.h1, h.m1, h.fr, fun j => ?_, fun j k a h1 h2 h3 h4 => ?_⟩
  · by_cases e : j = i
    · subst e
      by_cases hl : j < S.length
      · rw [gt_st hl]; exact hc
      · rw [gt_out (by rw [st_len]; omega)]; trivial
    · rw [gt_ne e]; exact h.sl j
  · have own : ∀ j, (gt (st S i c) j).own = true → (gt S j).own = true := fun j hj => by
      by_cases e : j = i
      · subst e
        have hl : j < S.length := by
          have := gt_lt (S := st S j c) (i := j) (fun q => by rw [q] at hj; cases hj)
          rw [st_len] at this; exact this
        rw [gt_st hl] at hj
        exact ho hj
      · rw [gt_ne e] at hj; exact hj
    exact h.nd j k a (own j h1) (own k h2) h3 h4
theorem Rp.un (h : Rp K B F H σ S) (i : Nat) : Rp K B F H σ (st S i .un) := h.cell i trivial fun q => nomatch q
end

/-! ### results -/
inductive Rs (α : Type) where
  | ok (a : α) (S : List C)
  | er (c : Str) (p : Option D)
abbrev EM (α : Type) := List C → Option (Rs α)
def bnd {α β : Type} (f : EM α) (g : α → EM β) : EM β := fun S => match f S with
  | none => none
  | some (.er c p) => some (.er c p)
  | some (.ok a S') => g a S'
def ret {α : Type} (a : α) : EM α := fun S => some (.ok a S)
def lift {α : Type} (o : Option α) : EM α := fun S => match o with
  | none => none
  | some a => some (.ok a S)

/-- what is wanted of an error -/
def PoX (K : PySem.W.Frag) (mg : Str → Option Value) (E : XK) (B : Bs) (F : Hp) (c : Str) (p : Option D) : Prop :=
  ∀ F' H' σ' S', Rp K B F' H' σ' S' → Same F F' → ∀ C, mg c = some (.ref C) → match p with
    | none => E (.ref C) none H'
    | some d => ∀ x v, B.H x = none → H' x = some (.xd [("pair", v)]) → Dr K F' v d → E (.ref C) (some x) H'
def Po {α : Type} (K : PySem.W.Frag) (mg : Str → Option Value) (E : XK) (B : Bs) (F : Hp) (σ : L2.St) (k : α → List C → Hp → Hp → Prop) : Option (Rs α) → Prop
  | none => False
  | some (.er c p) => PoX K mg E B F c p
  | some (.ok a S') => ∀ F' H', Rp K B F' H' σ S' → Same F F' → k a S' F' H'
section
variable {K : PySem.W.Frag} {mg : Str → Option Value} {E : XK} {B : Bs} {F F1 : Hp} {σ : L2.St} {α β : Type}
theorem PoX.weak {c : Str} {p : Option D} (e : Same F F1) (h : PoX K mg E B F c p) : PoX K mg E B F1 c p := fun F' H' σ' S' R s => h F' H' σ' S' R (e.trans s)
theorem Po.weak {k : α → List C → Hp → Hp → Prop} (e : Same F F1) : ∀ {r : Option (Rs α)}, Po K mg E B F σ k r → Po K mg E B F1 σ k r
  | none, h => h
  | some (.er _ _), h => PoX.weak e h
  | some (.ok _ _), h => fun F' H' R s => h F' H' R (e.trans s)
theorem Po.imp {k k' : α → List C → Hp → Hp → Prop} : ∀ {r : Option (Rs α)}, (∀ a S' F' H', Rp K B F' H' σ S' → Same F F' → k a S' F' H' → k' a S' F' H') → Po K mg E B F σ k r → Po K mg E B F σ k' r
  | none, _, h => h
  | some (.er _ _), _, h => h
  | some (.ok _ _), i, h => fun F' H' R s => i _ _ F' H' R s (h F' H' R s)
theorem Po.bnd {f : EM α} {g : α → EM β} {S : List C} {k : β → List C → Hp → Hp → Prop} (h : Po K mg E B F σ k (bnd f g S)) : Po K mg E B F σ (fun a S1 F1 _ => Po K mg E B F1 σ k (g a S1)) (f S) := by
  unfold TW.bnd at h
  cases e : f S with
  | none => rw [e] at h; exact h
  | some r =>
    rw [e] at h
    cases r with
    | er c p => exact h
    | ok a S1 => exact fun F' H' R s => Po.weak s h
/-- the same, with the next part's own way -/
theorem Po.thn {f : EM α} {g : α → EM β} {S : List C} {k : β → List C → Hp → Hp → Prop} {k' : α → List C → Hp → Hp → Prop} (h : Po K mg E B F σ k (TW.bnd f g S))
    (i : ∀ a S1 F1 H1, Rp K B F1 H1 σ S1 → Same F F1 → Po K mg E B F1 σ k (g a S1) → k' a S1 F1 H1) : Po K mg E B F σ k' (f S) := Po.imp i (Po.bnd h)
end

/-! ### judgements by data -/
def EDr (K : PySem.W.Frag) (mg : Str → Option Value) (E : XK) (t : TE) (f : EM D) : Prop :=
  ∀ B F H σ S (Q : VK), Rp K B F H σ S → Po K mg E B F σ (fun d _ F' H' => ∀ v, Dr K F' v d → Q v H') (f S) → t σ H Q
def TDr (K : PySem.W.Frag) (mg : Str → Option Value) (E : XK) (t : TT) (f : EM Bool) : Prop :=
  ∀ B F H σ S (Q : Bool → Hp → Prop), Rp K B F H σ S → Po K mg E B F σ (fun b _ _ H' => Q b H') (f S) → t σ H Q
def ADr (K : PySem.W.Frag) (mg : Str → Option Value) (E : XK) (t : TA) (f : EM (List D)) : Prop :=
  ∀ B F H σ S (Q : List V → Hp → Prop), Rp K B F H σ S → Po K mg E B F σ (fun ds _ F' H' => ∀ vs, Drs K F' vs ds → Q vs H') (f S) → t σ H Q
structure ED (X : Cx) (E : XK) (e : Expr) (t : TE) (f : EM D) : Prop where
  pe : PE X e t
  dr : EDr X.K X.mg E t f
structure TD (X : Cx) (E : XK) (e : Expr) (t : TT) (f : EM Bool) : Prop where
  pe : PT X e t
  dr : TDr X.K X.mg E t f
structure AD (X : Cx) (E : XK) (es : List Expr) (t : TA) (f : EM (List D)) : Prop where
  pe : PA X es t
  dr : ADr X.K X.mg E t f

/-! ### names, constants -/
def eV (i : Nat) : EM D := fun S => match gt S i with
  | .vl d => some (.ok d S)
  | _ => none
def eC (d : D) : EM D := fun S => some (.ok d S)
section
variable {X : Cx} {E : XK}
theorem dr_v {K : PySem.W.Frag} {mg : Str → Option Value} (i : Nat) : EDr K mg E (tVar i) (eV i) := by
  intro B F H σ S Q R h
  unfold eV at h
  have r := R.sl i
  cases e : gt S i with
  | vl d =>
    rw [e] at h r
    obtain ⟨x, hx, hd⟩ := r
    exact ⟨x, sg_some hx, h F H R (Same.refl _) x hd⟩
  | un => rw [e] at h; exact h.elim
  | ow p l => rw [e] at h; exact h.elim
  | dc p l => rw [e] at h; exact h.elim
theorem dv (i : Nat) {x : Str} {pos : Pos} (hN : X.N[i]? = some x := by rfl) (hv : Vis X.env.scope x := by first | exact Or.inl rfl | exact Or.inr (Or.inl rfl) | exact Or.inr (Or.inr rfl)) (hd : (x == ("__debug__" : Str)) = false := by decide)
    (hcd : (x == ("__classdict__" : Str)) = false := by decide) : ED X E (.Name x pos) (tVar i) (eV i) := ⟨pe_var hN hv hd hcd, dr_v i⟩
theorem dr_c {K : PySem.W.Frag} {mg : Str → Option Value} {v : V} {d : D} (h : ∀ F, Dr K F v d) : EDr K mg E (tC v) (eC d) := fun B F H σ S Q R q => q F H R (Same.refl _) v (h F)
theorem de_int {i : Int} {j pos} : ED X E (.Constant (.int i) j pos) (tC (.int i)) (eC (.int i)) := ⟨pe_int, dr_c fun _ => .int _⟩
theorem de_bl {b : Bool} {j pos} : ED X E (.Constant (.bool b) j pos) (tC (.bl b)) (eC (.bl b)) := ⟨pe_bl, dr_c fun _ => .bl _⟩
theorem de_non {j pos} : ED X E (.Constant .none j pos) (tC .non) (eC .non) := ⟨pe_non, dr_c fun _ => .non⟩
theorem de_str {x : Str} {j pos} : ED X E (.Constant (.str x) j pos) (tC (.str x)) (eC (.str x)) := ⟨pe_str, dr_c fun _ => .str _⟩
theorem de_glob {x : Str} {i : Int} {u : Tok} {pos : Pos} (hg : Gl X x) (hm : X.mg x = some (.int i u)) (hd : (x == ("__debug__" : Str)) = false := by decide) : ED X E (.Name x pos) (tC (.int i)) (eC (.int i)) := ⟨pe_glob hg hm ⟨_, rfl⟩ hd, dr_c fun _ => .int _⟩
end

/-! ### operations on two values -/
structure OpD (X : Cx) (f : Value → Value → Sem Value) (r : R2) (g : D → D → Option D) : Prop where
  op : OpR X f r
  dr : ∀ (mg : Str → Option Value) (E : XK) B F H σ S x y dx dy (Q : VK), Rp X.K B F H σ S → Dr X.K F x dx → Dr X.K F y dy → Po X.K mg E B F σ (fun d _ F' H' => ∀ v, Dr X.K F' v d → Q v H') (lift (g dx dy) S) → r x y H Q
def e2 (g : D → D → Option D) (fa fb : EM D) : EM D := bnd fa fun x => bnd fb fun y => lift (g x y)
section
variable {X : Cx} {E : XK} {a b c : Expr} {ta tb tc : TE} {fa fb fc : EM D} {pos : Pos}
theorem dr_op {f : Value → Value → Sem Value} {r : R2} {g : D → D → Option D} (o : OpD X f r g) (ha : EDr X.K X.mg E ta fa) (hb : EDr X.K X.mg E tb fb) : EDr X.K X.mg E (tOp r ta tb) (e2 g fa fb) := by
  intro B F H σ S Q R h
  refine ha B F H σ S _ R (Po.thn h fun dx S1 F1 H1 R1 s1 h1 x hx => ?_)
  refine hb B F1 H1 σ S1 _ R1 (Po.thn h1 fun dy S2 F2 H2 R2 s2 h2 y hy => ?_)
  exact o.dr X.mg E B F2 H2 σ S2 x y dx dy Q R2 (hx.mono s2) hy h2
theorem de_op {op : Operator} {r : R2} {g : D → D → Option D} (o : OpD X (binaryOp op) r g) (ha : ED X E a ta fa) (hb : ED X E b tb fb) : ED X E (.BinOp a op b pos) (tOp r ta tb) (e2 g fa fb) :=
  ⟨pe_op o.op ha.pe hb.pe, dr_op o ha.dr hb.dr⟩
theorem de_cmp {op : CmpOp} {r : R2} {g : D → D → Option D} (o : OpD X (compareOp op) r g) (ha : ED X E a ta fa) (hb : ED X E b tb fb) (hm : behindInMarks op b = false := by first | exact nobehind _ (by decide) (by decide) | with_unfolding_all rfl) :
    ED X E (.Compare a [op] [b] pos) (tOp r ta tb) (e2 g fa fb) := ⟨pe_cmpR o.op ha.pe hb.pe hm, dr_op o ha.dr hb.dr⟩
/-- a value that is a bool, as a test -/
def eB (f : EM D) : EM Bool := bnd f fun d => match d with
  | .bl b => ret b
  | _ => fun _ => none
theorem tdr_b {K : PySem.W.Frag} {mg : Str → Option Value} {t : TE} {f : EM D} (h : EDr K mg E t f) : TDr K mg E (tB t) (eB f) := by
  intro B F H σ S Q R q
  refine h B F H σ S _ R (Po.thn q fun d S1 F1 H1 R1 s1 h1 v hv => ?_)
  cases hv with
  | bl b => exact ⟨b, rfl, h1 F1 H1 R1 (Same.refl _)⟩
  | _ => exact h1.elim
theorem tdr_t {K : PySem.W.Frag} {mg : Str → Option Value} {t : TE} {f : EM D} (h : EDr K mg E t f) : TDr K mg E (tTest t) (eB f) := tdr_b h
theorem td_cmp {op : CmpOp} {r : R2} {g : D → D → Option D} (o : OpD X (compareOp op) r g) (ha : ED X E a ta fa) (hb : ED X E b tb fb) (hm : behindInMarks op b = false := by first | exact nobehind _ (by decide) (by decide) | with_unfolding_all rfl) :
    TD X E (.Compare a [op] [b] pos) (tTest (tOp r ta tb)) (eB (e2 g fa fb)) := ⟨pt_cmpR o.op ha.pe hb.pe hm, tdr_t (dr_op o ha.dr hb.dr)⟩
theorem td_val {e : Expr} {t : TE} {f : EM D} (h : ED X E e t f) (he : ∀ whole, isTrue e X.env whole = (do let v ← whole; standAt e.pos; holding [v] (truthy v)) := by intro _; rfl) : TD X E e (tB t) (eB f) := ⟨pt_val h.pe he, tdr_b h.dr⟩
/-- a op1 b op2 c -/
def e3 (g g' : D → D → Option D) (fa fb fc : EM D) : EM D := bnd fa fun x => bnd fb fun y => bnd (lift (g x y)) fun z => match z with
  | .bl true => bnd fc fun w => lift (g' y w)
  | .bl false => ret (.bl false)
  | _ => fun _ => none
theorem dr_chain {f f' : Value → Value → Sem Value} {r r' : R2} {g g' : D → D → Option D} (o : OpD X f r g) (o' : OpD X f' r' g') (ha : EDr X.K X.mg E ta fa) (hb : EDr X.K X.mg E tb fb) (hc : EDr X.K X.mg E tc fc) : EDr X.K X.mg E (tChain r r' ta tb tc) (e3 g g' fa fb fc) := by
  intro B F H σ S Q R h
  refine ha B F H σ S _ R (Po.thn h fun dx S1 F1 H1 R1 s1 h1 x hx => ?_)
  refine hb B F1 H1 σ S1 _ R1 (Po.thn h1 fun dy S2 F2 H2 R2 s2 h2 y hy => ?_)
  refine o.dr X.mg E B F2 H2 σ S2 x y dx dy _ R2 (hx.mono s2) hy (Po.thn h2 fun dz S3 F3 H3 R3 s3 h3 z hz => ?_)
  cases hz with
  | bl k =>
    refine ⟨k, rfl, ?_⟩
    cases k with
    | true =>
      rw [if_pos rfl]
      refine hc B F3 H3 σ S3 _ R3 (Po.thn h3 fun dw S4 F4 H4 R4 s4 h4 w' hw => ?_)
      exact o'.dr X.mg E B F4 H4 σ S4 y w' dy dw Q R4 ((hy.mono s3).mono s4) hw h4
    | false =>
      rw [if_neg Bool.false_ne_true]
      exact h3 F3 H3 R3 (Same.refl _) _ (.bl false)
  | _ => exact h3.elim
theorem de_chain {op op' : CmpOp} {r r' : R2} {g g' : D → D → Option D} (o : OpD X (compareOp op) r g) (o' : OpD X (compareOp op') r' g') (ha : ED X E a ta fa) (hb : ED X E b tb fb) (hc : ED X E c tc fc)
    (hm : lastMarks [op, op'] [b, c] = false := by with_unfolding_all rfl) : ED X E (.Compare a [op, op'] [b, c] pos) (tChain r r' ta tb tc) (e3 g g' fa fb fc) :=
  ⟨pe_chain o.op o'.op ha.pe hb.pe hc.pe hm, dr_chain o o' ha.dr hb.dr hc.dr⟩
theorem td_chain {op op' : CmpOp} {r r' : R2} {g g' : D → D → Option D} (o : OpD X (compareOp op) r g) (o' : OpD X (compareOp op') r' g') (ha : ED X E a ta fa) (hb : ED X E b tb fb) (hc : ED X E c tc fc)
    (hm : lastMarks [op, op'] [b, c] = false := by with_unfolding_all rfl) : TD X E (.Compare a [op, op'] [b, c] pos) (tTest (tChain r r' ta tb tc)) (eB (e3 g g' fa fb fc)) :=
  ⟨pt_chain o.op o'.op ha.pe hb.pe hc.pe hm, tdr_t (dr_chain o o' ha.dr hb.dr hc.dr)⟩
end

/-! ### and, or, not, if-else -/
def eAnd (fa fb : EM D) : EM D := bnd fa fun x => match x with
  | .bl true => fb
  | .bl false => ret (.bl false)
  | _ => fun _ => none
def eOr (fa fb : EM D) : EM D := bnd fa fun x => match x with
  | .bl true => ret (.bl true)
  | .bl false => fb
  | _ => fun _ => none
def eNot (fa : EM D) : EM D := bnd fa fun x => match x with
  | .bl b => ret (.bl (!b))
  | _ => fun _ => none
def eIf (fc : EM Bool) (fa fb : EM D) : EM D := bnd fc fun c => if c = true then fa else fb
def tAnd' (fa fb : EM Bool) : EM Bool := bnd fa fun c => if c = true then fb else ret false
def tOr' (fa fb : EM Bool) : EM Bool := bnd fa fun c => if c = true then ret true else fb
def tNot' (fa : EM Bool) : EM Bool := bnd fa fun c => ret (!c)
section
variable {X : Cx} {E : XK} {a b : Expr} {rest : List Expr} {ta tb : TE} {fa fb : EM D} {tA tB' : TT} {gA gB : EM Bool} {pos : Pos} {op : BoolOp}
structure WD (X : Cx) (E : XK) (e : Expr) (t : TT) (f : EM Bool) : Prop where
  pe : PW X e t
  dr : TDr X.K X.mg E t f
theorem de_one (h : ED X E a ta fa) : ED X E (.BoolOp op [a] pos) ta fa := ⟨pe_one h.pe, h.dr⟩
theorem de_and (ha : ED X E a ta fa) (hb : ED X E (.BoolOp .And (b :: rest) pos) tb fb) : ED X E (.BoolOp .And (a :: b :: rest) pos) (tAndV ta tb) (eAnd fa fb) := by
  refine ⟨pe_and ha.pe hb.pe, fun B F H σ S Q R h => ?_⟩
  refine ha.dr B F H σ S _ R (Po.thn h fun dx S1 F1 H1 R1 s1 h1 x hx => ?_)
  cases hx with
  | bl c =>
    refine ⟨c, rfl, ?_⟩
    cases c with
    | true => rw [if_pos rfl]; exact hb.dr B F1 H1 σ S1 Q R1 h1
    | false => rw [if_neg Bool.false_ne_true]; exact h1 F1 H1 R1 (Same.refl _) _ (.bl false)
  | _ => exact h1.elim
theorem de_or (ha : ED X E a ta fa) (hb : ED X E (.BoolOp .Or (b :: rest) pos) tb fb) : ED X E (.BoolOp .Or (a :: b :: rest) pos) (tOrV ta tb) (eOr fa fb) := by
  refine ⟨pe_or ha.pe hb.pe, fun B F H σ S Q R h => ?_⟩
  refine ha.dr B F H σ S _ R (Po.thn h fun dx S1 F1 H1 R1 s1 h1 x hx => ?_)
  cases hx with
  | bl c =>
    refine ⟨c, rfl, ?_⟩
    cases c with
    | true => rw [if_pos rfl]; exact h1 F1 H1 R1 (Same.refl _) _ (.bl true)
    | false => rw [if_neg Bool.false_ne_true]; exact hb.dr B F1 H1 σ S1 Q R1 h1
  | _ => exact h1.elim
theorem de_not (ha : ED X E a ta fa) : ED X E (.UnaryOp .Not a pos) (tNotV ta) (eNot fa) := by
  refine ⟨pe_not ha.pe, fun B F H σ S Q R h => ?_⟩
  refine ha.dr B F H σ S _ R (Po.thn h fun dx S1 F1 H1 R1 s1 h1 x hx => ?_)
  cases hx with
  | bl c => exact ⟨c, rfl, h1 F1 H1 R1 (Same.refl _) _ (.bl _)⟩
  | _ => exact h1.elim
theorem de_if {c : Expr} {tc : TT} {fc : EM Bool} (hc : TD X E c tc fc) (ha : ED X E a ta fa) (hb : ED X E b tb fb) : ED X E (.IfExp c a b pos) (tIf tc ta tb) (eIf fc fa fb) := by
  refine ⟨pe_ifExp hc.pe ha.pe hb.pe, fun B F H σ S Q R h => ?_⟩
  refine hc.dr B F H σ S _ R (Po.thn h fun k S1 F1 H1 R1 s1 h1 => ?_)
  cases k with
  | true => exact ha.dr B F1 H1 σ S1 Q R1 h1
  | false => exact hb.dr B F1 H1 σ S1 Q R1 h1
theorem wd_and1 (ha : TD X E a tA gA) : WD X E (.BoolOp .And [a] pos) tA gA := ⟨pw_and1 ha.pe, ha.dr⟩
theorem wd_or1 (ha : TD X E a tA gA) : WD X E (.BoolOp .Or [a] pos) tA gA := ⟨pw_or1 ha.pe, ha.dr⟩
theorem wd_and (ha : TD X E a tA gA) (hb : WD X E (.BoolOp .And (b :: rest) pos) tB' gB) : WD X E (.BoolOp .And (a :: b :: rest) pos) (tAnd tA tB') (tAnd' gA gB) := by
  refine ⟨pw_and ha.pe hb.pe, fun B F H σ S Q R h => ?_⟩
  refine ha.dr B F H σ S _ R (Po.thn h fun k S1 F1 H1 R1 s1 h1 => ?_)
  cases k with
  | true => exact hb.dr B F1 H1 σ S1 Q R1 h1
  | false => exact h1 F1 H1 R1 (Same.refl _)
theorem wd_or (ha : TD X E a tA gA) (hb : WD X E (.BoolOp .Or (b :: rest) pos) tB' gB) : WD X E (.BoolOp .Or (a :: b :: rest) pos) (tOr tA tB') (tOr' gA gB) := by
  refine ⟨pw_or ha.pe hb.pe, fun B F H σ S Q R h => ?_⟩
  refine ha.dr B F H σ S _ R (Po.thn h fun k S1 F1 H1 R1 s1 h1 => ?_)
  cases k with
  | true => exact h1 F1 H1 R1 (Same.refl _)
  | false => exact hb.dr B F1 H1 σ S1 Q R1 h1
theorem WD.td {e : Expr} (h : WD X E e tA gA) : TD X E e tA gA := ⟨h.pe.pt, h.dr⟩
theorem td_not (ha : TD X E a tA gA) : TD X E (.UnaryOp .Not a pos) (tNot tA) (tNot' gA) := by
  refine ⟨pt_not ha.pe, fun B F H σ S Q R h => ?_⟩
  refine ha.dr B F H σ S _ R (Po.thn h fun k S1 F1 H1 R1 s1 h1 => ?_)
  exact h1 F1 H1 R1 (Same.refl _)
end

/-! ### argument lists, displays -/
def aN : EM (List D) := ret []
def aC (fa : EM D) (fr : EM (List D)) : EM (List D) := bnd fa fun x => bnd fr fun xs => ret (x :: xs)
def eT (f : EM (List D)) : EM D := bnd f fun xs => if xs.length ≤ sizeLine then ret (.tup xs) else fun _ => none
def eL (f : EM (List D)) : EM D := bnd f fun xs => if xs.length ≤ sizeLine then ret (.lst xs) else fun _ => none
section
variable {X : Cx} {E : XK} {e : Expr} {es : List Expr} {te : TE} {t : TA} {fa : EM D} {f : EM (List D)} {pos : Pos}
theorem da_nil : AD X E [] tNil aN := ⟨pa_nil, fun B F H σ S Q R h => h F H R (Same.refl _) [] .nil⟩
theorem da_cons (ha : ED X E e te fa) (hr : AD X E es t f) (hs : starEach (e :: es) X.env = (false, eval e X.env) :: starEach es X.env := by rfl) : AD X E (e :: es) (tCons te t) (aC fa f) := by
  refine ⟨pa_cons ha.pe hr.pe hs, fun B F H σ S Q R h => ?_⟩
  refine ha.dr B F H σ S _ R (Po.thn h fun dx S1 F1 H1 R1 s1 h1 x hx => ?_)
  refine hr.dr B F1 H1 σ S1 _ R1 (Po.thn h1 fun ds S2 F2 H2 R2 s2 h2 vs hv => ?_)
  exact h2 F2 H2 R2 (Same.refl _) _ (.cons (hx.mono s2) hv)
theorem de_tup {x1} (h : AD X E es t f) : ED X E (.Tuple es x1 pos) (tTup t) (eT f) := by
  refine ⟨pe_tup h.pe, fun B F H σ S Q R q => ?_⟩
  refine h.dr B F H σ S _ R (Po.thn q fun ds S1 F1 H1 R1 s1 h1 vs hv => ?_)
  by_cases z : ds.length ≤ sizeLine
  · rw [if_pos z] at h1
    refine ⟨by rw [Paired.len hv]; exact z, fun p hp => ?_⟩
    have x := Ext.new R1.sub hp (.tup vs)
    exact h1 _ _ (R1.mv x) x.f _ (.tup upd_same (DrL.of (Drs.mono x.f hv)))
  · rw [if_neg z] at h1; exact h1.elim
theorem de_lst (h : AD X E es t f) : ED X E (.List es pos) (tLst t) (eL f) := by
  refine ⟨pe_lst h.pe, fun B F H σ S Q R q => ?_⟩
  refine h.dr B F H σ S _ R (Po.thn q fun ds S1 F1 H1 R1 s1 h1 vs hv => ?_)
  by_cases z : ds.length ≤ sizeLine
  · rw [if_pos z] at h1
    refine ⟨by rw [Paired.len hv]; exact z, fun p hp => ?_⟩
    have x := Ext.new R1.sub hp (.lst vs)
    exact h1 _ _ (R1.mv x) x.f _ (.lst upd_same (DrL.of (Drs.mono x.f hv)))
  · rw [if_neg z] at h1; exact h1.elim
end
end TW
namespace TW
open PySem PySem.Spec PyProof.Rows L2

theorem opr_or {X : Cx} {f : Value → Value → Sem Value} {r r' : R2} (h : OpR X f r) (h' : OpR X f r') : OpR X f (fun x y H Q => r x y H Q ∨ r' x y H Q) := by
  intro pins s σ H x y v u Q I rx ry q
  rcases q with q | q
  · exact h pins s σ H x y v u Q I rx ry q
  · exact h' pins s σ H x y v u Q I rx ry q
theorem callr_or {X : Cx} {f : Value} {r r' : List V → Hp → VK → Prop} (h : CallR X f r) (h' : CallR X f r') : CallR X f (fun x H Q => r x H Q ∨ r' x H Q) := by
  intro pins s σ H xs us Q I rx q
  rcases q with q | q
  · exact h pins s σ H xs us Q I rx q
  · exact h' pins s σ H xs us Q I rx q

/-- the end of a rule whose value leans on no heap -/
theorem po_at {α : Type} {K : PySem.W.Frag} {mg : Str → Option Value} {E : XK} {B : Bs} {F H : Hp} {σ : L2.St} {S : List C} {k : α → List C → Hp → Hp → Prop} {a : α} (R : Rp K B F H σ S) (h : Po K mg E B F σ k (some (.ok a S))) : k a S F H := h F H R (Same.refl _)


/-! ### readings by name -/
def kAdd (K : PySem.W.Frag) : R2 := fun x y H Q => rI0 (fun i j => V.int (i + j)) x y H Q ∨ (∃ i j, x = .str i ∧ y = .str j ∧ i.length + j.length ≤ sizeLine ∧ Q (.str (i ++ j)) H) ∨ rCatA K x y H Q ∨ rCat x y H Q
def kMul (K : PySem.W.Frag) : R2 := fun x y H Q => rI CMul (fun i j => V.int (i * j)) x y H Q ∨ rRepT K x y H Q
def kIs : R2 := fun x y H Q => (y = .non ∧ Q (.bl (decide (x = .non))) H) ∨ rIsB x y H Q
def kIsn : R2 := fun x y H Q => (y = .non ∧ Q (.bl (!decide (x = .non))) H) ∨ rNotB x y H Q
def kEq (K : PySem.W.Frag) : R2 := fun x y H Q => rEq x y H Q ∨ rEqD K x y H Q
def kNe (K : PySem.W.Frag) : R2 := fun x y H Q => rNe x y H Q ∨ rNeD K x y H Q
def kIx (K : PySem.W.Frag) : R2 := fun x y H Q => rIxL K x y H Q ∨ rIxT K x y H Q
def kSl (K : PySem.W.Frag) : V → Option Int → Option Int → Hp → VK → Prop := fun x l u H Q => rSlL K x l u H Q ∨ rSlA K x l u H Q
def kLen (K : PySem.W.Frag) : List V → Hp → VK → Prop := fun xs H Q => ∃ p ys, xs = [.ref p] ∧ (SqL K H p ys ∨ SqT K H p ys) ∧ Q (.int ys.length) H
def kMax (K : PySem.W.Frag) : List V → Hp → VK → Prop := fun xs H Q => rMax K xs H Q ∨ ∃ i j, xs = [.int i, .int j] ∧ Q (.int (if j > i then j else i)) H
def kMin (K : PySem.W.Frag) : List V → Hp → VK → Prop := fun xs H Q => rMin K xs H Q ∨ ∃ i j, xs = [.int i, .int j] ∧ Q (.int (if j < i then j else i)) H
def kTuple (K : PySem.W.Frag) : List V → Hp → VK → Prop := fun xs H Q => ∃ p ys, xs = [.ref p] ∧ ((SqL K H p ys ∧ ∀ l, H l = none → Q (.ref l) (upd H l (.tup ys))) ∨ (SqT K H p ys ∧ Q (.ref p) H))
def kList (K : PySem.W.Frag) : List V → Hp → VK → Prop := fun xs H Q => ∃ p ys, xs = [.ref p] ∧ (SqL K H p ys ∨ SqT K H p ys) ∧ ∀ l, H l = none → Q (.ref l) (upd H l (.lst ys))

/-! ### int operations -/
def dI0 (g : Int → Int → D) : D → D → Option D
  | .int i, .int j => some (g i j)
  | _, _ => none
def dIc (c : Int → Int → Bool) (g : Int → Int → Int) : D → D → Option D
  | .int i, .int j => if c i j = true then some (.int (g i j)) else none
  | _, _ => none
theorem od_i0 {X : Cx} {f : Value → Value → Sem Value} {g : Int → Int → Int} (h : OpR X f (rI0 fun i j => .int (g i j))) : OpD X f (rI0 fun i j => .int (g i j)) (dI0 fun i j => .int (g i j)) := by
  refine ⟨h, fun mg E B F H σ S x y dx dy Q R hx hy q => ?_⟩
  cases hx <;> cases hy <;> first | exact q.elim | exact ⟨_, _, rfl, rfl, po_at R q _ (.int _)⟩
theorem od_b0 {X : Cx} {f : Value → Value → Sem Value} {g : Int → Int → Bool} (h : OpR X f (rI0 fun i j => .bl (g i j))) : OpD X f (rI0 fun i j => .bl (g i j)) (dI0 fun i j => .bl (g i j)) := by
  refine ⟨h, fun mg E B F H σ S x y dx dy Q R hx hy q => ?_⟩
  cases hx <;> cases hy <;> first | exact q.elim | exact ⟨_, _, rfl, rfl, po_at R q _ (.bl _)⟩
theorem od_ic {X : Cx} {f : Value → Value → Sem Value} {c : Int → Int → Bool} {Cc : Int → Int → Prop} {g : Int → Int → Int} (h : OpR X f (rI Cc fun i j => .int (g i j))) (hc : ∀ i j, c i j = true → Cc i j) : OpD X f (rI Cc fun i j => .int (g i j)) (dIc c g) := by
  refine ⟨h, fun mg E B F H σ S x y dx dy Q R hx hy q => ?_⟩
  cases hx with
  | int i =>
    cases hy with
    | int j =>
      unfold dIc at q
      by_cases z : c i j = true
      · simp only [if_pos z] at q; exact ⟨_, _, rfl, rfl, hc _ _ z, po_at R q _ (.int _)⟩
      · simp only [if_neg z] at q; exact q.elim
    | _ => exact q.elim
  | _ => exact q.elim

abbrev dSub : D → D → Option D := dI0 fun i j => .int (i - j)
abbrev dLt : D → D → Option D := dI0 fun i j => .bl (decide (i < j))
abbrev dLe : D → D → Option D := dI0 fun i j => .bl (decide (i ≤ j))
abbrev dGt : D → D → Option D := dI0 fun i j => .bl (decide (j < i))
abbrev dGe : D → D → Option D := dI0 fun i j => .bl (decide (j ≤ i))
theorem cDiv_ex : ∃ f : Int → Int → Bool, f = fun i j => decide (0 < j) && decide (j.natAbs.log2 < 9000) := ⟨_, rfl⟩
noncomputable def cDiv : Int → Int → Bool := Classical.choose cDiv_ex
theorem cDiv_eq : cDiv = fun i j => decide (0 < j) && decide (j.natAbs.log2 < 9000) := Classical.choose_spec cDiv_ex
noncomputable abbrev dDiv : D → D → Option D := dIc cDiv fun i j => i / j
abbrev dMod : D → D → Option D := dIc (fun _ j => decide (0 < j)) fun i j => i % j
theorem cPow_ex : ∃ f : Int → Int → Bool, f = fun i j => decide (0 ≤ j) && decide (j ≤ 1000000) && decide (i.natAbs < 2 ^ 64) := ⟨_, rfl⟩
noncomputable def cPow : Int → Int → Bool := Classical.choose cPow_ex
theorem cPow_eq : cPow = fun i j => decide (0 ≤ j) && decide (j ≤ 1000000) && decide (i.natAbs < 2 ^ 64) := Classical.choose_spec cPow_ex
noncomputable abbrev dPow : D → D → Option D := dIc cPow fun i j => i ^ j.toNat
noncomputable abbrev dShl : D → D → Option D := dIc cPow fun i j => i * 2 ^ j.toNat
abbrev dAnd : D → D → Option D := dI0 fun i j => .int (Builtin.bitAnd i j)
abbrev dOr : D → D → Option D := dI0 fun i j => .int (Builtin.bitOr i j)
section
variable {X : Cx}
theorem o_sub : OpD X (binaryOp .Sub) (rI0 fun i j => .int (i - j)) dSub := od_i0 op_sub
theorem o_lt : OpD X (compareOp .Lt) (rI0 fun i j => .bl (decide (i < j))) dLt := od_b0 op_lt
theorem o_le : OpD X (compareOp .LtE) (rI0 fun i j => .bl (decide (i ≤ j))) dLe := od_b0 op_le
theorem o_gt : OpD X (compareOp .Gt) (rI0 fun i j => .bl (decide (j < i))) dGt := od_b0 op_gt
theorem o_ge : OpD X (compareOp .GtE) (rI0 fun i j => .bl (decide (j ≤ i))) dGe := od_b0 op_ge
theorem o_div : OpD X (binaryOp .FloorDiv) (rI CDivW fun i j => .int (i / j)) dDiv := od_ic op_fdivW fun i j h => by
  rw [cDiv_eq] at h
  simp only [] at h
  rw [Bool.and_eq_true] at h
  exact ⟨of_decide_eq_true h.1, of_decide_eq_true h.2⟩
theorem o_mod : OpD X (binaryOp .Mod) (rI (fun _ j => 0 < j) fun i j => .int (i % j)) dMod := od_ic op_mod fun i j h => of_decide_eq_true h
theorem cPow_of {i j : Int} (h : cPow i j = true) : CPow i j := by
  rw [cPow_eq] at h
  simp only [] at h
  rw [Bool.and_eq_true, Bool.and_eq_true] at h
  exact ⟨of_decide_eq_true h.1.1, of_decide_eq_true h.1.2, of_decide_eq_true h.2⟩
theorem o_pow : OpD X (binaryOp .Pow) (rI CPow fun i j => .int (i ^ j.toNat)) dPow := od_ic op_pow fun _ _ h => cPow_of h
theorem o_shl : OpD X (binaryOp .LShift) (rI CPow fun i j => .int (i * 2 ^ j.toNat)) dShl := od_ic op_shl fun _ _ h => cPow_of h
theorem o_and : OpD X (binaryOp .BitAnd) (rI0 fun i j => .int (Builtin.bitAnd i j)) dAnd := od_i0 op_and
theorem o_or : OpD X (binaryOp .BitOr) (rI0 fun i j => .int (Builtin.bitOr i j)) dOr := od_i0 op_or
end

/-! ### + and * -/
def dAdd : D → D → Option D
  | .int i, .int j => some (.int (i + j))
  | .str i, .str j => if i.length + j.length ≤ sizeLine then some (.str (i ++ j)) else none
  | .tup x, .tup y => if x.length + y.length ≤ sizeLine then some (.tup (x ++ y)) else none
  | .lst x, .lst y => if x.length + y.length ≤ sizeLine then some (.lst (x ++ y)) else none
  | _, _ => none
theorem o_add {X : Cx} {K : PySem.W.Frag} (hK : X.K = K := by rfl) : OpD X (binaryOp .Add) (kAdd K) dAdd := by
  subst hK
  refine ⟨opr_or op_add (opr_or op_add_str (opr_or op_catA op_cat)), fun mg E B F H σ S x y dx dy Q R hx hy q => ?_⟩
  cases hx with
  | int i =>
    cases hy with
    | int j => exact .inl ⟨_, _, rfl, rfl, po_at R q _ (.int _)⟩
    | _ => exact q.elim
  | str i =>
    cases hy with
    | str j =>
      unfold dAdd at q
      by_cases z : i.length + j.length ≤ sizeLine
      · simp only [if_pos z] at q; exact .inr (.inl ⟨_, _, rfl, rfl, z, po_at R q _ (.str _)⟩)
      · simp only [if_neg z] at q; exact q.elim
    | _ => exact q.elim
  | @tup a xs ds ha la =>
    cases hy with
    | @tup b ys es hb lb =>
      unfold dAdd at q
      have l1 := Paired.len la.p
      have l2 := Paired.len lb.p
      by_cases z : ds.length + es.length ≤ sizeLine
      · simp only [if_pos z] at q
        refine .inr (.inr (.inl ⟨a, b, xs, ys, rfl, rfl, SqT.of (R.sub _ _ ha), SqT.of (R.sub _ _ hb), by omega, fun e => ?_, fun e1 e => ?_, fun e1 e2 p hp => ?_⟩))
        · subst e
          cases la
          exact po_at R q _ (.tup hb lb)
        · subst e
          cases lb
          rw [List.append_nil] at q
          exact po_at R q _ (.tup ha la)
        · have x := Ext.new R.sub hp (.tup (xs ++ ys))
          exact q _ _ (R.mv x) x.f _ (.tup upd_same (DrL.of (Paired.app (Drs.mono x.f la.p) (Drs.mono x.f lb.p))))
      · simp only [if_neg z] at q; exact q.elim
    | _ => exact q.elim
  | @lst a xs ds ha la =>
    cases hy with
    | @lst b ys es hb lb =>
      unfold dAdd at q
      have l1 := Paired.len la.p
      have l2 := Paired.len lb.p
      by_cases z : ds.length + es.length ≤ sizeLine
      · simp only [if_pos z] at q
        refine .inr (.inr (.inr ⟨a, b, xs, ys, rfl, rfl, R.sub _ _ ha, R.sub _ _ hb, by omega, fun p hp => ?_⟩))
        have x := Ext.new R.sub hp (.lst (xs ++ ys))
        exact q _ _ (R.mv x) x.f _ (.lst upd_same (DrL.of (Paired.app (Drs.mono x.f la.p) (Drs.mono x.f lb.p))))
      · simp only [if_neg z] at q; exact q.elim
    | _ => exact q.elim
  | _ => exact q.elim
theorem Paired.rep {α β : Type} {R : α → β → Prop} {xs : List α} {ys : List β} (h : Paired R xs ys) : ∀ n : Nat, Paired R (List.replicate n xs).flatten (List.replicate n ys).flatten
  | 0 => .nil
  | n + 1 => by
    rw [List.replicate_succ, List.replicate_succ, List.flatten_cons, List.flatten_cons]
    exact Paired.app h (Paired.rep h n)
theorem cMul_ex : ∃ f : Int → Int → Bool, f = fun i j => decide (-(2 ^ 64) < i ∧ i < 2 ^ 64) || decide (-(2 ^ 64) < j ∧ j < 2 ^ 64) := ⟨_, rfl⟩
noncomputable def cMul : Int → Int → Bool := Classical.choose cMul_ex
theorem cMul_eq : cMul = fun i j => decide (-(2 ^ 64) < i ∧ i < 2 ^ 64) || decide (-(2 ^ 64) < j ∧ j < 2 ^ 64) := Classical.choose_spec cMul_ex
noncomputable def dMul : D → D → Option D
  | .int i, .int j => if cMul i j = true then some (.int (i * j)) else none
  | .tup x, .int k => if x ≠ [] ∧ 2 ≤ k ∧ k ≤ 1000 ∧ x.length ≤ 1000 then some (.tup (List.replicate k.toNat x).flatten) else none
  | _, _ => none
theorem o_mul {X : Cx} {K : PySem.W.Frag} (hK : X.K = K := by rfl) : OpD X (binaryOp .Mult) (kMul K) dMul := by
  subst hK
  refine ⟨opr_or op_mul op_repT, fun mg E B F H σ S x y dx dy Q R hx hy q => ?_⟩
  cases hx with
  | int i =>
    cases hy with
    | int j =>
      unfold dMul at q
      by_cases z : cMul i j = true
      · simp only [if_pos z] at q
        refine .inl ⟨_, _, rfl, rfl, ?_, po_at R q _ (.int _)⟩
        rw [cMul_eq] at z
        simp only [] at z
        rw [Bool.or_eq_true] at z
        exact z.imp of_decide_eq_true of_decide_eq_true
      · simp only [if_neg z] at q; exact q.elim
    | _ => exact q.elim
  | @tup a xs ds ha la =>
    cases hy with
    | int k =>
      unfold dMul at q
      have l1 := Paired.len la.p
      by_cases z : ds ≠ [] ∧ 2 ≤ k ∧ k ≤ 1000 ∧ ds.length ≤ 1000
      · simp only [if_pos z] at q
        refine .inr ⟨a, k, xs, rfl, rfl, SqT.of (R.sub _ _ ha), fun e => z.1 ?_, z.2.1, z.2.2.1, by omega, fun p hp => ?_⟩
        · subst e
          cases la
          rfl
        · have x := Ext.new R.sub hp (.tup (List.replicate k.toNat xs).flatten)
          exact q _ _ (R.mv x) x.f _ (.tup upd_same (DrL.of (Paired.rep (Drs.mono x.f la.p) _)))
      · simp only [if_neg z] at q; exact q.elim
    | _ => exact q.elim
  | _ => exact q.elim

/-! ### is, ==, in -/
def isNon : D → Bool
  | .non => true
  | _ => false
def dIs : D → D → Option D
  | x, .non => some (.bl (isNon x))
  | .bl a, .bl b => some (.bl (decide (a = b)))
  | _, _ => none
def dIsn : D → D → Option D
  | x, .non => some (.bl (!isNon x))
  | .bl a, .bl b => some (.bl (!decide (a = b)))
  | _, _ => none
theorem isNon_of {K : PySem.W.Frag} {F : Hp} {x : V} {d : D} (h : Dr K F x d) : decide (x = .non) = isNon d := by
  cases h <;> rfl
theorem o_is {X : Cx} : OpD X (compareOp .Is) kIs dIs := by
  refine ⟨opr_or op_isN op_isBl, fun mg E B F H σ S x y dx dy Q R hx hy q => ?_⟩
  cases hy with
  | non =>
    refine .inl ⟨rfl, ?_⟩
    rw [isNon_of hx]
    cases hx <;> exact po_at R q _ (.bl _)
  | bl b =>
    cases hx with
    | bl a => exact .inr ⟨a, b, rfl, rfl, po_at R q _ (.bl _)⟩
    | _ => exact q.elim
  | _ => cases hx <;> exact q.elim
theorem o_isn {X : Cx} : OpD X (compareOp .IsNot) kIsn dIsn := by
  refine ⟨opr_or op_notN op_notBl, fun mg E B F H σ S x y dx dy Q R hx hy q => ?_⟩
  cases hy with
  | non =>
    refine .inl ⟨rfl, ?_⟩
    rw [isNon_of hx]
    cases hx <;> exact po_at R q _ (.bl _)
  | bl b =>
    cases hx with
    | bl a => exact .inr ⟨a, b, rfl, rfl, po_at R q _ (.bl _)⟩
    | _ => exact q.elim
  | _ => cases hx <;> exact q.elim
mutual
def toPy : D → Option PyData
  | .non => some .none
  | .bl b => some (.bool b)
  | .int i => some (.int i)
  | .str x => some (.str x)
  | .tup l => (toPys l).map .tuple
  | .lst l => (toPys l).map .list
  | _ => none
def toPys : List D → Option (List PyData)
  | [] => some []
  | d :: r => match toPy d, toPys r with
    | some a, some b => some (a :: b)
    | _, _ => none
end
mutual
theorem toPy_dp {K : PySem.W.Frag} {F H : Hp} (s : Same F H) : ∀ (d : D) {x : V} {p : PyData}, Dr K F x d → toPy d = some p → Dp K H x p
  | .non, _, _, .non, e => by cases e; exact .non
  | .bl b, _, _, .bl _, e => by cases e; exact .bl b
  | .int i, _, _, .int _, e => by cases e; exact .int i
  | .str x, _, _, .str _, e => by cases e; exact .str x
  | .tup l, _, _, .tup h r, e => by
    unfold toPy at e
    obtain ⟨ps, e1, rfl⟩ := Option.map_eq_some_iff.mp e
    exact .tup (SqT.of (s _ _ h)) (toPys_dp s l r e1)
  | .lst l, _, _, .lst h r, e => by
    unfold toPy at e
    obtain ⟨ps, e1, rfl⟩ := Option.map_eq_some_iff.mp e
    exact .lst (SqL.of (s _ _ h)) (toPys_dp s l r e1)
  | .dct _, _, _, _, e => by unfold toPy at e; cases e
  | .scr _, _, _, _, e => by unfold toPy at e; cases e
  | .rf _, _, _, _, e => by unfold toPy at e; cases e
theorem toPys_dp {K : PySem.W.Frag} {F H : Hp} (s : Same F H) : ∀ (d : List D) {x : List V} {p : List PyData}, DrL K F x d → toPys d = some p → DpAll K H x p
  | [], _, _, .nil, e => by unfold toPys at e; cases e; exact .nil
  | d :: r, _, _, .cons h t, e => by
    unfold toPys at e
    cases e1 : toPy d with
    | none => rw [e1] at e; cases e
    | some a =>
      cases e2 : toPys r with
      | none => rw [e1, e2] at e; cases e
      | some b =>
        rw [e1, e2] at e
        cases e
        exact .cons (toPy_dp s d h e1) (toPys_dp s r t e2)
end
def eqPy (x y : D) : Option Bool := match toPy x, toPy y with
  | some a, some b => if (SeqAt.shaped a && SeqAt.shaped b) = true then some (PyData.eqv a b) else none
  | _, _ => none
def eqD (x y : D) : Option Bool := match x, y with
  | .int i, .int j => some (decide (i = j))
  | .str i, .str j => some (decide (i = j))
  | x, y => eqPy x y
def dEq (x y : D) : Option D := (eqD x y).map .bl
def dNe (x y : D) : Option D := (eqD x y).map fun b => .bl (!b)
theorem eqPy_some {x y : D} {b : Bool} (h : eqPy x y = some b) : ∃ p q, toPy x = some p ∧ toPy y = some q ∧ SeqAt.shaped p = true ∧ SeqAt.shaped q = true ∧ b = PyData.eqv p q := by
  unfold eqPy at h
  cases e1 : toPy x with
  | none => rw [e1] at h; cases h
  | some p =>
    cases e2 : toPy y with
    | none => rw [e1, e2] at h; cases h
    | some q =>
      rw [e1, e2] at h
      simp only at h
      by_cases z : (SeqAt.shaped p && SeqAt.shaped q) = true
      · rw [if_pos z] at h
        rw [Bool.and_eq_true] at z
        exact ⟨p, q, rfl, rfl, z.1, z.2, (Option.some.inj h).symm⟩
      · rw [if_neg z] at h; cases h
theorem eqD_cases {K : PySem.W.Frag} {F H : Hp} (s : Same F H) {x y : V} {dx dy : D} {b : Bool} (hx : Dr K F x dx) (hy : Dr K F y dy) (h : eqD dx dy = some b) :
    (scal x y = true ∧ b = decide (x = y)) ∨ ∃ p q, Dp K H x p ∧ Dp K H y q ∧ SeqAt.shaped p = true ∧ SeqAt.shaped q = true ∧ b = PyData.eqv p q := by
  have gen : eqPy dx dy = some b → (scal x y = true ∧ b = decide (x = y)) ∨ ∃ p q, Dp K H x p ∧ Dp K H y q ∧ SeqAt.shaped p = true ∧ SeqAt.shaped q = true ∧ b = PyData.eqv p q := fun h => by
    obtain ⟨p, q, e1, e2, s1, s2, e⟩ := eqPy_some h
    exact .inr ⟨p, q, toPy_dp s dx hx e1, toPy_dp s dy hy e2, s1, s2, e⟩
  cases hx with
  | int i =>
    cases hy with
    | int j =>
      refine .inl ⟨rfl, ?_⟩
      rw [dec_int]
      have q : some (decide (i = j)) = some b := h
      rw [← Option.some.inj q]
      rw [Bool.beq_eq_decide_eq]
    | _ => exact gen h
  | str i =>
    cases hy with
    | str j =>
      refine .inl ⟨rfl, ?_⟩
      have q : some (decide (i = j)) = some b := h
      rw [← Option.some.inj q]
      by_cases e : i = j
      · subst e; simp
      · simp [e]
    | _ => exact gen h
  | _ => cases hy <;> exact gen h
theorem o_eq {X : Cx} {K : PySem.W.Frag} (hu : X.A.units + 64 < cLine) (hK : X.K = K := by rfl) : OpD X (compareOp .Eq) (kEq K) dEq := by
  subst hK
  refine ⟨opr_or op_eq (op_eqD hu), fun mg E B F H σ S x y dx dy Q R hx hy q => ?_⟩
  unfold dEq at q
  cases e : eqD dx dy with
  | none => rw [e] at q; exact q.elim
  | some b =>
    rw [e] at q
    have k := po_at R q _ (.bl b)
    rcases eqD_cases R.sub hx hy e with ⟨z, rfl⟩ | ⟨p, r, h1, h2, h3, h4, rfl⟩
    · exact .inl ⟨z, k⟩
    · exact .inr ⟨p, r, h1, h2, h3, h4, k⟩
theorem o_ne {X : Cx} {K : PySem.W.Frag} (hu : X.A.units + 64 < cLine) (hK : X.K = K := by rfl) : OpD X (compareOp .NotEq) (kNe K) dNe := by
  subst hK
  refine ⟨opr_or op_ne (op_neD hu), fun mg E B F H σ S x y dx dy Q R hx hy q => ?_⟩
  unfold dNe at q
  cases e : eqD dx dy with
  | none => rw [e] at q; exact q.elim
  | some b =>
    rw [e] at q
    have k := po_at R q _ (.bl (!b))
    rcases eqD_cases R.sub hx hy e with ⟨z, rfl⟩ | ⟨p, r, h1, h2, h3, h4, rfl⟩
    · exact .inl ⟨z, k⟩
    · exact .inr ⟨p, r, h1, h2, h3, h4, k⟩
def toV : D → Option V
  | .non => some .non
  | .bl b => some (.bl b)
  | .int i => some (.int i)
  | .str x => some (.str x)
  | _ => none
def toVs : List D → Option (List V)
  | [] => some []
  | d :: r => match toV d, toVs r with
    | some a, some b => some (a :: b)
    | _, _ => none
theorem toV_of {K : PySem.W.Frag} {F : Hp} {x v : V} {d : D} (h : Dr K F x d) (e : toV d = some v) : x = v ∧ flatV v = true := by
  cases h <;> unfold toV at e <;> first | (cases e; exact ⟨rfl, rfl⟩) | cases e
theorem toVs_of {K : PySem.W.Frag} {F : Hp} : ∀ {l : List D} {x v : List V}, Drs K F x l → toVs l = some v → x = v ∧ v.all flatV = true
  | [], _, _, .nil, e => by unfold toVs at e; cases e; exact ⟨rfl, rfl⟩
  | d :: r, _, _, .cons h t, e => by
    unfold toVs at e
    cases e1 : toV d with
    | none => rw [e1] at e; cases e
    | some a =>
      cases e2 : toVs r with
      | none => rw [e1, e2] at e; cases e
      | some b =>
        rw [e1, e2] at e
        cases e
        obtain ⟨h1, h2⟩ := toV_of h e1
        obtain ⟨h3, h4⟩ := toVs_of t e2
        refine ⟨by rw [h1, h3], ?_⟩
        rw [List.all_cons, h2, h4]; rfl
def inD (x : D) (l : List D) : Option Bool := match toV x, toVs l with
  | some v, some vs => some (inV v vs)
  | _, _ => none
def dIn (n : Bool) : D → D → Option D
  | x, .tup l => (inD x l).map fun b => .bl (if n then !b else b)
  | x, .lst l => (inD x l).map fun b => .bl (if n then !b else b)
  | _, _ => none
theorem od_in {X : Cx} {f : Value → Value → Sem Value} {n : Bool} (h : OpR X f (rIn X.K n)) : OpD X f (rIn X.K n) (dIn n) := by
  refine ⟨h, fun mg E B F H σ S x y dx dy Q R hx hy q => ?_⟩
  have fin : ∀ (a : Addr) (xs : List V) (l : List D), y = .ref a → (SqL X.K H a xs ∨ SqT X.K H a xs) → Drs X.K F xs l → Po X.K mg E B F σ (fun d _ F' H' => ∀ v, Dr X.K F' v d → Q v H') (lift ((inD dx l).map fun b => D.bl (if n then !b else b)) S) → rIn X.K n x y H Q := fun a xs l ey hs hl q => by
    unfold inD at q
    cases e1 : toV dx with
    | none => rw [e1] at q; exact q.elim
    | some v =>
      cases e2 : toVs l with
      | none => rw [e1, e2] at q; exact q.elim
      | some vs =>
        rw [e1, e2] at q
        obtain ⟨h1, h2⟩ := toV_of hx e1
        obtain ⟨h3, h4⟩ := toVs_of hl e2
        subst h1 h3
        exact ⟨a, xs, ey, hs, h2, h4, po_at R q _ (.bl _)⟩
  cases hy with
  | @tup a xs l ha hl => exact fin a xs l rfl (.inr (SqT.of (R.sub _ _ ha))) hl.p (by cases hx <;> exact q)
  | @lst a xs l ha hl => exact fin a xs l rfl (.inl (SqL.of (R.sub _ _ ha))) hl.p (by cases hx <;> exact q)
  | _ => cases hx <;> exact q.elim
theorem o_in {X : Cx} {K : PySem.W.Frag} (hK : X.K = K := by rfl) : OpD X (compareOp .In) (rIn K false) (dIn false) := by
  subst hK
  exact od_in op_in_seq
theorem o_nin {X : Cx} {K : PySem.W.Frag} (hK : X.K = K := by rfl) : OpD X (compareOp .NotIn) (rIn K true) (dIn true) := by
  subst hK
  exact od_in op_notIn_seq

/-! ### -x -/
def e1n (fa : EM D) : EM D := bnd fa fun x => match x with
  | .int i => ret (.int (-i))
  | _ => fun _ => none
theorem de_neg {X : Cx} {E : XK} {a : Expr} {ta : TE} {fa : EM D} {pos : Pos} (ha : ED X E a ta fa) : ED X E (.UnaryOp .USub a pos) (tUn (rU fun i => .int (-i)) ta) (e1n fa) := by
  refine ⟨pe_un un_neg ha.pe, fun B F H σ S Q R h => ?_⟩
  refine ha.dr B F H σ S _ R (Po.thn h fun dx S1 F1 H1 R1 s1 h1 x hx => ?_)
  cases hx with
  | int i => exact ⟨i, rfl, po_at R1 h1 _ (.int _)⟩
  | _ => exact h1.elim

/-! ### subscripts, slices -/
theorem atI_pair {α β : Type} {R : α → β → Prop} {xs : List α} {ys : List β} {i : Int} {y : β} (h : Paired R xs ys) (e : atI ys i = some y) : ∃ x, atI xs i = some x ∧ R x y := by
  unfold atI at e ⊢
  rw [Paired.len h]
  cases q : ixN ys.length i with
  | none => rw [q] at e; cases e
  | some j =>
    rw [q] at e
    exact Paired.get? h e
def dIx : D → D → Option D
  | .tup l, .int i => atI l i
  | .lst l, .int i => atI l i
  | _, _ => none
theorem dr_ix {X : Cx} {E : XK} {ta tb : TE} {fa fb : EM D} (ha : EDr X.K X.mg E ta fa) (hb : EDr X.K X.mg E tb fb) : EDr X.K X.mg E (tOp (kIx X.K) ta tb) (e2 dIx fa fb) := by
  intro B F H σ S Q R h
  refine ha B F H σ S _ R (Po.thn h fun dx S1 F1 H1 R1 s1 h1 x hx => ?_)
  refine hb B F1 H1 σ S1 _ R1 (Po.thn h1 fun dy S2 F2 H2 R2 s2 h2 y hy => ?_)
  replace hx := hx.mono s2
  cases hx with
  | @tup a xs l ea la =>
    cases hy with
    | int i =>
      unfold dIx at h2
      cases e : atI l i with
      | none => simp only [e] at h2; exact h2.elim
      | some d =>
        simp only [e] at h2
        obtain ⟨v, e1, e2⟩ := atI_pair la.p e
        exact .inr ⟨a, xs, i, v, rfl, rfl, SqT.of (R2.sub _ _ ea), e1, po_at R2 h2 v e2⟩
    | _ => exact h2.elim
  | @lst a xs l ea la =>
    cases hy with
    | int i =>
      unfold dIx at h2
      cases e : atI l i with
      | none => simp only [e] at h2; exact h2.elim
      | some d =>
        simp only [e] at h2
        obtain ⟨v, e1, e2⟩ := atI_pair la.p e
        exact .inl ⟨a, xs, i, v, rfl, rfl, SqL.of (R2.sub _ _ ea), e1, po_at R2 h2 v e2⟩
    | _ => exact h2.elim
  | _ => exact h2.elim
theorem de_ix {X : Cx} {E : XK} {a b : Expr} {ta tb : TE} {fa fb : EM D} {pos : Pos} {K : PySem.W.Frag} (ha : ED X E a ta fa) (hb : ED X E b tb fb) (hs : PlainIx b := by exact fun _ _ => rfl) (hK : X.K = K := by rfl) : ED X E (.Subscript a b pos) (tOp (kIx K) ta tb) (e2 dIx fa fb) := by
  subst hK
  exact ⟨pe_ix (r := kIx X.K) (ix_list.or ix_tup) ha.pe hb.pe hs, dr_ix ha.dr hb.dr⟩
def cutL {α : Type} (xs : List α) (lo hi : Option Int) : List α := (xs.drop (HT.sIx xs.length 0 lo)).take (HT.sIx xs.length xs.length hi - HT.sIx xs.length 0 lo)
theorem cut_pair {K : PySem.W.Frag} {F : Hp} {xs : List V} {ds : List D} (h : Drs K F xs ds) (lo hi : Option Int) : Drs K F (cutV xs lo hi) (cutL ds lo hi) := by
  unfold cutV cutL
  rw [Paired.len h]
  exact Paired.take' _ (Paired.drop' _ h)
theorem cut_whole {α : Type} {xs : List α} {lo hi : Option Int} (h : HT.sIx xs.length 0 lo = 0 ∧ HT.sIx xs.length xs.length hi = xs.length) : cutL xs lo hi = xs := by
  unfold cutL
  rw [h.1, h.2]
  simp
def dSl (x : D) (lo hi : Option Int) : Option D := match x with
  | .tup l => some (.tup (cutL l lo hi))
  | .lst l => some (.lst (cutL l lo hi))
  | .scr ns => some (.lst ((cutL ns lo hi).map .int))
  | _ => none
/-- a part of a slice -/
def ODr (K : PySem.W.Frag) (mg : Str → Option Value) (E : XK) (t : TO) (f : EM (Option Int)) : Prop :=
  ∀ B F H σ S (Q : Option Int → Hp → Prop), Rp K B F H σ S → Po K mg E B F σ (fun i _ _ H' => Q i H') (f S) → t σ H Q
structure OD (X : Cx) (E : XK) (e : Option Expr) (t : TO) (f : EM (Option Int)) : Prop where
  pe : PO X e t
  dr : ODr X.K X.mg E t f
def oS (f : EM D) : EM (Option Int) := bnd f fun d => match d with
  | .int i => ret (some i)
  | _ => fun _ => none
theorem do_none {X : Cx} {E : XK} : OD X E none tNoPart (ret none) := ⟨po_none, fun B F H σ S Q R h => po_at R h⟩
theorem do_some {X : Cx} {E : XK} {e : Expr} {t : TE} {f : EM D} (h : ED X E e t f) : OD X E (some e) (tPart t) (oS f) := by
  refine ⟨po_some h.pe, fun B F H σ S Q R q => ?_⟩
  refine h.dr B F H σ S _ R (Po.thn q fun d S1 F1 H1 R1 s1 h1 v hv => ?_)
  cases hv with
  | int i => exact ⟨i, rfl, po_at R1 h1⟩
  | _ => exact h1.elim
def eSl (fa : EM D) (fl fu : EM (Option Int)) : EM D := bnd fa fun x => bnd fl fun l => bnd fu fun u => lift (dSl x l u)
theorem slr_or {X : Cx} {r r' : V → Option Int → Option Int → Hp → VK → Prop} (h : SlR X r) (h' : SlR X r') : SlR X (fun x l u H Q => r x l u H Q ∨ r' x l u H Q) := by
  intro pins s σ H x v vl vu lo hi sl Q I rx hs pl pu q
  rcases q with q | q
  · exact h pins s σ H x v vl vu lo hi sl Q I rx hs pl pu q
  · exact h' pins s σ H x v vl vu lo hi sl Q I rx hs pl pu q
theorem cutV_map (ns : List Int) (lo hi : Option Int) : cutV (ns.map V.int) lo hi = (cutL ns lo hi).map V.int := by
  unfold cutV cutL
  rw [List.length_map, List.map_take, List.map_drop]
theorem de_sl {X : Cx} {E : XK} {e : Expr} {lo hi : Option Expr} {te : TE} {tl th : TO} {fa : EM D} {fl fu : EM (Option Int)} {p2 pos : Pos} (he : ED X E e te fa) (hl : OD X E lo tl fl) (hu : OD X E hi th fu) {K : PySem.W.Frag} (hK : X.K = K := by rfl) : ED X E (.Subscript e (.Slice lo hi none p2) pos) (tSl (kSl K) te tl th) (eSl fa fl fu) := by
  subst hK
  refine ⟨pe_slice (r := kSl X.K) (slr_or sl_list sl_tupA) he.pe hl.pe hu.pe, fun B F H σ S Q R h => ?_⟩
  refine he.dr B F H σ S _ R (Po.thn h fun dx S1 F1 H1 R1 s1 h1 x hx => ?_)
  refine hl.dr B F1 H1 σ S1 _ R1 (Po.thn h1 fun l S2 F2 H2 R2 s2 h2 => ?_)
  refine hu.dr B F2 H2 σ S2 _ R2 (Po.thn h2 fun u S3 F3 H3 R3 s3 h3 => ?_)
  replace hx := (hx.mono s2).mono s3
  cases hx with
  | @tup a xs ds ea la =>
    have hlen := Paired.len la.p
    refine .inr ⟨a, xs, rfl, SqT.of (R3.sub _ _ ea), fun w => ?_, fun w p hp => ?_⟩
    · rw [hlen] at w
      have k := po_at R3 h3
      rw [cut_whole w] at k
      exact k _ (.tup ea la)
    · have x := Ext.new R3.sub hp (.tup (cutV xs l u))
      exact h3 _ _ (R3.mv x) x.f _ (.tup upd_same (DrL.of (Drs.mono x.f (cut_pair la.p l u))))
  | @lst a xs ds ea la =>
    refine .inl ⟨a, xs, rfl, SqL.of (R3.sub _ _ ea), fun p hp => ?_⟩
    have x := Ext.new R3.sub hp (.lst (cutV xs l u))
    exact h3 _ _ (R3.mv x) x.f _ (.lst upd_same (DrL.of (Drs.mono x.f (cut_pair la.p l u))))
  | @scr a ns ea =>
    refine .inl ⟨a, ns.map V.int, rfl, R3.sub.seq ea, fun p hp => ?_⟩
    have x := Ext.new R3.sub hp (.lst (cutV (ns.map V.int) l u))
    refine h3 _ _ (R3.mv x) x.f _ (.lst upd_same (DrL.of ?_))
    rw [cutV_map]
    exact Drs.ofInts
  | _ => exact h3.elim

/-! ### calls of built-ins by values -/
structure CallD (X : Cx) (f : Value) (r : List V → Hp → VK → Prop) (g : List D → Option D) : Prop where
  op : CallR X f r
  dr : ∀ (mg : Str → Option Value) (E : XK) B F H σ S xs ds (Q : VK), Rp X.K B F H σ S → Drs X.K F xs ds → Po X.K mg E B F σ (fun d _ F' H' => ∀ v, Dr X.K F' v d → Q v H') (lift (g ds) S) → r xs H Q
def eB1 (g : List D → Option D) (f : EM (List D)) : EM D := bnd f fun xs => lift (g xs)
section
variable {X : Cx} {E : XK} {e : Expr} {es : List Expr} {t : TA} {f : EM (List D)} {x : Str} {p pos : Pos} {r : List V → Hp → VK → Prop} {g : List D → Option D}
theorem dr_cb {v : Value} (c : CallD X v r g) (ha : ADr X.K X.mg E t f) : EDr X.K X.mg E (tCB r t) (eB1 g f) := by
  intro B F H σ S Q R h
  exact ha B F H σ S _ R (Po.thn h fun ds S1 F1 H1 R1 s1 h1 vs hv => c.dr X.mg E B F1 H1 σ S1 vs ds Q R1 hv h1)
theorem de_b {id : String} (c : CallD X (.builtin id) r g) (hg : Gl X x) (hm : X.mg x = none) (hv : bootBuiltins x = some (.builtin id)) (ha : AD X E (e :: es) t f) (hn : x ≠ "__name__" := by decide) (hdb : (x == ("__debug__" : Str)) = false := by decide)
    (he : starEach (e :: es) X.env = (false, eval e X.env) :: starEach es X.env := by rfl) (hpl : (backTo pos (starEach es X.env)).any (·.1) = false := by rfl) : ED X E (.Call (.Name x p) (e :: es) [] pos) (tCB r t) (eB1 g f) :=
  ⟨pe_callB c.op hg hm hv ha.pe hn hdb he hpl, dr_cb c ha.dr⟩
theorem de_ty {T : String} (c : CallD X (.type T) r g) (hg : Gl X x) (hm : X.mg x = none) (hv : bootBuiltins x = some (.type T)) (ha : AD X E (e :: es) t f) (hn : x ≠ "__name__" := by decide) (hdb : (x == ("__debug__" : Str)) = false := by decide)
    (he : starEach (e :: es) X.env = (false, eval e X.env) :: starEach es X.env := by rfl) (hpl : (backTo pos (starEach es X.env)).any (·.1) = false := by rfl) : ED X E (.Call (.Name x p) (e :: es) [] pos) (tCB r t) (eB1 g f) :=
  ⟨pe_callTy c.op hg hm hv ha.pe hn hdb he hpl, dr_cb c ha.dr⟩
end
def dLen : List D → Option D
  | [.tup l] => some (.int l.length)
  | [.lst l] => some (.int l.length)
  | _ => none
theorem Drs.one {K : PySem.W.Frag} {F : Hp} {xs : List V} {d : D} (h : Drs K F xs [d]) : ∃ x, xs = [x] ∧ Dr K F x d := by
  cases h with
  | cons a b => cases b; exact ⟨_, rfl, a⟩
theorem Drs.two {K : PySem.W.Frag} {F : Hp} {xs : List V} {d e : D} (h : Drs K F xs [d, e]) : ∃ x y, xs = [x, y] ∧ Dr K F x d ∧ Dr K F y e := by
  cases h with
  | cons a b =>
    obtain ⟨y, rfl, hy⟩ := Drs.one b
    exact ⟨_, _, rfl, a, hy⟩
section
variable {X : Cx}
theorem c_len {K : PySem.W.Frag} (hK : X.K = K := by rfl) : CallD X (.builtin "len") (kLen K) dLen := by
  subst hK
  refine ⟨call_len_seq, fun mg E B F H σ S xs ds Q R hx q => ?_⟩
  unfold dLen at q
  split at q
  · obtain ⟨x, rfl, h⟩ := Drs.one hx
    cases h with
    | @tup a xs l ea la => refine ⟨a, xs, rfl, .inr (SqT.of (R.sub _ _ ea)), ?_⟩; rw [Paired.len la.p]; exact po_at R q _ (.int _)
  · obtain ⟨x, rfl, h⟩ := Drs.one hx
    cases h with
    | @lst a xs l ea la => refine ⟨a, xs, rfl, .inl (SqL.of (R.sub _ _ ea)), ?_⟩; rw [Paired.len la.p]; exact po_at R q _ (.int _)
  · exact q.elim
def toI : D → Option Int
  | .int i => some i
  | _ => none
def toIs : List D → Option (List Int)
  | [] => some []
  | d :: r => match toI d, toIs r with
    | some a, some b => some (a :: b)
    | _, _ => none
def toBs : List D → Option (List Bool)
  | [] => some []
  | .bl b :: r => (toBs r).map (b :: ·)
  | _ :: _ => none
theorem toIs_of {K : PySem.W.Frag} {F : Hp} : ∀ {l : List D} {x : List V} {ns : List Int}, Drs K F x l → toIs l = some ns → x = ns.map V.int
  | [], _, _, .nil, e => by unfold toIs at e; cases e; rfl
  | d :: r, _, _, .cons h t, e => by
    unfold toIs at e
    cases e1 : toI d with
    | none => rw [e1] at e; cases e
    | some a =>
      cases e2 : toIs r with
      | none => rw [e1, e2] at e; cases e
      | some b =>
        rw [e1, e2] at e
        cases e
        rw [toIs_of t e2]
        cases h <;> unfold toI at e1 <;> first | (cases e1; rfl) | cases e1
theorem toBs_of {K : PySem.W.Frag} {F : Hp} : ∀ {l : List D} {x : List V} {ns : List Bool}, Drs K F x l → toBs l = some ns → x = ns.map V.bl
  | [], _, _, .nil, e => by unfold toBs at e; cases e; rfl
  | d :: r, _, _, .cons h t, e => by
    cases h with
    | bl b =>
      unfold toBs at e
      obtain ⟨bs, e1, rfl⟩ := Option.map_eq_some_iff.mp e
      rw [toBs_of t e1]; rfl
    | _ => unfold toBs at e; cases e
def dAll : List D → Option D
  | [.lst l] => (toBs l).map fun bs => .bl (bs.all id)
  | _ => none
theorem c_all {K : PySem.W.Frag} (hc : X.calm = true) (hK : X.K = K := by rfl) : CallD X (.builtin "all") (rAll K) dAll := by
  subst hK
  refine ⟨cr_all hc, fun mg E B F H σ S xs ds Q R hx q => ?_⟩
  unfold dAll at q
  split at q
  · rename_i l0
    obtain ⟨x, rfl, h⟩ := Drs.one hx
    cases h with
    | @lst a xs _ ea la =>
      cases e : toBs l0 with
      | none => rw [e] at q; exact q.elim
      | some bs =>
        rw [e] at q
        have e1 := toBs_of la.p e
        subst e1
        exact ⟨a, bs, rfl, SqL.of (R.sub _ _ ea), po_at R q _ (.bl _)⟩
  · exact q.elim
def mxL : List Int → Option Int
  | [] => none
  | [x] => some x
  | x :: r => (mxL r).map fun y => max x y
def mnL : List Int → Option Int
  | [] => none
  | [x] => some x
  | x :: r => (mnL r).map fun y => min x y
theorem mxL_spec : ∀ {l : List Int} {m : Int}, mxL l = some m → m ∈ l ∧ ∀ y ∈ l, y ≤ m
  | [x], m, h => by
    cases (show some x = some m from h)
    exact ⟨List.mem_singleton.mpr rfl, fun y hy => by rw [List.mem_singleton] at hy; omega⟩
  | x :: z :: r, m, h => by
    have h' : (mxL (z :: r)).map (fun y => max x y) = some m := h
    obtain ⟨k, e, rfl⟩ := Option.map_eq_some_iff.mp h'
    obtain ⟨h1, h2⟩ := mxL_spec e
    refine ⟨?_, fun y hy => ?_⟩
    · by_cases q : x ≤ k
      · rw [Int.max_eq_right q]; exact List.mem_cons_of_mem _ h1
      · rw [Int.max_eq_left (by omega)]; exact List.mem_cons_self
    · rcases List.mem_cons.mp hy with rfl | hy
      · exact Int.le_max_left _ _
      · exact Int.le_trans (h2 y hy) (Int.le_max_right _ _)
theorem mnL_spec : ∀ {l : List Int} {m : Int}, mnL l = some m → m ∈ l ∧ ∀ y ∈ l, m ≤ y
  | [x], m, h => by
    cases (show some x = some m from h)
    exact ⟨List.mem_singleton.mpr rfl, fun y hy => by rw [List.mem_singleton] at hy; omega⟩
  | x :: z :: r, m, h => by
    have h' : (mnL (z :: r)).map (fun y => min x y) = some m := h
    obtain ⟨k, e, rfl⟩ := Option.map_eq_some_iff.mp h'
    obtain ⟨h1, h2⟩ := mnL_spec e
    refine ⟨?_, fun y hy => ?_⟩
    · by_cases q : x ≤ k
      · rw [Int.min_eq_left q]; exact List.mem_cons_self
      · rw [Int.min_eq_right (by omega)]; exact List.mem_cons_of_mem _ h1
    · rcases List.mem_cons.mp hy with rfl | hy
      · exact Int.min_le_left _ _
      · exact Int.le_trans (Int.min_le_right _ _) (h2 y hy)
def dMax : List D → Option D
  | [.lst l] => (toIs l).bind fun ns => (mxL ns).map .int
  | [.int i, .int j] => some (.int (max i j))
  | _ => none
def dMin : List D → Option D
  | [.lst l] => (toIs l).bind fun ns => (mnL ns).map .int
  | [.int i, .int j] => some (.int (min i j))
  | _ => none
theorem c_max {K : PySem.W.Frag} (hc : X.calm = true) (hK : X.K = K := by rfl) : CallD X (.builtin "max") (kMax K) dMax := by
  subst hK
  refine ⟨callr_or (cr_max hc) (call_max2 hc), fun mg E B F H σ S xs ds Q R hx q => ?_⟩
  unfold dMax at q
  split at q
  · rename_i l0
    obtain ⟨x, rfl, h⟩ := Drs.one hx
    cases h with
    | @lst a xs _ ea la =>
      cases e : toIs l0 with
      | none => rw [e] at q; exact q.elim
      | some ns =>
        rw [e] at q
        cases e2 : mxL ns with
        | none => simp only [Option.bind_some, e2] at q; exact q.elim
        | some m =>
          simp only [Option.bind_some, e2] at q
          have e1 := toIs_of la.p e
          subst e1
          obtain ⟨h1, h2⟩ := mxL_spec e2
          refine .inl ⟨a, ns, rfl, SqL.of (R.sub _ _ ea), List.length_pos_of_mem h1, fun k hk hk2 => ?_⟩
          have : k = m := by have := hk2 m h1; have := h2 k hk; omega
          subst this
          exact po_at R q _ (.int _)
  · obtain ⟨x, y, rfl, h1, h2⟩ := Drs.two hx
    cases h1; cases h2
    rename_i i j
    refine .inr ⟨i, j, rfl, ?_⟩
    have e : (if j > i then j else i) = max i j := by
      by_cases z : j > i
      · rw [if_pos z, Int.max_eq_right (by omega)]
      · rw [if_neg z, Int.max_eq_left (by omega)]
    rw [e]
    exact po_at R q _ (.int _)
  · exact q.elim
theorem c_min {K : PySem.W.Frag} (hc : X.calm = true) (hK : X.K = K := by rfl) : CallD X (.builtin "min") (kMin K) dMin := by
  subst hK
  refine ⟨callr_or (cr_min hc) (call_min2 hc), fun mg E B F H σ S xs ds Q R hx q => ?_⟩
  unfold dMin at q
  split at q
  · rename_i l0
    obtain ⟨x, rfl, h⟩ := Drs.one hx
    cases h with
    | @lst a xs _ ea la =>
      cases e : toIs l0 with
      | none => rw [e] at q; exact q.elim
      | some ns =>
        rw [e] at q
        cases e2 : mnL ns with
        | none => simp only [Option.bind_some, e2] at q; exact q.elim
        | some m =>
          simp only [Option.bind_some, e2] at q
          have e1 := toIs_of la.p e
          subst e1
          obtain ⟨h1, h2⟩ := mnL_spec e2
          refine .inl ⟨a, ns, rfl, SqL.of (R.sub _ _ ea), List.length_pos_of_mem h1, fun k hk hk2 => ?_⟩
          have : k = m := by have := hk2 m h1; have := h2 k hk; omega
          subst this
          exact po_at R q _ (.int _)
  · obtain ⟨x, y, rfl, h1, h2⟩ := Drs.two hx
    cases h1; cases h2
    rename_i i j
    refine .inr ⟨i, j, rfl, ?_⟩
    have e : (if j < i then j else i) = min i j := by
      by_cases z : j < i
      · rw [if_pos z, Int.min_eq_right (by omega)]
      · rw [if_neg z, Int.min_eq_left (by omega)]
    rw [e]
    exact po_at R q _ (.int _)
  · exact q.elim
def dSum : List D → Option D
  | [.lst l] => (toIs l).map fun ns => .int ns.sum
  | _ => none
theorem c_sum {K : PySem.W.Frag} (hc : X.calm = true) (hK : X.K = K := by rfl) : CallD X (.builtin "sum") (rSum K) dSum := by
  subst hK
  refine ⟨cr_sum hc, fun mg E B F H σ S xs ds Q R hx q => ?_⟩
  unfold dSum at q
  split at q
  · rename_i l0
    obtain ⟨x, rfl, h⟩ := Drs.one hx
    cases h with
    | @lst a xs _ ea la =>
      cases e : toIs l0 with
      | none => rw [e] at q; exact q.elim
      | some bs =>
        rw [e] at q
        have e1 := toIs_of la.p e
        subst e1
        exact ⟨a, bs, rfl, SqL.of (R.sub _ _ ea), po_at R q _ (.int _)⟩
  · exact q.elim
def dTuple : List D → Option D
  | [.lst l] => some (.tup l)
  | [.tup l] => some (.tup l)
  | _ => none
theorem c_tuple {K : PySem.W.Frag} (hK : X.K = K := by rfl) : CallD X (.type "tuple") (kTuple K) dTuple := by
  subst hK
  refine ⟨call_tuple_of, fun mg E B F H σ S xs ds Q R hx q => ?_⟩
  unfold dTuple at q
  split at q
  · obtain ⟨x, rfl, h⟩ := Drs.one hx
    cases h with
    | @lst a xs l ea la =>
      refine ⟨a, xs, rfl, .inl ⟨SqL.of (R.sub _ _ ea), fun p hp => ?_⟩⟩
      have x := Ext.new R.sub hp (.tup xs)
      exact q _ _ (R.mv x) x.f _ (.tup upd_same (DrL.mono x.f la))
  · obtain ⟨x, rfl, h⟩ := Drs.one hx
    cases h with
    | @tup a xs l ea la => exact ⟨a, xs, rfl, .inr ⟨SqT.of (R.sub _ _ ea), po_at R q _ (.tup ea la)⟩⟩
  · exact q.elim
def dList : List D → Option D
  | [.lst l] => some (.lst l)
  | [.tup l] => some (.lst l)
  | _ => none
theorem c_list {K : PySem.W.Frag} (hK : X.K = K := by rfl) : CallD X (.type "list") (kList K) dList := by
  subst hK
  refine ⟨call_list_of, fun mg E B F H σ S xs ds Q R hx q => ?_⟩
  unfold dList at q
  split at q
  · obtain ⟨x, rfl, h⟩ := Drs.one hx
    cases h with
    | @lst a xs l ea la =>
      refine ⟨a, xs, rfl, .inl (SqL.of (R.sub _ _ ea)), fun p hp => ?_⟩
      have x := Ext.new R.sub hp (.lst xs)
      exact q _ _ (R.mv x) x.f _ (.lst upd_same (DrL.mono x.f la))
  · obtain ⟨x, rfl, h⟩ := Drs.one hx
    cases h with
    | @tup a xs l ea la =>
      refine ⟨a, xs, rfl, .inr (SqT.of (R.sub _ _ ea)), fun p hp => ?_⟩
      have x := Ext.new R.sub hp (.lst xs)
      exact q _ _ (R.mv x) x.f _ (.lst upd_same (DrL.mono x.f la))
  · exact q.elim
end
/-- insertion sort -/
def insI (x : Int) : List Int → List Int
  | [] => [x]
  | y :: r => if x ≤ y then x :: y :: r else y :: insI x r
def isort : List Int → List Int
  | [] => []
  | x :: r => insI x (isort r)
theorem insI_perm (x : Int) : ∀ l : List Int, (insI x l).Perm (x :: l)
  | [] => .refl _
  | y :: r => by
    unfold insI
    split
    · exact .refl _
    · exact ((insI_perm x r).cons y).trans (.swap x y r)
theorem isort_perm : ∀ l : List Int, (isort l).Perm l
  | [] => .refl _
  | x :: r => (insI_perm x _).trans ((isort_perm r).cons x)
theorem insI_sorted {x : Int} : ∀ {l : List Int}, l.Pairwise (· ≤ ·) → (insI x l).Pairwise (· ≤ ·)
  | [], _ => List.pairwise_singleton _ _
  | y :: r, h => by
    unfold insI
    have h1 := List.pairwise_cons.mp h
    split
    · rename_i q
      refine List.pairwise_cons.mpr ⟨fun z hz => ?_, h⟩
      rcases List.mem_cons.mp hz with rfl | hz
      · exact q
      · exact Int.le_trans q (h1.1 z hz)
    · rename_i q
      refine List.pairwise_cons.mpr ⟨fun z hz => ?_, insI_sorted h1.2⟩
      rcases List.mem_cons.mp ((insI_perm x r).mem_iff.mp hz) with rfl | hz
      · omega
      · exact h1.1 z hz
theorem isort_sorted : ∀ l : List Int, (isort l).Pairwise (· ≤ ·)
  | [] => .nil
  | x :: r => insI_sorted (isort_sorted r)
theorem sorted_unique : ∀ {l l' : List Int}, l.Perm l' → l.Pairwise (· ≤ ·) → l'.Pairwise (· ≤ ·) → l = l'
  | [], l', p, _, _ => p.nil_eq
  | x :: r, [], p, _, _ => by
    have := p.length_eq
    cases this
  | x :: r, y :: r', p, h, h' => by
    have h1 := List.pairwise_cons.mp h
    have h2 := List.pairwise_cons.mp h'
    have e : x = y := by
      have a1 : x ∈ y :: r' := p.mem_iff.mp List.mem_cons_self
      have a2 : y ∈ x :: r := p.mem_iff.mpr List.mem_cons_self
      rcases List.mem_cons.mp a1 with q | q
      · exact q
      · rcases List.mem_cons.mp a2 with q2 | q2
        · exact q2.symm
        · have := h1.1 y q2
          have := h2.1 x q
          omega
    subst e
    rw [sorted_unique (List.perm_cons x |>.mp p) h1.2 h2.2]
def dSorted : List D → Option D
  | [.lst l] => (toIs l).map fun ns => .lst ((isort ns).map .int)
  | _ => none
theorem c_sorted {X : Cx} {K : PySem.W.Frag} (hK : X.K = K := by rfl) : CallD X (.builtin "sorted") (rSortedI K) dSorted := by
  subst hK
  refine ⟨cr_sortedI, fun mg E B F H σ S xs ds Q R hx q => ?_⟩
  unfold dSorted at q
  split at q
  · rename_i l0
    obtain ⟨x, rfl, h⟩ := Drs.one hx
    cases h with
    | @lst a xs _ ea la =>
      cases e : toIs l0 with
      | none => rw [e] at q; exact q.elim
      | some ns =>
        rw [e] at q
        have e1 := toIs_of la.p e
        subst e1
        refine ⟨a, ns, rfl, SqL.of (R.sub _ _ ea), fun ns' p hp hs hn => ?_⟩
        have e2 : ns' = isort ns := sorted_unique (hp.trans (isort_perm ns).symm) hs (isort_sorted ns)
        subst e2
        have x := Ext.new R.sub hn (.lst ((isort ns).map V.int))
        exact q _ _ (R.mv x) x.f _ (.lst upd_same (DrL.of Drs.ofInts))
  · exact q.elim

/-! ### isinstance -/
inductive Ty5 where
  | int | bool | str | tuple | list
def Ty5.nm : Ty5 → String
  | .int => "int"
  | .bool => "bool"
  | .str => "str"
  | .tuple => "tuple"
  | .list => "list"
def tyN : D → Option String
  | .non => some "NoneType"
  | .bl _ => some "bool"
  | .int _ => some "int"
  | .str _ => some "str"
  | .tup _ => some "tuple"
  | .lst _ => some "list"
  | _ => none
def inst : Ty5 → D → Option Bool
  | _, .dct _ => none
  | _, .scr _ => none
  | _, .rf _ => none
  | .int, .int _ => some true
  | .int, .bl _ => some true
  | .bool, .bl _ => some true
  | .str, .str _ => some true
  | .tuple, .tup _ => some true
  | .list, .lst _ => some true
  | _, _ => some false
theorem tyx_of {K : PySem.W.Frag} {F H : Hp} {x : V} {d : D} {n : String} (s : Same F H) (h : Dr K F x d) (e : tyN d = some n) : TyX K H x (.type n) := by
  cases h <;> (unfold tyN at e; cases e)
  · exact .base .non
  · exact .base (.bl _)
  · exact .base (.int _)
  · exact .base (.str _)
  · rename_i ea _; exact .base (.tup (s _ _ ea))
  · rename_i ea _; exact .base (.lst (s _ _ ea))
theorem kit5 (K : PySem.W.Frag) : ∀ (T : Ty5) (d : D) (b : Bool), inst T d = some b → ∃ n, tyN d = some n ∧ PySem.W.kitOne K (.type n) (.type T.nm) = some b := by
  intro T d b h
  cases T <;> cases d <;> (unfold inst at h; first | (cases h; exact ⟨_, rfl, kit_ty (by decide +kernel)⟩) | cases h)
def dIsi (T : Ty5) : D → Option D := fun d => (inst T d).map .bl
def eIsi (T : Ty5) (f : EM D) : EM D := bnd f fun d => lift (dIsi T d)
theorem de_isi (T : Ty5) {X : Cx} {E : XK} {e : Expr} {te : TE} {f : EM D} {y : Str} {p p2 pos : Pos} (he : ED X E e te f) (hg : Gl X "isinstance") (hm : X.mg "isinstance" = none) (hgy : Gl X y) (hmy : X.mg y = none) (hvy : bootBuiltins y = some (.type T.nm))
    (hny : y ≠ "__name__" := by decide) (hdy : (y == ("__debug__" : Str)) = false := by decide) (s1 : starEach [e, .Name y p2] X.env = (false, eval e X.env) :: starEach [.Name y p2] X.env := by rfl) (s2 : starEach [.Name y p2] X.env = (false, eval (.Name y p2) X.env) :: starEach [] X.env := by rfl)
    (hpl : (backTo pos (starEach [.Name y p2] X.env)).any (·.1) = false := by rfl) {K : PySem.W.Frag} (hK : X.K = K := by rfl) :
    ED X E (.Call (.Name "isinstance" p) [e, .Name y p2] [] pos) (tCB (rIsi K) (tCons te (tCons (tC (.ty T.nm)) tNil))) (eIsi T f) := by
  subst hK
  refine ⟨pe_callB call_isi hg hm (by decide +kernel) (pa_cons he.pe (pa_cons (pe_bltn hgy hmy hvy rfl hny hdy) pa_nil s2) s1) (by decide) (by decide) s1 hpl, fun B F H σ S Q R h => ?_⟩
  refine he.dr B F H σ S _ R (Po.thn h fun d S1 F1 H1 R1 z1 h1 v hv => ?_)
  unfold dIsi at h1
  cases q : inst T d with
  | none => rw [q] at h1; exact h1.elim
  | some b =>
    rw [q] at h1
    obtain ⟨n, e1, e2⟩ := kit5 X.K T d b q
    exact ⟨v, .ty T.nm, .type n, .type T.nm, b, rfl, .ty _, tyx_of R1.sub hv e1, e2, po_at R1 h1 _ (.bl b)⟩
/-- isinstance(e, (T1, T2, ..)) -/
def instA : List Ty5 → D → Option Bool
  | [], _ => some false
  | T :: r, d => match inst T d, instA r d with
    | some a, some b => some (a || b)
    | _, _ => none
theorem kitA (K : PySem.W.Frag) {d : D} {n : String} (hn : tyN d = some n) : ∀ (Ts : List Ty5) (b : Bool), instA Ts d = some b → PySem.W.kitAny K (.type n) (Ts.map fun T => .type T.nm) = some b
  | [], b, h => by cases (show some false = some b from h); rfl
  | T :: r, b, h => by
    unfold instA at h
    cases e1 : inst T d with
    | none => rw [e1] at h; cases h
    | some x =>
      cases e2 : instA r d with
      | none => rw [e1, e2] at h; cases h
      | some y =>
        rw [e1, e2] at h
        cases h
        obtain ⟨n', hn', k⟩ := kit5 K T d x e1
        rw [hn] at hn'
        cases hn'
        have ih := kitA K hn r y e2
        rw [List.map_cons]
        refine kitAny_cons k (fun hx => ?_) (fun hx => by rw [hx]; rfl)
        rw [hx]
        exact ih
def tTys (Ts : List Ty5) : TA := match Ts with
  | [] => tNil
  | T :: r => tCons (tC (.ty T.nm)) (tTys r)
structure NmT (X : Cx) (y : Str) (T : Ty5) : Prop where
  g : Gl X y
  m : X.mg y = none
  v : bootBuiltins y = some (.type T.nm)
  n : y ≠ "__name__"
  d : (y == ("__debug__" : Str)) = false
theorem pa_ty {X : Cx} {y : Str} {T : Ty5} {p2 : Pos} {es : List Expr} {Ts : List Ty5} (h : NmT X y T) (t : PA X es (tTys Ts)) (hs : starEach (.Name y p2 :: es) X.env = (false, eval (.Name y p2) X.env) :: starEach es X.env := by rfl) : PA X (.Name y p2 :: es) (tTys (T :: Ts)) :=
  pa_cons (pe_bltn h.g h.m h.v rfl h.n h.d) t hs
theorem tTys_run {Ts : List Ty5} {σ : L2.St} {H : Hp} {Q : List V → Hp → Prop} (h : Q (Ts.map fun T => .ty T.nm) H) : tTys Ts σ H Q := by
  induction Ts generalizing Q with
  | nil => exact h
  | cons T r ih =>
    show tTys r σ H fun xs H2 => Q (.ty T.nm :: xs) H2
    exact ih h
def eIsiA (Ts : List Ty5) (f : EM D) : EM D := bnd f fun d => lift ((instA Ts d).map .bl)
theorem instA_ty (K : PySem.W.Frag) {Ts : List Ty5} {d : D} {b : Bool} (h : instA Ts d = some b) (hT : Ts ≠ []) : ∃ n, tyN d = some n := by
  cases Ts with
  | nil => exact absurd rfl hT
  | cons T r =>
    unfold instA at h
    cases e1 : inst T d with
    | none => rw [e1] at h; cases h
    | some x =>
      obtain ⟨n, hn, _⟩ := kit5 K T d x e1
      exact ⟨n, hn⟩
end TW
/-! ### enumerate of a tuple -/
namespace TW
open PySem PySem.Spec PyProof.Rows L2
open Sem (wp)
set_option maxHeartbeats 1000000 in
theorem meets_enumT (l : Addr) (items : Array Value) :
    Meets (Builtin.«enumerate.__new__» ⟨[.type "enumerate", .ref l], []⟩) (fun _ R s => s.heap.IsTuple l items ∧
      R (.ok (.ret (.ref (s.heap.push { cls := .type "tuple_iterator", data := .fields #[.ref l, .int 0 0] }).objs.size)))
        { s with heap := (s.heap.push { cls := .type "tuple_iterator", data := .fields #[.ref l, .int 0 0] }).push { cls := .type "enumerate", data := .fields #[.none, .bool false, .ref s.heap.objs.size, rawInt 0, .none, .none] } }) :=
  .of_wp fun prog w A R s h => by
    obtain ⟨hp, g, d, tk, os⟩ := s; obtain ⟨h1, h⟩ := h
    have hsub := sub_enumerate
    have q1 : ∀ {A' : Around} {E : Value → Shared → Prop} {Q : Value → Shared → Prop}, Q (.ref hp.objs.size) ⟨hp.push { cls := .type "tuple_iterator", data := .fields #[.ref l, .int 0 0] }, g, d, tk, os⟩ → wpAny (model prog w) A' (pyIter (.ref l)) Q E ⟨hp, g, d, tk, os⟩ :=
      fun q => wpAny_pyIter_tuple (s := ⟨hp, g, d, tk, os⟩) h1 q
    wp_walk using q1
    refine wpAny_stack_any fun st => wpAny_pure ?_
    split
    · rename_i c _ _ _ _ _
      cases (c == Value.type "enumerate")
      · wp_walk using q1
        exact ⟨_, rfl, h⟩
      · wp_walk using q1
        exact ⟨_, rfl, h⟩
    · wp_walk using q1
      exact ⟨_, rfl, h⟩
theorem call_enumT {prog : Program} {w : World} {A : Around} {E : Value → Shared → Prop} {s : Shared} {l : Addr} {items : Array Value} {Q : Value → Shared → Prop} (hL : s.heap.IsTuple l items)
    (h : ∀ h', IsEnum h' (s.heap.objs.size + 1) s.heap.objs.size 0 .none → h'.IsTupleIter s.heap.objs.size l 0 → h'.objs.size = s.heap.objs.size + 2 →
      (∀ b o, s.heap.get? b = some o → h'.get? b = some o) → Q (.ref (s.heap.objs.size + 1)) { s with heap := h' }) :
    wpAny (model prog w) A (call (.type "enumerate") [.ref l]) Q E s := by
  refine callType_new F.called_enumerate (by decide) (F.typeCall_enumerate_1 _) (F.newCall_enumerate_1 _) (fun obj => F.args_object_init_2 obj _) F.entry_enumerate_new
    (meets_enumT l items) ⟨hL, ?_⟩
  have hz : (s.heap.push { cls := .type "tuple_iterator", data := .fields #[.ref l, .int 0 0] }).objs.size = s.heap.objs.size + 1 := Heap.size_push ..
  show _ ∧ _
  rw [hz]
  have he : IsEnum ((s.heap.push { cls := .type "tuple_iterator", data := .fields #[.ref l, .int 0 0] }).push
      { cls := .type "enumerate", data := .fields #[.none, .bool false, .ref s.heap.objs.size, rawInt 0, .none, .none] }) (s.heap.objs.size + 1) s.heap.objs.size 0 .none := by
    have := Heap.get?_push_size (s.heap.push { cls := .type "tuple_iterator", data := .fields #[.ref l, .int 0 0] })
      (o := { cls := .type "enumerate", data := .fields #[.none, .bool false, .ref s.heap.objs.size, rawInt 0, .none, .none] }) rfl
    rw [hz] at this; exact this
  refine ⟨⟨_, he, rfl⟩, h _ he ⟨_, Heap.get?_push_of_some _ (Heap.get?_push_size _ rfl), rfl, rfl⟩ (by rw [Heap.size_push, hz]) fun b o x => Heap.get?_push_of_some _ (Heap.get?_push_of_some _ x)⟩
/-- the tuple at a as it stands, its items numbered -/
def IteT (K : PySem.W.Frag) (a : Addr) : It :=
  ⟨fun i H => ∃ (xs : List V) (x : V), SqT K H a xs ∧ xs[i]? = some x, fun i H v H' => ∃ T x, v = .ref T ∧ H T = none ∧ H' = upd H T (.tup [.int (i : Nat), x]) ∧ ∀ xs, SqT K H a xs → xs[i]? = some x, fun i H => ∃ xs : List V, SqT K H a xs ∧ xs.length ≤ i⟩
theorem turn_enumT {P : Program} {w : World} {K : PySem.W.Frag} {elts : List Expr} {kk : Nat} {tpos : Pos} (a e it : Addr) :
    Turn P w K (.Tuple elts kk tpos) (IteT K a) [e, it] e (fun i h => (∃ old, IsEnum h e it ((i : Nat) : Int) old) ∧ h.IsTupleIter it a i ∧ e ≠ it) where
  mem := by simp
  obj := fun i h st b hb => by
    obtain ⟨⟨old, he⟩, ⟨o, ho, hc, hd⟩, _⟩ := st
    have e' : b = e ∨ b = it := by simpa using hb
    rcases e' with z | z
    · rw [z]; exact ⟨_, he, fun v q => nomatch q⟩
    · rw [z]; exact ⟨o, ho, fun v q => by rw [hd] at q; cases q⟩
  keep := fun i h h' st k => let ⟨⟨old, he⟩, hi, hne⟩ := st; ⟨⟨old, k e (by simp) _ he⟩, hi.at fun o q => k it (by simp) o q, hne⟩
  item := by
    intro X hP hw hK hc i pins s σ H E I hf st hg
    subst hP hw hK
    obtain ⟨⟨old, he⟩, hit, hne⟩ := st
    obtain ⟨xs, x, hq, hx⟩ := hg
    obtain ⟨its, rv, p, hz⟩ := I.tuple hq
    obtain ⟨u, hu, ru⟩ := rv.get hx
    have hel : e < s.heap.objs.size := Heap.lt_size he
    have hil : it < s.heap.objs.size := by obtain ⟨_, q, _⟩ := hit; exact Heap.lt_size q
    have hai : a ≠ it := fun z => by
      obtain ⟨o, h1, h2, _⟩ := hit
      obtain ⟨o', h1', h2', _⟩ := (show s.heap.IsTuple a its.toArray from p)
      rw [z, h1] at h1'
      cases h1'
      rw [h2] at h2'
      injection h2' with h2'
      exact absurd h2' (by decide)
    have hae : a ≠ e := fun z => by
      obtain ⟨o', h1', h2', _⟩ := (show s.heap.IsTuple a its.toArray from p)
      have he' : s.heap.get? e = some _ := he
      rw [z, he'] at h1'
      cases h1'
      have h3 : Value.type "enumerate" = Value.type "tuple" := h2'
      injection h3 with h3
      exact absurd h3 (by decide)
    refine wpAny_pyNext_enum_itemD (Draws.tuple (A := X.A.in1) (I.ok.hd hc) it a hai its.toArray) he ⟨hit, p⟩ (i := i) (by simpa using (List.getElem?_eq_some_iff.mp hu).1) hne (by simp only [List.mem_cons, List.mem_nil_iff, or_false, not_or]; exact ⟨hne, Ne.symm hae⟩) fun x' h' tk hx' ho hit' hT hsz hk => ?_
    have ex : x' = u := by
      have q : its.toArray[i]? = some x' := hx'
      have q2 : its.toArray[i]? = some u := by simpa using hu
      rw [q2] at q
      exact (Option.some.inj q).symm
    subst ex
    refine ⟨_, rfl, wpAny_letOwnedTupleGo_enum (s := { s with heap := h', toks := tk + 1 }) ho fun h'' he' sb => ?_⟩
    have hT2 : h''.get? s.heap.objs.size = some { cls := .type "tuple", data := .seq #[.int i tk, x'] } := (sb.2 _ (Nat.ne_of_gt hel)).trans hT
    have new : ObjOk X.prog X.w (upd H s.heap.objs.size (.tup [.int (i : Nat), x])) h'' s.heap.objs.size (.tup [.int (i : Nat), x]) :=
      ⟨by show 2 ≤ sizeLine; decide, [.int i tk, x'], .cons ⟨_, rfl⟩ (.cons ru .nil), ⟨_, hT2, rfl, _, rfl⟩⟩
    have I1 : Inv X pins σ (upd H s.heap.objs.size (.tup [.int (i : Nat), x])) { s with heap := h'', toks := tk + 1 } :=
      I.turnedNew (ch := [e, it]) (fun b ob hb q => (sb.2 b (fun z => hb (by simp [z]))).trans (hk b ob (fun z => hb (by simp [z])) (fun z => hb (by simp [z])) q)) hf (Nat.le_refl _) new
    refine ⟨.ref s.heap.objs.size, _, I1, rfl, ⟨_, x, rfl, I.hok.fresh (Nat.le_refl _), rfl, fun ys hy => by rw [I.tuple_inj hy hq]; exact hx⟩, ⟨⟨x', ?_⟩, hit'.1.at fun o q => (sb.2 it (Ne.symm hne)).trans q, hne⟩, fun b hb => ?_⟩
    · have e1 : ((i + 1 : Nat) : Int) = (i : Int) + 1 := by omega
      rw [e1]; exact he'
    · have hb' : b < s.heap.objs.size := by
        have e' : b = e ∨ b = it := by simpa using hb
        rcases e' with z | z
        · rw [z]; exact hel
        · rw [z]; exact hil
      rw [upd_ne (Nat.ne_of_lt hb')]
      exact (hf b hb).1
  done := by
    intro X hP hw hK hc i pins s σ H E I hf st hg
    subst hP hw hK
    obtain ⟨⟨old, he⟩, hit, hne⟩ := st
    obtain ⟨xs, hq, hx⟩ := hg
    obtain ⟨its, rv, p, hz⟩ := I.tuple hq
    obtain ⟨f0, f1, f2, f3, f4, f5⟩ := hf it (by simp)
    have hl := rv.length
    have D0 : Builtin.SmallTypes.nextOf = Builtin.SmallTypes.nextOf := rfl
    have hT : s.TypeIs (.ref e) "enumerate" := ⟨_, he, rfl⟩
    unfold pyNext
    refine wpAny_bind (wpAny_attempt (wpAny_callSpecial?_slot (name := Str.ofString "__next__") hT PySem.F.slot_enumerate_next
      (wpAny_call_entry PySem.F.slot_enumerate_next hT PySem.F.entry_enumerate_next ?_ (PySem.F.args_enumerate_next_1 _))))
    show wpAny _ _ (field (.ref e) 2 >>= _) _ _ _
    refine wpAny_bind (wpAny_field he rfl (x := .ref it) rfl ?_)
    refine wpAny_bind (wpAny_nextOf_tuple_end (A := X.A.in1) (I.ok.hd hc) hit (show s.heap.IsTuple a its.toArray from p) (by simp; omega) fun h' x' he' hx' => ?_)
    obtain ⟨o, ho, hcl⟩ := hx'
    refine wpAny_bind (wpAny_isInstance (T := "StopIteration") (b := true) ⟨o, ho, hcl⟩ isSubtype_stop ?_)
    exact wpAny_pure ⟨rfl, I.turned (t' := s.toks) (fun b o hb q => he' b o hb q) f0 f1 f3 f4 f5⟩
  self := fun A i s Q E st h => let ⟨⟨_, he⟩, _⟩ := st; wpAny_pyIter_enum he h
end TW
namespace TW
open PySem PySem.Spec PyProof.Rows L2 RZ

/-! ### what is walked -/
def iSeq (K : PySem.W.Frag) (tl : TE) : TI := fun σ H R => tl σ H fun x H1 => ∃ a, x = .ref a ∧ ((∃ xs, SqL K H1 a xs ∧ R (Itl K a) H1) ∨ (∃ xs, SqT K H1 a xs ∧ R (Itt K a) H1))
theorem pi_seq {X : Cx} {tg l : Expr} {tl : TE} (hl : PE X l tl) : PI X tg l (iSeq X.K tl) := by
  refine ⟨fun pins s σ H R I h => ?_⟩
  refine thn (hl.run pins s σ H _ I h) fun v s1 ⟨x, H1, I1, r1, q1⟩ => ?_
  obtain ⟨a, e, ⟨xs, hq, q⟩ | ⟨xs, hq, q⟩⟩ := q1
  · subst e
    cases r1
    obtain ⟨its, rv, p, hz⟩ := I1.list hq
    refine wpAny_pyIter_list p.isList ?_
    refine ⟨s1.heap.objs.size, [s1.heap.objs.size], _, _, H1, rfl, I1.kept (t' := s1.toks) fun b o e => Heap.get?_push_of_some _ e, turn_list a _, ⟨_, Heap.get?_push_size _ rfl, rfl, rfl⟩, fun b hb => ?_, q⟩
    have e : b = s1.heap.objs.size := by simpa using hb
    subst e
    exact I1.fpOk (Nat.le_refl _) (I1.hok.fresh (Nat.le_refl _))
  · subst e
    cases r1
    obtain ⟨its, rv, p, hz⟩ := I1.tuple hq
    refine wpAny_pyIter_tuple (show s1.heap.IsTuple a its.toArray from p) ?_
    refine ⟨s1.heap.objs.size, [s1.heap.objs.size], _, _, H1, rfl, I1.kept (t' := s1.toks) fun b o e => Heap.get?_push_of_some _ e, turn_tuple a _, ⟨_, Heap.get?_push_size _ rfl, rfl, rfl⟩, fun b hb => ?_, q⟩
    have e : b = s1.heap.objs.size := by simpa using hb
    subst e
    exact I1.fpOk (Nat.le_refl _) (I1.hok.fresh (Nat.le_refl _))
def iEnA (K : PySem.W.Frag) (ta : TA) : TI := fun σ H R => ta σ H fun vs H1 => ∃ a xs, vs = [.ref a] ∧ ((SqL K H1 a xs ∧ R (Ite K a) H1) ∨ (SqT K H1 a xs ∧ R (IteT K a) H1))
theorem pi_enA {X : Cx} {e : Expr} {ta : TA} {p pos tpos : Pos} {elts : List Expr} {kk : Nat} (hg : Gl X "enumerate") (hm : X.mg "enumerate" = none) (ha : PA X [e] ta) (hs : starEach [e] X.env = [(false, eval e X.env)] := by rfl) :
    PI X (.Tuple elts kk tpos) (.Call (.Name "enumerate" p) [e] [] pos) (iEnA X.K ta) := by
  refine ⟨fun pins s σ H R I h => ?_⟩
  refine Call_ (ld_blt I hg hm boot_enumerate (PyProof.Rows.callWith_type1 (thn (ha.run pos pins s σ H _ I h) fun us s1 ⟨vs, H1, I1, r1, q1⟩ => ?_) hs rfl))
  obtain ⟨a, xs, ex, ⟨hq, q⟩ | ⟨hq, q⟩⟩ := q1
  · subst ex
    rw [Vals.ref1 r1]
    obtain ⟨its, rv, p', hz⟩ := I1.list hq
    refine call_enumerate_list p'.isList fun h' he hit hsz hk => wpAny_pyIter_enum he ?_
    have I2 : Inv X pins σ H1 { s1 with heap := h' } := I1.kept (t' := s1.toks) hk
    refine ⟨s1.heap.objs.size + 1, [s1.heap.objs.size + 1, s1.heap.objs.size], _, _, H1, rfl, I2, turn_enum a (s1.heap.objs.size + 1) s1.heap.objs.size, ⟨⟨.none, he⟩, hit, Nat.succ_ne_self _⟩, fun b hb => ?_, q⟩
    have e' : b = s1.heap.objs.size + 1 ∨ b = s1.heap.objs.size := by simpa using hb
    have hle : s1.heap.objs.size ≤ b := by
      rcases e' with z | z
      · rw [z]; exact Nat.le_add_right _ _
      · rw [z]; exact Nat.le_refl _
    exact I1.fpOk hle (I1.hok.fresh hle)
  · subst ex
    rw [Vals.ref1 r1]
    obtain ⟨its, rv, p', hz⟩ := I1.tuple hq
    refine call_enumT (show s1.heap.IsTuple a its.toArray from p') fun h' he hit hsz hk => wpAny_pyIter_enum he ?_
    have I2 : Inv X pins σ H1 { s1 with heap := h' } := I1.kept (t' := s1.toks) hk
    refine ⟨s1.heap.objs.size + 1, [s1.heap.objs.size + 1, s1.heap.objs.size], _, _, H1, rfl, I2, turn_enumT a (s1.heap.objs.size + 1) s1.heap.objs.size, ⟨⟨.none, he⟩, hit, Nat.succ_ne_self _⟩, fun b hb => ?_, q⟩
    have e' : b = s1.heap.objs.size + 1 ∨ b = s1.heap.objs.size := by simpa using hb
    have hle : s1.heap.objs.size ≤ b := by
      rcases e' with z | z
      · rw [z]; exact Nat.le_add_right _ _
      · rw [z]; exact Nat.le_refl _
    exact I1.fpOk hle (I1.hok.fresh hle)

/-- J walks the items ds -/
def ItD (K : PySem.W.Frag) (F : Hp) (J : It) (ds : List D) : Prop := ∀ (i : Nat) (F1 H : Hp), Same F F1 → Same F1 H →
  (ds.length ≤ i → J.stop i H) ∧ (i < ds.length → J.go i H ∧ ∀ x H', J.yld i H x H' → ∃ F2 d, ds[i]? = some d ∧ Ext F1 H F2 H' ∧ Dr K F2 x d)
section
variable {K : PySem.W.Frag} {F : Hp}
theorem itd_list {a : Addr} {xs : List V} {ds : List D} (h : F a = some (.lst xs)) (l : Drs K F xs ds) : ItD K F (Itl K a) ds := by
  intro i F1 H s1 s2
  have ha : H a = some (.lst xs) := s2 _ _ (s1 _ _ h)
  have hl := Paired.len l
  refine ⟨fun hi => ⟨xs, SqL.of ha, by omega⟩, fun hi => ?_⟩
  obtain ⟨x, hx, hd⟩ := Paired.get? l (List.getElem?_eq_getElem hi)
  refine ⟨⟨xs, x, SqL.of ha, hx⟩, fun y H' hy => ?_⟩
  obtain ⟨rfl, q⟩ := hy
  have e := q xs (SqL.of ha)
  rw [hx] at e
  cases e
  exact ⟨F1, ds[i], List.getElem?_eq_getElem hi, Ext.refl s2, hd.mono s1⟩
theorem itd_tup {a : Addr} {xs : List V} {ds : List D} (h : F a = some (.tup xs)) (l : Drs K F xs ds) : ItD K F (Itt K a) ds := by
  intro i F1 H s1 s2
  have ha : H a = some (.tup xs) := s2 _ _ (s1 _ _ h)
  have hl := Paired.len l
  refine ⟨fun hi => ⟨xs, SqT.of ha, by omega⟩, fun hi => ?_⟩
  obtain ⟨x, hx, hd⟩ := Paired.get? l (List.getElem?_eq_getElem hi)
  refine ⟨⟨xs, x, SqT.of ha, hx⟩, fun y H' hy => ?_⟩
  obtain ⟨rfl, q⟩ := hy
  have e := q xs (SqT.of ha)
  rw [hx] at e
  cases e
  exact ⟨F1, ds[i], List.getElem?_eq_getElem hi, Ext.refl s2, hd.mono s1⟩
def rangeL (lo : Int) (n : Nat) : List D := (List.range n).map fun k : Nat => D.int (lo + (k : Int))
theorem itd_rng (lo : Int) (n : Nat) : ItD K F (Itr lo n) (rangeL lo n) := by
  intro i F1 H s1 s2
  have hl : (rangeL lo n).length = n := by unfold rangeL; rw [List.length_map, List.length_range]
  refine ⟨fun hi => by rw [hl] at hi; exact hi, fun hi => ?_⟩
  rw [hl] at hi
  refine ⟨hi, fun y H' hy => ?_⟩
  obtain ⟨rfl, rfl⟩ := hy
  refine ⟨F1, .int (lo + i), ?_, Ext.refl s2, .int _⟩
  unfold rangeL
  rw [List.getElem?_map, List.getElem?_range hi]
  rfl
/-- the items numbered -/
def enumL (k : Nat) : List D → List D
  | [] => []
  | d :: r => .tup [.int (k : Int), d] :: enumL (k + 1) r
theorem enumL_len : ∀ (k : Nat) (l : List D), (enumL k l).length = l.length
  | _, [] => rfl
  | k, d :: r => by
    show (enumL (k + 1) r).length + 1 = r.length + 1
    rw [enumL_len (k + 1) r]
theorem enumL_get : ∀ {k i : Nat} {l : List D} {d : D}, l[i]? = some d → (enumL k l)[i]? = some (.tup [.int ((k + i : Nat) : Int), d])
  | _, _, [], _, h => by simp at h
  | k, 0, x :: r, d, h => by simp at h; subst h; rfl
  | k, i + 1, x :: r, d, h => by
    have e := enumL_get (k := k + 1) (i := i) (l := r) (d := d) (by simpa using h)
    show (enumL (k + 1) r)[i]? = _
    rw [e, show k + 1 + i = k + (i + 1) by omega]
theorem itd_enum {a : Addr} {xs : List V} {ds : List D} (h : F a = some (.lst xs)) (l : Drs K F xs ds) : ItD K F (Ite K a) (enumL 0 ds) := by
  intro i F1 H s1 s2
  have ha : H a = some (.lst xs) := s2 _ _ (s1 _ _ h)
  have hl := Paired.len l
  rw [enumL_len]
  refine ⟨fun hi => ⟨xs, SqL.of ha, by omega⟩, fun hi => ?_⟩
  obtain ⟨x, hx, hd⟩ := Paired.get? l (List.getElem?_eq_getElem hi)
  refine ⟨⟨xs, x, SqL.of ha, hx⟩, fun y H' hy => ?_⟩
  obtain ⟨T, z, rfl, hT, rfl, q⟩ := hy
  have e := q xs (SqL.of ha)
  rw [hx] at e
  have ez : z = x := (Option.some.inj e).symm
  subst ez
  have hh : H T = none := hT
  have x := Ext.new s2 hh (.tup [.int (i : Nat), z])
  have eg := enumL_get (k := 0) (List.getElem?_eq_getElem hi)
  rw [Nat.zero_add] at eg
  exact ⟨_, _, eg, x, .tup upd_same (.cons (.int _) (.cons ((hd.mono s1).mono x.f) .nil))⟩
theorem itd_enumT {a : Addr} {xs : List V} {ds : List D} (h : F a = some (.tup xs)) (l : Drs K F xs ds) : ItD K F (IteT K a) (enumL 0 ds) := by
  intro i F1 H s1 s2
  have ha : H a = some (.tup xs) := s2 _ _ (s1 _ _ h)
  have hl := Paired.len l
  rw [enumL_len]
  refine ⟨fun hi => ⟨xs, SqT.of ha, by omega⟩, fun hi => ?_⟩
  obtain ⟨x, hx, hd⟩ := Paired.get? l (List.getElem?_eq_getElem hi)
  refine ⟨⟨xs, x, SqT.of ha, hx⟩, fun y H' hy => ?_⟩
  obtain ⟨T, z, rfl, hT, rfl, q⟩ := hy
  have e := q xs (SqT.of ha)
  rw [hx] at e
  have ez : z = x := (Option.some.inj e).symm
  subst ez
  have hh : H T = none := hT
  have x := Ext.new s2 hh (.tup [.int (i : Nat), z])
  have eg := enumL_get (k := 0) (List.getElem?_eq_getElem hi)
  rw [Nat.zero_add] at eg
  exact ⟨_, _, eg, x, .tup upd_same (.cons (.int _) (.cons ((hd.mono s1).mono x.f) .nil))⟩
def zipL : List D → List D → List D
  | x :: r, y :: t => .tup [x, y] :: zipL r t
  | _, _ => []
theorem zipL_len : ∀ (l m : List D), (zipL l m).length = min l.length m.length
  | [], m => by simp [zipL]
  | x :: r, [] => by simp [zipL]
  | x :: r, y :: t => by
    show (zipL r t).length + 1 = min (r.length + 1) (t.length + 1)
    rw [zipL_len r t]; omega
theorem zipL_get : ∀ {i : Nat} {l m : List D} {x y : D}, l[i]? = some x → m[i]? = some y → (zipL l m)[i]? = some (.tup [x, y])
  | _, [], _, _, _, h, _ => by simp at h
  | _, _ :: _, [], _, _, _, h => by simp at h
  | 0, a :: r, b :: t, x, y, h, h' => by simp at h h'; subst h; subst h'; rfl
  | i + 1, a :: r, b :: t, x, y, h, h' => zipL_get (i := i) (l := r) (m := t) (by simpa using h) (by simpa using h')
theorem itd_zip {a b : Addr} {xs ys : List V} {ds es : List D} (h : F a = some (.lst xs)) (l : Drs K F xs ds) (h' : F b = some (.lst ys)) (l' : Drs K F ys es) : ItD K F (Itz K a b) (zipL ds es) := by
  intro i F1 H s1 s2
  have ha : H a = some (.lst xs) := s2 _ _ (s1 _ _ h)
  have hb : H b = some (.lst ys) := s2 _ _ (s1 _ _ h')
  have hl := Paired.len l
  have hl' := Paired.len l'
  rw [zipL_len]
  refine ⟨fun hi => ⟨xs, ys, SqL.of ha, SqL.of hb, by omega⟩, fun hi => ?_⟩
  have hi1 : i < ds.length := by omega
  have hi2 : i < es.length := by omega
  obtain ⟨x, hx, hd⟩ := Paired.get? l (List.getElem?_eq_getElem hi1)
  obtain ⟨y, hy, he⟩ := Paired.get? l' (List.getElem?_eq_getElem hi2)
  refine ⟨⟨xs, ys, x, y, SqL.of ha, SqL.of hb, hx, hy⟩, fun v H' hv => ?_⟩
  obtain ⟨T, z1, z2, rfl, hT, rfl, q1, q2⟩ := hv
  have e1 := q1 xs (SqL.of ha)
  have e2 := q2 ys (SqL.of hb)
  rw [hx] at e1
  rw [hy] at e2
  have ez1 : z1 = x := (Option.some.inj e1).symm
  have ez2 : z2 = y := (Option.some.inj e2).symm
  subst ez1 ez2
  have hh : H T = none := hT
  have x := Ext.new s2 hh (.tup [z1, z2])
  exact ⟨_, _, zipL_get (List.getElem?_eq_getElem hi1) (List.getElem?_eq_getElem hi2), x, .tup upd_same (.cons ((hd.mono s1).mono x.f) (.cons ((he.mono s1).mono x.f) .nil))⟩
theorem itd_zipT {a b : Addr} {xs ys : List V} {ds es : List D} (h : F a = some (.tup xs)) (l : Drs K F xs ds) (h' : F b = some (.tup ys)) (l' : Drs K F ys es) : ItD K F (ItzT K a b) (zipL ds es) := by
  intro i F1 H s1 s2
  have ha : H a = some (.tup xs) := s2 _ _ (s1 _ _ h)
  have hb : H b = some (.tup ys) := s2 _ _ (s1 _ _ h')
  have hl := Paired.len l
  have hl' := Paired.len l'
  rw [zipL_len]
  refine ⟨fun hi => ⟨xs, ys, SqT.of ha, SqT.of hb, by omega⟩, fun hi => ?_⟩
  have hi1 : i < ds.length := by omega
  have hi2 : i < es.length := by omega
  obtain ⟨x, hx, hd⟩ := Paired.get? l (List.getElem?_eq_getElem hi1)
  obtain ⟨y, hy, he⟩ := Paired.get? l' (List.getElem?_eq_getElem hi2)
  refine ⟨⟨xs, ys, x, y, SqT.of ha, SqT.of hb, hx, hy⟩, fun v H' hv => ?_⟩
  obtain ⟨T, z1, z2, rfl, hT, rfl, q1, q2⟩ := hv
  have e1 := q1 xs (SqT.of ha)
  have e2 := q2 ys (SqT.of hb)
  rw [hx] at e1
  rw [hy] at e2
  have ez1 : z1 = x := (Option.some.inj e1).symm
  have ez2 : z2 = y := (Option.some.inj e2).symm
  subst ez1 ez2
  have hh : H T = none := hT
  have x := Ext.new s2 hh (.tup [z1, z2])
  exact ⟨_, _, zipL_get (List.getElem?_eq_getElem hi1) (List.getElem?_eq_getElem hi2), x, .tup upd_same (.cons ((hd.mono s1).mono x.f) (.cons ((he.mono s1).mono x.f) .nil))⟩
end
def IDr (K : PySem.W.Frag) (mg : Str → Option Value) (E : XK) (wi : TI) (f : EM (List D)) : Prop :=
  ∀ B F H σ S (R : It → Hp → Prop), Rp K B F H σ S → Po K mg E B F σ (fun ds _ F' H' => ∀ J, ItD K F' J ds → R J H') (f S) → wi σ H R
structure ID (X : Cx) (E : XK) (tg iter : Expr) (wi : TI) (f : EM (List D)) : Prop where
  pi : PI X tg iter wi
  dr : IDr X.K X.mg E wi f
  hs : ∀ x, foldedSetIterable iter X.env x = pure x
def iS (f : EM D) : EM (List D) := bnd f fun d => match d with
  | .lst l => ret l
  | .tup l => ret l
  | _ => fun _ => none
theorem rg1_ex : ∃ f : Int → EM (List D), f = fun j => if -(2 ^ 62) ≤ j ∧ j < 2 ^ 62 then ret (rangeL 0 j.toNat) else fun _ => none := ⟨_, rfl⟩
theorem rg2_ex : ∃ f : Int → Int → EM (List D), f = fun i j => if (-(2 ^ 62) ≤ i ∧ i < 2 ^ 62) ∧ -(2 ^ 62) ≤ j ∧ j < 2 ^ 62 then ret (rangeL i (j - i).toNat) else fun _ => none := ⟨_, rfl⟩
/-- what range says, sealed -/
noncomputable def rg1 : Int → EM (List D) := Classical.choose rg1_ex
noncomputable def rg2 : Int → Int → EM (List D) := Classical.choose rg2_ex
theorem rg1_eq : rg1 = fun j => if -(2 ^ 62) ≤ j ∧ j < 2 ^ 62 then ret (rangeL 0 j.toNat) else fun _ => none := Classical.choose_spec rg1_ex
theorem rg2_eq : rg2 = fun i j => if (-(2 ^ 62) ≤ i ∧ i < 2 ^ 62) ∧ -(2 ^ 62) ≤ j ∧ j < 2 ^ 62 then ret (rangeL i (j - i).toNat) else fun _ => none := Classical.choose_spec rg2_ex
noncomputable def iR1 (f : EM (List D)) : EM (List D) := bnd f fun ds => match ds with
  | [.int j] => rg1 j
  | _ => fun _ => none
noncomputable def iR2 (f : EM (List D)) : EM (List D) := bnd f fun ds => match ds with
  | [.int i, .int j] => rg2 i j
  | _ => fun _ => none
def iE (f : EM (List D)) : EM (List D) := bnd f fun ds => match ds with
  | [.lst l] => ret (enumL 0 l)
  | [.tup l] => ret (enumL 0 l)
  | _ => fun _ => none
def iZ (f : EM (List D)) : EM (List D) := bnd f fun ds => match ds with
  | [.lst l, .lst m] => ret (zipL l m)
  | [.tup l, .tup m] => ret (zipL l m)
  | _ => fun _ => none
section
variable {X : Cx} {E : XK} {tg : Expr} {p pos tpos : Pos}
theorem di_seq {l : Expr} {tl : TE} {f : EM D} (h : ED X E l tl f) (hs : ∀ x, foldedSetIterable l X.env x = pure x := by intro _; rfl) {K : PySem.W.Frag} (hK : X.K = K := by rfl) : ID X E tg l (iSeq K tl) (iS f) := by
  subst hK
  refine ⟨pi_seq h.pe, fun B F H σ S R Q q => ?_, hs⟩
  refine h.dr B F H σ S _ Q (Po.thn q fun d S1 F1 H1 R1 s1 h1 v hv => ?_)
  cases hv with
  | @tup a xs ds ea la => exact ⟨a, rfl, .inr ⟨xs, SqT.of (R1.sub _ _ ea), po_at R1 h1 _ (itd_tup ea la.p)⟩⟩
  | @lst a xs ds ea la => exact ⟨a, rfl, .inl ⟨xs, SqL.of (R1.sub _ _ ea), po_at R1 h1 _ (itd_list ea la.p)⟩⟩
  | _ => exact h1.elim
theorem di_r1 {a : Expr} {ta : TA} {f : EM (List D)} (hg : Gl X "range") (hm : X.mg "range" = none) (ha : AD X E [a] ta f) (hs : starEach [a] X.env = [(false, eval a X.env)] := by rfl) (hz : ∀ x, foldedSetIterable (.Call (.Name "range" p) [a] [] pos) X.env x = pure x := by intro _; rfl) :
    ID X E tg (.Call (.Name "range" p) [a] [] pos) (iRng1 ta) (iR1 f) := by
  refine ⟨pi_range1 hg hm ha.pe hs, fun B F H σ S R Q q => ?_, hz⟩
  refine ha.dr B F H σ S _ Q (Po.thn q fun ds S1 F1 H1 R1 s1 h1 vs hv => ?_)
  split at h1
  · rename_i j
    obtain ⟨x, rfl, h⟩ := Drs.one hv
    cases h
    rw [rg1_eq] at h1
    simp only [] at h1
    by_cases z : -(2 ^ 62) ≤ j ∧ j < 2 ^ 62
    · rw [if_pos z] at h1
      exact ⟨j, rfl, z.1, z.2, po_at R1 h1 _ (itd_rng 0 _)⟩
    · rw [if_neg z] at h1; exact h1.elim
  · exact h1.elim
theorem di_r2 {a b : Expr} {ta : TA} {f : EM (List D)} (hg : Gl X "range") (hm : X.mg "range" = none) (ha : AD X E [a, b] ta f) (hs : starEach [a, b] X.env = [(false, eval a X.env), (false, eval b X.env)] := by rfl) (hs2 : starEach [b] X.env = [(false, eval b X.env)] := by rfl)
    (hz : ∀ x, foldedSetIterable (.Call (.Name "range" p) [a, b] [] pos) X.env x = pure x := by intro _; rfl) : ID X E tg (.Call (.Name "range" p) [a, b] [] pos) (iRng2 ta) (iR2 f) := by
  refine ⟨pi_range2 hg hm ha.pe hs hs2, fun B F H σ S R Q q => ?_, hz⟩
  refine ha.dr B F H σ S _ Q (Po.thn q fun ds S1 F1 H1 R1 s1 h1 vs hv => ?_)
  split at h1
  · rename_i i j
    obtain ⟨x, y, rfl, h, h'⟩ := Drs.two hv
    cases h
    cases h'
    rw [rg2_eq] at h1
    simp only [] at h1
    by_cases z : (-(2 ^ 62) ≤ i ∧ i < 2 ^ 62) ∧ -(2 ^ 62) ≤ j ∧ j < 2 ^ 62
    · rw [if_pos z] at h1
      exact ⟨i, j, rfl, ⟨z.1.1, z.1.2, z.2⟩, po_at R1 h1 _ (itd_rng i _)⟩
    · rw [if_neg z] at h1; exact h1.elim
  · exact h1.elim
theorem di_en {a : Expr} {ta : TA} {f : EM (List D)} {elts : List Expr} {kk : Nat} (hg : Gl X "enumerate") (hm : X.mg "enumerate" = none) (ha : AD X E [a] ta f) (hs : starEach [a] X.env = [(false, eval a X.env)] := by rfl)
    (hz : ∀ x, foldedSetIterable (.Call (.Name "enumerate" p) [a] [] pos) X.env x = pure x := by intro _; rfl) {K : PySem.W.Frag} (hK : X.K = K := by rfl) : ID X E (.Tuple elts kk tpos) (.Call (.Name "enumerate" p) [a] [] pos) (iEnA K ta) (iE f) := by
  subst hK
  refine ⟨pi_enA hg hm ha.pe hs, fun B F H σ S R Q q => ?_, hz⟩
  refine ha.dr B F H σ S _ Q (Po.thn q fun ds S1 F1 H1 R1 s1 h1 vs hv => ?_)
  split at h1
  · obtain ⟨x, rfl, h⟩ := Drs.one hv
    cases h with
    | @lst a xs ds ea la => exact ⟨a, xs, rfl, .inl ⟨SqL.of (R1.sub _ _ ea), po_at R1 h1 _ (itd_enum ea la.p)⟩⟩
  · obtain ⟨x, rfl, h⟩ := Drs.one hv
    cases h with
    | @tup a xs ds ea la => exact ⟨a, xs, rfl, .inr ⟨SqT.of (R1.sub _ _ ea), po_at R1 h1 _ (itd_enumT ea la.p)⟩⟩
  · exact h1.elim
theorem di_zip {a b : Expr} {ta : TA} {f : EM (List D)} {elts : List Expr} {kk : Nat} (hg : Gl X "zip") (hm : X.mg "zip" = none) (ha : AD X E [a, b] ta f) (hs : starEach [a, b] X.env = (false, eval a X.env) :: starEach [b] X.env := by rfl) (hpl : (backTo pos (starEach [b] X.env)).any (·.1) = false := by rfl)
    (hz : ∀ x, foldedSetIterable (.Call (.Name "zip" p) [a, b] [] pos) X.env x = pure x := by intro _; rfl) {K : PySem.W.Frag} (hK : X.K = K := by rfl) : ID X E (.Tuple elts kk tpos) (.Call (.Name "zip" p) [a, b] [] pos) (iZipA K ta) (iZ f) := by
  subst hK
  refine ⟨pi_zipA hg hm ha.pe hs hpl, fun B F H σ S R Q q => ?_, hz⟩
  refine ha.dr B F H σ S _ Q (Po.thn q fun ds S1 F1 H1 R1 s1 h1 vs hv => ?_)
  split at h1
  · obtain ⟨x, y, rfl, h, h'⟩ := Drs.two hv
    cases h with
    | @lst a xs ds ea la =>
      cases h' with
      | @lst b ys es eb lb => exact ⟨a, b, xs, ys, rfl, .inl ⟨SqL.of (R1.sub _ _ ea), SqL.of (R1.sub _ _ eb), po_at R1 h1 _ (itd_zip ea la.p eb lb.p)⟩⟩
  · obtain ⟨x, y, rfl, h, h'⟩ := Drs.two hv
    cases h with
    | @tup a xs ds ea la =>
      cases h' with
      | @tup b ys es eb lb => exact ⟨a, b, xs, ys, rfl, .inr ⟨SqT.of (R1.sub _ _ ea), SqT.of (R1.sub _ _ eb), po_at R1 h1 _ (itd_zipT ea la.p eb lb.p)⟩⟩
  · exact h1.elim
end

/-! ### states brought over -/
section
variable {K : PySem.W.Frag} {B : Bs} {F H : Hp} {σ σ2 : L2.St} {S S2 : List C}
theorem Rp.remap (h : Rp K B F H σ S) (hl : S2.length = σ2.length) (hs : ∀ i, (sg σ2 i = sg σ i ∧ gt S2 i = gt S i) ∨ ((gt S2 i).own = false ∧ RC K B F H (sg σ2 i) (gt S2 i))) : Rp K B F H σ2 S2 := by
  refine ⟨hl, h.sub, h.f0, h.h0, h.h1, h.m1, h.fr, fun i => ?_, fun i j a h1 h2 h3 h4 => ?_⟩
  · rcases hs i with ⟨e1, e2⟩ | ⟨_, q⟩
    · rw [e1, e2]; exact h.sl i
    · exact q
  · rcases hs i with ⟨e1, e2⟩ | ⟨q, _⟩
    · rcases hs j with ⟨e3, e4⟩ | ⟨q, _⟩
      · exact h.nd i j a (by rw [← e2]; exact h1) (by rw [← e4]; exact h2) (by rw [← e1]; exact h3) (by rw [← e3]; exact h4)
      · rw [q] at h2; cases h2
    · rw [q] at h1; cases h1
end
def wp : List C → List Nat → List C
  | S, [] => S
  | S, i :: r => st (wp S r) i .un
def kp : C → C
  | .vl d => .vl d
  | _ => .un
def rs (S1 : List C) : List Nat → List C → List C
  | [], S => S
  | i :: r, S => st (rs S1 r S) i (kp (gt S1 i))
theorem wp_len : ∀ (S : List C) (l : List Nat), (wp S l).length = S.length
  | S, [] => rfl
  | S, i :: r => by
    show (st (wp S r) i .un).length = _
    rw [st_len, wp_len S r]
theorem rs_len (S1 : List C) : ∀ (l : List Nat) (S : List C), (rs S1 l S).length = S.length
  | [], S => rfl
  | i :: r, S => by
    show (st (rs S1 r S) i (kp (gt S1 i))).length = _
    rw [st_len, rs_len S1 r S]
theorem gt_wp {S : List C} {j : Nat} : ∀ {l : List Nat}, (j ∈ l → gt (wp S l) j = .un) ∧ (j ∉ l → gt (wp S l) j = gt S j)
  | [] => ⟨fun h => (by cases h), fun _ => rfl⟩
  | i :: r => by
    obtain ⟨h1, h2⟩ := gt_wp (S := S) (j := j) (l := r)
    show (_ → gt (st (wp S r) i .un) j = _) ∧ (_ → gt (st (wp S r) i .un) j = _)
    refine ⟨fun h => ?_, fun h => ?_⟩
    · by_cases e : j = i
      · subst e
        by_cases hl : j < (wp S r).length
        · exact gt_st hl
        · exact gt_out (by rw [st_len]; omega)
      · rw [gt_ne e]
        exact h1 ((List.mem_cons.mp h).resolve_left e)
    · have e : j ≠ i := fun e => h (by rw [e]; exact List.mem_cons_self)
      rw [gt_ne e]
      exact h2 fun q => h (List.mem_cons_of_mem _ q)
theorem gt_rs {S1 S : List C} (hl : S1.length = S.length) {j : Nat} : ∀ {l : List Nat}, (j ∈ l → gt (rs S1 l S) j = kp (gt S1 j)) ∧ (j ∉ l → gt (rs S1 l S) j = gt S j)
  | [] => ⟨fun h => (by cases h), fun _ => rfl⟩
  | i :: r => by
    obtain ⟨h1, h2⟩ := gt_rs hl (j := j) (l := r)
    show (_ → gt (st (rs S1 r S) i (kp (gt S1 i))) j = _) ∧ (_ → gt (st (rs S1 r S) i (kp (gt S1 i))) j = _)
    refine ⟨fun h => ?_, fun h => ?_⟩
    · by_cases e : j = i
      · subst e
        by_cases hj : j < (rs S1 r S).length
        · exact gt_st hj
        · rw [gt_out (by rw [st_len]; omega), gt_out (S := S1) (by rw [rs_len] at hj; omega)]; rfl
      · rw [gt_ne e]
        exact h1 ((List.mem_cons.mp h).resolve_left e)
    · have e : j ≠ i := fun e => h (by rw [e]; exact List.mem_cons_self)
      rw [gt_ne e]
      exact h2 fun q => h (List.mem_cons_of_mem _ q)
theorem sg_wipe {σ : L2.St} {j : Nat} : ∀ {l : List Nat}, (j ∈ l → sg (wipe σ l) j = none) ∧ (j ∉ l → sg (wipe σ l) j = sg σ j)
  | [] => ⟨fun h => (by cases h), fun _ => rfl⟩
  | i :: r => by
    obtain ⟨h1, h2⟩ := sg_wipe (σ := σ) (j := j) (l := r)
    show (_ → sg ((wipe σ r).set i none) j = _) ∧ (_ → sg ((wipe σ r).set i none) j = _)
    refine ⟨fun h => ?_, fun h => ?_⟩
    · by_cases e : j = i
      · subst e
        by_cases hl : j < (wipe σ r).length
        · exact sg_set hl
        · unfold sg; rw [List.getElem?_eq_none (by rw [List.length_set]; omega)]
      · rw [sg_ne e]
        exact h1 ((List.mem_cons.mp h).resolve_left e)
    · have e : j ≠ i := fun e => h (by rw [e]; exact List.mem_cons_self)
      rw [sg_ne e]
      exact h2 fun q => h (List.mem_cons_of_mem _ q)
theorem wipe_set {σ : L2.St} {i : Nat} {v : Option V} : ∀ {vs : List Nat}, i ∈ vs → wipe (σ.set i v) vs = wipe σ vs
  | j :: r, h => by
    show (wipe (σ.set i v) r).set j none = (wipe σ r).set j none
    by_cases q : i ∈ r
    · rw [wipe_set q]
    · have e : i = j := (List.mem_cons.mp h).resolve_right q
      subst e
      have cm : ∀ (l : List Nat), i ∉ l → wipe (σ.set i v) l = (wipe σ l).set i v := by
        intro l
        induction l with
        | nil => intro _; rfl
        | cons k t ih =>
          intro hn
          have h1 : i ≠ k := fun e => hn (by rw [e]; exact List.mem_cons_self)
          show (wipe (σ.set i v) t).set k none = ((wipe σ t).set k none).set i v
          rw [ih fun z => hn (List.mem_cons_of_mem _ z), List.set_comm _ _ h1]
      rw [cm r q, List.set_set]
section
variable {K : PySem.W.Frag} {B : Bs} {F H : Hp} {σ σ2 : L2.St} {S S1 : List C}
theorem Rp.wipe (h : Rp K B F H σ S) (vs : List Nat) : Rp K B F H (L2.wipe σ vs) (wp S vs) := by
  refine h.remap (by rw [wp_len, wipe_length]; exact h.len) fun i => ?_
  by_cases q : i ∈ vs
  · refine .inr ?_
    rw [gt_wp.1 q]
    exact ⟨rfl, trivial⟩
  · exact .inl ⟨sg_wipe.2 q, gt_wp.2 q⟩
/-- a frame with other things in the slots vs, wiped -/
theorem Rp.wiped {vs : List Nat} (h : Rp K B F H σ2 S) (e : L2.wipe σ2 vs = L2.wipe σ vs) : Rp K B F H (L2.wipe σ vs) (wp S vs) := by
  rw [← e]; exact h.wipe vs
/-- the new list D of a comprehension stands apart -/
def Bs.acc (B : Bs) (D : Addr) (xs : List V) : Bs := { B with H := upd B.H D (.lst xs) }
theorem Rp.toAcc {D : Addr} {xs : List V} (h : Rp K B F H σ S) (hD : H D = none) : Rp K (B.acc D xs) F (upd H D (.lst xs)) σ S := by
  have x := Ext.newH h.sub hD (.lst xs)
  have h2 := h.mv x
  have bD : B.H D = none := by
    cases e : B.H D with
    | none => rfl
    | some o => exact absurd hD (h.h1 D (by rw [e]; simp))
  refine ⟨h2.len, h2.sub, h2.f0, fun a o h3 h4 => ?_, fun a h3 => ?_, fun a h3 q => ?_, fun a h3 h4 => ?_, fun i => ?_, h2.nd⟩
  · by_cases e : a = D
    · subst e
      have q : (upd B.H a (.lst xs)) a = some o := h3
      rw [upd_same] at q ⊢
      exact q
    · have q : (upd B.H D (.lst xs)) a = some o := h3
      rw [upd_ne e] at q
      exact h2.h0 a o q h4
  · by_cases e : a = D
    · subst e; rw [upd_same]; simp
    · have q : (upd B.H D (.lst xs)) a ≠ none := h3
      rw [upd_ne e] at q
      exact h2.h1 a q
  · have q' : (upd B.H D (.lst xs)) a = none := q
    by_cases e : a = D
    · subst e; rw [upd_same] at q'; cases q'
    · rw [upd_ne e] at q'
      exact h.m1 a h3 q'
  · by_cases e : a = D
    · subst e; exact h.sub.free hD
    · have q : (upd B.H D (.lst xs)) a ≠ none := h3
      rw [upd_ne e] at q
      exact h2.fr a q h4
  · have q := h.sl i
    have q2 := h2.sl i
    have okk : ∀ p a o, H a = some o → B.ok p a → (B.acc D xs).ok p a := fun p a o ha hb => by
      unfold Bs.ok at hb ⊢
      cases p with
      | true => exact hb
      | false =>
        have e : a ≠ D := ne_of_none ha hD
        simp only [Bool.false_eq_true, if_false] at hb ⊢
        show (upd B.H D (.lst xs)) a = none
        rw [upd_ne e]; exact hb
    cases e : gt S i with
    | un => trivial
    | vl d => rw [e] at q2; exact q2
    | ow p l =>
      rw [e] at q q2
      obtain ⟨a, ys, e1, e2, e3, e4, e5⟩ := q2
      obtain ⟨a', ys', e1', _, _, e4', _⟩ := q
      rw [e1] at e1'
      cases e1'
      exact ⟨a, ys, e1, e2, okk p a _ e4' e3, e4, e5⟩
    | dc p l =>
      rw [e] at q q2
      obtain ⟨a, ys, e1, e2, e3, e4, e5⟩ := q2
      obtain ⟨a', ys', e1', _, _, e4', _⟩ := q
      rw [e1] at e1'
      cases e1'
      exact ⟨a, ys, e1, e2, okk p a _ e4' e3, e4, e5⟩
theorem acc_ok {D a : Addr} {xs ys : List V} {p : Bool} (hM : B.M ≠ some D) (h : (B.acc D xs).ok p a) : a ≠ D ∧ (B.acc D ys).ok p a ∧ B.ok p a := by
  unfold Bs.ok at h ⊢
  cases p with
  | true =>
    simp only [if_true] at h ⊢
    have h' : B.M = some a := h
    exact ⟨fun e => hM (by rw [h', e]), h, h⟩
  | false =>
    simp only [Bool.false_eq_true, if_false] at h ⊢
    have q : (upd B.H D (.lst xs)) a = none := h
    have e : a ≠ D := fun e => by subst e; rw [upd_same] at q; cases q
    rw [upd_ne e] at q
    refine ⟨e, ?_, q⟩
    show (upd B.H D (.lst ys)) a = none
    rw [upd_ne e]; exact q
theorem Rp.accIs {D : Addr} {xs : List V} (h : Rp K (B.acc D xs) F H σ S) (hM : B.M ≠ some D) : H D = some (.lst xs) := h.h0 D _ (by show (upd B.H D (.lst xs)) D = _; rw [upd_same]) hM
theorem Rp.accPut {D : Addr} {xs ys : List V} (h : Rp K (B.acc D xs) F H σ S) (hM : B.M ≠ some D) (hF : F D = none) : Rp K (B.acc D ys) F (upd H D (.lst ys)) σ S := by
  refine ⟨h.len, fun b o e => ?_, h.f0, fun a o h3 h4 => ?_, fun a h3 => ?_, fun a h3 q => ?_, fun a h3 h4 => ?_, fun i => ?_, h.nd⟩
  · rw [upd_ne (fun z => by subst z; rw [hF] at e; cases e)]; exact h.sub _ _ e
  · have q : (upd B.H D (.lst ys)) a = some o := h3
    by_cases e : a = D
    · subst e; rw [upd_same] at q ⊢; exact q
    · rw [upd_ne e] at q ⊢
      exact h.h0 a o (by show (upd B.H D (.lst xs)) a = _; rw [upd_ne e]; exact q) h4
  · have q : (upd B.H D (.lst ys)) a ≠ none := h3
    by_cases e : a = D
    · subst e; rw [upd_same]; simp
    · rw [upd_ne e] at q ⊢
      exact h.h1 a (by show (upd B.H D (.lst xs)) a ≠ _; rw [upd_ne e]; exact q)
  · have q' : (upd B.H D (.lst ys)) a = none := q
    by_cases e : a = D
    · subst e; rw [upd_same] at q'; cases q'
    · rw [upd_ne e] at q'
      exact h.m1 a h3 (by show (upd B.H D (.lst xs)) a = _; rw [upd_ne e]; exact q')
  · by_cases e : a = D
    · subst e; exact hF
    · have q : (upd B.H D (.lst ys)) a ≠ none := h3
      rw [upd_ne e] at q
      exact h.fr a (by show (upd B.H D (.lst xs)) a ≠ _; rw [upd_ne e]; exact q) h4
  · have q := h.sl i
    cases e : gt S i with
    | un => trivial
    | vl d => rw [e] at q; exact q
    | ow p l =>
      rw [e] at q
      obtain ⟨a, zs, e1, e2, e3, e4, e5⟩ := q
      obtain ⟨k1, k2, _⟩ := acc_ok (ys := ys) hM e3
      exact ⟨a, zs, e1, e2, k2, by rw [upd_ne k1]; exact e4, e5⟩
    | dc p l =>
      rw [e] at q
      obtain ⟨a, zs, e1, e2, e3, e4, e5⟩ := q
      obtain ⟨k1, k2, _⟩ := acc_ok (ys := ys) hM e3
      exact ⟨a, zs, e1, e2, k2, by rw [upd_ne k1]; exact e4, e5⟩
/-- the accumulator becomes a new list of the outer state, not frozen -/
theorem Rp.accOut {D : Addr} {xs : List V} (h : Rp K (B.acc D xs) F H σ S) (hM : B.M ≠ some D) (hB : B.H D = none) : Rp K B F H σ S := by
  have ne : ∀ a, B.H a ≠ none → a ≠ D := fun a ha e => ha (by rw [e]; exact hB)
  refine ⟨h.len, h.sub, h.f0, fun a o h3 h4 => ?_, fun a h3 => ?_, fun a h3 q => ?_, fun a h3 h4 => ?_, fun i => ?_, h.nd⟩
  · exact h.h0 a o (by show (upd B.H D (.lst xs)) a = _; rw [upd_ne (ne a (by rw [h3]; simp))]; exact h3) h4
  · exact h.h1 a (by show (upd B.H D (.lst xs)) a ≠ _; rw [upd_ne (ne a h3)]; exact h3)
  · by_cases e : a = D
    · subst e; exact hM h3
    · exact h.m1 a h3 (by show (upd B.H D (.lst xs)) a = _; rw [upd_ne e]; exact q)
  · exact h.fr a (by show (upd B.H D (.lst xs)) a ≠ _; rw [upd_ne (ne a h3)]; exact h3) h4
  · have q := h.sl i
    cases e : gt S i with
    | un => trivial
    | vl d => rw [e] at q; exact q
    | ow p l =>
      rw [e] at q
      obtain ⟨a, zs, e1, e2, e3, e4, e5⟩ := q
      exact ⟨a, zs, e1, e2, (acc_ok (ys := xs) hM e3).2.2, e4, e5⟩
    | dc p l =>
      rw [e] at q
      obtain ⟨a, zs, e1, e2, e3, e4, e5⟩ := q
      exact ⟨a, zs, e1, e2, (acc_ok (ys := xs) hM e3).2.2, e4, e5⟩
/-- an untold object is frozen -/
theorem Rp.freeze {a : Addr} {o : HO} (h : Rp K B F H σ S) (hH : H a = some o) (hF : F a = none) (hB : B.H a = none) (hn : ∀ i, (gt S i).own = true → sg σ i ≠ some (.ref a)) : Rp K B (upd F a o) H σ S := by
  have sf : Same F (upd F a o) := same_new hF
  refine ⟨h.len, fun b u e => ?_, h.f0.trans sf, h.h0, h.h1, h.m1, fun b h1 h2 => ?_, fun i => ?_, h.nd⟩
  · by_cases q : b = a
    · subst q; rw [upd_same] at e; cases e; exact hH
    · rw [upd_ne q] at e; exact h.sub _ _ e
  · rw [upd_ne (fun z => h1 (by rw [z]; exact hB))]; exact h.fr b h1 h2
  · have q := h.sl i
    cases e : gt S i with
    | un => trivial
    | vl d => rw [e] at q; obtain ⟨x, h1, h2⟩ := q; exact ⟨x, h1, h2.mono sf⟩
    | ow p l =>
      rw [e] at q
      obtain ⟨b, zs, e1, e2, e3, e4, e5⟩ := q
      exact ⟨b, zs, e1, by rw [upd_ne (fun z => hn i (by rw [e]; rfl) (by rw [e1, z]))]; exact e2, e3, e4, Drs.mono sf e5⟩
    | dc p l =>
      rw [e] at q
      obtain ⟨b, zs, e1, e2, e3, e4, e5⟩ := q
      exact ⟨b, zs, e1, by rw [upd_ne (fun z => hn i (by rw [e]; rfl) (by rw [e1, z]))]; exact e2, e3, e4, Krs.mono sf e5⟩
/-- behind a comprehension the block's names are as they were -/
theorem Rp.restore {F1 H1 : Hp} {vs : List Nat} (h : Rp K B F H (L2.wipe σ vs) S) (h1 : Rp K B F1 H1 σ S1) (s : Same F1 F) : Rp K B F H σ (rs S1 vs S) := by
  have l1 : S1.length = S.length := by rw [h1.len, h.len, wipe_length]
  refine h.remap (by rw [rs_len, h.len, wipe_length]) fun i => ?_
  by_cases q : i ∈ vs
  · refine .inr ?_
    rw [(gt_rs l1).1 q]
    have r := h1.sl i
    cases e : gt S1 i with
    | vl d => rw [e] at r; obtain ⟨x, r1, r2⟩ := r; exact ⟨rfl, x, r1, r2.mono s⟩
    | _ => exact ⟨rfl, trivial⟩
  · exact .inl ⟨(sg_wipe.2 q).symm, (gt_rs l1).2 q⟩
end
end TW
namespace TW
open PySem PySem.Spec PyProof.Rows L2 RZ

/-! ### targets -/
abbrev GF := D → List C → Option (List C)
def GDr (K : PySem.W.Frag) (g : TG) (gd : GF) (ix : List Nat) : Prop :=
  ∀ B F H σ S v d S' (Q : L2.St → Hp → Prop), Rp K B F H σ S → Dr K F v d → gd d S = some S' → (∀ σ', Rp K B F H σ' S' → (∀ vs, (∀ i ∈ ix, i ∈ vs) → L2.wipe σ' vs = L2.wipe σ vs) → Q σ' H) → g v σ H Q
def GsDr (K : PySem.W.Frag) (g : TGs) (ix : List Nat) : Prop :=
  ∀ B F H σ S vs ds (Q : L2.St → Hp → Prop), Rp K B F H σ S → Drs K F vs ds → ds.length = ix.length → (∀ σ' S', S' = (ix.zip ds).foldl (fun S p => st S p.1 (.vl p.2)) S → Rp K B F H σ' S' → (∀ vs, (∀ i ∈ ix, i ∈ vs) → L2.wipe σ' vs = L2.wipe σ vs) → Q σ' H) → g vs σ H Q
def gN (i : Nat) : GF := fun d S => some (st S i (.vl d))
def gT (ix : List Nat) : GF := fun d S => match d with
  | .tup ds => if ds.length = ix.length then some ((ix.zip ds).foldl (fun S p => st S p.1 (.vl p.2)) S) else none
  | _ => none
structure GD (X : Cx) (tg : Expr) (g : TG) (gd : GF) (ix : List Nat) : Prop where
  pg : PG X tg g
  dr : GDr X.K g gd ix
structure GsD (X : Cx) (tgs : List Expr) (g : TGs) (ix : List Nat) : Prop where
  pg : PGs X tgs g
  dr : GsDr X.K g ix
section
variable {X : Cx}
theorem gd_name {i : Nat} {x : Str} {pos : Pos} (hN : X.N.Nodup) (hi : X.N[i]? = some x) (hx : Loc X.env.scope x) (hf : X.fn x = true ∨ X.env.scope.names.lookup x = some .local := by first | exact .inl rfl | exact .inr rfl | assumption) : GD X (.Name x pos) (gName i) (gN i) [i] := by
  refine ⟨pg_name hN hi hx hf, fun B F H σ S v d S' Q R hd e k => ?_⟩
  cases (show some (st S i (.vl d)) = some S' from e)
  exact k _ (R.set i hd) fun vs hv => wipe_set (hv i List.mem_cons_self)
theorem gs_nil : GsD X [] gNil [] := by
  refine ⟨pgs_nil, fun B F H σ S vs ds Q R hd hl k => ?_⟩
  cases hd with
  | nil => exact ⟨rfl, k σ S rfl R fun _ _ => rfl⟩
  | cons _ _ => cases hl
theorem gs_cons {es : List Expr} {i : Nat} {x : Str} {pos : Pos} {u : TGs} {ix : List Nat} (hN : X.N.Nodup) (hi : X.N[i]? = some x) (hx : Loc X.env.scope x) (h2 : GsD X es u ix) (hf : X.fn x = true ∨ X.env.scope.names.lookup x = some .local := by first | exact .inl rfl | exact .inr rfl | assumption)
    (hs : (assignEach (.Name x pos :: es) X.env).map (·.2) = assign (.Name x pos) X.env :: (assignEach es X.env).map (·.2) := by rfl) : GsD X (.Name x pos :: es) (gCons (gName i) u) (i :: ix) := by
  refine ⟨pgs_cons (pg_name hN hi hx hf) h2.pg hs, fun B F H σ S vs ds Q R hd hl k => ?_⟩
  cases hd with
  | nil => cases hl
  | @cons v d vr dr hv hr =>
    refine ⟨v, vr, rfl, ?_⟩
    refine h2.dr B F H (σ.set i (some v)) (st S i (.vl d)) vr dr Q (R.set i hv) hr (Nat.succ.inj hl) fun σ' S' e R' q => k σ' S' e R' fun ws hw => ?_
    rw [q ws fun j hj => hw j (List.mem_cons_of_mem _ hj)]
    exact wipe_set (hw i List.mem_cons_self)
theorem gd_tup {es : List Expr} {k : Nat} {t : TGs} {n : Nat} {ix : List Nat} {pos : Pos} (hc : X.calm = true) (h : GsD X es t ix) (hn : (assignEach es X.env).length = n := by rfl) (hst : (assignEach es X.env).findIdx? (·.1) = none := by rfl) (hix : ix.length = n := by rfl) {K : PySem.W.Frag} (hK : X.K = K := by rfl) :
    GD X (.Tuple es k pos) (gTup K n t) (gT ix) ix := by
  subst hK
  refine ⟨pg_tup hc h.pg hn hst, fun B F H σ S v d S' Q R hd e q => ?_⟩
  cases hd with
  | @tup a xs ds ea la =>
    unfold gT at e
    by_cases z : ds.length = ix.length
    · simp only [if_pos z] at e
      refine ⟨a, xs, rfl, SqT.of (R.sub _ _ ea), by rw [Paired.len la.p, z, hix], ?_⟩
      exact h.dr B F H σ S xs ds Q R la.p z fun σ' S2 e2 R' w' => q σ' (by cases e; rw [← e2]; exact R') w'
    · simp only [if_neg z] at e; cases e
  | _ => cases e
end

/-! ### comprehensions -/
def E0' : XK := fun _ _ _ => False
def lcGo (vs : List Nat) (g : GF) (tt : EM Bool) (te : EM D) : List D → List D → List C → Option (List D × List C)
  | [], acc, S => some (acc, S)
  | x :: r, acc, S => match g x S with
    | none => none
    | some S2 => match tt S2 with
      | some (.ok true S3) => match te S3 with
        | some (.ok y S4) => lcGo vs g tt te r (acc ++ [y]) (wp S4 vs)
        | _ => none
      | some (.ok false S3) => lcGo vs g tt te r acc (wp S3 vs)
      | _ => none
/-- a new list and the state behind -/
def lcF (vs : List Nat) (fi : EM (List D)) (g : GF) (tt : EM Bool) (te : EM D) : EM (List D) := bnd fi fun ds S1 => if ds.length ≤ sizeLine then
  match lcGo vs g tt te ds [] (wp S1 vs) with
  | some (ys, S2) => some (.ok ys (rs S1 vs S2))
  | none => none
  else none
def lcE (vs : List Nat) (fi : EM (List D)) (g : GF) (tt : EM Bool) (te : EM D) : EM D := bnd (lcF vs fi g tt te) fun ys => ret (.lst ys)
/-- a new list: what is wanted of it -/
def PoF (K : PySem.W.Frag) (mg : Str → Option Value) (E : XK) (B : Bs) (F : Hp) (σ : L2.St) (Q : VK) : Option (Rs (List D)) → Prop :=
  fun r => Po K mg E B F σ (fun l S' F' H' => ∀ a xs, H' a = some (.lst xs) → F' a = none → B.H a = none → Drs K F' xs l → (∀ i, (gt S' i).own = true → sg σ i ≠ some (.ref a)) → Q (.ref a) H') r
def FDr (K : PySem.W.Frag) (mg : Str → Option Value) (E : XK) (t : TE) (f : EM (List D)) : Prop :=
  ∀ B F H σ S (Q : VK), Rp K B F H σ S → PoF K mg E B F σ Q (f S) → t σ H Q
/-- an expression that makes a new list -/
structure FD (X : Cx) (E : XK) (e : Expr) (t : TE) (f : EM (List D)) : Prop where
  pe : PE X e t
  dr : FDr X.K X.mg E t f
theorem FDr.e {K : PySem.W.Frag} {mg : Str → Option Value} {E : XK} {t : TE} {f : EM (List D)} (h : FDr K mg E t f) : EDr K mg E t (bnd f fun ys => ret (.lst ys)) := by
  intro B F H σ S Q R q
  refine h B F H σ S Q R (Po.thn q fun l S' F' H' R' s' h' a xs ha hF hB hl hn => ?_)
  have R2 := R'.freeze ha hF hB hn
  have sf : Same F' (upd F' a (.lst xs)) := same_new hF
  exact h' _ _ R2 sf _ (.lst upd_same (DrL.of (Drs.mono sf hl)))
theorem FD.e {X : Cx} {E : XK} {e : Expr} {t : TE} {f : EM (List D)} (h : FD X E e t f) : ED X E e t (bnd f fun ys => ret (.lst ys)) := ⟨h.pe, h.dr.e⟩
theorem lc_dr {K : PySem.W.Frag} {mg : Str → Option Value} {E : XK} {wi : TI} {g : TG} {tt : TT} {te : TE} {vs ix : List Nat} {fi : EM (List D)} {gd : GF} {ft : EM Bool} {fe : EM D} (hi : IDr K mg E wi fi) (hg : GDr K g gd ix) (ht : TDr K mg E0 tt ft) (he : EDr K mg E0 te fe) (hix : ∀ i ∈ ix, i ∈ vs) :
    FDr K mg E (tLc wi g tt te vs) (lcF vs fi gd ft fe) := by
  intro B F H σ S Q R q
  refine hi B F H σ S _ R (Po.thn q fun ds S1 F1 H1 R1 s1 h1 J hJ => ?_)
  intro D hD
  by_cases z : ds.length ≤ sizeLine
  case neg =>
    have : False := by rw [if_neg z] at h1; exact h1
    exact this.elim
  rw [if_pos z] at h1
  cases e : lcGo vs gd ft fe ds [] (wp S1 vs) with
  | none => rw [e] at h1; exact h1.elim
  | some p =>
    obtain ⟨ys, S2⟩ := p
    rw [e] at h1
    have hM : B.M ≠ some D := fun x => R1.h1 D (R1.m1 D x) hD
    have hB : B.H D = none := by
      cases q : B.H D with
      | none => rfl
      | some o => exact absurd hD (R1.h1 D (by rw [q]; simp))
    have hF1 : F1 D = none := R1.sub.free hD
    have nown : ∀ i, (gt S1 i).own = true → sg σ i ≠ some (.ref D) := fun i ho hs => by
      have r := R1.sl i
      cases q : gt S1 i with
      | ow p l => rw [q] at r; obtain ⟨a, xs, e1, _, _, e4, _⟩ := r; rw [e1] at hs; cases hs; rw [e4] at hD; cases hD
      | dc p l => rw [q] at r; obtain ⟨a, xs, e1, _, _, e4, _⟩ := r; rw [e1] at hs; cases hs; rw [e4] at hD; cases hD
      | _ => rw [q] at ho; cases ho
    refine ⟨fun i m Hx => ∃ Fx Sx acc xs, i + m = ds.length ∧ Same F1 Fx ∧ Rp K (B.acc D xs) Fx Hx (L2.wipe σ vs) Sx ∧ Fx D = none ∧ Drs K Fx xs acc ∧ xs.length ≤ i ∧ lcGo vs gd ft fe (ds.drop i) acc Sx = some (ys, S2),
      ⟨ds.length, F1, wp S1 vs, [], [], Nat.zero_add _, Same.refl _, (R1.wipe vs).toAcc hD, hF1, .nil, Nat.le_refl _, e⟩, fun i m Hx hW => ?_⟩
    obtain ⟨Fx, Sx, acc, xs, em, sx, Rx, hFx, hacc, hlen, hgo⟩ := hW
    obtain ⟨jst, jgo⟩ := hJ i Fx Hx sx Rx.sub
    by_cases hi' : i < ds.length
    · refine .inr ?_
      obtain ⟨j1, j2⟩ := jgo hi'
      refine ⟨j1, fun Hy => ∃ Fy Sy acc xs, i + 1 + (m - 1) = ds.length ∧ Same F1 Fy ∧ Rp K (B.acc D xs) Fy Hy (L2.wipe σ vs) Sy ∧ Fy D = none ∧ Drs K Fy xs acc ∧ xs.length ≤ i + 1 ∧ lcGo vs gd ft fe (ds.drop (i + 1)) acc Sy = some (ys, S2), fun Hy hy => ⟨m - 1, by omega, hy⟩, fun x Hy hy => ?_⟩
      obtain ⟨F2, d, hd1, hd2, hd3⟩ := j2 x Hy hy
      have dr : ds.drop i = d :: ds.drop (i + 1) := by
        rw [List.drop_eq_getElem_cons hi']
        rw [List.getElem?_eq_getElem hi'] at hd1
        rw [Option.some.inj hd1]
      rw [dr] at hgo
      unfold lcGo at hgo
      have Ry := Rx.mv hd2
      have hD2 : Hx D = some (.lst xs) := Rx.accIs hM
      have hF2 : F2 D = none := hd2.n D (by rw [hD2]; simp) hFx
      cases e2 : gd d Sx with
      | none => rw [e2] at hgo; cases hgo
      | some S3 =>
        simp only [e2] at hgo
        refine hg (B.acc D xs) F2 Hy (L2.wipe σ vs) Sx x d S3 _ Ry hd3 e2 fun σ' R3 hw => ?_
        have hw2 : L2.wipe σ' vs = L2.wipe σ vs := by
          have w1 := hw vs hix
          rw [w1]
          clear w1 hw R3 Ry hd3 hgo hd2 jst jgo j1 j2 Rx
          have idem : ∀ (l : List Nat) (τ : L2.St), (∀ i ∈ l, i ∈ vs) → L2.wipe (L2.wipe τ vs) l = L2.wipe τ vs := by
            intro l
            induction l with
            | nil => intro τ _; rfl
            | cons k t ih =>
              intro τ hk
              show (L2.wipe (L2.wipe τ vs) t).set k none = L2.wipe τ vs
              rw [ih τ fun i hi => hk i (List.mem_cons_of_mem _ hi)]
              apply List.ext_getElem?
              intro n
              by_cases en : n = k
              · subst en
                have hs : sg (L2.wipe τ vs) n = none := sg_wipe.1 (hk n List.mem_cons_self)
                by_cases hn : n < (L2.wipe τ vs).length
                · rw [List.getElem?_set_self hn]
                  unfold sg at hs
                  rw [List.getElem?_eq_getElem hn] at hs ⊢
                  simp only at hs
                  rw [hs]
                · rw [List.getElem?_eq_none (by rw [List.length_set]; omega), List.getElem?_eq_none (by omega)]
              · rw [List.getElem?_set_ne (Ne.symm en)]
          exact idem vs σ fun _ h => h
        refine ⟨hw2, ?_⟩
        cases e3 : ft S3 with
        | none => rw [e3] at hgo; cases hgo
        | some rr =>
          cases rr with
          | er c p => rw [e3] at hgo; cases hgo
          | ok b S4 =>
            refine ht (B.acc D xs) F2 Hy σ' S3 _ R3 ?_
            rw [e3]
            intro F3 H3 R4 s4
            have hF3 : F3 D = none := R4.fr D (by show (upd B.H D (.lst xs)) D ≠ none; rw [upd_same]; simp) (by
              show B.F D = none
              cases q : B.F D with
              | none => rfl
              | some o => exact absurd (R1.f0 D o q) (by rw [hF1]; simp))
            cases b with
            | false =>
              simp only [e3] at hgo
              rw [if_neg Bool.false_ne_true]
              exact ⟨F3, wp S4 vs, acc, xs, by omega, sx.trans (hd2.f.trans s4), R4.wiped hw2, hF3, Drs.mono (hd2.f.trans s4) hacc, by omega, hgo⟩
            | true =>
              simp only [e3] at hgo
              rw [if_pos rfl]
              cases e4 : fe S4 with
              | none => rw [e4] at hgo; cases hgo
              | some rr =>
                cases rr with
                | er c p => rw [e4] at hgo; cases hgo
                | ok y S5 =>
                  simp only [e4] at hgo
                  refine he (B.acc D xs) F3 H3 σ' S4 _ R4 ?_
                  rw [e4]
                  intro F4 H4 R5 s5 v hv
                  have hF4 : F4 D = none := R5.fr D (by show (upd B.H D (.lst xs)) D ≠ none; rw [upd_same]; simp) (by
                    show B.F D = none
                    cases q : B.F D with
                    | none => rfl
                    | some o => exact absurd (R1.f0 D o q) (by rw [hF1]; simp))
                  have hD4 : H4 D = some (.lst xs) := R5.accIs hM
                  refine ⟨xs, hD4, by omega, ?_⟩
                  have sm : Same Fx F4 := hd2.f.trans (s4.trans s5)
                  refine ⟨F4, wp S5 vs, acc ++ [y], xs ++ [v], by omega, sx.trans sm, (R5.wiped hw2).accPut hM hF4, hF4, Paired.app (Drs.mono sm hacc) (.cons hv .nil), by rw [List.length_append, List.length_singleton]; omega, hgo⟩
    · refine .inl ⟨jst (by omega), ?_⟩
      have dr : ds.drop i = [] := List.drop_of_length_le (by omega)
      rw [dr] at hgo
      unfold lcGo at hgo
      cases hgo
      have hD2 : Hx D = some (.lst xs) := Rx.accIs hM
      have R9 := (Rx.accOut hM hB).restore R1 sx
      refine h1 Fx Hx R9 sx D xs hD2 hFx hB hacc fun i ho hs => ?_
      by_cases q : i ∈ vs
      · rw [(gt_rs (by rw [R1.len, Rx.len, wipe_length])).1 q] at ho
        cases e9 : gt S1 i with
        | _ => rw [e9] at ho; cases ho
      · have r := Rx.sl i
        rw [sg_wipe.2 q, hs] at r
        rw [(gt_rs (by rw [R1.len, Rx.len, wipe_length])).2 q] at ho
        cases e9 : gt S2 i with
        | ow p l =>
          rw [e9] at r
          obtain ⟨a, zs, e1, _, e3, _⟩ := r
          cases e1
          exact (acc_ok (ys := xs) hM e3).1 rfl
        | dc p l =>
          rw [e9] at r
          obtain ⟨a, zs, e1, _, e3, _⟩ := r
          cases e1
          exact (acc_ok (ys := xs) hM e3).1 rfl
        | _ => rw [e9] at ho; cases ho
end TW
namespace TW
open PySem PySem.Spec PyProof.Rows L2 RZ

/-! ### comprehensions, new lists -/
structure TsD (X : Cx) (E : XK) (ifs : List Expr) (t : TT) (f : EM Bool) : Prop where
  pe : PTs X ifs t
  dr : TDr X.K X.mg E t f
section
variable {X : Cx} {E : XK}
theorem ts_nil : TsD X E [] tYes (ret true) := ⟨pts_nil, fun B F H σ S Q R h => po_at R h⟩
theorem ts_one {c : Expr} {t : TT} {f : EM Bool} (h : TD X E c t f) : TsD X E [c] t f := ⟨pts_one h.pe, h.dr⟩
theorem fd_lc {elt tg iter : Expr} {ifs : List Expr} {scope : Scope} {own : List (Str × Nat)} {pos : Pos} {wi : TI} {g : TG} {tt : TT} {te : TE} {ix : List Nat} {fi : EM (List D)} {gd : GF} {ft : EM Bool} {fe : EM D} (hc : X.calm = true) (hN : X.N.Nodup) (hi : ID X E tg iter wi fi)
    (ok : blkC X.N X.env.scope scope own = true)
    (hg : ∀ (s : Shared) (H : Hp) (C : Addr) (cl : List (Str × Addr)) (fp : List Addr), GD (X.blk s H scope (compEnvC scope cl C X.env) fp) tg g gd ix)
    (ht : ∀ (s : Shared) (H : Hp) (C : Addr) (cl : List (Str × Addr)) (fp : List Addr), TsD (X.blk s H scope (compEnvC scope cl C X.env) fp) E0 ifs tt ft)
    (he : ∀ (s : Shared) (H : Hp) (C : Addr) (cl : List (Str × Addr)) (fp : List Addr), ED (X.blk s H scope (compEnvC scope cl C X.env) fp) E0 elt te fe)
    (hix : ∀ i ∈ ix, i ∈ own.map (·.2) := by decide) : FD X E (.ListComp elt [⟨tg, iter, ifs, 0⟩] scope pos) (tLc wi g tt te (own.map (·.2))) (lcF (own.map (·.2)) fi gd ft fe) :=
  ⟨pe_lc hc hN hi.pi (blkOk_by ok) (fun s H C cl fp => (hg s H C cl fp).pg) (fun s H C cl fp => (ht s H C cl fp).pe) (fun s H C cl fp => (he s H C cl fp).pe) hi.hs,
    lc_dr hi.dr (hg X.s_0 X.H_0 0 [] []).dr (ht X.s_0 X.H_0 0 [] []).dr (he X.s_0 X.H_0 0 [] []).dr hix⟩
theorem po_f {K : PySem.W.Frag} {mg : Str → Option Value} {B : Bs} {F H : Hp} {σ : L2.St} {S : List C} {Q : VK} {l : List D} (R : Rp K B F H σ S) (h : PoF K mg E B F σ Q (some (.ok l S))) {p : Addr} (hp : H p = none) {xs : List V} (hx : Drs K F xs l) : Q (.ref p) (upd H p (.lst xs)) := by
  have x := Ext.newH R.sub hp (.lst xs)
  refine h F _ (R.mv x) (Same.refl _) p xs upd_same (R.sub.free hp) ?_ hx fun i ho hs => ?_
  · cases q : B.H p with
    | none => rfl
    | some o => exact absurd hp (R.h1 p (by rw [q]; simp))
  · have r := R.sl i
    cases q : gt S i with
    | ow p' l => rw [q] at r; obtain ⟨a, xs, e1, _, _, e4, _⟩ := r; rw [e1] at hs; cases hs; rw [e4] at hp; cases hp
    | dc p' l => rw [q] at r; obtain ⟨a, xs, e1, _, _, e4, _⟩ := r; rw [e1] at hs; cases hs; rw [e4] at hp; cases hp
    | _ => rw [q] at ho; cases ho
def fL (f : EM (List D)) : EM (List D) := bnd f fun xs => if xs.length ≤ sizeLine then ret xs else fun _ => none
theorem fd_lst {es : List Expr} {t : TA} {f : EM (List D)} {pos : Pos} (h : AD X E es t f) : FD X E (.List es pos) (tLst t) (fL f) := by
  refine ⟨pe_lst h.pe, fun B F H σ S Q R q => ?_⟩
  refine h.dr B F H σ S _ R (Po.thn q fun ds S1 F1 H1 R1 s1 h1 vs hv => ?_)
  by_cases z : ds.length ≤ sizeLine
  · rw [if_pos z] at h1
    exact ⟨by rw [Paired.len hv]; exact z, fun p hp => po_f R1 h1 hp hv⟩
  · rw [if_neg z] at h1; exact h1.elim
def fList (f : EM (List D)) : EM (List D) := bnd f fun ds => match ds with
  | [.lst l] => ret l
  | [.tup l] => ret l
  | _ => fun _ => none
theorem fd_list {e : Expr} {t : TA} {f : EM (List D)} {x : Str} {p pos : Pos} (hg : Gl X x) (hm : X.mg x = none) (hv : bootBuiltins x = some (.type "list")) (ha : AD X E [e] t f) (hn : x ≠ "__name__" := by decide) (hdb : (x == ("__debug__" : Str)) = false := by decide)
    (he : starEach [e] X.env = (false, eval e X.env) :: starEach [] X.env := by rfl) (hpl : (backTo pos (starEach [] X.env)).any (·.1) = false := by rfl) {K : PySem.W.Frag} (hK : X.K = K := by rfl) : FD X E (.Call (.Name x p) [e] [] pos) (tCB (kList K) t) (fList f) := by
  subst hK
  refine ⟨pe_callTy (r := kList X.K) call_list_of hg hm hv ha.pe hn hdb he hpl, fun B F H σ S Q R q => ?_⟩
  refine ha.dr B F H σ S _ R (Po.thn q fun ds S1 F1 H1 R1 s1 h1 vs hv => ?_)
  split at h1
  · obtain ⟨x, rfl, h⟩ := Drs.one hv
    cases h with
    | @lst a xs l ea la => exact ⟨a, xs, rfl, .inl (SqL.of (R1.sub _ _ ea)), fun p hp => po_f R1 h1 hp la.p⟩
  · obtain ⟨x, rfl, h⟩ := Drs.one hv
    cases h with
    | @tup a xs l ea la => exact ⟨a, xs, rfl, .inr (SqT.of (R1.sub _ _ ea)), fun p hp => po_f R1 h1 hp la.p⟩
  · exact h1.elim
end

/-! ### statements -/
inductive Out where
  | nx (S : List C) | rt (d : D) (S : List C) | ro (l : List D) (S : List C) | bk (S : List C) | ct (S : List C) | er (c : Str) (p : Option D)
abbrev SM := List C → Option Out
def PoS (K : PySem.W.Frag) (mg : Str → Option Value) (E : XK) (B : Bs) (F : Hp) (D : Ends) : Option Out → Prop
  | none => False
  | some (.nx S') => ∀ F' H' σ', Rp K B F' H' σ' S' → Same F F' → D.nx σ' H'
  | some (.bk S') => ∀ F' H' σ', Rp K B F' H' σ' S' → Same F F' → D.bk σ' H'
  | some (.ct S') => ∀ F' H' σ', Rp K B F' H' σ' S' → Same F F' → D.ct σ' H'
  | some (.rt d S') => ∀ F' H' σ' v, Rp K B F' H' σ' S' → Same F F' → Dr K F' v d → D.rt v H'
  | some (.ro l S') => ∀ F' H' σ' a xs, Rp K B F' H' σ' S' → Same F F' → H' a = some (.lst xs) → F' a = none → B.H a = none → Drs K F' xs l → (∀ i, (gt S' i).own = true → sg σ' i ≠ some (.ref a)) → D.rt (.ref a) H'
  | some (.er c p) => PoX K mg E B F c p
section
variable {K : PySem.W.Frag} {mg : Str → Option Value} {E : XK} {B : Bs} {F F1 : Hp} {D D' : Ends}
theorem PoS.weak (e : Same F F1) : ∀ {r : Option Out}, PoS K mg E B F D r → PoS K mg E B F1 D r
  | none, h => h
  | some (.nx _), h => fun F' H' σ' R s => h F' H' σ' R (e.trans s)
  | some (.bk _), h => fun F' H' σ' R s => h F' H' σ' R (e.trans s)
  | some (.ct _), h => fun F' H' σ' R s => h F' H' σ' R (e.trans s)
  | some (.rt _ _), h => fun F' H' σ' v R s => h F' H' σ' v R (e.trans s)
  | some (.ro _ _), h => fun F' H' σ' a xs R s => h F' H' σ' a xs R (e.trans s)
  | some (.er _ _), h => PoX.weak e h
end
def SDr (K : PySem.W.Frag) (mg : Str → Option Value) (E : XK) (t : TS) (f : SM) : Prop := ∀ B F H σ S (D : Ends), Rp K B F H σ S → PoS K mg E B F D (f S) → t D σ H
structure SD (X : Cx) (E : XK) (s : Stmt) (t : TS) (f : SM) : Prop where
  ps : PS X s t
  dr : SDr X.K X.mg E t f
structure SsD (X : Cx) (E : XK) (s : List Stmt) (t : TS) (f : SM) : Prop where
  ps : PSs X s t
  dr : SDr X.K X.mg E t f
def sNext : SM := fun S => some (.nx S)
def sSeq (f g : SM) : SM := fun S => match f S with
  | some (.nx S') => g S'
  | o => o
def sBind {α : Type} (f : EM α) (g : α → SM) : SM := fun S => match f S with
  | none => none
  | some (.er c p) => some (.er c p)
  | some (.ok a S') => g a S'
def sExpr (f : EM D) : SM := sBind f fun _ => sNext
def sRet (f : EM D) : SM := sBind f fun d S => some (.rt d S)
def sRetF (f : EM (List D)) : SM := sBind f fun l S => some (.ro l S)
def sIf (c : EM Bool) (f g : SM) : SM := sBind c fun b => if b = true then f else g
def sAsg (f : EM D) (g : GF) : SM := sBind f fun d S => match g d S with
  | some S' => some (.nx S')
  | none => none
def sErr (c : Str) : SM := fun _ => some (.er c none)
theorem PoS.bnd {K : PySem.W.Frag} {mg : Str → Option Value} {E : XK} {B : Bs} {F : Hp} {σ : L2.St} {D : Ends} {α : Type} {f : EM α} {g : α → SM} {S : List C} {k : α → List C → Hp → Hp → Prop} (h : PoS K mg E B F D (sBind f g S))
    (i : ∀ a S1 F1 H1, Rp K B F1 H1 σ S1 → Same F F1 → PoS K mg E B F1 D (g a S1) → k a S1 F1 H1) : Po K mg E B F σ k (f S) := by
  unfold sBind at h
  cases e : f S with
  | none => rw [e] at h; exact h
  | some r =>
    rw [e] at h
    cases r with
    | er c p => exact h
    | ok a S1 => exact fun F' H' R s => i a S1 F' H' R s (PoS.weak s h)
section
variable {X : Cx} {E : XK} {pos : Pos}
theorem ss_nil : SsD X E [] tNext sNext := ⟨pss_nil, fun B F H σ S D R h => h F H σ R (Same.refl _)⟩
theorem ss_cons {s : Stmt} {r : List Stmt} {t u : TS} {f g : SM} (h1 : SD X E s t f) (h2 : SsD X E r u g) : SsD X E (s :: r) (tSeq t u) (sSeq f g) := by
  refine ⟨pss_cons h1.ps h2.ps, fun B F H σ S D R h => ?_⟩
  refine h1.dr B F H σ S { D with nx := u D } R ?_
  unfold sSeq at h
  cases e : f S with
  | none => rw [e] at h; exact h
  | some o =>
    rw [e] at h
    cases o with
    | nx S' => exact fun F' H' σ' R' s => h2.dr B F' H' σ' S' D R' (PoS.weak s h)
    | _ => exact h
theorem ss_one {s : Stmt} {t : TS} {f : SM} (h1 : SD X E s t f) : SsD X E [s] t f := ⟨pss_one h1.ps, h1.dr⟩
theorem sd_pass : SD X E (.Pass pos) tNext sNext := ⟨ps_pass, fun B F H σ S D R h => h F H σ R (Same.refl _)⟩
theorem sd_break : SD X E (.Break pos) tBreak (fun S => some (.bk S)) := ⟨ps_break, fun B F H σ S D R h => h F H σ R (Same.refl _)⟩
theorem sd_expr {e : Expr} {t : TE} {f : EM D} (h : ED X E e t f) (hs : swapsWith e none pos.line X.env = pure false := by rfl) : SD X E (.Expr e pos) (tDrop t) (sExpr f) := by
  refine ⟨ps_expr h.pe hs, fun B F H σ S D R q => ?_⟩
  exact h.dr B F H σ S _ R (PoS.bnd q fun d S1 F1 H1 R1 s1 h1 v hv => h1 F1 H1 σ R1 (Same.refl _))
theorem sd_ret {e : Expr} {t : TE} {f : EM D} (h : ED X E e t f) : SD X E (.Return (some e) pos) (tRet t) (sRet f) := by
  refine ⟨ps_ret h.pe, fun B F H σ S D R q => ?_⟩
  exact h.dr B F H σ S _ R (PoS.bnd q fun d S1 F1 H1 R1 s1 h1 v hv => h1 F1 H1 σ v R1 (Same.refl _) hv)
theorem sd_retF {e : Expr} {t : TE} {f : EM (List D)} (h : FD X E e t f) : SD X E (.Return (some e) pos) (tRet t) (sRetF f) := by
  refine ⟨ps_ret h.pe, fun B F H σ S D R q => ?_⟩
  exact h.dr B F H σ S _ R (PoS.bnd q fun d S1 F1 H1 R1 s1 h1 a xs ha hF hB hl hn => h1 F1 H1 σ a xs R1 (Same.refl _) ha hF hB hl hn)
theorem sd_if {c : Expr} {a b : List Stmt} {tc : TT} {t u : TS} {fc : EM Bool} {f g : SM} (hc : TD X E c tc fc) (ha : SsD X E a t f) (hb : SsD X E b u g) : SD X E (.If c a b pos) (tIfS tc t u) (sIf fc f g) := by
  refine ⟨ps_if hc.pe ha.ps hb.ps, fun B F H σ S D R q => ?_⟩
  refine hc.dr B F H σ S _ R (PoS.bnd q fun k S1 F1 H1 R1 s1 h1 => ?_)
  cases k with
  | true => exact ha.dr B F1 H1 σ S1 D R1 h1
  | false => exact hb.dr B F1 H1 σ S1 D R1 h1
theorem asg_dr {K : PySem.W.Frag} {mg : Str → Option Value} {te : TE} {g : TG} {f : EM D} {gd : GF} {ix : List Nat} (h : EDr K mg E te f) (hg : GDr K g gd ix) : SDr K mg E (tAsg te g) (sAsg f gd) := by
  intro B F H σ S D R q
  refine h B F H σ S _ R (PoS.bnd q fun d S1 F1 H1 R1 s1 h1 v hv => ?_)
  cases e : gd d S1 with
  | none => rw [e] at h1; exact h1.elim
  | some S2 =>
    rw [e] at h1
    exact hg B F1 H1 σ S1 v d S2 _ R1 hv e fun σ' R2 _ => h1 F1 H1 σ' R2 (Same.refl _)
/-- name = value -/
theorem sd_set {i : Nat} {x : Str} {e : Expr} {te : TE} {f : EM D} {pos' : Pos} (he : ED X E e te f) (hN : X.N.Nodup) (hi : X.N[i]? = some x) (hx : Loc X.env.scope x) (hs : swapsWith e (some (.Name x pos')) pos.line X.env = pure false := by rfl) (hf : X.fn x = true ∨ X.env.scope.names.lookup x = some .local := by first | exact .inl rfl | exact .inr rfl | assumption) :
    SD X E (.Assign [.Name x pos'] e pos) (tAsg te (gName i)) (sAsg f (gN i)) := ⟨ps_set hN hi hx he.pe hs hf, asg_dr he.dr (gd_name (pos := pos) hN hi hx hf).dr⟩
/-- target = value -/
theorem sd_asg {tg e : Expr} {te : TE} {g : TG} {f : EM D} {gd : GF} {ix : List Nat} (he : ED X E e te f) (hg : GD X tg g gd ix) (hs : swapsWithSole [tg] e pos.line X.env = pure false := by rfl) (hw : swappedStores [tg] e X.env = pure none := by rfl)
    (h1 : (assignEach [tg] X.env).map (·.2) = [assign tg X.env] := by rfl) : SD X E (.Assign [tg] e pos) (tAsg te g) (sAsg f gd) := ⟨ps_asg he.pe hg.pg hs hw h1, asg_dr he.dr hg.dr⟩
/-- a, b = x, y with plain local names -/
def sPar (i j : Nat) (f : EM (List D)) : SM := sBind f fun ds S => match ds with
  | [d, e] => some (.nx (st (st S i (.vl d)) j (.vl e)))
  | _ => none
theorem sd_par {i j : Nat} {x y : Str} {a b : Expr} {ta : TA} {f : EM (List D)} {px py pt : Pos} {kt k2 pt2} (ha : AD X E [a, b] ta f) (hc : X.calm = true) (hN : X.N.Nodup) (hi : X.N[i]? = some x) (hj : X.N[j]? = some y) (hij : i ≠ j)
    (hx : X.env.scope.names.lookup x = some .local) (hy : X.env.scope.names.lookup y = some .local)
    (hw : swappedStores [.Tuple [.Name x px, .Name y py] kt pt] (.Tuple [a, b] k2 pt2) X.env = pure (some [x, y]) := by rfl)
    (hs : swapsWithSole [.Tuple [.Name x px, .Name y py] kt pt] (.Tuple [a, b] k2 pt2) pos.line X.env = pure false := by rfl) :
    SD X E (.Assign [.Tuple [.Name x px, .Name y py] kt pt] (.Tuple [a, b] k2 pt2) pos) (tPar i j ta) (sPar i j f) := by
  refine ⟨ps_par hc hN hi hj hij hx hy ha.pe hw hs, fun B F H σ S D R q => ?_⟩
  refine ha.dr B F H σ S _ R (PoS.bnd q fun ds S1 F1 H1 R1 s1 h1 vs hv => ?_)
  split at h1
  · obtain ⟨v, w, rfl, h2, h3⟩ := Drs.two hv
    exact ⟨v, w, rfl, h1 F1 H1 _ ((R1.set i h2).set j h3) (Same.refl _)⟩
  · exact h1.elim
/-- y = [..] where the name is the list's only holder -/
theorem sd_setLc {i : Nat} {y : Str} {py : Pos} {elt tg iter : Expr} {ifs : List Expr} {scope : Scope} {own : List (Str × Nat)} {spos : Pos} {wi : TI} {g : TG} {tt : TT} {te : TE} {f : EM (List D)}
    (hl : FD X E (.ListComp elt [⟨tg, iter, ifs, 0⟩] scope pos) (tLc wi g tt te (own.map (·.2))) f) (hp : PS X (.Assign [.Name y py] (.ListComp elt [⟨tg, iter, ifs, 0⟩] scope pos) spos) (tAsg (tLc wi g tt te (own.map (·.2))) (gName i))) :
    SD X E (.Assign [.Name y py] (.ListComp elt [⟨tg, iter, ifs, 0⟩] scope pos) spos) (tAsg (tLc wi g tt te (own.map (·.2))) (gName i)) (sAsg (bnd f fun ys => ret (.lst ys)) (gN i)) := by
  refine ⟨hp, asg_dr hl.dr.e (ix := [i]) ?_⟩
  intro B F H σ S v d S' Q R hd e k
  cases (show some (st S i (.vl d)) = some S' from e)
  exact k _ (R.set i hd) fun vs hv => wipe_set (hv i List.mem_cons_self)
end

/-! ### owned lists: stored to a name, grown, written -/
section
variable {K : PySem.W.Frag} {B : Bs} {F H : Hp} {σ : L2.St} {S : List C}
theorem Rp.setOwn {a : Addr} {xs : List V} {l : List D} (h : Rp K B F H σ S) (i : Nat) (ha : H a = some (.lst xs)) (hF : F a = none) (hB : B.H a = none) (hl : Drs K F xs l) (hn : ∀ i, (gt S i).own = true → sg σ i ≠ some (.ref a)) : Rp K B F H (σ.set i (some (.ref a))) (st S i (.ow false l)) := by
  have own : ∀ j, j ≠ i → (gt (st S i (.ow false l)) j).own = true → (gt S j).own = true := fun j e q => by rw [gt_ne e] at q; exact q
  refine ⟨by rw [st_len, List.length_set]; exact h.len, h.sub, h.f0, h.h0, h.h1, h.m1, h.fr, fun j => ?_, fun j k b h1 h2 h3 h4 => ?_⟩
  · by_cases e : j = i
    · subst e
      by_cases hl' : j < S.length
      · rw [gt_st hl', sg_set (by rw [← h.len]; exact hl')]
        exact ⟨a, xs, rfl, hF, hB, ha, hl⟩
      · rw [gt_out (by rw [st_len]; omega)]; trivial
    · rw [gt_ne e, sg_ne e]; exact h.sl j
  · by_cases ej : j = i
    · by_cases ek : k = i
      · rw [ej, ek]
      · subst ej
        have hj : j < S.length := by
          have := gt_lt (S := st S j (.ow false l)) (i := j) (fun q => by rw [q] at h1; cases h1)
          rw [st_len] at this; exact this
        rw [sg_set (by rw [← h.len]; exact hj)] at h3
        cases h3
        rw [sg_ne ek] at h4
        exact absurd h4 (hn k (own k ek h2))
    · by_cases ek : k = i
      · subst ek
        have hj : k < S.length := by
          have := gt_lt (S := st S k (.ow false l)) (i := k) (fun q => by rw [q] at h2; cases h2)
          rw [st_len] at this; exact this
        rw [sg_set (by rw [← h.len]; exact hj)] at h4
        cases h4
        rw [sg_ne ej] at h3
        exact absurd h3 (hn j (own j ej h1))
      · rw [sg_ne ej] at h3
        rw [sg_ne ek] at h4
        exact h.nd j k b (own j ej h1) (own k ek h2) h3 h4
/-- an owned object is changed -/
theorem Rp.put {i : Nat} {a : Addr} {o : HO} {c : C} (h : Rp K B F H σ S) (hs : sg σ i = some (.ref a)) (ho : (gt S i).own = true) (hc : c.own = true) (hr : RC K B F (upd H a o) (some (.ref a)) c) : Rp K B F (upd H a o) σ (st S i c) := by
  have hi : i < S.length := gt_lt fun q => by rw [q] at ho; cases ho
  have r := h.sl i
  have key : F a = none ∧ ∃ p, B.ok p a := by
    cases q : gt S i with
    | ow p l => rw [q] at r; obtain ⟨b, xs, e1, e2, e3, _⟩ := r; rw [hs] at e1; cases e1; exact ⟨e2, p, e3⟩
    | dc p l => rw [q] at r; obtain ⟨b, xs, e1, e2, e3, _⟩ := r; rw [hs] at e1; cases e1; exact ⟨e2, p, e3⟩
    | _ => rw [q] at ho; cases ho
  obtain ⟨hF, p, hp⟩ := key
  have own : ∀ j, (gt (st S i c) j).own = true → (gt S j).own = true := fun j q => by
    by_cases e : j = i
    · subst e; exact ho
    · rw [gt_ne e] at q; exact q
  refine ⟨by rw [st_len]; exact h.len, fun b u e => ?_, h.f0, fun b u h1 h2 => ?_, fun b h1 => ?_, h.m1, h.fr, fun j => ?_, fun j k b h1 h2 h3 h4 => h.nd j k b (own j h1) (own k h2) h3 h4⟩
  · rw [upd_ne (fun z => by rw [z, hF] at e; cases e)]; exact h.sub _ _ e
  · have ne : b ≠ a := fun z => by
      subst z
      unfold Bs.ok at hp
      cases p with
      | true => exact h2 hp
      | false =>
        have hp' : B.H b = none := hp
        rw [hp'] at h1; cases h1
    rw [upd_ne ne]; exact h.h0 b u h1 h2
  · by_cases e : b = a
    · subst e; rw [upd_same]; simp
    · rw [upd_ne e]; exact h.h1 b h1
  · by_cases e : j = i
    · subst e
      rw [gt_st hi, hs]; exact hr
    · rw [gt_ne e]
      have q := h.sl j
      cases e9 : gt S j with
      | un => trivial
      | vl d => rw [e9] at q; exact q
      | ow p l =>
        rw [e9] at q
        obtain ⟨b, zs, e1, e2, e3, e4, e5⟩ := q
        refine ⟨b, zs, e1, e2, e3, ?_, e5⟩
        rw [upd_ne (fun z => e (h.nd j i a (by rw [e9]; rfl) ho (by rw [e1, z]) hs))]; exact e4
      | dc p l =>
        rw [e9] at q
        obtain ⟨b, zs, e1, e2, e3, e4, e5⟩ := q
        refine ⟨b, zs, e1, e2, e3, ?_, e5⟩
        rw [upd_ne (fun z => e (h.nd j i a (by rw [e9]; rfl) ho (by rw [e1, z]) hs))]; exact e4
theorem Rp.owl {i : Nat} {p : Bool} {l : List D} (h : Rp K B F H σ S) (e : gt S i = .ow p l) : ∃ a xs, sg σ i = some (.ref a) ∧ F a = none ∧ B.ok p a ∧ H a = some (.lst xs) ∧ Drs K F xs l := by
  have r := h.sl i
  rw [e] at r
  exact r
theorem Rp.dcl {i : Nat} {p : Bool} {l : List (Int × D)} (h : Rp K B F H σ S) (e : gt S i = .dc p l) : ∃ a xs, sg σ i = some (.ref a) ∧ F a = none ∧ B.ok p a ∧ H a = some (.dK xs) ∧ Krs K F xs l := by
  have r := h.sl i
  rw [e] at r
  exact r
end
/-- x = a new list, held by x alone -/
def sOwn (i : Nat) (f : EM (List D)) : SM := sBind f fun l S => some (.nx (st S i (.ow false l)))
/-- x.append(e) -/
def sApp (i : Nat) (f : EM D) : SM := fun S0 => match gt S0 i with
  | .ow _ _ => sBind f (fun d S => match gt S i with
    | .ow p l => if l.length < sizeLine then some (.nx (st S i (.ow p (l ++ [d])))) else none
    | _ => none) S0
  | _ => none
/-- x[k] = e -/
def sPut (i : Nat) (fe fk : EM D) : SM := sBind fe fun d S0 => match gt S0 i with
  | .ow _ _ => sBind fk (fun k S => match gt S i, k with
    | .ow p l, .int n => match ixN l.length n with
      | some j => some (.nx (st S i (.ow p (l.set j d))))
      | none => none
    | _, _ => none) S0
  | _ => none
/-- x[k], x owned -/
def eOx (i : Nat) (fk : EM D) : EM D := fun S0 => match gt S0 i with
  | .ow _ _ => bnd fk (fun k S => match gt S i, k with
    | .ow _ l, .int n => (atI l n).map fun d => .ok d S
    | _, _ => none) S0
  | _ => none
/-- the name gives its list away: it stands still from here on -/
def frz (i : Nat) (S : List C) : List C := match gt S i with
  | .ow false l => st S i (.vl (.lst l))
  | .dc false l => st S i (.vl (.dct l))
  | _ => S
/-- return x, x owned -/
def sRetO (i : Nat) : SM := fun S => match gt S i with
  | .ow false l => some (.ro l (st S i .un))
  | _ => none
section
variable {X : Cx} {E : XK} {pos : Pos}
theorem sd_own {i : Nat} {x : Str} {e : Expr} {te : TE} {f : EM (List D)} {pos' : Pos} (he : FD X E e te f) (hN : X.N.Nodup) (hi : X.N[i]? = some x) (hx : Loc X.env.scope x) (hs : swapsWith e (some (.Name x pos')) pos.line X.env = pure false := by rfl) (hf : X.fn x = true ∨ X.env.scope.names.lookup x = some .local := by first | exact .inl rfl | exact .inr rfl | assumption) :
    SD X E (.Assign [.Name x pos'] e pos) (tAsg te (gName i)) (sOwn i f) := by
  refine ⟨ps_set hN hi hx he.pe hs hf, fun B F H σ S D R q => ?_⟩
  exact he.dr B F H σ S _ R (PoS.bnd q fun l S1 F1 H1 R1 s1 h1 a xs ha hF hB hl hn => h1 F1 H1 _ (R1.setOwn i ha hF hB hl hn) (Same.refl _))
theorem sd_ownLc {i : Nat} {y : Str} {py : Pos} {elt tg iter : Expr} {ifs : List Expr} {scope : Scope} {own : List (Str × Nat)} {spos : Pos} {wi : TI} {g : TG} {tt : TT} {te : TE} {f : EM (List D)}
    (hl : FD X E (.ListComp elt [⟨tg, iter, ifs, 0⟩] scope pos) (tLc wi g tt te (own.map (·.2))) f) (hp : PS X (.Assign [.Name y py] (.ListComp elt [⟨tg, iter, ifs, 0⟩] scope pos) spos) (tAsg (tLc wi g tt te (own.map (·.2))) (gName i))) :
    SD X E (.Assign [.Name y py] (.ListComp elt [⟨tg, iter, ifs, 0⟩] scope pos) spos) (tAsg (tLc wi g tt te (own.map (·.2))) (gName i)) (sOwn i f) := by
  refine ⟨hp, fun B F H σ S D R q => ?_⟩
  exact hl.dr B F H σ S _ R (PoS.bnd q fun l S1 F1 H1 R1 s1 h1 a xs ha hF hB hl hn => h1 F1 H1 _ (R1.setOwn i ha hF hB hl hn) (Same.refl _))
theorem app_dr {K : PySem.W.Frag} {mg : Str → Option Value} {i : Nat} {te : TE} {f : EM D} (h : EDr K mg E te f) : SDr K mg E (tDrop (tBM K "list" rAppend (tVar i) (tCons te tNil))) (sApp i f) := by
  intro B F H σ S D R q
  unfold sApp at q
  cases e2 : gt S i with
  | ow p l =>
    simp only [e2] at q
    obtain ⟨a, xs, h1, _, _, h4, _⟩ := R.owl e2
    refine ⟨.ref a, sg_some h1, .inl ⟨rfl, _, SqL.of h4⟩, ?_⟩
    refine h B F H σ S _ R (PoS.bnd q fun d S1 F1 H1 R1 s1 h1' v hv => ?_)
    cases e3 : gt S1 i with
    | ow p' l' =>
      simp only [e3] at h1'
      obtain ⟨a', xs', k1, k2, k3, k4, k5⟩ := R1.owl e3
      rw [h1] at k1
      cases k1
      by_cases z2 : l'.length < sizeLine
      · rw [if_pos z2] at h1'
        refine ⟨a, xs', v, rfl, rfl, k4, by rw [Paired.len k5]; exact z2, ?_⟩
        exact h1' F1 _ σ (R1.put h1 (by rw [e3]; rfl) rfl ⟨a, _, rfl, k2, k3, upd_same, Paired.app k5 (.cons hv .nil)⟩) (Same.refl _)
      · rw [if_neg z2] at h1'; exact h1'.elim
    | _ => simp only [e3] at h1'; exact h1'.elim
  | _ => simp only [e2] at q; exact q.elim
theorem sd_app {i : Nat} {x : Str} {e : Expr} {te : TE} {f : EM D} {p1 apos cpos : Pos} (he : ED X E e te f) (hp : PS X (.Expr (.Call (.Attribute (.Name x p1) "append" apos) [e] [] cpos) pos) (tDrop (tBM X.K "list" rAppend (tVar i) (tCons te tNil)))) :
    SD X E (.Expr (.Call (.Attribute (.Name x p1) "append" apos) [e] [] cpos) pos) (tDrop (tBM X.K "list" rAppend (tVar i) (tCons te tNil))) (sApp i f) := ⟨hp, app_dr he.dr⟩
theorem put_dr {K : PySem.W.Frag} {mg : Str → Option Value} {i : Nat} {te tk : TE} {fe fk : EM D} (he : EDr K mg E te fe) (hk : EDr K mg E tk fk) : SDr K mg E (tAsg te (gSub (tVar i) tk rSetL)) (sPut i fe fk) := by
  intro B F H σ S D R q
  unfold sPut at q
  refine he B F H σ S _ R (PoS.bnd q fun d S1 F1 H1 R1 s1 h1 v hv => ?_)
  cases e2 : gt S1 i with
  | ow p l =>
    simp only [e2] at h1
    obtain ⟨a, xs, h2, _, _, h4, _⟩ := R1.owl e2
    refine ⟨.ref a, sg_some h2, ?_⟩
    refine hk B F1 H1 σ S1 _ R1 (PoS.bnd h1 fun k S2 F2 H2 R2 s2 h1' kv hkv => ?_)
    cases e3 : gt S2 i with
    | ow p' l' =>
      obtain ⟨a', xs', k1, k2, k3, k4, k5⟩ := R2.owl e3
      rw [h2] at k1
      cases k1
      cases hkv with
      | int n =>
        simp only [e3] at h1'
        cases e4 : ixN l'.length n with
        | none => rw [e4] at h1'; exact h1'.elim
        | some j =>
          rw [e4] at h1'
          refine ⟨a, xs', n, j, rfl, rfl, k4, by rw [Paired.len k5]; exact e4, ?_⟩
          exact h1' F2 _ σ (R2.put h2 (by rw [e3]; rfl) rfl ⟨a, _, rfl, k2, k3, upd_same, Paired.set' (hv.mono s2) j k5⟩) (Same.refl _)
      | _ => simp only [e3] at h1'; exact h1'.elim
    | _ => simp only [e3] at h1'; exact h1'.elim
  | _ => simp only [e2] at h1; exact h1.elim
theorem sd_put {i : Nat} {x : Str} {e k : Expr} {te tk : TE} {fe fk : EM D} {p1 p2 : Pos} (he : ED X E e te fe) (hk : ED X E k tk fk) (hp : PS X (.Assign [.Subscript (.Name x p1) k p2] e pos) (tAsg te (gSub (tVar i) tk rSetL))) :
    SD X E (.Assign [.Subscript (.Name x p1) k p2] e pos) (tAsg te (gSub (tVar i) tk rSetL)) (sPut i fe fk) := ⟨hp, put_dr he.dr hk.dr⟩
theorem de_ox {i : Nat} {x : Str} {k : Expr} {tk : TE} {fk : EM D} {p1 : Pos} (hk : ED X E k tk fk) (hN : X.N[i]? = some x := by rfl) (hv : Vis X.env.scope x := by first | exact Or.inl rfl | exact Or.inr (Or.inl rfl) | exact Or.inr (Or.inr rfl)) (hs : PlainIx k := by exact fun _ _ => rfl) (hd : (x == ("__debug__" : Str)) = false := by decide)
    (hcd : (x == ("__classdict__" : Str)) = false := by decide) {K : PySem.W.Frag} (hK : X.K = K := by rfl) : ED X E (.Subscript (.Name x p1) k pos) (tOp (rIxL K) (tVar i) tk) (eOx i fk) := by
  subst hK
  refine ⟨pe_ix ix_list (pe_var hN hv hd hcd) hk.pe hs, fun B F H σ S Q R q => ?_⟩
  unfold eOx at q
  cases e2 : gt S i with
  | ow p l =>
    simp only [e2] at q
    obtain ⟨a, xs, h1, _, _, h4, _⟩ := R.owl e2
    refine ⟨.ref a, sg_some h1, ?_⟩
    refine hk.dr B F H σ S _ R (Po.thn q fun k S1 F1 H1 R1 s1 h1' kv hkv => ?_)
    cases e3 : gt S1 i with
    | ow p' l' =>
      obtain ⟨a', xs', k1, k2, k3, k4, k5⟩ := R1.owl e3
      rw [h1] at k1
      cases k1
      cases hkv with
      | int n =>
        simp only [e3] at h1'
        cases e4 : atI l' n with
        | none => rw [e4] at h1'; exact h1'.elim
        | some d =>
          rw [e4] at h1'
          obtain ⟨v, e5, e6⟩ := atI_pair k5 e4
          exact ⟨a, xs', n, v, rfl, rfl, SqL.of k4, e5, po_at R1 h1' v e6⟩
      | _ => simp only [e3] at h1'; exact h1'.elim
    | _ => simp only [e3] at h1'; exact h1'.elim
  | _ => simp only [e2] at q; exact q.elim
/-- a name's list stands still from here on -/
theorem Rp.frz {K : PySem.W.Frag} {B : Bs} {F H : Hp} {σ : L2.St} {S : List C} (h : Rp K B F H σ S) (i : Nat) : ∃ F', Same F F' ∧ Rp K B F' H σ (TW.frz i S) := by
  unfold TW.frz
  cases e : gt S i with
  | ow p l =>
    cases p with
    | true => exact ⟨F, Same.refl _, h⟩
    | false =>
      obtain ⟨a, xs, h1, h2, h3, h4, h5⟩ := h.owl e
      have sf : Same F (upd F a (.lst xs)) := same_new h2
      have hu := h.un i
      have R2 := hu.freeze h4 h2 h3 fun j ho hs => by
        by_cases ej : j = i
        · subst ej
          have hi : j < S.length := gt_lt fun q => by rw [q] at e; cases e
          rw [gt_st hi] at ho; cases ho
        · rw [gt_ne ej] at ho
          exact ej (h.nd j i a ho (by rw [e]; rfl) hs h1)
      refine ⟨_, sf, ?_⟩
      have R3 := R2.cell i (c := .vl (.lst l)) ⟨.ref a, h1, .lst upd_same (DrL.of (Drs.mono sf h5))⟩ (fun q => nomatch q)
      have es : st (st S i .un) i (.vl (.lst l)) = st S i (.vl (.lst l)) := by
        clear R3 R2 hu sf h h1 h2 h3 h4 h5 e
        induction S generalizing i with
        | nil => rfl
        | cons c r ih =>
          cases i with
          | zero => rfl
          | succ n => show c :: st (st r n .un) n _ = c :: st r n _; rw [ih]
      rw [es] at R3
      exact R3
  | dc p l =>
    cases p with
    | true => exact ⟨F, Same.refl _, h⟩
    | false =>
      obtain ⟨a, xs, h1, h2, h3, h4, h5⟩ := h.dcl e
      have sf : Same F (upd F a (.dK xs)) := same_new h2
      have hu := h.un i
      have R2 := hu.freeze h4 h2 h3 fun j ho hs => by
        by_cases ej : j = i
        · subst ej
          have hi : j < S.length := gt_lt fun q => by rw [q] at e; cases e
          rw [gt_st hi] at ho; cases ho
        · rw [gt_ne ej] at ho
          exact ej (h.nd j i a ho (by rw [e]; rfl) hs h1)
      refine ⟨_, sf, ?_⟩
      have R3 := R2.cell i (c := .vl (.dct l)) ⟨.ref a, h1, .dct upd_same (DrK.of (Krs.mono sf h5))⟩ (fun q => nomatch q)
      have es : st (st S i .un) i (.vl (.dct l)) = st S i (.vl (.dct l)) := by
        clear R3 R2 hu sf h h1 h2 h3 h4 h5 e
        induction S generalizing i with
        | nil => rfl
        | cons c r ih =>
          cases i with
          | zero => rfl
          | succ n => show c :: st (st r n .un) n _ = c :: st r n _; rw [ih]
      rw [es] at R3
      exact R3
  | _ => exact ⟨F, Same.refl _, h⟩
theorem sd_frz (i : Nat) {s : Stmt} {t : TS} {f : SM} (h : SD X E s t f) : SD X E s t (fun S => f (frz i S)) := ⟨h.ps, fun B F H σ S D R q => by
  obtain ⟨F', sf, R'⟩ := R.frz i
  exact h.dr B F' H σ _ D R' (PoS.weak sf q)⟩
theorem de_frz (i : Nat) {e : Expr} {t : TE} {f : EM D} (h : ED X E e t f) : ED X E e t (fun S => f (frz i S)) := ⟨h.pe, fun B F H σ S Q R q => by
  obtain ⟨F', sf, R'⟩ := R.frz i
  exact h.dr B F' H σ _ Q R' (Po.weak sf q)⟩
theorem sd_retO {i : Nat} {x : Str} {p1 : Pos} (hN : X.N[i]? = some x := by rfl) (hv : Vis X.env.scope x := by first | exact Or.inl rfl | exact Or.inr (Or.inl rfl) | exact Or.inr (Or.inr rfl)) (hd : (x == ("__debug__" : Str)) = false := by decide)
    (hcd : (x == ("__classdict__" : Str)) = false := by decide) : SD X E (.Return (some (.Name x p1)) pos) (tRet (tVar i)) (sRetO i) := by
  refine ⟨ps_ret (pe_var hN hv hd hcd), fun B F H σ S D R q => ?_⟩
  unfold sRetO at q
  cases e2 : gt S i with
  | ow p l =>
    cases p with
    | true => simp only [e2] at q; exact q.elim
    | false =>
      simp only [e2] at q
      obtain ⟨a, xs, h1, h2, h3, h4, h5⟩ := R.owl e2
      refine ⟨.ref a, sg_some h1, q F H σ a xs (R.un i) (Same.refl _) h4 h2 h3 h5 fun j ho hs => ?_⟩
      by_cases ej : j = i
      · subst ej
        have hi : j < S.length := gt_lt fun q => by rw [q] at e2; cases e2
        rw [gt_st hi] at ho; cases ho
      · rw [gt_ne ej] at ho
        exact ej (R.nd j i a ho (by rw [e2]; rfl) hs h1)
  | _ => simp only [e2] at q; exact q.elim
end

/-! ### loops -/
def forGo (g : GF) (body : SM) : List D → SM
  | [], S => some (.nx S)
  | x :: r, S => match g x S with
    | none => none
    | some S2 => match body S2 with
      | some (.nx S3) => forGo g body r S3
      | some (.ct S3) => forGo g body r S3
      | some (.bk S3) => some (.nx S3)
      | o => o
def sFor (fi : EM (List D)) (g : GF) (body : SM) : SM := sBind fi fun ds => forGo g body ds
section
variable {X : Cx} {E : XK} {pos : Pos}
theorem for_dr {K : PySem.W.Frag} {mg : Str → Option Value} {wi : TI} {g : TG} {tb : TS} {fi : EM (List D)} {gd : GF} {ix : List Nat} {fb : SM} (hi : IDr K mg E wi fi) (hg : GDr K g gd ix) (hb : SDr K mg E tb fb) : SDr K mg E (tFor wi g tb) (sFor fi gd fb) := by
  intro B F H σ S D R q
  refine hi B F H σ S _ R (PoS.bnd q fun ds S1 F1 H1 R1 s1 h1 J hJ => ?_)
  refine ⟨fun i m σx Hx => ∃ Fx Sx, i + m = ds.length ∧ Same F1 Fx ∧ Rp K B Fx Hx σx Sx ∧ PoS K mg E B Fx D (forGo gd fb (ds.drop i) Sx), ⟨ds.length, F1, S1, Nat.zero_add _, Same.refl _, R1, h1⟩, fun i m σx Hx hW => ?_⟩
  obtain ⟨Fx, Sx, em, sx, Rx, hgo⟩ := hW
  obtain ⟨jst, jgo⟩ := hJ i Fx Hx sx Rx.sub
  by_cases hi' : i < ds.length
  · refine .inr ?_
    obtain ⟨j1, j2⟩ := jgo hi'
    refine ⟨j1, fun σy Hy => ∃ Fy Sy, i + 1 + (m - 1) = ds.length ∧ Same F1 Fy ∧ Rp K B Fy Hy σy Sy ∧ PoS K mg E B Fy D (forGo gd fb (ds.drop (i + 1)) Sy), fun σy Hy hy => ⟨m - 1, by omega, hy⟩, fun x Hy hy => ?_⟩
    obtain ⟨F2, d, hd1, hd2, hd3⟩ := j2 x Hy hy
    have dr : ds.drop i = d :: ds.drop (i + 1) := by
      rw [List.drop_eq_getElem_cons hi']
      rw [List.getElem?_eq_getElem hi'] at hd1
      rw [Option.some.inj hd1]
    rw [dr] at hgo
    unfold forGo at hgo
    have Ry := Rx.mv hd2
    cases e2 : gd d Sx with
    | none => simp only [e2] at hgo; exact hgo.elim
    | some S3 =>
      simp only [e2] at hgo
      refine hg B F2 Hy σx Sx x d S3 _ Ry hd3 e2 fun σ' R3 _ => ?_
      refine hb B F2 Hy σ' S3 _ R3 ?_
      cases e3 : fb S3 with
      | none => rw [e3] at hgo; exact hgo.elim
      | some o =>
        cases o with
        | nx S4 =>
          simp only [e3] at hgo
          exact fun F3 H3 σ3 R4 s4 => ⟨F3, S4, by omega, sx.trans (hd2.f.trans s4), R4, PoS.weak (hd2.f.trans s4) hgo⟩
        | ct S4 =>
          simp only [e3] at hgo
          exact fun F3 H3 σ3 R4 s4 => ⟨F3, S4, by omega, sx.trans (hd2.f.trans s4), R4, PoS.weak (hd2.f.trans s4) hgo⟩
        | bk S4 =>
          simp only [e3] at hgo
          exact fun F3 H3 σ3 R4 s4 => hgo F3 H3 σ3 R4 (hd2.f.trans s4)
        | rt d S4 =>
          simp only [e3] at hgo
          exact fun F3 H3 σ3 v R4 s4 => hgo F3 H3 σ3 v R4 (hd2.f.trans s4)
        | ro l S4 =>
          simp only [e3] at hgo
          exact fun F3 H3 σ3 a xs R4 s4 => hgo F3 H3 σ3 a xs R4 (hd2.f.trans s4)
        | er c p =>
          simp only [e3] at hgo
          exact PoX.weak hd2.f hgo
  · refine .inl ⟨jst (by omega), ?_⟩
    have dr : ds.drop i = [] := List.drop_of_length_le (by omega)
    rw [dr] at hgo
    exact hgo Fx Hx σx Rx (Same.refl _)
theorem sd_for {tg iter : Expr} {body : List Stmt} {wi : TI} {g : TG} {tb : TS} {fi : EM (List D)} {gd : GF} {ix : List Nat} {fb : SM} (hp : PassesOwn (model X.prog X.w) X.A X.env X.xe) (hc : X.calm = true) (hi : ID X E tg iter wi fi) (hg : GD X tg g gd ix) (hb : SsD X E body tb fb)
    (hps : PS X (.For tg iter body [] pos) (tFor wi g tb)) : SD X E (.For tg iter body [] pos) (tFor wi g tb) (sFor fi gd fb) := ⟨hps, for_dr hi.dr hg.dr hb.dr⟩
end
/-- while, with so many turns at most -/
def whGo (fc : EM Bool) (body : SM) : Nat → SM
  | 0, _ => none
  | n + 1, S => sBind fc (fun b => if b = true then fun S1 => match body S1 with
      | some (.nx S3) => whGo fc body n S3
      | some (.ct S3) => whGo fc body n S3
      | some (.bk S3) => some (.nx S3)
      | o => o
    else sNext) S
theorem wh_dr {E : XK} {K : PySem.W.Frag} {mg : Str → Option Value} {c : TT} {tb : TS} {fc : EM Bool} {fb : SM} (n : Nat) (hc : TDr K mg E c fc) (hb : SDr K mg E tb fb) : SDr K mg E (tWhile c tb) (whGo fc fb n) := by
  intro B F H σ S D R q
  refine ⟨fun m σx Hx => ∃ Fx Sx, Same F Fx ∧ Rp K B Fx Hx σx Sx ∧ PoS K mg E B Fx D (whGo fc fb m Sx), ⟨n, F, S, Same.refl _, R, q⟩, fun m σx Hx hW => ?_⟩
  obtain ⟨Fx, Sx, sx, Rx, hgo⟩ := hW
  cases m with
  | zero => exact hgo.elim
  | succ m =>
    unfold whGo at hgo
    refine hc B Fx Hx σx Sx _ Rx (PoS.bnd hgo fun b S1 F1 H1 R1 s1 h1 => ?_)
    cases b with
    | false =>
      rw [if_neg Bool.false_ne_true] at h1 ⊢
      exact h1 F1 H1 σx R1 (Same.refl _)
    | true =>
      rw [if_pos rfl] at h1 ⊢
      refine ⟨fun σy Hy => ∃ Fy Sy, Same F Fy ∧ Rp K B Fy Hy σy Sy ∧ PoS K mg E B Fy D (whGo fc fb m Sy), fun σy Hy hy => ⟨m, Nat.lt_succ_self _, hy⟩, ?_⟩
      refine hb B F1 H1 σx S1 _ R1 ?_
      cases e3 : fb S1 with
      | none => rw [e3] at h1; exact h1.elim
      | some o =>
        cases o with
        | nx S4 =>
          simp only [e3] at h1
          exact fun F3 H3 σ3 R4 s4 => ⟨F3, S4, sx.trans (s1.trans s4), R4, PoS.weak s4 h1⟩
        | ct S4 =>
          simp only [e3] at h1
          exact fun F3 H3 σ3 R4 s4 => ⟨F3, S4, sx.trans (s1.trans s4), R4, PoS.weak s4 h1⟩
        | bk S4 =>
          simp only [e3] at h1
          exact h1
        | rt d S4 =>
          simp only [e3] at h1
          exact h1
        | ro l S4 =>
          simp only [e3] at h1
          exact h1
        | er c p =>
          simp only [e3] at h1
          exact h1
theorem sd_while {X : Cx} {E : XK} {pos : Pos} (n : Nat) {c : Expr} {body : List Stmt} {tc : TT} {tb : TS} {fc : EM Bool} {fb : SM} (hp : PassesOwn (model X.prog X.w) X.A X.env X.xe) (hc : TD X E c tc fc) (hb : SsD X E body tb fb) : SD X E (.While c body [] pos) (tWhile tc tb) (whGo fc fb n) := ⟨ps_while hp hc.pe hb.ps, wh_dr n hc.dr hb.dr⟩
end TW
namespace TW
open PySem PySem.Spec PyProof.Rows L2 RZ

theorem sd_never {X : Cx} {E : XK} {s : Stmt} : SD X E s tNever (fun _ => none) := ⟨ps_never, fun _ _ _ _ _ _ _ h => h.elim⟩

/-! ### what a def promises -/
inductive Cr where
  | rt (d : D) | ro (l : List D) | er (c : Str) (p : Option D)
def WE (K : PySem.W.Frag) (mg : Str → Option Value) (E : XK) (F H : Hp) (c : Str) (p : Option D) : Prop :=
  ∀ F' H', Ext F H F' H' → ∀ C, mg c = some (.ref C) → match p with
    | none => E (.ref C) none H'
    | some d => ∀ x v, H x = none → H' x = some (.xd [("pair", v)]) → Dr K F' v d → E (.ref C) (some x) H'
/-- pure: values in, a value out -/
def Sp0 (K : PySem.W.Frag) (mg : Str → Option Value) (n : Nat) (m : List D → Option Cr) : Sp := fun vs H Q E => vs.length = n ∧ ∃ F ds, Same F H ∧ Drs K F vs ds ∧ match m ds with
  | none => False
  | some (.rt d) => ∀ F' H' v, Ext F H F' H' → Dr K F' v d → Q v H'
  | some (.ro l) => ∀ F' H' a xs, Ext F H F' H' → H a = none → F' a = none → H' a = some (.lst xs) → Drs K F' xs l → Q (.ref a) H'
  | some (.er c p) => WE K mg E F H c p
structure Ext1 (b : Addr) (F H F' H' : Hp) : Prop where
  f : Same F F'
  s : Same F' H'
  h : ∀ a o, a ≠ b → H a = some o → H' a = some o
  n : ∀ a, H a ≠ none → F a = none → F' a = none
  k : ∀ a, H a ≠ none → H' a ≠ none
/-- the first argument is a list that is changed -/
def Sp1 (K : PySem.W.Frag) (n : Nat) (m : List D → List D → Option (D × List D)) : Sp := fun vs H Q E => vs.length = n + 1 ∧ ∃ F b xs l ws ds, vs = .ref b :: ws ∧ Same F H ∧ F b = none ∧ H b = some (.lst xs) ∧ Drs K F xs l ∧ Drs K F ws ds ∧ match m l ds with
  | none => False
  | some (d, l') => ∀ F' H' v xs', Ext1 b F H F' H' → F' b = none → H' b = some (.lst xs') → Drs K F' xs' l' → Dr K F' v d → Q v H'
structure DefOk (P : Program) (w : World) (K : PySem.W.Frag) (mg : Str → Option Value) (base : Heap) (k : Nat) (x : Str) (ps : List Str) (sp : Sp) : Prop where
  ex : ∃ f fd, FnOk P w K mg base (L2.CX P w) k f fd ps sp ∧ mg x = some (.ref f) ∧ PySem.W.keepIn K (.ref f) = true ∧ Binds K fd ps []
def eCall (m : List D → Option Cr) (fa : EM (List D)) : EM D := bnd fa fun ds S => match m ds with
  | none => none
  | some (.rt d) => some (.ok d S)
  | some (.ro l) => some (.ok (.lst l) S)
  | some (.er c p) => some (.er c p)
def fCall (m : List D → Option Cr) (fa : EM (List D)) : EM (List D) := bnd fa fun ds S => match m ds with
  | some (.ro l) => some (.ok l S)
  | some (.er c p) => some (.er c p)
  | _ => none
def eCall1 (m : List D → List D → Option (D × List D)) (i : Nat) (fa : EM (List D)) : EM D := fun S0 => match gt S0 i with
  | .ow _ _ => bnd fa (fun ds S => match gt S i with
    | .ow p l => match m l ds with
      | some (d, l') => some (.ok d (st S i (.ow p l')))
      | none => none
    | _ => none) S0
  | _ => none
section
variable {X : Cx} {E : XK} {pos : Pos}
theorem we_pox {K : PySem.W.Frag} {mg : Str → Option Value} {B : Bs} {F H : Hp} {σ : L2.St} {S : List C} {c : Str} {p : Option D} (R : Rp K B F H σ S) (h : PoX K mg E B F c p) : WE K mg E F H c p := fun F' H' x C hC => by
  have k := h F' H' σ S (R.mv x) x.f C hC
  cases p with
  | none => exact k
  | some d =>
    intro y v hy h1 h2
    refine k y v ?_ h1 h2
    cases q : B.H y with
    | none => rfl
    | some o => exact absurd hy (R.h1 y (by rw [q]; simp))
theorem Ext.none_of {F H F' H' : Hp} {B : Bs} {K : PySem.W.Frag} {σ : L2.St} {S : List C} (R : Rp K B F H σ S) {a : Addr} (ha : H a = none) : B.H a = none ∧ ∀ i, (gt S i).own = true → sg σ i ≠ some (.ref a) := by
  refine ⟨?_, fun i ho hs => ?_⟩
  · cases q : B.H a with
    | none => rfl
    | some o => exact absurd ha (R.h1 a (by rw [q]; simp))
  · have r := R.sl i
    cases q : gt S i with
    | ow p l => rw [q] at r; obtain ⟨b, xs, e1, _, _, e4, _⟩ := r; rw [e1] at hs; cases hs; rw [e4] at ha; cases ha
    | dc p l => rw [q] at r; obtain ⟨b, xs, e1, _, _, e4, _⟩ := r; rw [e1] at hs; cases hs; rw [e4] at ha; cases ha
    | _ => rw [q] at ho; cases ho
theorem call_dr {K : PySem.W.Frag} {mg : Str → Option Value} {n : Nat} {m : List D → Option Cr} {t : TA} {fa : EM (List D)} (h : ADr K mg E t fa) (hn : ∀ ds, m ds ≠ none → ds.length = n) : EDr K mg E (tCall (Sp0 K mg n m) [] E t) (eCall m fa) := by
  intro B F H σ S Q R q
  refine h B F H σ S _ R (Po.thn q fun ds S1 F1 H1 R1 s1 h1 vs hv => ?_)
  rw [List.append_nil]
  refine ⟨?_, F1, ds, R1.sub, hv, ?_⟩
  · rw [Paired.len hv]
    refine hn ds fun e => ?_
    rw [e] at h1; exact h1
  · cases e : m ds with
    | none => rw [e] at h1; exact h1
    | some r =>
      rw [e] at h1
      cases r with
      | rt d => exact fun F' H' v x hd => h1 F' H' (R1.mv x) x.f v hd
      | ro l =>
        intro F' H' a xs x ha hF hH hl
        have R2 := R1.mv x
        obtain ⟨hB, hno⟩ := Ext.none_of (F := F1) (H := H1) (F' := F') (H' := H') R1 ha
        have R3 := R2.freeze hH hF hB hno
        have sf : Same F' (upd F' a (.lst xs)) := same_new hF
        exact h1 _ H' R3 (x.f.trans sf) _ (.lst upd_same (DrL.of (Drs.mono sf hl)))
      | er c p => exact we_pox R1 h1
theorem fcall_dr {K : PySem.W.Frag} {mg : Str → Option Value} {n : Nat} {m : List D → Option Cr} {t : TA} {fa : EM (List D)} (h : ADr K mg E t fa) (hn : ∀ ds, m ds ≠ none → ds.length = n) : FDr K mg E (tCall (Sp0 K mg n m) [] E t) (fCall m fa) := by
  intro B F H σ S Q R q
  refine h B F H σ S _ R (Po.thn q fun ds S1 F1 H1 R1 s1 h1 vs hv => ?_)
  rw [List.append_nil]
  refine ⟨?_, F1, ds, R1.sub, hv, ?_⟩
  · rw [Paired.len hv]
    refine hn ds fun e => ?_
    rw [e] at h1; exact h1
  · cases e : m ds with
    | none => rw [e] at h1; exact h1
    | some r =>
      rw [e] at h1
      cases r with
      | rt d => exact h1.elim
      | ro l =>
        intro F' H' a xs x ha hF hH hl
        obtain ⟨hB, hno⟩ := Ext.none_of (F := F1) (H := H1) (F' := F') (H' := H') R1 ha
        exact h1 F' H' (R1.mv x) x.f a xs hH hF hB hl hno
      | er c p => exact we_pox R1 h1
theorem de_call {P : Program} {w : World} {K : PySem.W.Frag} {mg : Str → Option Value} {base : Heap} {k n : Nat} {x : Str} {ps : List Str} {m : List D → Option Cr} {e : Expr} {es : List Expr} {t : TA} {fa : EM (List D)} {p : Pos} (d : DefOk P w K mg base k x ps (Sp0 K mg n m)) (hn : ∀ ds, m ds ≠ none → ds.length = n) (hr : Room k X.A) (hg : Gl X x) (hx : Passes (L2.CX X.prog X.w) X E) (ha : AD X E (e :: es) t fa)
    (hdb : (x == ("__debug__" : Str)) = false := by decide) (he : starEach (e :: es) X.env = (false, eval e X.env) :: starEach es X.env := by rfl) (hpl : (backTo pos (starEach es X.env)).any (·.1) = false := by rfl)
    (hX : X.prog = P ∧ X.w = w ∧ X.K = K ∧ X.mg = mg ∧ X.base = base := by exact ⟨rfl, rfl, rfl, rfl, rfl⟩) :
    ED X E (.Call (.Name x p) (e :: es) [] pos) (tCall (Sp0 K mg n m) [] E t) (eCall m fa) := by
  obtain ⟨rfl, rfl, rfl, rfl, rfl⟩ := hX
  obtain ⟨f, fd, G, hm, hk, hb⟩ := d.ex
  exact ⟨pe_call G hr hg hm hk hb .nil hx ha.pe hdb he hpl, call_dr ha.dr hn⟩
theorem fd_call {P : Program} {w : World} {K : PySem.W.Frag} {mg : Str → Option Value} {base : Heap} {k n : Nat} {x : Str} {ps : List Str} {m : List D → Option Cr} {e : Expr} {es : List Expr} {t : TA} {fa : EM (List D)} {p : Pos} (d : DefOk P w K mg base k x ps (Sp0 K mg n m)) (hn : ∀ ds, m ds ≠ none → ds.length = n) (hr : Room k X.A) (hg : Gl X x) (hx : Passes (L2.CX X.prog X.w) X E) (ha : AD X E (e :: es) t fa)
    (hdb : (x == ("__debug__" : Str)) = false := by decide) (he : starEach (e :: es) X.env = (false, eval e X.env) :: starEach es X.env := by rfl) (hpl : (backTo pos (starEach es X.env)).any (·.1) = false := by rfl)
    (hX : X.prog = P ∧ X.w = w ∧ X.K = K ∧ X.mg = mg ∧ X.base = base := by exact ⟨rfl, rfl, rfl, rfl, rfl⟩) :
    FD X E (.Call (.Name x p) (e :: es) [] pos) (tCall (Sp0 K mg n m) [] E t) (fCall m fa) := by
  obtain ⟨rfl, rfl, rfl, rfl, rfl⟩ := hX
  obtain ⟨f, fd, G, hm, hk, hb⟩ := d.ex
  exact ⟨pe_call G hr hg hm hk hb .nil hx ha.pe hdb he hpl, fcall_dr ha.dr hn⟩
/-- an owned list is changed by a callee -/
theorem Rp.mv1 {K : PySem.W.Frag} {B : Bs} {F H F' H' : Hp} {σ : L2.St} {S : List C} {i : Nat} {p : Bool} {l l' : List D} {b : Addr} {xs' : List V} (h : Rp K B F H σ S) (e : gt S i = .ow p l) (hs : sg σ i = some (.ref b)) (x : Ext1 b F H F' H') (hF : F' b = none) (hb : H' b = some (.lst xs')) (hl : Drs K F' xs' l') :
    Rp K B F' H' σ (st S i (.ow p l')) := by
  have hi : i < S.length := gt_lt fun q => by rw [q] at e; cases e
  obtain ⟨b', xs, h1, h2, h3, h4, h5⟩ := h.owl e
  rw [hs] at h1
  cases h1
  have own : ∀ j, (gt (st S i (.ow p l')) j).own = true → (gt S j).own = true := fun j q => by
    by_cases ej : j = i
    · subst ej; rw [e]; rfl
    · rw [gt_ne ej] at q; exact q
  refine ⟨by rw [st_len]; exact h.len, x.s, h.f0.trans x.f, fun a o e1 e2 => ?_, fun a e1 => x.k a (h.h1 a e1), h.m1, fun a e1 e2 => x.n a (h.h1 a e1) (h.fr a e1 e2), fun j => ?_, fun j k a q1 q2 q3 q4 => h.nd j k a (own j q1) (own k q2) q3 q4⟩
  · have ne : a ≠ b := fun z => by
      subst z
      unfold Bs.ok at h3
      cases p with
      | true => exact e2 h3
      | false =>
        have h3' : B.H a = none := h3
        rw [h3'] at e1; cases e1
    exact x.h a o ne (h.h0 a o e1 e2)
  · by_cases ej : j = i
    · subst ej
      rw [gt_st hi, hs]
      exact ⟨b, xs', rfl, hF, h3, hb, hl⟩
    · rw [gt_ne ej]
      have q := h.sl j
      cases e9 : gt S j with
      | un => trivial
      | vl d => rw [e9] at q; obtain ⟨v, q1, q2⟩ := q; exact ⟨v, q1, q2.mono x.f⟩
      | ow p' l2 =>
        rw [e9] at q
        obtain ⟨a, zs, q1, q2, q3, q4, q5⟩ := q
        have ne : a ≠ b := fun z => ej (h.nd j i b (by rw [e9]; rfl) (by rw [e]; rfl) (by rw [q1, z]) hs)
        exact ⟨a, zs, q1, x.n a (by rw [q4]; simp) q2, q3, x.h a _ ne q4, Drs.mono x.f q5⟩
      | dc p' l2 =>
        rw [e9] at q
        obtain ⟨a, zs, q1, q2, q3, q4, q5⟩ := q
        have ne : a ≠ b := fun z => ej (h.nd j i b (by rw [e9]; rfl) (by rw [e]; rfl) (by rw [q1, z]) hs)
        exact ⟨a, zs, q1, x.n a (by rw [q4]; simp) q2, q3, x.h a _ ne q4, Krs.mono x.f q5⟩
theorem call1_dr {K : PySem.W.Frag} {mg : Str → Option Value} {i n : Nat} {m : List D → List D → Option (D × List D)} {t : TA} {fa : EM (List D)} (h : ADr K mg E t fa) (hn : ∀ l ds, m l ds ≠ none → ds.length = n) : EDr K mg E (tCall (Sp1 K n m) [] E (tCons (tVar i) t)) (eCall1 m i fa) := by
  intro B F H σ S Q R q
  unfold eCall1 at q
  cases e2 : gt S i with
  | ow p l =>
    simp only [e2] at q
    obtain ⟨b, xs, h1, _, _, h4, _⟩ := R.owl e2
    refine ⟨.ref b, sg_some h1, ?_⟩
    refine h B F H σ S _ R (Po.thn q fun ds S1 F1 H1 R1 s1 h1' vs hv => ?_)
    cases e3 : gt S1 i with
    | ow p' l1 =>
      simp only [e3] at h1'
      obtain ⟨b', xs', k1, k2, k3, k4, k5⟩ := R1.owl e3
      rw [h1] at k1
      cases k1
      cases e4 : m l1 ds with
      | none => rw [e4] at h1'; exact h1'.elim
      | some r =>
        obtain ⟨d, l'⟩ := r
        rw [e4] at h1'
        rw [List.append_nil]
        refine ⟨by rw [List.length_cons, Paired.len hv, hn l1 ds (by rw [e4]; simp)], F1, b, xs', l1, vs, ds, rfl, R1.sub, k2, k4, k5, hv, ?_⟩
        rw [e4]
        exact fun F' H' v ys x hF hb hl hd => h1' F' H' (R1.mv1 e3 h1 x hF hb hl) x.f v hd
    | _ => simp only [e3] at h1'; exact h1'.elim
  | _ => simp only [e2] at q; exact q.elim
theorem de_call1 {P : Program} {w : World} {K : PySem.W.Frag} {mg : Str → Option Value} {base : Heap} {k n i : Nat} {x y : Str} {ps : List Str} {m : List D → List D → Option (D × List D)} {es : List Expr} {t : TA} {fa : EM (List D)} {p p2 : Pos} (d : DefOk P w K mg base k x ps (Sp1 K n m)) (hn : ∀ l ds, m l ds ≠ none → ds.length = n) (hr : Room k X.A) (hg : Gl X x) (hx : Passes (L2.CX X.prog X.w) X E) (ha : AD X E es t fa)
    (hN : X.N[i]? = some y := by rfl) (hv : Vis X.env.scope y := by first | exact Or.inl rfl | exact Or.inr (Or.inl rfl) | exact Or.inr (Or.inr rfl)) (hd : (y == ("__debug__" : Str)) = false := by decide)
    (hcd : (y == ("__classdict__" : Str)) = false := by decide)
    (hdb : (x == ("__debug__" : Str)) = false := by decide) (he : starEach (.Name y p2 :: es) X.env = (false, eval (.Name y p2) X.env) :: starEach es X.env := by rfl) (hpl : (backTo pos (starEach es X.env)).any (·.1) = false := by rfl)
    (hX : X.prog = P ∧ X.w = w ∧ X.K = K ∧ X.mg = mg ∧ X.base = base := by exact ⟨rfl, rfl, rfl, rfl, rfl⟩) :
    ED X E (.Call (.Name x p) (.Name y p2 :: es) [] pos) (tCall (Sp1 K n m) [] E (tCons (tVar i) t)) (eCall1 m i fa) := by
  obtain ⟨rfl, rfl, rfl, rfl, rfl⟩ := hX
  obtain ⟨f, fd, G, hm, hk, hb⟩ := d.ex
  exact ⟨pe_call G hr hg hm hk hb .nil hx (pa_cons (pe_var hN hv hd hcd) ha.pe he) hdb he hpl, call1_dr ha.dr hn⟩
end

/-! ### a def's body -/
def uns : Nat → List C
  | 0 => []
  | n + 1 => .un :: uns n
theorem uns_len : ∀ n, (uns n).length = n
  | 0 => rfl
  | n + 1 => by show (uns n).length + 1 = n + 1; rw [uns_len n]
theorem gt_uns : ∀ (n i : Nat), gt (uns n) i = .un
  | 0, _ => rfl
  | n + 1, 0 => rfl
  | n + 1, i + 1 => gt_uns n i
def vls : List D → Nat → List C
  | [], n => uns n
  | d :: r, n => .vl d :: vls r n
theorem vls_len : ∀ (l : List D) (n : Nat), (vls l n).length = l.length + n
  | [], n => by rw [show vls [] n = uns n from rfl, uns_len]; simp
  | d :: r, n => by show (vls r n).length + 1 = r.length + 1 + n; rw [vls_len r n]; omega
/-- pure defs: n parameters, u further names -/
def fin0 (n u : Nat) (b : SM) (ds : List D) : Option Cr := if ds.length = n then match b (vls ds u) with
  | some (.nx _) => some (.rt .non)
  | some (.rt d _) => some (.rt d)
  | some (.ro l _) => some (.ro l)
  | some (.er c p) => some (.er c p)
  | _ => none
  else none
theorem fin0_len {n u : Nat} {b : SM} : ∀ ds, fin0 n u b ds ≠ none → ds.length = n := fun ds h => by
  unfold fin0 at h
  by_cases z : ds.length = n
  · exact z
  · rw [if_neg z] at h; exact absurd rfl h
def own0 : List C → Option (List D)
  | .ow true l :: _ => some l
  | _ => none
theorem own0_gt {S : List C} {l : List D} (h : own0 S = some l) : gt S 0 = .ow true l := by
  unfold own0 at h
  split at h
  · cases h; rfl
  · cases h
/-- defs that change their first argument, a list -/
def fin1 (n u : Nat) (b : SM) (l ds : List D) : Option (D × List D) := if ds.length = n then match b (.ow true l :: vls ds u) with
  | some (.nx S) => (own0 S).map fun l' => (.non, l')
  | some (.rt d S) => (own0 S).map fun l' => (d, l')
  | _ => none
  else none
theorem fin1_len {n u : Nat} {b : SM} : ∀ l ds, fin1 n u b l ds ≠ none → ds.length = n := fun l ds h => by
  unfold fin1 at h
  by_cases z : ds.length = n
  · exact z
  · rw [if_neg z] at h; exact absurd rfl h
section
variable {P : Program} {w : World} {K : PySem.W.Frag} {mg : Str → Option Value} {base : Heap}
theorem vls_rc {B : Bs} {F H : Hp} {u : Nat} : ∀ {vs : List V} {ds : List D}, Drs K F vs ds → ∀ i, RC K B F H (sg (vs.map some ++ List.replicate u none) i) (gt (vls ds u) i) ∧ (gt (vls ds u) i).own = false
  | _, _, .nil, i => by
    rw [show vls [] u = uns u from rfl, gt_uns]
    exact ⟨trivial, rfl⟩
  | _, _, .cons r t, 0 => ⟨⟨_, rfl, r⟩, rfl⟩
  | _ :: vs, _ :: ds, .cons r t, i + 1 => vls_rc t i
theorem start_eq {N : List Str} {vs : List V} {n u : Nat} (h : vs.length = n) (hN : N.length = n + u) : L2.start N vs = vs.map some ++ List.replicate u none := by
  unfold L2.start
  rw [hN, h, Nat.add_sub_cancel_left]
theorem Rp.start {F H : Hp} {vs : List V} {ds : List D} {u : Nat} (s : Same F H) (h : Drs K F vs ds) : Rp K ⟨F, H, none⟩ F H (vs.map some ++ List.replicate u none) (vls ds u) := by
  refine ⟨?_, s, Same.refl _, fun a o e _ => e, fun a e => e, fun a e => (nomatch e), fun a _ e => e, fun i => (vls_rc h i).1, fun i j a h1 => by rw [(vls_rc (B := ⟨F, H, none⟩) (H := H) h i).2] at h1; cases h1⟩
  rw [vls_len, List.length_append, List.length_map, List.length_replicate, Paired.len h]
theorem Rp.start1 {F H : Hp} {b : Addr} {xs : List V} {l : List D} {vs : List V} {ds : List D} {u : Nat} (s : Same F H) (hF : F b = none) (hb : H b = some (.lst xs)) (hl : Drs K F xs l) (h : Drs K F vs ds) : Rp K ⟨F, H, some b⟩ F H ((.ref b :: vs).map some ++ List.replicate u none) (.ow true l :: vls ds u) := by
  have R0 := Rp.start (K := K) (u := u) s h
  refine ⟨?_, s, Same.refl _, fun a o e _ => e, fun a e => e, fun a e => ?_, fun a _ e => e, fun i => ?_, fun i j a h1 h2 => ?_⟩
  · show (vls ds u).length + 1 = (vs.map some ++ List.replicate u none).length + 1
    rw [R0.len]
  · cases e
    show H b ≠ none
    rw [hb]; simp
  · cases i with
    | zero => exact ⟨b, xs, rfl, hF, rfl, hb, hl⟩
    | succ i => exact (vls_rc h i).1
  · cases i with
    | zero =>
      cases j with
      | zero => intros; rfl
      | succ j =>
        have q : (gt (vls ds u) j).own = true := h2
        rw [(vls_rc (B := ⟨F, H, none⟩) (H := H) h j).2] at q; cases q
    | succ i =>
      have q : (gt (vls ds u) i).own = true := h1
      rw [(vls_rc (B := ⟨F, H, none⟩) (H := H) h i).2] at q; cases q
theorem ext_of {F H F' H' : Hp} {σ : L2.St} {S : List C} (R : Rp K ⟨F, H, none⟩ F' H' σ S) : Ext F H F' H' := ⟨R.f0, R.sub, fun a o e => R.h0 a o e (fun z => nomatch z), fun a h1 h2 => R.fr a h1 h2⟩
/-- THE RULE for a def, by its body -/
theorem ok0F {x qual : Str} {st : Stmt} {f : Addr} {fd : FuncData} {N ps : List Str} {k n u : Nat} {b : SM} (F : Fun K x qual st f fd) (S : FnScope N ps (defScope st)) (hp : ps.length = n) (hN : N.length = n + u) (hm : mg x = some (.ref f)) (hbd : Binds K fd ps [])
    (body : ∀ (cdv : Value) (A : Around) (outer : List Env) (s : Shared) (H : Hp) (E : XK), Room k (A.deeper (envOfC qual (defScope st) s.heap.objs.size f cdv)) →
      ∃ t, SsD (cxOf (L2.CX P w) P w K mg base N qual (defScope st) f cdv A outer s H E) E (defBody st) t b) : FnOk P w K mg base (L2.CX P w) (k + 1) f fd ps (Sp0 K mg n (fin0 n u b)) := by
  refine F.okX S (fun vs H Q E h => by rw [hp]; exact h.1) (fun cdv A outer s H vs Q E hr h => ?_)
  obtain ⟨hl, F0, ds, s0, hv, h⟩ := h
  obtain ⟨t, D⟩ := body cdv A outer s H E hr
  refine ⟨t, D.ps, ?_⟩
  rw [start_eq hl hN]
  refine D.dr ⟨F0, H, none⟩ F0 H _ (vls ds u) _ (Rp.start s0 hv) ?_
  have hn : ds.length = n := by rw [← Paired.len hv]; exact hl
  unfold fin0 at h
  rw [if_pos hn] at h
  cases e : b (vls ds u) with
  | none => rw [e] at h; exact h.elim
  | some o =>
    rw [e] at h
    cases o with
    | nx S' => exact fun F' H' σ' R _ => h F' H' _ (ext_of R) .non
    | rt d S' => exact fun F' H' σ' v R _ hd => h F' H' v (ext_of R) hd
    | ro l S' => exact fun F' H' σ' a xs R _ hH hF hB hl' _ => h F' H' a xs (ext_of R) hB hF hH hl'
    | er c p =>
      intro F' H' σ' S' R _ C hC
      exact h F' H' (ext_of R) C hC
    | bk _ => exact h.elim
    | ct _ => exact h.elim
theorem ok0 {x qual : Str} {st : Stmt} {f : Addr} {fd : FuncData} {N ps : List Str} {k n u : Nat} {b : SM} (F : Fun K x qual st f fd) (S : FnScope N ps (defScope st)) (hp : ps.length = n) (hN : N.length = n + u) (hm : mg x = some (.ref f)) (hbd : Binds K fd ps [])
    (body : ∀ (cdv : Value) (A : Around) (outer : List Env) (s : Shared) (H : Hp) (E : XK), Room k (A.deeper (envOfC qual (defScope st) s.heap.objs.size f cdv)) →
      ∃ t, SsD (cxOf (L2.CX P w) P w K mg base N qual (defScope st) f cdv A outer s H E) E (defBody st) t b) : DefOk P w K mg base (k + 1) x ps (Sp0 K mg n (fin0 n u b)) :=
  ⟨f, fd, ok0F F S hp hN hm hbd body, hm, F.kp, hbd⟩
theorem ok1 {x qual : Str} {st : Stmt} {f : Addr} {fd : FuncData} {N ps : List Str} {k n u : Nat} {b : SM} (F : Fun K x qual st f fd) (S : FnScope N ps (defScope st)) (hp : ps.length = n + 1) (hN : N.length = n + 1 + u) (hm : mg x = some (.ref f)) (hbd : Binds K fd ps [])
    (body : ∀ (cdv : Value) (A : Around) (outer : List Env) (s : Shared) (H : Hp) (E : XK), Room k (A.deeper (envOfC qual (defScope st) s.heap.objs.size f cdv)) →
      ∃ t, SsD (cxOf (L2.CX P w) P w K mg base N qual (defScope st) f cdv A outer s H E) E (defBody st) t b) : DefOk P w K mg base (k + 1) x ps (Sp1 K n (fin1 n u b)) := by
  refine ⟨f, fd, ?_, hm, F.kp, hbd⟩
  refine F.okX S (fun vs H Q E h => by rw [hp]; exact h.1) (fun cdv A outer s H vs Q E hr h => ?_)
  obtain ⟨hl, F0, b0, xs, l, ws, ds, rfl, s0, hF, hb, hxs, hv, h⟩ := h
  obtain ⟨t, D⟩ := body cdv A outer s H E hr
  refine ⟨t, D.ps, ?_⟩
  rw [start_eq hl hN]
  refine D.dr ⟨F0, H, some b0⟩ F0 H _ (.ow true l :: vls ds u) _ (Rp.start1 s0 hF hb hxs hv) ?_
  have hn : ds.length = n := by
    rw [← Paired.len hv]
    rw [List.length_cons] at hl
    omega
  unfold fin1 at h
  rw [if_pos hn] at h
  have ext : ∀ {F' H' σ' S' l'}, Rp K ⟨F0, H, some b0⟩ F' H' σ' S' → own0 S' = some l' → Ext1 b0 F0 H F' H' ∧ F' b0 = none ∧ ∃ xs', H' b0 = some (.lst xs') ∧ Drs K F' xs' l' := fun {F' H' σ' S' l'} R eo => by
    refine ⟨⟨R.f0, R.sub, fun a o ne e => R.h0 a o e (fun z => ne (Option.some.inj z).symm), fun a h1 h2 => R.fr a h1 h2, fun a h1 => R.h1 a h1⟩, ?_⟩
    obtain ⟨a, xs', e1, e2, e3, e4, e5⟩ := R.owl (i := 0) (own0_gt eo)
    have ea : b0 = a := Option.some.inj e3
    subst ea
    exact ⟨e2, xs', e4, e5⟩
  cases e : b (.ow true l :: vls ds u) with
  | none => rw [e] at h; exact h.elim
  | some o =>
    rw [e] at h
    cases o with
    | nx S' =>
      intro F' H' σ' R _
      cases eo : own0 S' with
      | none => simp only [eo] at h; exact h.elim
      | some l' =>
        simp only [eo] at h
        obtain ⟨x1, x2, xs', x3, x4⟩ := ext R eo
        exact h F' H' _ xs' x1 x2 x3 x4 .non
    | rt d S' =>
      intro F' H' σ' v R _ hd
      cases eo : own0 S' with
      | none => simp only [eo] at h; exact h.elim
      | some l' =>
        simp only [eo] at h
        obtain ⟨x1, x2, xs', x3, x4⟩ := ext R eo
        exact h F' H' v xs' x1 x2 x3 x4 hd
    | ro l S' => exact h.elim
    | er c p => exact h.elim
    | bk _ => exact h.elim
    | ct _ => exact h.elim
end
end TW
namespace TW
open PySem PySem.Spec PyProof.Rows L2 RZ

/-! ### lists of new lists, handed out one by one -/
/-- the base, with the objects at L as they stand in G -/
def Bs.ext (B : Bs) (G : Hp) (L : List Addr) : Bs := { B with H := fun a => if a ∈ L then G a else B.H a }
section
variable {K : PySem.W.Frag} {B B' : Bs} {F H G : Hp} {σ : L2.St} {S : List C} {L : List Addr}
theorem Bs.ext_in {a : Addr} (h : a ∈ L) : (B.ext G L).H a = G a := if_pos h
theorem Bs.ext_out {a : Addr} (h : a ∉ L) : (B.ext G L).H a = B.H a := if_neg h
/-- a base that says less -/
theorem Rp.base (h : Rp K B F H σ S) (hF : B'.F = B.F) (hM : B'.M = B.M) (hH : ∀ a o, B'.H a = some o → B.H a = some o) (hm : ∀ a, B.M = some a → B'.H a ≠ none) : Rp K B' F H σ S := by
  have nn : ∀ a, B'.H a ≠ none → B.H a ≠ none := fun a q e => by
    cases z : B'.H a with
    | none => exact q z
    | some o => rw [hH a o z] at e; cases e
  have okk : ∀ p a, B.ok p a → B'.ok p a := fun p a q => by
    unfold Bs.ok at q ⊢
    cases p with
    | true => rw [hM]; exact q
    | false =>
      have q' : B.H a = none := q
      show B'.H a = none
      cases z : B'.H a with
      | none => rfl
      | some o => rw [hH a o z] at q'; cases q'
  refine ⟨h.len, h.sub, by rw [hF]; exact h.f0, fun a o e1 e2 => h.h0 a o (hH a o e1) (by rw [← hM]; exact e2), fun a e => h.h1 a (nn a e), fun a e => hm a (by rw [← hM]; exact e), fun a e1 e2 => h.fr a (nn a e1) (by rw [← hF]; exact e2), fun i => ?_, h.nd⟩
  have q := h.sl i
  cases e : gt S i with
  | un => trivial
  | vl d => rw [e] at q; exact q
  | ow p l => rw [e] at q; obtain ⟨a, xs, e1, e2, e3, e4, e5⟩ := q; exact ⟨a, xs, e1, e2, okk p a e3, e4, e5⟩
  | dc p l => rw [e] at q; obtain ⟨a, xs, e1, e2, e3, e4, e5⟩ := q; exact ⟨a, xs, e1, e2, okk p a e3, e4, e5⟩
theorem Rp.toExt (h : Rp K B F H σ S) (hL : ∀ a ∈ L, H a ≠ none ∧ F a = none ∧ B.H a = none ∧ ∀ i, (gt S i).own = true → sg σ i ≠ some (.ref a)) : Rp K (B.ext H L) F H σ S := by
  have hM : ∀ a, B.M = some a → a ∉ L := fun a e m => h.m1 a e (hL a m).2.2.1
  have okk : ∀ p a, B.ok p a → (a ∈ L → False) → (B.ext H L).ok p a := fun p a q nl => by
    unfold Bs.ok at q ⊢
    cases p with
    | true => exact q
    | false =>
      have q' : B.H a = none := q
      show (B.ext H L).H a = none
      rw [Bs.ext_out nl]; exact q'
  refine ⟨h.len, h.sub, h.f0, fun a o e1 e2 => ?_, fun a e => ?_, fun a e => ?_, fun a e1 e2 => ?_, fun i => ?_, h.nd⟩
  · by_cases m : a ∈ L
    · rw [Bs.ext_in m] at e1; exact e1
    · rw [Bs.ext_out m] at e1; exact h.h0 a o e1 e2
  · by_cases m : a ∈ L
    · rw [Bs.ext_in m] at e; exact e
    · rw [Bs.ext_out m] at e; exact h.h1 a e
  · rw [Bs.ext_out (hM a e)]; exact h.m1 a e
  · by_cases m : a ∈ L
    · exact (hL a m).2.1
    · rw [Bs.ext_out m] at e1; exact h.fr a e1 e2
  · have q := h.sl i
    cases e : gt S i with
    | un => trivial
    | vl d => rw [e] at q; exact q
    | ow p l =>
      rw [e] at q
      obtain ⟨a, xs, e1, e2, e3, e4, e5⟩ := q
      exact ⟨a, xs, e1, e2, okk p a e3 (fun m => (hL a m).2.2.2 i (by rw [e]; rfl) e1), e4, e5⟩
    | dc p l =>
      rw [e] at q
      obtain ⟨a, xs, e1, e2, e3, e4, e5⟩ := q
      exact ⟨a, xs, e1, e2, okk p a e3 (fun m => (hL a m).2.2.2 i (by rw [e]; rfl) e1), e4, e5⟩
/-- objects that nothing else leans on -/
def Apart (B : Bs) (F H : Hp) (σ : L2.St) (S : List C) (L : List Addr) : Prop := ∀ a ∈ L, H a ≠ none ∧ F a = none ∧ B.H a = none ∧ ∀ i, (gt S i).own = true → sg σ i ≠ some (.ref a)
theorem Rp.after {F' H' : Hp} {σ' : L2.St} {S' : List C} (h : Rp K B F H σ S) (A : Apart B F H σ S L) (h' : Rp K (B.ext H L) F' H' σ' S') : Rp K B F' H' σ' S' ∧ Apart B F' H' σ' S' L ∧ ∀ a ∈ L, H' a = H a := by
  have hM : ∀ a, B.M = some a → a ∉ L := fun a e m => h.m1 a e (A a m).2.2.1
  have hE : ∀ a ∈ L, H' a = H a := fun a m => by
    cases e : H a with
    | none => exact absurd e (A a m).1
    | some o => exact h'.h0 a o (by rw [Bs.ext_in m]; exact e) (fun z => hM a z m)
  refine ⟨h'.base rfl rfl (fun a o e => ?_) (fun a e => h.m1 a e), fun a m => ⟨?_, ?_, (A a m).2.2.1, fun i ho hs => ?_⟩, hE⟩
  · have nm : a ∉ L := fun m => by rw [(A a m).2.2.1] at e; cases e
    rw [Bs.ext_out nm]; exact e
  · rw [hE a m]; exact (A a m).1
  · refine h'.fr a ?_ ?_
    · rw [Bs.ext_in m]; exact (A a m).1
    · show B.F a = none
      cases q : B.F a with
      | none => rfl
      | some o => exact absurd (h.f0 a o q) (by rw [(A a m).2.1]; simp)
  · have q := h'.sl i
    have okk : ∀ p, (B.ext H L).ok p a → False := fun p z => by
      unfold Bs.ok at z
      cases p with
      | true => exact hM a z m
      | false =>
        have z' : (B.ext H L).H a = none := z
        rw [Bs.ext_in m] at z'
        exact (A a m).1 z'
    cases e : gt S' i with
    | un => rw [e] at ho; cases ho
    | vl d => rw [e] at ho; cases ho
    | ow p l => rw [e] at q; obtain ⟨b, xs, e1, e2, e3, _⟩ := q; rw [hs] at e1; cases e1; exact okk p e3
    | dc p l => rw [e] at q; obtain ⟨b, xs, e1, e2, e3, _⟩ := q; rw [hs] at e1; cases e1; exact okk p e3
theorem Apart.mv {F' H' : Hp} (A : Apart B F H σ S L) (x : Ext F H F' H') : Apart B F' H' σ S L := fun a m => by
  obtain ⟨h1, h2, h3, h4⟩ := A a m
  exact ⟨fun q => h1 (x.h.free q), x.n a h1 h2, h3, h4⟩
/-- an object of no one is changed -/
theorem Rp.other {D : Addr} {o : HO} (h : Rp K B F H σ S) (hF : F D = none) (hB : B.H D = none) (hn : ∀ i, (gt S i).own = true → sg σ i ≠ some (.ref D)) : Rp K B F (upd H D o) σ S := by
  refine ⟨h.len, fun b u e => ?_, h.f0, fun b u h1 h2 => ?_, fun b h1 => ?_, h.m1, h.fr, fun i => ?_, h.nd⟩
  · rw [upd_ne (fun z => by rw [z, hF] at e; cases e)]; exact h.sub _ _ e
  · rw [upd_ne (fun z => by rw [z, hB] at h1; cases h1)]; exact h.h0 b u h1 h2
  · rw [upd_ne (fun z => h1 (by rw [z]; exact hB))]; exact h.h1 b h1
  · have q := h.sl i
    cases e : gt S i with
    | un => trivial
    | vl d => rw [e] at q; exact q
    | ow p l =>
      rw [e] at q
      obtain ⟨b, zs, e1, e2, e3, e4, e5⟩ := q
      exact ⟨b, zs, e1, e2, e3, by rw [upd_ne (fun z => hn i (by rw [e]; rfl) (by rw [e1, z]))]; exact e4, e5⟩
    | dc p l =>
      rw [e] at q
      obtain ⟨b, zs, e1, e2, e3, e4, e5⟩ := q
      exact ⟨b, zs, e1, e2, e3, by rw [upd_ne (fun z => hn i (by rw [e]; rfl) (by rw [e1, z]))]; exact e4, e5⟩
end
/-- the lists at as hold ls -/
def Held (K : PySem.W.Frag) (F H : Hp) : List Addr → List (List D) → Prop := Paired fun a l => ∃ xs, H a = some (.lst xs) ∧ Drs K F xs l
theorem Held.mv {K : PySem.W.Frag} {F F' H H' : Hp} (sf : Same F F') : ∀ {as : List Addr} {ls : List (List D)}, Held K F H as ls → (∀ a ∈ as, H' a = H a) → Held K F' H' as ls
  | _, _, .nil, _ => .nil
  | _, _, .cons ⟨xs, h1, h2⟩ t, k => .cons ⟨xs, by rw [k _ List.mem_cons_self]; exact h1, Drs.mono sf h2⟩ (Held.mv sf t fun a m => k a (List.mem_cons_of_mem _ m))
/-- comprehensions whose items are new lists -/
def lbGo (vs : List Nat) (g : GF) (te : EM (List D)) : List D → List (List D) → List C → Option (List (List D) × List C)
  | [], acc, S => some (acc, S)
  | x :: r, acc, S => match g x S with
    | none => none
    | some S2 => match te S2 with
      | some (.ok y S4) => lbGo vs g te r (acc ++ [y]) (wp S4 vs)
      | _ => none
def lbF (vs : List Nat) (fi : EM (List D)) (g : GF) (te : EM (List D)) : EM (List (List D)) := bnd fi fun ds S1 => if ds.length ≤ sizeLine then
  match lbGo vs g te ds [] (wp S1 vs) with
  | some (ys, S2) => some (.ok ys (rs S1 vs S2))
  | none => none
  else none
def BDr (K : PySem.W.Frag) (mg : Str → Option Value) (E : XK) (t : TE) (f : EM (List (List D))) : Prop :=
  ∀ B F H σ S (Q : VK), Rp K B F H σ S → Po K mg E B F σ (fun ls S' F' H' => ∀ p as, H' p = some (.lst (as.map V.ref)) → (p :: as).Nodup → Apart B F' H' σ S' (p :: as) → Held K F' H' as ls → Q (.ref p) H') (f S) → t σ H Q
theorem drop_one {α : Type} {l : List α} {i : Nat} {d : α} (h : l[i]? = some d) : l.drop i = d :: l.drop (i + 1) := by
  obtain ⟨hi, e⟩ := List.getElem?_eq_some_iff.mp h
  rw [List.drop_eq_getElem_cons hi, e]
theorem wipe_idem {σ : L2.St} {vs : List Nat} : L2.wipe (L2.wipe σ vs) vs = L2.wipe σ vs := by
  have idem : ∀ (l : List Nat) (τ : L2.St), (∀ i ∈ l, i ∈ vs) → L2.wipe (L2.wipe τ vs) l = L2.wipe τ vs := by
    intro l
    induction l with
    | nil => intro τ _; rfl
    | cons k t ih =>
      intro τ hk
      show (L2.wipe (L2.wipe τ vs) t).set k none = L2.wipe τ vs
      rw [ih τ fun i hi => hk i (List.mem_cons_of_mem _ hi)]
      apply List.ext_getElem?
      intro n
      by_cases en : n = k
      · subst en
        have hs : sg (L2.wipe τ vs) n = none := sg_wipe.1 (hk n List.mem_cons_self)
        by_cases hn : n < (L2.wipe τ vs).length
        · rw [List.getElem?_set_self hn]
          unfold sg at hs
          rw [List.getElem?_eq_getElem hn] at hs ⊢
          simp only at hs
          rw [hs]
        · rw [List.getElem?_eq_none (by rw [List.length_set]; omega), List.getElem?_eq_none (by omega)]
      · rw [List.getElem?_set_ne (Ne.symm en)]
  exact idem vs σ fun _ h => h
theorem lb_dr {K : PySem.W.Frag} {mg : Str → Option Value} {E : XK} {wi : TI} {g : TG} {te : TE} {vs ix : List Nat} {fi : EM (List D)} {gd : GF} {fe : EM (List D)} (hi : IDr K mg E wi fi) (hg : GDr K g gd ix) (he : FDr K mg E0 te fe) (hix : ∀ i ∈ ix, i ∈ vs) :
    BDr K mg E (tLc wi g tYes te vs) (lbF vs fi gd fe) := by
  intro B F H σ S Q R q
  refine hi B F H σ S _ R (Po.thn q fun ds S1 F1 H1 R1 s1 h1 J hJ => ?_)
  intro D hD
  by_cases z : ds.length ≤ sizeLine
  case neg =>
    have : False := by rw [if_neg z] at h1; exact h1
    exact this.elim
  rw [if_pos z] at h1
  cases e : lbGo vs gd fe ds [] (wp S1 vs) with
  | none => rw [e] at h1; exact h1.elim
  | some p =>
    obtain ⟨ys, S2⟩ := p
    rw [e] at h1
    obtain ⟨hB, nown⟩ := Ext.none_of (F := F1) (H := H1) (F' := F1) (H' := H1) R1 hD
    have hF1 : F1 D = none := R1.sub.free hD
    have R1' : Rp K B F1 (upd H1 D (.lst [])) σ S1 := R1.mv (Ext.newH R1.sub hD _)
    have ap1 : Apart B F1 (upd H1 D (.lst [])) (L2.wipe σ vs) (wp S1 vs) [D] := fun a m => by
      have ea : a = D := by simpa using m
      subst ea
      refine ⟨by rw [upd_same]; simp, hF1, hB, fun i ho hs => ?_⟩
      by_cases q : i ∈ vs
      · rw [gt_wp.1 q] at ho; cases ho
      · rw [gt_wp.2 q] at ho
        rw [sg_wipe.2 q] at hs
        exact nown i ho hs
    refine ⟨fun i m Hx => ∃ Fx Sx as ls, i + m = ds.length ∧ Same F1 Fx ∧ Rp K B Fx Hx (L2.wipe σ vs) Sx ∧ Apart B Fx Hx (L2.wipe σ vs) Sx (D :: as) ∧ (D :: as).Nodup ∧ Hx D = some (.lst (as.map V.ref)) ∧ Held K Fx Hx as ls ∧ as.length ≤ i ∧ lbGo vs gd fe (ds.drop i) ls Sx = some (ys, S2),
      ⟨ds.length, F1, wp S1 vs, [], [], Nat.zero_add _, Same.refl _, R1'.wipe vs, ap1, by simp, upd_same, .nil, Nat.le_refl _, e⟩, fun i m Hx hW => ?_⟩
    obtain ⟨Fx, Sx, as, ls, em, sx, Rx, ap, nd, hDx, hld, hlen, hgo⟩ := hW
    obtain ⟨jst, jgo⟩ := hJ i Fx Hx sx Rx.sub
    by_cases hi' : i < ds.length
    · refine .inr ?_
      obtain ⟨j1, j2⟩ := jgo hi'
      refine ⟨j1, fun Hy => ∃ Fy Sy as ls, i + 1 + (m - 1) = ds.length ∧ Same F1 Fy ∧ Rp K B Fy Hy (L2.wipe σ vs) Sy ∧ Apart B Fy Hy (L2.wipe σ vs) Sy (D :: as) ∧ (D :: as).Nodup ∧ Hy D = some (.lst (as.map V.ref)) ∧ Held K Fy Hy as ls ∧ as.length ≤ i + 1 ∧ lbGo vs gd fe (ds.drop (i + 1)) ls Sy = some (ys, S2), fun Hy hy => ⟨m - 1, by omega, hy⟩, fun x Hy hy => ?_⟩
      obtain ⟨F2, d, hd1, hd2, hd3⟩ := j2 x Hy hy
      rw [drop_one hd1] at hgo
      unfold lbGo at hgo
      have Ry := Rx.mv hd2
      have apy := ap.mv hd2
      have hldy : Held K F2 Hy as ls := hld.mv hd2.f fun a m => by
        obtain ⟨h1, _⟩ := ap a (List.mem_cons_of_mem _ m)
        cases e9 : Hx a with
        | none => exact absurd e9 h1
        | some o => exact hd2.h _ _ e9
      have hDy : Hy D = some (.lst (as.map V.ref)) := hd2.h _ _ hDx
      cases e2 : gd d Sx with
      | none => rw [e2] at hgo; cases hgo
      | some S3 =>
        simp only [e2] at hgo
        refine hg (B.ext Hy (D :: as)) F2 Hy (L2.wipe σ vs) Sx x d S3 _ (Ry.toExt apy) hd3 e2 fun σ' R3 hw => ?_
        have hw2 : L2.wipe σ' vs = L2.wipe σ vs := by rw [hw vs hix, wipe_idem]
        refine ⟨hw2, ?_⟩
        show tYes σ' Hy _
        unfold tYes
        refine iteT ?_
        cases e4 : fe S3 with
        | none => rw [e4] at hgo; cases hgo
        | some rr =>
          cases rr with
          | er c p => rw [e4] at hgo; cases hgo
          | ok y S5 =>
            simp only [e4] at hgo
            refine he (B.ext Hy (D :: as)) F2 Hy σ' S3 _ R3 ?_
            rw [e4]
            intro F4 H4 R5 s5 a xs ha hFa hBa hxs hna
            obtain ⟨R6, ap6, hE6⟩ := Ry.after apy R5
            have hD4 : H4 D = some (.lst (as.map V.ref)) := by rw [hE6 D List.mem_cons_self]; exact hDy
            have anm : a ∉ D :: as := fun m => by
              rw [Bs.ext_in m] at hBa
              exact (apy a m).1 hBa
            have hBa' : B.H a = none := by rw [Bs.ext_out anm] at hBa; exact hBa
            have nda : (D :: (as ++ [a])).Nodup := by
              have q : (D :: as ++ [a]).Nodup := by
                rw [List.nodup_append]
                exact ⟨nd, by simp, fun x hx y hy e => by
                  have ey : y = a := by simpa using hy
                  rw [e, ey] at hx
                  exact anm hx⟩
              exact q
            have hla : as.length < sizeLine := by omega
            obtain ⟨_, hFD, hBD, hnD⟩ := ap6 D List.mem_cons_self
            have neD : ∀ b ∈ as ++ [a], b ≠ D := fun b hb e => by
              have q := (List.nodup_cons.mp nda).1
              rw [e] at hb
              exact q hb
            have R7 : Rp K B F4 (upd H4 D (.lst (as.map V.ref ++ [.ref a]))) σ' S5 := R6.other hFD hBD hnD
            refine ⟨as.map V.ref, hD4, by rw [List.length_map]; exact hla, F4, wp S5 vs, as ++ [a], ls ++ [y], by omega, sx.trans (hd2.f.trans s5), R7.wiped hw2, fun b hb => ?_, nda, ?_, ?_, by rw [List.length_append, List.length_singleton]; omega, hgo⟩
            · have hb' : H4 b ≠ none ∧ F4 b = none ∧ B.H b = none ∧ ∀ i, (gt S5 i).own = true → sg σ' i ≠ some (.ref b) := by
                rcases List.mem_cons.mp hb with e | hb
                · rw [e]; exact ap6 D List.mem_cons_self
                · rcases List.mem_append.mp hb with hb | hb
                  · exact ap6 b (List.mem_cons_of_mem _ hb)
                  · have eb : b = a := by simpa using hb
                    rw [eb]
                    exact ⟨by rw [ha]; simp, hFa, hBa', hna⟩
              obtain ⟨k1, k2, k3, k4⟩ := hb'
              refine ⟨?_, k2, k3, fun i ho hs => ?_⟩
              · by_cases eb : b = D
                · rw [eb, upd_same]; simp
                · rw [upd_ne eb]; exact k1
              · rw [← hw2] at hs
                by_cases q : i ∈ vs
                · rw [gt_wp.1 q] at ho; cases ho
                · rw [gt_wp.2 q] at ho
                  rw [sg_wipe.2 q] at hs
                  exact k4 i ho hs
            · rw [upd_same, List.map_append]; rfl
            · have q1 : Held K F4 (upd H4 D (.lst (as.map V.ref ++ [.ref a]))) as ls := hldy.mv s5 fun b hb => by
                rw [upd_ne (neD b (List.mem_append_left _ hb))]
                exact hE6 b (List.mem_cons_of_mem _ hb)
              exact Paired.app q1 (.cons ⟨xs, by rw [upd_ne (neD a (by simp))]; exact ha, hxs⟩ .nil)
    · refine .inl ⟨jst (by omega), ?_⟩
      rw [List.drop_of_length_le (by omega)] at hgo
      unfold lbGo at hgo
      cases hgo
      have R9 := Rx.restore R1 sx
      refine h1 Fx Hx R9 sx D as hDx nd (fun a m => ?_) hld
      obtain ⟨k1, k2, k3, k4⟩ := ap a m
      refine ⟨k1, k2, k3, fun i ho hs => ?_⟩
      have hle : S1.length = S2.length := by rw [R1.len, Rx.len, wipe_length]
      by_cases q : i ∈ vs
      · rw [(gt_rs hle).1 q] at ho
        cases e9 : gt S1 i with
        | _ => rw [e9] at ho; cases ho
      · rw [(gt_rs hle).2 q] at ho
        exact k4 i ho (by rw [sg_wipe.2 q]; exact hs)

/-! ### a def that hands out new lists in a list; the loop over them -/
def SpB (K : PySem.W.Frag) (n : Nat) (m : List D → Option (List (List D))) : Sp := fun vs H Q E => vs.length = n ∧ ∃ F ds, Same F H ∧ Drs K F vs ds ∧ match m ds with
  | none => False
  | some ls => ∀ F' H' p as, Ext F H F' H' → H' p = some (.lst (as.map V.ref)) → (p :: as).Nodup → (∀ a ∈ p :: as, H a = none ∧ F' a = none ∧ H' a ≠ none) → Held K F' H' as ls → Q (.ref p) H'
def finB (n u : Nat) (b : EM (List (List D))) (ds : List D) : Option (List (List D)) := if ds.length = n then match b (vls ds u) with
  | some (.ok ls _) => some ls
  | _ => none
  else none
theorem finB_len {n u : Nat} {b : EM (List (List D))} : ∀ ds, finB n u b ds ≠ none → ds.length = n := fun ds h => by
  unfold finB at h
  by_cases z : ds.length = n
  · exact z
  · rw [if_neg z] at h; exact absurd rfl h
structure BD (X : Cx) (E : XK) (e : Expr) (t : TE) (f : EM (List (List D))) : Prop where
  pe : PE X e t
  dr : BDr X.K X.mg E t f
theorem bd_lc {X : Cx} {E : XK} {elt tg iter : Expr} {scope : Scope} {own : List (Str × Nat)} {pos : Pos} {wi : TI} {g : TG} {te : TE} {ix : List Nat} {fi : EM (List D)} {gd : GF} {fe : EM (List D)} (hc : X.calm = true) (hN : X.N.Nodup) (hi : ID X E tg iter wi fi)
    (ok : blkC X.N X.env.scope scope own = true)
    (hg : ∀ (s : Shared) (H : Hp) (C : Addr) (cl : List (Str × Addr)) (fp : List Addr), GD (X.blk s H scope (compEnvC scope cl C X.env) fp) tg g gd ix)
    (he : ∀ (s : Shared) (H : Hp) (C : Addr) (cl : List (Str × Addr)) (fp : List Addr), FD (X.blk s H scope (compEnvC scope cl C X.env) fp) E0 elt te fe)
    (hix : ∀ i ∈ ix, i ∈ own.map (·.2) := by decide) : BD X E (.ListComp elt [⟨tg, iter, [], 0⟩] scope pos) (tLc wi g tYes te (own.map (·.2))) (lbF (own.map (·.2)) fi gd fe) :=
  ⟨pe_lc hc hN hi.pi (blkOk_by ok) (fun s H C cl fp => (hg s H C cl fp).pg) (fun _ _ _ _ _ => pts_nil) (fun s H C cl fp => (he s H C cl fp).pe) hi.hs,
    lb_dr hi.dr (hg X.s_0 X.H_0 0 [] []).dr (he X.s_0 X.H_0 0 [] []).dr hix⟩
section
variable {P : Program} {w : World} {K : PySem.W.Frag} {mg : Str → Option Value} {base : Heap}
theorem okB {x qual : Str} {st : Stmt} {e : Expr} {pos : Pos} {f : Addr} {fd : FuncData} {N ps : List Str} {k n u : Nat} {b : EM (List (List D))} (F : Fun K x qual st f fd) (S : FnScope N ps (defScope st)) (hbody : defBody st = [.Return (some e) pos]) (hp : ps.length = n) (hN : N.length = n + u) (hm : mg x = some (.ref f)) (hbd : Binds K fd ps [])
    (body : ∀ (cdv : Value) (A : Around) (outer : List Env) (s : Shared) (H : Hp) (E : XK), Room k (A.deeper (envOfC qual (defScope st) s.heap.objs.size f cdv)) →
      ∃ t, BD (cxOf (L2.CX P w) P w K mg base N qual (defScope st) f cdv A outer s H E) E e t b) : DefOk P w K mg base (k + 1) x ps (SpB K n (finB n u b)) := by
  refine ⟨f, fd, ?_, hm, F.kp, hbd⟩
  refine F.okX S (fun vs H Q E h => by rw [hp]; exact h.1) (fun cdv A outer s H vs Q E hr h => ?_)
  obtain ⟨hl, F0, ds, s0, hv, h⟩ := h
  obtain ⟨t, D⟩ := body cdv A outer s H E hr
  refine ⟨tRet t, by rw [hbody]; exact pss_one (ps_ret D.pe), ?_⟩
  rw [start_eq hl hN]
  have hn : ds.length = n := by rw [← Paired.len hv]; exact hl
  refine D.dr ⟨F0, H, none⟩ F0 H _ (vls ds u) _ (Rp.start s0 hv) ?_
  unfold finB at h
  rw [if_pos hn] at h
  cases e : b (vls ds u) with
  | none => rw [e] at h; exact h.elim
  | some r =>
    rw [e] at h
    cases r with
    | er c p => exact h.elim
    | ok ls S' =>
      intro F' H' R s' p as h1 h2 h3 h4
      exact h F' H' p as (ext_of R) h1 h2 (fun a m => ⟨(h3 a m).2.2.1, (h3 a m).2.1, (h3 a m).1⟩) h4
end
def bagGo (i : Nat) (body : SM) : List (List D) → SM
  | [], S => some (.nx S)
  | l :: r, S => match body (st S i (.ow false l)) with
    | some (.nx S3) => bagGo i body r S3
    | some (.ct S3) => bagGo i body r S3
    | some (.bk S3) => some (.nx S3)
    | o => o
def sBag (i : Nat) (m : List D → Option (List (List D))) (fa : EM (List D)) (body : SM) : SM := sBind fa fun ds S => match m ds with
  | some ls => bagGo i body ls S
  | none => none
theorem Apart.sub {B : Bs} {F H : Hp} {σ : L2.St} {S : List C} {L L' : List Addr} (A : Apart B F H σ S L) (h : ∀ a ∈ L', a ∈ L) : Apart B F H σ S L' := fun a m => A a (h a m)
theorem bag_dr {K : PySem.W.Frag} {mg : Str → Option Value} {E : XK} {n i : Nat} {m : List D → Option (List (List D))} {t : TA} {fa : EM (List D)} {tb : TS} {fb : SM} (h : ADr K mg E t fa) (hn : ∀ ds, m ds ≠ none → ds.length = n) (hb : SDr K mg E tb fb) :
    SDr K mg E (tFor (iList K (tCall (SpB K n m) [] E t)) (gName i) tb) (sBag i m fa fb) := by
  intro B F H σ S D R q
  refine h B F H σ S _ R (PoS.bnd q fun ds S1 F1 H1 R1 s1 h1 vs hv => ?_)
  rw [List.append_nil]
  cases e : m ds with
  | none => rw [e] at h1; exact h1.elim
  | some ls =>
    rw [e] at h1
    refine ⟨by rw [Paired.len hv, hn ds (by rw [e]; simp)], F1, ds, R1.sub, hv, ?_⟩
    rw [e]
    intro F2 H2 p as x2 hp nd hap hld
    have R2 := R1.mv x2
    have ap2 : Apart B F2 H2 σ S1 (p :: as) := fun a ma => by
      obtain ⟨k1, k2, k3⟩ := hap a ma
      obtain ⟨k4, k5⟩ := Ext.none_of (F := F1) (H := H1) (F' := F1) (H' := H1) R1 k1
      exact ⟨k3, k2, k4, k5⟩
    refine ⟨p, rfl, ⟨_, SqL.of hp⟩, ?_⟩
    have hlen : as.length = ls.length := Paired.len hld
    refine ⟨fun j r σx Hx => ∃ Fx Sx, j + r = as.length ∧ Same F1 Fx ∧ Rp K B Fx Hx σx Sx ∧ Apart B Fx Hx σx Sx (p :: as.drop j) ∧ Hx p = some (.lst (as.map V.ref)) ∧ Held K Fx Hx (as.drop j) (ls.drop j) ∧ PoS K mg E B Fx D (bagGo i fb (ls.drop j) Sx), ⟨as.length, F2, S1, Nat.zero_add _, x2.f, R2, ap2, hp, hld, PoS.weak x2.f h1⟩, fun j r σx Hx hW => ?_⟩
    obtain ⟨Fx, Sx, em, sx, Rx, ap, hpx, hldx, hgo⟩ := hW
    by_cases hj : j < as.length
    · refine .inr ⟨⟨_, .ref as[j], SqL.of hpx, by rw [List.getElem?_map, List.getElem?_eq_getElem hj]; rfl⟩, fun σy Hy => ∃ Fy Sy, j + 1 + (r - 1) = as.length ∧ Same F1 Fy ∧ Rp K B Fy Hy σy Sy ∧ Apart B Fy Hy σy Sy (p :: as.drop (j + 1)) ∧ Hy p = some (.lst (as.map V.ref)) ∧ Held K Fy Hy (as.drop (j + 1)) (ls.drop (j + 1)) ∧ PoS K mg E B Fy D (bagGo i fb (ls.drop (j + 1)) Sy), fun σy Hy hy => ⟨r - 1, by omega, hy⟩, fun x Hy hy => ?_⟩
      obtain ⟨rfl, hx⟩ := hy
      have ex := hx _ (SqL.of hpx)
      rw [List.getElem?_map, List.getElem?_eq_getElem hj] at ex
      have exx : V.ref as[j] = x := Option.some.inj ex
      subst exx
      have da : as.drop j = as[j] :: as.drop (j + 1) := drop_one (List.getElem?_eq_getElem hj)
      have hjl : j < ls.length := by omega
      have dl : ls.drop j = ls[j] :: ls.drop (j + 1) := drop_one (List.getElem?_eq_getElem hjl)
      rw [da, dl] at hldx
      rw [da] at ap
      rw [dl] at hgo
      unfold bagGo at hgo
      cases hldx with
      | cons hl0 hlr =>
        obtain ⟨xs, hx1, hx2⟩ := hl0
        obtain ⟨k1, k2, k3, k4⟩ := ap as[j] (List.mem_cons_of_mem _ List.mem_cons_self)
        -- the name holds the next list alone
        have R3 := Rx.setOwn i hx1 k2 k3 hx2 k4
        have nda : (as[j] :: as.drop (j + 1)).Nodup := by
          rw [← da]
          exact (List.nodup_cons.mp nd).2.sublist (List.drop_sublist _ _)
        have pn : as[j] ≠ p := fun e => (List.nodup_cons.mp nd).1 (by rw [← e]; exact List.getElem_mem hj)
        have ap3 : Apart B Fx Hy (σx.set i (some (.ref as[j]))) (TW.st Sx i (.ow false ls[j])) (p :: as.drop (j + 1)) := fun a ma => by
          obtain ⟨q1, q2, q3, q4⟩ := ap a (by
            rcases List.mem_cons.mp ma with e | ma
            · rw [e]; exact List.mem_cons_self
            · exact List.mem_cons_of_mem _ (List.mem_cons_of_mem _ ma))
          refine ⟨q1, q2, q3, fun l ho hs => ?_⟩
          by_cases el : l = i
          · subst el
            by_cases hl : l < σx.length
            · rw [sg_set hl] at hs
              have ea : as[j] = a := by
                have := Option.some.inj hs
                exact V.ref.inj this
              rcases List.mem_cons.mp ma with e | ma
              · exact pn (ea.trans e)
              · exact (List.nodup_cons.mp nda).1 (by rw [ea]; exact ma)
            · unfold sg at hs
              rw [List.getElem?_eq_none (by rw [List.length_set]; omega)] at hs
              cases hs
          · rw [gt_ne el] at ho
            rw [sg_ne el] at hs
            exact q4 l ho hs
        have R4 := R3.toExt ap3
        refine hb (B.ext Hy (p :: as.drop (j + 1))) Fx Hy _ _ _ R4 ?_
        have fin : ∀ {F' H' σ' S'}, Rp K (B.ext Hy (p :: as.drop (j + 1))) F' H' σ' S' → Same Fx F' → Rp K B F' H' σ' S' ∧ Apart B F' H' σ' S' (p :: as.drop (j + 1)) ∧ H' p = some (.lst (as.map V.ref)) ∧ Held K F' H' (as.drop (j + 1)) (ls.drop (j + 1)) := fun {F' H' σ' S'} R5 s5 => by
          obtain ⟨R6, ap6, hE⟩ := R3.after ap3 R5
          exact ⟨R6, ap6, by rw [hE p List.mem_cons_self]; exact hpx, Held.mv s5 hlr fun a ma => hE a (List.mem_cons_of_mem _ ma)⟩
        cases e3 : fb (TW.st Sx i (.ow false ls[j])) with
        | none => simp only [e3] at hgo; exact hgo.elim
        | some o =>
          cases o with
          | nx S4 =>
            simp only [e3] at hgo
            intro F3 H3 σ3 R5 s5
            obtain ⟨z1, z2, z3, z4⟩ := fin R5 s5
            exact ⟨F3, S4, by omega, sx.trans s5, z1, z2, z3, z4, PoS.weak s5 hgo⟩
          | ct S4 =>
            simp only [e3] at hgo
            intro F3 H3 σ3 R5 s5
            obtain ⟨z1, z2, z3, z4⟩ := fin R5 s5
            exact ⟨F3, S4, by omega, sx.trans s5, z1, z2, z3, z4, PoS.weak s5 hgo⟩
          | bk S4 =>
            simp only [e3] at hgo
            intro F3 H3 σ3 R5 s5
            exact hgo F3 H3 σ3 (fin R5 s5).1 s5
          | rt d S4 =>
            simp only [e3] at hgo
            intro F3 H3 σ3 v R5 s5 hd
            exact hgo F3 H3 σ3 v (fin R5 s5).1 s5 hd
          | ro l S4 =>
            simp only [e3] at hgo
            intro F3 H3 σ3 a zs R5 s5 q1 q2 q3 q4 q5
            refine hgo F3 H3 σ3 a zs (fin R5 s5).1 s5 q1 q2 ?_ q4 q5
            cases q9 : B.H a with
            | none => rfl
            | some u =>
              have nm : a ∉ p :: as.drop (j + 1) := fun ma => by rw [(ap3 a ma).2.2.1] at q9; cases q9
              rw [Bs.ext_out nm] at q3
              rw [q3] at q9; cases q9
          | er c p' =>
            simp only [e3] at hgo
            intro F3 H3 σ3 S3 R5 s5 C hC
            have k := hgo F3 H3 σ3 S3 (fin R5 s5).1 s5 C hC
            cases p' with
            | none => exact k
            | some d =>
              intro y v hy
              refine k y v ?_
              cases q9 : B.H y with
              | none => rfl
              | some u =>
                have nm : y ∉ p :: as.drop (j + 1) := fun ma => by rw [(ap3 y ma).2.2.1] at q9; cases q9
                rw [Bs.ext_out nm] at hy
                rw [hy] at q9; cases q9
    · refine .inl ⟨⟨_, SqL.of hpx, by rw [List.length_map]; omega⟩, ?_⟩
      rw [List.drop_of_length_le (by omega)] at hgo
      exact hgo Fx Hx σx Rx (Same.refl _)
theorem sd_bag {X : Cx} {E : XK} {k n i : Nat} {x y : Str} {ps : List Str} {m : List D → Option (List (List D))} {e : Expr} {es : List Expr} {t : TA} {fa : EM (List D)} {body : List Stmt} {tb : TS} {fb : SM} {p p1 p2 pos : Pos} (hp : PassesOwn (model X.prog X.w) X.A X.env X.xe) (hc : X.calm = true)
    (d : DefOk X.prog X.w X.K X.mg X.base k x ps (SpB X.K n m)) (hn : ∀ ds, m ds ≠ none → ds.length = n) (hr : Room k X.A) (hg : Gl X x) (hx : Passes (L2.CX X.prog X.w) X E) (ha : AD X E (e :: es) t fa) (hN : X.N.Nodup) (hi : X.N[i]? = some y) (hy : Loc X.env.scope y) (hb : SsD X E body tb fb)
    (hf : X.fn y = true ∨ X.env.scope.names.lookup y = some .local := by first | exact .inl rfl | exact .inr rfl | assumption)
    (hdb : (x == ("__debug__" : Str)) = false := by decide) (he : starEach (e :: es) X.env = (false, eval e X.env) :: starEach es X.env := by rfl) (hpl : (backTo p2 (starEach es X.env)).any (·.1) = false := by rfl)
    (hps : ∀ {wi : TI} {g : TG}, PI X (.Name y p) (.Call (.Name x p1) (e :: es) [] p2) wi → PG X (.Name y p) g → PSs X body tb → PS X (.For (.Name y p) (.Call (.Name x p1) (e :: es) [] p2) body [] pos) (tFor wi g tb)) :
    SD X E (.For (.Name y p) (.Call (.Name x p1) (e :: es) [] p2) body [] pos) (tFor (iList X.K (tCall (SpB X.K n m) [] E t)) (gName i) tb) (sBag i m fa fb) := by
  obtain ⟨f, fd, G, hm, hk, hbd⟩ := d.ex
  exact ⟨hps (pi_list (pe_call G hr hg hm hk hbd .nil hx ha.pe hdb he hpl)) (pg_name hN hi hy hf) hb.ps, bag_dr ha.dr hn hb.dr⟩
end TW
namespace TW
open PySem PySem.Spec PyProof.Rows L2 RZ

/-! ### owned dicts whose keys are ints -/
def getD (kvs : List (Int × D)) (k : Int) : Option D := match kvs with
  | [] => none
  | (a, d) :: r => if a = k then some d else getD r k
def hasD (kvs : List (Int × D)) (k : Int) : Bool := (getD kvs k).isSome
def setD (kvs : List (Int × D)) (k : Int) (v : D) : List (Int × D) := kvs.map fun kv => if kv.1 = k then (kv.1, v) else kv
def putD (kvs : List (Int × D)) (k : Int) (v : D) : List (Int × D) := if hasD kvs k = true then setD kvs k v else kvs ++ [(k, v)]
section
variable {K : PySem.W.Frag} {F : Hp}
theorem krs_get : ∀ {ys : List (Key × V)} {kvs : List (Int × D)} {k : Int}, Krs K F ys kvs → (getD kvs k = none ∧ valV ys (.inl k) = none) ∨ ∃ d v, getD kvs k = some d ∧ valV ys (.inl k) = some v ∧ Dr K F v d
  | _, _, k, .nil => .inl ⟨rfl, rfl⟩
  | (q, w) :: ys, (a, d) :: r, k, .cons ⟨e, h⟩ t => by
    have e' : q = Sum.inl a := e
    subst e'
    by_cases z : a = k
    · subst z
      exact .inr ⟨d, w, by show (if a = a then some d else getD r a) = some d; rw [if_pos rfl], valV_pos rfl, h⟩
    · have e1 : getD ((a, d) :: r) k = getD r k := by show (if a = k then some d else getD r k) = _; rw [if_neg z]
      have e2 : valV (((Sum.inl a : Key), w) :: ys) (.inl k) = valV ys (.inl k) := valV_neg fun q => z (Sum.inl.inj q)
      rw [e1, e2]
      exact krs_get t
theorem krs_has {ys : List (Key × V)} {kvs : List (Int × D)} {k : Int} (h : Krs K F ys kvs) : (valV ys (.inl k)).isSome = hasD kvs k := by
  unfold hasD
  rcases krs_get (k := k) h with ⟨e1, e2⟩ | ⟨d, v, e1, e2, _⟩
  · rw [e1, e2]; rfl
  · rw [e1, e2]; rfl
theorem krs_set {v : V} {d : D} (hd : Dr K F v d) : ∀ {ys : List (Key × V)} {kvs : List (Int × D)} {k : Int}, Krs K F ys kvs → Krs K F (ys.map fun kv => if kv.1 = (.inl k : Key) then (kv.1, v) else kv) (setD kvs k d)
  | _, _, k, .nil => .nil
  | (q, w) :: ys, (a, e) :: r, k, .cons ⟨e1, h⟩ t => by
    have e' : q = Sum.inl a := e1
    subst e'
    show Krs K F ((if (Sum.inl a : Key) = .inl k then ((Sum.inl a : Key), v) else ((Sum.inl a : Key), w)) :: _) ((if a = k then (a, d) else (a, e)) :: setD r k d)
    by_cases z : a = k
    · rw [if_pos z, if_pos (by rw [z])]
      exact .cons ⟨rfl, hd⟩ (krs_set hd t)
    · rw [if_neg z, if_neg (fun q => z (Sum.inl.inj q))]
      exact .cons ⟨rfl, h⟩ (krs_set hd t)
theorem krs_put {v : V} {d : D} {k : Int} (hd : Dr K F v d) {ys : List (Key × V)} {kvs : List (Int × D)} (h : Krs K F ys kvs) : Krs K F (putK ys (.inl k) v) (putD kvs k d) := by
  unfold putK putD
  rw [valV_any, krs_has h]
  by_cases z : hasD kvs k = true
  · rw [if_pos z, if_pos z]; exact krs_set hd h
  · rw [if_neg z, if_neg z]; exact Paired.app h (.cons ⟨rfl, hd⟩ .nil)
theorem krs_keys : ∀ {ys : List (Key × V)} {kvs : List (Int × D)}, Krs K F ys kvs → ys.map (·.1) = (kvs.map (·.1)).map Sum.inl
  | _, _, .nil => rfl
  | (q, w) :: ys, (a, e) :: r, .cons ⟨e1, h⟩ t => by
    have e' : q = Sum.inl a := e1
    subst e'
    rw [List.map_cons, List.map_cons, List.map_cons, krs_keys t]
end
section
variable {K : PySem.W.Frag} {B : Bs} {F H : Hp} {σ : L2.St} {S : List C}
theorem Rp.setDct {a : Addr} {ys : List (Key × V)} {l : List (Int × D)} (h : Rp K B F H σ S) (i : Nat) (ha : H a = some (.dK ys)) (hF : F a = none) (hB : B.H a = none) (hl : Krs K F ys l) (hn : ∀ i, (gt S i).own = true → sg σ i ≠ some (.ref a)) : Rp K B F H (σ.set i (some (.ref a))) (st S i (.dc false l)) := by
  have own : ∀ j, j ≠ i → (gt (st S i (.dc false l)) j).own = true → (gt S j).own = true := fun j e q => by rw [gt_ne e] at q; exact q
  refine ⟨by rw [st_len, List.length_set]; exact h.len, h.sub, h.f0, h.h0, h.h1, h.m1, h.fr, fun j => ?_, fun j k b h1 h2 h3 h4 => ?_⟩
  · by_cases e : j = i
    · subst e
      by_cases hl' : j < S.length
      · rw [gt_st hl', sg_set (by rw [← h.len]; exact hl')]
        exact ⟨a, ys, rfl, hF, hB, ha, hl⟩
      · rw [gt_out (by rw [st_len]; omega)]; trivial
    · rw [gt_ne e, sg_ne e]; exact h.sl j
  · by_cases ej : j = i
    · by_cases ek : k = i
      · rw [ej, ek]
      · subst ej
        have hj : j < S.length := by
          have := gt_lt (S := st S j (.dc false l)) (i := j) (fun q => by rw [q] at h1; cases h1)
          rw [st_len] at this; exact this
        rw [sg_set (by rw [← h.len]; exact hj)] at h3
        cases h3
        rw [sg_ne ek] at h4
        exact absurd h4 (hn k (own k ek h2))
    · by_cases ek : k = i
      · subst ek
        have hj : k < S.length := by
          have := gt_lt (S := st S k (.dc false l)) (i := k) (fun q => by rw [q] at h2; cases h2)
          rw [st_len] at this; exact this
        rw [sg_set (by rw [← h.len]; exact hj)] at h4
        cases h4
        rw [sg_ne ej] at h3
        exact absurd h3 (hn j (own j ej h1))
      · rw [sg_ne ej] at h3
        rw [sg_ne ek] at h4
        exact h.nd j k b (own j ej h1) (own k ek h2) h3 h4
end
/-- x = {} -/
def sDNew (i : Nat) : SM := fun S => some (.nx (st S i (.dc false [])))
/-- a, b = e, {} -/
def sParD (i j : Nat) (f : EM D) : SM := sBind f fun d S => some (.nx (st (st S i (.vl d)) j (.dc false [])))
/-- x[k] = e -/
def sDPut' (i : Nat) (fe fk : EM D) : SM := sBind fe fun d S0 => match gt S0 i with
  | .dc _ _ => sBind fk (fun k S => match gt S i, k with
    | .dc p l, .int n => if l.length < sizeLine then some (.nx (st S i (.dc p (putD l n d)))) else none
    | _, _ => none) S0
  | _ => none
/-- x[k] -/
def eDGet (i : Nat) (fk : EM D) : EM D := fun S0 => match gt S0 i with
  | .dc _ _ => bnd fk (fun k S => match gt S i, k with
    | .dc _ l, .int n => (getD l n).map fun d => .ok d S
    | _, _ => none) S0
  | _ => none
/-- k in x, k not in x -/
def eDIn (neg : Bool) (i : Nat) (fk : EM D) : EM D := bnd fk fun k S => match gt S i, k with
  | .dc _ l, .int n => some (.ok (.bl (if neg then !hasD l n else hasD l n)) S)
  | _, _ => none
/-- x.get(k, e) -/
def eDGet2 (i : Nat) (fk fe : EM D) : EM D := fun S0 => match gt S0 i with
  | .dc _ _ => bnd fk (fun k => bnd fe fun e S => match gt S i, k with
    | .dc _ l, .int n => some (.ok ((getD l n).getD e) S)
    | _, _ => none) S0
  | _ => none
/-- sorted(x) -/
def eDSort (i : Nat) : EM D := fun S => match gt S i with
  | .dc _ l => if (l.map (·.1)).length < 64 then some (.ok (.lst ((isort (l.map (·.1))).map .int)) S) else none
  | _ => none
section
variable {X : Cx} {E : XK} {pos : Pos}
theorem dnew_dr {K : PySem.W.Frag} {mg : Str → Option Value} {i : Nat} : SDr K mg E (tAsg tDNewK (gName i)) (sDNew i) := by
  intro B F H σ S D R q p hp
  have x := Ext.newH R.sub hp (.dK [])
  obtain ⟨hB, hno⟩ := Ext.none_of (F := F) (H := H) (F' := F) (H' := H) R hp
  exact q F _ _ ((R.mv x).setDct i upd_same (R.sub.free hp) hB .nil hno) (Same.refl _)
theorem sd_dnew {i : Nat} {x : Str} {p1 p2 : Pos} (hN : X.N.Nodup) (hi : X.N[i]? = some x) (hx : Loc X.env.scope x) (hf : X.fn x = true ∨ X.env.scope.names.lookup x = some .local := by first | exact .inl rfl | exact .inr rfl | assumption) :
    SD X E (.Assign [.Name x p1] (.Dict [] [] p2) pos) (tAsg tDNewK (gName i)) (sDNew i) := ⟨ps_set hN hi hx pe_dnewK rfl hf, dnew_dr⟩
/-- by the pair's own tuple -/
theorem parD_dr {K : PySem.W.Frag} {mg : Str → Option Value} {i j : Nat} {te : TE} {f : EM D} (hij : i ≠ j) (h : EDr K mg E te f) : SDr K mg E (tAsg (tTup (tCons te (tCons tDNewK tNil))) (gTup K 2 (gCons (gName i) (gCons (gName j) gNil)))) (sParD i j f) := by
  intro B F H σ S D R q
  refine h B F H σ S _ R (PoS.bnd q fun d S1 F1 H1 R1 s1 h1 v hv => ?_)
  intro p hp
  refine ⟨by show 2 ≤ sizeLine; decide, fun t ht => ?_⟩
  have x1 := Ext.newH R1.sub hp (.dK [])
  have R2 := R1.mv x1
  have x2 := Ext.newH R2.sub ht (.tup [v, .ref p])
  have R3 := R2.mv x2
  obtain ⟨hB, hno⟩ := Ext.none_of (F := F1) (H := H1) (F' := F1) (H' := H1) R1 hp
  have ne : p ≠ t := fun e => by rw [e, upd_same] at ht; cases ht
  refine ⟨t, [v, .ref p], rfl, SqT.of upd_same, rfl, v, [.ref p], rfl, .ref p, [], rfl, rfl, ?_⟩
  refine h1 F1 _ _ ((R3.set i hv).setDct j ?_ (R1.sub.free hp) hB .nil fun k ho hs => ?_) (Same.refl _)
  · rw [upd_ne ne, upd_same]
  · by_cases ek : k = i
    · subst ek
      by_cases hk : k < S1.length
      · rw [gt_st hk] at ho; cases ho
      · rw [gt_out (by rw [st_len]; omega)] at ho; cases ho
    · rw [gt_ne ek] at ho
      rw [sg_ne ek] at hs
      exact hno k ho hs
theorem parD2_dr {K : PySem.W.Frag} {mg : Str → Option Value} {i j : Nat} {te : TE} {f : EM D} (hij : i ≠ j) (h : EDr K mg E te f) : SDr K mg E (tPar i j (tCons te (tCons tDNewK tNil))) (sParD i j f) := by
  intro B F H σ S D R q
  refine h B F H σ S _ R (PoS.bnd q fun d S1 F1 H1 R1 s1 h1 v hv => ?_)
  intro p hp
  have x1 := Ext.newH R1.sub hp (.dK [])
  have R2 := R1.mv x1
  obtain ⟨hB, hno⟩ := Ext.none_of (F := F1) (H := H1) (F' := F1) (H' := H1) R1 hp
  refine ⟨v, .ref p, rfl, h1 F1 _ _ ((R2.set i hv).setDct j upd_same (R1.sub.free hp) hB .nil fun k ho hs => ?_) (Same.refl _)⟩
  by_cases ek : k = i
  · subst ek
    by_cases hk : k < S1.length
    · rw [gt_st hk] at ho; cases ho
    · rw [gt_out (by rw [st_len]; omega)] at ho; cases ho
  · rw [gt_ne ek] at ho
    rw [sg_ne ek] at hs
    exact hno k ho hs
theorem sd_parD {i j : Nat} {x y : Str} {e : Expr} {te : TE} {f : EM D} {px py pt p2 : Pos} {kt k2 pt2} (he : ED X E e te f) (hc : X.calm = true) (hN : X.N.Nodup) (hi : X.N[i]? = some x) (hj : X.N[j]? = some y) (hij : i ≠ j) (hx : Loc X.env.scope x) (hy : Loc X.env.scope y)
    (hs1 : starEach [e, .Dict [] [] p2] X.env = (false, eval e X.env) :: starEach [.Dict [] [] p2] X.env := by rfl) (hs2 : starEach [.Dict [] [] p2] X.env = (false, eval (.Dict [] [] p2) X.env) :: starEach [] X.env := by rfl)
    (hfx : X.fn x = true ∨ X.env.scope.names.lookup x = some .local := by first | exact .inl rfl | exact .inr rfl | assumption) (hfy : X.fn y = true ∨ X.env.scope.names.lookup y = some .local := by first | exact .inl rfl | exact .inr rfl | assumption)
    (hs : swapsWithSole [.Tuple [.Name x px, .Name y py] kt pt] (.Tuple [e, .Dict [] [] p2] k2 pt2) pos.line X.env = pure false := by rfl) (hw : swappedStores [.Tuple [.Name x px, .Name y py] kt pt] (.Tuple [e, .Dict [] [] p2] k2 pt2) X.env = pure none := by rfl)
    (h1 : (assignEach [.Tuple [.Name x px, .Name y py] kt pt] X.env).map (·.2) = [assign (.Tuple [.Name x px, .Name y py] kt pt) X.env] := by rfl)
    (h2 : (assignEach [.Name x px, .Name y py] X.env).map (·.2) = assign (.Name x px) X.env :: (assignEach [.Name y py] X.env).map (·.2) := by rfl)
    (h3 : (assignEach [.Name y py] X.env).map (·.2) = assign (.Name y py) X.env :: (assignEach [] X.env).map (·.2) := by rfl)
    (h4 : (assignEach [.Name x px, .Name y py] X.env).length = 2 := by rfl) (h5 : (assignEach [.Name x px, .Name y py] X.env).findIdx? (·.1) = none := by rfl) :
    SD X E (.Assign [.Tuple [.Name x px, .Name y py] kt pt] (.Tuple [e, .Dict [] [] p2] k2 pt2) pos) (tAsg (tTup (tCons te (tCons tDNewK tNil))) (gTup X.K 2 (gCons (gName i) (gCons (gName j) gNil)))) (sParD i j f) :=
  ⟨ps_asg (pe_tup (pa_cons he.pe (pa_cons pe_dnewK pa_nil hs2) hs1)) (pg_tup hc (pgs_cons (pg_name hN hi hx hfx) (pgs_cons (pg_name hN hj hy hfy) pgs_nil h3) h2) h4 h5) hs hw h1, parD_dr hij he.dr⟩
theorem dput_dr {K : PySem.W.Frag} {mg : Str → Option Value} {i : Nat} {te tk : TE} {fe fk : EM D} (he : EDr K mg E te fe) (hk : EDr K mg E tk fk) : SDr K mg E (sDPut (tVar i) tk te) (sDPut' i fe fk) := by
  intro B F H σ S D R q
  unfold sDPut' at q
  refine he B F H σ S _ R (PoS.bnd q fun d S1 F1 H1 R1 s1 h1 v hv => ?_)
  cases e2 : gt S1 i with
  | dc p l =>
    simp only [e2] at h1
    obtain ⟨a, ys, h2, _, _, h4, _⟩ := R1.dcl e2
    refine ⟨.ref a, sg_some h2, ?_⟩
    refine hk B F1 H1 σ S1 _ R1 (PoS.bnd h1 fun k S2 F2 H2 R2 s2 h1' kv hkv => ?_)
    cases e3 : gt S2 i with
    | dc p' l' =>
      obtain ⟨a', ys', k1, k2, k3, k4, k5⟩ := R2.dcl e3
      rw [h2] at k1
      cases k1
      cases hkv with
      | int n =>
        simp only [e3] at h1'
        by_cases z : l'.length < sizeLine
        · rw [if_pos z] at h1'
          refine ⟨a, _, rfl, DPut.k (k := Sum.inl n) k4 (by rw [Paired.len k5]; exact z), ?_⟩
          exact h1' F2 _ σ (R2.put h2 (by rw [e3]; rfl) rfl ⟨a, _, rfl, k2, k3, upd_same, krs_put (hv.mono s2) k5⟩) (Same.refl _)
        · rw [if_neg z] at h1'; exact h1'.elim
      | _ => simp only [e3] at h1'; exact h1'.elim
    | _ => simp only [e3] at h1'; exact h1'.elim
  | _ => simp only [e2] at h1; exact h1.elim
theorem sd_dput {i : Nat} {x : Str} {e k : Expr} {te tk : TE} {fe fk : EM D} {p1 p2 : Pos} (hu : X.A.units + 1 < cLine) (he : ED X E e te fe) (hk : ED X E k tk fk) (hN : X.N[i]? = some x := by rfl) (hv : Vis X.env.scope x := by first | exact Or.inl rfl | exact Or.inr (Or.inl rfl) | exact Or.inr (Or.inr rfl)) (hs : swapsWith e (some (.Subscript (.Name x p1) k p2)) pos.line X.env = pure false := by rfl)
    (hd : (x == ("__debug__" : Str)) = false := by decide) (hcd : (x == ("__classdict__" : Str)) = false := by decide) :
    SD X E (.Assign [.Subscript (.Name x p1) k p2] e pos) (sDPut (tVar i) tk te) (sDPut' i fe fk) := ⟨ps_dput hu (pe_var hN hv hd hcd) hk.pe he.pe hs, dput_dr he.dr hk.dr⟩
theorem de_dget {i : Nat} {x : Str} {k : Expr} {tk : TE} {fk : EM D} {p1 : Pos} (hu : X.A.units + 1 < cLine) (hk : ED X E k tk fk) (hN : X.N[i]? = some x := by rfl) (hv : Vis X.env.scope x := by first | exact Or.inl rfl | exact Or.inr (Or.inl rfl) | exact Or.inr (Or.inr rfl)) (hs : NoSl k := by exact fun _ _ => rfl)
    (hd : (x == ("__debug__" : Str)) = false := by decide) (hcd : (x == ("__classdict__" : Str)) = false := by decide) : ED X E (.Subscript (.Name x p1) k pos) (tDGet (tVar i) tk) (eDGet i fk) := by
  refine ⟨pe_dget hu (pe_var hN hv hd hcd) hk.pe hs, fun B F H σ S Q R q => ?_⟩
  unfold eDGet at q
  cases e2 : gt S i with
  | dc p l =>
    simp only [e2] at q
    obtain ⟨a, ys, h1, _, _, h4, _⟩ := R.dcl e2
    refine ⟨.ref a, sg_some h1, ?_⟩
    refine hk.dr B F H σ S _ R (Po.thn q fun k S1 F1 H1 R1 s1 h1' kv hkv => ?_)
    cases e3 : gt S1 i with
    | dc p' l' =>
      obtain ⟨a', ys', k1, k2, k3, k4, k5⟩ := R1.dcl e3
      rw [h1] at k1
      cases k1
      cases hkv with
      | int n =>
        simp only [e3] at h1'
        rcases krs_get (k := n) k5 with ⟨g1, g2⟩ | ⟨d, v, g1, g2, g3⟩
        · rw [g1] at h1'; exact h1'.elim
        · rw [g1] at h1'
          exact ⟨a, v, rfl, by rw [← g2]; exact DGet.k (k := Sum.inl n) k4, po_at R1 h1' v g3⟩
      | _ => simp only [e3] at h1'; exact h1'.elim
    | _ => simp only [e3] at h1'; exact h1'.elim
  | _ => simp only [e2] at q; exact q.elim
theorem din_dr {K : PySem.W.Frag} {mg : Str → Option Value} {i : Nat} {tk : TE} {fk : EM D} (hk : EDr K mg E tk fk) : EDr K mg E (tDIn tk (tVar i)) (eDIn false i fk) := by
  intro B F H σ S Q R q
  refine hk B F H σ S _ R (Po.thn q fun k S1 F1 H1 R1 s1 h1' kv hkv => ?_)
  cases e3 : gt S1 i with
  | dc p' l' =>
    obtain ⟨a, ys', k1, k2, k3, k4, k5⟩ := R1.dcl e3
    cases hkv with
    | int n =>
      simp only [e3] at h1'
      refine ⟨.ref a, sg_some k1, a, _, rfl, DGet.k (k := Sum.inl n) k4, ?_⟩
      rw [krs_has k5]
      exact po_at R1 h1' _ (.bl _)
    | _ => simp only [e3] at h1'; exact h1'.elim
  | _ => simp only [e3] at h1'; exact h1'.elim
theorem dnin_dr {K : PySem.W.Frag} {mg : Str → Option Value} {i : Nat} {tk : TE} {fk : EM D} (hk : EDr K mg E tk fk) : EDr K mg E (tDNotIn tk (tVar i)) (eDIn true i fk) := by
  intro B F H σ S Q R q
  refine hk B F H σ S _ R (Po.thn q fun k S1 F1 H1 R1 s1 h1' kv hkv => ?_)
  cases e3 : gt S1 i with
  | dc p' l' =>
    obtain ⟨a, ys', k1, k2, k3, k4, k5⟩ := R1.dcl e3
    cases hkv with
    | int n =>
      simp only [e3] at h1'
      refine ⟨.ref a, sg_some k1, a, _, rfl, DGet.k (k := Sum.inl n) k4, ?_⟩
      rw [krs_has k5]
      exact po_at R1 h1' _ (.bl _)
    | _ => simp only [e3] at h1'; exact h1'.elim
  | _ => simp only [e3] at h1'; exact h1'.elim
section
variable {i : Nat} {x : Str} {k : Expr} {tk : TE} {fk : EM D} {p1 : Pos}
theorem de_din (hu : X.A.units + 1 < cLine) (hk : ED X E k tk fk) (hN : X.N[i]? = some x := by rfl) (hv : Vis X.env.scope x := by first | exact Or.inl rfl | exact Or.inr (Or.inl rfl) | exact Or.inr (Or.inr rfl)) (hm : behindInMarks .In (.Name x p1) = false := by with_unfolding_all rfl)
    (hd : (x == ("__debug__" : Str)) = false := by decide) (hcd : (x == ("__classdict__" : Str)) = false := by decide) : ED X E (.Compare k [.In] [.Name x p1] pos) (tDIn tk (tVar i)) (eDIn false i fk) := ⟨pe_cmp (pc_din hu hk.pe (pe_var hN hv hd hcd)) hm, din_dr hk.dr⟩
theorem de_dnin (hu : X.A.units + 1 < cLine) (hk : ED X E k tk fk) (hN : X.N[i]? = some x := by rfl) (hv : Vis X.env.scope x := by first | exact Or.inl rfl | exact Or.inr (Or.inl rfl) | exact Or.inr (Or.inr rfl)) (hm : behindInMarks .NotIn (.Name x p1) = false := by with_unfolding_all rfl)
    (hd : (x == ("__debug__" : Str)) = false := by decide) (hcd : (x == ("__classdict__" : Str)) = false := by decide) : ED X E (.Compare k [.NotIn] [.Name x p1] pos) (tDNotIn tk (tVar i)) (eDIn true i fk) := ⟨pe_cmp (pc_dnotin hu hk.pe (pe_var hN hv hd hcd)) hm, dnin_dr hk.dr⟩
theorem td_din (hu : X.A.units + 1 < cLine) (hk : ED X E k tk fk) (hN : X.N[i]? = some x := by rfl) (hv : Vis X.env.scope x := by first | exact Or.inl rfl | exact Or.inr (Or.inl rfl) | exact Or.inr (Or.inr rfl)) (hm : behindInMarks .In (.Name x p1) = false := by with_unfolding_all rfl)
    (hd : (x == ("__debug__" : Str)) = false := by decide) (hcd : (x == ("__classdict__" : Str)) = false := by decide) : TD X E (.Compare k [.In] [.Name x p1] pos) (tB (tDIn tk (tVar i))) (eB (eDIn false i fk)) := ⟨pt_cmp (pc_din hu hk.pe (pe_var hN hv hd hcd)) hm, tdr_b (din_dr hk.dr)⟩
theorem td_dnin (hu : X.A.units + 1 < cLine) (hk : ED X E k tk fk) (hN : X.N[i]? = some x := by rfl) (hv : Vis X.env.scope x := by first | exact Or.inl rfl | exact Or.inr (Or.inl rfl) | exact Or.inr (Or.inr rfl)) (hm : behindInMarks .NotIn (.Name x p1) = false := by with_unfolding_all rfl)
    (hd : (x == ("__debug__" : Str)) = false := by decide) (hcd : (x == ("__classdict__" : Str)) = false := by decide) : TD X E (.Compare k [.NotIn] [.Name x p1] pos) (tB (tDNotIn tk (tVar i))) (eB (eDIn true i fk)) := ⟨pt_cmp (pc_dnotin hu hk.pe (pe_var hN hv hd hcd)) hm, tdr_b (dnin_dr hk.dr)⟩
end
def kSortD : List V → Hp → VK → Prop := fun xs H Q => ∃ (a : Addr) (kvs : List (Key × V)) (ks : List Int), xs = [.ref a] ∧ Rd H a (.dK kvs) ∧ kvs.map (·.1) = ks.map Sum.inl ∧ ks.length < 64 ∧
    ∀ (ys : List Int) (p : Addr), ys.Perm ks → ys.Pairwise (· ≤ ·) → H p = none → Q (.ref p) (upd H p (.lst (ys.map V.int)))
theorem de_dsort {i : Nat} {x : Str} {p p1 : Pos} (hc : X.calm = true) (hg : Gl X "sorted") (hm : X.mg "sorted" = none) (hv0 : bootBuiltins "sorted" = some (.builtin "sorted")) (hN : X.N[i]? = some x := by rfl) (hv : Vis X.env.scope x := by first | exact Or.inl rfl | exact Or.inr (Or.inl rfl) | exact Or.inr (Or.inr rfl))
    (hd : (x == ("__debug__" : Str)) = false := by decide) (hcd : (x == ("__classdict__" : Str)) = false := by decide) (he : starEach [.Name x p1] X.env = (false, eval (.Name x p1) X.env) :: starEach [] X.env := by rfl) (hpl : (backTo pos (starEach [] X.env)).any (·.1) = false := by rfl) :
    ED X E (.Call (.Name "sorted" p) [.Name x p1] [] pos) (tCB kSortD (tCons (tVar i) tNil)) (eDSort i) := by
  refine ⟨pe_callB (r := kSortD) (call_sortedDI hc) hg hm hv0 (pa_cons (pe_var hN hv hd hcd) pa_nil he) (by decide) (by decide) he hpl, fun B F H σ S Q R q => ?_⟩
  unfold eDSort at q
  cases e2 : gt S i with
  | dc p l =>
    simp only [e2] at q
    obtain ⟨a, ys, h1, h2, h3, h4, h5⟩ := R.dcl e2
    by_cases z : (l.map (·.1)).length < 64
    · rw [if_pos z] at q
      refine ⟨.ref a, sg_some h1, a, ys, l.map (·.1), rfl, .inl h4, krs_keys h5, z, fun ns p hp hs hn => ?_⟩
      have e2 : ns = isort (l.map (·.1)) := sorted_unique (hp.trans (isort_perm _).symm) hs (isort_sorted _)
      subst e2
      have x := Ext.new R.sub hn (.lst ((isort (l.map (·.1))).map V.int))
      exact q _ _ (R.mv x) x.f _ (.lst upd_same (DrL.of Drs.ofInts))
    · rw [if_neg z] at q; exact q.elim
  | _ => simp only [e2] at q; exact q.elim
theorem de_dget2 {i : Nat} {x : Str} {k e : Expr} {tk te : TE} {fk fe : EM D} {p1 apos : Pos} (hu : X.A.units + 1 < cLine) (hk : ED X E k tk fk) (he : ED X E e te fe) (m : M2 X (.Name x p1) "get" apos k e pos) (hN : X.N[i]? = some x := by rfl) (hv : Vis X.env.scope x := by first | exact Or.inl rfl | exact Or.inr (Or.inl rfl) | exact Or.inr (Or.inr rfl))
    (hd : (x == ("__debug__" : Str)) = false := by decide) (hcd : (x == ("__classdict__" : Str)) = false := by decide) : ED X E (.Call (.Attribute (.Name x p1) "get" apos) [k, e] [] pos) (tDGet2 (tVar i) tk te) (eDGet2 i fk fe) := by
  refine ⟨pe_dget2 hu (pe_var hN hv hd hcd) hk.pe he.pe m, fun B F H σ S Q R q => ?_⟩
  unfold eDGet2 at q
  cases e2 : gt S i with
  | dc p l =>
    simp only [e2] at q
    obtain ⟨a, ys, h1, _, _, h4, _⟩ := R.dcl e2
    refine ⟨.ref a, sg_some h1, a, rfl, .inl ⟨ys, .inl h4⟩, ?_⟩
    refine hk.dr B F H σ S _ R (Po.thn q fun k S1 F1 H1 R1 s1 h1' kv hkv => ?_)
    refine he.dr B F1 H1 σ S1 _ R1 (Po.thn h1' fun e S2 F2 H2 R2 s2 h2' ev hev => ?_)
    cases e3 : gt S2 i with
    | dc p' l' =>
      obtain ⟨a', ys', k1, k2, k3, k4, k5⟩ := R2.dcl e3
      rw [h1] at k1
      cases k1
      cases hkv with
      | int n =>
        simp only [e3] at h2'
        refine ⟨_, DGet.k (k := Sum.inl n) k4, ?_⟩
        rcases krs_get (k := n) k5 with ⟨g1, g2⟩ | ⟨d, v, g1, g2, g3⟩
        · rw [g1] at h2'; rw [g2]; exact po_at R2 h2' _ hev
        · rw [g1] at h2'; rw [g2]; exact po_at R2 h2' _ g3
      | _ => simp only [e3] at h2'; exact h2'.elim
    | _ => simp only [e3] at h2'; exact h2'.elim
  | _ => simp only [e2] at q; exact q.elim
end
end TW
namespace TW
open PySem PySem.Spec PyProof.Rows L2 RZ

abbrev sNever : SM := fun _ => none
/-- a def of the text, as the top left it -/
structure At (K : PySem.W.Frag) (mg : Str → Option Value) (x : Str) (st : Stmt) : Prop where
  ex : ∃ f fd, Fun K x x st f fd ∧ mg x = some (.ref f)
/-- the law itself: it answers True -/
def spLaw (K : PySem.W.Frag) : Sp := fun vs H Q _ => ∃ (a : Addr) (ns : List Int), vs = [.ref a] ∧ SqL K H a (ns.map V.int) ∧ ns.length ≤ 63 ∧ ∀ H', Q (.bl true) H'
theorem law_imp {P : Program} {w : World} {K : PySem.W.Frag} {mg : Str → Option Value} {base : Heap} {k : Nat} {f : Addr} {fd : FuncData} {m : List D → Option Cr} (F : FnOk P w K mg base (L2.CX P w) k f fd ["script"] (Sp0 K mg 1 m))
    (plain : ∀ ns : List Int, ns.length ≤ 63 → m [.scr ns] = some (.rt (.bl true))) : FnOk P w K mg base (L2.CX P w) k f fd ["script"] (spLaw K) := F.imp fun vs H Q E h => by
  obtain ⟨a, ns, rfl, hS, hl, q⟩ := h
  refine ⟨rfl, H, [.scr ns], Same.refl _, .cons (.scr hS) .nil, ?_⟩
  rw [plain ns hl]
  intro F' H' v _ hv
  cases hv with
  | bl b => exact q H'
theorem cx_false {l : PySem.W.OpenLaw} : ∀ (w : World) (H : Hp) (s : Shared) (e : Value) (s' : Shared), L2.CX l.prog w [] H s (fun _ _ _ => False) e s' → False := fun _ _ _ _ _ ⟨_, _, _, _, _, _, _, _, _, _, _, _, z⟩ => z
/-- built-ins' names that the module leaves alone -/
structure Blt (mg : Str → Option Value) : Prop where
  len : mg "len" = none
  isinstance : mg "isinstance" = none
  all : mg "all" = none
  max : mg "max" = none
  min : mg "min" = none
  sum : mg "sum" = none
  sorted : mg "sorted" = none
  set : mg "set" = none
  tuple : mg "tuple" = none
  list : mg "list" = none
  dict : mg "dict" = none
  range : mg "range" = none
  zip : mg "zip" = none
  enumerate : mg "enumerate" = none
  int : mg "int" = none
  bool : mg "bool" = none
  str : mg "str" = none
theorem bb_isinstance : bootBuiltins "isinstance" = some (.builtin "isinstance") := by decide +kernel
theorem bb_len : bootBuiltins "len" = some (.builtin "len") := by decide +kernel
theorem bb_all : bootBuiltins "all" = some (.builtin "all") := by decide +kernel
theorem bb_max : bootBuiltins "max" = some (.builtin "max") := by decide +kernel
theorem bb_min : bootBuiltins "min" = some (.builtin "min") := by decide +kernel
theorem bb_sum : bootBuiltins "sum" = some (.builtin "sum") := by decide +kernel
theorem bb_sorted : bootBuiltins "sorted" = some (.builtin "sorted") := by decide +kernel
theorem bb_set : bootBuiltins "set" = some (.type "set") := by decide +kernel
theorem bb_tuple : bootBuiltins "tuple" = some (.type "tuple") := by decide +kernel
theorem bb_list : bootBuiltins "list" = some (.type "list") := by decide +kernel
theorem bb_int : bootBuiltins "int" = some (.type "int") := by decide +kernel
theorem bb_bool : bootBuiltins "bool" = some (.type "bool") := by decide +kernel
theorem bb_str : bootBuiltins "str" = some (.type "str") := by decide +kernel
/-- a promise that asks for what cannot be -/
theorem okZ {P : Program} {w : World} {K : PySem.W.Frag} {mg : Str → Option Value} {base : Heap} {x qual : Str} {st : Stmt} {f : Addr} {fd : FuncData} {ps : List Str} {n : Nat} {m : List D → Option Cr} (F : Fun K x qual st f fd) (hm : mg x = some (.ref f)) (hbd : Binds K fd ps [])
    (hn : ps.length = n := by rfl) (hz : ∀ ds, m ds = none := by exact fun _ => rfl) : DefOk P w K mg base 0 x ps (Sp0 K mg n m) :=
  ⟨f, fd, ⟨fun vs H Q E h => by rw [hn]; exact h.1, fun A outer s H args us vs Q E _ _ _ _ h => by
    obtain ⟨_, F0, ds, _, _, h⟩ := h
    rw [hz ds] at h
    exact h.elim⟩, hm, F.kp, hbd⟩
section
variable {X : Cx} {E : XK} {pos : Pos}
theorem sd_for' {tg iter : Expr} {body : List Stmt} {wi : TI} {g : TG} {tb : TS} {fi : EM (List D)} {gd : GF} {ix : List Nat} {fb : SM} (hp : PassesOwn (model X.prog X.w) X.A X.env X.xe) (hc : X.calm = true) (hi : ID X E tg iter wi fi) (hg : GD X tg g gd ix) (hb : SsD X E body tb fb) :
    SD X E (.For tg iter body [] pos) (tFor wi g tb) (sFor fi gd fb) := ⟨ps_for hp hc hi.pi hg.pg hb.ps hi.hs, for_dr hi.dr hg.dr hb.dr⟩
theorem sd_bag' {k n i : Nat} {x y : Str} {ps : List Str} {m : List D → Option (List (List D))} {e : Expr} {es : List Expr} {t : TA} {fa : EM (List D)} {body : List Stmt} {tb : TS} {fb : SM} {p p1 p2 : Pos} (hp : PassesOwn (model X.prog X.w) X.A X.env X.xe) (hc : X.calm = true)
    (d : DefOk X.prog X.w X.K X.mg X.base k x ps (SpB X.K n m)) (hn : ∀ ds, m ds ≠ none → ds.length = n) (hr : Room k X.A) (hg : Gl X x) (hx : Passes (L2.CX X.prog X.w) X E) (ha : AD X E (e :: es) t fa) (hN : X.N.Nodup) (hi : X.N[i]? = some y) (hy : Loc X.env.scope y) (hb : SsD X E body tb fb)
    (hs : ∀ z, foldedSetIterable (.Call (.Name x p1) (e :: es) [] p2) X.env z = pure z := by intro _; rfl)
    (hf : X.fn y = true ∨ X.env.scope.names.lookup y = some .local := by first | exact .inl rfl | exact .inr rfl | assumption)
    (hdb : (x == ("__debug__" : Str)) = false := by decide) (he : starEach (e :: es) X.env = (false, eval e X.env) :: starEach es X.env := by rfl) (hpl : (backTo p2 (starEach es X.env)).any (·.1) = false := by rfl) :
    SD X E (.For (.Name y p) (.Call (.Name x p1) (e :: es) [] p2) body [] pos) (tFor (iList X.K (tCall (SpB X.K n m) [] E t)) (gName i) tb) (sBag i m fa fb) :=
  sd_bag hp hc d hn hr hg hx ha hN hi hy hb hf hdb he hpl fun h1 h2 h3 => ps_for hp hc h1 h2 h3 hs
theorem sd_appN {i : Nat} {x : Str} {e : Expr} {te : TE} {f : EM D} {p1 apos cpos : Pos} (he : ED X E e te f) (hN : X.N[i]? = some x := by rfl) (hv : Vis X.env.scope x := by first | exact Or.inl rfl | exact Or.inr (Or.inl rfl) | exact Or.inr (Or.inr rfl)) (hd : (x == ("__debug__" : Str)) = false := by decide)
    (hcd : (x == ("__classdict__" : Str)) = false := by decide)
    (hp : PE X (.Name x p1) (tVar i) → PE X e te → PS X (.Expr (.Call (.Attribute (.Name x p1) "append" apos) [e] [] cpos) pos) (tDrop (tBM X.K "list" rAppend (tVar i) (tCons te tNil)))) :
    SD X E (.Expr (.Call (.Attribute (.Name x p1) "append" apos) [e] [] cpos) pos) (tDrop (tBM X.K "list" rAppend (tVar i) (tCons te tNil))) (sApp i f) := sd_app he (hp (pe_var hN hv hd hcd) he.pe)
theorem sd_putN {i : Nat} {x : Str} {e k : Expr} {te tk : TE} {fe fk : EM D} {p1 p2 : Pos} (he : ED X E e te fe) (hk : ED X E k tk fk) (hN : X.N[i]? = some x := by rfl) (hv : Vis X.env.scope x := by first | exact Or.inl rfl | exact Or.inr (Or.inl rfl) | exact Or.inr (Or.inr rfl)) (hd : (x == ("__debug__" : Str)) = false := by decide)
    (hcd : (x == ("__classdict__" : Str)) = false := by decide)
    (hp : PE X e te → PE X (.Name x p1) (tVar i) → PE X k tk → PS X (.Assign [.Subscript (.Name x p1) k p2] e pos) (tAsg te (gSub (tVar i) tk rSetL))) :
    SD X E (.Assign [.Subscript (.Name x p1) k p2] e pos) (tAsg te (gSub (tVar i) tk rSetL)) (sPut i fe fk) := sd_put he hk (hp he.pe (pe_var hN hv hd hcd) hk.pe)
theorem fd_lcN {elt tg iter : Expr} {ifs : List Expr} {scope : Scope} {p1 : Pos} {wi : TI} {g : TG} {tt : TT} {te : TE} {ix : List Nat} {fi : EM (List D)} {gd : GF} {ft : EM Bool} {fe : EM D} (N : List Str) (sc : Scope) (own : List (Str × Nat)) (hi : ID X E tg iter wi fi) (hc : X.calm = true) (hN : X.N.Nodup)
    (ok : blkC N sc scope own = true)
    (hg : ∀ (s : Shared) (H : Hp) (C : Addr) (cl : List (Str × Addr)) (fp : List Addr), GD (X.blk s H scope (compEnvC scope cl C X.env) fp) tg g gd ix)
    (ht : ∀ (s : Shared) (H : Hp) (C : Addr) (cl : List (Str × Addr)) (fp : List Addr), TsD (X.blk s H scope (compEnvC scope cl C X.env) fp) E0 ifs tt ft)
    (he : ∀ (s : Shared) (H : Hp) (C : Addr) (cl : List (Str × Addr)) (fp : List Addr), ED (X.blk s H scope (compEnvC scope cl C X.env) fp) E0 elt te fe)
    (hNN : X.N = N := by rfl) (hsc : X.env.scope = sc := by rfl) (hix : ∀ i ∈ ix, i ∈ own.map (·.2) := by decide) : FD X E (.ListComp elt [⟨tg, iter, ifs, 0⟩] scope p1) (tLc wi g tt te (own.map (·.2))) (lcF (own.map (·.2)) fi gd ft fe) :=
  fd_lc hc hN hi (by rw [hNN, hsc]; exact ok) hg ht he hix
theorem de_lcN {elt tg iter : Expr} {ifs : List Expr} {scope : Scope} {p1 : Pos} {wi : TI} {g : TG} {tt : TT} {te : TE} {ix : List Nat} {fi : EM (List D)} {gd : GF} {ft : EM Bool} {fe : EM D} (N : List Str) (sc : Scope) (own : List (Str × Nat)) (hi : ID X E tg iter wi fi) (hc : X.calm = true) (hN : X.N.Nodup)
    (ok : blkC N sc scope own = true)
    (hg : ∀ (s : Shared) (H : Hp) (C : Addr) (cl : List (Str × Addr)) (fp : List Addr), GD (X.blk s H scope (compEnvC scope cl C X.env) fp) tg g gd ix)
    (ht : ∀ (s : Shared) (H : Hp) (C : Addr) (cl : List (Str × Addr)) (fp : List Addr), TsD (X.blk s H scope (compEnvC scope cl C X.env) fp) E0 ifs tt ft)
    (he : ∀ (s : Shared) (H : Hp) (C : Addr) (cl : List (Str × Addr)) (fp : List Addr), ED (X.blk s H scope (compEnvC scope cl C X.env) fp) E0 elt te fe)
    (hNN : X.N = N := by rfl) (hsc : X.env.scope = sc := by rfl) (hix : ∀ i ∈ ix, i ∈ own.map (·.2) := by decide) : ED X E (.ListComp elt [⟨tg, iter, ifs, 0⟩] scope p1) (tLc wi g tt te (own.map (·.2))) (lcE (own.map (·.2)) fi gd ft fe) :=
  (fd_lc hc hN hi (by rw [hNN, hsc]; exact ok) hg ht he hix).e
theorem bd_lcN {elt tg iter : Expr} {scope : Scope} {pos : Pos} {wi : TI} {g : TG} {te : TE} {ix : List Nat} {fi : EM (List D)} {gd : GF} {fe : EM (List D)} (N : List Str) (sc : Scope) (own : List (Str × Nat)) (hi : ID X E tg iter wi fi) (hc : X.calm = true) (hN : X.N.Nodup)
    (ok : blkC N sc scope own = true)
    (hg : ∀ (s : Shared) (H : Hp) (C : Addr) (cl : List (Str × Addr)) (fp : List Addr), GD (X.blk s H scope (compEnvC scope cl C X.env) fp) tg g gd ix)
    (he : ∀ (s : Shared) (H : Hp) (C : Addr) (cl : List (Str × Addr)) (fp : List Addr), FD (X.blk s H scope (compEnvC scope cl C X.env) fp) E0 elt te fe)
    (hNN : X.N = N := by rfl) (hsc : X.env.scope = sc := by rfl) (hix : ∀ i ∈ ix, i ∈ own.map (·.2) := by decide) : BD X E (.ListComp elt [⟨tg, iter, [], 0⟩] scope pos) (tLc wi g tYes te (own.map (·.2))) (lbF (own.map (·.2)) fi gd fe) :=
  bd_lc hc hN hi (by rw [hNN, hsc]; exact ok) hg he hix
/-- y = [..], the name a plain local -/
theorem sd_setLcA {elt tg iter : Expr} {ifs : List Expr} {scope : Scope} {p1 spos : Pos} {wi : TI} {g : TG} {tt : TT} {te : TE} {ix : List Nat} {fi : EM (List D)} {gd : GF} {ft : EM Bool} {fe : EM D} {i : Nat} {y : Str} {py : Pos} (N : List Str) (sc : Scope) (own : List (Str × Nat)) (hi : ID X E tg iter wi fi) (hc : X.calm = true) (hN : X.N.Nodup)
    (ok : blkC N sc scope own = true)
    (hg : ∀ (s : Shared) (H : Hp) (C : Addr) (cl : List (Str × Addr)) (fp : List Addr), GD (X.blk s H scope (compEnvC scope cl C X.env) fp) tg g gd ix)
    (ht : ∀ (s : Shared) (H : Hp) (C : Addr) (cl : List (Str × Addr)) (fp : List Addr), TsD (X.blk s H scope (compEnvC scope cl C X.env) fp) E0 ifs tt ft)
    (he : ∀ (s : Shared) (H : Hp) (C : Addr) (cl : List (Str × Addr)) (fp : List Addr), ED (X.blk s H scope (compEnvC scope cl C X.env) fp) E0 elt te fe)
    (hy : X.N[i]? = some y) (hyl : X.env.scope.names.lookup y = some .local) (hsw : swapsWith (.ListComp elt [⟨tg, iter, ifs, 0⟩] scope p1) (some (.Name y py)) spos.line X.env = pure true) (hNN : X.N = N := by rfl) (hsc : X.env.scope = sc := by rfl) (hix : ∀ i ∈ ix, i ∈ own.map (·.2) := by decide) :
    SD X E (.Assign [.Name y py] (.ListComp elt [⟨tg, iter, ifs, 0⟩] scope p1) spos) (tAsg (tLc wi g tt te (own.map (·.2))) (gName i)) (sAsg (lcE (own.map (·.2)) fi gd ft fe) (gN i)) :=
  sd_setLc (fd_lc hc hN hi (by rw [hNN, hsc]; exact ok) hg ht he hix) (ps_setLc hc hN hy hyl hsw hi.pi (blkOk_by (by rw [hNN, hsc]; exact ok)) (fun s H C cl fp => (hg s H C cl fp).pg) (fun s H C cl fp => (ht s H C cl fp).pe) (fun s H C cl fp => (he s H C cl fp).pe) hi.hs)
theorem clsv_all : ∀ Ts : List Ty5, Paired ClsV (Ts.map fun T => V.ty T.nm) (Ts.map fun T => Value.type T.nm)
  | [] => .nil
  | T :: r => .cons (.ty _) (clsv_all r)
theorem de_isiA {Ts : List Ty5} {e : Expr} {te : TE} {f : EM D} {es : List Expr} {x1 : Nat} {p p1 pos : Pos} (he : ED X E e te f) (hT : Ts ≠ []) (ht : PA X es (tTys Ts)) (hz : Ts.length ≤ sizeLine) (hg : Gl X "isinstance") (hm : X.mg "isinstance" = none) (hv : bootBuiltins "isinstance" = some (.builtin "isinstance"))
    (s1 : starEach [e, .Tuple es x1 p1] X.env = (false, eval e X.env) :: starEach [.Tuple es x1 p1] X.env := by rfl) (s2 : starEach [.Tuple es x1 p1] X.env = (false, eval (.Tuple es x1 p1) X.env) :: starEach [] X.env := by rfl)
    (hpl : (backTo pos (starEach [.Tuple es x1 p1] X.env)).any (·.1) = false := by rfl) {K : PySem.W.Frag} (hK : X.K = K := by rfl) :
    ED X E (.Call (.Name "isinstance" p) [e, .Tuple es x1 p1] [] pos) (tCB (rIsiT K) (tCons te (tCons (tTup (tTys Ts)) tNil))) (eIsiA Ts f) := by
  subst hK
  refine ⟨pe_callB call_isiT hg hm hv (pa_cons he.pe (pa_cons (pe_tup ht) pa_nil s2) s1) (by decide) (by decide) s1 hpl, fun B F H σ S Q R h => ?_⟩
  refine he.dr B F H σ S _ R (Po.thn h fun d S1 F1 H1 R1 z1 h1 v hv => ?_)
  refine tTys_run ⟨by rw [List.length_map]; exact hz, fun t ht => ?_⟩
  cases q : instA Ts d with
  | none => rw [q] at h1; exact h1.elim
  | some b =>
    rw [q] at h1
    obtain ⟨n, hn⟩ := instA_ty X.K q hT
    have x := Ext.new R1.sub ht (.tup (Ts.map fun T => V.ty T.nm))
    exact ⟨v, t, Ts.map fun T => V.ty T.nm, .type n, Ts.map fun T => .type T.nm, b, rfl, upd_same, clsv_all Ts, tyx_of x.s (hv.mono x.f) hn, kitA X.K hn Ts b q, h1 _ _ (R1.mv x) x.f _ (.bl b)⟩
end
end TW
namespace TW
open PySem PySem.Spec PyProof.Rows L2

/-! ### comprehensions with two clauses -/
theorem wipe_at (τ : L2.St) (n : Nat) : ∀ vs : List Nat, (L2.wipe τ vs)[n]? = if n ∈ vs then τ[n]?.map (fun _ => none) else τ[n]?
  | [] => by simp [L2.wipe]
  | k :: t => by
    show ((L2.wipe τ t).set k none)[n]? = _
    have ih := wipe_at τ n t
    by_cases e : k = n
    · subst e
      rw [if_pos List.mem_cons_self]
      by_cases h : k < τ.length
      · rw [List.getElem?_set_self (by rw [wipe_length]; exact h), List.getElem?_eq_getElem h]; rfl
      · rw [List.getElem?_eq_none (by rw [List.length_set, wipe_length]; omega), List.getElem?_eq_none (by omega)]; rfl
    · rw [List.getElem?_set_ne e, ih]
      by_cases h : n ∈ t
      · rw [if_pos h, if_pos (List.mem_cons_of_mem _ h)]
      · rw [if_neg h, if_neg (by intro q; rcases List.mem_cons.mp q with q | q; exact e q.symm; exact h q)]
theorem wipe_sub {τ : L2.St} {vs1 vs : List Nat} (h : ∀ i ∈ vs1, i ∈ vs) : L2.wipe (L2.wipe τ vs1) vs = L2.wipe τ vs := by
  apply List.ext_getElem?
  intro n
  rw [wipe_at, wipe_at, wipe_at]
  by_cases q : n ∈ vs
  · rw [if_pos q, if_pos q]
    by_cases q1 : n ∈ vs1
    · rw [if_pos q1]; cases τ[n]? <;> rfl
    · rw [if_neg q1]
  · rw [if_neg q, if_neg q, if_neg fun m => q (h n m)]
theorem wipe_self {τ σ : L2.St} {vs ix : List Nat} (hw : ∀ vs', (∀ i ∈ ix, i ∈ vs') → L2.wipe τ vs' = L2.wipe (L2.wipe σ vs) vs') (hix : ∀ i ∈ ix, i ∈ vs) : L2.wipe τ vs = L2.wipe σ vs := by
  rw [hw vs hix, wipe_sub fun _ h => h]
def lc2Go (vs vs1 : List Nat) (g : GF) (tt : EM Bool) (fi1 : EM (List D)) (g1 : GF) (tt1 : EM Bool) (te : EM D) : List D → List D → List C → Option (List D × List C)
  | [], acc, S => some (acc, S)
  | x :: r, acc, S => match g x S with
    | none => none
    | some S2 => match tt S2 with
      | some (.ok true S3) => match fi1 S3 with
        | some (.ok ds1 S4) => match lcGo vs1 g1 tt1 te ds1 acc (wp S4 vs1) with
          | some (acc', S5) => lc2Go vs vs1 g tt fi1 g1 tt1 te r acc' (wp S5 vs)
          | none => none
        | _ => none
      | some (.ok false S3) => lc2Go vs vs1 g tt fi1 g1 tt1 te r acc (wp S3 vs)
      | _ => none
def lc2F (vs vs1 : List Nat) (fi : EM (List D)) (g : GF) (tt : EM Bool) (fi1 : EM (List D)) (g1 : GF) (tt1 : EM Bool) (te : EM D) : EM (List D) := bnd fi fun ds S1 =>
  match lc2Go vs vs1 g tt fi1 g1 tt1 te ds [] (wp S1 vs) with
  | some (ys, S2) => if ys.length ≤ sizeLine then some (.ok ys (rs S1 vs S2)) else none
  | none => none
theorem lcGo_len {vs : List Nat} {g : GF} {tt : EM Bool} {te : EM D} : ∀ {l acc ys : List D} {S S' : List C}, lcGo vs g tt te l acc S = some (ys, S') → acc.length ≤ ys.length
  | [], acc, ys, S, S', h => by unfold lcGo at h; cases h; exact Nat.le_refl _
  | x :: r, acc, ys, S, S', h => by
    unfold lcGo at h
    split at h
    · cases h
    · split at h
      · split at h
        · have := lcGo_len h; rw [List.length_append, List.length_singleton] at this; omega
        · cases h
      · exact lcGo_len h
      · cases h
theorem lc2Go_len {vs vs1 : List Nat} {g : GF} {tt : EM Bool} {fi1 : EM (List D)} {g1 : GF} {tt1 : EM Bool} {te : EM D} : ∀ {l acc ys : List D} {S S' : List C}, lc2Go vs vs1 g tt fi1 g1 tt1 te l acc S = some (ys, S') → acc.length ≤ ys.length
  | [], acc, ys, S, S', h => by unfold lc2Go at h; cases h; exact Nat.le_refl _
  | x :: r, acc, ys, S, S', h => by
    unfold lc2Go at h
    split at h
    · cases h
    · split at h
      · split at h
        · split at h
          · rename_i e; exact Nat.le_trans (lcGo_len e) (lc2Go_len h)
          · cases h
        · cases h
      · exact lc2Go_len h
      · cases h
theorem lc2_dr {K : PySem.W.Frag} {mg : Str → Option Value} {E : XK} {wi wi1 : TI} {g g1 : TG} {tt tt1 : TT} {te : TE} {vs vs1 ix ix1 : List Nat} {fi fi1 : EM (List D)} {gd gd1 : GF} {ft ft1 : EM Bool} {fe : EM D} (hi : IDr K mg E wi fi) (hg : GDr K g gd ix) (ht : TDr K mg E0 tt ft)
    (hi1 : IDr K mg E0 wi1 fi1) (hg1 : GDr K g1 gd1 ix1) (ht1 : TDr K mg E0 tt1 ft1) (he : EDr K mg E0 te fe) (hix : ∀ i ∈ ix, i ∈ vs) (hix1 : ∀ i ∈ ix1, i ∈ vs1) (hvs : ∀ i ∈ vs1, i ∈ vs) :
    FDr K mg E (tLc2 wi g tt wi1 g1 tt1 te vs vs1) (lc2F vs vs1 fi gd ft fi1 gd1 ft1 fe) := by
  intro B F H σ S Q R q
  refine hi B F H σ S _ R (Po.thn q fun ds S1 F1 H1 R1 s1 h1 J hJ => ?_)
  intro D hD
  cases e : lc2Go vs vs1 gd ft fi1 gd1 ft1 fe ds [] (wp S1 vs) with
  | none => rw [e] at h1; exact h1.elim
  | some p =>
    obtain ⟨ys, S2⟩ := p
    rw [e] at h1
    by_cases z : ys.length ≤ sizeLine
    case neg =>
      have : False := by simp only [if_neg z] at h1; exact h1
      exact this.elim
    simp only [if_pos z] at h1
    have hM : B.M ≠ some D := fun x => R1.h1 D (R1.m1 D x) hD
    have hB : B.H D = none := by
      cases q : B.H D with
      | none => rfl
      | some o => exact absurd hD (R1.h1 D (by rw [q]; simp))
    have hF1 : F1 D = none := R1.sub.free hD
    have keep : ∀ {F' H' σ' S' xs}, Rp K (B.acc D xs) F' H' σ' S' → F' D = none := fun {F' H' σ' S' xs} R => R.fr D (by show (upd B.H D (.lst xs)) D ≠ none; rw [upd_same]; simp) (by
      show B.F D = none
      cases q : B.F D with
      | none => rfl
      | some o => exact absurd (R1.f0 D o q) (by rw [hF1]; simp))
    refine ⟨fun i m Hx => ∃ Fx Sx acc xs, i + m = ds.length ∧ Same F1 Fx ∧ Rp K (B.acc D xs) Fx Hx (L2.wipe σ vs) Sx ∧ Fx D = none ∧ Drs K Fx xs acc ∧ lc2Go vs vs1 gd ft fi1 gd1 ft1 fe (ds.drop i) acc Sx = some (ys, S2),
      ⟨ds.length, F1, wp S1 vs, [], [], Nat.zero_add _, Same.refl _, (R1.wipe vs).toAcc hD, hF1, .nil, e⟩, fun i m Hx hW => ?_⟩
    obtain ⟨Fx, Sx, acc, xs, em, sx, Rx, hFx, hacc, hgo⟩ := hW
    obtain ⟨jst, jgo⟩ := hJ i Fx Hx sx Rx.sub
    by_cases hi' : i < ds.length
    · refine .inr ?_
      obtain ⟨j1, j2⟩ := jgo hi'
      refine ⟨j1, fun Hy => ∃ Fy Sy acc xs, i + 1 + (m - 1) = ds.length ∧ Same F1 Fy ∧ Rp K (B.acc D xs) Fy Hy (L2.wipe σ vs) Sy ∧ Fy D = none ∧ Drs K Fy xs acc ∧ lc2Go vs vs1 gd ft fi1 gd1 ft1 fe (ds.drop (i + 1)) acc Sy = some (ys, S2), fun Hy hy => ⟨m - 1, by omega, hy⟩, fun x Hy hy => ?_⟩
      obtain ⟨F2, d, hd1, hd2, hd3⟩ := j2 x Hy hy
      have dr := drop_one hd1
      rw [dr] at hgo
      unfold lc2Go at hgo
      have Ry := Rx.mv hd2
      have hD2 : Hx D = some (.lst xs) := Rx.accIs hM
      have hF2 : F2 D = none := hd2.n D (by rw [hD2]; simp) hFx
      cases e2 : gd d Sx with
      | none => rw [e2] at hgo; cases hgo
      | some S3 =>
        simp only [e2] at hgo
        refine hg (B.acc D xs) F2 Hy (L2.wipe σ vs) Sx x d S3 _ Ry hd3 e2 fun σ' R3 hw => ?_
        have hw2 : L2.wipe σ' vs = L2.wipe σ vs := wipe_self hw hix
        refine ⟨hw2, ?_⟩
        cases e3 : ft S3 with
        | none => rw [e3] at hgo; cases hgo
        | some rr =>
          cases rr with
          | er c p => rw [e3] at hgo; cases hgo
          | ok b S4 =>
            refine ht (B.acc D xs) F2 Hy σ' S3 _ R3 ?_
            rw [e3]
            intro F3 H3 R4 s4
            have hF3 : F3 D = none := keep R4
            cases b with
            | false =>
              simp only [e3] at hgo
              rw [if_neg Bool.false_ne_true]
              exact ⟨F3, wp S4 vs, acc, xs, by omega, sx.trans (hd2.f.trans s4), R4.wiped hw2, hF3, Drs.mono (hd2.f.trans s4) hacc, hgo⟩
            | true =>
              simp only [e3] at hgo
              rw [if_pos rfl]
              cases e4 : fi1 S4 with
              | none => rw [e4] at hgo; cases hgo
              | some rr =>
                cases rr with
                | er c p => rw [e4] at hgo; cases hgo
                | ok ds1 S5 =>
                  simp only [e4] at hgo
                  refine hi1 (B.acc D xs) F3 H3 σ' S4 _ R4 ?_
                  rw [e4]
                  intro F4 H4 R5 s5 J1 hJ1
                  have sm4 : Same Fx F4 := hd2.f.trans (s4.trans s5)
                  cases e5 : lcGo vs1 gd1 ft1 fe ds1 acc (wp S5 vs1) with
                  | none => rw [e5] at hgo; cases hgo
                  | some pp =>
                    obtain ⟨acc', S6⟩ := pp
                    simp only [e5] at hgo
                    have hlen := lc2Go_len hgo
                    refine ⟨fun j n Hz => ∃ Fz Sz accz xz, j + n = ds1.length ∧ Same F4 Fz ∧ Rp K (B.acc D xz) Fz Hz (L2.wipe σ' vs1) Sz ∧ Fz D = none ∧ Drs K Fz xz accz ∧ lcGo vs1 gd1 ft1 fe (ds1.drop j) accz Sz = some (acc', S6),
                      ⟨ds1.length, F4, wp S5 vs1, acc, xs, Nat.zero_add _, Same.refl _, R5.wipe vs1, keep R5, Drs.mono sm4 hacc, e5⟩, fun j n Hz hz => ?_⟩
                    obtain ⟨Fz, Sz, accz, xz, en, sz, Rz, hFz, haccz, hgo1⟩ := hz
                    obtain ⟨jst1, jgo1⟩ := hJ1 j Fz Hz sz Rz.sub
                    by_cases hj : j < ds1.length
                    · refine .inr ?_
                      obtain ⟨k1, k2⟩ := jgo1 hj
                      refine ⟨k1, fun Hw => ∃ Fz Sz accz xz, j + 1 + (n - 1) = ds1.length ∧ Same F4 Fz ∧ Rp K (B.acc D xz) Fz Hw (L2.wipe σ' vs1) Sz ∧ Fz D = none ∧ Drs K Fz xz accz ∧ lcGo vs1 gd1 ft1 fe (ds1.drop (j + 1)) accz Sz = some (acc', S6), fun Hw hw => ⟨n - 1, by omega, hw⟩, fun x1 Hw hw' => ?_⟩
                      obtain ⟨F5, d1, hp1, hp2, hp3⟩ := k2 x1 Hw hw'
                      rw [drop_one hp1] at hgo1
                      unfold lcGo at hgo1
                      have Rw := Rz.mv hp2
                      cases e6 : gd1 d1 Sz with
                      | none => rw [e6] at hgo1; cases hgo1
                      | some S7 =>
                        simp only [e6] at hgo1
                        refine hg1 (B.acc D xz) F5 Hw (L2.wipe σ' vs1) Sz x1 d1 S7 _ Rw hp3 e6 fun σ3 R7 hw3 => ?_
                        have hw4 : L2.wipe σ3 vs1 = L2.wipe σ' vs1 := wipe_self hw3 hix1
                        refine ⟨hw4, ?_⟩
                        cases e7 : ft1 S7 with
                        | none => rw [e7] at hgo1; cases hgo1
                        | some rr =>
                          cases rr with
                          | er c p => rw [e7] at hgo1; cases hgo1
                          | ok b S8 =>
                            refine ht1 (B.acc D xz) F5 Hw σ3 S7 _ R7 ?_
                            rw [e7]
                            intro F6 H6 R8 s8
                            have sm6 : Same Fz F6 := hp2.f.trans s8
                            cases b with
                            | false =>
                              simp only [e7] at hgo1
                              rw [if_neg Bool.false_ne_true]
                              exact ⟨F6, wp S8 vs1, accz, xz, by omega, sz.trans sm6, R8.wiped hw4, keep R8, Drs.mono sm6 haccz, hgo1⟩
                            | true =>
                              simp only [e7] at hgo1
                              rw [if_pos rfl]
                              cases e8 : fe S8 with
                              | none => rw [e8] at hgo1; cases hgo1
                              | some rr =>
                                cases rr with
                                | er c p => rw [e8] at hgo1; cases hgo1
                                | ok y S9 =>
                                  simp only [e8] at hgo1
                                  refine he (B.acc D xz) F6 H6 σ3 S8 _ R8 ?_
                                  rw [e8]
                                  intro F7 H7 R9 s9 v hv
                                  have hF7 : F7 D = none := keep R9
                                  have hD7 : H7 D = some (.lst xz) := R9.accIs hM
                                  have l1 := lcGo_len hgo1
                                  rw [List.length_append, List.length_singleton] at l1
                                  have l2 := Paired.len haccz
                                  refine ⟨xz, hD7, by omega, ?_⟩
                                  have sm7 : Same Fz F7 := sm6.trans s9
                                  exact ⟨F7, wp S9 vs1, accz ++ [y], xz ++ [v], by omega, sz.trans sm7, (R9.wiped hw4).accPut hM hF7, hF7, Paired.app (Drs.mono sm7 haccz) (.cons hv .nil), hgo1⟩
                    · refine .inl ⟨jst1 (by omega), ?_⟩
                      rw [List.drop_of_length_le (by omega)] at hgo1
                      unfold lcGo at hgo1
                      cases hgo1
                      exact ⟨Fz, _, _, xz, by omega, (sx.trans sm4).trans sz, Rz.wiped (by rw [wipe_sub hvs]; exact hw2), hFz, haccz, hgo⟩
    · refine .inl ⟨jst (by omega), ?_⟩
      have dr : ds.drop i = [] := List.drop_of_length_le (by omega)
      rw [dr] at hgo
      unfold lc2Go at hgo
      cases hgo
      have hD2 : Hx D = some (.lst xs) := Rx.accIs hM
      have R9 := (Rx.accOut hM hB).restore R1 sx
      refine h1 Fx Hx R9 sx D xs hD2 hFx hB hacc fun i ho hs => ?_
      by_cases q : i ∈ vs
      · rw [(gt_rs (by rw [R1.len, Rx.len, wipe_length])).1 q] at ho
        cases e9 : gt S1 i with
        | _ => rw [e9] at ho; cases ho
      · have r := Rx.sl i
        rw [sg_wipe.2 q, hs] at r
        rw [(gt_rs (by rw [R1.len, Rx.len, wipe_length])).2 q] at ho
        cases e9 : gt S2 i with
        | ow p l =>
          rw [e9] at r
          obtain ⟨a, zs, e1, _, e3, _⟩ := r
          cases e1
          exact (acc_ok (ys := xs) hM e3).1 rfl
        | dc p l =>
          rw [e9] at r
          obtain ⟨a, zs, e1, _, e3, _⟩ := r
          cases e1
          exact (acc_ok (ys := xs) hM e3).1 rfl
        | _ => rw [e9] at ho; cases ho
section
variable {X : Cx} {E : XK}
theorem fd_lc2N {elt tg iter tg1 iter1 : Expr} {ifs ifs1 : List Expr} {scope : Scope} {p1 : Pos} {wi wi1 : TI} {g g1 : TG} {tt tt1 : TT} {te : TE} {ix : List Nat} {fi fi1 : EM (List D)} {gd gd1 : GF} {ft ft1 : EM Bool} {fe : EM D} (N : List Str) (sc : Scope) (own : List (Str × Nat)) (ix1 : List Nat) (hi : ID X E tg iter wi fi) (hc : X.calm = true) (hN : X.N.Nodup)
    (ok : blkC N sc scope own = true)
    (hg : ∀ (s : Shared) (H : Hp) (C : Addr) (cl : List (Str × Addr)) (fp : List Addr), GD (X.blk s H scope (compEnvC scope cl C X.env) fp) tg g gd ix)
    (ht : ∀ (s : Shared) (H : Hp) (C : Addr) (cl : List (Str × Addr)) (fp : List Addr), TsD (X.blk s H scope (compEnvC scope cl C X.env) fp) E0 ifs tt ft)
    (hi1 : ∀ (s : Shared) (H : Hp) (C : Addr) (cl : List (Str × Addr)) (fp : List Addr), ID (X.blk s H scope (compEnvC scope cl C X.env) fp) E0 tg1 iter1 wi1 fi1)
    (hg1 : ∀ (s : Shared) (H : Hp) (C : Addr) (cl : List (Str × Addr)) (fp : List Addr), GD (X.blk s H scope (compEnvC scope cl C X.env) fp) tg1 g1 gd1 ix1)
    (ht1 : ∀ (s : Shared) (H : Hp) (C : Addr) (cl : List (Str × Addr)) (fp : List Addr), TsD (X.blk s H scope (compEnvC scope cl C X.env) fp) E0 ifs1 tt1 ft1)
    (he : ∀ (s : Shared) (H : Hp) (C : Addr) (cl : List (Str × Addr)) (fp : List Addr), ED (X.blk s H scope (compEnvC scope cl C X.env) fp) E0 elt te fe)
    (hNN : X.N = N := by rfl) (hsc : X.env.scope = sc := by rfl) (hix : ∀ i ∈ ix, i ∈ own.map (·.2) := by decide) (hvs : ∀ i ∈ ix1, i ∈ own.map (·.2) := by decide) (hs1 : ∀ env x, foldedSetIterable iter1 env x = pure x := by intro _ _; rfl) :
    FD X E (.ListComp elt [⟨tg, iter, ifs, 0⟩, ⟨tg1, iter1, ifs1, 0⟩] scope p1) (tLc2 wi g tt wi1 g1 tt1 te (own.map (·.2)) ix1) (lc2F (own.map (·.2)) ix1 fi gd ft fi1 gd1 ft1 fe) :=
  ⟨pe_lc2 hc hN hi.pi (blkOk_by (by rw [hNN, hsc]; exact ok)) hvs (fun s H C cl fp => (hg s H C cl fp).pg) (fun s H C cl fp => (ht s H C cl fp).pe) (fun s H C cl fp => (hi1 s H C cl fp).pi) (fun s H C cl fp => (hg1 s H C cl fp).pg) (fun s H C cl fp => (ht1 s H C cl fp).pe) (fun s H C cl fp => (he s H C cl fp).pe) hi.hs hs1,
    lc2_dr hi.dr (hg X.s_0 X.H_0 0 [] []).dr (ht X.s_0 X.H_0 0 [] []).dr (hi1 X.s_0 X.H_0 0 [] []).dr (hg1 X.s_0 X.H_0 0 [] []).dr (ht1 X.s_0 X.H_0 0 [] []).dr (he X.s_0 X.H_0 0 [] []).dr hix (fun _ h => h) hvs⟩
end
def lc2E (vs vs1 : List Nat) (fi : EM (List D)) (g : GF) (tt : EM Bool) (fi1 : EM (List D)) (g1 : GF) (tt1 : EM Bool) (te : EM D) : EM D := bnd (lc2F vs vs1 fi g tt fi1 g1 tt1 te) fun ys => ret (.lst ys)
end TW
namespace TW
open PySem PySem.Spec PyProof.Rows L2

/-! ### sorted(set(a list of ints)) -/
def fz (w : World) : Obj := { cls := .type "set", dict := none, data := .set #[] 0 (.fresh 0 0 (!w.params.followText "set-order")) }
section
variable {P : Program} {w : World} {A : Around} {E : Value → Shared → Prop} {s : Shared}
/-- what the set's filling leaves -/
def Fills (w : World) (s : Shared) (ns : List Int) (s2 : Shared) : Prop :=
  ∃ (g : Heap) (k c : Nat), s2 = { s with heap := g, toks := k } ∧ SetR w g s.heap.objs.size (fun j => decide (j ∈ ns)) c ∧ c ≤ ns.length ∧ ∀ a u, s.heap.get? a = some u → g.get? a = some u
theorem set_of_list {l : Addr} {its : Array Value} (ns : List Int) {Q : Value → Shared → Prop} (hd : A.handled = none) (hl : s.heap.IsList l its) (hi : IntsAre its.toList ns) (hn : ns.length + 1 < scanBound)
    (h : ∀ s2, Fills w s ns s2 → Q (.ref s.heap.objs.size) s2) : wpAny (model P w) A (call (.type "set") [.ref l]) Q E s := by
  have hz : its.size = ns.length := (Array.length_toList (xs := its)).symm.trans (IntsAre.length hi)
  obtain ⟨_, _, o1⟩ := F.called_set.mro
  have o2 := F.called_set.made
  have o3 := F.called_set.sub
  have o4 := F.called_set.notType
  have o5 := F.called_set.canCreate
  have o6 := F.typeCall_set_1 (.ref l)
  refine wpAny_call (codeAny_of_tree ?_)
  show wpAny _ _ (callAny (.type "set") _) _ _ _
  refine wpAny_pure ⟨Code.quiet_builtin _ (by decide +kernel), codeAny_builtin F.entry_type_call ?_⟩
  rw [Around.under_plain (weight_type_call_type "set" [.ref l] []) rfl]
  repeat (any_goals (first | assumption | wp_step))
  refine codeAny_mono (code_set_led1 (.ref l) (E := E) (Q₁ := fun x t => x = .ref s.heap.objs.size ∧ t = { s with heap := s.heap.push (fz w) }) ⟨rfl, rfl⟩) fun r t hr => ?_
  match r, hr with
  | .error e, hr => exact hr
  | .ok (.ret x), hr =>
    obtain ⟨rfl, rfl⟩ := hr
    have g1 : (s.heap.push (fz w)).get? s.heap.objs.size = some (fz w) := Heap.get?_push_size _ rfl
    have g2 : Shared.TypeIs { s with heap := s.heap.push (fz w) } (.ref s.heap.objs.size) "set" := ⟨_, g1, rfl⟩
    have g3 := F.called_set.init.lookup
    have g4 := F.called_set.init.bind (.ref s.heap.objs.size)
    repeat (any_goals (first | assumption | wp_step))
    refine codeAny_mono (codeAny_call_builtin (R := wants (fun y t => y = .none ∧ Fills w s ns t) E) F.called_set.init.plain F.entry_set_init (check_set_init_1 g2 ?_)) fun r2 t2 hr2 => ?_
    · obtain ⟨⟨xc, xd, xa, xs⟩, hol, e1, nl, e2⟩ := hl
      simp only at e1 e2
      subst e1; subst e2
      have p1 : (s.heap.push (fz w)).get? l = some ⟨.type "list", xd, .seq its nl, xs⟩ := Heap.get?_push_of_some _ hol
      have p2 := F.sub_list_set
      have p3 := F.sub_list_frozenset
      have p4 : (Value.type "list" == Value.type "dict") = false := by decide
      have p5 : (s.heap.push (fz w)).IsList l its := ⟨_, p1, rfl, nl, rfl⟩
      unfold Builtin.«set.__init__» noKeywords Builtin.Frozenset.updateFrom
      generalize hPI : pyIter = PI
      wp_walk
      subst hPI
      refine wpAny_pyIter_list p5 (wpAny_bind (wpAny_runValue ?_))
      have ls : l < s.heap.objs.size := Heap.lt_size hol
      have hd3 : A.in1.in1.in1.handled = none := by simp [hd]
      have ne1 : l ≠ (s.heap.push (fz w)).objs.size := by rw [Heap.size_push]; exact Nat.ne_of_lt (Nat.lt_succ_of_lt ls)
      have ne2 : s.heap.objs.size ∉ [(s.heap.push (fz w)).objs.size, l] := by
        rw [Heap.size_push]; simp only [List.mem_cons, List.not_mem_nil, or_false, not_or]; exact ⟨Nat.ne_of_lt (Nat.lt_succ_self _), Nat.ne_of_gt ls⟩
      have val : ∀ (i : Nat) (v : Value), its[i]? = some v → ∃ k t, ns[i]? = some k ∧ v = .int k t := by
        intro i v hv
        have hi' : i < ns.length := by rw [← hz]; exact (Array.getElem?_eq_some_iff.mp hv).1
        obtain ⟨t, e⟩ := PyProof.Rows.IntsAre.int_at hi i v (by rw [Array.getElem?_toList]; exact hv)
        refine ⟨ns[i], t, List.getElem?_eq_getElem hi', e.trans ?_⟩
        rw [List.getD_eq_getElem?_getD, List.getElem?_eq_getElem hi'] <;> rfl
      have q0 : ((s.heap.push (fz w)).push { cls := .type "list_iterator", data := .fields #[.ref l, .int 0 0] }).get? s.heap.objs.size = some (fz w) := Heap.get?_push_of_some _ g1
      refine set_update_ints ((Walks.list hd3 _ l ne1 its).toS) s.heap.objs.size ne2 ns hz hn val (its.size - 0) 0 _ (by omega) (Nat.zero_le _) ⟨⟨_, Heap.get?_push_size _ rfl, rfl, rfl⟩, (p5.push _)⟩ ⟨0, Nat.le_refl 0, setR_new_at q0⟩ fun t' c' mv hc' hS => ?_
      obtain ⟨g', gg, dd, tk, oo⟩ := t'
      obtain rfl : gg = s.gens := mv.gens
      obtain rfl : dd = s.drawn := mv.drawn
      obtain rfl : oo = s.os := mv.os
      show wpAny _ _ _ _ _ _
      refine wpAny_pure ?_
      show wpAny _ _ (PySem.ret Value.none) _ _ _
      refine wpAny_pure ⟨rfl, g', tk, c', rfl, hS, by omega, fun a u ha => ?_⟩
      have la : a < s.heap.objs.size := Heap.lt_size ha
      refine mv.heap a u ?_ (Heap.get?_push_of_some _ (Heap.get?_push_of_some _ ha))
      simp only [List.mem_cons, List.not_mem_nil, or_false, not_or]
      refine ⟨Nat.ne_of_lt la, ?_⟩
      show a ≠ (s.heap.push (fz w)).objs.size
      rw [Heap.size_push]; exact Nat.ne_of_lt (Nat.lt_succ_of_lt la)
    · match r2, hr2 with
      | .error e, hr2 => exact hr2
      | .ok (.ret y), hr2 =>
        obtain ⟨rfl, hf⟩ := hr2
        obtain ⟨g, k, c, rfl, f2, f3, f4⟩ := hf
        repeat (any_goals (first | assumption | wp_step))
        exact h _ ⟨g, k, c, rfl, f2, f3, f4⟩
end
end TW
namespace TW
open PySem PySem.Spec PyProof.Rows L2
/-- the set of ints at a, ready to be walked -/
def SetI (w : World) (a : Addr) (S : Int → Bool) (n : Nat) : HO := .ext fun h => SetR w h a S n
def rSetI (w : World) (K : PySem.W.Frag) : List V → Hp → VK → Prop := fun vs H Q => ∃ (l : Addr) (ns : List Int), vs = [V.ref l] ∧ SqL K H l (ns.map V.int) ∧ ns.length + 1 < scanBound ∧ ∀ p c, H p = none → Q (.ref p) (upd H p (SetI w p (fun j => decide (j ∈ ns)) c))
def rSortS (w : World) : List V → Hp → VK → Prop := fun vs H Q => ∃ (a : Addr) (S : Int → Bool) (n : Nat), vs = [V.ref a] ∧ H a = some (SetI w a S n) ∧ (∀ ks : List Int, ks.Nodup → (∀ k ∈ ks, S k = true) → ks.length < 64) ∧
  ∀ (ns : List Int) (p : Addr), ns.Pairwise (· < ·) → (∀ k, k ∈ ns ↔ S k = true) → H p = none → Q (.ref p) (upd H p (.lst (ns.map V.int)))
section
variable {X : Cx}
theorem cr_setI (hc : X.calm = true) : CallR X (.type "set") (rSetI X.w X.K) := by
  intro pins s σ H vs us Q I r h
  obtain ⟨l, ns, rfl, hs, hn, q⟩ := h
  obtain ⟨its, rv, hl, hz⟩ := I.list hs
  rw [Vals.ref1 r]
  refine set_of_list ns (I.ok.hd hc) hl.isList rv.ints hn fun s2 hf => ?_
  obtain ⟨g, k, c, rfl, hS, _, hk⟩ := hf
  have ⟨o, _, _, _, ho, _⟩ := hS
  exact ⟨.ref _, upd H s.heap.objs.size (SetI X.w s.heap.objs.size (fun j => decide (j ∈ ns)) c), I.laid hk (Nat.le_refl _) ⟨hS, ⟨o, ho⟩, fun h1 h2 p k => p.at k⟩, rfl, q _ _ (I.hok.fresh (Nat.le_refl _))⟩
theorem cr_sortS (hc : X.calm = true) : CallR X (.builtin "sorted") (rSortS X.w) := by
  intro pins s σ H vs us Q I r h
  obtain ⟨a, S, n, rfl, ha, hz, q⟩ := h
  rw [Vals.ref1 r]
  have R : SetR X.w s.heap a S n := (I.hok a _ ha).1
  have hn : n < 64 := by
    obtain ⟨o, es, ep, t, _, _, _, _, nd, hm, _, _, hn, _⟩ := R
    have := hz (es.toList.map keyOf) nd fun k hk => (hm k).mpr hk
    rw [List.length_map, Array.length_toList, hn] at this
    exact this
  refine sorted_set R (I.ok.hd hc) hn fun s' p out c ns k g o hp hg hi hs hm hl => ?_
  have rv : Vals (ns.map V.int) out.toList := vals_of_ints hi
  have new : ObjOk X.prog X.w (upd H p (.lst (ns.map V.int))) s'.heap p (.lst (ns.map V.int)) := ⟨by rw [List.length_map, hl, sizeLine_eq]; omega, out.toList, c, rv, hg⟩
  exact ⟨.ref p, upd H p (.lst (ns.map V.int)), I.call' (ch := []) o (Un.laid k hp (I.hok.fresh hp)) (I.hok.laid k hp new) (by rw [g]; exact I.bare) (fun _ z => nomatch z), rfl, q ns p hs hm (I.hok.fresh hp)⟩
end
/-- without repeats -/
def dd : List Int → List Int
  | [] => []
  | x :: r => if x ∈ r then dd r else x :: dd r
theorem mem_dd (k : Int) : ∀ l : List Int, k ∈ dd l ↔ k ∈ l
  | [] => Iff.rfl
  | x :: r => by
    unfold dd
    by_cases h : x ∈ r
    · rw [if_pos h, mem_dd k r, List.mem_cons]
      exact ⟨.inr, fun q => q.elim (fun e => e ▸ h) id⟩
    · rw [if_neg h, List.mem_cons, List.mem_cons, mem_dd k r]
theorem nodup_dd : ∀ l : List Int, (dd l).Nodup
  | [] => List.Pairwise.nil
  | x :: r => by
    unfold dd
    by_cases h : x ∈ r
    · rw [if_pos h]; exact nodup_dd r
    · rw [if_neg h]; exact List.nodup_cons.mpr ⟨fun q => h ((mem_dd x r).mp q), nodup_dd r⟩
def dSortSet : D → Option D
  | .lst l => (toIs l).bind fun ns => if ns.length < 4000 ∧ (dd ns).length < 64 then some (.lst ((isort (dd ns)).map .int)) else none
  | _ => none
def eSortSet (f : EM D) : EM D := bnd f fun d => lift (dSortSet d)
theorem strict_le {l : List Int} (h : l.Pairwise (· < ·)) : l.Pairwise (· ≤ ·) := h.imp fun {a b} h => Int.le_of_lt h
theorem strict_nd {l : List Int} (h : l.Pairwise (· < ·)) : l.Nodup := h.imp fun {a b} h => Int.ne_of_lt h
theorem nd_len {l m : List Int} (h : l.Nodup) (s : ∀ k ∈ l, k ∈ m) : l.length ≤ m.length := by
  induction l generalizing m with
  | nil => exact Nat.zero_le _
  | cons x r ih =>
    rw [List.nodup_cons] at h
    have hx := s x List.mem_cons_self
    have h1 := ih (m := m.erase x) h.2 fun k hk => (List.mem_erase_of_ne (fun e : k = x => h.1 (by rw [← e]; exact hk))).mpr (s k (List.mem_cons_of_mem _ hk))
    rw [List.length_erase_of_mem hx] at h1
    have := List.length_pos_of_mem hx
    rw [List.length_cons]; omega
theorem de_sortset {X : Cx} {E : XK} {e : Expr} {te : TE} {f : EM D} {p p2 pos pos2 : Pos} {K : PySem.W.Frag} (hc : X.calm = true) (he : ED X E e te f) (hg : Gl X "sorted") (hm : X.mg "sorted" = none) (hv : bootBuiltins "sorted" = some (.builtin "sorted")) (hg2 : Gl X "set") (hm2 : X.mg "set" = none) (hv2 : bootBuiltins "set" = some (.type "set"))
    (s1 : starEach [e] X.env = (false, eval e X.env) :: starEach [] X.env := by rfl) (s2 : starEach [.Call (.Name "set" p2) [e] [] pos2] X.env = (false, eval (.Call (.Name "set" p2) [e] [] pos2) X.env) :: starEach [] X.env := by rfl)
    (hpl : (backTo pos (starEach [] X.env)).any (·.1) = false := by rfl) (hpl2 : (backTo pos2 (starEach [] X.env)).any (·.1) = false := by rfl) (hK : X.K = K := by rfl) :
    ED X E (.Call (.Name "sorted" p) [.Call (.Name "set" p2) [e] [] pos2] [] pos) (tCB (rSortS X.w) (tCons (tCB (rSetI X.w K) (tCons te tNil)) tNil)) (eSortSet f) := by
  subst hK
  refine ⟨pe_callB (cr_sortS hc) hg hm hv (pa_cons (pe_callTy (cr_setI hc) hg2 hm2 hv2 (pa_cons he.pe pa_nil s1) (by decide) (by decide) s1 hpl2) pa_nil s2) (by decide) (by decide) s2 hpl, fun B F H σ S Q R h => ?_⟩
  refine he.dr B F H σ S _ R (Po.thn h fun d S1 F1 H1 R1 z1 h1 v hv => ?_)
  unfold dSortSet at h1
  split at h1
  · rename_i l0
    cases hv with
    | @lst a xs _ ea la =>
      cases e1 : toIs l0 with
      | none => rw [e1] at h1; exact h1.elim
      | some ns =>
        rw [e1] at h1
        have e2 := toIs_of la.p e1
        subst e2
        by_cases q : ns.length < 4000 ∧ (dd ns).length < 64
        case neg =>
          have : False := by simp only [Option.bind_some, if_neg q] at h1; exact h1
          exact this.elim
        simp only [Option.bind_some, if_pos q] at h1
        refine ⟨a, ns, rfl, SqL.of (R1.sub _ _ ea), by unfold scanBound; omega, fun p1 c hp1 => ?_⟩
        have x1 := Ext.newH R1.sub hp1 (SetI X.w p1 (fun j => decide (j ∈ ns)) c)
        have R2 := R1.mv x1
        refine ⟨p1, fun j => decide (j ∈ ns), c, rfl, upd_same, fun ks hk hs => Nat.lt_of_le_of_lt (nd_len hk fun k hk' => (mem_dd k ns).mpr (of_decide_eq_true (hs k hk'))) q.2, fun ns' p2 hs' hm' hp2 => ?_⟩
        have e3 : ns' = isort (dd ns) := by
          refine sorted_unique ?_ (strict_le hs') (isort_sorted _)
          refine ((List.perm_ext_iff_of_nodup (strict_nd hs') (nodup_dd ns)).mpr fun k => ?_).trans (isort_perm _).symm
          rw [hm', mem_dd, decide_eq_true_eq]
        subst e3
        have x2 := Ext.new R2.sub hp2 (.lst ((isort (dd ns)).map V.int))
        exact h1 _ _ (R2.mv x2) (x1.f.trans x2.f) _ (.lst upd_same (DrL.of Drs.ofInts))
  · exact h1.elim
section
variable {X : Cx} {E : XK}
theorem de_lc2N {elt tg iter tg1 iter1 : Expr} {ifs ifs1 : List Expr} {scope : Scope} {p1 : Pos} {wi wi1 : TI} {g g1 : TG} {tt tt1 : TT} {te : TE} {ix : List Nat} {fi fi1 : EM (List D)} {gd gd1 : GF} {ft ft1 : EM Bool} {fe : EM D} (N : List Str) (sc : Scope) (own : List (Str × Nat)) (ix1 : List Nat) (hi : ID X E tg iter wi fi) (hc : X.calm = true) (hN : X.N.Nodup)
    (ok : blkC N sc scope own = true)
    (hg : ∀ (s : Shared) (H : Hp) (C : Addr) (cl : List (Str × Addr)) (fp : List Addr), GD (X.blk s H scope (compEnvC scope cl C X.env) fp) tg g gd ix)
    (ht : ∀ (s : Shared) (H : Hp) (C : Addr) (cl : List (Str × Addr)) (fp : List Addr), TsD (X.blk s H scope (compEnvC scope cl C X.env) fp) E0 ifs tt ft)
    (hi1 : ∀ (s : Shared) (H : Hp) (C : Addr) (cl : List (Str × Addr)) (fp : List Addr), ID (X.blk s H scope (compEnvC scope cl C X.env) fp) E0 tg1 iter1 wi1 fi1)
    (hg1 : ∀ (s : Shared) (H : Hp) (C : Addr) (cl : List (Str × Addr)) (fp : List Addr), GD (X.blk s H scope (compEnvC scope cl C X.env) fp) tg1 g1 gd1 ix1)
    (ht1 : ∀ (s : Shared) (H : Hp) (C : Addr) (cl : List (Str × Addr)) (fp : List Addr), TsD (X.blk s H scope (compEnvC scope cl C X.env) fp) E0 ifs1 tt1 ft1)
    (he : ∀ (s : Shared) (H : Hp) (C : Addr) (cl : List (Str × Addr)) (fp : List Addr), ED (X.blk s H scope (compEnvC scope cl C X.env) fp) E0 elt te fe)
    (hNN : X.N = N := by rfl) (hsc : X.env.scope = sc := by rfl) (hix : ∀ i ∈ ix, i ∈ own.map (·.2) := by decide) (hvs : ∀ i ∈ ix1, i ∈ own.map (·.2) := by decide) (hs1 : ∀ env x, foldedSetIterable iter1 env x = pure x := by intro _ _; rfl) :
    ED X E (.ListComp elt [⟨tg, iter, ifs, 0⟩, ⟨tg1, iter1, ifs1, 0⟩] scope p1) (tLc2 wi g tt wi1 g1 tt1 te (own.map (·.2)) ix1) (lc2E (own.map (·.2)) ix1 fi gd ft fi1 gd1 ft1 fe) :=
  (fd_lc2N N sc own ix1 hi hc hN ok hg ht hi1 hg1 ht1 he hNN hsc hix hvs hs1).e
theorem sd_setLc2A {elt tg iter tg1 iter1 : Expr} {ifs ifs1 : List Expr} {scope : Scope} {p1 spos : Pos} {wi wi1 : TI} {g g1 : TG} {tt tt1 : TT} {te : TE} {ix : List Nat} {fi fi1 : EM (List D)} {gd gd1 : GF} {ft ft1 : EM Bool} {fe : EM D} {i : Nat} {y : Str} {py : Pos} (N : List Str) (sc : Scope) (own : List (Str × Nat)) (ix1 : List Nat) (hi : ID X E tg iter wi fi) (hc : X.calm = true) (hN : X.N.Nodup)
    (ok : blkC N sc scope own = true)
    (hg : ∀ (s : Shared) (H : Hp) (C : Addr) (cl : List (Str × Addr)) (fp : List Addr), GD (X.blk s H scope (compEnvC scope cl C X.env) fp) tg g gd ix)
    (ht : ∀ (s : Shared) (H : Hp) (C : Addr) (cl : List (Str × Addr)) (fp : List Addr), TsD (X.blk s H scope (compEnvC scope cl C X.env) fp) E0 ifs tt ft)
    (hi1 : ∀ (s : Shared) (H : Hp) (C : Addr) (cl : List (Str × Addr)) (fp : List Addr), ID (X.blk s H scope (compEnvC scope cl C X.env) fp) E0 tg1 iter1 wi1 fi1)
    (hg1 : ∀ (s : Shared) (H : Hp) (C : Addr) (cl : List (Str × Addr)) (fp : List Addr), GD (X.blk s H scope (compEnvC scope cl C X.env) fp) tg1 g1 gd1 ix1)
    (ht1 : ∀ (s : Shared) (H : Hp) (C : Addr) (cl : List (Str × Addr)) (fp : List Addr), TsD (X.blk s H scope (compEnvC scope cl C X.env) fp) E0 ifs1 tt1 ft1)
    (he : ∀ (s : Shared) (H : Hp) (C : Addr) (cl : List (Str × Addr)) (fp : List Addr), ED (X.blk s H scope (compEnvC scope cl C X.env) fp) E0 elt te fe)
    (hy : X.N[i]? = some y) (hyl : X.env.scope.names.lookup y = some .local) (hsw : swapsWith (.ListComp elt [⟨tg, iter, ifs, 0⟩, ⟨tg1, iter1, ifs1, 0⟩] scope p1) (some (.Name y py)) spos.line X.env = pure true)
    (hNN : X.N = N := by rfl) (hsc : X.env.scope = sc := by rfl) (hix : ∀ i ∈ ix, i ∈ own.map (·.2) := by decide) (hvs : ∀ i ∈ ix1, i ∈ own.map (·.2) := by decide) (hs1 : ∀ env x, foldedSetIterable iter1 env x = pure x := by intro _ _; rfl) :
    SD X E (.Assign [.Name y py] (.ListComp elt [⟨tg, iter, ifs, 0⟩, ⟨tg1, iter1, ifs1, 0⟩] scope p1) spos) (tAsg (tLc2 wi g tt wi1 g1 tt1 te (own.map (·.2)) ix1) (gName i)) (sAsg (lc2E (own.map (·.2)) ix1 fi gd ft fi1 gd1 ft1 fe) (gN i)) := by
  refine ⟨ps_setLc2 hc hN hy hyl hsw hi.pi (blkOk_by (by rw [hNN, hsc]; exact ok)) hvs (fun s H C cl fp => (hg s H C cl fp).pg) (fun s H C cl fp => (ht s H C cl fp).pe) (fun s H C cl fp => (hi1 s H C cl fp).pi) (fun s H C cl fp => (hg1 s H C cl fp).pg) (fun s H C cl fp => (ht1 s H C cl fp).pe) (fun s H C cl fp => (he s H C cl fp).pe) hi.hs hs1, asg_dr (fd_lc2N (p1 := p1) N sc own ix1 hi hc hN ok hg ht hi1 hg1 ht1 he hNN hsc hix hvs hs1).dr.e (ix := [i]) ?_⟩
  intro B F H σ S v d S' Q R hd e k
  cases (show some (st S i (.vl d)) = some S' from e)
  exact k _ (R.set i hd) fun vs hv => wipe_set (hv i List.mem_cons_self)
end
end TW
namespace TW
open PySem PySem.Spec PyProof.Rows L2

/-! ### list(range(i, j)) -/
def rRng2 : List V → Hp → VK → Prop := fun vs H Q => ∃ i j, vs = [V.int i, V.int j] ∧ ∀ p, H p = none → Q (.ref p) (upd H p (.rng i j))
def rLstR : List V → Hp → VK → Prop := fun vs H Q => ∃ (a : Addr) (i j : Int), vs = [V.ref a] ∧ H a = some (.rng i j) ∧ (-1000000 ≤ i ∧ i ≤ 1000000) ∧ (-1000000 ≤ j ∧ j ≤ 1000000) ∧
  ∀ p, H p = none → Q (.ref p) (upd H p (.lst ((List.range (j - i).toNat).map fun k : Nat => V.int (i + (k : Int)))))
section
variable {X : Cx}
theorem items_rng {i : Int} : ∀ {acc : Array Value} {n : Nat}, ItemsOf (fun k v => ∃ t, v = .int (i + k * 1) t) acc n → Vals ((List.range n).map fun k : Nat => V.int (i + (k : Int))) acc.toList := by
  intro acc n h
  obtain ⟨hz, hv⟩ := h
  have key : ∀ (m : Nat) (l : List Value) (b : Nat), l.length = m → (∀ k v, l[k]? = some v → ∃ t, v = Value.int (i + ((b + k : Nat) : Int)) t) → Vals ((List.range' b m).map fun k : Nat => V.int (i + (k : Int))) l := by
    intro m
    induction m with
    | zero => intro l b hl _; rw [List.length_eq_zero_iff.mp hl]; exact .nil
    | succ m ih =>
      intro l b hl hv
      cases l with
      | nil => cases hl
      | cons v r =>
        rw [List.range'_succ, List.map_cons]
        refine .cons ?_ (ih r (b + 1) (by simpa using hl) fun k u hu => ?_)
        · obtain ⟨t, e⟩ := hv 0 v rfl
          exact ⟨t, by simpa using e⟩
        · obtain ⟨t, e⟩ := hv (k + 1) u (by simpa using hu)
          exact ⟨t, by rw [e, show b + (k + 1) = b + 1 + k by omega]⟩
  rw [List.range_eq_range']
  refine key n acc.toList 0 (by rw [Array.length_toList]; exact hz) fun k v hk => ?_
  obtain ⟨t, e⟩ := hv k v (by rw [← Array.getElem?_toList]; exact hk)
  exact ⟨t, by rw [e, Int.mul_one, Nat.zero_add]⟩
theorem cr_lstR (hc : X.calm = true) : CallR X (.type "list") rLstR := by
  intro pins s σ H vs us Q I r h
  obtain ⟨a, i, j, rfl, ha, hi, hj, q⟩ := h
  rw [Vals.ref1 r]
  obtain ⟨t, u, v, ho⟩ := I.hok a _ ha
  have hn : Builtin.Range.rangeSize i j 1 = (j - i).toNat := by
    unfold Builtin.Range.rangeSize
    rw [if_pos (by decide)]
    split <;> omega
  refine call_list_range (I.ok.hd hc) ho (small_one (by omega) (by omega) (by omega) (by omega)) hn (by omega) fun h' tk acc c k g it => ?_
  have rv := items_rng it
  exact ⟨.ref _, upd H s.heap.objs.size (.lst ((List.range (j - i).toNat).map fun k : Nat => V.int (i + (k : Int)))), I.laid k (Nat.le_refl _) ⟨by rw [List.length_map, List.length_range, sizeLine_eq]; omega, acc.toList, c, rv, g⟩, rfl, q _ (I.hok.fresh (Nat.le_refl _))⟩
end
theorem rgs_ex : ∃ f : Int → Int → Bool, f = fun i j => decide ((-1000000 ≤ i ∧ i ≤ 1000000) ∧ -1000000 ≤ j ∧ j ≤ 1000000) := ⟨_, rfl⟩
noncomputable def rgs : Int → Int → Bool := Classical.choose rgs_ex
theorem rgs_eq : rgs = fun i j => decide ((-1000000 ≤ i ∧ i ≤ 1000000) ∧ -1000000 ≤ j ∧ j ≤ 1000000) := Classical.choose_spec rgs_ex
noncomputable def dLR : List D → Option D
  | [.int i, .int j] => if rgs i j = true then some (.lst (rangeL i (j - i).toNat)) else none
  | _ => none
theorem de_listrange {X : Cx} {E : XK} {a b : Expr} {ta : TA} {f : EM (List D)} {p p2 pos pos2 : Pos} (hc : X.calm = true) (ha : AD X E [a, b] ta f) (hg : Gl X "list") (hm : X.mg "list" = none) (hv : bootBuiltins "list" = some (.type "list")) (hg2 : Gl X "range") (hm2 : X.mg "range" = none) (hv2 : bootBuiltins "range" = some (.type "range"))
    (s1 : starEach [a, b] X.env = (false, eval a X.env) :: starEach [b] X.env := by rfl) (s2 : starEach [.Call (.Name "range" p2) [a, b] [] pos2] X.env = (false, eval (.Call (.Name "range" p2) [a, b] [] pos2) X.env) :: starEach [] X.env := by rfl)
    (hpl : (backTo pos (starEach [] X.env)).any (·.1) = false := by rfl) (hpl2 : (backTo pos2 (starEach [b] X.env)).any (·.1) = false := by rfl) :
    ED X E (.Call (.Name "list" p) [.Call (.Name "range" p2) [a, b] [] pos2] [] pos) (tCB rLstR (tCons (tCB rRng2 ta) tNil)) (eB1 dLR f) := by
  refine ⟨pe_callTy (cr_lstR hc) hg hm hv (pa_cons (pe_callTy cr_range2 hg2 hm2 hv2 ha.pe (by decide) (by decide) s1 hpl2) pa_nil s2) (by decide) (by decide) s2 hpl, fun B F H σ S Q R h => ?_⟩
  refine ha.dr B F H σ S _ R (Po.thn h fun ds S1 F1 H1 R1 z1 h1 vs hv => ?_)
  unfold dLR at h1
  split at h1
  · rename_i i j
    obtain ⟨x, y, rfl, hx, hy⟩ := Drs.two hv
    cases hx
    cases hy
    by_cases q : rgs i j = true
    case neg =>
      have : False := by simp only [if_neg q] at h1; exact h1
      exact this.elim
    simp only [if_pos q] at h1
    rw [rgs_eq] at q
    have q' := of_decide_eq_true q
    refine ⟨i, j, rfl, fun p1 hp1 => ?_⟩
    have x1 := Ext.newH R1.sub hp1 (.rng i j)
    have R2 := R1.mv x1
    refine ⟨p1, i, j, rfl, upd_same, q'.1, q'.2, fun p2 hp2 => ?_⟩
    have x2 := Ext.new R2.sub hp2 (.lst ((List.range (j - i).toNat).map fun k : Nat => V.int (i + (k : Int))))
    refine h1 _ _ (R2.mv x2) (x1.f.trans x2.f) _ (.lst upd_same (DrL.of ?_))
    unfold rangeL
    have : ∀ l : List Nat, Drs X.K (upd F1 p2 (.lst ((List.range (j - i).toNat).map fun k : Nat => V.int (i + (k : Int))))) (l.map fun k : Nat => V.int (i + (k : Int))) (l.map fun k : Nat => D.int (i + (k : Int))) := by
      intro l
      induction l with
      | nil => exact .nil
      | cons k r ih => exact .cons (.int _) ih
    exact this _
  · exact h1.elim
theorem bb_range : bootBuiltins "range" = some (.type "range") := by decide +kernel
end TW
/-! Evaluation of the functions that the walk hands over: rewriting rules, loops, comprehensions. -/
namespace TW
open PySem PyProof.Rows L2

theorem vls_nil (n : Nat) : vls [] n = uns n := (rfl)
theorem vls_cons (d : D) (r : List D) (n : Nat) : vls (d :: r) n = .vl d :: vls r n := (rfl)
theorem uns_zero : uns 0 = [] := (rfl)
theorem uns_succ (n : Nat) : uns (n + 1) = .un :: uns n := (rfl)
theorem gt_zero (c : C) (r : List C) : gt (c :: r) 0 = c := (rfl)
theorem gt_succ (c : C) (r : List C) (n : Nat) : gt (c :: r) (n + 1) = gt r n := (rfl)
theorem st_zero (c d : C) (r : List C) : st (c :: r) 0 d = d :: r := (rfl)
theorem st_succ (c d : C) (r : List C) (n : Nat) : st (c :: r) (n + 1) d = c :: st r n d := (rfl)
section
variable {α β : Type} {S S' : List C} {f : EM α} {g : α → EM β} {a : α} {b : β}
theorem bnd_ap : bnd f g S = match f S with
  | none => none
  | some (.er c p) => some (.er c p)
  | some (.ok a S') => g a S' := (rfl)
theorem ret_ap : ret a S = some (.ok a S) := (rfl)
theorem lift_some : lift (some a) S = some (.ok a S) := (rfl)
theorem lift_none : lift (none : Option α) S = none := (rfl)
theorem eC_ap {d : D} : eC d S = some (.ok d S) := (rfl)
theorem eV_ap {i : Nat} : eV i S = match gt S i with
  | .vl d => some (.ok d S)
  | _ => none := (rfl)
theorem e2_ap {h : D → D → Option D} {fa fb : EM D} : e2 h fa fb S = bnd fa (fun x => bnd fb fun y => lift (h x y)) S := (rfl)
theorem eB_ap {h : EM D} : eB h S = match h S with
  | some (.ok (.bl b) S') => some (.ok b S')
  | some (.er c p) => some (.er c p)
  | _ => none := by
  unfold eB bnd
  cases h S with
  | none => rfl
  | some r =>
    cases r with
    | er c p => rfl
    | ok d S1 => cases d <;> rfl
theorem eNot_ap {h : EM D} : eNot h S = match h S with
  | some (.ok (.bl b) S') => some (.ok (.bl (!b)) S')
  | some (.er c p) => some (.er c p)
  | _ => none := by
  unfold eNot bnd
  cases h S with
  | none => rfl
  | some r =>
    cases r with
    | er c p => rfl
    | ok d S1 => cases d <;> rfl
theorem tNot_ap {h : EM Bool} : tNot' h S = match h S with
  | some (.ok b S') => some (.ok (!b) S')
  | some (.er c p) => some (.er c p)
  | none => none := by
  unfold tNot' bnd
  cases h S with
  | none => rfl
  | some r =>
    cases r with
    | er c p => rfl
    | ok b S1 => rfl
theorem eAnd_t {h k : EM D} (e : h S = some (.ok (.bl true) S')) : eAnd h k S = k S' := by
  unfold eAnd bnd; rw [e]
theorem eAnd_f {h k : EM D} (e : h S = some (.ok (.bl false) S')) : eAnd h k S = some (.ok (.bl false) S') := by
  unfold eAnd bnd; rw [e]; rfl
theorem eAnd_b {h k : EM D} {x y : Bool} (e : h S = some (.ok (.bl x) S)) (e2 : k S = some (.ok (.bl y) S)) : eAnd h k S = some (.ok (.bl (x && y)) S) := by
  cases x
  · rw [eAnd_f e]; rfl
  · rw [eAnd_t e, e2]; rfl
theorem eAnd_b' {h k : EM D} {x y : Bool} (e : h S = some (.ok (.bl x) S)) (e2 : x = true → k S = some (.ok (.bl y) S)) : eAnd h k S = some (.ok (.bl (x && y)) S) := by
  cases x
  · rw [eAnd_f e]; rfl
  · rw [eAnd_t e, e2 rfl]; rfl
theorem eOr_t {h k : EM D} (e : h S = some (.ok (.bl true) S')) : eOr h k S = some (.ok (.bl true) S') := by
  unfold eOr bnd; rw [e]; rfl
theorem eOr_f {h k : EM D} (e : h S = some (.ok (.bl false) S')) : eOr h k S = k S' := by
  unfold eOr bnd; rw [e]
theorem tAnd_ap {h k : EM Bool} : tAnd' h k S = match h S with
  | some (.ok true S') => k S'
  | some (.ok false S') => some (.ok false S')
  | some (.er c p) => some (.er c p)
  | none => none := by
  unfold tAnd' bnd
  cases h S with
  | none => rfl
  | some r =>
    cases r with
    | er c p => rfl
    | ok b S1 => cases b <;> rfl
theorem tAnd_b {h k : EM Bool} {x y : Bool} (e : h S = some (.ok x S)) (e2 : k S = some (.ok y S)) : tAnd' h k S = some (.ok (x && y) S) := by
  rw [tAnd_ap, e]
  cases x
  · rfl
  · exact e2
theorem tOr_ap {h k : EM Bool} : tOr' h k S = match h S with
  | some (.ok true S') => some (.ok true S')
  | some (.ok false S') => k S'
  | some (.er c p) => some (.er c p)
  | none => none := by
  unfold tOr' bnd
  cases h S with
  | none => rfl
  | some r =>
    cases r with
    | er c p => rfl
    | ok b S1 => cases b <;> rfl
theorem e3_ap {g g' : D → D → Option D} {fa fb fc : EM D} {x y w : D} {u v : Bool} (ha : fa S = some (.ok x S)) (hb : fb S = some (.ok y S)) (hc : fc S = some (.ok w S)) (hg : g x y = some (.bl u)) (hg' : g' y w = some (.bl v)) : e3 g g' fa fb fc S = some (.ok (.bl (u && v)) S) := by
  simp only [e3, bnd_ap, ha, hb, hg, lift_some]
  cases u
  · rfl
  · simp only [bnd_ap, hc, hg', lift_some]; rfl
def brk (z : D) (f : EM D) : EM D := match z with
  | .bl true => f
  | .bl false => ret (.bl false)
  | _ => fun _ => none
def brk' (z : D) (f : EM D) : EM D := match z with
  | .bl true => ret (.bl true)
  | .bl false => f
  | _ => fun _ => none
theorem brk_ap {b : Bool} {f : EM D} : brk (.bl b) f S = if b = true then f S else some (.ok (.bl false) S) := by cases b <;> rfl
theorem brk'_ap {b : Bool} {f : EM D} : brk' (.bl b) f S = if b = true then some (.ok (.bl true) S) else f S := by cases b <;> rfl
theorem eAnd_ap {h k : EM D} : eAnd h k S = bnd h (fun z => brk z k) S := (rfl)
theorem eOr_ap {h k : EM D} : eOr h k S = bnd h (fun z => brk' z k) S := (rfl)
theorem e3_app {g g' : D → D → Option D} {fa fb fc : EM D} : e3 g g' fa fb fc S = bnd fa (fun x => bnd fb fun y => bnd (lift (g x y)) fun z => brk z (bnd fc fun w => lift (g' y w))) S := (rfl)
theorem eIf_ap {c : EM Bool} {h k : EM D} : eIf c h k S = bnd c (fun b => if b = true then h else k) S := (rfl)
theorem ite_ap {p : Prop} [Decidable p] {h k : EM α} : (if p then h else k) S = if p then h S else k S := by split <;> rfl
theorem tAnd_app {h k : EM Bool} : tAnd' h k S = bnd h (fun b => if b = true then k else ret false) S := (rfl)
theorem tOr_app {h k : EM Bool} : tOr' h k S = bnd h (fun b => if b = true then ret true else k) S := (rfl)
theorem ite_bl {b c : Bool} : (if b = true then some (Rs.ok (D.bl c) S) else some (Rs.ok (D.bl false) S)) = some (Rs.ok (D.bl (b && c)) S) := by cases b <;> rfl
theorem ite_bo {b c : Bool} : (if b = true then some (Rs.ok (D.bl true) S) else some (Rs.ok (D.bl c) S)) = some (Rs.ok (D.bl (b || c)) S) := by cases b <;> rfl
theorem ite_tb {b c : Bool} : (if b = true then some (Rs.ok c S) else some (Rs.ok false S)) = some (Rs.ok (b && c) S) := by cases b <;> rfl
theorem ite_to {b c : Bool} : (if b = true then some (Rs.ok true S) else some (Rs.ok c S)) = some (Rs.ok (b || c) S) := by cases b <;> rfl
theorem aN_ap : aN S = some (.ok [] S) := (rfl)
theorem aC_ap {fa : EM D} {fr : EM (List D)} : aC fa fr S = bnd fa (fun x => bnd fr fun xs => ret (x :: xs)) S := (rfl)
theorem eT_ap {h : EM (List D)} : eT h S = bnd h (fun xs => if xs.length ≤ sizeLine then ret (.tup xs) else fun _ => none) S := (rfl)
theorem eL_ap {h : EM (List D)} : eL h S = bnd h (fun xs => if xs.length ≤ sizeLine then ret (.lst xs) else fun _ => none) S := (rfl)
theorem fL_ap {h : EM (List D)} : fL h S = bnd h (fun xs => if xs.length ≤ sizeLine then ret xs else fun _ => none) S := (rfl)
theorem eB1_ap {g : List D → Option D} {h : EM (List D)} : eB1 g h S = bnd h (fun xs => lift (g xs)) S := (rfl)
theorem eIsi_ap {T : Ty5} {h : EM D} : eIsi T h S = bnd h (fun d => lift (dIsi T d)) S := (rfl)
theorem eIsiA_ap {T : List Ty5} {h : EM D} : eIsiA T h S = bnd h (fun d => lift ((instA T d).map .bl)) S := (rfl)
theorem e1n_ap {h : EM D} : e1n h S = match h S with
  | some (.ok (.int i) S') => some (.ok (.int (-i)) S')
  | some (.er c p) => some (.er c p)
  | _ => none := by
  unfold e1n bnd
  cases h S with
  | none => rfl
  | some r =>
    cases r with
    | er c p => rfl
    | ok d S1 => cases d <;> rfl
theorem oS_ap {h : EM D} : oS h S = match h S with
  | some (.ok (.int i) S') => some (.ok (some i) S')
  | some (.er c p) => some (.er c p)
  | _ => none := by
  unfold oS bnd
  cases h S with
  | none => rfl
  | some r =>
    cases r with
    | er c p => rfl
    | ok d S1 => cases d <;> rfl
theorem eSl_ap {fa : EM D} {fl fu : EM (Option Int)} : eSl fa fl fu S = bnd fa (fun x => bnd fl fun l => bnd fu fun u => lift (dSl x l u)) S := (rfl)
theorem eCall_ap {m : List D → Option Cr} {fa : EM (List D)} : eCall m fa S = match fa S with
  | none => none
  | some (.er c p) => some (.er c p)
  | some (.ok ds S') => match m ds with
    | none => none
    | some (.rt d) => some (.ok d S')
    | some (.ro l) => some (.ok (.lst l) S')
    | some (.er c p) => some (.er c p) := by
  unfold eCall bnd
  cases fa S with
  | none => rfl
  | some r => cases r <;> rfl
theorem fCall_ap {m : List D → Option Cr} {fa : EM (List D)} : fCall m fa S = match fa S with
  | none => none
  | some (.er c p) => some (.er c p)
  | some (.ok ds S') => match m ds with
    | some (.ro l) => some (.ok l S')
    | some (.er c p) => some (.er c p)
    | _ => none := by
  unfold fCall bnd
  cases fa S with
  | none => rfl
  | some r => cases r <;> rfl
theorem eCall1_ap {m : List D → List D → Option (D × List D)} {i : Nat} {fa : EM (List D)} : eCall1 m i fa S = match gt S i with
  | .ow _ _ => bnd fa (fun ds S => match gt S i with
    | .ow p l => match m l ds with
      | some (d, l') => some (.ok d (st S i (.ow p l')))
      | none => none
    | _ => none) S
  | _ => none := (rfl)
theorem eOx_ap {i : Nat} {fk : EM D} : eOx i fk S = match gt S i with
  | .ow _ _ => bnd fk (fun k S => match gt S i, k with
    | .ow _ l, .int n => (atI l n).map fun d => .ok d S
    | _, _ => none) S
  | _ => none := (rfl)
theorem eDGet_ap {i : Nat} {fk : EM D} : eDGet i fk S = match gt S i with
  | .dc _ _ => bnd fk (fun k S => match gt S i, k with
    | .dc _ l, .int n => (getD l n).map fun d => .ok d S
    | _, _ => none) S
  | _ => none := (rfl)
theorem eDSort_ap {i : Nat} : eDSort i S = match gt S i with
  | .dc _ l => if (l.map (·.1)).length < 64 then some (.ok (.lst ((isort (l.map (·.1))).map .int)) S) else none
  | _ => none := (rfl)
theorem iS_ap {h : EM D} : iS h S = match h S with
  | some (.ok (.lst l) S') => some (.ok l S')
  | some (.ok (.tup l) S') => some (.ok l S')
  | some (.er c p) => some (.er c p)
  | _ => none := by
  unfold iS bnd
  cases h S with
  | none => rfl
  | some r =>
    cases r with
    | er c p => rfl
    | ok d S1 => cases d <;> rfl
theorem rg1_ok {j : Int} (h : -1000000000 ≤ j) (h2 : j ≤ 1000000000) : rg1 j S = some (.ok (rangeL 0 j.toNat) S) := by
  rw [rg1_eq]
  show (if _ then _ else _ : EM (List D)) S = _
  rw [if_pos ⟨by omega, by omega⟩]; rfl
theorem rg2_ok {i j : Int} (h : -1000000000 ≤ i) (h2 : i ≤ 1000000000) (h3 : -1000000000 ≤ j) (h4 : j ≤ 1000000000) : rg2 i j S = some (.ok (rangeL i (j - i).toNat) S) := by
  rw [rg2_eq]
  show (if _ then _ else _ : EM (List D)) S = _
  rw [if_pos ⟨⟨by omega, by omega⟩, by omega, by omega⟩]; rfl
theorem rg1_nat {n : Nat} (h : n ≤ 1000000000) : rg1 (n : Int) S = some (.ok ((List.range n).map fun k : Nat => D.int (0 + (k : Int))) S) := by
  rw [rg1_ok (by omega) (by omega)]; rfl
theorem iR1_ap {h : EM (List D)} : iR1 h S = bnd h (fun ds => match ds with
  | [.int j] => rg1 j
  | _ => fun _ => none) S := (rfl)
theorem iR2_ap {h : EM (List D)} : iR2 h S = bnd h (fun ds => match ds with
  | [.int i, .int j] => rg2 i j
  | _ => fun _ => none) S := (rfl)
theorem iE_ap {h : EM (List D)} : iE h S = bnd h (fun ds => match ds with
  | [.lst l] => ret (enumL 0 l)
  | [.tup l] => ret (enumL 0 l)
  | _ => fun _ => none) S := (rfl)
theorem iZ_ap {h : EM (List D)} : iZ h S = bnd h (fun ds => match ds with
  | [.lst l, .lst m] => ret (zipL l m)
  | [.tup l, .tup m] => ret (zipL l m)
  | _ => fun _ => none) S := (rfl)
theorem gN_ap {i : Nat} {d : D} : gN i d S = some (st S i (.vl d)) := (rfl)
theorem gT2 {i j : Nat} {d e : D} : gT [i, j] (.tup [d, e]) S = some (st (st S i (.vl d)) j (.vl e)) := (rfl)
theorem gT3 {i j k : Nat} {d e f : D} : gT [i, j, k] (.tup [d, e, f]) S = some (st (st (st S i (.vl d)) j (.vl e)) k (.vl f)) := (rfl)
/-! statements -/
theorem sSeq_ap {f g : SM} : sSeq f g S = match f S with
  | some (.nx S') => g S'
  | o => o := (rfl)
theorem sSeq_nx {f g : SM} (h : f S = some (.nx S')) : sSeq f g S = g S' := by
  rw [sSeq_ap, h]
theorem sNext_ap : sNext S = some (.nx S) := (rfl)
theorem sExpr_ap {f : EM D} : sExpr f S = match f S with
  | none => none
  | some (.er c p) => some (.er c p)
  | some (.ok a S') => some (.nx S') := by
  unfold sExpr sBind
  cases f S with
  | none => rfl
  | some r => cases r <;> rfl
theorem sRet_ap {f : EM D} : sRet f S = match f S with
  | none => none
  | some (.er c p) => some (.er c p)
  | some (.ok a S') => some (.rt a S') := by
  unfold sRet sBind
  cases f S with
  | none => rfl
  | some r => cases r <;> rfl
theorem sRetF_ap {f : EM (List D)} : sRetF f S = match f S with
  | none => none
  | some (.er c p) => some (.er c p)
  | some (.ok a S') => some (.ro a S') := by
  unfold sRetF sBind
  cases f S with
  | none => rfl
  | some r => cases r <;> rfl
theorem sIf_ap {c : EM Bool} {f g : SM} : sIf c f g S = match c S with
  | none => none
  | some (.er c p) => some (.er c p)
  | some (.ok true S') => f S'
  | some (.ok false S') => g S' := by
  unfold sIf sBind
  cases c S with
  | none => rfl
  | some r =>
    cases r with
    | er c p => rfl
    | ok b S1 => cases b <;> rfl
theorem sAsg_ap {f : EM D} {g : GF} : sAsg f g S = match f S with
  | none => none
  | some (.er c p) => some (.er c p)
  | some (.ok d S') => match g d S' with
    | some S' => some (.nx S')
    | none => none := by
  unfold sAsg sBind
  cases f S with
  | none => rfl
  | some r => cases r <;> rfl
theorem sPar_ap {i j : Nat} {f : EM (List D)} : sPar i j f S = match f S with
  | none => none
  | some (.er c p) => some (.er c p)
  | some (.ok ds S) => match ds with
    | [d, e] => some (.nx (st (st S i (.vl d)) j (.vl e)))
    | _ => none := by
  unfold sPar sBind
  cases f S with
  | none => rfl
  | some r => cases r <;> rfl
theorem sParD_ap {i j : Nat} {f : EM D} : sParD i j f S = match f S with
  | none => none
  | some (.er c p) => some (.er c p)
  | some (.ok d S) => some (.nx (st (st S i (.vl d)) j (.dc false []))) := by
  unfold sParD sBind
  cases f S with
  | none => rfl
  | some r => cases r <;> rfl
theorem sPut_ap {i : Nat} {fe fk : EM D} : sPut i fe fk S = sBind fe (fun d S0 => match gt S0 i with
  | .ow _ _ => sBind fk (fun k S => match gt S i, k with
    | .ow p l, .int n => match ixN l.length n with
      | some j => some (.nx (st S i (.ow p (l.set j d))))
      | none => none
    | _, _ => none) S0
  | _ => none) S := (rfl)
theorem sDPut_ap {i : Nat} {fe fk : EM D} : sDPut' i fe fk S = sBind fe (fun d S0 => match gt S0 i with
  | .dc _ _ => sBind fk (fun k S => match gt S i, k with
    | .dc p l, .int n => if l.length < sizeLine then some (.nx (st S i (.dc p (putD l n d)))) else none
    | _, _ => none) S0
  | _ => none) S := (rfl)
theorem sOwn_ap {i : Nat} {f : EM (List D)} : sOwn i f S = match f S with
  | none => none
  | some (.er c p) => some (.er c p)
  | some (.ok l S') => some (.nx (st S' i (.ow false l))) := by
  unfold sOwn sBind
  cases f S with
  | none => rfl
  | some r => cases r <;> rfl
theorem sApp_ap {i : Nat} {f : EM D} : sApp i f S = match gt S i with
  | .ow _ _ => sBind f (fun d S => match gt S i with
    | .ow p l => if l.length < sizeLine then some (.nx (st S i (.ow p (l ++ [d])))) else none
    | _ => none) S
  | _ => none := (rfl)
theorem sRetO_ap {i : Nat} : sRetO i S = match gt S i with
  | .ow false l => some (.ro l (st S i .un))
  | _ => none := (rfl)
theorem eSortSet_ap {h : EM D} : eSortSet h S = bnd h (fun d => lift (dSortSet d)) S := (rfl)
theorem sBind_ap {f : EM α} {g : α → SM} : sBind f g S = match f S with
  | none => none
  | some (.er c p) => some (.er c p)
  | some (.ok a S') => g a S' := (rfl)
theorem sFor_ap {fi : EM (List D)} {g : GF} {body : SM} : sFor fi g body S = match fi S with
  | none => none
  | some (.er c p) => some (.er c p)
  | some (.ok ds S') => forGo g body ds S' := by
  unfold sFor sBind
  cases fi S with
  | none => rfl
  | some r => cases r <;> rfl
theorem fin0_ap {n u : Nat} {b : SM} {ds : List D} (h : ds.length = n) : fin0 n u b ds = match b (vls ds u) with
  | some (.nx _) => some (.rt .non)
  | some (.rt d _) => some (.rt d)
  | some (.ro l _) => some (.ro l)
  | some (.er c p) => some (.er c p)
  | _ => none := by unfold fin0; rw [if_pos h] <;> (try rfl)
theorem fin1_ap {n u : Nat} {b : SM} {l ds : List D} (h : ds.length = n) : fin1 n u b l ds = match b (.ow true l :: vls ds u) with
  | some (.nx S) => (own0 S).map fun l' => (.non, l')
  | some (.rt d S) => (own0 S).map fun l' => (d, l')
  | _ => none := by unfold fin1; rw [if_pos h] <;> (try rfl)
theorem fin0_0 {u : Nat} {b : SM} : fin0 0 u b [] = match b (vls [] u) with
  | some (.nx _) => some (.rt .non)
  | some (.rt d _) => some (.rt d)
  | some (.ro l _) => some (.ro l)
  | some (.er c p) => some (.er c p)
  | _ => none := fin0_ap rfl
theorem fin1_0 {u : Nat} {b : SM} {l : List D} : fin1 0 u b l [] = match b (.ow true l :: vls [] u) with
  | some (.nx S) => (own0 S).map fun l' => (.non, l')
  | some (.rt d S) => (own0 S).map fun l' => (d, l')
  | _ => none := fin1_ap rfl
theorem fin0_1 {u : Nat} {b : SM} {d0 : D} : fin0 1 u b [d0] = match b (vls [d0] u) with
  | some (.nx _) => some (.rt .non)
  | some (.rt d _) => some (.rt d)
  | some (.ro l _) => some (.ro l)
  | some (.er c p) => some (.er c p)
  | _ => none := fin0_ap rfl
theorem fin1_1 {u : Nat} {b : SM} {l : List D} {d0 : D} : fin1 1 u b l [d0] = match b (.ow true l :: vls [d0] u) with
  | some (.nx S) => (own0 S).map fun l' => (.non, l')
  | some (.rt d S) => (own0 S).map fun l' => (d, l')
  | _ => none := fin1_ap rfl
theorem fin0_2 {u : Nat} {b : SM} {d0 d1 : D} : fin0 2 u b [d0, d1] = match b (vls [d0, d1] u) with
  | some (.nx _) => some (.rt .non)
  | some (.rt d _) => some (.rt d)
  | some (.ro l _) => some (.ro l)
  | some (.er c p) => some (.er c p)
  | _ => none := fin0_ap rfl
theorem fin1_2 {u : Nat} {b : SM} {l : List D} {d0 d1 : D} : fin1 2 u b l [d0, d1] = match b (.ow true l :: vls [d0, d1] u) with
  | some (.nx S) => (own0 S).map fun l' => (.non, l')
  | some (.rt d S) => (own0 S).map fun l' => (d, l')
  | _ => none := fin1_ap rfl
theorem fin0_3 {u : Nat} {b : SM} {d0 d1 d2 : D} : fin0 3 u b [d0, d1, d2] = match b (vls [d0, d1, d2] u) with
  | some (.nx _) => some (.rt .non)
  | some (.rt d _) => some (.rt d)
  | some (.ro l _) => some (.ro l)
  | some (.er c p) => some (.er c p)
  | _ => none := fin0_ap rfl
theorem fin1_3 {u : Nat} {b : SM} {l : List D} {d0 d1 d2 : D} : fin1 3 u b l [d0, d1, d2] = match b (.ow true l :: vls [d0, d1, d2] u) with
  | some (.nx S) => (own0 S).map fun l' => (.non, l')
  | some (.rt d S) => (own0 S).map fun l' => (d, l')
  | _ => none := fin1_ap rfl
theorem fin0_4 {u : Nat} {b : SM} {d0 d1 d2 d3 : D} : fin0 4 u b [d0, d1, d2, d3] = match b (vls [d0, d1, d2, d3] u) with
  | some (.nx _) => some (.rt .non)
  | some (.rt d _) => some (.rt d)
  | some (.ro l _) => some (.ro l)
  | some (.er c p) => some (.er c p)
  | _ => none := fin0_ap rfl
theorem fin1_4 {u : Nat} {b : SM} {l : List D} {d0 d1 d2 d3 : D} : fin1 4 u b l [d0, d1, d2, d3] = match b (.ow true l :: vls [d0, d1, d2, d3] u) with
  | some (.nx S) => (own0 S).map fun l' => (.non, l')
  | some (.rt d S) => (own0 S).map fun l' => (d, l')
  | _ => none := fin1_ap rfl
theorem fin0_5 {u : Nat} {b : SM} {d0 d1 d2 d3 d4 : D} : fin0 5 u b [d0, d1, d2, d3, d4] = match b (vls [d0, d1, d2, d3, d4] u) with
  | some (.nx _) => some (.rt .non)
  | some (.rt d _) => some (.rt d)
  | some (.ro l _) => some (.ro l)
  | some (.er c p) => some (.er c p)
  | _ => none := fin0_ap rfl
theorem fin1_5 {u : Nat} {b : SM} {l : List D} {d0 d1 d2 d3 d4 : D} : fin1 5 u b l [d0, d1, d2, d3, d4] = match b (.ow true l :: vls [d0, d1, d2, d3, d4] u) with
  | some (.nx S) => (own0 S).map fun l' => (.non, l')
  | some (.rt d S) => (own0 S).map fun l' => (d, l')
  | _ => none := fin1_ap rfl
theorem fin0_6 {u : Nat} {b : SM} {d0 d1 d2 d3 d4 d5 : D} : fin0 6 u b [d0, d1, d2, d3, d4, d5] = match b (vls [d0, d1, d2, d3, d4, d5] u) with
  | some (.nx _) => some (.rt .non)
  | some (.rt d _) => some (.rt d)
  | some (.ro l _) => some (.ro l)
  | some (.er c p) => some (.er c p)
  | _ => none := fin0_ap rfl
theorem fin1_6 {u : Nat} {b : SM} {l : List D} {d0 d1 d2 d3 d4 d5 : D} : fin1 6 u b l [d0, d1, d2, d3, d4, d5] = match b (.ow true l :: vls [d0, d1, d2, d3, d4, d5] u) with
  | some (.nx S) => (own0 S).map fun l' => (.non, l')
  | some (.rt d S) => (own0 S).map fun l' => (d, l')
  | _ => none := fin1_ap rfl
theorem fin0_7 {u : Nat} {b : SM} {d0 d1 d2 d3 d4 d5 d6 : D} : fin0 7 u b [d0, d1, d2, d3, d4, d5, d6] = match b (vls [d0, d1, d2, d3, d4, d5, d6] u) with
  | some (.nx _) => some (.rt .non)
  | some (.rt d _) => some (.rt d)
  | some (.ro l _) => some (.ro l)
  | some (.er c p) => some (.er c p)
  | _ => none := fin0_ap rfl
theorem fin1_7 {u : Nat} {b : SM} {l : List D} {d0 d1 d2 d3 d4 d5 d6 : D} : fin1 7 u b l [d0, d1, d2, d3, d4, d5, d6] = match b (.ow true l :: vls [d0, d1, d2, d3, d4, d5, d6] u) with
  | some (.nx S) => (own0 S).map fun l' => (.non, l')
  | some (.rt d S) => (own0 S).map fun l' => (d, l')
  | _ => none := fin1_ap rfl
theorem fin0_8 {u : Nat} {b : SM} {d0 d1 d2 d3 d4 d5 d6 d7 : D} : fin0 8 u b [d0, d1, d2, d3, d4, d5, d6, d7] = match b (vls [d0, d1, d2, d3, d4, d5, d6, d7] u) with
  | some (.nx _) => some (.rt .non)
  | some (.rt d _) => some (.rt d)
  | some (.ro l _) => some (.ro l)
  | some (.er c p) => some (.er c p)
  | _ => none := fin0_ap rfl
theorem fin1_8 {u : Nat} {b : SM} {l : List D} {d0 d1 d2 d3 d4 d5 d6 d7 : D} : fin1 8 u b l [d0, d1, d2, d3, d4, d5, d6, d7] = match b (.ow true l :: vls [d0, d1, d2, d3, d4, d5, d6, d7] u) with
  | some (.nx S) => (own0 S).map fun l' => (.non, l')
  | some (.rt d S) => (own0 S).map fun l' => (d, l')
  | _ => none := fin1_ap rfl
theorem own0_ap {l : List D} {r : List C} : own0 (.ow true l :: r) = some l := (rfl)
end
theorem tn0 : (0 : Int).toNat = 0 := (rfl)
theorem tn1 : (1 : Int).toNat = 1 := (rfl)
theorem tn2 : (2 : Int).toNat = 2 := (rfl)
theorem tn3 : (3 : Int).toNat = 3 := (rfl)
theorem tn4 : (4 : Int).toNat = 4 := (rfl)
theorem tn5 : (5 : Int).toNat = 5 := (rfl)
theorem tn6 : (6 : Int).toNat = 6 := (rfl)
theorem tn7 : (7 : Int).toNat = 7 := (rfl)
theorem tn8 : (8 : Int).toNat = 8 := (rfl)
theorem cn0 : ((0 : Nat) : Int) = 0 := (rfl)
theorem cn1 : ((1 : Nat) : Int) = 1 := (rfl)
theorem cn2 : ((2 : Nat) : Int) = 2 := (rfl)
theorem cn3 : ((3 : Nat) : Int) = 3 := (rfl)
theorem cn4 : ((4 : Nat) : Int) = 4 := (rfl)
theorem cn5 : ((5 : Nat) : Int) = 5 := (rfl)
theorem cn6 : ((6 : Nat) : Int) = 6 := (rfl)
theorem cn7 : ((7 : Nat) : Int) = 7 := (rfl)
theorem cn8 : ((8 : Nat) : Int) = 8 := (rfl)
theorem cn9 : ((9 : Nat) : Int) = 9 := (rfl)
theorem cn10 : ((10 : Nat) : Int) = 10 := (rfl)
theorem cn11 : ((11 : Nat) : Int) = 11 := (rfl)
theorem cn12 : ((12 : Nat) : Int) = 12 := (rfl)
theorem zl0 : (0 ≤ sizeLine) = True := eq_true (by unfold sizeLine; decide)
theorem zl1 : (1 ≤ sizeLine) = True := eq_true (by unfold sizeLine; decide)
theorem zl2 : (2 ≤ sizeLine) = True := eq_true (by unfold sizeLine; decide)
theorem zl3 : (3 ≤ sizeLine) = True := eq_true (by unfold sizeLine; decide)
theorem zl4 : (4 ≤ sizeLine) = True := eq_true (by unfold sizeLine; decide)
theorem zl5 : (5 ≤ sizeLine) = True := eq_true (by unfold sizeLine; decide)
theorem zl6 : (6 ≤ sizeLine) = True := eq_true (by unfold sizeLine; decide)
theorem zl7 : (7 ≤ sizeLine) = True := eq_true (by unfold sizeLine; decide)
theorem zl8 : (8 ≤ sizeLine) = True := eq_true (by unfold sizeLine; decide)
theorem zl9 : (9 ≤ sizeLine) = True := eq_true (by unfold sizeLine; decide)
theorem zl10 : (10 ≤ sizeLine) = True := eq_true (by unfold sizeLine; decide)
theorem zl11 : (11 ≤ sizeLine) = True := eq_true (by unfold sizeLine; decide)
theorem zl12 : (12 ≤ sizeLine) = True := eq_true (by unfold sizeLine; decide)
theorem zl13 : (13 ≤ sizeLine) = True := eq_true (by unfold sizeLine; decide)
theorem zl14 : (14 ≤ sizeLine) = True := eq_true (by unfold sizeLine; decide)
theorem zl15 : (15 ≤ sizeLine) = True := eq_true (by unfold sizeLine; decide)
theorem zl16 : (16 ≤ sizeLine) = True := eq_true (by unfold sizeLine; decide)
theorem zm0 : (0 < sizeLine) = True := eq_true (by unfold sizeLine; decide)
theorem zm1 : (1 < sizeLine) = True := eq_true (by unfold sizeLine; decide)
theorem zm2 : (2 < sizeLine) = True := eq_true (by unfold sizeLine; decide)
theorem zm3 : (3 < sizeLine) = True := eq_true (by unfold sizeLine; decide)
theorem zm4 : (4 < sizeLine) = True := eq_true (by unfold sizeLine; decide)
theorem zm5 : (5 < sizeLine) = True := eq_true (by unfold sizeLine; decide)
theorem zm6 : (6 < sizeLine) = True := eq_true (by unfold sizeLine; decide)
theorem zm7 : (7 < sizeLine) = True := eq_true (by unfold sizeLine; decide)
theorem zm8 : (8 < sizeLine) = True := eq_true (by unfold sizeLine; decide)
theorem zm9 : (9 < sizeLine) = True := eq_true (by unfold sizeLine; decide)
theorem zm10 : (10 < sizeLine) = True := eq_true (by unfold sizeLine; decide)
theorem zm11 : (11 < sizeLine) = True := eq_true (by unfold sizeLine; decide)
theorem zm12 : (12 < sizeLine) = True := eq_true (by unfold sizeLine; decide)
theorem zm13 : (13 < sizeLine) = True := eq_true (by unfold sizeLine; decide)
theorem zm14 : (14 < sizeLine) = True := eq_true (by unfold sizeLine; decide)
theorem zm15 : (15 < sizeLine) = True := eq_true (by unfold sizeLine; decide)
theorem zm16 : (16 < sizeLine) = True := eq_true (by unfold sizeLine; decide)
theorem ifz {α : Sort _} {n : Nat} {a b : α} (h : n ≤ 16777216) : (if n ≤ sizeLine then a else b) = a := if_pos (by unfold sizeLine; omega)
theorem ifz' {α : Sort _} {n : Nat} {a b : α} (h : n < 16777216) : (if n < sizeLine then a else b) = a := if_pos (by unfold sizeLine; omega)
/-! operations -/
theorem dI0_ap {g : Int → Int → D} {i j : Int} : dI0 g (.int i) (.int j) = some (g i j) := (rfl)
theorem dIc_ap {c : Int → Int → Bool} {g : Int → Int → Int} {i j : Int} (h : c i j = true) : dIc c g (.int i) (.int j) = some (.int (g i j)) := by
  show (if c i j = true then some (D.int (g i j)) else none) = _
  rw [if_pos h]
theorem dDiv_ap {i j : Int} (h : 0 < j) (h2 : j < 2 ^ 62) : dDiv (.int i) (.int j) = some (.int (i / j)) := by
  refine dIc_ap ?_
  rw [cDiv_eq]
  simp only []
  rw [Bool.and_eq_true, decide_eq_true_eq, decide_eq_true_eq]
  refine ⟨h, ?_⟩
  have h3 : j.natAbs < 2 ^ 62 := by omega
  have := (Nat.log2_lt (n := j.natAbs) (k := 62) (by omega)).mpr h3
  omega
theorem dMod_ap {i j : Int} (h : 0 < j) : dMod (.int i) (.int j) = some (.int (i % j)) := dIc_ap (by simpa using h)
theorem dPow_ap {i j : Int} (h : 0 ≤ j) (h2 : j ≤ 1000000) (h3 : i.natAbs < 2 ^ 64) : dPow (.int i) (.int j) = some (.int (i ^ j.toNat)) := dIc_ap (by rw [cPow_eq]; simp [h, h2]; omega)
theorem dAdd_ii {i j : Int} : dAdd (.int i) (.int j) = some (.int (i + j)) := (rfl)
theorem dAdd_tt {x y : List D} (h : x.length + y.length ≤ 16777216) : dAdd (.tup x) (.tup y) = some (.tup (x ++ y)) := by
  unfold dAdd; exact ifz h
theorem dAdd_ll {x y : List D} (h : x.length + y.length ≤ 16777216) : dAdd (.lst x) (.lst y) = some (.lst (x ++ y)) := by
  unfold dAdd; exact ifz h
theorem dMul_l {i j : Int} (h : -(2 ^ 64) < i) (h2 : i < 2 ^ 64) : dMul (.int i) (.int j) = some (.int (i * j)) := by
  show (if cMul i j = true then some (D.int (i * j)) else none) = _
  rw [cMul_eq]
  simp only []
  rw [if_pos (by rw [Bool.or_eq_true, decide_eq_true_eq]; exact .inl ⟨h, h2⟩)]
theorem dMul_r {i j : Int} (h : -(2 ^ 64) < j) (h2 : j < 2 ^ 64) : dMul (.int i) (.int j) = some (.int (i * j)) := by
  show (if cMul i j = true then some (D.int (i * j)) else none) = _
  rw [cMul_eq]
  simp only []
  rw [if_pos (by rw [Bool.or_eq_true, decide_eq_true_eq, decide_eq_true_eq]; exact .inr ⟨h, h2⟩)]
theorem dLen_t {l : List D} : dLen [.tup l] = some (.int l.length) := (rfl)
theorem dLen_l {l : List D} : dLen [.lst l] = some (.int l.length) := (rfl)
theorem dTuple_l {l : List D} : dTuple [.lst l] = some (.tup l) := (rfl)
theorem dTuple_t {l : List D} : dTuple [.tup l] = some (.tup l) := (rfl)
theorem dList_l {l : List D} : dList [.lst l] = some (.lst l) := (rfl)
theorem dList_t {l : List D} : dList [.tup l] = some (.lst l) := (rfl)
theorem dMax_ii {i j : Int} : dMax [.int i, .int j] = some (.int (max i j)) := (rfl)
theorem dMin_ii {i j : Int} : dMin [.int i, .int j] = some (.int (min i j)) := (rfl)
theorem toBs_map {α : Type} (f : α → Bool) : ∀ l : List α, toBs (l.map fun x => D.bl (f x)) = some (l.map f)
  | [] => rfl
  | x :: r => by
    rw [List.map_cons, List.map_cons]
    unfold toBs
    rw [toBs_map f r]; rfl
theorem toIs_map {α : Type} (f : α → Int) : ∀ l : List α, toIs (l.map fun x => D.int (f x)) = some (l.map f)
  | [] => rfl
  | x :: r => by
    rw [List.map_cons, List.map_cons]
    unfold toIs
    rw [toIs_map f r]; rfl
theorem dAll_map {α : Type} (f : α → Bool) (l : List α) : dAll [.lst (l.map fun x => D.bl (f x))] = some (.bl (l.all f)) := by
  show (toBs (l.map fun x => D.bl (f x))).map (fun bs => D.bl (bs.all id)) = _
  rw [toBs_map]
  simp [List.all_map]
theorem dSum_map {α : Type} (f : α → Int) (l : List α) : dSum [.lst (l.map fun x => D.int (f x))] = some (.int (l.map f).sum) := by
  show (toIs (l.map fun x => D.int (f x))).map (fun ns => D.int ns.sum) = _
  rw [toIs_map]; rfl
theorem dIx_t {l : List D} {i : Int} : dIx (.tup l) (.int i) = atI l i := (rfl)
theorem dIx_l {l : List D} {i : Int} : dIx (.lst l) (.int i) = atI l i := (rfl)
theorem atI_nat {α : Type} {l : List α} {i : Int} (h : 0 ≤ i) (h2 : i < l.length) : atI l i = l[i.toNat]? := by
  unfold atI ixN
  rw [if_pos h, if_pos h2]; rfl
theorem atI_0 {α : Type} {a : α} {l : List α} : atI (a :: l) 0 = some a := by
  rw [atI_nat (by decide) (by simp only [List.length_cons]; omega)]; rfl
theorem atI_1 {α : Type} {a b : α} {l : List α} : atI (a :: b :: l) 1 = some b := by
  rw [atI_nat (by decide) (by simp only [List.length_cons]; omega)]; rfl
theorem atI_2 {α : Type} {a b c : α} {l : List α} : atI (a :: b :: c :: l) 2 = some c := by
  rw [atI_nat (by decide) (by simp only [List.length_cons]; omega)]; rfl
theorem atI_3 {α : Type} {a b c d : α} {l : List α} : atI (a :: b :: c :: d :: l) 3 = some d := by
  rw [atI_nat (by decide) (by simp only [List.length_cons]; omega)]; rfl
theorem ixN_nat {n : Nat} {i : Int} (h : 0 ≤ i) (h2 : i < n) : ixN n i = some i.toNat := by
  unfold ixN; rw [if_pos h, if_pos h2]
theorem dSl_t {l : List D} {a b : Option Int} : dSl (.tup l) a b = some (.tup (cutL l a b)) := (rfl)
theorem dSl_l {l : List D} {a b : Option Int} : dSl (.lst l) a b = some (.lst (cutL l a b)) := (rfl)
theorem dSl_s {l : List Int} {a b : Option Int} : dSl (.scr l) a b = some (.lst ((cutL l a b).map .int)) := (rfl)
theorem dNe_ii {i j : Int} : dNe (.int i) (.int j) = some (.bl (!decide (i = j))) := (rfl)
theorem dEq_ii {i j : Int} : dEq (.int i) (.int j) = some (.bl (decide (i = j))) := (rfl)
theorem sIx_pos {n : Nat} {d : Nat} {i : Int} (h : 0 ≤ i) : HT.sIx n d (some i) = min i.toNat n := by
  unfold HT.sIx
  simp only []
  split <;> omega
theorem cutL_from {α : Type} {l : List α} {i : Int} (h : 0 ≤ i) : cutL l (some i) none = l.drop i.toNat := by
  unfold cutL
  rw [sIx_pos h, show HT.sIx l.length l.length none = l.length from rfl]
  by_cases q : i.toNat ≤ l.length
  · rw [Nat.min_eq_left q]
    exact List.take_of_length_le (by rw [List.length_drop]; omega)
  · rw [Nat.min_eq_right (by omega), List.drop_of_length_le (by omega), List.drop_of_length_le (by omega), List.take_nil]
theorem cutL_to {α : Type} {l : List α} {i : Int} (h : 0 ≤ i) : cutL l none (some i) = l.take i.toNat := by
  unfold cutL
  rw [sIx_pos h, show HT.sIx l.length 0 none = 0 from rfl, List.drop_zero, Nat.sub_zero]
  by_cases q : i.toNat ≤ l.length
  · rw [Nat.min_eq_left q]
  · rw [Nat.min_eq_right (by omega), List.take_of_length_le (by omega), List.take_of_length_le (by omega)]
theorem zipL_map {α β : Type} (f : α → D) (g : β → D) : ∀ (l : List α) (m : List β), zipL (l.map f) (m.map g) = (l.zip m).map fun p => .tup [f p.1, g p.2]
  | [], m => by cases m <;> rfl
  | x :: r, [] => rfl
  | x :: r, y :: t => by
    show D.tup [f x, g y] :: zipL (r.map f) (t.map g) = _
    rw [zipL_map f g r t]; rfl
/-! loops -/
theorem forGo_inv {α : Type} {enc : α → D} {g : GF} {body : SM} (I : List α → List C → Prop) : ∀ (l : List α) (S : List C), I l S →
    (∀ x r S, (x :: r).length ≤ l.length → I (x :: r) S → ∃ S2, g (enc x) S = some S2 ∧ ∃ S3, (body S2 = some (.nx S3) ∨ body S2 = some (.ct S3)) ∧ I r S3) →
    ∃ S', forGo g body (l.map enc) S = some (.nx S') ∧ I [] S'
  | [], S, h, _ => ⟨S, rfl, h⟩
  | x :: r, S, h, k => by
    obtain ⟨S2, e2, S3, e3, h3⟩ := k x r S (Nat.le_refl _) h
    obtain ⟨S', e, h'⟩ := forGo_inv I r S3 h3 fun y t T hl hI => k y t T (by simp only [List.length_cons] at hl ⊢; omega) hI
    refine ⟨S', ?_, h'⟩
    rw [List.map_cons]
    unfold forGo
    rw [e2]
    rcases e3 with e3 | e3 <;> (simp only [e3]; exact e)
/-- the same, each thing of the list known to be of it -/
theorem forGo_mem {α : Type} {enc : α → D} {g : GF} {body : SM} (I : List α → List C → Prop) : ∀ (l : List α) (S : List C), I l S →
    (∀ x r S, x ∈ l → (x :: r).length ≤ l.length → I (x :: r) S → ∃ S2, g (enc x) S = some S2 ∧ ∃ S3, (body S2 = some (.nx S3) ∨ body S2 = some (.ct S3)) ∧ I r S3) →
    ∃ S', forGo g body (l.map enc) S = some (.nx S') ∧ I [] S'
  | [], S, h, _ => ⟨S, rfl, h⟩
  | x :: r, S, h, k => by
    obtain ⟨S2, e2, S3, e3, h3⟩ := k x r S List.mem_cons_self (Nat.le_refl _) h
    obtain ⟨S', e, h'⟩ := forGo_mem I r S3 h3 fun y t T hm hl hI => k y t T (List.mem_cons_of_mem _ hm) (by simp only [List.length_cons] at hl ⊢; omega) hI
    refine ⟨S', ?_, h'⟩
    rw [List.map_cons]
    unfold forGo
    rw [e2]
    rcases e3 with e3 | e3 <;> (simp only [e3]; exact e)
theorem bagGo_inv {i : Nat} {body : SM} (I : List C → Prop) : ∀ (ls : List (List D)) (S : List C), I S →
    (∀ l ∈ ls, ∀ S, I S → ∃ S3, (body (st S i (.ow false l)) = some (.nx S3) ∨ body (st S i (.ow false l)) = some (.ct S3)) ∧ I S3) →
    ∃ S', bagGo i body ls S = some (.nx S') ∧ I S'
  | [], S, h, _ => ⟨S, rfl, h⟩
  | x :: r, S, h, k => by
    obtain ⟨S3, e3, h3⟩ := k x List.mem_cons_self S h
    obtain ⟨S', e, h'⟩ := bagGo_inv I r S3 h3 fun y hy => k y (List.mem_cons_of_mem _ hy)
    refine ⟨S', ?_, h'⟩
    unfold bagGo
    rcases e3 with e3 | e3 <;> (rw [e3]; exact e)
/-! comprehensions -/
theorem lcGo_pure {α : Type} {enc : α → D} {vs : List Nat} {g : GF} {tt : EM Bool} {te : EM D} {S : List C} (p : α → Bool) (v : α → D) : ∀ (l : List α) (acc : List D),
    (∀ x ∈ l, ∃ S2, g (enc x) S = some S2 ∧ tt S2 = some (.ok (p x) S2) ∧ (p x = true → te S2 = some (.ok (v x) S2)) ∧ wp S2 vs = S) →
    lcGo vs g tt te (l.map enc) acc S = some (acc ++ (l.filter p).map v, S)
  | [], acc, _ => by simp [lcGo]
  | x :: r, acc, h => by
    obtain ⟨S2, e1, e2, e3, e4⟩ := h x List.mem_cons_self
    have ih := fun acc => lcGo_pure p v r acc fun y hy => h y (List.mem_cons_of_mem _ hy)
    rw [List.map_cons]
    unfold lcGo
    rw [e1]
    simp only [e2]
    cases q : p x with
    | true =>
      simp only [e3 q, e4]
      rw [ih, List.filter_cons_of_pos q]
      simp
    | false =>
      simp only [e4]
      rw [ih, List.filter_cons_of_neg (by simp [q])]
theorem lcF_pure {α : Type} {enc : α → D} {l : List α} {vs : List Nat} {fi : EM (List D)} {g : GF} {tt : EM Bool} {te : EM D} {S S1 : List C} (p : α → Bool) (v : α → D) (hf : fi S = some (.ok (l.map enc) S1)) (hz : l.length ≤ 16777216)
    (h : ∀ x ∈ l, ∃ S2, g (enc x) (wp S1 vs) = some S2 ∧ tt S2 = some (.ok (p x) S2) ∧ (p x = true → te S2 = some (.ok (v x) S2)) ∧ wp S2 vs = wp S1 vs) :
    lcF vs fi g tt te S = some (.ok ((l.filter p).map v) (rs S1 vs (wp S1 vs))) := by
  unfold lcF
  rw [bnd_ap, hf]
  show (if (l.map enc).length ≤ sizeLine then _ else none) = _
  rw [ifz (by rw [List.length_map]; exact hz), lcGo_pure p v l [] h]
  rfl
theorem lcE_pure {α : Type} {enc : α → D} {l : List α} {vs : List Nat} {fi : EM (List D)} {g : GF} {tt : EM Bool} {te : EM D} {S S1 S' : List C} (p : α → Bool) (v : α → D) (hf : fi S = some (.ok (l.map enc) S1)) (hz : l.length ≤ 16777216)
    (h : ∀ x ∈ l, ∃ S2, g (enc x) (wp S1 vs) = some S2 ∧ tt S2 = some (.ok (p x) S2) ∧ (p x = true → te S2 = some (.ok (v x) S2)) ∧ wp S2 vs = wp S1 vs) (hr : rs S1 vs (wp S1 vs) = S') :
    lcE vs fi g tt te S = some (.ok (.lst ((l.filter p).map v)) S') := by
  unfold lcE
  rw [bnd_ap, lcF_pure p v hf hz h, hr]; rfl
/-- no test -/
theorem lcE_map {α : Type} {enc : α → D} {l : List α} {vs : List Nat} {fi : EM (List D)} {g : GF} {te : EM D} {S S1 S' : List C} (v : α → D) (hf : fi S = some (.ok (l.map enc) S1)) (hz : l.length ≤ 16777216)
    (h : ∀ x ∈ l, ∃ S2, g (enc x) (wp S1 vs) = some S2 ∧ te S2 = some (.ok (v x) S2) ∧ wp S2 vs = wp S1 vs) (hr : rs S1 vs (wp S1 vs) = S') :
    lcE vs fi g (ret true) te S = some (.ok (.lst (l.map v)) S') := by
  have := lcE_pure (p := fun _ => true) (v := v) (te := te) (tt := ret true) (S' := S') hf hz (fun x hx => by
    obtain ⟨S2, e1, e2, e3⟩ := h x hx
    exact ⟨S2, e1, rfl, fun _ => e2, e3⟩) hr
  rw [this, List.filter_eq_self.mpr fun _ _ => rfl]
theorem lcE_mapS {α : Type} {enc : α → D} {l : List α} {vs : List Nat} {fi : EM (List D)} {g : GF} {te : EM D} {S : List C} (v : α → D) (hf : fi S = some (.ok (l.map enc) S)) (hz : l.length ≤ 16777216)
    (h : ∀ x ∈ l, ∃ S2, g (enc x) (wp S vs) = some S2 ∧ te S2 = some (.ok (v x) S2) ∧ wp S2 vs = wp S vs) (hr : rs S vs (wp S vs) = S) :
    lcE vs fi g (ret true) te S = some (.ok (.lst (l.map v)) S) := lcE_map v hf hz h hr
theorem lcE_pureS {α : Type} {enc : α → D} {l : List α} {vs : List Nat} {fi : EM (List D)} {g : GF} {tt : EM Bool} {te : EM D} {S : List C} (p : α → Bool) (v : α → D) (hf : fi S = some (.ok (l.map enc) S)) (hz : l.length ≤ 16777216)
    (h : ∀ x ∈ l, ∃ S2, g (enc x) (wp S vs) = some S2 ∧ tt S2 = some (.ok (p x) S2) ∧ (p x = true → te S2 = some (.ok (v x) S2)) ∧ wp S2 vs = wp S vs) (hr : rs S vs (wp S vs) = S) :
    lcE vs fi g tt te S = some (.ok (.lst ((l.filter p).map v)) S) := lcE_pure p v hf hz h hr
/-- draws inside -/
theorem lcGo_inv {α : Type} {enc : α → D} {vs : List Nat} {g : GF} {te : EM D} (I : List α → List C → Prop) (R : α → D → Prop) : ∀ (l : List α) (acc : List D) (S : List C), I l S →
    (∀ x r S, x ∈ l → (x :: r).length ≤ l.length → I (x :: r) S → ∃ S2, g (enc x) S = some S2 ∧ ∃ y S3, te S2 = some (.ok y S3) ∧ R x y ∧ I r (wp S3 vs)) →
    ∃ ys S', lcGo vs g (ret true) te (l.map enc) acc S = some (acc ++ ys, S') ∧ Paired R l ys ∧ I [] S'
  | [], acc, S, h, _ => ⟨[], S, by simp [lcGo], .nil, h⟩
  | x :: r, acc, S, h, k => by
    obtain ⟨S2, e1, y, S3, e2, hR, h3⟩ := k x r S List.mem_cons_self (Nat.le_refl _) h
    obtain ⟨ys, S', e, hp, h'⟩ := lcGo_inv I R r (acc ++ [y]) _ h3 fun z t T hm hl hI => k z t T (List.mem_cons_of_mem _ hm) (by simp only [List.length_cons] at hl ⊢; omega) hI
    refine ⟨y :: ys, S', ?_, .cons hR hp, h'⟩
    rw [List.map_cons]
    unfold lcGo
    rw [e1]
    simp only [ret_ap, e2]
    rw [e]; simp
theorem lcE_inv {α : Type} {enc : α → D} {l : List α} {vs : List Nat} {fi : EM (List D)} {g : GF} {te : EM D} {S S1 : List C} (I : List α → List C → Prop) (R : α → D → Prop) (hf : fi S = some (.ok (l.map enc) S1)) (hz : l.length ≤ 16777216) (h : I l (wp S1 vs))
    (k : ∀ x r S, x ∈ l → (x :: r).length ≤ l.length → I (x :: r) S → ∃ S2, g (enc x) S = some S2 ∧ ∃ y S3, te S2 = some (.ok y S3) ∧ R x y ∧ I r (wp S3 vs)) :
    ∃ ys S2, lcE vs fi g (ret true) te S = some (.ok (.lst ys) (rs S1 vs S2)) ∧ Paired R l ys ∧ I [] S2 := by
  obtain ⟨ys, S2, e, hp, hI⟩ := lcGo_inv I R l [] _ h k
  refine ⟨ys, S2, ?_, hp, hI⟩
  unfold lcE lcF
  rw [bnd_ap, bnd_ap, hf]
  simp only [ifz (by rw [List.length_map]; exact hz : (l.map enc).length ≤ 16777216), e]
  rfl
theorem finB_2 {u : Nat} {b : EM (List (List D))} {d0 d1 : D} : finB 2 u b [d0, d1] = match b (vls [d0, d1] u) with
  | some (.ok ls _) => some ls
  | _ => none := by 
  unfold finB
  rw [if_pos (by rfl)] <;> (try rfl)
theorem sBag_ap {i : Nat} {m : List D → Option (List (List D))} {fa : EM (List D)} {body : SM} {S : List C} : sBag i m fa body S = match fa S with
  | none => none
  | some (.er c p) => some (.er c p)
  | some (.ok ds S) => match m ds with
    | some ls => bagGo i body ls S
    | none => none := by
  unfold sBag sBind
  cases fa S with
  | none => rfl
  | some r => cases r <;> rfl
theorem enumL_map {α : Type} (f : α → D) : ∀ (l : List α) (k : Nat), enumL k (l.map f) = (l.zipIdx k).map fun p => .tup [.int (p.2 : Int), f p.1]
  | [], k => rfl
  | x :: r, k => by
    show D.tup [.int (k : Int), f x] :: enumL (k + 1) (r.map f) = _
    rw [enumL_map f r (k + 1)]; rfl
theorem lbGo_all {α : Type} {enc : α → D} {vs : List Nat} {g : GF} {te : EM (List D)} {S : List C} (R : List D → Prop) : ∀ (l : List α) (acc : List (List D)), (∀ x ∈ acc, R x) →
    (∀ x ∈ l, ∃ S2 y, g (enc x) S = some S2 ∧ te S2 = some (.ok y S2) ∧ R y ∧ wp S2 vs = S) →
    ∃ ys, lbGo vs g te (l.map enc) acc S = some (ys, S) ∧ ∀ y ∈ ys, R y
  | [], acc, ha, _ => ⟨acc, rfl, ha⟩
  | x :: r, acc, ha, h => by
    obtain ⟨S2, y, e1, e2, hR, e4⟩ := h x List.mem_cons_self
    obtain ⟨ys, e, hy⟩ := lbGo_all R r (acc ++ [y]) (fun z hz => by
      rcases List.mem_append.mp hz with hz | hz
      · exact ha z hz
      · rw [List.mem_singleton.mp hz]; exact hR) fun y hy => h y (List.mem_cons_of_mem _ hy)
    refine ⟨ys, ?_, hy⟩
    rw [List.map_cons]
    unfold lbGo
    rw [e1]
    simp only [e2, e4]
    exact e
end TW
/-! == over plain data -/
namespace TW
open PySem PyProof.Rows L2
def Nice : Nat → D → Prop
  | _, .non => True
  | _, .int _ => True
  | n + 1, .tup l => ∀ d ∈ l, Nice n d
  | n + 1, .lst l => ∀ d ∈ l, Nice n d
  | _, _ => False
theorem nice_all {n : Nat} (ih : ∀ d, Nice n d → ∃ p, toPy d = some p ∧ p.canLay0 = true ∧ p.depth ≤ n) : ∀ l : List D, (∀ d ∈ l, Nice n d) → ∃ ps, toPys l = some ps ∧ PyData.canLayAll0 ps = true ∧ PyData.depthAll ps ≤ n
  | [], _ => ⟨[], rfl, rfl, by simp [PyData.depthAll]⟩
  | d :: r, h => by
    obtain ⟨p, e1, c1, d1⟩ := ih d (h d List.mem_cons_self)
    obtain ⟨ps, e2, c2, d2⟩ := nice_all ih r fun x hx => h x (List.mem_cons_of_mem _ hx)
    refine ⟨p :: ps, by simp only [toPys, e1, e2], by simp only [PyData.canLayAll0, c1, c2, Bool.and_self], ?_⟩
    simp only [PyData.depthAll]
    omega
theorem nice_py : ∀ (n : Nat) (d : D), Nice n d → ∃ p, toPy d = some p ∧ p.canLay0 = true ∧ p.depth ≤ n
  | n, .non, _ => ⟨.none, by simp [toPy], by simp [PyData.canLay0], by simp [PyData.depth]⟩
  | n, .int i, _ => ⟨.int i, by simp [toPy], by simp [PyData.canLay0], by simp [PyData.depth]⟩
  | n + 1, .tup l, h => by
    obtain ⟨ps, e, c, k⟩ := nice_all (nice_py n) l h
    refine ⟨.tuple ps, by simp [toPy, e], by simpa [PyData.canLay0] using c, ?_⟩
    simp only [PyData.depth]; omega
  | n + 1, .lst l, h => by
    obtain ⟨ps, e, c, k⟩ := nice_all (nice_py n) l h
    refine ⟨.list ps, by simp [toPy, e], by simpa [PyData.canLay0] using c, ?_⟩
    simp only [PyData.depth]; omega
  | 0, .tup _, h => h.elim
  | 0, .lst _, h => h.elim
  | 0, .bl _, h => h.elim
  | 0, .str _, h => h.elim
  | 0, .dct _, h => h.elim
  | 0, .scr _, h => h.elim
  | 0, .rf _, h => h.elim
  | _ + 1, .bl _, h => h.elim
  | _ + 1, .str _, h => h.elim
  | _ + 1, .dct _, h => h.elim
  | _ + 1, .scr _, h => h.elim
  | _ + 1, .rf _, h => h.elim
theorem nice_eqvAll {n : Nat} (py : ∀ d, Nice n d → ∃ p, toPy d = some p) (ih : ∀ d e p q, Nice n d → Nice n e → toPy d = some p → toPy e = some q → (PyData.eqv p q = true ↔ d = e)) : ∀ (l m : List D) (ps qs : List PyData), (∀ d ∈ l, Nice n d) → (∀ d ∈ m, Nice n d) → toPys l = some ps → toPys m = some qs → (PyData.eqvAll ps qs = true ↔ l = m)
  | [], [], ps, qs, _, _, e1, e2 => by
    simp only [toPys, Option.some.injEq] at e1 e2; subst e1; subst e2; simp [PyData.eqvAll]
  | [], y :: t, ps, qs, _, h2, e1, e2 => by
    obtain ⟨q, hq⟩ := py y (h2 y List.mem_cons_self)
    simp only [toPys, Option.some.injEq] at e1; subst e1
    unfold toPys at e2
    cases e3 : toPys t with
    | none => rw [hq, e3] at e2; cases e2
    | some qs' => rw [hq, e3] at e2; cases e2; simp [PyData.eqvAll]
  | x :: r, [], ps, qs, h1, _, e1, e2 => by
    obtain ⟨q, hq⟩ := py x (h1 x List.mem_cons_self)
    simp only [toPys, Option.some.injEq] at e2; subst e2
    unfold toPys at e1
    cases e3 : toPys r with
    | none => rw [hq, e3] at e1; cases e1
    | some qs' => rw [hq, e3] at e1; cases e1; simp [PyData.eqvAll]
  | x :: r, y :: t, ps, qs, h1, h2, e1, e2 => by
    obtain ⟨p, hp⟩ := py x (h1 x List.mem_cons_self)
    obtain ⟨q, hq⟩ := py y (h2 y List.mem_cons_self)
    unfold toPys at e1 e2
    cases e3 : toPys r with
    | none => rw [hp, e3] at e1; cases e1
    | some ps' =>
      cases e4 : toPys t with
      | none => rw [hq, e4] at e2; cases e2
      | some qs' =>
        rw [hp, e3] at e1; cases e1
        rw [hq, e4] at e2; cases e2
        have k1 := ih x y p q (h1 x List.mem_cons_self) (h2 y List.mem_cons_self) hp hq
        have k2 := nice_eqvAll py ih r t ps' qs' (fun z hz => h1 z (List.mem_cons_of_mem _ hz)) (fun z hz => h2 z (List.mem_cons_of_mem _ hz)) e3 e4
        simp only [PyData.eqvAll, Bool.and_eq_true, k1, k2, List.cons.injEq]
theorem nice_eqv (n : Nat) : ∀ (d e : D) (p q : PyData), Nice n d → Nice n e → toPy d = some p → toPy e = some q → (PyData.eqv p q = true ↔ d = e) := by
  induction n with
  | zero =>
    intro d e p q h1 h2 e1 e2
    cases d <;> first | exact h1.elim | (cases e <;> first | exact h2.elim | (simp only [toPy, Option.some.injEq] at e1 e2; subst e1; subst e2; simp [PyData.eqv]))
  | succ n ih =>
    intro d e p q h1 h2 e1 e2
    have py : ∀ d, Nice n d → ∃ p, toPy d = some p := fun d h => by obtain ⟨p, e, _⟩ := nice_py n d h; exact ⟨p, e⟩
    cases d with
    | tup l =>
      simp only [toPy] at e1
      obtain ⟨ps, e3, rfl⟩ := Option.map_eq_some_iff.mp e1
      cases e with
      | tup m =>
        simp only [toPy] at e2
        obtain ⟨qs, e4, rfl⟩ := Option.map_eq_some_iff.mp e2
        simp only [PyData.eqv, D.tup.injEq]
        exact nice_eqvAll py ih l m ps qs h1 h2 e3 e4
      | lst m =>
        simp only [toPy] at e2
        obtain ⟨qs, e4, rfl⟩ := Option.map_eq_some_iff.mp e2
        simp [PyData.eqv]
      | non => simp only [toPy, Option.some.injEq] at e2; subst e2; simp [PyData.eqv]
      | int j => simp only [toPy, Option.some.injEq] at e2; subst e2; simp [PyData.eqv]
      | _ => exact h2.elim
    | lst l =>
      simp only [toPy] at e1
      obtain ⟨ps, e3, rfl⟩ := Option.map_eq_some_iff.mp e1
      cases e with
      | lst m =>
        simp only [toPy] at e2
        obtain ⟨qs, e4, rfl⟩ := Option.map_eq_some_iff.mp e2
        simp only [PyData.eqv, D.lst.injEq]
        exact nice_eqvAll py ih l m ps qs h1 h2 e3 e4
      | tup m =>
        simp only [toPy] at e2
        obtain ⟨qs, e4, rfl⟩ := Option.map_eq_some_iff.mp e2
        simp [PyData.eqv]
      | non => simp only [toPy, Option.some.injEq] at e2; subst e2; simp [PyData.eqv]
      | int j => simp only [toPy, Option.some.injEq] at e2; subst e2; simp [PyData.eqv]
      | _ => exact h2.elim
    | non =>
      simp only [toPy, Option.some.injEq] at e1; subst e1
      cases e with
      | tup m =>
        simp only [toPy] at e2
        obtain ⟨qs, e4, rfl⟩ := Option.map_eq_some_iff.mp e2
        simp [PyData.eqv]
      | lst m =>
        simp only [toPy] at e2
        obtain ⟨qs, e4, rfl⟩ := Option.map_eq_some_iff.mp e2
        simp [PyData.eqv]
      | non => simp only [toPy, Option.some.injEq] at e2; subst e2; simp [PyData.eqv]
      | int j => simp only [toPy, Option.some.injEq] at e2; subst e2; simp [PyData.eqv]
      | _ => exact h2.elim
    | int i =>
      simp only [toPy, Option.some.injEq] at e1; subst e1
      cases e with
      | tup m =>
        simp only [toPy] at e2
        obtain ⟨qs, e4, rfl⟩ := Option.map_eq_some_iff.mp e2
        simp [PyData.eqv]
      | lst m =>
        simp only [toPy] at e2
        obtain ⟨qs, e4, rfl⟩ := Option.map_eq_some_iff.mp e2
        simp [PyData.eqv]
      | non => simp only [toPy, Option.some.injEq] at e2; subst e2; simp [PyData.eqv]
      | int j => simp only [toPy, Option.some.injEq] at e2; subst e2; simp [PyData.eqv]
      | _ => exact h2.elim
    | _ => exact h1.elim
open Classical in
theorem eqPy_nice {n : Nat} {d e : D} (hn : n ≤ 60) (h1 : Nice n d) (h2 : Nice n e) : eqPy d e = some (decide (d = e)) := by
  obtain ⟨p, e1, c1, k1⟩ := nice_py n d h1
  obtain ⟨q, e2, c2, k2⟩ := nice_py n e h2
  unfold eqPy
  rw [e1, e2]
  have s1 : SeqAt.shaped p = true := by unfold SeqAt.shaped; simp [c1]; omega
  have s2 : SeqAt.shaped q = true := by unfold SeqAt.shaped; simp [c2]; omega
  simp only [s1, s2, Bool.and_self, if_true]
  have := nice_eqv n d e p q h1 h2 e1 e2
  by_cases z : d = e
  · rw [decide_eq_true z, this.mpr z]
  · rw [decide_eq_false z]
    congr 1
    cases w : PyData.eqv p q with
    | true => exact absurd (this.mp w) z
    | false => rfl
open Classical in
theorem eqD_nice {n : Nat} {d e : D} (hn : n ≤ 60) (h1 : Nice n d) (h2 : Nice n e) : eqD d e = some (decide (d = e)) := by
  unfold eqD
  split
  · congr 1; simp
  · cases n <;> exact h1.elim
  · exact eqPy_nice hn h1 h2
theorem dEq_nice (n : Nat) {d e : D} (h1 : Nice n d) (h2 : Nice n e) (hn : n ≤ 60 := by decide) : ∃ b, dEq d e = some (.bl b) ∧ dNe d e = some (.bl (!b)) ∧ (b = true ↔ d = e) := by
  classical
  refine ⟨decide (d = e), ?_, ?_, by simp⟩
  · unfold dEq; rw [eqD_nice hn h1 h2]; rfl
  · unfold dNe; rw [eqD_nice hn h1 h2]; rfl
theorem dEq_true (n : Nat) {d e : D} (h1 : Nice n d) (h2 : Nice n e) (h : d = e) (hn : n ≤ 60 := by decide) : dEq d e = some (.bl true) ∧ dNe d e = some (.bl false) := by
  obtain ⟨b, e1, e2, e3⟩ := dEq_nice n h1 h2 hn
  rw [e3.mpr h] at e1 e2
  exact ⟨e1, e2⟩
theorem dEq_false (n : Nat) {d e : D} (h1 : Nice n d) (h2 : Nice n e) (h : d ≠ e) (hn : n ≤ 60 := by decide) : dEq d e = some (.bl false) ∧ dNe d e = some (.bl true) := by
  obtain ⟨b, e1, e2, e3⟩ := dEq_nice n h1 h2 hn
  cases b with
  | true => exact absurd (e3.mp rfl) h
  | false => exact ⟨e1, e2⟩
/-- two lists of ints, of data -/
theorem dEq_empty {α : Type} (f : α → D) (h : ∀ x, Nice 5 (f x)) (l : List α) : dEq (.lst (l.map f)) (.lst []) = some (.bl l.isEmpty) ∧ dNe (.lst (l.map f)) (.lst []) = some (.bl (!l.isEmpty)) := by
  have n1 : Nice 6 (.lst (l.map f)) := by
    intro d hd
    obtain ⟨x, _, rfl⟩ := List.mem_map.mp hd
    exact h x
  have n2 : Nice 6 (.lst []) := fun d hd => by cases hd
  cases l with
  | nil => exact dEq_true 6 n1 n2 rfl
  | cons x r => exact dEq_false 6 n1 n2 (by intro q; cases q)
theorem dEq_emptyT {α : Type} (f : α → D) (h : ∀ x, Nice 5 (f x)) (l : List α) : dEq (.tup (l.map f)) (.tup []) = some (.bl l.isEmpty) ∧ dNe (.tup (l.map f)) (.tup []) = some (.bl (!l.isEmpty)) := by
  have n1 : Nice 6 (.tup (l.map f)) := by
    intro d hd
    obtain ⟨x, _, rfl⟩ := List.mem_map.mp hd
    exact h x
  have n2 : Nice 6 (.tup []) := fun d hd => by cases hd
  cases l with
  | nil => exact dEq_true 6 n1 n2 rfl
  | cons x r => exact dEq_false 6 n1 n2 (by intro q; cases q)
end TW
/-! Owned lists that are read for a moment: the expression's value leans on no heap. A pair of a value and a new list. -/
namespace TW
open PySem PySem.Spec PyProof.Rows L2 RZ
def scD : D → Bool
  | .non => true
  | .bl _ => true
  | .int _ => true
  | .str _ => true
  | _ => false
def lend : C → C
  | .ow _ l => .vl (.lst l)
  | .dc _ l => .vl (.dct l)
  | .un => .un
  | .vl d => .vl d
def lnd : List C → List C
  | [] => []
  | c :: r => lend c :: lnd r
theorem gt_lnd : ∀ (S : List C) (i : Nat), gt (lnd S) i = lend (gt S i)
  | [], _ => rfl
  | _ :: _, 0 => rfl
  | _ :: r, n + 1 => gt_lnd r n
theorem lnd_len : ∀ S : List C, (lnd S).length = S.length
  | [] => rfl
  | _ :: r => by show (lnd r).length + 1 = r.length + 1; rw [lnd_len r]
theorem lend_own (c : C) : (lend c).own = false := by cases c <;> rfl
section
variable {K : PySem.W.Frag} {B : Bs} {F F' H H' : Hp} {σ : L2.St} {S S' : List C}
theorem scD_any {v : V} {d : D} (h : Dr K F v d) (e : scD d = true) : Dr K F' v d := by
  cases h with
  | non => exact .non
  | bl b => exact .bl b
  | int i => exact .int i
  | str x => exact .str x
  | _ => cases e
theorem Rp.lend (h : Rp K B F H σ S) : Rp K ⟨H, H, none⟩ H H σ (lnd S) := by
  refine ⟨by rw [lnd_len]; exact h.len, Same.refl _, Same.refl _, fun a o e _ => e, fun a e => e, fun a e => (nomatch e), fun a _ e => e, fun i => ?_, fun i j a h1 => ?_⟩
  · rw [gt_lnd]
    have r := h.sl i
    cases e : gt S i with
    | un => trivial
    | vl d => rw [e] at r; obtain ⟨x, h1, h2⟩ := r; exact ⟨x, h1, h2.mono h.sub⟩
    | ow p l => rw [e] at r; obtain ⟨a, xs, h1, _, _, h4, h5⟩ := r; exact ⟨.ref a, h1, .lst h4 (DrL.of (Drs.mono h.sub h5))⟩
    | dc p l => rw [e] at r; obtain ⟨a, xs, h1, _, _, h4, h5⟩ := r; exact ⟨.ref a, h1, .dct h4 (DrK.of (Krs.mono h.sub h5))⟩
  · rw [gt_lnd, lend_own] at h1; cases h1
theorem Rp.back (h : Rp K B F H σ S) (h' : Rp K ⟨H, H, none⟩ F' H' σ S') : Rp K B F H' σ S := by
  have hh : Same H H' := fun a o e => h'.h0 a o e (fun q => nomatch q)
  exact h.mv ⟨Same.refl _, h.sub.trans hh, hh, fun _ _ e => e⟩
end
/-- an expression that reads owned lists, its value a scalar -/
def eLn (f : EM D) : EM D := fun S => match f (lnd S) with
  | some (.ok d _) => if scD d = true then some (.ok d S) else none
  | _ => none
def tLn (f : EM Bool) : EM Bool := fun S => match f (lnd S) with
  | some (.ok b _) => some (.ok b S)
  | _ => none
section
variable {X : Cx} {E : XK}
theorem ln_dr {K : PySem.W.Frag} {mg : Str → Option Value} {t : TE} {f : EM D} (h : EDr K mg E t f) : EDr K mg E t (eLn f) := by
  intro B F H σ S Q R q
  refine h ⟨H, H, none⟩ H H σ (lnd S) Q R.lend ?_
  unfold eLn at q
  cases e1 : f (lnd S) with
  | none => rw [e1] at q; exact q.elim
  | some r =>
    cases r with
    | er c p => rw [e1] at q; exact q.elim
    | ok d S' =>
      rw [e1] at q
      by_cases z : scD d = true
      · simp only [if_pos z] at q
        intro F' H' R' s' v hv
        exact q F H' (R.back R') (Same.refl _) v (scD_any hv z)
      · simp only [if_neg z] at q; exact q.elim
theorem tln_dr {K : PySem.W.Frag} {mg : Str → Option Value} {t : TT} {f : EM Bool} (h : TDr K mg E t f) : TDr K mg E t (tLn f) := by
  intro B F H σ S Q R q
  refine h ⟨H, H, none⟩ H H σ (lnd S) Q R.lend ?_
  unfold tLn at q
  cases e1 : f (lnd S) with
  | none => rw [e1] at q; exact q.elim
  | some r =>
    cases r with
    | er c p => rw [e1] at q; exact q.elim
    | ok d S' =>
      rw [e1] at q
      intro F' H' R' s'
      exact q F H' (R.back R') (Same.refl _)
theorem de_ln {e : Expr} {t : TE} {f : EM D} (h : ED X E e t f) : ED X E e t (eLn f) := ⟨h.pe, ln_dr h.dr⟩
theorem td_ln {e : Expr} {t : TT} {f : EM Bool} (h : TD X E e t f) : TD X E e t (tLn f) := ⟨h.pe, tln_dr h.dr⟩
end
/-- a, b = e, [] -/
def sParL (i j : Nat) (f : EM D) : SM := sBind f fun d S => some (.nx (st (st S i (.vl d)) j (.ow false [])))
section
variable {X : Cx} {E : XK} {pos : Pos}
theorem parL_dr {K : PySem.W.Frag} {mg : Str → Option Value} {i j : Nat} {te : TE} {f : EM D} (hij : i ≠ j) (h : EDr K mg E te f) : SDr K mg E (tPar i j (tCons te (tCons (tLst tNil) tNil))) (sParL i j f) := by
  intro B F H σ S D R q
  refine h B F H σ S _ R (PoS.bnd q fun d S1 F1 H1 R1 s1 h1 v hv => ?_)
  refine ⟨by show 0 ≤ sizeLine; decide, fun p hp => ?_⟩
  have x1 := Ext.newH R1.sub hp (.lst [])
  have R2 := R1.mv x1
  obtain ⟨hB, hno⟩ := Ext.none_of (F := F1) (H := H1) (F' := F1) (H' := H1) R1 hp
  refine ⟨v, .ref p, rfl, h1 F1 _ _ ((R2.set i hv).setOwn j upd_same (R1.sub.free hp) hB .nil fun k ho hs => ?_) (Same.refl _)⟩
  by_cases ek : k = i
  · subst ek
    by_cases hk : k < S1.length
    · rw [gt_st hk] at ho; cases ho
    · rw [gt_out (by rw [st_len]; omega)] at ho; cases ho
  · rw [gt_ne ek] at ho
    rw [sg_ne ek] at hs
    exact hno k ho hs
theorem sd_parL {i j : Nat} {x y : Str} {a : Expr} {te : TE} {f : EM D} {px py pt p2 : Pos} {kt k2 pt2} (he : ED X E a te f) (hc : X.calm = true) (hN : X.N.Nodup) (hi : X.N[i]? = some x) (hj : X.N[j]? = some y) (hij : i ≠ j)
    (hx : X.env.scope.names.lookup x = some .local) (hy : X.env.scope.names.lookup y = some .local)
    (hs1 : starEach [a, .List [] p2] X.env = (false, eval a X.env) :: starEach [.List [] p2] X.env := by rfl) (hs2 : starEach [.List [] p2] X.env = (false, eval (.List [] p2) X.env) :: starEach [] X.env := by rfl)
    (hw : swappedStores [.Tuple [.Name x px, .Name y py] kt pt] (.Tuple [a, .List [] p2] k2 pt2) X.env = pure (some [x, y]) := by rfl)
    (hs : swapsWithSole [.Tuple [.Name x px, .Name y py] kt pt] (.Tuple [a, .List [] p2] k2 pt2) pos.line X.env = pure false := by rfl) :
    SD X E (.Assign [.Tuple [.Name x px, .Name y py] kt pt] (.Tuple [a, .List [] p2] k2 pt2) pos) (tPar i j (tCons te (tCons (tLst tNil) tNil))) (sParL i j f) :=
  ⟨ps_par hc hN hi hj hij hx hy (pa_cons he.pe (pa_cons (pe_lst pa_nil) pa_nil hs2) hs1) hw hs, parL_dr hij he.dr⟩
end
end TW
/-! sorted of a list of data of any one shape -/
namespace TW
open PySem PySem.Spec PyProof.Rows L2 RZ PySem.W
def rSortG (K : PySem.W.Frag) : List V → Hp → VK → Prop := fun vs H Q => ∃ (a : Addr) (xs : List V) (ps : List PyData), vs = [V.ref a] ∧ SqL K H a xs ∧ DpAll K H xs ps ∧ AllAlike ps ∧ Sortable ps ∧ (∀ p ∈ ps, p.depth ≤ 60) ∧
  ∀ q, H q = none → Q (.ref q) (upd H q (.lst (((xs.zip ps).mergeSort (dataLe false fun z : V × PyData => z.2)).map (·.1))))
theorem each_zip1 : ∀ {xs : List V} {us : List Value} {ps : List PyData}, Vals xs us → xs.length = ps.length → EachIs (fun (v : Value) (b : V × PyData) => RelV b.1 v) us (xs.zip ps)
  | _, _, [], .nil, _ => .nil
  | _, _, p :: ps, .cons r t, h => .cons r (each_zip1 t (by simpa using h))
theorem each_zip2 {h : Heap} : ∀ {us : List Value} {xs : List V} {ps : List PyData} {as : List Addr}, ReadsAll h us ps as → xs.length = ps.length → EachIs (fun (v : Value) (b : V × PyData) => ∃ as, Reads h v b.2 as) us (xs.zip ps)
  | _, [], [], _, .nil, _ => .nil
  | _, x :: xs, p :: ps, _, .cons r t, h => .cons ⟨_, r⟩ (each_zip2 t (by simpa using h))
theorem vals_of_each : ∀ {us : List Value} {bs : List (V × PyData)}, EachIs (fun (v : Value) (b : V × PyData) => RelV b.1 v) us bs → Vals (bs.map (·.1)) us
  | _, _, .nil => .nil
  | _, _, .cons r t => .cons r (vals_of_each t)
theorem dpall_len {K : PySem.W.Frag} {H : Hp} : ∀ {xs : List V} {ps : List PyData}, DpAll K H xs ps → xs.length = ps.length
  | _, _, .nil => rfl
  | _, _, .cons _ t => by rw [List.length_cons, List.length_cons, dpall_len t]
theorem zip_snd {α β : Type} : ∀ {xs : List α} {ps : List β}, xs.length = ps.length → (xs.zip ps).map (·.2) = ps
  | [], [], _ => rfl
  | x :: xs, p :: ps, h => by
    rw [List.zip_cons_cons, List.map_cons, zip_snd (by simpa using h)]
theorem cr_sortG {X : Cx} (hu : X.A.units + 64 < cLine) : CallR X (.builtin "sorted") (rSortG X.K) := by
  intro pins s σ H vs us Q I r h
  obtain ⟨a, xs, ps, rfl, hs, hd, hal, hk, hdep, q⟩ := h
  obtain ⟨its, rv, hl, hz⟩ := I.list hs
  rw [Vals.ref1 r]
  obtain ⟨as, hr⟩ := Dp.readsAll I ps xs its hd rv
  have hlen := dpall_len hd
  have e2 : (xs.zip ps).map (fun z : V × PyData => z.2) = ps := zip_snd hlen
  refine sorted_data (bs := xs.zip ps) (enc := fun z : V × PyData => z.2) (R := fun (v : Value) (b : V × PyData) => RelV b.1 v) hl.isList (each_zip1 rv hlen) (each_zip2 hr hlen) (by rw [e2]; exact hal) (by rw [e2]; exact hk) (by rw [List.length_zip]; omega) (fun b hb => ?_) fun out ho eo => ?_
  · have := hdep b.2 (by rw [← e2]; exact List.mem_map_of_mem hb)
    omega
  · obtain ⟨ep, he'⟩ := PyProof.Rows.sortedAll_at s.heap its out.toArray
    have hlen2 : (((xs.zip ps).mergeSort (dataLe false fun z : V × PyData => z.2)).map (·.1)).length ≤ sizeLine := by
      rw [List.length_map, List.length_mergeSort, List.length_zip]; omega
    exact ⟨.ref _, upd H (s.heap.objs.size + 1) (.lst _), I.laid (t' := s.toks) (fun _ _ => PyProof.Rows.sortedAll_old) (Nat.le_succ _) ⟨hlen2, out, ep, vals_of_each eo, he'⟩, rfl, q _ (I.hok.fresh (Nat.le_succ _))⟩
open Classical in
/-- sorted, by the order of data -/
noncomputable def dSortG : List D → Option D
  | [.lst l] => match toPys l with
    | some ps => if AllAlike ps ∧ Sortable ps ∧ ∀ p ∈ ps, p.depth ≤ 60 then some (.lst (((l.zip ps).mergeSort (dataLe false fun z : D × PyData => z.2)).map (·.1))) else none
    | none => none
  | _ => none
theorem paired_sort {K : PySem.W.Frag} {F : Hp} {xs : List V} {ds : List D} {ps : List PyData} (h : Drs K F xs ds) (hl : ds.length = ps.length) :
    Drs K F (((xs.zip ps).mergeSort (dataLe false fun z : V × PyData => z.2)).map (·.1)) (((ds.zip ps).mergeSort (dataLe false fun z : D × PyData => z.2)).map (·.1)) := by
  have key : ∃ zs : List (V × D × PyData), zs.map (fun z => (z.1, z.2.2)) = xs.zip ps ∧ zs.map (fun z => (z.2.1, z.2.2)) = ds.zip ps ∧ ∀ z ∈ zs, Dr K F z.1 z.2.1 := by
    induction h generalizing ps with
    | nil => exact ⟨[], rfl, rfl, fun z hz => (List.not_mem_nil hz).elim⟩
    | @cons x d xs ds r _ ih =>
      cases ps with
      | nil => cases hl
      | cons p ps =>
        obtain ⟨zs, e1, e2, e3⟩ := ih (ps := ps) (by simpa using hl)
        refine ⟨(x, d, p) :: zs, by rw [List.map_cons, e1]; rfl, by rw [List.map_cons, e2]; rfl, fun z hz => ?_⟩
        rcases List.mem_cons.mp hz with rfl | hz
        · exact r
        · exact e3 z hz
  obtain ⟨zs, e1, e2, e3⟩ := key
  have f1 : (zs.mergeSort (dataLe false fun z : V × D × PyData => z.2.2)).map (fun z => (z.1, z.2.2)) = (xs.zip ps).mergeSort (dataLe false fun z : V × PyData => z.2) := by
    rw [← e1]; exact List.map_mergeSort fun _ _ _ _ => rfl
  have f2 : (zs.mergeSort (dataLe false fun z : V × D × PyData => z.2.2)).map (fun z => (z.2.1, z.2.2)) = (ds.zip ps).mergeSort (dataLe false fun z : D × PyData => z.2) := by
    rw [← e2]; exact List.map_mergeSort fun _ _ _ _ => rfl
  rw [← f1, ← f2, List.map_map, List.map_map]
  have : ∀ l : List (V × D × PyData), (∀ z ∈ l, Dr K F z.1 z.2.1) → Drs K F (l.map ((fun x : V × PyData => x.1) ∘ fun z => (z.1, z.2.2))) (l.map ((fun x : D × PyData => x.1) ∘ fun z => (z.2.1, z.2.2))) := by
    intro l
    induction l with
    | nil => exact fun _ => .nil
    | cons z r ih => exact fun h => .cons (h z List.mem_cons_self) (ih fun y hy => h y (List.mem_cons_of_mem _ hy))
  exact this _ fun z hz => e3 z (List.mem_mergeSort.mp hz)
theorem toPys_len : ∀ {l : List D} {ps : List PyData}, toPys l = some ps → l.length = ps.length
  | [], ps, h => by unfold toPys at h; cases h; rfl
  | d :: r, ps, h => by
    unfold toPys at h
    cases e1 : toPy d with
    | none => rw [e1] at h; cases h
    | some a =>
      cases e2 : toPys r with
      | none => rw [e1, e2] at h; cases h
      | some b =>
        rw [e1, e2] at h
        cases h
        rw [List.length_cons, List.length_cons, toPys_len e2]
theorem c_sortG {X : Cx} {K : PySem.W.Frag} (hu : X.A.units + 64 < cLine) (hK : X.K = K := by rfl) : CallD X (.builtin "sorted") (rSortG K) dSortG := by
  subst hK
  refine ⟨cr_sortG hu, fun mg E B F H σ S xs ds Q R hx q => ?_⟩
  unfold dSortG at q
  split at q
  · rename_i l0
    obtain ⟨x, rfl, h⟩ := Drs.one hx
    cases h with
    | @lst a xs _ ea la =>
      cases e : toPys l0 with
      | none => rw [e] at q; exact q.elim
      | some ps =>
        rw [e] at q
        simp only [] at q
        by_cases z : AllAlike ps ∧ Sortable ps ∧ ∀ p ∈ ps, p.depth ≤ 60
        · rw [if_pos z] at q
          refine ⟨a, xs, ps, rfl, SqL.of (R.sub _ _ ea), toPys_dp R.sub l0 la e, z.1, z.2.1, z.2.2, fun p hp => ?_⟩
          have x := Ext.new R.sub hp (.lst (((xs.zip ps).mergeSort (dataLe false fun z : V × PyData => z.2)).map (·.1)))
          exact q _ _ (R.mv x) x.f _ (.lst upd_same (DrL.of (Drs.mono x.f (paired_sort la.p (toPys_len e)))))
        · rw [if_neg z] at q; exact q.elim
  · exact q.elim
/-- sorted over things that are written as data -/
theorem dSortG_map {α : Type} (enc : α → D) (py : α → PyData) (l : List α) (he : ∀ x ∈ l, toPy (enc x) = some (py x)) (hal : ∀ x ∈ l, ∀ y ∈ l, alike (py x) (py y) = true) (hs : (∀ x ∈ l, ∃ a r, py x = .tuple (a :: r)) ∨ ∀ x ∈ l, py x ≠ .none ∧ ∀ xs, py x ≠ .tuple xs) (hd : ∀ x ∈ l, (py x).depth ≤ 60) :
    dSortG [.lst (l.map enc)] = some (.lst ((l.mergeSort (dataLe false py)).map enc)) := by
  have e1 : ∀ l : List α, (∀ x ∈ l, toPy (enc x) = some (py x)) → toPys (l.map enc) = some (l.map py) := by
    intro l
    induction l with
    | nil => exact fun _ => rfl
    | cons x r ih =>
      intro h
      rw [List.map_cons, List.map_cons]
      unfold toPys
      rw [h x List.mem_cons_self, ih fun y hy => h y (List.mem_cons_of_mem _ hy)]
  have e2 : (l.map enc).zip (l.map py) = l.map fun x => (enc x, py x) := by
    clear he hal hs hd
    induction l with
    | nil => rfl
    | cons x r ih => rw [List.map_cons, List.map_cons, List.zip_cons_cons, ih, List.map_cons]
  have e3 : (l.mergeSort (dataLe false py)).map (fun x => (enc x, py x)) = (l.map fun x => (enc x, py x)).mergeSort (dataLe false fun z : D × PyData => z.2) := List.map_mergeSort fun _ _ _ _ => rfl
  have hc : AllAlike (l.map py) ∧ Sortable (l.map py) ∧ ∀ p ∈ l.map py, p.depth ≤ 60 := by
    refine ⟨?_, ?_, ?_⟩
    · intro d hd d' hd'
      obtain ⟨x, hx, rfl⟩ := List.mem_map.mp hd
      obtain ⟨y, hy, rfl⟩ := List.mem_map.mp hd'
      exact hal x hx y hy
    · rcases hs with hs | hs
      · exact .inl fun d hd => by
          obtain ⟨x, hx, rfl⟩ := List.mem_map.mp hd
          exact hs x hx
      · exact .inr fun d hd => by
          obtain ⟨x, hx, rfl⟩ := List.mem_map.mp hd
          exact hs x hx
    · intro p hp
      obtain ⟨x, hx, rfl⟩ := List.mem_map.mp hp
      exact hd x hx
  unfold dSortG
  simp only [e1 l he]
  rw [if_pos hc, e2, ← e3, List.map_map]
  rfl
end TW
/-! Long chains of comparisons; a walk over an owned list. -/
namespace TW
open PySem PySem.Spec PyProof.Rows L2 RZ

/-! ### a < b <= c < .. -/
structure PCv (X : Cx) (pos : Pos) (ops : List CmpOp) (es : List Expr) (t : V → TE) : Prop where
  run : ∀ (pins : List (Addr × Obj)) (s : Shared) (σ : L2.St) (H : Hp) (Q : VK) (x : V) (v : Value), Inv X pins σ H s → RelV x v → t x σ H Q → wpAny (model X.prog X.w) X.A (compareChain pos v ops (evalEach es X.env)) (EP X pins σ Q) X.xe s
structure PCt (X : Cx) (pos : Pos) (ops : List CmpOp) (es : List Expr) (t : V → TT) : Prop where
  run : ∀ (pins : List (Addr × Obj)) (s : Shared) (σ : L2.St) (H : Hp) (Q : Bool → Hp → Prop) (x : V) (v : Value), Inv X pins σ H s → RelV x v → t x σ H Q → wpAny (model X.prog X.w) X.A (testChain pos v ops (evalEach es X.env)) (TP X pins σ Q) X.xe s
def tChL (r : R2) (tb : TE) : V → TE := fun x σ H Q => tb σ H fun y H2 => r x y H2 Q
def tChK (r : R2) (tb : TE) (t : V → TE) : V → TE := fun x σ H Q => tb σ H fun y H2 => r x y H2 fun z H3 => ∃ k, z = .bl k ∧ (if k = true then t y σ H3 Q else Q (.bl false) H3)
def tChLt (r : R2) (tb : TE) : V → TT := fun x σ H Q => tb σ H fun y H2 => r x y H2 fun z H3 => ∃ k, z = .bl k ∧ Q k H3
def tChKt (r : R2) (tb : TE) (t : V → TT) : V → TT := fun x σ H Q => tb σ H fun y H2 => r x y H2 fun z H3 => ∃ k, z = .bl k ∧ (if k = true then t y σ H3 Q else Q false H3)
section
variable {X : Cx} {pos : Pos} {a b c : Expr} {es : List Expr} {op op' : CmpOp} {ops : List CmpOp} {r : R2} {ta tb : TE}
theorem pcv_last (ho : OpR X (compareOp op) r) (hb : PE X b tb) : PCv X pos [op] [b] (tChL r tb) :=
  ⟨fun pins s σ H Q x v I rx q => chain_last (thn (hb.run pins s σ H _ I q) fun u s2 ⟨y, H2, I2, r2, q2⟩ => ho pins s2 σ H2 x y v u Q I2 rx r2 q2)⟩
theorem pcv_link {t : V → TE} (ho : OpR X (compareOp op) r) (hb : PE X b tb) (hr : PCv X pos (op' :: ops) (c :: es) t) : PCv X pos (op :: op' :: ops) (b :: c :: es) (tChK r tb t) := by
  refine ⟨fun pins s σ H Q x v I rx q => ?_⟩
  refine chain_link (thn (hb.run pins s σ H _ I q) fun u s2 ⟨y, H2, I2, r2, q2⟩ => thn (ho pins s2 σ H2 x y v u _ I2 rx r2 q2) fun d s3 ⟨z, H3, I3, r3, k, e, q3⟩ => ?_)
  subst e
  cases r3
  refine wpAny_truthy_bool ?_
  cases k with
  | false => exact ite_ff ⟨.bl false, H3, I3, rfl, q3⟩
  | true => exact ite_tt (hr.run pins s3 σ H3 Q y u I3 r2 q3)
theorem pct_last (ho : OpR X (compareOp op) r) (hb : PE X b tb) : PCt X pos [op] [b] (tChLt r tb) := by
  refine ⟨fun pins s σ H Q x v I rx q => test_last (thn (hb.run pins s σ H _ I q) fun u s2 ⟨y, H2, I2, r2, q2⟩ => thn (ho pins s2 σ H2 x y v u _ I2 rx r2 q2) fun d s3 ⟨z, H3, I3, r3, k, e, q3⟩ => ?_)⟩
  subst e
  cases r3
  exact wpAny_truthy_bool ⟨H3, I3, q3⟩
theorem pct_link {t : V → TT} (ho : OpR X (compareOp op) r) (hb : PE X b tb) (hr : PCt X pos (op' :: ops) (c :: es) t) : PCt X pos (op :: op' :: ops) (b :: c :: es) (tChKt r tb t) := by
  refine ⟨fun pins s σ H Q x v I rx q => ?_⟩
  refine test_link (thn (hb.run pins s σ H _ I q) fun u s2 ⟨y, H2, I2, r2, q2⟩ => thn (ho pins s2 σ H2 x y v u _ I2 rx r2 q2) fun d s3 ⟨z, H3, I3, r3, k, e, q3⟩ => ?_)
  subst e
  cases r3
  refine wpAny_truthy_bool ?_
  cases k with
  | false => exact ite_ff ⟨H3, I3, q3⟩
  | true => exact ite_tt (hr.run pins s3 σ H3 Q y u I3 r2 q3)
theorem pe_chN {t : V → TE} (ha : PE X a ta) (h : PCv X pos (op :: op' :: ops) (b :: c :: es) t) (hm : lastMarks (op :: op' :: ops) (b :: c :: es) = false) : PE X (.Compare a (op :: op' :: ops) (b :: c :: es) pos) (fun σ H Q => ta σ H fun x H1 => t x σ H1 Q) :=
  ⟨fun pins s σ H Q I q => Compare_chain (thn (ha.run pins s σ H _ I q) fun v s1 ⟨x, H1, I1, r1, q1⟩ => h.run pins s1 σ H1 Q x v I1 r1 q1) hm⟩
theorem pt_chN {t : V → TT} (ha : PE X a ta) (h : PCt X pos (op :: op' :: ops) (b :: c :: es) t) (hm : lastMarks (op :: op' :: ops) (b :: c :: es) = false) : PT X (.Compare a (op :: op' :: ops) (b :: c :: es) pos) (fun σ H Q => ta σ H fun x H1 => t x σ H1 Q) :=
  ⟨fun pins s σ H Q I q => isTrue_chain (thn (ha.run pins s σ H _ I q) fun v s1 ⟨x, H1, I1, r1, q1⟩ => h.run pins s1 σ H1 Q x v I1 r1 q1) hm⟩
end
def CVr (K : PySem.W.Frag) (mg : Str → Option Value) (E : XK) (t : V → TE) (f : D → EM D) : Prop :=
  ∀ B F H σ S (Q : VK) x dx, Rp K B F H σ S → Dr K F x dx → Po K mg E B F σ (fun d _ F' H' => ∀ v, Dr K F' v d → Q v H') (f dx S) → t x σ H Q
def CTr (K : PySem.W.Frag) (mg : Str → Option Value) (E : XK) (t : V → TT) (f : D → EM Bool) : Prop :=
  ∀ B F H σ S (Q : Bool → Hp → Prop) x dx, Rp K B F H σ S → Dr K F x dx → Po K mg E B F σ (fun b _ _ H' => Q b H') (f dx S) → t x σ H Q
structure CV (X : Cx) (E : XK) (pos : Pos) (ops : List CmpOp) (es : List Expr) (t : V → TE) (f : D → EM D) : Prop where
  pe : PCv X pos ops es t
  dr : CVr X.K X.mg E t f
structure CTD (X : Cx) (E : XK) (pos : Pos) (ops : List CmpOp) (es : List Expr) (t : V → TT) (f : D → EM Bool) : Prop where
  pe : PCt X pos ops es t
  dr : CTr X.K X.mg E t f
def asB (g : D → D → Option D) (x y : D) : EM Bool := fun S => match g x y with
  | some (.bl b) => some (.ok b S)
  | _ => none
def chL (g : D → D → Option D) (fb : EM D) : D → EM D := fun x => bnd fb fun y => lift (g x y)
def chK (g : D → D → Option D) (fb : EM D) (f : D → EM D) : D → EM D := fun x => bnd fb fun y => bnd (asB g x y) fun b => if b = true then f y else ret (.bl false)
def chLt (g : D → D → Option D) (fb : EM D) : D → EM Bool := fun x => bnd fb fun y => asB g x y
def chKt (g : D → D → Option D) (fb : EM D) (f : D → EM Bool) : D → EM Bool := fun x => bnd fb fun y => bnd (asB g x y) fun b => if b = true then f y else ret false
section
variable {X : Cx} {E : XK} {pos : Pos} {a b c : Expr} {es : List Expr} {op op' : CmpOp} {ops : List CmpOp} {r : R2} {g : D → D → Option D} {ta tb : TE} {fa fb : EM D}
theorem po_asB {K : PySem.W.Frag} {mg : Str → Option Value} {B : Bs} {F H : Hp} {σ : L2.St} {S : List C} {x y : D} {k : Bool → List C → Hp → Hp → Prop} (R : Rp K B F H σ S) (h : Po K mg E B F σ k (asB g x y S)) : ∃ bb, g x y = some (.bl bb) ∧ ∀ F' H', Rp K B F' H' σ S → Same F F' → k bb S F' H' := by
  unfold asB at h
  split at h
  · rename_i bb e; exact ⟨bb, e, h⟩
  · exact h.elim
theorem cv_last (o : OpD X (compareOp op) r g) (hb : ED X E b tb fb) : CV X E pos [op] [b] (tChL r tb) (chL g fb) := by
  refine ⟨pcv_last o.op hb.pe, fun B F H σ S Q x dx R hx q => ?_⟩
  refine hb.dr B F H σ S _ R (Po.thn q fun dy S1 F1 H1 R1 s1 h1 y hy => ?_)
  exact o.dr X.mg E B F1 H1 σ S1 x y dx dy Q R1 (hx.mono s1) hy h1
theorem asB_link (mg : Str → Option Value) (E : XK) {K : PySem.W.Frag} {B : Bs} {F H : Hp} {σ : L2.St} {S : List C} (o : OpD X (compareOp op) r g) (hK : X.K = K) {x y : V} {dx dy : D} (R : Rp K B F H σ S) (hx : Dr K F x dx) (hy : Dr K F y dy) {bb : Bool} (e : g dx dy = some (.bl bb)) {k : VK} (h : ∀ F' H', Rp K B F' H' σ S → Same F F' → k (.bl bb) H') : r x y H k := by
  subst hK
  refine o.dr mg E B F H σ S x y dx dy k R hx hy ?_
  rw [e]
  intro F' H' R' s v hv
  cases hv with
  | bl b => exact h F' H' R' s
theorem cv_link {t : V → TE} {f : D → EM D} (o : OpD X (compareOp op) r g) (hb : ED X E b tb fb) (hr : CV X E pos (op' :: ops) (c :: es) t f) : CV X E pos (op :: op' :: ops) (b :: c :: es) (tChK r tb t) (chK g fb f) := by
  refine ⟨pcv_link o.op hb.pe hr.pe, fun B F H σ S Q x dx R hx q => ?_⟩
  refine hb.dr B F H σ S _ R (Po.thn q fun dy S1 F1 H1 R1 s1 h1 y hy => ?_)
  obtain ⟨bb, e, h2⟩ := po_asB R1 (Po.bnd h1)
  refine asB_link X.mg E o rfl R1 (hx.mono s1) hy e fun F2 H2 R2 s2 => ⟨bb, rfl, ?_⟩
  have h3 := h2 F2 H2 R2 s2
  cases bb with
  | true => rw [if_pos rfl] at h3 ⊢; exact hr.dr B F2 H2 σ S1 Q y dy R2 (hy.mono s2) h3
  | false => rw [if_neg Bool.false_ne_true] at h3 ⊢; exact h3 F2 H2 R2 (Same.refl _) _ (.bl false)
theorem ctd_last (o : OpD X (compareOp op) r g) (hb : ED X E b tb fb) : CTD X E pos [op] [b] (tChLt r tb) (chLt g fb) := by
  refine ⟨pct_last o.op hb.pe, fun B F H σ S Q x dx R hx q => ?_⟩
  refine hb.dr B F H σ S _ R (Po.thn q fun dy S1 F1 H1 R1 s1 h1 y hy => ?_)
  obtain ⟨bb, e, h2⟩ := po_asB R1 h1
  exact asB_link X.mg E o rfl R1 (hx.mono s1) hy e fun F2 H2 R2 s2 => ⟨bb, rfl, h2 F2 H2 R2 s2⟩
theorem ctd_link {t : V → TT} {f : D → EM Bool} (o : OpD X (compareOp op) r g) (hb : ED X E b tb fb) (hr : CTD X E pos (op' :: ops) (c :: es) t f) : CTD X E pos (op :: op' :: ops) (b :: c :: es) (tChKt r tb t) (chKt g fb f) := by
  refine ⟨pct_link o.op hb.pe hr.pe, fun B F H σ S Q x dx R hx q => ?_⟩
  refine hb.dr B F H σ S _ R (Po.thn q fun dy S1 F1 H1 R1 s1 h1 y hy => ?_)
  obtain ⟨bb, e, h2⟩ := po_asB R1 (Po.bnd h1)
  refine asB_link X.mg E o rfl R1 (hx.mono s1) hy e fun F2 H2 R2 s2 => ⟨bb, rfl, ?_⟩
  have h3 := h2 F2 H2 R2 s2
  cases bb with
  | true => rw [if_pos rfl] at h3 ⊢; exact hr.dr B F2 H2 σ S1 Q y dy R2 (hy.mono s2) h3
  | false => rw [if_neg Bool.false_ne_true] at h3 ⊢; exact h3 F2 H2 R2 (Same.refl _)
theorem de_chN {t : V → TE} {f : D → EM D} (ha : ED X E a ta fa) (h : CV X E pos (op :: op' :: ops) (b :: c :: es) t f) (hm : lastMarks (op :: op' :: ops) (b :: c :: es) = false := by with_unfolding_all rfl) :
    ED X E (.Compare a (op :: op' :: ops) (b :: c :: es) pos) (fun σ H Q => ta σ H fun x H1 => t x σ H1 Q) (bnd fa f) :=
  ⟨pe_chN ha.pe h.pe hm, fun B F H σ S Q R q => ha.dr B F H σ S _ R (Po.thn q fun dx S1 F1 H1 R1 s1 h1 x hx => h.dr B F1 H1 σ S1 Q x dx R1 hx h1)⟩
theorem td_chN {t : V → TT} {f : D → EM Bool} (ha : ED X E a ta fa) (h : CTD X E pos (op :: op' :: ops) (b :: c :: es) t f) (hm : lastMarks (op :: op' :: ops) (b :: c :: es) = false := by with_unfolding_all rfl) :
    TD X E (.Compare a (op :: op' :: ops) (b :: c :: es) pos) (fun σ H Q => ta σ H fun x H1 => t x σ H1 Q) (bnd fa f) :=
  ⟨pt_chN ha.pe h.pe hm, fun B F H σ S Q R q => ha.dr B F H σ S _ R (Po.thn q fun dx S1 F1 H1 R1 s1 h1 x hx => h.dr B F1 H1 σ S1 Q x dx R1 hx h1)⟩
end

/-! ### for over an owned list: what is owned stands pinned meanwhile -/
def pin1 (a : Addr) : C → C
  | .ow _ _ => .vl (.rf a)
  | .dc _ _ => .vl (.rf a)
  | .un => .un
  | .vl d => .vl d
def pinA (as : Nat → Addr) : Nat → List C → List C
  | _, [] => []
  | k, c :: r => pin1 (as k) c :: pinA as (k + 1) r
theorem gt_pin (as : Nat → Addr) : ∀ (S : List C) (k i : Nat), gt (pinA as k S) i = pin1 (as (k + i)) (gt S i)
  | [], _, _ => rfl
  | _ :: _, k, 0 => rfl
  | _ :: r, k, i + 1 => by
    show gt (pinA as (k + 1) r) i = _
    rw [gt_pin as r (k + 1) i, show k + 1 + i = k + (i + 1) by omega]; rfl
theorem pin_len (as : Nat → Addr) : ∀ (S : List C) (k : Nat), (pinA as k S).length = S.length
  | [], _ => rfl
  | _ :: r, k => by show (pinA as (k + 1) r).length + 1 = r.length + 1; rw [pin_len as r]
theorem pin1_own (a : Addr) (c : C) : (pin1 a c).own = false := by cases c <;> rfl
theorem gt_ext : ∀ {S T : List C}, S.length = T.length → (∀ i, gt S i = gt T i) → S = T
  | [], [], _, _ => rfl
  | _ :: _, [], h, _ => by cases h
  | [], _ :: _, h, _ => by cases h
  | c :: r, d :: t, h, k => by
    have e : c = d := k 0
    rw [e, gt_ext (S := r) (T := t) (by simpa using h) fun i => k (i + 1)]
structure PinOk (S S2 : List C) : Prop where
  len : S2.length = S.length
  keep : ∀ j, (gt S j).own = true → gt S2 j = gt S j
  none : ∀ j, (gt S2 j).own = true → (gt S j).own = true
theorem pin_inj {S T U : List C} (h1 : PinOk S T) (h2 : PinOk S U) {as : Nat → Addr} (e : pinA as 0 T = pinA as 0 U) : T = U := by
  refine gt_ext (by rw [h1.len, h2.len]) fun i => ?_
  have e1 := congrArg (fun z => gt z i) e
  simp only [gt_pin] at e1
  cases q : (gt S i).own with
  | true => rw [h1.keep i q, h2.keep i q]
  | false =>
    have n1 : (gt T i).own = false := by
      cases z : (gt T i).own with
      | false => rfl
      | true => rw [h1.none i z] at q; cases q
    have n2 : (gt U i).own = false := by
      cases z : (gt U i).own with
      | false => rfl
      | true => rw [h2.none i z] at q; cases q
    have id1 : ∀ c : C, c.own = false → pin1 (as (0 + i)) c = c := fun c hc => by cases c <;> first | rfl | cases hc
    rw [id1 _ n1, id1 _ n2] at e1
    exact e1
theorem PinOk.nil : PinOk [] [] := ⟨rfl, fun _ h => (by cases h), fun _ h => (by cases h)⟩
theorem PinOk.cons {c d : C} {r t : List C} (h1 : c.own = true → d = c) (h2 : d.own = true → c.own = true) (h : PinOk r t) : PinOk (c :: r) (d :: t) := by
  refine ⟨by rw [List.length_cons, List.length_cons, h.len], fun j q => ?_, fun j q => ?_⟩
  · cases j with
    | zero => exact h1 q
    | succ j => exact h.keep j q
  · cases j with
    | zero => exact h2 q
    | succ j => exact h.none j q
theorem PinOk.same {c : C} {r t : List C} (h : PinOk r t) : PinOk (c :: r) (c :: t) := .cons (fun _ => rfl) id h
theorem PinOk.vl {c : C} {d : D} {r t : List C} (hc : c.own = false) (h : PinOk r t) : PinOk (c :: r) (.vl d :: t) := .cons (fun q => by rw [hc] at q; cases q) (fun q => by cases q) h
def asOf (σ : L2.St) (j : Nat) : Addr := match sg σ j with
  | some (.ref a) => a
  | _ => 0
section
variable {K : PySem.W.Frag} {B : Bs} {F F' H H' : Hp} {σ σ' : L2.St} {S S2 : List C}
theorem Rp.own_as (R : Rp K B F H σ S) {i : Nat} (h : (gt S i).own = true) : sg σ i = some (.ref (asOf σ i)) ∧ F (asOf σ i) = none ∧ H (asOf σ i) ≠ none := by
  have r := R.sl i
  cases e : gt S i with
  | ow p l =>
    rw [e] at r
    obtain ⟨a, xs, h1, h2, h3, h4, h5⟩ := r
    have : asOf σ i = a := by unfold asOf; rw [h1]
    rw [this]
    exact ⟨h1, h2, by rw [h4]; simp⟩
  | dc p l =>
    rw [e] at r
    obtain ⟨a, xs, h1, h2, h3, h4, h5⟩ := r
    have : asOf σ i = a := by unfold asOf; rw [h1]
    rw [this]
    exact ⟨h1, h2, by rw [h4]; simp⟩
  | un => rw [e] at h; cases h
  | vl d => rw [e] at h; cases h
theorem Rp.pin (R : Rp K B F H σ S) : Rp K ⟨F, H, none⟩ F H σ (pinA (asOf σ) 0 S) := by
  refine ⟨by rw [pin_len]; exact R.len, R.sub, Same.refl _, fun a o e _ => e, fun a e => e, fun a e => (nomatch e), fun a _ e => e, fun i => ?_, fun i j a h1 => ?_⟩
  · rw [gt_pin, Nat.zero_add]
    have r := R.sl i
    cases e : gt S i with
    | un => trivial
    | vl d => rw [e] at r; exact r
    | ow p l => exact ⟨_, (R.own_as (i := i) (by rw [e]; rfl)).1, .rf _⟩
    | dc p l => exact ⟨_, (R.own_as (i := i) (by rw [e]; rfl)).1, .rf _⟩
  · rw [gt_pin, pin1_own] at h1; cases h1
theorem Rp.unpin (R : Rp K B F H σ S) (ok : PinOk S S2) (R' : Rp K ⟨F, H, none⟩ F' H' σ' (pinA (asOf σ) 0 S2)) : Rp K B F' H' σ' S2 := by
  have hh : Same H H' := fun a o e => R'.h0 a o e (fun q => nomatch q)
  have adr : ∀ i, (gt S2 i).own = true → sg σ' i = some (.ref (asOf σ i)) := fun i hi => by
    have r := R'.sl i
    rw [gt_pin, Nat.zero_add] at r
    cases e : gt S2 i with
    | ow p l => rw [e] at r; obtain ⟨x, h1, h2⟩ := r; cases h2; exact h1
    | dc p l => rw [e] at r; obtain ⟨x, h1, h2⟩ := r; cases h2; exact h1
    | un => rw [e] at hi; cases hi
    | vl d => rw [e] at hi; cases hi
  refine ⟨by have := R'.len; rw [pin_len] at this; exact this, R'.sub, R.f0.trans R'.f0, fun a o h1 h2 => hh _ _ (R.h0 a o h1 h2), fun a h1 => R'.h1 a (R.h1 a h1), R.m1, fun a h1 h2 => R'.fr a (R.h1 a h1) (R.fr a h1 h2), fun i => ?_, fun i j a h1 h2 h3 h4 => ?_⟩
  · cases e : gt S2 i with
    | un => trivial
    | vl d =>
      have r := R'.sl i
      rw [gt_pin, e] at r
      exact r
    | ow p l =>
      have o2 : (gt S2 i).own = true := by rw [e]; rfl
      have o1 := ok.none i o2
      have e1 : gt S i = .ow p l := by rw [← ok.keep i o1]; exact e
      obtain ⟨a, xs, h1, h2, h3, h4, h5⟩ := R.owl e1
      have ea : asOf σ i = a := by unfold asOf; rw [h1]
      have h6 := adr i o2
      rw [ea] at h6
      exact ⟨a, xs, h6, R'.fr a (by show H a ≠ none; rw [h4]; simp) h2, h3, hh _ _ h4, Drs.mono R'.f0 h5⟩
    | dc p l =>
      have o2 : (gt S2 i).own = true := by rw [e]; rfl
      have o1 := ok.none i o2
      have e1 : gt S i = .dc p l := by rw [← ok.keep i o1]; exact e
      obtain ⟨a, xs, h1, h2, h3, h4, h5⟩ := R.dcl e1
      have ea : asOf σ i = a := by unfold asOf; rw [h1]
      have h6 := adr i o2
      rw [ea] at h6
      exact ⟨a, xs, h6, R'.fr a (by show H a ≠ none; rw [h4]; simp) h2, h3, hh _ _ h4, Krs.mono R'.f0 h5⟩
  · have a1 := adr i h1
    have a2 := adr j h2
    rw [a1] at h3
    rw [a2] at h4
    have b1 := (R.own_as (ok.none i h1)).1
    have b2 := (R.own_as (ok.none j h2)).1
    have e3 : asOf σ i = a := by cases h3; rfl
    have e4 : asOf σ j = a := by cases h4; rfl
    rw [e3] at b1
    rw [e4] at b2
    exact R.nd i j a (ok.none i h1) (ok.none j h2) b1 b2
end
open Classical in
noncomputable def sForO (i : Nat) (g : GF) (body : SM) : SM := fun S => match gt S i with
  | .ow _ l => if h : ∃ S2 : List C, PinOk S S2 ∧ ∀ as, forGo g body l (pinA as 0 S) = some (.nx (pinA as 0 S2)) then some (.nx (Classical.choose h)) else none
  | _ => none
theorem sForO_ap {i : Nat} {g : GF} {body : SM} {S S2 : List C} {p : Bool} {l : List D} (hl : gt S i = .ow p l) (ok : PinOk S S2) (h : ∀ as, forGo g body l (pinA as 0 S) = some (.nx (pinA as 0 S2))) : sForO i g body S = some (.nx S2) := by
  have hx : ∃ S2 : List C, PinOk S S2 ∧ ∀ as, forGo g body l (pinA as 0 S) = some (.nx (pinA as 0 S2)) := ⟨S2, ok, h⟩
  unfold sForO
  rw [hl]
  simp only [dif_pos hx]
  have hc := Classical.choose_spec hx
  have e := (hc.2 fun _ => 0).symm.trans (h fun _ => 0)
  have e' : pinA (fun _ => 0) 0 (Classical.choose hx) = pinA (fun _ => 0) 0 S2 := by
    injection e with e; injection e
  rw [pin_inj hc.1 ok e']
section
variable {X : Cx} {E : XK} {pos : Pos}
theorem forO_dr {K : PySem.W.Frag} {mg : Str → Option Value} {i0 : Nat} {g : TG} {tb : TS} {gd : GF} {ix : List Nat} {fb : SM} (hg : GDr K g gd ix) (hb : SDr K mg E tb fb) : SDr K mg E (tFor (iSeq K (tVar i0)) g tb) (sForO i0 gd fb) := by
  intro B F H σ S D R q
  unfold sForO at q
  cases e0 : gt S i0 with
  | ow p l =>
    rw [e0] at q
    simp only [] at q
    by_cases hx : ∃ S2 : List C, PinOk S S2 ∧ ∀ as, forGo gd fb l (pinA as 0 S) = some (.nx (pinA as 0 S2))
    · rw [dif_pos hx] at q
      obtain ⟨ok, hgo0⟩ := Classical.choose_spec hx
      generalize Classical.choose hx = S2 at *
      obtain ⟨a, xs, h1, h2, h3, h4, h5⟩ := R.owl e0
      have R1 := R.pin
      have hlen := Paired.len h5
      refine ⟨.ref a, sg_some h1, a, rfl, .inl ⟨xs, SqL.of h4, ?_⟩⟩
      refine ⟨fun i m σx Hx => ∃ Fx Sx, i + m = l.length ∧ Same F Fx ∧ Rp K ⟨F, H, none⟩ Fx Hx σx Sx ∧ PoS K mg E ⟨F, H, none⟩ Fx D (forGo gd fb (l.drop i) Sx), ⟨l.length, F, _, Nat.zero_add _, Same.refl _, R1, ?_⟩, fun i m σx Hx hW => ?_⟩
      · rw [List.drop_zero, hgo0 (asOf σ)]
        exact fun F' H' σ' R' s' => q F' H' σ' (R.unpin ok R') s'
      obtain ⟨Fx, Sx, em, sx, Rx, hgo⟩ := hW
      have ha : Hx a = some (.lst xs) := Rx.h0 a _ h4 (fun q => nomatch q)
      by_cases hi' : i < l.length
      · refine .inr ?_
        obtain ⟨x, hx1, hd⟩ := Paired.get? h5 (List.getElem?_eq_getElem hi')
        refine ⟨⟨xs, x, SqL.of ha, hx1⟩, fun σy Hy => ∃ Fy Sy, i + 1 + (m - 1) = l.length ∧ Same F Fy ∧ Rp K ⟨F, H, none⟩ Fy Hy σy Sy ∧ PoS K mg E ⟨F, H, none⟩ Fy D (forGo gd fb (l.drop (i + 1)) Sy), fun σy Hy hy => ⟨m - 1, by omega, hy⟩, fun y Hy hy => ?_⟩
        obtain ⟨rfl, qy⟩ := hy
        have ey := qy xs (SqL.of ha)
        rw [hx1] at ey
        cases ey
        have dr : l.drop i = l[i] :: l.drop (i + 1) := List.drop_eq_getElem_cons hi'
        rw [dr] at hgo
        unfold forGo at hgo
        cases e2 : gd l[i] Sx with
        | none => simp only [e2] at hgo; exact hgo.elim
        | some S3 =>
          simp only [e2] at hgo
          refine hg ⟨F, H, none⟩ Fx _ σx Sx x _ S3 _ Rx (hd.mono sx) e2 fun σ' R3 _ => ?_
          refine hb ⟨F, H, none⟩ Fx _ σ' S3 _ R3 ?_
          cases e3 : fb S3 with
          | none => rw [e3] at hgo; exact hgo.elim
          | some o =>
            cases o with
            | nx S4 =>
              simp only [e3] at hgo
              exact fun F3 H3 σ3 R4 s4 => ⟨F3, S4, by omega, sx.trans s4, R4, PoS.weak s4 hgo⟩
            | ct S4 =>
              simp only [e3] at hgo
              exact fun F3 H3 σ3 R4 s4 => ⟨F3, S4, by omega, sx.trans s4, R4, PoS.weak s4 hgo⟩
            | bk S4 =>
              simp only [e3] at hgo
              exact fun F3 H3 σ3 R4 s4 => hgo F3 H3 σ3 R4 s4
            | rt d S4 =>
              simp only [e3] at hgo
              exact fun F3 H3 σ3 v R4 s4 => hgo F3 H3 σ3 v R4 s4
            | ro l S4 =>
              simp only [e3] at hgo
              exact fun F3 H3 σ3 a xs R4 s4 => hgo F3 H3 σ3 a xs R4 s4
            | er c p =>
              simp only [e3] at hgo
              exact hgo
      · refine .inl ⟨⟨xs, SqL.of ha, by omega⟩, ?_⟩
        have dr : l.drop i = [] := List.drop_of_length_le (by omega)
        rw [dr] at hgo
        exact hgo Fx Hx σx Rx (Same.refl _)
    · rw [dif_neg hx] at q; exact q.elim
  | un => rw [e0] at q; exact q.elim
  | vl d => rw [e0] at q; exact q.elim
  | dc p l => rw [e0] at q; exact q.elim
theorem sd_forO {i : Nat} {x : Str} {p1 : Pos} {tg : Expr} {body : List Stmt} {g : TG} {tb : TS} {gd : GF} {ix : List Nat} {fb : SM} (hp : PassesOwn (model X.prog X.w) X.A X.env X.xe) (hc : X.calm = true) (hg : GD X tg g gd ix) (hb : SsD X E body tb fb)
    (hN : X.N[i]? = some x := by rfl) (hv : Vis X.env.scope x := by first | exact Or.inl rfl | exact Or.inr (Or.inl rfl) | exact Or.inr (Or.inr rfl)) (hd : (x == ("__debug__" : Str)) = false := by decide)
    (hcd : (x == ("__classdict__" : Str)) = false := by decide) (hs : ∀ z, foldedSetIterable (.Name x p1) X.env z = pure z := by intro _; rfl) {K : PySem.W.Frag} (hK : X.K = K := by rfl) :
    SD X E (.For tg (.Name x p1) body [] pos) (tFor (iSeq K (tVar i)) g tb) (sForO i gd fb) := by
  subst hK
  exact ⟨ps_for hp hc (pi_seq (pe_var hN hv hd hcd)) hg.pg hb.ps hs, forO_dr hg.dr hb.dr⟩
end
end TW
/-! further evaluation rules -/
namespace TW
open PySem PyProof.Rows L2
section
variable {S : List C}
theorem eLn_ap {f : EM D} : eLn f S = match f (lnd S) with
  | some (.ok d _) => if scD d = true then some (.ok d S) else none
  | _ => none := (rfl)
theorem tLn_ap {f : EM Bool} : tLn f S = match f (lnd S) with
  | some (.ok b _) => some (.ok b S)
  | _ => none := (rfl)
theorem lnd_nil : lnd [] = [] := (rfl)
theorem lnd_cons {c : C} {r : List C} : lnd (c :: r) = lend c :: lnd r := (rfl)
theorem lend_ow {p : Bool} {l : List D} : lend (.ow p l) = .vl (.lst l) := (rfl)
theorem lend_dc {p : Bool} {l : List (Int × D)} : lend (.dc p l) = .vl (.dct l) := (rfl)
theorem lend_un : lend .un = .un := (rfl)
theorem lend_vl {d : D} : lend (.vl d) = .vl d := (rfl)
theorem scD_bl {b : Bool} : scD (.bl b) = true := (rfl)
theorem scD_int {i : Int} : scD (.int i) = true := (rfl)
theorem scD_non : scD .non = true := (rfl)
theorem scD_str {x : Str} : scD (.str x) = true := (rfl)
theorem sParL_ap {i j : Nat} {f : EM D} : sParL i j f S = match f S with
  | none => none
  | some (.er c p) => some (.er c p)
  | some (.ok d S) => some (.nx (st (st S i (.vl d)) j (.ow false []))) := by
  unfold sParL sBind
  cases f S with
  | none => rfl
  | some r => cases r <;> rfl
theorem frz_ap {i : Nat} : frz i S = match gt S i with
  | .ow false l => st S i (.vl (.lst l))
  | .dc false l => st S i (.vl (.dct l))
  | _ => S := (rfl)
theorem chL_ap {g : D → D → Option D} {fb : EM D} {x : D} : chL g fb x S = bnd fb (fun y => lift (g x y)) S := (rfl)
theorem chK_ap {g : D → D → Option D} {fb : EM D} {f : D → EM D} {x : D} : chK g fb f x S = bnd fb (fun y => bnd (asB g x y) fun b => if b = true then f y else ret (.bl false)) S := (rfl)
theorem chLt_ap {g : D → D → Option D} {fb : EM D} {x : D} : chLt g fb x S = bnd fb (fun y => asB g x y) S := (rfl)
theorem chKt_ap {g : D → D → Option D} {fb : EM D} {f : D → EM Bool} {x : D} : chKt g fb f x S = bnd fb (fun y => bnd (asB g x y) fun b => if b = true then f y else ret false) S := (rfl)
theorem asB_ap {g : D → D → Option D} {x y : D} : asB g x y S = match g x y with
  | some (.bl b) => some (.ok b S)
  | _ => none := (rfl)
theorem pinA_nil {as : Nat → Addr} {k : Nat} : pinA as k [] = [] := (rfl)
theorem pinA_cons {as : Nat → Addr} {k : Nat} {c : C} {r : List C} : pinA as k (c :: r) = pin1 (as k) c :: pinA as (k + 1) r := (rfl)
theorem pin1_ow {a : Addr} {p : Bool} {l : List D} : pin1 a (.ow p l) = .vl (.rf a) := (rfl)
theorem pin1_un {a : Addr} : pin1 a .un = .un := (rfl)
theorem pin1_vl {a : Addr} {d : D} : pin1 a (.vl d) = .vl d := (rfl)
end
end TW
namespace TW
open PySem L2
noncomputable section
def b_is_integer : SM :=
    (sRet (eAnd (eIsi .int (eV 0)) (eNot (eIsi .bool (eV 0)))))
def m_is_integer : List D → Option Cr := fin0 1 0 b_is_integer
def b_in_range : SM :=
    (sRet (eAnd (eCall m_is_integer (aC (eV 0) aN)) (e3 dLe dLe (eV 1) (eV 0) (eV 2))))
def m_in_range : List D → Option Cr := fin0 3 0 b_in_range
def b_is_window : SM :=
    (sSeq (sIf (tOr' (tNot' (eB (eIsi .tuple (eV 0)))) (eB (e2 dNe (eB1 dLen (aC (eV 0) aN)) (eC (.int 2)))))
    (sRet (eC (.bl false)))
    sNext)
    (sRet (eAnd (eCall m_in_range (aC (e2 dIx (eV 0) (eC (.int 0))) (aC (eC (.int 0)) (aC (eC (.int (1000))) aN)))) (eCall m_in_range (aC (e2 dIx (eV 0) (eC (.int 1))) (aC (e2 dIx (eV 0) (eC (.int 0))) (aC (eC (.int (1000))) aN)))))))
def m_is_window : List D → Option Cr := fin0 1 0 b_is_window
def C_is_windows_1 : EM D :=
    (lcE [1] (iS (eV 0)) (gN 1) (ret true) (eCall m_is_window (aC (eV 1) aN)))
def b_is_windows : SM :=
    (sRet (eAnd (eIsi .tuple (eV 0)) (eAnd (e2 dLe (eB1 dLen (aC (eV 0) aN)) (eC (.int (8)))) (eB1 dAll (aC C_is_windows_1 aN)))))
def m_is_windows : List D → Option Cr := fin0 1 1 b_is_windows
def b_check_windows : SM :=
    (sIf (tNot' (eB (eCall m_is_windows (aC (eV 0) aN))))
    sNever
    sNext)
def m_check_windows : List D → Option Cr := fin0 1 0 b_check_windows
def b_is_tally : SM :=
    (sSeq (sIf (tOr' (tNot' (eB (eIsi .tuple (eV 1)))) (tOr' (eB (e2 dNe (eB1 dLen (aC (eV 1) aN)) (eC (.int 3)))) (tNot' (eB (eCall m_in_range (aC (e2 dIx (eV 1) (eC (.int 0))) (aC (eC (.int 0)) (aC (eC (.int (1000))) aN))))))))
    (sRet (eC (.bl false)))
    sNext)
    (sRet (eAnd (eCall m_in_range (aC (e2 dIx (eV 1) (eC (.int 1))) (aC (eC (.int 0)) (aC (eB1 dLen (aC (eV 0) aN)) aN)))) (eCall m_in_range (aC (e2 dIx (eV 1) (eC (.int 2))) (aC (e2 dIx (eV 1) (eC (.int 1))) (aC (eB1 dLen (aC (eV 0) aN)) aN)))))))
def m_is_tally : List D → Option Cr := fin0 2 0 b_is_tally
def C_are_tallies_1 : EM D :=
    (lcE [2] (iS (eV 1)) (gN 2) (ret true) (eCall m_is_tally (aC (eV 0) (aC (eV 2) aN))))
def C_are_tallies_2 : EM D :=
    (lcE [2, 3] (iZ (aC (eV 1) (aC (eSl (eV 1) (oS (eC (.int 1))) (ret none)) aN))) (gT [2, 3]) (ret true) (e2 dLt (e2 dIx (eV 2) (eC (.int 0))) (e2 dIx (eV 3) (eC (.int 0)))))
def b_are_tallies : SM :=
    (sSeq (sIf (tOr' (tNot' (eB (eIsi .tuple (eV 1)))) (eB (e2 dGt (eB1 dLen (aC (eV 1) aN)) (eC (.int (6))))))
    (sRet (eC (.bl false)))
    sNext)
    (sSeq (sIf (tNot' (eB (eB1 dAll (aC C_are_tallies_1 aN))))
    (sRet (eC (.bl false)))
    sNext)
    (sRet (eB1 dAll (aC C_are_tallies_2 aN)))))
def m_are_tallies : List D → Option Cr := fin0 2 2 b_are_tallies
def b_check_both : SM :=
    (sSeq (sExpr (eCall m_check_windows (aC (eV 0) aN)))
    (sIf (tNot' (eB (eCall m_are_tallies (aC (eV 0) (aC (eV 1) aN)))))
    sNever
    sNext))
def m_check_both : List D → Option Cr := fin0 2 0 b_check_both
def b_check_time : SM :=
    (sIf (tNot' (eB (eCall m_in_range (aC (eV 0) (aC (eC (.int 0)) (aC (eC (.int (1000))) aN))))))
    sNever
    sNext)
def m_check_time : List D → Option Cr := fin0 1 0 b_check_time
def b_check_event : SM :=
    (sIf (tNot' (eB (eCall m_in_range (aC (eV 1) (aC (eC (.int 0)) (aC (e2 dSub (eB1 dLen (aC (eV 0) aN)) (eC (.int 1))) aN))))))
    sNever
    sNext)
def m_check_event : List D → Option Cr := fin0 2 0 b_check_event
def C_inside_of_1 : EM D :=
    (lcE [3] (iS (eV 0)) (gN 3) (tAnd' (eB (e2 dGt (e2 dIx (eV 3) (eC (.int 0))) (eV 1))) (eB (e2 dLe (e2 dIx (eV 3) (eC (.int 1))) (eV 2)))) (eV 3))
def b_inside_of : SM :=
    (sRet (eB1 dLen (aC C_inside_of_1 aN)))
def m_inside_of : List D → Option Cr := fin0 3 1 b_inside_of
def b_place : SM :=
    (sSeq (sIf (eB (e2 dIs (eV 2) (eC .non)))
    (sRet (eIf (eB (eV 3)) (eT (aC (e1n (eC (.int 1))) (aC (eC (.int 0)) aN))) (eT (aC (eC (.int (1000))) (aC (eB1 dLen (aC (eV 0) aN)) aN)))))
    sNext)
    (sRet (eT (aC (e2 dIx (e2 dIx (eV 1) (eV 2)) (eC (.int 0))) (aC (eIf (eB (eV 3)) (e2 dIx (e2 dIx (eV 1) (eV 2)) (eC (.int 1))) (e2 dIx (e2 dIx (eV 1) (eV 2)) (eC (.int 2)))) aN)))))
def m_place : List D → Option Cr := fin0 4 0 b_place
def C_pairs_of_1 : EM D :=
    (lcE [3] (iR1 (aC (eV 1) aN)) (gN 3) (ret true) (eT (aC (eC .non) (aC (eV 3) aN))))
def C_pairs_of_2 : EM D :=
    (lcE [4] (iR1 (aC (eV 1) aN)) (gN 4) (ret true) (eT (aC (eV 4) (aC (eC .non) aN))))
def C_pairs_of_3 : EM D :=
    (lc2E [4, 3] [3] (iR1 (aC (eV 1) aN)) (gN 4) (ret true) (iR2 (aC (eV 4) (aC (eV 1) aN))) (gN 3) (ret true) (eT (aC (eV 4) (aC (eV 3) aN))))
def b_pairs_of : SM :=
    (sSeq (sAsg (eB1 dLen (aC (eV 0) aN)) (gN 1))
    (sSeq (sAsg (eL (aC (eT (aC (eC .non) (aC (eC .non) aN))) aN)) (gN 2))
    (sSeq (sAsg (e2 dAdd (eV 2) C_pairs_of_1) (gN 2))
    (sSeq (sAsg (e2 dAdd (eV 2) C_pairs_of_2) (gN 2))
    (sRet (e2 dAdd (eV 2) C_pairs_of_3))))))
def m_pairs_of : List D → Option Cr := fin0 1 4 b_pairs_of
def b_excess : SM :=
    (sSeq (sAsg (eCall m_place (aC (eV 0) (aC (eV 1) (aC (e2 dIx (eV 2) (eC (.int 0))) (aC (eC (.bl true)) aN))))) (gT [3, 4]))
    (sSeq (sAsg (eCall m_place (aC (eV 0) (aC (eV 1) (aC (e2 dIx (eV 2) (eC (.int 1))) (aC (eC (.bl false)) aN))))) (gT [5, 6]))
    (sRet (e2 dSub (e2 dAdd (eV 4) (eCall m_inside_of (aC (eV 0) (aC (eV 3) (aC (eV 5) aN))))) (eV 6)))))
def m_excess : List D → Option Cr := fin0 3 4 b_excess
def L_conflict_of_1 : SM :=
    (sIf (eB (e2 dGt (eCall m_excess (aC (eV 0) (aC (eV 1) (aC (eV 2) aN)))) (eC (.int 0))))
    (sRet (eV 2))
    sNext)
def b_conflict_of : SM :=
    (sSeq (sFor (iS (eCall m_pairs_of (aC (eV 1) aN))) (gN 2)
    L_conflict_of_1)
    (sRet (eC .non)))
def m_conflict_of : List D → Option Cr := fin0 2 1 b_conflict_of
def C_event_times_1 : EM D :=
    (lcE [10, 11, 12] (iS (eV 1)) (gT [10, 11, 12]) (eB (e3 dLe dLt (eV 3) (eV 10) (eV 4))) (eV 10))
def L_event_times_1 : SM :=
    (sSeq (sAsg (e2 dAdd (e2 dAdd (eSl (eV 0) (ret none) (oS (eV 2))) (eT (aC (eT (aC (e2 dAdd (eV 7) (eC (.int 1))) (aC (eV 8) aN))) aN))) (eSl (eV 0) (oS (e2 dAdd (eV 2) (eC (.int 1)))) (ret none))) (gN 9))
    (sIf (eB (e2 dIs (eCall m_conflict_of (aC (eV 9) (aC (eV 1) aN))) (eC .non)))
    (sIf (tAnd' (tLn (eB (e2 dNe (eV 6) (eL aN)))) (eB (e2 dEq (e2 dIx (eOx 6 (e1n (eC (.int 1)))) (eC (.int 1))) (eV 7))))
    (sPut 6 (eT (aC (e2 dIx (eOx 6 (e1n (eC (.int 1)))) (eC (.int 0))) (aC (eV 8) aN))) (e1n (eC (.int 1))))
    (sApp 6 (eT (aC (e2 dAdd (eV 7) (eC (.int 1))) (aC (eV 8) aN)))))
    sNext))
def b_event_times : SM :=
    (sSeq (sExpr (eCall m_check_both (aC (eV 0) (aC (eV 1) aN))))
    (sSeq (sExpr (eCall m_check_event (aC (eV 0) (aC (eV 2) aN))))
    (sSeq (sAsg (e2 dIx (eV 0) (eV 2)) (gT [3, 4]))
    (sSeq (sAsg (eSortSet (e2 dAdd (eL (aC (e2 dSub (eV 3) (eC (.int 1))) (aC (eV 4) aN))) C_event_times_1)) (gN 5))
    (sSeq (sOwn 6 (fL aN))
    (sSeq (sFor (iZ (aC (eV 5) (aC (eSl (eV 5) (oS (eC (.int 1))) (ret none)) aN))) (gT [7, 8])
    L_event_times_1)
    (sRetO 6)))))))
def m_event_times : List D → Option Cr := fin0 3 10 b_event_times
def C_surely_done_1 : EM (List D) :=
    (lcF [3] (iR1 (aC (eB1 dLen (aC (eV 0) aN)) aN)) (gN 3) (eB (e2 dLe (e2 dIx (e2 dIx (eCall m_event_times (aC (eV 0) (aC (eV 1) (aC (eV 3) aN)))) (e1n (eC (.int 1)))) (eC (.int 1))) (eV 2))) (eV 3))
def b_surely_done : SM :=
    (sSeq (sExpr (eCall m_check_both (aC (eV 0) (aC (eV 1) aN))))
    (sSeq (sExpr (eCall m_check_time (aC (eV 2) aN)))
    (sSeq (sIf (eB (e2 dIsn (eCall m_conflict_of (aC (eV 0) (aC (eV 1) aN))) (eC .non)))
    (sRet (eC .non))
    sNext)
    (sRetF C_surely_done_1))))
def m_surely_done : List D → Option Cr := fin0 3 1 b_surely_done
def b__law_well : SM :=
    (sSeq (sIf (eB (e2 dGe (eV 0) (e2 dPow (eC (.int 10)) (eC (.int 18)))))
    (sRetF (fL (aC (e2 dSub (eV 0) (e2 dPow (eC (.int 10)) (eC (.int 18)))) (aC (e2 dMod (eV 0) (eC (.int 2305843009213693951))) (aC (eV 1) aN)))))
    sNext)
    (sRetF (fL (aC (eC (.int 0)) (aC (e2 dMod (eV 0) (eC (.int 2305843009213693951))) (aC (eV 1) aN))))))
def m__law_well : List D → Option Cr := fin0 2 0 b__law_well
def b__law_take : SM :=
    (sSeq (sIf (eB (e2 dGt (eOx 0 (eC (.int 0))) (eC (.int 0))))
    (sSeq (sAsg (e2 dMod (eOx 0 (eC (.int 0))) (eV 1)) (gN 2))
    (sSeq (sPut 0 (e2 dDiv (eOx 0 (eC (.int 0))) (eV 1)) (eC (.int 0)))
    (sRet (eV 2))))
    sNext)
    (sSeq (sPut 0 (e2 dAdd (eOx 0 (eC (.int 2))) (eC (.int 1))) (eC (.int 2)))
    (sSeq (sAsg (eC (.int 2305843009213693951)) (gN 3))
    (sSeq (sAsg (e2 dMod (e2 dAdd (eOx 0 (eC (.int 1))) (e2 dMul (eC (.int 1000003)) (eOx 0 (eC (.int 2))))) (eV 3)) (gN 4))
    (sSeq (sAsg (e2 dMod (e2 dAdd (e2 dAdd (e2 dMul (eV 4) (eV 4)) (e2 dMul (eC (.int 7919)) (e2 dPow (eOx 0 (eC (.int 2))) (eC (.int 2))))) (eC (.int 5))) (eV 3)) (gN 4))
    (sRet (e2 dMod (e2 dDiv (e2 dMod (e2 dPow (eV 4) (eC (.int 3))) (eV 3)) (eC (.int 13))) (eV 1))))))))
def m__law_take : List D → List D → Option (D × List D) := fin1 1 3 b__law_take
def b__law_bags : EM (List (List D)) :=
    (lbF [2, 3] (iE (aC (e2 dAdd (eSl (eV 0) (ret none) (oS (eV 1))) (eL (aC (eC (.int 0)) aN))) aN)) (gT [2, 3]) (fCall m__law_well (aC (eV 3) (aC (e2 dMul (eC (.int 977)) (eV 2)) aN))))
def m__law_bags : List D → Option (List (List D)) := finB 2 2 b__law_bags
def b__law_same (rec : List D → Option Cr) : SM :=
    (sSeq (sIf (tOr' (tAnd' (eB (eIsi .list (eV 0))) (eB (eIsi .list (eV 1)))) (tAnd' (eB (eIsi .tuple (eV 0))) (eB (eIsi .tuple (eV 1)))))
    (sRet (eAnd (e2 dEq (eB1 dLen (aC (eV 0) aN)) (eB1 dLen (aC (eV 1) aN))) (eB1 dAll (aC (lcE [2, 3] (iZ (aC (eV 0) (aC (eV 1) aN))) (gT [2, 3]) (ret true) (eCall rec (aC (eV 2) (aC (eV 3) aN)))) aN))))
    sNext)
    (sSeq (sIf (tOr' (eB (eIsiA [.bool, .list, .tuple] (eV 0))) (eB (eIsiA [.bool, .list, .tuple] (eV 1))))
    (sRet (eAnd (eIsi .bool (eV 0)) (eAnd (eIsi .bool (eV 1)) (e2 dEq (eV 0) (eV 1)))))
    sNext)
    (sSeq (sIf (tOr' (eB (eIsi .int (eV 0))) (eB (eIsi .int (eV 1))))
    (sRet (eAnd (eIsi .int (eV 0)) (eAnd (eIsi .int (eV 1)) (e2 dEq (eV 0) (eV 1)))))
    sNext)
    (sSeq (sIf (tOr' (eB (eIsi .str (eV 0))) (eB (eIsi .str (eV 1))))
    (sRet (eAnd (eIsi .str (eV 0)) (eAnd (eIsi .str (eV 1)) (e2 dEq (eV 0) (eV 1)))))
    sNext)
    (sRet (eAnd (e2 dIs (eV 0) (eC .non)) (e2 dIs (eV 1) (eC .non))))))))
def m__law_same : Nat → List D → Option Cr
  | 0, _ => none
  | k + 1, ds => fin0 2 2 (b__law_same (m__law_same k)) ds
theorem _law_same_len : ∀ k ds, m__law_same k ds ≠ none → ds.length = 2
  | 0, _, h => absurd rfl h
  | k + 1, ds, h => fin0_len ds h
def L__law_windows_1 : SM :=
    (sSeq (sAsg (eCall1 m__law_take 0 (aC (e2 dAdd (eV 2) (eC (.int 1))) aN)) (gN 5))
    (sSeq (sAsg (e2 dIx (eL (aC (eC (.int 0)) (aC (eC (.int 1)) (aC (e2 dDiv (eV 2) (eC (.int 4))) (aC (eV 2) aN))))) (eCall1 m__law_take 0 (aC (eC (.int 4)) aN))) (gN 6))
    (sAsg (e2 dAdd (eV 3) (eT (aC (eT (aC (eV 5) (aC (eB1 dMin (aC (eV 2) (aC (e2 dAdd (eV 5) (eCall1 m__law_take 0 (aC (e2 dAdd (eV 6) (eC (.int 1))) aN))) aN))) aN))) aN))) (gN 3))))
def b__law_windows : SM :=
    (sSeq (sAsg (eT aN) (gN 3))
    (sSeq (sFor (iR1 (aC (eCall1 m__law_take 0 (aC (e2 dAdd (eV 1) (eC (.int 1))) aN)) aN)) (gN 4)
    L__law_windows_1)
    (sRet (eV 3))))
def m__law_windows : List D → List D → Option (D × List D) := fin1 2 4 b__law_windows
def C__law_course_1 : EM D :=
    (lcE [2, 3] (iS (eV 1)) (gT [2, 3]) (ret true) (e2 dAdd (eV 2) (eCall1 m__law_take 0 (aC (e2 dAdd (e2 dSub (eV 3) (eV 2)) (eC (.int 1))) aN))))
def b__law_course : SM :=
    (sRet (eB1 dTuple (aC C__law_course_1 aN)))
def m__law_course : List D → List D → Option (D × List D) := fin1 1 2 b__law_course
def C__law_number_1 : EM D :=
    (lcE [2] (iS (eV 0)) (gN 2) (eB (e2 dLe (eV 2) (eV 1))) (eV 2))
def b__law_number : SM :=
    (sRet (eB1 dLen (aC C__law_number_1 aN)))
def m__law_number : List D → Option Cr := fin0 2 1 b__law_number
def L__law_tallies_1 : SM :=
    (sSeq (sAsg (eCall1 m__law_take 0 (aC (e2 dAdd (eV 2) (eC (.int 1))) aN)) (gN 7))
    (sSeq (sAsg (eCall m__law_number (aC (eV 4) (aC (eV 7) aN))) (gN 8))
    (sSeq (sPar 9 10 (aC (eB1 dMax (aC (eC (.int 0)) (aC (e2 dSub (eV 8) (eCall1 m__law_take 0 (aC (eC (.int 2)) aN))) aN))) (aC (eB1 dMin (aC (eB1 dLen (aC (eV 1) aN)) (aC (e2 dAdd (eV 8) (eCall1 m__law_take 0 (aC (eC (.int 2)) aN))) aN))) aN)))
    (sSeq (sIf (tAnd' (eB (e2 dGt (eV 3) (eC (.int 0)))) (eB (e2 dEq (eCall1 m__law_take 0 (aC (eC (.int 2)) aN)) (eC (.int 0)))))
    (sSeq (sAsg (eCall1 m__law_take 0 (aC (e2 dAdd (eB1 dLen (aC (eV 1) aN)) (eC (.int 1))) aN)) (gN 9))
    (sAsg (e2 dAdd (eV 9) (eCall1 m__law_take 0 (aC (e2 dSub (e2 dAdd (eB1 dLen (aC (eV 1) aN)) (eC (.int 1))) (eV 9)) aN))) (gN 10)))
    sNext)
    (sDPut' 5 (eT (aC (eV 7) (aC (eV 9) (aC (eV 10) aN)))) (eV 7))))))
def C__law_tallies_1 : EM D :=
    (lcE [7] (iS (eDSort 5)) (gN 7) (ret true) (eDGet 5 (eV 7)))
def b__law_tallies : SM :=
    (sSeq (sParD 4 5 (eCall1 m__law_course 0 (aC (eV 1) aN)))
    (sSeq (sFor (iR1 (aC (eCall1 m__law_take 0 (aC (eC (.int 7)) aN)) aN)) (gN 6)
    L__law_tallies_1)
    (sRet (eB1 dTuple (aC C__law_tallies_1 aN)))))
def m__law_tallies : List D → List D → Option (D × List D) := fin1 3 7 b__law_tallies
def C__law_inside_1 : EM D :=
    (lcE [3, 4] (iS (eV 0)) (gT [3, 4]) (tAnd' (eB (e2 dLt (eV 1) (eV 3))) (eB (e2 dLe (eV 4) (eV 2)))) (eC (.int 1)))
def b__law_inside : SM :=
    (sRet (eB1 dLen (aC C__law_inside_1 aN)))
def m__law_inside : List D → Option Cr := fin0 3 2 b__law_inside
def C__law_pairs_1 : EM D :=
    (lcE [11, 12] (iE (aC (eV 1) aN)) (gT [11, 12]) (ret true) (eT (aC (eV 11) (aC (e2 dIx (eV 12) (eC (.int 0))) (aC (e2 dIx (eV 12) (eC (.int 1))) aN)))))
def C__law_pairs_2 : EM D :=
    (lcE [11, 12] (iE (aC (eV 1) aN)) (gT [11, 12]) (ret true) (eT (aC (eV 11) (aC (e2 dIx (eV 12) (eC (.int 0))) (aC (e2 dIx (eV 12) (eC (.int 2))) aN)))))
def L__law_pairs_1 : SM :=
    (sIf (tOr' (eB (e2 dIs (eV 5) (eC .non))) (tOr' (eB (e2 dIs (eV 8) (eC .non))) (eB (e2 dLe (eV 5) (eV 8)))))
    (sApp 4 (eT (aC (eV 5) (aC (eV 8) (aC (e2 dSub (e2 dAdd (eV 7) (eCall m__law_inside (aC (eV 0) (aC (eV 6) (aC (eV 9) aN))))) (eV 10)) aN)))))
    sNext)
def L__law_pairs_2 : SM :=
    (sFor (iS (eV 3)) (gT [8, 9, 10])
    L__law_pairs_1)
def b__law_pairs : SM :=
    (sSeq (sAsg (e2 dAdd (eL (aC (eT (aC (eC .non) (aC (e1n (eC (.int 1))) (aC (eC (.int 0)) aN)))) aN)) C__law_pairs_1) (gN 2))
    (sSeq (sAsg (e2 dAdd (eL (aC (eT (aC (eC .non) (aC (eC (.int 1000)) (aC (eB1 dLen (aC (eV 0) aN)) aN)))) aN)) C__law_pairs_2) (gN 3))
    (sSeq (sOwn 4 (fL aN))
    (sSeq (sFor (iS (eV 2)) (gT [5, 6, 7])
    L__law_pairs_2)
    (sRetO 4)))))
def m__law_pairs : List D → Option Cr := fin0 2 11 b__law_pairs
def C__law_agrees_1 : EM D :=
    (lcE [2] (iS (eCall m__law_pairs (aC (eV 0) (aC (eV 1) aN)))) (gN 2) (ret true) (e2 dIx (eV 2) (eC (.int 2))))
def b__law_agrees : SM :=
    (sRet (e2 dLe (eB1 dMax (aC C__law_agrees_1 aN)) (eC (.int 0))))
def m__law_agrees : List D → Option Cr := fin0 2 1 b__law_agrees
def C__law_kept_1 : EM D :=
    (lcE [3, 4] (iZ (aC (eV 2) (aC (eV 0) aN))) (gT [3, 4]) (tNot' (eB (e3 dLe dLe (e2 dIx (eV 4) (eC (.int 0))) (eV 3) (e2 dIx (eV 4) (eC (.int 1)))))) (eC (.int 1)))
def C__law_kept_2 : EM D :=
    (lcE [5, 6, 7] (iS (eV 1)) (gT [5, 6, 7]) (tNot' (eB (e3 dLe dLe (eV 6) (eCall m__law_number (aC (eV 2) (aC (eV 5) aN))) (eV 7)))) (eC (.int 1)))
def b__law_kept : SM :=
    (sSeq (sIf (eB (e2 dNe C__law_kept_1 (eL aN)))
    (sRet (eC (.bl false)))
    sNext)
    (sRet (e2 dEq C__law_kept_2 (eL aN))))
def m__law_kept : List D → Option Cr := fin0 3 5 b__law_kept
def C__law_all_1 : EM D :=
    (lcE [7] (iR2 (aC (eV 3) (aC (e2 dAdd (eV 4) (eC (.int 1))) aN))) (gN 7) (ret true) (e2 dAdd (eV 6) (eT (aC (eV 7) aN))))
def L__law_all_1 : SM :=
    (sAsg (e2 dAdd (eV 5) C__law_all_1) (gN 5))
def L__law_all_2 : SM :=
    (sSeq (sAsg (eL aN) (gN 5))
    (sSeq (sFor (iS (eV 2)) (gN 6)
    L__law_all_1)
    (sAsg (eV 5) (gN 2))))
def C__law_all_2 : EM (List D) :=
    (lcF [6] (iS (eV 2)) (gN 6) (eB (eCall m__law_kept (aC (eV 0) (aC (eV 1) (aC (eV 6) aN))))) (eV 6))
def b__law_all : SM :=
    (sSeq (sAsg (eL (aC (eT aN) aN)) (gN 2))
    (sSeq (sFor (iS (eV 0)) (gT [3, 4])
    L__law_all_2)
    (sRetF C__law_all_2)))
def m__law_all : List D → Option Cr := fin0 2 6 b__law_all
def L__law_joined_1 : SM :=
    (sIf (tAnd' (tLn (eB (e2 dNe (eV 1) (eL aN)))) (eB (e2 dEq (e2 dIx (eOx 1 (e1n (eC (.int 1)))) (eC (.int 1))) (e2 dSub (eV 2) (eC (.int 1))))))
    (sPut 1 (eT (aC (e2 dIx (eOx 1 (e1n (eC (.int 1)))) (eC (.int 0))) (aC (eV 2) aN))) (e1n (eC (.int 1))))
    (sApp 1 (eT (aC (eV 2) (aC (eV 2) aN)))))
def b__law_joined : SM :=
    (sSeq (sOwn 1 (fL aN))
    (sSeq (sFor (iS (eV 0)) (gN 2)
    L__law_joined_1)
    (sRetO 1)))
def m__law_joined : List D → Option Cr := fin0 1 2 b__law_joined
def b__law_at : SM :=
    (sSeq (sAsg (e2 dAdd (e2 dAdd (eSl (eV 0) (ret none) (oS (eV 2))) (eT (aC (eT (aC (eV 3) (aC (eV 3) aN))) aN))) (eSl (eV 0) (oS (e2 dAdd (eV 2) (eC (.int 1)))) (ret none))) (gN 4))
    (sRet (eCall m__law_agrees (aC (eV 4) (aC (eV 1) aN)))))
def m__law_at : List D → Option Cr := fin0 4 1 b__law_at
def C__law_large_right_1 : EM D :=
    (lcE [11] (iS (eV 5)) (gN 11) (tNot' (bnd (e2 dIx (eV 4) (eC (.int 0))) (chKt dLe (e2 dIx (eV 11) (eC (.int 0))) (chKt dLe (e2 dIx (eV 11) (eC (.int 1))) (chLt dLe (e2 dIx (eV 4) (eC (.int 1)))))))) (eV 11))
def L__law_large_right_1 : SM :=
    (sAsg (e2 dAdd (eV 6) (eL (aC (eV 7) (aC (eV 8) (aC (e2 dSub (eV 7) (eC (.int 1))) (aC (e2 dAdd (eV 8) (eC (.int 1))) aN)))))) (gN 6))
def C__law_large_right_2 : EM D :=
    (lcE [9] (iS (eV 6)) (gN 9) (eB (e3 dLe dLe (e2 dIx (eV 4) (eC (.int 0))) (eV 9) (e2 dIx (eV 4) (eC (.int 1))))) (eV 9))
def C__law_large_right_3 : EM D :=
    (lcE [11] (iS (eV 5)) (gN 11) (eB (e3 dLe dLe (e2 dIx (eV 11) (eC (.int 0))) (eV 9) (e2 dIx (eV 11) (eC (.int 1))))) (eV 11))
def L__law_large_right_2 : SM :=
    (sSeq (sAsg (eLn (e2 dNe C__law_large_right_3 (eL aN))) (gN 10))
    (sIf (eB (e2 dNe (eV 10) (eCall m__law_at (aC (eV 1) (aC (eV 2) (aC (eV 3) (aC (eV 9) aN)))))))
    (sRet (eC (.bl false)))
    sNext))
def L__law_large_right_3 : SM :=
    (sSeq (sOwn 5 (fCall m_event_times (aC (eV 1) (aC (eV 2) (aC (eV 3) aN)))))
    (sSeq (sIf (tOr' (tNot' (tLn (eB (eIsi .list (eV 5))))) (tLn (eB (e2 dNe (eV 5) (eB1 dSortG (aC (eV 5) aN))))))
    (sRet (eC (.bl false)))
    sNext)
    (sSeq (sIf (tLn (eB (e2 dNe C__law_large_right_1 (eL aN))))
    (sRet (eC (.bl false)))
    sNext)
    (sSeq (sAsg (eL (aC (e2 dIx (eV 4) (eC (.int 0))) (aC (e2 dIx (eV 4) (eC (.int 1))) (aC (e2 dAdd (e2 dIx (eV 4) (eC (.int 0))) (eCall1 m__law_take 0 (aC (e2 dAdd (e2 dSub (e2 dIx (eV 4) (eC (.int 1))) (e2 dIx (eV 4) (eC (.int 0)))) (eC (.int 1))) aN))) aN)))) (gN 6))
    (sSeq (sForO 5 (gT [7, 8])
    L__law_large_right_1)
    (sSeq (sFor (iS C__law_large_right_2) (gN 9)
    L__law_large_right_2)
    (sSeq (sApp 5 (eC .non))
    (sIf (tLn (eB (e2 dNe (eCall m_event_times (aC (eV 1) (aC (eV 2) (aC (eV 3) aN)))) (eSl (eV 5) (ret none) (oS (e1n (eC (.int 1))))))))
    (sRet (eC (.bl false)))
    sNext))))))))
def b__law_large_right : SM :=
    (sSeq (sFor (iE (aC (eV 1) aN)) (gT [3, 4])
    L__law_large_right_3)
    (sRet (eC (.bl true))))
def m__law_large_right : List D → List D → Option (D × List D) := fin1 2 9 b__law_large_right
def C_law_1 : EM D :=
    (lcE [9] (iS (eV 5)) (gN 9) (ret true) (e2 dIx (eV 9) (eV 6)))
def L_law_1 : SM :=
    (sSeq (sOwn 7 (fCall m__law_joined (aC (eSortSet C_law_1) aN)))
    (sIf (tNot' (tLn (eB (eCall (m__law_same 4) (aC (eCall m_event_times (aC (eV 3) (aC (eV 4) (aC (eV 6) aN)))) (aC (eV 7) aN))))))
    (sRet (eC (.bl false)))
    sNext))
def C_law_2 : EM D :=
    (lcE [9] (iS (eV 5)) (gN 9) (ret true) (e2 dIx (eV 9) (eV 6)))
def L_law_2 : SM :=
    (sIf (eB (e2 dLe (eB1 dMax (aC C_law_2 aN)) (eV 8)))
    (sApp 7 (eV 6))
    sNext)
def L_law_3 : SM :=
    (sSeq (sAsg (eC .non) (gN 7))
    (sSeq (sIf (eB (e2 dNe (eV 5) (eL aN)))
    (sSeq (sOwn 7 (fL aN))
    (sFor (iR1 (aC (eB1 dLen (aC (eV 3) aN)) aN)) (gN 6)
    L_law_2))
    sNext)
    (sIf (tNot' (tLn (eB (eCall (m__law_same 4) (aC (eCall m_surely_done (aC (eV 3) (aC (eV 4) (aC (eV 8) aN)))) (aC (eV 7) aN))))))
    (sRet (eC (.bl false)))
    sNext)))
def L_law_4 : SM :=
    (sSeq (sAsg (eCall1 m__law_windows 1 (aC (eC (.int 4)) (aC (eC (.int 6)) aN))) (gN 3))
    (sSeq (sAsg (eCall1 m__law_tallies 1 (aC (eV 3) (aC (eC (.int 6)) (aC (eCall1 m__law_take 1 (aC (eC (.int 2)) aN)) aN)))) (gN 4))
    (sSeq (sAsg (eCall m__law_all (aC (eV 3) (aC (eV 4) aN))) (gN 5))
    (sSeq (sFor (iR1 (aC (eB1 dLen (aC (eV 3) aN)) aN)) (gN 6)
    L_law_1)
    (sFor (iR1 (aC (eC (.int 7)) aN)) (gN 8)
    L_law_3)))))
def L_law_5 : SM :=
    (sSeq (sFor (iR1 (aC (eC (.int 5)) aN)) (gN 2)
    L_law_4)
    (sSeq (sAsg (eCall1 m__law_windows 1 (aC (eC (.int 8)) (aC (eC (.int 1000)) aN))) (gN 3))
    (sIf (tNot' (eB (eCall1 m__law_large_right 1 (aC (eV 3) (aC (eCall1 m__law_tallies 1 (aC (eV 3) (aC (eC (.int 1000)) (aC (eCall1 m__law_take 1 (aC (eC (.int 2)) aN)) aN)))) aN)))))
    (sRet (eC (.bl false)))
    sNext)))
def b_law : SM :=
    (sSeq (sBag 1 m__law_bags (aC (eV 0) (aC (eC (.int 6)) aN))
    L_law_5)
    (sSeq (sIf (eB (e2 dNe (eCall m_event_times (aC (eT (aC (eT (aC (eC (.int 8)) (aC (eC (.int 12)) aN))) aN)) (aC (eT (aC (eT (aC (eC (.int 9)) (aC (eC (.int 1)) (aC (eC (.int 1)) aN)))) aN)) (aC (eC (.int 0)) aN)))) (eL (aC (eT (aC (eC (.int 8)) (aC (eC (.int 9)) aN))) aN))))
    (sRet (eC (.bl false)))
    sNext)
    (sSeq (sIf (eB (e2 dNe (eCall m_event_times (aC (eT (aC (eT (aC (eC (.int 0)) (aC (eC (.int 9)) aN))) (aC (eT (aC (eC (.int 0)) (aC (eC (.int 9)) aN))) aN))) (aC (eT (aC (eT (aC (eC (.int 3)) (aC (eC (.int 1)) (aC (eC (.int 1)) aN)))) (aC (eT (aC (eC (.int 6)) (aC (eC (.int 1)) (aC (eC (.int 1)) aN)))) aN))) (aC (eC (.int 0)) aN)))) (eL (aC (eT (aC (eC (.int 0)) (aC (eC (.int 3)) aN))) (aC (eT (aC (eC (.int 7)) (aC (eC (.int 9)) aN))) aN)))))
    (sRet (eC (.bl false)))
    sNext)
    (sRet (e2 dEq (eCall m_event_times (aC (eT (aC (eT (aC (eC (.int 8)) (aC (eC (.int 12)) aN))) aN)) (aC (eT (aC (eT (aC (eC (.int 9)) (aC (eC (.int 0)) (aC (eC (.int 0)) aN)))) (aC (eT (aC (eC (.int 10)) (aC (eC (.int 1)) (aC (eC (.int 1)) aN)))) aN))) (aC (eC (.int 0)) aN)))) (eL (aC (eT (aC (eC (.int 10)) (aC (eC (.int 10)) aN))) aN)))))))
def m_law : List D → Option Cr := fin0 1 9 b_law
end
end TW
namespace TW
open PySem PyProof.Rows L2
/-! the bag of numbers -/
def Bag (k : Nat) (l : List D) : Prop := ∃ x y c : Int, l = [.int x, .int y, .int c] ∧ 0 ≤ x ∧ 0 ≤ y ∧ y < 2305843009213693951 ∧ 0 ≤ c ∧ c + (k : Int) ≤ 1000000000000000000
theorem Bag.le {k j : Nat} {l : List D} (h : Bag k l) (e : j ≤ k) : Bag j l := by
  obtain ⟨x, y, c, h1, h2, h3, h4, h5, h6⟩ := h
  exact ⟨x, y, c, h1, h2, h3, h4, h5, by omega⟩
theorem take_ok {k : Nat} {l : List D} {m : Int} (h : Bag (k + 1) l) (hm : 0 < m) (hm2 : m < 2 ^ 62) : ∃ r l', m__law_take l [.int m] = some (.int r, l') ∧ 0 ≤ r ∧ r < m ∧ Bag k l' := by
  obtain ⟨x, y, c, rfl, h2, h3, h4, h5, h6⟩ := h
  by_cases hx : 0 < x
  · refine ⟨x % m, [.int (x / m), .int y, .int c], ?_, Int.emod_nonneg _ (by omega), Int.emod_lt_of_pos _ hm, ⟨x / m, y, c, rfl, Int.ediv_nonneg h2 (by omega), h3, h4, h5, by omega⟩⟩
    unfold m__law_take b__law_take
    simp only [vls_nil, vls_cons, uns_zero, uns_succ, gt_zero, gt_succ, st_zero, st_succ, bnd_ap, ret_ap, lift_some, eC_ap, eV_ap, e2_ap, eB_ap, eNot_ap, tNot_ap, tAnd_app, tOr_app, ite_ap, eAnd_ap, eOr_ap, e3_app, eIf_ap, brk_ap, brk'_ap, ite_bl, ite_bo, ite_tb, ite_to, ↓reduceIte, Bool.false_eq_true, Bool.not_true, Bool.not_false, aN_ap, aC_ap, eT_ap, eL_ap, fL_ap, eB1_ap, eIsi_ap, eIsiA_ap, e1n_ap, oS_ap, eSl_ap, eCall_ap, fCall_ap, eCall1_ap, eOx_ap, eDGet_ap, eDSort_ap, iS_ap, iR1_ap, iR2_ap, iE_ap, iZ_ap, gN_ap, gT2, gT3, sSeq_ap, sNext_ap, sExpr_ap, sRet_ap, sRetF_ap, sIf_ap, sAsg_ap, sPar_ap, sParD_ap, sPut_ap, sDPut_ap, sBind_ap, sOwn_ap, sApp_ap, sRetO_ap, eSortSet_ap, sFor_ap, sBag_ap, finB_2, own0_ap, fin0_0, fin1_0, fin0_1, fin1_1, fin0_2, fin1_2, fin0_3, fin1_3, fin0_4, fin1_4, fin0_5, fin1_5, fin0_6, fin1_6, fin0_7, fin1_7, fin0_8, fin1_8, dI0_ap, dAdd_ii, dLen_t, dLen_l, dTuple_l, dTuple_t, dList_l, dList_t, dMax_ii, dMin_ii, dIx_t, dIx_l, atI_0, atI_1, atI_2, atI_3, dSl_t, dSl_l, dSl_s, dNe_ii, dEq_ii, ifz, ifz', Option.map_some, List.length_cons, List.length_nil, List.length_append, List.length_map, zl0, zm0, zl1, zm1, zl2, zm2, zl3, zm3, zl4, zm4, zl5, zm5, zl6, zm6, zl7, zm7, zl8, zm8, zl9, zm9, zl10, zm10, zl11, zm11, zl12, zm12, zl13, zm13, zl14, zm14, zl15, zm15, zl16, zm16, Nat.zero_add, Nat.reduceAdd, Int.reduceAdd, Int.reduceSub, Int.reduceMul, Int.reduceNeg, Int.reduceEq, Int.reduceLE, Int.reduceLT, Int.reduceToNat, Int.reducePow, decide_true, decide_false, cn0, cn1, cn2, cn3, cn4, cn5, cn6, cn7, cn8, cn9, cn10, cn11, cn12, List.set_cons_zero, List.set_cons_succ, tn0, tn1, tn2, tn3, tn4, tn5, tn6, tn7, tn8, eLn_ap, tLn_ap, lnd_nil, lnd_cons, lend_ow, lend_dc, lend_un, lend_vl, scD_bl, scD_int, scD_non, scD_str, sParL_ap, frz_ap, chL_ap, chK_ap, chLt_ap, chKt_ap, asB_ap, decide_eq_true hx, dMod_ap hm, dDiv_ap hm hm2]
    rfl
  · have e : x = 0 := by omega
    subst e
    have hc : (c + 1).natAbs < 2 ^ 64 := by omega
    have r1 := Int.emod_nonneg (y + 1000003 * (c + 1)) (b := 2305843009213693951) (by decide)
    have r2 := Int.emod_lt_of_pos (y + 1000003 * (c + 1)) (b := 2305843009213693951) (by decide)
    have s1 := Int.emod_nonneg ((y + 1000003 * (c + 1)) % 2305843009213693951 * ((y + 1000003 * (c + 1)) % 2305843009213693951) + 7919 * (c + 1) ^ 2 + 5) (b := 2305843009213693951) (by decide)
    have s2 := Int.emod_lt_of_pos ((y + 1000003 * (c + 1)) % 2305843009213693951 * ((y + 1000003 * (c + 1)) % 2305843009213693951) + 7919 * (c + 1) ^ 2 + 5) (b := 2305843009213693951) (by decide)
    have key : ∃ q : Int, m__law_take [.int 0, .int y, .int c] [.int m] = some (.int (q % m), [.int 0, .int y, .int (c + 1)]) := by
      have q3 : dMul (.int 1000003) (.int (c + 1)) = some (.int (1000003 * (c + 1))) := dMul_l (by decide) (by decide)
      have q4 : dMod (.int (y + 1000003 * (c + 1))) (.int 2305843009213693951) = some (.int ((y + 1000003 * (c + 1)) % 2305843009213693951)) := dMod_ap (by decide)
      generalize (y + 1000003 * (c + 1)) % 2305843009213693951 = r at *
      have q5 : dMul (.int r) (.int r) = some (.int (r * r)) := dMul_l (by omega) (by omega)
      have q6 : dPow (.int (c + 1)) (.int 2) = some (.int ((c + 1) ^ 2)) := dPow_ap (by decide) (by decide) hc
      generalize (c + 1) ^ 2 = cc at *
      have q7 : dMul (.int 7919) (.int cc) = some (.int (7919 * cc)) := dMul_l (by decide) (by decide)
      have q8 : dMod (.int (r * r + 7919 * cc + 5)) (.int 2305843009213693951) = some (.int ((r * r + 7919 * cc + 5) % 2305843009213693951)) := dMod_ap (by decide)
      generalize (r * r + 7919 * cc + 5) % 2305843009213693951 = s at *
      have q9 : dPow (.int s) (.int 3) = some (.int (s ^ 3)) := dPow_ap (by decide) (by decide) (by omega)
      generalize s ^ 3 = t at *
      have q10 : dMod (.int t) (.int 2305843009213693951) = some (.int (t % 2305843009213693951)) := dMod_ap (by decide)
      have q11 : dDiv (.int (t % 2305843009213693951)) (.int 13) = some (.int (t % 2305843009213693951 / 13)) := dDiv_ap (by decide) (by decide)
      refine ⟨t % 2305843009213693951 / 13, ?_⟩
      unfold m__law_take b__law_take
      simp only [vls_nil, vls_cons, uns_zero, uns_succ, gt_zero, gt_succ, st_zero, st_succ, bnd_ap, ret_ap, lift_some, eC_ap, eV_ap, e2_ap, eB_ap, eNot_ap, tNot_ap, tAnd_app, tOr_app, ite_ap, eAnd_ap, eOr_ap, e3_app, eIf_ap, brk_ap, brk'_ap, ite_bl, ite_bo, ite_tb, ite_to, ↓reduceIte, Bool.false_eq_true, Bool.not_true, Bool.not_false, aN_ap, aC_ap, eT_ap, eL_ap, fL_ap, eB1_ap, eIsi_ap, eIsiA_ap, e1n_ap, oS_ap, eSl_ap, eCall_ap, fCall_ap, eCall1_ap, eOx_ap, eDGet_ap, eDSort_ap, iS_ap, iR1_ap, iR2_ap, iE_ap, iZ_ap, gN_ap, gT2, gT3, sSeq_ap, sNext_ap, sExpr_ap, sRet_ap, sRetF_ap, sIf_ap, sAsg_ap, sPar_ap, sParD_ap, sPut_ap, sDPut_ap, sBind_ap, sOwn_ap, sApp_ap, sRetO_ap, eSortSet_ap, sFor_ap, sBag_ap, finB_2, own0_ap, fin0_0, fin1_0, fin0_1, fin1_1, fin0_2, fin1_2, fin0_3, fin1_3, fin0_4, fin1_4, fin0_5, fin1_5, fin0_6, fin1_6, fin0_7, fin1_7, fin0_8, fin1_8, dI0_ap, dAdd_ii, dLen_t, dLen_l, dTuple_l, dTuple_t, dList_l, dList_t, dMax_ii, dMin_ii, dIx_t, dIx_l, atI_0, atI_1, atI_2, atI_3, dSl_t, dSl_l, dSl_s, dNe_ii, dEq_ii, ifz, ifz', Option.map_some, List.length_cons, List.length_nil, List.length_append, List.length_map, zl0, zm0, zl1, zm1, zl2, zm2, zl3, zm3, zl4, zm4, zl5, zm5, zl6, zm6, zl7, zm7, zl8, zm8, zl9, zm9, zl10, zm10, zl11, zm11, zl12, zm12, zl13, zm13, zl14, zm14, zl15, zm15, zl16, zm16, Nat.zero_add, Nat.reduceAdd, Int.reduceAdd, Int.reduceSub, Int.reduceMul, Int.reduceNeg, Int.reduceEq, Int.reduceLE, Int.reduceLT, Int.reduceToNat, Int.reducePow, decide_true, decide_false, cn0, cn1, cn2, cn3, cn4, cn5, cn6, cn7, cn8, cn9, cn10, cn11, cn12, List.set_cons_zero, List.set_cons_succ, tn0, tn1, tn2, tn3, tn4, tn5, tn6, tn7, tn8, eLn_ap, tLn_ap, lnd_nil, lnd_cons, lend_ow, lend_dc, lend_un, lend_vl, scD_bl, scD_int, scD_non, scD_str, sParL_ap, frz_ap, chL_ap, chK_ap, chLt_ap, chKt_ap, asB_ap, decide_eq_false hx, q3, q4, q5, q6, q7, q8, q9, q10, q11, dMod_ap hm, ixN_nat (n := 3) (i := 2) (by decide) (by decide)]

    obtain ⟨q, e⟩ := key
    exact ⟨_, _, e, Int.emod_nonneg _ (by omega), Int.emod_lt_of_pos _ hm, ⟨0, y, c + 1, rfl, by decide, h3, h4, by omega, by omega⟩⟩
/-! windows, tallies, courses as data -/
abbrev Win := Int × Int
abbrev Tal := Int × Int × Int
def wD (w : Win) : D := .tup [.int w.1, .int w.2]
def tD (t : Tal) : D := .tup [.int t.1, .int t.2.1, .int t.2.2]
def wsD (ws : List Win) : D := .tup (ws.map wD)
def tsD (ts : List Tal) : D := .tup (ts.map tD)
def xsD (xs : List Int) : D := .tup (xs.map .int)
def WOk (w : Win) : Prop := 0 ≤ w.1 ∧ w.1 ≤ w.2 ∧ w.2 ≤ 1000
structure WsOk (ws : List Win) : Prop where
  len : ws.length ≤ 8
  ok : ∀ w ∈ ws, WOk w
def TOk (n : Nat) (t : Tal) : Prop := 0 ≤ t.1 ∧ t.1 ≤ 1000 ∧ 0 ≤ t.2.1 ∧ t.2.1 ≤ t.2.2 ∧ t.2.2 ≤ n
structure TsOk (n : Nat) (ts : List Tal) : Prop where
  len : ts.length ≤ 6
  ok : ∀ t ∈ ts, TOk n t
  inc : ts.Pairwise fun a b => a.1 < b.1
def num (xs : List Int) (t : Int) : Nat := (xs.filter fun x => decide (x ≤ t)).length
def keptT (ts : List Tal) (xs : List Int) : Bool := ts.all fun t => decide (t.2.1 ≤ (num xs t.1 : Int)) && decide ((num xs t.1 : Int) ≤ t.2.2)
def inW (xs : List Int) (ws : List Win) : Bool := (xs.zip ws).all fun p => decide (p.2.1 ≤ p.1) && decide (p.1 ≤ p.2.2)
theorem all_yes {α : Type} (l : List α) : (l.all fun _ => true) = true := by simp
theorem is_integer_int {i : Int} : m_is_integer [.int i] = some (.rt (.bl true)) := rfl
theorem in_range_int {i a b : Int} : m_in_range [.int i, .int a, .int b] = some (.rt (.bl (decide (a ≤ i) && decide (i ≤ b)))) := by
  unfold m_in_range b_in_range
  simp only [vls_nil, vls_cons, uns_zero, uns_succ, gt_zero, gt_succ, st_zero, st_succ, bnd_ap, ret_ap, lift_some, eC_ap, eV_ap, e2_ap, eB_ap, eNot_ap, tNot_ap, tAnd_app, tOr_app, ite_ap, eAnd_ap, eOr_ap, e3_app, eIf_ap, brk_ap, brk'_ap, ite_bl, ite_bo, ite_tb, ite_to, ↓reduceIte, Bool.false_eq_true, Bool.not_true, Bool.not_false, aN_ap, aC_ap, eT_ap, eL_ap, fL_ap, eB1_ap, eIsi_ap, eIsiA_ap, e1n_ap, oS_ap, eSl_ap, eCall_ap, fCall_ap, eCall1_ap, eOx_ap, eDGet_ap, eDSort_ap, iS_ap, iR1_ap, iR2_ap, iE_ap, iZ_ap, gN_ap, gT2, gT3, sSeq_ap, sNext_ap, sExpr_ap, sRet_ap, sRetF_ap, sIf_ap, sAsg_ap, sPar_ap, sParD_ap, sPut_ap, sDPut_ap, sBind_ap, sOwn_ap, sApp_ap, sRetO_ap, eSortSet_ap, sFor_ap, sBag_ap, finB_2, own0_ap, fin0_0, fin1_0, fin0_1, fin1_1, fin0_2, fin1_2, fin0_3, fin1_3, fin0_4, fin1_4, fin0_5, fin1_5, fin0_6, fin1_6, fin0_7, fin1_7, fin0_8, fin1_8, dI0_ap, dAdd_ii, dLen_t, dLen_l, dTuple_l, dTuple_t, dList_l, dList_t, dMax_ii, dMin_ii, dIx_t, dIx_l, atI_0, atI_1, atI_2, atI_3, dSl_t, dSl_l, dSl_s, dNe_ii, dEq_ii, ifz, ifz', Option.map_some, List.length_cons, List.length_nil, List.length_append, List.length_map, zl0, zm0, zl1, zm1, zl2, zm2, zl3, zm3, zl4, zm4, zl5, zm5, zl6, zm6, zl7, zm7, zl8, zm8, zl9, zm9, zl10, zm10, zl11, zm11, zl12, zm12, zl13, zm13, zl14, zm14, zl15, zm15, zl16, zm16, Nat.zero_add, Nat.reduceAdd, Int.reduceAdd, Int.reduceSub, Int.reduceMul, Int.reduceNeg, Int.reduceEq, Int.reduceLE, Int.reduceLT, Int.reduceToNat, Int.reducePow, decide_true, decide_false, cn0, cn1, cn2, cn3, cn4, cn5, cn6, cn7, cn8, cn9, cn10, cn11, cn12, List.set_cons_zero, List.set_cons_succ, tn0, tn1, tn2, tn3, tn4, tn5, tn6, tn7, tn8, eLn_ap, tLn_ap, lnd_nil, lnd_cons, lend_ow, lend_dc, lend_un, lend_vl, scD_bl, scD_int, scD_non, scD_str, sParL_ap, frz_ap, chL_ap, chK_ap, chLt_ap, chKt_ap, asB_ap, is_integer_int]
theorem in_range_t {i a b : Int} (h : a ≤ i) (h2 : i ≤ b) : m_in_range [.int i, .int a, .int b] = some (.rt (.bl true)) := by
  rw [in_range_int, decide_eq_true h, decide_eq_true h2]; rfl
theorem is_window_ok {w : Win} (h : WOk w) : m_is_window [wD w] = some (.rt (.bl true)) := by
  obtain ⟨h1, h2, h3⟩ := h
  unfold m_is_window b_is_window wD
  simp only [vls_nil, vls_cons, uns_zero, uns_succ, gt_zero, gt_succ, st_zero, st_succ, bnd_ap, ret_ap, lift_some, eC_ap, eV_ap, e2_ap, eB_ap, eNot_ap, tNot_ap, tAnd_app, tOr_app, ite_ap, eAnd_ap, eOr_ap, e3_app, eIf_ap, brk_ap, brk'_ap, ite_bl, ite_bo, ite_tb, ite_to, ↓reduceIte, Bool.false_eq_true, Bool.not_true, Bool.not_false, aN_ap, aC_ap, eT_ap, eL_ap, fL_ap, eB1_ap, eIsi_ap, eIsiA_ap, e1n_ap, oS_ap, eSl_ap, eCall_ap, fCall_ap, eCall1_ap, eOx_ap, eDGet_ap, eDSort_ap, iS_ap, iR1_ap, iR2_ap, iE_ap, iZ_ap, gN_ap, gT2, gT3, sSeq_ap, sNext_ap, sExpr_ap, sRet_ap, sRetF_ap, sIf_ap, sAsg_ap, sPar_ap, sParD_ap, sPut_ap, sDPut_ap, sBind_ap, sOwn_ap, sApp_ap, sRetO_ap, eSortSet_ap, sFor_ap, sBag_ap, finB_2, own0_ap, fin0_0, fin1_0, fin0_1, fin1_1, fin0_2, fin1_2, fin0_3, fin1_3, fin0_4, fin1_4, fin0_5, fin1_5, fin0_6, fin1_6, fin0_7, fin1_7, fin0_8, fin1_8, dI0_ap, dAdd_ii, dLen_t, dLen_l, dTuple_l, dTuple_t, dList_l, dList_t, dMax_ii, dMin_ii, dIx_t, dIx_l, atI_0, atI_1, atI_2, atI_3, dSl_t, dSl_l, dSl_s, dNe_ii, dEq_ii, ifz, ifz', Option.map_some, List.length_cons, List.length_nil, List.length_append, List.length_map, zl0, zm0, zl1, zm1, zl2, zm2, zl3, zm3, zl4, zm4, zl5, zm5, zl6, zm6, zl7, zm7, zl8, zm8, zl9, zm9, zl10, zm10, zl11, zm11, zl12, zm12, zl13, zm13, zl14, zm14, zl15, zm15, zl16, zm16, Nat.zero_add, Nat.reduceAdd, Int.reduceAdd, Int.reduceSub, Int.reduceMul, Int.reduceNeg, Int.reduceEq, Int.reduceLE, Int.reduceLT, Int.reduceToNat, Int.reducePow, decide_true, decide_false, cn0, cn1, cn2, cn3, cn4, cn5, cn6, cn7, cn8, cn9, cn10, cn11, cn12, List.set_cons_zero, List.set_cons_succ, tn0, tn1, tn2, tn3, tn4, tn5, tn6, tn7, tn8, eLn_ap, tLn_ap, lnd_nil, lnd_cons, lend_ow, lend_dc, lend_un, lend_vl, scD_bl, scD_int, scD_non, scD_str, sParL_ap, frz_ap, chL_ap, chK_ap, chLt_ap, chKt_ap, asB_ap, dIsi, inst, in_range_t h1 (show w.1 ≤ 1000 by omega), in_range_t h2 h3]
theorem is_windows_ok {ws : List Win} (h : WsOk ws) : m_is_windows [wsD ws] = some (.rt (.bl true)) := by
  have hl : (ws.length : Int) ≤ 8 := by have := h.len; omega
  unfold m_is_windows b_is_windows wsD
  have e : C_is_windows_1 [.vl (.tup (ws.map wD)), .un] = some (.ok (.lst (ws.map fun _ => .bl true)) [.vl (.tup (ws.map wD)), .un]) :=
    lcE_mapS (enc := wD) (fun _ => .bl true) rfl (by omega) (fun x hx => ⟨_, rfl, by simp only [wp, vls_nil, vls_cons, uns_zero, uns_succ, gt_zero, gt_succ, st_zero, st_succ, bnd_ap, ret_ap, lift_some, eC_ap, eV_ap, e2_ap, eB_ap, eNot_ap, tNot_ap, tAnd_app, tOr_app, ite_ap, eAnd_ap, eOr_ap, e3_app, eIf_ap, brk_ap, brk'_ap, ite_bl, ite_bo, ite_tb, ite_to, ↓reduceIte, Bool.false_eq_true, Bool.not_true, Bool.not_false, aN_ap, aC_ap, eT_ap, eL_ap, fL_ap, eB1_ap, eIsi_ap, eIsiA_ap, e1n_ap, oS_ap, eSl_ap, eCall_ap, fCall_ap, eCall1_ap, eOx_ap, eDGet_ap, eDSort_ap, iS_ap, iR1_ap, iR2_ap, iE_ap, iZ_ap, gN_ap, gT2, gT3, sSeq_ap, sNext_ap, sExpr_ap, sRet_ap, sRetF_ap, sIf_ap, sAsg_ap, sPar_ap, sParD_ap, sPut_ap, sDPut_ap, sBind_ap, sOwn_ap, sApp_ap, sRetO_ap, eSortSet_ap, sFor_ap, sBag_ap, finB_2, own0_ap, fin0_0, fin1_0, fin0_1, fin1_1, fin0_2, fin1_2, fin0_3, fin1_3, fin0_4, fin1_4, fin0_5, fin1_5, fin0_6, fin1_6, fin0_7, fin1_7, fin0_8, fin1_8, dI0_ap, dAdd_ii, dLen_t, dLen_l, dTuple_l, dTuple_t, dList_l, dList_t, dMax_ii, dMin_ii, dIx_t, dIx_l, atI_0, atI_1, atI_2, atI_3, dSl_t, dSl_l, dSl_s, dNe_ii, dEq_ii, ifz, ifz', Option.map_some, List.length_cons, List.length_nil, List.length_append, List.length_map, zl0, zm0, zl1, zm1, zl2, zm2, zl3, zm3, zl4, zm4, zl5, zm5, zl6, zm6, zl7, zm7, zl8, zm8, zl9, zm9, zl10, zm10, zl11, zm11, zl12, zm12, zl13, zm13, zl14, zm14, zl15, zm15, zl16, zm16, Nat.zero_add, Nat.reduceAdd, Int.reduceAdd, Int.reduceSub, Int.reduceMul, Int.reduceNeg, Int.reduceEq, Int.reduceLE, Int.reduceLT, Int.reduceToNat, Int.reducePow, decide_true, decide_false, cn0, cn1, cn2, cn3, cn4, cn5, cn6, cn7, cn8, cn9, cn10, cn11, cn12, List.set_cons_zero, List.set_cons_succ, tn0, tn1, tn2, tn3, tn4, tn5, tn6, tn7, tn8, eLn_ap, tLn_ap, lnd_nil, lnd_cons, lend_ow, lend_dc, lend_un, lend_vl, scD_bl, scD_int, scD_non, scD_str, sParL_ap, frz_ap, chL_ap, chK_ap, chLt_ap, chKt_ap, asB_ap, is_window_ok (h.ok x hx)], rfl⟩) rfl
  simp only [vls_nil, vls_cons, uns_zero, uns_succ, gt_zero, gt_succ, st_zero, st_succ, bnd_ap, ret_ap, lift_some, eC_ap, eV_ap, e2_ap, eB_ap, eNot_ap, tNot_ap, tAnd_app, tOr_app, ite_ap, eAnd_ap, eOr_ap, e3_app, eIf_ap, brk_ap, brk'_ap, ite_bl, ite_bo, ite_tb, ite_to, ↓reduceIte, Bool.false_eq_true, Bool.not_true, Bool.not_false, aN_ap, aC_ap, eT_ap, eL_ap, fL_ap, eB1_ap, eIsi_ap, eIsiA_ap, e1n_ap, oS_ap, eSl_ap, eCall_ap, fCall_ap, eCall1_ap, eOx_ap, eDGet_ap, eDSort_ap, iS_ap, iR1_ap, iR2_ap, iE_ap, iZ_ap, gN_ap, gT2, gT3, sSeq_ap, sNext_ap, sExpr_ap, sRet_ap, sRetF_ap, sIf_ap, sAsg_ap, sPar_ap, sParD_ap, sPut_ap, sDPut_ap, sBind_ap, sOwn_ap, sApp_ap, sRetO_ap, eSortSet_ap, sFor_ap, sBag_ap, finB_2, own0_ap, fin0_0, fin1_0, fin0_1, fin1_1, fin0_2, fin1_2, fin0_3, fin1_3, fin0_4, fin1_4, fin0_5, fin1_5, fin0_6, fin1_6, fin0_7, fin1_7, fin0_8, fin1_8, dI0_ap, dAdd_ii, dLen_t, dLen_l, dTuple_l, dTuple_t, dList_l, dList_t, dMax_ii, dMin_ii, dIx_t, dIx_l, atI_0, atI_1, atI_2, atI_3, dSl_t, dSl_l, dSl_s, dNe_ii, dEq_ii, ifz, ifz', Option.map_some, List.length_cons, List.length_nil, List.length_append, List.length_map, zl0, zm0, zl1, zm1, zl2, zm2, zl3, zm3, zl4, zm4, zl5, zm5, zl6, zm6, zl7, zm7, zl8, zm8, zl9, zm9, zl10, zm10, zl11, zm11, zl12, zm12, zl13, zm13, zl14, zm14, zl15, zm15, zl16, zm16, Nat.zero_add, Nat.reduceAdd, Int.reduceAdd, Int.reduceSub, Int.reduceMul, Int.reduceNeg, Int.reduceEq, Int.reduceLE, Int.reduceLT, Int.reduceToNat, Int.reducePow, decide_true, decide_false, cn0, cn1, cn2, cn3, cn4, cn5, cn6, cn7, cn8, cn9, cn10, cn11, cn12, List.set_cons_zero, List.set_cons_succ, tn0, tn1, tn2, tn3, tn4, tn5, tn6, tn7, tn8, eLn_ap, tLn_ap, lnd_nil, lnd_cons, lend_ow, lend_dc, lend_un, lend_vl, scD_bl, scD_int, scD_non, scD_str, sParL_ap, frz_ap, chL_ap, chK_ap, chLt_ap, chKt_ap, asB_ap, dIsi, inst, decide_eq_true hl, e, dAll_map, all_yes]
theorem check_windows_ok {ws : List Win} (h : WsOk ws) : m_check_windows [wsD ws] = some (.rt .non) := by
  unfold m_check_windows b_check_windows
  simp only [vls_nil, vls_cons, uns_zero, uns_succ, gt_zero, gt_succ, st_zero, st_succ, bnd_ap, ret_ap, lift_some, eC_ap, eV_ap, e2_ap, eB_ap, eNot_ap, tNot_ap, tAnd_app, tOr_app, ite_ap, eAnd_ap, eOr_ap, e3_app, eIf_ap, brk_ap, brk'_ap, ite_bl, ite_bo, ite_tb, ite_to, ↓reduceIte, Bool.false_eq_true, Bool.not_true, Bool.not_false, aN_ap, aC_ap, eT_ap, eL_ap, fL_ap, eB1_ap, eIsi_ap, eIsiA_ap, e1n_ap, oS_ap, eSl_ap, eCall_ap, fCall_ap, eCall1_ap, eOx_ap, eDGet_ap, eDSort_ap, iS_ap, iR1_ap, iR2_ap, iE_ap, iZ_ap, gN_ap, gT2, gT3, sSeq_ap, sNext_ap, sExpr_ap, sRet_ap, sRetF_ap, sIf_ap, sAsg_ap, sPar_ap, sParD_ap, sPut_ap, sDPut_ap, sBind_ap, sOwn_ap, sApp_ap, sRetO_ap, eSortSet_ap, sFor_ap, sBag_ap, finB_2, own0_ap, fin0_0, fin1_0, fin0_1, fin1_1, fin0_2, fin1_2, fin0_3, fin1_3, fin0_4, fin1_4, fin0_5, fin1_5, fin0_6, fin1_6, fin0_7, fin1_7, fin0_8, fin1_8, dI0_ap, dAdd_ii, dLen_t, dLen_l, dTuple_l, dTuple_t, dList_l, dList_t, dMax_ii, dMin_ii, dIx_t, dIx_l, atI_0, atI_1, atI_2, atI_3, dSl_t, dSl_l, dSl_s, dNe_ii, dEq_ii, ifz, ifz', Option.map_some, List.length_cons, List.length_nil, List.length_append, List.length_map, zl0, zm0, zl1, zm1, zl2, zm2, zl3, zm3, zl4, zm4, zl5, zm5, zl6, zm6, zl7, zm7, zl8, zm8, zl9, zm9, zl10, zm10, zl11, zm11, zl12, zm12, zl13, zm13, zl14, zm14, zl15, zm15, zl16, zm16, Nat.zero_add, Nat.reduceAdd, Int.reduceAdd, Int.reduceSub, Int.reduceMul, Int.reduceNeg, Int.reduceEq, Int.reduceLE, Int.reduceLT, Int.reduceToNat, Int.reducePow, decide_true, decide_false, cn0, cn1, cn2, cn3, cn4, cn5, cn6, cn7, cn8, cn9, cn10, cn11, cn12, List.set_cons_zero, List.set_cons_succ, tn0, tn1, tn2, tn3, tn4, tn5, tn6, tn7, tn8, eLn_ap, tLn_ap, lnd_nil, lnd_cons, lend_ow, lend_dc, lend_un, lend_vl, scD_bl, scD_int, scD_non, scD_str, sParL_ap, frz_ap, chL_ap, chK_ap, chLt_ap, chKt_ap, asB_ap, is_windows_ok h]
theorem is_tally_ok {ws : List Win} {t : Tal} (h : TOk ws.length t) : m_is_tally [wsD ws, tD t] = some (.rt (.bl true)) := by
  obtain ⟨h1, h2, h3, h4, h5⟩ := h
  unfold m_is_tally b_is_tally tD wsD
  simp only [vls_nil, vls_cons, uns_zero, uns_succ, gt_zero, gt_succ, st_zero, st_succ, bnd_ap, ret_ap, lift_some, eC_ap, eV_ap, e2_ap, eB_ap, eNot_ap, tNot_ap, tAnd_app, tOr_app, ite_ap, eAnd_ap, eOr_ap, e3_app, eIf_ap, brk_ap, brk'_ap, ite_bl, ite_bo, ite_tb, ite_to, ↓reduceIte, Bool.false_eq_true, Bool.not_true, Bool.not_false, aN_ap, aC_ap, eT_ap, eL_ap, fL_ap, eB1_ap, eIsi_ap, eIsiA_ap, e1n_ap, oS_ap, eSl_ap, eCall_ap, fCall_ap, eCall1_ap, eOx_ap, eDGet_ap, eDSort_ap, iS_ap, iR1_ap, iR2_ap, iE_ap, iZ_ap, gN_ap, gT2, gT3, sSeq_ap, sNext_ap, sExpr_ap, sRet_ap, sRetF_ap, sIf_ap, sAsg_ap, sPar_ap, sParD_ap, sPut_ap, sDPut_ap, sBind_ap, sOwn_ap, sApp_ap, sRetO_ap, eSortSet_ap, sFor_ap, sBag_ap, finB_2, own0_ap, fin0_0, fin1_0, fin0_1, fin1_1, fin0_2, fin1_2, fin0_3, fin1_3, fin0_4, fin1_4, fin0_5, fin1_5, fin0_6, fin1_6, fin0_7, fin1_7, fin0_8, fin1_8, dI0_ap, dAdd_ii, dLen_t, dLen_l, dTuple_l, dTuple_t, dList_l, dList_t, dMax_ii, dMin_ii, dIx_t, dIx_l, atI_0, atI_1, atI_2, atI_3, dSl_t, dSl_l, dSl_s, dNe_ii, dEq_ii, ifz, ifz', Option.map_some, List.length_cons, List.length_nil, List.length_append, List.length_map, zl0, zm0, zl1, zm1, zl2, zm2, zl3, zm3, zl4, zm4, zl5, zm5, zl6, zm6, zl7, zm7, zl8, zm8, zl9, zm9, zl10, zm10, zl11, zm11, zl12, zm12, zl13, zm13, zl14, zm14, zl15, zm15, zl16, zm16, Nat.zero_add, Nat.reduceAdd, Int.reduceAdd, Int.reduceSub, Int.reduceMul, Int.reduceNeg, Int.reduceEq, Int.reduceLE, Int.reduceLT, Int.reduceToNat, Int.reducePow, decide_true, decide_false, cn0, cn1, cn2, cn3, cn4, cn5, cn6, cn7, cn8, cn9, cn10, cn11, cn12, List.set_cons_zero, List.set_cons_succ, tn0, tn1, tn2, tn3, tn4, tn5, tn6, tn7, tn8, eLn_ap, tLn_ap, lnd_nil, lnd_cons, lend_ow, lend_dc, lend_un, lend_vl, scD_bl, scD_int, scD_non, scD_str, sParL_ap, frz_ap, chL_ap, chK_ap, chLt_ap, chKt_ap, asB_ap, dIsi, inst, in_range_t h1 h2, in_range_t h3 (show t.2.1 ≤ (ws.length : Int) by omega), in_range_t h4 h5]
theorem zip_lt {ts : List Tal} (h : ts.Pairwise fun a b => a.1 < b.1) : ((ts.zip (ts.drop 1)).all fun p => decide (p.1.1 < p.2.1)) = true := by
  induction h with
  | nil => rfl
  | @cons a l ha hl ih =>
    cases l with
    | nil => rfl
    | cons b r =>
      simp only [List.drop_succ_cons, List.drop_zero, List.zip_cons_cons, List.all_cons, Bool.and_eq_true, decide_eq_true_eq] at ih ⊢
      exact ⟨ha b List.mem_cons_self, ih⟩
theorem are_tallies_ok {ws : List Win} {ts : List Tal} (h : TsOk ws.length ts) : m_are_tallies [wsD ws, tsD ts] = some (.rt (.bl true)) := by
  have hl : ¬ (6 : Int) < (ts.length : Int) := by have := h.len; omega
  have hl2 := h.len
  unfold m_are_tallies b_are_tallies tsD
  have e : C_are_tallies_1 [.vl (wsD ws), .vl (.tup (ts.map tD)), .un, .un] = some (.ok (.lst (ts.map fun _ => .bl true)) [.vl (wsD ws), .vl (.tup (ts.map tD)), .un, .un]) :=
    lcE_mapS (enc := tD) (fun _ => .bl true) rfl (by omega) (fun x hx => ⟨_, rfl, by simp only [wp, vls_nil, vls_cons, uns_zero, uns_succ, gt_zero, gt_succ, st_zero, st_succ, bnd_ap, ret_ap, lift_some, eC_ap, eV_ap, e2_ap, eB_ap, eNot_ap, tNot_ap, tAnd_app, tOr_app, ite_ap, eAnd_ap, eOr_ap, e3_app, eIf_ap, brk_ap, brk'_ap, ite_bl, ite_bo, ite_tb, ite_to, ↓reduceIte, Bool.false_eq_true, Bool.not_true, Bool.not_false, aN_ap, aC_ap, eT_ap, eL_ap, fL_ap, eB1_ap, eIsi_ap, eIsiA_ap, e1n_ap, oS_ap, eSl_ap, eCall_ap, fCall_ap, eCall1_ap, eOx_ap, eDGet_ap, eDSort_ap, iS_ap, iR1_ap, iR2_ap, iE_ap, iZ_ap, gN_ap, gT2, gT3, sSeq_ap, sNext_ap, sExpr_ap, sRet_ap, sRetF_ap, sIf_ap, sAsg_ap, sPar_ap, sParD_ap, sPut_ap, sDPut_ap, sBind_ap, sOwn_ap, sApp_ap, sRetO_ap, eSortSet_ap, sFor_ap, sBag_ap, finB_2, own0_ap, fin0_0, fin1_0, fin0_1, fin1_1, fin0_2, fin1_2, fin0_3, fin1_3, fin0_4, fin1_4, fin0_5, fin1_5, fin0_6, fin1_6, fin0_7, fin1_7, fin0_8, fin1_8, dI0_ap, dAdd_ii, dLen_t, dLen_l, dTuple_l, dTuple_t, dList_l, dList_t, dMax_ii, dMin_ii, dIx_t, dIx_l, atI_0, atI_1, atI_2, atI_3, dSl_t, dSl_l, dSl_s, dNe_ii, dEq_ii, ifz, ifz', Option.map_some, List.length_cons, List.length_nil, List.length_append, List.length_map, zl0, zm0, zl1, zm1, zl2, zm2, zl3, zm3, zl4, zm4, zl5, zm5, zl6, zm6, zl7, zm7, zl8, zm8, zl9, zm9, zl10, zm10, zl11, zm11, zl12, zm12, zl13, zm13, zl14, zm14, zl15, zm15, zl16, zm16, Nat.zero_add, Nat.reduceAdd, Int.reduceAdd, Int.reduceSub, Int.reduceMul, Int.reduceNeg, Int.reduceEq, Int.reduceLE, Int.reduceLT, Int.reduceToNat, Int.reducePow, decide_true, decide_false, cn0, cn1, cn2, cn3, cn4, cn5, cn6, cn7, cn8, cn9, cn10, cn11, cn12, List.set_cons_zero, List.set_cons_succ, tn0, tn1, tn2, tn3, tn4, tn5, tn6, tn7, tn8, eLn_ap, tLn_ap, lnd_nil, lnd_cons, lend_ow, lend_dc, lend_un, lend_vl, scD_bl, scD_int, scD_non, scD_str, sParL_ap, frz_ap, chL_ap, chK_ap, chLt_ap, chKt_ap, asB_ap, is_tally_ok (h.ok x hx)], rfl⟩) rfl
  have e2 : C_are_tallies_2 [.vl (wsD ws), .vl (.tup (ts.map tD)), .un, .un] = some (.ok (.lst ((ts.zip (ts.drop 1)).map fun p => .bl (decide (p.1.1 < p.2.1)))) [.vl (wsD ws), .vl (.tup (ts.map tD)), .un, .un]) :=
    lcE_mapS (enc := fun p : Tal × Tal => .tup [tD p.1, tD p.2]) (fun p => .bl (decide (p.1.1 < p.2.1))) (by simp only [vls_nil, vls_cons, uns_zero, uns_succ, gt_zero, gt_succ, st_zero, st_succ, bnd_ap, ret_ap, lift_some, eC_ap, eV_ap, e2_ap, eB_ap, eNot_ap, tNot_ap, tAnd_app, tOr_app, ite_ap, eAnd_ap, eOr_ap, e3_app, eIf_ap, brk_ap, brk'_ap, ite_bl, ite_bo, ite_tb, ite_to, ↓reduceIte, Bool.false_eq_true, Bool.not_true, Bool.not_false, aN_ap, aC_ap, eT_ap, eL_ap, fL_ap, eB1_ap, eIsi_ap, eIsiA_ap, e1n_ap, oS_ap, eSl_ap, eCall_ap, fCall_ap, eCall1_ap, eOx_ap, eDGet_ap, eDSort_ap, iS_ap, iR1_ap, iR2_ap, iE_ap, iZ_ap, gN_ap, gT2, gT3, sSeq_ap, sNext_ap, sExpr_ap, sRet_ap, sRetF_ap, sIf_ap, sAsg_ap, sPar_ap, sParD_ap, sPut_ap, sDPut_ap, sBind_ap, sOwn_ap, sApp_ap, sRetO_ap, eSortSet_ap, sFor_ap, sBag_ap, finB_2, own0_ap, fin0_0, fin1_0, fin0_1, fin1_1, fin0_2, fin1_2, fin0_3, fin1_3, fin0_4, fin1_4, fin0_5, fin1_5, fin0_6, fin1_6, fin0_7, fin1_7, fin0_8, fin1_8, dI0_ap, dAdd_ii, dLen_t, dLen_l, dTuple_l, dTuple_t, dList_l, dList_t, dMax_ii, dMin_ii, dIx_t, dIx_l, atI_0, atI_1, atI_2, atI_3, dSl_t, dSl_l, dSl_s, dNe_ii, dEq_ii, ifz, ifz', Option.map_some, List.length_cons, List.length_nil, List.length_append, List.length_map, zl0, zm0, zl1, zm1, zl2, zm2, zl3, zm3, zl4, zm4, zl5, zm5, zl6, zm6, zl7, zm7, zl8, zm8, zl9, zm9, zl10, zm10, zl11, zm11, zl12, zm12, zl13, zm13, zl14, zm14, zl15, zm15, zl16, zm16, Nat.zero_add, Nat.reduceAdd, Int.reduceAdd, Int.reduceSub, Int.reduceMul, Int.reduceNeg, Int.reduceEq, Int.reduceLE, Int.reduceLT, Int.reduceToNat, Int.reducePow, decide_true, decide_false, cn0, cn1, cn2, cn3, cn4, cn5, cn6, cn7, cn8, cn9, cn10, cn11, cn12, List.set_cons_zero, List.set_cons_succ, tn0, tn1, tn2, tn3, tn4, tn5, tn6, tn7, tn8, eLn_ap, tLn_ap, lnd_nil, lnd_cons, lend_ow, lend_dc, lend_un, lend_vl, scD_bl, scD_int, scD_non, scD_str, sParL_ap, frz_ap, chL_ap, chK_ap, chLt_ap, chKt_ap, asB_ap, cutL_from (show (0 : Int) ≤ 1 by decide), ← List.map_drop, zipL_map]) (by simp only [List.length_zip]; omega) (fun x hx => ⟨_, gT2, by simp only [wp, vls_nil, vls_cons, uns_zero, uns_succ, gt_zero, gt_succ, st_zero, st_succ, bnd_ap, ret_ap, lift_some, eC_ap, eV_ap, e2_ap, eB_ap, eNot_ap, tNot_ap, tAnd_app, tOr_app, ite_ap, eAnd_ap, eOr_ap, e3_app, eIf_ap, brk_ap, brk'_ap, ite_bl, ite_bo, ite_tb, ite_to, ↓reduceIte, Bool.false_eq_true, Bool.not_true, Bool.not_false, aN_ap, aC_ap, eT_ap, eL_ap, fL_ap, eB1_ap, eIsi_ap, eIsiA_ap, e1n_ap, oS_ap, eSl_ap, eCall_ap, fCall_ap, eCall1_ap, eOx_ap, eDGet_ap, eDSort_ap, iS_ap, iR1_ap, iR2_ap, iE_ap, iZ_ap, gN_ap, gT2, gT3, sSeq_ap, sNext_ap, sExpr_ap, sRet_ap, sRetF_ap, sIf_ap, sAsg_ap, sPar_ap, sParD_ap, sPut_ap, sDPut_ap, sBind_ap, sOwn_ap, sApp_ap, sRetO_ap, eSortSet_ap, sFor_ap, sBag_ap, finB_2, own0_ap, fin0_0, fin1_0, fin0_1, fin1_1, fin0_2, fin1_2, fin0_3, fin1_3, fin0_4, fin1_4, fin0_5, fin1_5, fin0_6, fin1_6, fin0_7, fin1_7, fin0_8, fin1_8, dI0_ap, dAdd_ii, dLen_t, dLen_l, dTuple_l, dTuple_t, dList_l, dList_t, dMax_ii, dMin_ii, dIx_t, dIx_l, atI_0, atI_1, atI_2, atI_3, dSl_t, dSl_l, dSl_s, dNe_ii, dEq_ii, ifz, ifz', Option.map_some, List.length_cons, List.length_nil, List.length_append, List.length_map, zl0, zm0, zl1, zm1, zl2, zm2, zl3, zm3, zl4, zm4, zl5, zm5, zl6, zm6, zl7, zm7, zl8, zm8, zl9, zm9, zl10, zm10, zl11, zm11, zl12, zm12, zl13, zm13, zl14, zm14, zl15, zm15, zl16, zm16, Nat.zero_add, Nat.reduceAdd, Int.reduceAdd, Int.reduceSub, Int.reduceMul, Int.reduceNeg, Int.reduceEq, Int.reduceLE, Int.reduceLT, Int.reduceToNat, Int.reducePow, decide_true, decide_false, cn0, cn1, cn2, cn3, cn4, cn5, cn6, cn7, cn8, cn9, cn10, cn11, cn12, List.set_cons_zero, List.set_cons_succ, tn0, tn1, tn2, tn3, tn4, tn5, tn6, tn7, tn8, eLn_ap, tLn_ap, lnd_nil, lnd_cons, lend_ow, lend_dc, lend_un, lend_vl, scD_bl, scD_int, scD_non, scD_str, sParL_ap, frz_ap, chL_ap, chK_ap, chLt_ap, chKt_ap, asB_ap, tD], rfl⟩) rfl
  simp only [vls_nil, vls_cons, uns_zero, uns_succ, gt_zero, gt_succ, st_zero, st_succ, bnd_ap, ret_ap, lift_some, eC_ap, eV_ap, e2_ap, eB_ap, eNot_ap, tNot_ap, tAnd_app, tOr_app, ite_ap, eAnd_ap, eOr_ap, e3_app, eIf_ap, brk_ap, brk'_ap, ite_bl, ite_bo, ite_tb, ite_to, ↓reduceIte, Bool.false_eq_true, Bool.not_true, Bool.not_false, aN_ap, aC_ap, eT_ap, eL_ap, fL_ap, eB1_ap, eIsi_ap, eIsiA_ap, e1n_ap, oS_ap, eSl_ap, eCall_ap, fCall_ap, eCall1_ap, eOx_ap, eDGet_ap, eDSort_ap, iS_ap, iR1_ap, iR2_ap, iE_ap, iZ_ap, gN_ap, gT2, gT3, sSeq_ap, sNext_ap, sExpr_ap, sRet_ap, sRetF_ap, sIf_ap, sAsg_ap, sPar_ap, sParD_ap, sPut_ap, sDPut_ap, sBind_ap, sOwn_ap, sApp_ap, sRetO_ap, eSortSet_ap, sFor_ap, sBag_ap, finB_2, own0_ap, fin0_0, fin1_0, fin0_1, fin1_1, fin0_2, fin1_2, fin0_3, fin1_3, fin0_4, fin1_4, fin0_5, fin1_5, fin0_6, fin1_6, fin0_7, fin1_7, fin0_8, fin1_8, dI0_ap, dAdd_ii, dLen_t, dLen_l, dTuple_l, dTuple_t, dList_l, dList_t, dMax_ii, dMin_ii, dIx_t, dIx_l, atI_0, atI_1, atI_2, atI_3, dSl_t, dSl_l, dSl_s, dNe_ii, dEq_ii, ifz, ifz', Option.map_some, List.length_cons, List.length_nil, List.length_append, List.length_map, zl0, zm0, zl1, zm1, zl2, zm2, zl3, zm3, zl4, zm4, zl5, zm5, zl6, zm6, zl7, zm7, zl8, zm8, zl9, zm9, zl10, zm10, zl11, zm11, zl12, zm12, zl13, zm13, zl14, zm14, zl15, zm15, zl16, zm16, Nat.zero_add, Nat.reduceAdd, Int.reduceAdd, Int.reduceSub, Int.reduceMul, Int.reduceNeg, Int.reduceEq, Int.reduceLE, Int.reduceLT, Int.reduceToNat, Int.reducePow, decide_true, decide_false, cn0, cn1, cn2, cn3, cn4, cn5, cn6, cn7, cn8, cn9, cn10, cn11, cn12, List.set_cons_zero, List.set_cons_succ, tn0, tn1, tn2, tn3, tn4, tn5, tn6, tn7, tn8, eLn_ap, tLn_ap, lnd_nil, lnd_cons, lend_ow, lend_dc, lend_un, lend_vl, scD_bl, scD_int, scD_non, scD_str, sParL_ap, frz_ap, chL_ap, chK_ap, chLt_ap, chKt_ap, asB_ap, dIsi, inst, decide_eq_false hl, e, e2, dAll_map, all_yes, zip_lt h.inc]
theorem check_both_ok {ws : List Win} {ts : List Tal} (hw : WsOk ws) (h : TsOk ws.length ts) : m_check_both [wsD ws, tsD ts] = some (.rt .non) := by
  unfold m_check_both b_check_both
  simp only [vls_nil, vls_cons, uns_zero, uns_succ, gt_zero, gt_succ, st_zero, st_succ, bnd_ap, ret_ap, lift_some, eC_ap, eV_ap, e2_ap, eB_ap, eNot_ap, tNot_ap, tAnd_app, tOr_app, ite_ap, eAnd_ap, eOr_ap, e3_app, eIf_ap, brk_ap, brk'_ap, ite_bl, ite_bo, ite_tb, ite_to, ↓reduceIte, Bool.false_eq_true, Bool.not_true, Bool.not_false, aN_ap, aC_ap, eT_ap, eL_ap, fL_ap, eB1_ap, eIsi_ap, eIsiA_ap, e1n_ap, oS_ap, eSl_ap, eCall_ap, fCall_ap, eCall1_ap, eOx_ap, eDGet_ap, eDSort_ap, iS_ap, iR1_ap, iR2_ap, iE_ap, iZ_ap, gN_ap, gT2, gT3, sSeq_ap, sNext_ap, sExpr_ap, sRet_ap, sRetF_ap, sIf_ap, sAsg_ap, sPar_ap, sParD_ap, sPut_ap, sDPut_ap, sBind_ap, sOwn_ap, sApp_ap, sRetO_ap, eSortSet_ap, sFor_ap, sBag_ap, finB_2, own0_ap, fin0_0, fin1_0, fin0_1, fin1_1, fin0_2, fin1_2, fin0_3, fin1_3, fin0_4, fin1_4, fin0_5, fin1_5, fin0_6, fin1_6, fin0_7, fin1_7, fin0_8, fin1_8, dI0_ap, dAdd_ii, dLen_t, dLen_l, dTuple_l, dTuple_t, dList_l, dList_t, dMax_ii, dMin_ii, dIx_t, dIx_l, atI_0, atI_1, atI_2, atI_3, dSl_t, dSl_l, dSl_s, dNe_ii, dEq_ii, ifz, ifz', Option.map_some, List.length_cons, List.length_nil, List.length_append, List.length_map, zl0, zm0, zl1, zm1, zl2, zm2, zl3, zm3, zl4, zm4, zl5, zm5, zl6, zm6, zl7, zm7, zl8, zm8, zl9, zm9, zl10, zm10, zl11, zm11, zl12, zm12, zl13, zm13, zl14, zm14, zl15, zm15, zl16, zm16, Nat.zero_add, Nat.reduceAdd, Int.reduceAdd, Int.reduceSub, Int.reduceMul, Int.reduceNeg, Int.reduceEq, Int.reduceLE, Int.reduceLT, Int.reduceToNat, Int.reducePow, decide_true, decide_false, cn0, cn1, cn2, cn3, cn4, cn5, cn6, cn7, cn8, cn9, cn10, cn11, cn12, List.set_cons_zero, List.set_cons_succ, tn0, tn1, tn2, tn3, tn4, tn5, tn6, tn7, tn8, eLn_ap, tLn_ap, lnd_nil, lnd_cons, lend_ow, lend_dc, lend_un, lend_vl, scD_bl, scD_int, scD_non, scD_str, sParL_ap, frz_ap, chL_ap, chK_ap, chLt_ap, chKt_ap, asB_ap, check_windows_ok hw, are_tallies_ok h]
def insN (ws : List Win) (s t : Int) : Nat := (ws.filter fun w => decide (s < w.1) && decide (w.2 ≤ t)).length
theorem inside_of_ok {ws : List Win} (h : WsOk ws) (s t : Int) : m_inside_of [wsD ws, .int s, .int t] = some (.rt (.int (insN ws s t))) := by
  have hl := h.len
  unfold m_inside_of b_inside_of wsD
  have e : C_inside_of_1 [.vl (.tup (ws.map wD)), .vl (.int s), .vl (.int t), .un] = some (.ok (.lst ((ws.filter fun w => decide (s < w.1) && decide (w.2 ≤ t)).map wD)) [.vl (.tup (ws.map wD)), .vl (.int s), .vl (.int t), .un]) :=
    lcE_pureS (enc := wD) (fun w => decide (s < w.1) && decide (w.2 ≤ t)) wD rfl (by omega) (fun x hx => ⟨_, rfl, by simp only [wp, vls_nil, vls_cons, uns_zero, uns_succ, gt_zero, gt_succ, st_zero, st_succ, bnd_ap, ret_ap, lift_some, eC_ap, eV_ap, e2_ap, eB_ap, eNot_ap, tNot_ap, tAnd_app, tOr_app, ite_ap, eAnd_ap, eOr_ap, e3_app, eIf_ap, brk_ap, brk'_ap, ite_bl, ite_bo, ite_tb, ite_to, ↓reduceIte, Bool.false_eq_true, Bool.not_true, Bool.not_false, aN_ap, aC_ap, eT_ap, eL_ap, fL_ap, eB1_ap, eIsi_ap, eIsiA_ap, e1n_ap, oS_ap, eSl_ap, eCall_ap, fCall_ap, eCall1_ap, eOx_ap, eDGet_ap, eDSort_ap, iS_ap, iR1_ap, iR2_ap, iE_ap, iZ_ap, gN_ap, gT2, gT3, sSeq_ap, sNext_ap, sExpr_ap, sRet_ap, sRetF_ap, sIf_ap, sAsg_ap, sPar_ap, sParD_ap, sPut_ap, sDPut_ap, sBind_ap, sOwn_ap, sApp_ap, sRetO_ap, eSortSet_ap, sFor_ap, sBag_ap, finB_2, own0_ap, fin0_0, fin1_0, fin0_1, fin1_1, fin0_2, fin1_2, fin0_3, fin1_3, fin0_4, fin1_4, fin0_5, fin1_5, fin0_6, fin1_6, fin0_7, fin1_7, fin0_8, fin1_8, dI0_ap, dAdd_ii, dLen_t, dLen_l, dTuple_l, dTuple_t, dList_l, dList_t, dMax_ii, dMin_ii, dIx_t, dIx_l, atI_0, atI_1, atI_2, atI_3, dSl_t, dSl_l, dSl_s, dNe_ii, dEq_ii, ifz, ifz', Option.map_some, List.length_cons, List.length_nil, List.length_append, List.length_map, zl0, zm0, zl1, zm1, zl2, zm2, zl3, zm3, zl4, zm4, zl5, zm5, zl6, zm6, zl7, zm7, zl8, zm8, zl9, zm9, zl10, zm10, zl11, zm11, zl12, zm12, zl13, zm13, zl14, zm14, zl15, zm15, zl16, zm16, Nat.zero_add, Nat.reduceAdd, Int.reduceAdd, Int.reduceSub, Int.reduceMul, Int.reduceNeg, Int.reduceEq, Int.reduceLE, Int.reduceLT, Int.reduceToNat, Int.reducePow, decide_true, decide_false, cn0, cn1, cn2, cn3, cn4, cn5, cn6, cn7, cn8, cn9, cn10, cn11, cn12, List.set_cons_zero, List.set_cons_succ, tn0, tn1, tn2, tn3, tn4, tn5, tn6, tn7, tn8, eLn_ap, tLn_ap, lnd_nil, lnd_cons, lend_ow, lend_dc, lend_un, lend_vl, scD_bl, scD_int, scD_non, scD_str, sParL_ap, frz_ap, chL_ap, chK_ap, chLt_ap, chKt_ap, asB_ap, wD], fun _ => by simp only [wp, vls_nil, vls_cons, uns_zero, uns_succ, gt_zero, gt_succ, st_zero, st_succ, bnd_ap, ret_ap, lift_some, eC_ap, eV_ap, e2_ap, eB_ap, eNot_ap, tNot_ap, tAnd_app, tOr_app, ite_ap, eAnd_ap, eOr_ap, e3_app, eIf_ap, brk_ap, brk'_ap, ite_bl, ite_bo, ite_tb, ite_to, ↓reduceIte, Bool.false_eq_true, Bool.not_true, Bool.not_false, aN_ap, aC_ap, eT_ap, eL_ap, fL_ap, eB1_ap, eIsi_ap, eIsiA_ap, e1n_ap, oS_ap, eSl_ap, eCall_ap, fCall_ap, eCall1_ap, eOx_ap, eDGet_ap, eDSort_ap, iS_ap, iR1_ap, iR2_ap, iE_ap, iZ_ap, gN_ap, gT2, gT3, sSeq_ap, sNext_ap, sExpr_ap, sRet_ap, sRetF_ap, sIf_ap, sAsg_ap, sPar_ap, sParD_ap, sPut_ap, sDPut_ap, sBind_ap, sOwn_ap, sApp_ap, sRetO_ap, eSortSet_ap, sFor_ap, sBag_ap, finB_2, own0_ap, fin0_0, fin1_0, fin0_1, fin1_1, fin0_2, fin1_2, fin0_3, fin1_3, fin0_4, fin1_4, fin0_5, fin1_5, fin0_6, fin1_6, fin0_7, fin1_7, fin0_8, fin1_8, dI0_ap, dAdd_ii, dLen_t, dLen_l, dTuple_l, dTuple_t, dList_l, dList_t, dMax_ii, dMin_ii, dIx_t, dIx_l, atI_0, atI_1, atI_2, atI_3, dSl_t, dSl_l, dSl_s, dNe_ii, dEq_ii, ifz, ifz', Option.map_some, List.length_cons, List.length_nil, List.length_append, List.length_map, zl0, zm0, zl1, zm1, zl2, zm2, zl3, zm3, zl4, zm4, zl5, zm5, zl6, zm6, zl7, zm7, zl8, zm8, zl9, zm9, zl10, zm10, zl11, zm11, zl12, zm12, zl13, zm13, zl14, zm14, zl15, zm15, zl16, zm16, Nat.zero_add, Nat.reduceAdd, Int.reduceAdd, Int.reduceSub, Int.reduceMul, Int.reduceNeg, Int.reduceEq, Int.reduceLE, Int.reduceLT, Int.reduceToNat, Int.reducePow, decide_true, decide_false, cn0, cn1, cn2, cn3, cn4, cn5, cn6, cn7, cn8, cn9, cn10, cn11, cn12, List.set_cons_zero, List.set_cons_succ, tn0, tn1, tn2, tn3, tn4, tn5, tn6, tn7, tn8, eLn_ap, tLn_ap, lnd_nil, lnd_cons, lend_ow, lend_dc, lend_un, lend_vl, scD_bl, scD_int, scD_non, scD_str, sParL_ap, frz_ap, chL_ap, chK_ap, chLt_ap, chKt_ap, asB_ap], rfl⟩) rfl
  simp only [vls_nil, vls_cons, uns_zero, uns_succ, gt_zero, gt_succ, st_zero, st_succ, bnd_ap, ret_ap, lift_some, eC_ap, eV_ap, e2_ap, eB_ap, eNot_ap, tNot_ap, tAnd_app, tOr_app, ite_ap, eAnd_ap, eOr_ap, e3_app, eIf_ap, brk_ap, brk'_ap, ite_bl, ite_bo, ite_tb, ite_to, ↓reduceIte, Bool.false_eq_true, Bool.not_true, Bool.not_false, aN_ap, aC_ap, eT_ap, eL_ap, fL_ap, eB1_ap, eIsi_ap, eIsiA_ap, e1n_ap, oS_ap, eSl_ap, eCall_ap, fCall_ap, eCall1_ap, eOx_ap, eDGet_ap, eDSort_ap, iS_ap, iR1_ap, iR2_ap, iE_ap, iZ_ap, gN_ap, gT2, gT3, sSeq_ap, sNext_ap, sExpr_ap, sRet_ap, sRetF_ap, sIf_ap, sAsg_ap, sPar_ap, sParD_ap, sPut_ap, sDPut_ap, sBind_ap, sOwn_ap, sApp_ap, sRetO_ap, eSortSet_ap, sFor_ap, sBag_ap, finB_2, own0_ap, fin0_0, fin1_0, fin0_1, fin1_1, fin0_2, fin1_2, fin0_3, fin1_3, fin0_4, fin1_4, fin0_5, fin1_5, fin0_6, fin1_6, fin0_7, fin1_7, fin0_8, fin1_8, dI0_ap, dAdd_ii, dLen_t, dLen_l, dTuple_l, dTuple_t, dList_l, dList_t, dMax_ii, dMin_ii, dIx_t, dIx_l, atI_0, atI_1, atI_2, atI_3, dSl_t, dSl_l, dSl_s, dNe_ii, dEq_ii, ifz, ifz', Option.map_some, List.length_cons, List.length_nil, List.length_append, List.length_map, zl0, zm0, zl1, zm1, zl2, zm2, zl3, zm3, zl4, zm4, zl5, zm5, zl6, zm6, zl7, zm7, zl8, zm8, zl9, zm9, zl10, zm10, zl11, zm11, zl12, zm12, zl13, zm13, zl14, zm14, zl15, zm15, zl16, zm16, Nat.zero_add, Nat.reduceAdd, Int.reduceAdd, Int.reduceSub, Int.reduceMul, Int.reduceNeg, Int.reduceEq, Int.reduceLE, Int.reduceLT, Int.reduceToNat, Int.reducePow, decide_true, decide_false, cn0, cn1, cn2, cn3, cn4, cn5, cn6, cn7, cn8, cn9, cn10, cn11, cn12, List.set_cons_zero, List.set_cons_succ, tn0, tn1, tn2, tn3, tn4, tn5, tn6, tn7, tn8, eLn_ap, tLn_ap, lnd_nil, lnd_cons, lend_ow, lend_dc, lend_un, lend_vl, scD_bl, scD_int, scD_non, scD_str, sParL_ap, frz_ap, chL_ap, chK_ap, chLt_ap, chKt_ap, asB_ap, e]; rfl
theorem law_number_ok {xs : List Int} (h : xs.length ≤ 1000) (t : Int) : m__law_number [xsD xs, .int t] = some (.rt (.int (num xs t))) := by
  unfold m__law_number b__law_number xsD
  have e : C__law_number_1 [.vl (.tup (xs.map .int)), .vl (.int t), .un] = some (.ok (.lst ((xs.filter fun x => decide (x ≤ t)).map .int)) [.vl (.tup (xs.map .int)), .vl (.int t), .un]) :=
    lcE_pureS (enc := D.int) (fun x => decide (x ≤ t)) D.int rfl (by omega) (fun x hx => ⟨_, rfl, by simp only [wp, vls_nil, vls_cons, uns_zero, uns_succ, gt_zero, gt_succ, st_zero, st_succ, bnd_ap, ret_ap, lift_some, eC_ap, eV_ap, e2_ap, eB_ap, eNot_ap, tNot_ap, tAnd_app, tOr_app, ite_ap, eAnd_ap, eOr_ap, e3_app, eIf_ap, brk_ap, brk'_ap, ite_bl, ite_bo, ite_tb, ite_to, ↓reduceIte, Bool.false_eq_true, Bool.not_true, Bool.not_false, aN_ap, aC_ap, eT_ap, eL_ap, fL_ap, eB1_ap, eIsi_ap, eIsiA_ap, e1n_ap, oS_ap, eSl_ap, eCall_ap, fCall_ap, eCall1_ap, eOx_ap, eDGet_ap, eDSort_ap, iS_ap, iR1_ap, iR2_ap, iE_ap, iZ_ap, gN_ap, gT2, gT3, sSeq_ap, sNext_ap, sExpr_ap, sRet_ap, sRetF_ap, sIf_ap, sAsg_ap, sPar_ap, sParD_ap, sPut_ap, sDPut_ap, sBind_ap, sOwn_ap, sApp_ap, sRetO_ap, eSortSet_ap, sFor_ap, sBag_ap, finB_2, own0_ap, fin0_0, fin1_0, fin0_1, fin1_1, fin0_2, fin1_2, fin0_3, fin1_3, fin0_4, fin1_4, fin0_5, fin1_5, fin0_6, fin1_6, fin0_7, fin1_7, fin0_8, fin1_8, dI0_ap, dAdd_ii, dLen_t, dLen_l, dTuple_l, dTuple_t, dList_l, dList_t, dMax_ii, dMin_ii, dIx_t, dIx_l, atI_0, atI_1, atI_2, atI_3, dSl_t, dSl_l, dSl_s, dNe_ii, dEq_ii, ifz, ifz', Option.map_some, List.length_cons, List.length_nil, List.length_append, List.length_map, zl0, zm0, zl1, zm1, zl2, zm2, zl3, zm3, zl4, zm4, zl5, zm5, zl6, zm6, zl7, zm7, zl8, zm8, zl9, zm9, zl10, zm10, zl11, zm11, zl12, zm12, zl13, zm13, zl14, zm14, zl15, zm15, zl16, zm16, Nat.zero_add, Nat.reduceAdd, Int.reduceAdd, Int.reduceSub, Int.reduceMul, Int.reduceNeg, Int.reduceEq, Int.reduceLE, Int.reduceLT, Int.reduceToNat, Int.reducePow, decide_true, decide_false, cn0, cn1, cn2, cn3, cn4, cn5, cn6, cn7, cn8, cn9, cn10, cn11, cn12, List.set_cons_zero, List.set_cons_succ, tn0, tn1, tn2, tn3, tn4, tn5, tn6, tn7, tn8, eLn_ap, tLn_ap, lnd_nil, lnd_cons, lend_ow, lend_dc, lend_un, lend_vl, scD_bl, scD_int, scD_non, scD_str, sParL_ap, frz_ap, chL_ap, chK_ap, chLt_ap, chKt_ap, asB_ap], fun _ => by simp only [wp, vls_nil, vls_cons, uns_zero, uns_succ, gt_zero, gt_succ, st_zero, st_succ, bnd_ap, ret_ap, lift_some, eC_ap, eV_ap, e2_ap, eB_ap, eNot_ap, tNot_ap, tAnd_app, tOr_app, ite_ap, eAnd_ap, eOr_ap, e3_app, eIf_ap, brk_ap, brk'_ap, ite_bl, ite_bo, ite_tb, ite_to, ↓reduceIte, Bool.false_eq_true, Bool.not_true, Bool.not_false, aN_ap, aC_ap, eT_ap, eL_ap, fL_ap, eB1_ap, eIsi_ap, eIsiA_ap, e1n_ap, oS_ap, eSl_ap, eCall_ap, fCall_ap, eCall1_ap, eOx_ap, eDGet_ap, eDSort_ap, iS_ap, iR1_ap, iR2_ap, iE_ap, iZ_ap, gN_ap, gT2, gT3, sSeq_ap, sNext_ap, sExpr_ap, sRet_ap, sRetF_ap, sIf_ap, sAsg_ap, sPar_ap, sParD_ap, sPut_ap, sDPut_ap, sBind_ap, sOwn_ap, sApp_ap, sRetO_ap, eSortSet_ap, sFor_ap, sBag_ap, finB_2, own0_ap, fin0_0, fin1_0, fin0_1, fin1_1, fin0_2, fin1_2, fin0_3, fin1_3, fin0_4, fin1_4, fin0_5, fin1_5, fin0_6, fin1_6, fin0_7, fin1_7, fin0_8, fin1_8, dI0_ap, dAdd_ii, dLen_t, dLen_l, dTuple_l, dTuple_t, dList_l, dList_t, dMax_ii, dMin_ii, dIx_t, dIx_l, atI_0, atI_1, atI_2, atI_3, dSl_t, dSl_l, dSl_s, dNe_ii, dEq_ii, ifz, ifz', Option.map_some, List.length_cons, List.length_nil, List.length_append, List.length_map, zl0, zm0, zl1, zm1, zl2, zm2, zl3, zm3, zl4, zm4, zl5, zm5, zl6, zm6, zl7, zm7, zl8, zm8, zl9, zm9, zl10, zm10, zl11, zm11, zl12, zm12, zl13, zm13, zl14, zm14, zl15, zm15, zl16, zm16, Nat.zero_add, Nat.reduceAdd, Int.reduceAdd, Int.reduceSub, Int.reduceMul, Int.reduceNeg, Int.reduceEq, Int.reduceLE, Int.reduceLT, Int.reduceToNat, Int.reducePow, decide_true, decide_false, cn0, cn1, cn2, cn3, cn4, cn5, cn6, cn7, cn8, cn9, cn10, cn11, cn12, List.set_cons_zero, List.set_cons_succ, tn0, tn1, tn2, tn3, tn4, tn5, tn6, tn7, tn8, eLn_ap, tLn_ap, lnd_nil, lnd_cons, lend_ow, lend_dc, lend_un, lend_vl, scD_bl, scD_int, scD_non, scD_str, sParL_ap, frz_ap, chL_ap, chK_ap, chLt_ap, chKt_ap, asB_ap], rfl⟩) rfl
  simp only [vls_nil, vls_cons, uns_zero, uns_succ, gt_zero, gt_succ, st_zero, st_succ, bnd_ap, ret_ap, lift_some, eC_ap, eV_ap, e2_ap, eB_ap, eNot_ap, tNot_ap, tAnd_app, tOr_app, ite_ap, eAnd_ap, eOr_ap, e3_app, eIf_ap, brk_ap, brk'_ap, ite_bl, ite_bo, ite_tb, ite_to, ↓reduceIte, Bool.false_eq_true, Bool.not_true, Bool.not_false, aN_ap, aC_ap, eT_ap, eL_ap, fL_ap, eB1_ap, eIsi_ap, eIsiA_ap, e1n_ap, oS_ap, eSl_ap, eCall_ap, fCall_ap, eCall1_ap, eOx_ap, eDGet_ap, eDSort_ap, iS_ap, iR1_ap, iR2_ap, iE_ap, iZ_ap, gN_ap, gT2, gT3, sSeq_ap, sNext_ap, sExpr_ap, sRet_ap, sRetF_ap, sIf_ap, sAsg_ap, sPar_ap, sParD_ap, sPut_ap, sDPut_ap, sBind_ap, sOwn_ap, sApp_ap, sRetO_ap, eSortSet_ap, sFor_ap, sBag_ap, finB_2, own0_ap, fin0_0, fin1_0, fin0_1, fin1_1, fin0_2, fin1_2, fin0_3, fin1_3, fin0_4, fin1_4, fin0_5, fin1_5, fin0_6, fin1_6, fin0_7, fin1_7, fin0_8, fin1_8, dI0_ap, dAdd_ii, dLen_t, dLen_l, dTuple_l, dTuple_t, dList_l, dList_t, dMax_ii, dMin_ii, dIx_t, dIx_l, atI_0, atI_1, atI_2, atI_3, dSl_t, dSl_l, dSl_s, dNe_ii, dEq_ii, ifz, ifz', Option.map_some, List.length_cons, List.length_nil, List.length_append, List.length_map, zl0, zm0, zl1, zm1, zl2, zm2, zl3, zm3, zl4, zm4, zl5, zm5, zl6, zm6, zl7, zm7, zl8, zm8, zl9, zm9, zl10, zm10, zl11, zm11, zl12, zm12, zl13, zm13, zl14, zm14, zl15, zm15, zl16, zm16, Nat.zero_add, Nat.reduceAdd, Int.reduceAdd, Int.reduceSub, Int.reduceMul, Int.reduceNeg, Int.reduceEq, Int.reduceLE, Int.reduceLT, Int.reduceToNat, Int.reducePow, decide_true, decide_false, cn0, cn1, cn2, cn3, cn4, cn5, cn6, cn7, cn8, cn9, cn10, cn11, cn12, List.set_cons_zero, List.set_cons_succ, tn0, tn1, tn2, tn3, tn4, tn5, tn6, tn7, tn8, eLn_ap, tLn_ap, lnd_nil, lnd_cons, lend_ow, lend_dc, lend_un, lend_vl, scD_bl, scD_int, scD_non, scD_str, sParL_ap, frz_ap, chL_ap, chK_ap, chLt_ap, chKt_ap, asB_ap, e]; rfl
/-- what may stand in a course's place -/
def Ev (d : D) : Prop := (∃ i, d = .int i) ∨ (∃ b, d = .bl b) ∨ d = .non
def inE (d : D) (w : Win) : Bool := match d with
  | .int i => decide (w.1 ≤ i) && decide (i ≤ w.2)
  | _ => false
theorem in_range_ev {d : D} {w : Win} (h : Ev d) : m_in_range [d, .int w.1, .int w.2] = some (.rt (.bl (inE d w))) := by
  rcases h with ⟨i, rfl⟩ | ⟨b, rfl⟩ | rfl
  · exact in_range_int
  · rfl
  · rfl
theorem zipL_map2 {β : Type} (g : β → D) : ∀ (l : List D) (m : List β), zipL l (m.map g) = (l.zip m).map fun p => .tup [p.1, g p.2]
  | [], m => by cases m <;> rfl
  | x :: r, [] => rfl
  | x :: r, y :: t => by
    show D.tup [x, g y] :: zipL r (t.map g) = _
    rw [zipL_map2 g r t]; rfl
def inEs (ds : List D) (ws : List Win) : Bool := (ds.zip ws).all fun p => inE p.1 p.2
theorem inEs_int : ∀ (xs : List Int) (ws : List Win), inEs (xs.map .int) ws = inW xs ws
  | [], ws => by cases ws <;> rfl
  | x :: r, [] => rfl
  | x :: r, w :: t => by
    show (inE (.int x) w && inEs (r.map .int) t) = _
    rw [inEs_int r t]; rfl
section
variable {ws : List Win} {ts : List Tal} {ds : List D}
/-! the law's own words -/
theorem law_inside_ok (h : WsOk ws) (s t : Int) : m__law_inside [wsD ws, .int s, .int t] = some (.rt (.int (insN ws s t))) := by
  have hl := h.len
  unfold m__law_inside b__law_inside wsD
  have e : C__law_inside_1 [.vl (.tup (ws.map wD)), .vl (.int s), .vl (.int t), .un, .un] = some (.ok (.lst ((ws.filter fun w => decide (s < w.1) && decide (w.2 ≤ t)).map fun _ => .int 1)) [.vl (.tup (ws.map wD)), .vl (.int s), .vl (.int t), .un, .un]) :=
    lcE_pureS (enc := wD) (fun w => decide (s < w.1) && decide (w.2 ≤ t)) (fun _ => .int 1) rfl (by omega) (fun x hx => ⟨_, gT2, by simp only [wp, vls_nil, vls_cons, uns_zero, uns_succ, gt_zero, gt_succ, st_zero, st_succ, bnd_ap, ret_ap, lift_some, eC_ap, eV_ap, e2_ap, eB_ap, eNot_ap, tNot_ap, tAnd_app, tOr_app, ite_ap, eAnd_ap, eOr_ap, e3_app, eIf_ap, brk_ap, brk'_ap, ite_bl, ite_bo, ite_tb, ite_to, ↓reduceIte, Bool.false_eq_true, Bool.not_true, Bool.not_false, aN_ap, aC_ap, eT_ap, eL_ap, fL_ap, eB1_ap, eIsi_ap, eIsiA_ap, e1n_ap, oS_ap, eSl_ap, eCall_ap, fCall_ap, eCall1_ap, eOx_ap, eDGet_ap, eDSort_ap, iS_ap, iR1_ap, iR2_ap, iE_ap, iZ_ap, gN_ap, gT2, gT3, sSeq_ap, sNext_ap, sExpr_ap, sRet_ap, sRetF_ap, sIf_ap, sAsg_ap, sPar_ap, sParD_ap, sPut_ap, sDPut_ap, sBind_ap, sOwn_ap, sApp_ap, sRetO_ap, eSortSet_ap, sFor_ap, sBag_ap, finB_2, own0_ap, fin0_0, fin1_0, fin0_1, fin1_1, fin0_2, fin1_2, fin0_3, fin1_3, fin0_4, fin1_4, fin0_5, fin1_5, fin0_6, fin1_6, fin0_7, fin1_7, fin0_8, fin1_8, dI0_ap, dAdd_ii, dLen_t, dLen_l, dTuple_l, dTuple_t, dList_l, dList_t, dMax_ii, dMin_ii, dIx_t, dIx_l, atI_0, atI_1, atI_2, atI_3, dSl_t, dSl_l, dSl_s, dNe_ii, dEq_ii, ifz, ifz', Option.map_some, List.length_cons, List.length_nil, List.length_append, List.length_map, zl0, zm0, zl1, zm1, zl2, zm2, zl3, zm3, zl4, zm4, zl5, zm5, zl6, zm6, zl7, zm7, zl8, zm8, zl9, zm9, zl10, zm10, zl11, zm11, zl12, zm12, zl13, zm13, zl14, zm14, zl15, zm15, zl16, zm16, Nat.zero_add, Nat.reduceAdd, Int.reduceAdd, Int.reduceSub, Int.reduceMul, Int.reduceNeg, Int.reduceEq, Int.reduceLE, Int.reduceLT, Int.reduceToNat, Int.reducePow, decide_true, decide_false, cn0, cn1, cn2, cn3, cn4, cn5, cn6, cn7, cn8, cn9, cn10, cn11, cn12, List.set_cons_zero, List.set_cons_succ, tn0, tn1, tn2, tn3, tn4, tn5, tn6, tn7, tn8, eLn_ap, tLn_ap, lnd_nil, lnd_cons, lend_ow, lend_dc, lend_un, lend_vl, scD_bl, scD_int, scD_non, scD_str, sParL_ap, frz_ap, chL_ap, chK_ap, chLt_ap, chKt_ap, asB_ap, wD], fun _ => by simp only [wp, vls_nil, vls_cons, uns_zero, uns_succ, gt_zero, gt_succ, st_zero, st_succ, bnd_ap, ret_ap, lift_some, eC_ap, eV_ap, e2_ap, eB_ap, eNot_ap, tNot_ap, tAnd_app, tOr_app, ite_ap, eAnd_ap, eOr_ap, e3_app, eIf_ap, brk_ap, brk'_ap, ite_bl, ite_bo, ite_tb, ite_to, ↓reduceIte, Bool.false_eq_true, Bool.not_true, Bool.not_false, aN_ap, aC_ap, eT_ap, eL_ap, fL_ap, eB1_ap, eIsi_ap, eIsiA_ap, e1n_ap, oS_ap, eSl_ap, eCall_ap, fCall_ap, eCall1_ap, eOx_ap, eDGet_ap, eDSort_ap, iS_ap, iR1_ap, iR2_ap, iE_ap, iZ_ap, gN_ap, gT2, gT3, sSeq_ap, sNext_ap, sExpr_ap, sRet_ap, sRetF_ap, sIf_ap, sAsg_ap, sPar_ap, sParD_ap, sPut_ap, sDPut_ap, sBind_ap, sOwn_ap, sApp_ap, sRetO_ap, eSortSet_ap, sFor_ap, sBag_ap, finB_2, own0_ap, fin0_0, fin1_0, fin0_1, fin1_1, fin0_2, fin1_2, fin0_3, fin1_3, fin0_4, fin1_4, fin0_5, fin1_5, fin0_6, fin1_6, fin0_7, fin1_7, fin0_8, fin1_8, dI0_ap, dAdd_ii, dLen_t, dLen_l, dTuple_l, dTuple_t, dList_l, dList_t, dMax_ii, dMin_ii, dIx_t, dIx_l, atI_0, atI_1, atI_2, atI_3, dSl_t, dSl_l, dSl_s, dNe_ii, dEq_ii, ifz, ifz', Option.map_some, List.length_cons, List.length_nil, List.length_append, List.length_map, zl0, zm0, zl1, zm1, zl2, zm2, zl3, zm3, zl4, zm4, zl5, zm5, zl6, zm6, zl7, zm7, zl8, zm8, zl9, zm9, zl10, zm10, zl11, zm11, zl12, zm12, zl13, zm13, zl14, zm14, zl15, zm15, zl16, zm16, Nat.zero_add, Nat.reduceAdd, Int.reduceAdd, Int.reduceSub, Int.reduceMul, Int.reduceNeg, Int.reduceEq, Int.reduceLE, Int.reduceLT, Int.reduceToNat, Int.reducePow, decide_true, decide_false, cn0, cn1, cn2, cn3, cn4, cn5, cn6, cn7, cn8, cn9, cn10, cn11, cn12, List.set_cons_zero, List.set_cons_succ, tn0, tn1, tn2, tn3, tn4, tn5, tn6, tn7, tn8, eLn_ap, tLn_ap, lnd_nil, lnd_cons, lend_ow, lend_dc, lend_un, lend_vl, scD_bl, scD_int, scD_non, scD_str, sParL_ap, frz_ap, chL_ap, chK_ap, chLt_ap, chKt_ap, asB_ap], rfl⟩) rfl
  simp only [vls_nil, vls_cons, uns_zero, uns_succ, gt_zero, gt_succ, st_zero, st_succ, bnd_ap, ret_ap, lift_some, eC_ap, eV_ap, e2_ap, eB_ap, eNot_ap, tNot_ap, tAnd_app, tOr_app, ite_ap, eAnd_ap, eOr_ap, e3_app, eIf_ap, brk_ap, brk'_ap, ite_bl, ite_bo, ite_tb, ite_to, ↓reduceIte, Bool.false_eq_true, Bool.not_true, Bool.not_false, aN_ap, aC_ap, eT_ap, eL_ap, fL_ap, eB1_ap, eIsi_ap, eIsiA_ap, e1n_ap, oS_ap, eSl_ap, eCall_ap, fCall_ap, eCall1_ap, eOx_ap, eDGet_ap, eDSort_ap, iS_ap, iR1_ap, iR2_ap, iE_ap, iZ_ap, gN_ap, gT2, gT3, sSeq_ap, sNext_ap, sExpr_ap, sRet_ap, sRetF_ap, sIf_ap, sAsg_ap, sPar_ap, sParD_ap, sPut_ap, sDPut_ap, sBind_ap, sOwn_ap, sApp_ap, sRetO_ap, eSortSet_ap, sFor_ap, sBag_ap, finB_2, own0_ap, fin0_0, fin1_0, fin0_1, fin1_1, fin0_2, fin1_2, fin0_3, fin1_3, fin0_4, fin1_4, fin0_5, fin1_5, fin0_6, fin1_6, fin0_7, fin1_7, fin0_8, fin1_8, dI0_ap, dAdd_ii, dLen_t, dLen_l, dTuple_l, dTuple_t, dList_l, dList_t, dMax_ii, dMin_ii, dIx_t, dIx_l, atI_0, atI_1, atI_2, atI_3, dSl_t, dSl_l, dSl_s, dNe_ii, dEq_ii, ifz, ifz', Option.map_some, List.length_cons, List.length_nil, List.length_append, List.length_map, zl0, zm0, zl1, zm1, zl2, zm2, zl3, zm3, zl4, zm4, zl5, zm5, zl6, zm6, zl7, zm7, zl8, zm8, zl9, zm9, zl10, zm10, zl11, zm11, zl12, zm12, zl13, zm13, zl14, zm14, zl15, zm15, zl16, zm16, Nat.zero_add, Nat.reduceAdd, Int.reduceAdd, Int.reduceSub, Int.reduceMul, Int.reduceNeg, Int.reduceEq, Int.reduceLE, Int.reduceLT, Int.reduceToNat, Int.reducePow, decide_true, decide_false, cn0, cn1, cn2, cn3, cn4, cn5, cn6, cn7, cn8, cn9, cn10, cn11, cn12, List.set_cons_zero, List.set_cons_succ, tn0, tn1, tn2, tn3, tn4, tn5, tn6, tn7, tn8, eLn_ap, tLn_ap, lnd_nil, lnd_cons, lend_ow, lend_dc, lend_un, lend_vl, scD_bl, scD_int, scD_non, scD_str, sParL_ap, frz_ap, chL_ap, chK_ap, chLt_ap, chKt_ap, asB_ap, e]; rfl
theorem isEmpty_filter_not {α : Type} (f : α → Bool) (l : List α) : (l.filter fun x => !f x).isEmpty = l.all f := by
  induction l with
  | nil => rfl
  | cons x r ih =>
    cases q : f x with
    | true => rw [List.filter_cons_of_neg (by simp [q]), List.all_cons, q, ih]; rfl
    | false => rw [List.filter_cons_of_pos (by simp [q]), List.all_cons, q]; rfl
theorem law_kept_ok {xs : List Int} (hw : ws.length ≤ 1000) (ht : ts.length ≤ 1000) (hd : xs.length ≤ 1000) : m__law_kept [wsD ws, tsD ts, xsD xs] = some (.rt (.bl (inW xs ws && keptT ts xs))) := by
  unfold m__law_kept b__law_kept
  have e : C__law_kept_1 [.vl (wsD ws), .vl (tsD ts), .vl (xsD xs), .un, .un, .un, .un, .un]
      = some (.ok (.lst (((xs.zip ws).filter fun p => !(decide (p.2.1 ≤ p.1) && decide (p.1 ≤ p.2.2))).map fun _ => .int 1)) [.vl (wsD ws), .vl (tsD ts), .vl (xsD xs), .un, .un, .un, .un, .un]) :=
    lcE_pureS (enc := fun p : Int × Win => .tup [.int p.1, wD p.2]) (fun p => !(decide (p.2.1 ≤ p.1) && decide (p.1 ≤ p.2.2))) (fun _ => .int 1) (by simp only [vls_nil, vls_cons, uns_zero, uns_succ, gt_zero, gt_succ, st_zero, st_succ, bnd_ap, ret_ap, lift_some, eC_ap, eV_ap, e2_ap, eB_ap, eNot_ap, tNot_ap, tAnd_app, tOr_app, ite_ap, eAnd_ap, eOr_ap, e3_app, eIf_ap, brk_ap, brk'_ap, ite_bl, ite_bo, ite_tb, ite_to, ↓reduceIte, Bool.false_eq_true, Bool.not_true, Bool.not_false, aN_ap, aC_ap, eT_ap, eL_ap, fL_ap, eB1_ap, eIsi_ap, eIsiA_ap, e1n_ap, oS_ap, eSl_ap, eCall_ap, fCall_ap, eCall1_ap, eOx_ap, eDGet_ap, eDSort_ap, iS_ap, iR1_ap, iR2_ap, iE_ap, iZ_ap, gN_ap, gT2, gT3, sSeq_ap, sNext_ap, sExpr_ap, sRet_ap, sRetF_ap, sIf_ap, sAsg_ap, sPar_ap, sParD_ap, sPut_ap, sDPut_ap, sBind_ap, sOwn_ap, sApp_ap, sRetO_ap, eSortSet_ap, sFor_ap, sBag_ap, finB_2, own0_ap, fin0_0, fin1_0, fin0_1, fin1_1, fin0_2, fin1_2, fin0_3, fin1_3, fin0_4, fin1_4, fin0_5, fin1_5, fin0_6, fin1_6, fin0_7, fin1_7, fin0_8, fin1_8, dI0_ap, dAdd_ii, dLen_t, dLen_l, dTuple_l, dTuple_t, dList_l, dList_t, dMax_ii, dMin_ii, dIx_t, dIx_l, atI_0, atI_1, atI_2, atI_3, dSl_t, dSl_l, dSl_s, dNe_ii, dEq_ii, ifz, ifz', Option.map_some, List.length_cons, List.length_nil, List.length_append, List.length_map, zl0, zm0, zl1, zm1, zl2, zm2, zl3, zm3, zl4, zm4, zl5, zm5, zl6, zm6, zl7, zm7, zl8, zm8, zl9, zm9, zl10, zm10, zl11, zm11, zl12, zm12, zl13, zm13, zl14, zm14, zl15, zm15, zl16, zm16, Nat.zero_add, Nat.reduceAdd, Int.reduceAdd, Int.reduceSub, Int.reduceMul, Int.reduceNeg, Int.reduceEq, Int.reduceLE, Int.reduceLT, Int.reduceToNat, Int.reducePow, decide_true, decide_false, cn0, cn1, cn2, cn3, cn4, cn5, cn6, cn7, cn8, cn9, cn10, cn11, cn12, List.set_cons_zero, List.set_cons_succ, tn0, tn1, tn2, tn3, tn4, tn5, tn6, tn7, tn8, eLn_ap, tLn_ap, lnd_nil, lnd_cons, lend_ow, lend_dc, lend_un, lend_vl, scD_bl, scD_int, scD_non, scD_str, sParL_ap, frz_ap, chL_ap, chK_ap, chLt_ap, chKt_ap, asB_ap, wsD, xsD, zipL_map]) (by simp only [List.length_zip]; omega)
      (fun x hx => ⟨_, gT2, by simp only [wp, vls_nil, vls_cons, uns_zero, uns_succ, gt_zero, gt_succ, st_zero, st_succ, bnd_ap, ret_ap, lift_some, eC_ap, eV_ap, e2_ap, eB_ap, eNot_ap, tNot_ap, tAnd_app, tOr_app, ite_ap, eAnd_ap, eOr_ap, e3_app, eIf_ap, brk_ap, brk'_ap, ite_bl, ite_bo, ite_tb, ite_to, ↓reduceIte, Bool.false_eq_true, Bool.not_true, Bool.not_false, aN_ap, aC_ap, eT_ap, eL_ap, fL_ap, eB1_ap, eIsi_ap, eIsiA_ap, e1n_ap, oS_ap, eSl_ap, eCall_ap, fCall_ap, eCall1_ap, eOx_ap, eDGet_ap, eDSort_ap, iS_ap, iR1_ap, iR2_ap, iE_ap, iZ_ap, gN_ap, gT2, gT3, sSeq_ap, sNext_ap, sExpr_ap, sRet_ap, sRetF_ap, sIf_ap, sAsg_ap, sPar_ap, sParD_ap, sPut_ap, sDPut_ap, sBind_ap, sOwn_ap, sApp_ap, sRetO_ap, eSortSet_ap, sFor_ap, sBag_ap, finB_2, own0_ap, fin0_0, fin1_0, fin0_1, fin1_1, fin0_2, fin1_2, fin0_3, fin1_3, fin0_4, fin1_4, fin0_5, fin1_5, fin0_6, fin1_6, fin0_7, fin1_7, fin0_8, fin1_8, dI0_ap, dAdd_ii, dLen_t, dLen_l, dTuple_l, dTuple_t, dList_l, dList_t, dMax_ii, dMin_ii, dIx_t, dIx_l, atI_0, atI_1, atI_2, atI_3, dSl_t, dSl_l, dSl_s, dNe_ii, dEq_ii, ifz, ifz', Option.map_some, List.length_cons, List.length_nil, List.length_append, List.length_map, zl0, zm0, zl1, zm1, zl2, zm2, zl3, zm3, zl4, zm4, zl5, zm5, zl6, zm6, zl7, zm7, zl8, zm8, zl9, zm9, zl10, zm10, zl11, zm11, zl12, zm12, zl13, zm13, zl14, zm14, zl15, zm15, zl16, zm16, Nat.zero_add, Nat.reduceAdd, Int.reduceAdd, Int.reduceSub, Int.reduceMul, Int.reduceNeg, Int.reduceEq, Int.reduceLE, Int.reduceLT, Int.reduceToNat, Int.reducePow, decide_true, decide_false, cn0, cn1, cn2, cn3, cn4, cn5, cn6, cn7, cn8, cn9, cn10, cn11, cn12, List.set_cons_zero, List.set_cons_succ, tn0, tn1, tn2, tn3, tn4, tn5, tn6, tn7, tn8, eLn_ap, tLn_ap, lnd_nil, lnd_cons, lend_ow, lend_dc, lend_un, lend_vl, scD_bl, scD_int, scD_non, scD_str, sParL_ap, frz_ap, chL_ap, chK_ap, chLt_ap, chKt_ap, asB_ap, wD], fun _ => by simp only [wp, vls_nil, vls_cons, uns_zero, uns_succ, gt_zero, gt_succ, st_zero, st_succ, bnd_ap, ret_ap, lift_some, eC_ap, eV_ap, e2_ap, eB_ap, eNot_ap, tNot_ap, tAnd_app, tOr_app, ite_ap, eAnd_ap, eOr_ap, e3_app, eIf_ap, brk_ap, brk'_ap, ite_bl, ite_bo, ite_tb, ite_to, ↓reduceIte, Bool.false_eq_true, Bool.not_true, Bool.not_false, aN_ap, aC_ap, eT_ap, eL_ap, fL_ap, eB1_ap, eIsi_ap, eIsiA_ap, e1n_ap, oS_ap, eSl_ap, eCall_ap, fCall_ap, eCall1_ap, eOx_ap, eDGet_ap, eDSort_ap, iS_ap, iR1_ap, iR2_ap, iE_ap, iZ_ap, gN_ap, gT2, gT3, sSeq_ap, sNext_ap, sExpr_ap, sRet_ap, sRetF_ap, sIf_ap, sAsg_ap, sPar_ap, sParD_ap, sPut_ap, sDPut_ap, sBind_ap, sOwn_ap, sApp_ap, sRetO_ap, eSortSet_ap, sFor_ap, sBag_ap, finB_2, own0_ap, fin0_0, fin1_0, fin0_1, fin1_1, fin0_2, fin1_2, fin0_3, fin1_3, fin0_4, fin1_4, fin0_5, fin1_5, fin0_6, fin1_6, fin0_7, fin1_7, fin0_8, fin1_8, dI0_ap, dAdd_ii, dLen_t, dLen_l, dTuple_l, dTuple_t, dList_l, dList_t, dMax_ii, dMin_ii, dIx_t, dIx_l, atI_0, atI_1, atI_2, atI_3, dSl_t, dSl_l, dSl_s, dNe_ii, dEq_ii, ifz, ifz', Option.map_some, List.length_cons, List.length_nil, List.length_append, List.length_map, zl0, zm0, zl1, zm1, zl2, zm2, zl3, zm3, zl4, zm4, zl5, zm5, zl6, zm6, zl7, zm7, zl8, zm8, zl9, zm9, zl10, zm10, zl11, zm11, zl12, zm12, zl13, zm13, zl14, zm14, zl15, zm15, zl16, zm16, Nat.zero_add, Nat.reduceAdd, Int.reduceAdd, Int.reduceSub, Int.reduceMul, Int.reduceNeg, Int.reduceEq, Int.reduceLE, Int.reduceLT, Int.reduceToNat, Int.reducePow, decide_true, decide_false, cn0, cn1, cn2, cn3, cn4, cn5, cn6, cn7, cn8, cn9, cn10, cn11, cn12, List.set_cons_zero, List.set_cons_succ, tn0, tn1, tn2, tn3, tn4, tn5, tn6, tn7, tn8, eLn_ap, tLn_ap, lnd_nil, lnd_cons, lend_ow, lend_dc, lend_un, lend_vl, scD_bl, scD_int, scD_non, scD_str, sParL_ap, frz_ap, chL_ap, chK_ap, chLt_ap, chKt_ap, asB_ap], rfl⟩) rfl
  have e2 : C__law_kept_2 [.vl (wsD ws), .vl (tsD ts), .vl (xsD xs), .un, .un, .un, .un, .un]
      = some (.ok (.lst ((ts.filter fun t => !(decide (t.2.1 ≤ (num xs t.1 : Int)) && decide ((num xs t.1 : Int) ≤ t.2.2))).map fun _ => .int 1)) [.vl (wsD ws), .vl (tsD ts), .vl (xsD xs), .un, .un, .un, .un, .un]) :=
    lcE_pureS (enc := tD) (fun t => !(decide (t.2.1 ≤ (num xs t.1 : Int)) && decide ((num xs t.1 : Int) ≤ t.2.2))) (fun _ => .int 1) rfl (by omega)
      (fun x hx => ⟨_, gT3, by simp only [wp, vls_nil, vls_cons, uns_zero, uns_succ, gt_zero, gt_succ, st_zero, st_succ, bnd_ap, ret_ap, lift_some, eC_ap, eV_ap, e2_ap, eB_ap, eNot_ap, tNot_ap, tAnd_app, tOr_app, ite_ap, eAnd_ap, eOr_ap, e3_app, eIf_ap, brk_ap, brk'_ap, ite_bl, ite_bo, ite_tb, ite_to, ↓reduceIte, Bool.false_eq_true, Bool.not_true, Bool.not_false, aN_ap, aC_ap, eT_ap, eL_ap, fL_ap, eB1_ap, eIsi_ap, eIsiA_ap, e1n_ap, oS_ap, eSl_ap, eCall_ap, fCall_ap, eCall1_ap, eOx_ap, eDGet_ap, eDSort_ap, iS_ap, iR1_ap, iR2_ap, iE_ap, iZ_ap, gN_ap, gT2, gT3, sSeq_ap, sNext_ap, sExpr_ap, sRet_ap, sRetF_ap, sIf_ap, sAsg_ap, sPar_ap, sParD_ap, sPut_ap, sDPut_ap, sBind_ap, sOwn_ap, sApp_ap, sRetO_ap, eSortSet_ap, sFor_ap, sBag_ap, finB_2, own0_ap, fin0_0, fin1_0, fin0_1, fin1_1, fin0_2, fin1_2, fin0_3, fin1_3, fin0_4, fin1_4, fin0_5, fin1_5, fin0_6, fin1_6, fin0_7, fin1_7, fin0_8, fin1_8, dI0_ap, dAdd_ii, dLen_t, dLen_l, dTuple_l, dTuple_t, dList_l, dList_t, dMax_ii, dMin_ii, dIx_t, dIx_l, atI_0, atI_1, atI_2, atI_3, dSl_t, dSl_l, dSl_s, dNe_ii, dEq_ii, ifz, ifz', Option.map_some, List.length_cons, List.length_nil, List.length_append, List.length_map, zl0, zm0, zl1, zm1, zl2, zm2, zl3, zm3, zl4, zm4, zl5, zm5, zl6, zm6, zl7, zm7, zl8, zm8, zl9, zm9, zl10, zm10, zl11, zm11, zl12, zm12, zl13, zm13, zl14, zm14, zl15, zm15, zl16, zm16, Nat.zero_add, Nat.reduceAdd, Int.reduceAdd, Int.reduceSub, Int.reduceMul, Int.reduceNeg, Int.reduceEq, Int.reduceLE, Int.reduceLT, Int.reduceToNat, Int.reducePow, decide_true, decide_false, cn0, cn1, cn2, cn3, cn4, cn5, cn6, cn7, cn8, cn9, cn10, cn11, cn12, List.set_cons_zero, List.set_cons_succ, tn0, tn1, tn2, tn3, tn4, tn5, tn6, tn7, tn8, eLn_ap, tLn_ap, lnd_nil, lnd_cons, lend_ow, lend_dc, lend_un, lend_vl, scD_bl, scD_int, scD_non, scD_str, sParL_ap, frz_ap, chL_ap, chK_ap, chLt_ap, chKt_ap, asB_ap, law_number_ok hd], fun _ => by simp only [wp, vls_nil, vls_cons, uns_zero, uns_succ, gt_zero, gt_succ, st_zero, st_succ, bnd_ap, ret_ap, lift_some, eC_ap, eV_ap, e2_ap, eB_ap, eNot_ap, tNot_ap, tAnd_app, tOr_app, ite_ap, eAnd_ap, eOr_ap, e3_app, eIf_ap, brk_ap, brk'_ap, ite_bl, ite_bo, ite_tb, ite_to, ↓reduceIte, Bool.false_eq_true, Bool.not_true, Bool.not_false, aN_ap, aC_ap, eT_ap, eL_ap, fL_ap, eB1_ap, eIsi_ap, eIsiA_ap, e1n_ap, oS_ap, eSl_ap, eCall_ap, fCall_ap, eCall1_ap, eOx_ap, eDGet_ap, eDSort_ap, iS_ap, iR1_ap, iR2_ap, iE_ap, iZ_ap, gN_ap, gT2, gT3, sSeq_ap, sNext_ap, sExpr_ap, sRet_ap, sRetF_ap, sIf_ap, sAsg_ap, sPar_ap, sParD_ap, sPut_ap, sDPut_ap, sBind_ap, sOwn_ap, sApp_ap, sRetO_ap, eSortSet_ap, sFor_ap, sBag_ap, finB_2, own0_ap, fin0_0, fin1_0, fin0_1, fin1_1, fin0_2, fin1_2, fin0_3, fin1_3, fin0_4, fin1_4, fin0_5, fin1_5, fin0_6, fin1_6, fin0_7, fin1_7, fin0_8, fin1_8, dI0_ap, dAdd_ii, dLen_t, dLen_l, dTuple_l, dTuple_t, dList_l, dList_t, dMax_ii, dMin_ii, dIx_t, dIx_l, atI_0, atI_1, atI_2, atI_3, dSl_t, dSl_l, dSl_s, dNe_ii, dEq_ii, ifz, ifz', Option.map_some, List.length_cons, List.length_nil, List.length_append, List.length_map, zl0, zm0, zl1, zm1, zl2, zm2, zl3, zm3, zl4, zm4, zl5, zm5, zl6, zm6, zl7, zm7, zl8, zm8, zl9, zm9, zl10, zm10, zl11, zm11, zl12, zm12, zl13, zm13, zl14, zm14, zl15, zm15, zl16, zm16, Nat.zero_add, Nat.reduceAdd, Int.reduceAdd, Int.reduceSub, Int.reduceMul, Int.reduceNeg, Int.reduceEq, Int.reduceLE, Int.reduceLT, Int.reduceToNat, Int.reducePow, decide_true, decide_false, cn0, cn1, cn2, cn3, cn4, cn5, cn6, cn7, cn8, cn9, cn10, cn11, cn12, List.set_cons_zero, List.set_cons_succ, tn0, tn1, tn2, tn3, tn4, tn5, tn6, tn7, tn8, eLn_ap, tLn_ap, lnd_nil, lnd_cons, lend_ow, lend_dc, lend_un, lend_vl, scD_bl, scD_int, scD_non, scD_str, sParL_ap, frz_ap, chL_ap, chK_ap, chLt_ap, chKt_ap, asB_ap], rfl⟩) rfl
  have q1 : inW xs ws = (xs.zip ws).all fun p => decide (p.2.1 ≤ p.1) && decide (p.1 ≤ p.2.2) := rfl
  have q2 : keptT ts xs = ts.all fun t => decide (t.2.1 ≤ (num xs t.1 : Int)) && decide ((num xs t.1 : Int) ≤ t.2.2) := rfl
  simp only [vls_nil, vls_cons, uns_zero, uns_succ, gt_zero, gt_succ, st_zero, st_succ, bnd_ap, ret_ap, lift_some, eC_ap, eV_ap, e2_ap, eB_ap, eNot_ap, tNot_ap, tAnd_app, tOr_app, ite_ap, eAnd_ap, eOr_ap, e3_app, eIf_ap, brk_ap, brk'_ap, ite_bl, ite_bo, ite_tb, ite_to, ↓reduceIte, Bool.false_eq_true, Bool.not_true, Bool.not_false, aN_ap, aC_ap, eT_ap, eL_ap, fL_ap, eB1_ap, eIsi_ap, eIsiA_ap, e1n_ap, oS_ap, eSl_ap, eCall_ap, fCall_ap, eCall1_ap, eOx_ap, eDGet_ap, eDSort_ap, iS_ap, iR1_ap, iR2_ap, iE_ap, iZ_ap, gN_ap, gT2, gT3, sSeq_ap, sNext_ap, sExpr_ap, sRet_ap, sRetF_ap, sIf_ap, sAsg_ap, sPar_ap, sParD_ap, sPut_ap, sDPut_ap, sBind_ap, sOwn_ap, sApp_ap, sRetO_ap, eSortSet_ap, sFor_ap, sBag_ap, finB_2, own0_ap, fin0_0, fin1_0, fin0_1, fin1_1, fin0_2, fin1_2, fin0_3, fin1_3, fin0_4, fin1_4, fin0_5, fin1_5, fin0_6, fin1_6, fin0_7, fin1_7, fin0_8, fin1_8, dI0_ap, dAdd_ii, dLen_t, dLen_l, dTuple_l, dTuple_t, dList_l, dList_t, dMax_ii, dMin_ii, dIx_t, dIx_l, atI_0, atI_1, atI_2, atI_3, dSl_t, dSl_l, dSl_s, dNe_ii, dEq_ii, ifz, ifz', Option.map_some, List.length_cons, List.length_nil, List.length_append, List.length_map, zl0, zm0, zl1, zm1, zl2, zm2, zl3, zm3, zl4, zm4, zl5, zm5, zl6, zm6, zl7, zm7, zl8, zm8, zl9, zm9, zl10, zm10, zl11, zm11, zl12, zm12, zl13, zm13, zl14, zm14, zl15, zm15, zl16, zm16, Nat.zero_add, Nat.reduceAdd, Int.reduceAdd, Int.reduceSub, Int.reduceMul, Int.reduceNeg, Int.reduceEq, Int.reduceLE, Int.reduceLT, Int.reduceToNat, Int.reducePow, decide_true, decide_false, cn0, cn1, cn2, cn3, cn4, cn5, cn6, cn7, cn8, cn9, cn10, cn11, cn12, List.set_cons_zero, List.set_cons_succ, tn0, tn1, tn2, tn3, tn4, tn5, tn6, tn7, tn8, eLn_ap, tLn_ap, lnd_nil, lnd_cons, lend_ow, lend_dc, lend_un, lend_vl, scD_bl, scD_int, scD_non, scD_str, sParL_ap, frz_ap, chL_ap, chK_ap, chLt_ap, chKt_ap, asB_ap, e, (dEq_empty (fun _ => D.int 1) (fun _ => trivial) _).2, isEmpty_filter_not, ← q1]
  cases q : inW xs ws with
  | false => simp only [vls_nil, vls_cons, uns_zero, uns_succ, gt_zero, gt_succ, st_zero, st_succ, bnd_ap, ret_ap, lift_some, eC_ap, eV_ap, e2_ap, eB_ap, eNot_ap, tNot_ap, tAnd_app, tOr_app, ite_ap, eAnd_ap, eOr_ap, e3_app, eIf_ap, brk_ap, brk'_ap, ite_bl, ite_bo, ite_tb, ite_to, ↓reduceIte, Bool.false_eq_true, Bool.not_true, Bool.not_false, aN_ap, aC_ap, eT_ap, eL_ap, fL_ap, eB1_ap, eIsi_ap, eIsiA_ap, e1n_ap, oS_ap, eSl_ap, eCall_ap, fCall_ap, eCall1_ap, eOx_ap, eDGet_ap, eDSort_ap, iS_ap, iR1_ap, iR2_ap, iE_ap, iZ_ap, gN_ap, gT2, gT3, sSeq_ap, sNext_ap, sExpr_ap, sRet_ap, sRetF_ap, sIf_ap, sAsg_ap, sPar_ap, sParD_ap, sPut_ap, sDPut_ap, sBind_ap, sOwn_ap, sApp_ap, sRetO_ap, eSortSet_ap, sFor_ap, sBag_ap, finB_2, own0_ap, fin0_0, fin1_0, fin0_1, fin1_1, fin0_2, fin1_2, fin0_3, fin1_3, fin0_4, fin1_4, fin0_5, fin1_5, fin0_6, fin1_6, fin0_7, fin1_7, fin0_8, fin1_8, dI0_ap, dAdd_ii, dLen_t, dLen_l, dTuple_l, dTuple_t, dList_l, dList_t, dMax_ii, dMin_ii, dIx_t, dIx_l, atI_0, atI_1, atI_2, atI_3, dSl_t, dSl_l, dSl_s, dNe_ii, dEq_ii, ifz, ifz', Option.map_some, List.length_cons, List.length_nil, List.length_append, List.length_map, zl0, zm0, zl1, zm1, zl2, zm2, zl3, zm3, zl4, zm4, zl5, zm5, zl6, zm6, zl7, zm7, zl8, zm8, zl9, zm9, zl10, zm10, zl11, zm11, zl12, zm12, zl13, zm13, zl14, zm14, zl15, zm15, zl16, zm16, Nat.zero_add, Nat.reduceAdd, Int.reduceAdd, Int.reduceSub, Int.reduceMul, Int.reduceNeg, Int.reduceEq, Int.reduceLE, Int.reduceLT, Int.reduceToNat, Int.reducePow, decide_true, decide_false, cn0, cn1, cn2, cn3, cn4, cn5, cn6, cn7, cn8, cn9, cn10, cn11, cn12, List.set_cons_zero, List.set_cons_succ, tn0, tn1, tn2, tn3, tn4, tn5, tn6, tn7, tn8, eLn_ap, tLn_ap, lnd_nil, lnd_cons, lend_ow, lend_dc, lend_un, lend_vl, scD_bl, scD_int, scD_non, scD_str, sParL_ap, frz_ap, chL_ap, chK_ap, chLt_ap, chKt_ap, asB_ap, Bool.false_and]
  | true =>
    simp only [vls_nil, vls_cons, uns_zero, uns_succ, gt_zero, gt_succ, st_zero, st_succ, bnd_ap, ret_ap, lift_some, eC_ap, eV_ap, e2_ap, eB_ap, eNot_ap, tNot_ap, tAnd_app, tOr_app, ite_ap, eAnd_ap, eOr_ap, e3_app, eIf_ap, brk_ap, brk'_ap, ite_bl, ite_bo, ite_tb, ite_to, ↓reduceIte, Bool.false_eq_true, Bool.not_true, Bool.not_false, aN_ap, aC_ap, eT_ap, eL_ap, fL_ap, eB1_ap, eIsi_ap, eIsiA_ap, e1n_ap, oS_ap, eSl_ap, eCall_ap, fCall_ap, eCall1_ap, eOx_ap, eDGet_ap, eDSort_ap, iS_ap, iR1_ap, iR2_ap, iE_ap, iZ_ap, gN_ap, gT2, gT3, sSeq_ap, sNext_ap, sExpr_ap, sRet_ap, sRetF_ap, sIf_ap, sAsg_ap, sPar_ap, sParD_ap, sPut_ap, sDPut_ap, sBind_ap, sOwn_ap, sApp_ap, sRetO_ap, eSortSet_ap, sFor_ap, sBag_ap, finB_2, own0_ap, fin0_0, fin1_0, fin0_1, fin1_1, fin0_2, fin1_2, fin0_3, fin1_3, fin0_4, fin1_4, fin0_5, fin1_5, fin0_6, fin1_6, fin0_7, fin1_7, fin0_8, fin1_8, dI0_ap, dAdd_ii, dLen_t, dLen_l, dTuple_l, dTuple_t, dList_l, dList_t, dMax_ii, dMin_ii, dIx_t, dIx_l, atI_0, atI_1, atI_2, atI_3, dSl_t, dSl_l, dSl_s, dNe_ii, dEq_ii, ifz, ifz', Option.map_some, List.length_cons, List.length_nil, List.length_append, List.length_map, zl0, zm0, zl1, zm1, zl2, zm2, zl3, zm3, zl4, zm4, zl5, zm5, zl6, zm6, zl7, zm7, zl8, zm8, zl9, zm9, zl10, zm10, zl11, zm11, zl12, zm12, zl13, zm13, zl14, zm14, zl15, zm15, zl16, zm16, Nat.zero_add, Nat.reduceAdd, Int.reduceAdd, Int.reduceSub, Int.reduceMul, Int.reduceNeg, Int.reduceEq, Int.reduceLE, Int.reduceLT, Int.reduceToNat, Int.reducePow, decide_true, decide_false, cn0, cn1, cn2, cn3, cn4, cn5, cn6, cn7, cn8, cn9, cn10, cn11, cn12, List.set_cons_zero, List.set_cons_succ, tn0, tn1, tn2, tn3, tn4, tn5, tn6, tn7, tn8, eLn_ap, tLn_ap, lnd_nil, lnd_cons, lend_ow, lend_dc, lend_un, lend_vl, scD_bl, scD_int, scD_non, scD_str, sParL_ap, frz_ap, chL_ap, chK_ap, chLt_ap, chKt_ap, asB_ap, e2, (dEq_empty (fun _ => D.int 1) (fun _ => trivial) _).1, isEmpty_filter_not, ← q2, Bool.true_and]
theorem law_same_bl {k : Nat} {a b : Bool} : m__law_same (k + 1) [.bl a, .bl b] = some (.rt (.bl (a == b))) := by
  unfold m__law_same b__law_same
  obtain ⟨z, e1, e2, e3⟩ : ∃ z, dEq (.bl a) (.bl b) = some (.bl z) ∧ z = (a == b) ∧ True := by
    cases a <;> cases b <;> exact ⟨_, rfl, rfl, trivial⟩
  subst e2
  simp only [vls_nil, vls_cons, uns_zero, uns_succ, gt_zero, gt_succ, st_zero, st_succ, bnd_ap, ret_ap, lift_some, eC_ap, eV_ap, e2_ap, eB_ap, eNot_ap, tNot_ap, tAnd_app, tOr_app, ite_ap, eAnd_ap, eOr_ap, e3_app, eIf_ap, brk_ap, brk'_ap, ite_bl, ite_bo, ite_tb, ite_to, ↓reduceIte, Bool.false_eq_true, Bool.not_true, Bool.not_false, aN_ap, aC_ap, eT_ap, eL_ap, fL_ap, eB1_ap, eIsi_ap, eIsiA_ap, e1n_ap, oS_ap, eSl_ap, eCall_ap, fCall_ap, eCall1_ap, eOx_ap, eDGet_ap, eDSort_ap, iS_ap, iR1_ap, iR2_ap, iE_ap, iZ_ap, gN_ap, gT2, gT3, sSeq_ap, sNext_ap, sExpr_ap, sRet_ap, sRetF_ap, sIf_ap, sAsg_ap, sPar_ap, sParD_ap, sPut_ap, sDPut_ap, sBind_ap, sOwn_ap, sApp_ap, sRetO_ap, eSortSet_ap, sFor_ap, sBag_ap, finB_2, own0_ap, fin0_0, fin1_0, fin0_1, fin1_1, fin0_2, fin1_2, fin0_3, fin1_3, fin0_4, fin1_4, fin0_5, fin1_5, fin0_6, fin1_6, fin0_7, fin1_7, fin0_8, fin1_8, dI0_ap, dAdd_ii, dLen_t, dLen_l, dTuple_l, dTuple_t, dList_l, dList_t, dMax_ii, dMin_ii, dIx_t, dIx_l, atI_0, atI_1, atI_2, atI_3, dSl_t, dSl_l, dSl_s, dNe_ii, dEq_ii, ifz, ifz', Option.map_some, List.length_cons, List.length_nil, List.length_append, List.length_map, zl0, zm0, zl1, zm1, zl2, zm2, zl3, zm3, zl4, zm4, zl5, zm5, zl6, zm6, zl7, zm7, zl8, zm8, zl9, zm9, zl10, zm10, zl11, zm11, zl12, zm12, zl13, zm13, zl14, zm14, zl15, zm15, zl16, zm16, Nat.zero_add, Nat.reduceAdd, Int.reduceAdd, Int.reduceSub, Int.reduceMul, Int.reduceNeg, Int.reduceEq, Int.reduceLE, Int.reduceLT, Int.reduceToNat, Int.reducePow, decide_true, decide_false, cn0, cn1, cn2, cn3, cn4, cn5, cn6, cn7, cn8, cn9, cn10, cn11, cn12, List.set_cons_zero, List.set_cons_succ, tn0, tn1, tn2, tn3, tn4, tn5, tn6, tn7, tn8, eLn_ap, tLn_ap, lnd_nil, lnd_cons, lend_ow, lend_dc, lend_un, lend_vl, scD_bl, scD_int, scD_non, scD_str, sParL_ap, frz_ap, chL_ap, chK_ap, chLt_ap, chKt_ap, asB_ap, dIsi, inst, instA, e1, Bool.or_true, Bool.true_or, Bool.or_false]
theorem law_same_int {k : Nat} {a b : Int} : m__law_same (k + 1) [.int a, .int b] = some (.rt (.bl (decide (a = b)))) := by
  unfold m__law_same b__law_same
  simp only [vls_nil, vls_cons, uns_zero, uns_succ, gt_zero, gt_succ, st_zero, st_succ, bnd_ap, ret_ap, lift_some, eC_ap, eV_ap, e2_ap, eB_ap, eNot_ap, tNot_ap, tAnd_app, tOr_app, ite_ap, eAnd_ap, eOr_ap, e3_app, eIf_ap, brk_ap, brk'_ap, ite_bl, ite_bo, ite_tb, ite_to, ↓reduceIte, Bool.false_eq_true, Bool.not_true, Bool.not_false, aN_ap, aC_ap, eT_ap, eL_ap, fL_ap, eB1_ap, eIsi_ap, eIsiA_ap, e1n_ap, oS_ap, eSl_ap, eCall_ap, fCall_ap, eCall1_ap, eOx_ap, eDGet_ap, eDSort_ap, iS_ap, iR1_ap, iR2_ap, iE_ap, iZ_ap, gN_ap, gT2, gT3, sSeq_ap, sNext_ap, sExpr_ap, sRet_ap, sRetF_ap, sIf_ap, sAsg_ap, sPar_ap, sParD_ap, sPut_ap, sDPut_ap, sBind_ap, sOwn_ap, sApp_ap, sRetO_ap, eSortSet_ap, sFor_ap, sBag_ap, finB_2, own0_ap, fin0_0, fin1_0, fin0_1, fin1_1, fin0_2, fin1_2, fin0_3, fin1_3, fin0_4, fin1_4, fin0_5, fin1_5, fin0_6, fin1_6, fin0_7, fin1_7, fin0_8, fin1_8, dI0_ap, dAdd_ii, dLen_t, dLen_l, dTuple_l, dTuple_t, dList_l, dList_t, dMax_ii, dMin_ii, dIx_t, dIx_l, atI_0, atI_1, atI_2, atI_3, dSl_t, dSl_l, dSl_s, dNe_ii, dEq_ii, ifz, ifz', Option.map_some, List.length_cons, List.length_nil, List.length_append, List.length_map, zl0, zm0, zl1, zm1, zl2, zm2, zl3, zm3, zl4, zm4, zl5, zm5, zl6, zm6, zl7, zm7, zl8, zm8, zl9, zm9, zl10, zm10, zl11, zm11, zl12, zm12, zl13, zm13, zl14, zm14, zl15, zm15, zl16, zm16, Nat.zero_add, Nat.reduceAdd, Int.reduceAdd, Int.reduceSub, Int.reduceMul, Int.reduceNeg, Int.reduceEq, Int.reduceLE, Int.reduceLT, Int.reduceToNat, Int.reducePow, decide_true, decide_false, cn0, cn1, cn2, cn3, cn4, cn5, cn6, cn7, cn8, cn9, cn10, cn11, cn12, List.set_cons_zero, List.set_cons_succ, tn0, tn1, tn2, tn3, tn4, tn5, tn6, tn7, tn8, eLn_ap, tLn_ap, lnd_nil, lnd_cons, lend_ow, lend_dc, lend_un, lend_vl, scD_bl, scD_int, scD_non, scD_str, sParL_ap, frz_ap, chL_ap, chK_ap, chLt_ap, chKt_ap, asB_ap, dIsi, inst, instA, Bool.or_true, Bool.true_or, Bool.or_false]
end
/-! what is drawn -/
theorem pick4 {a b c d r : Int} (h : 0 ≤ r) (h2 : r < 4) : ∃ w, atI [D.int a, .int b, .int c, .int d] r = some (.int w) ∧ (w = a ∨ w = b ∨ w = c ∨ w = d) := by
  have : r = 0 ∨ r = 1 ∨ r = 2 ∨ r = 3 := by omega
  rcases this with rfl | rfl | rfl | rfl
  · exact ⟨a, atI_0, .inl rfl⟩
  · exact ⟨b, atI_1, .inr (.inl rfl)⟩
  · exact ⟨c, atI_2, .inr (.inr (.inl rfl))⟩
  · exact ⟨d, atI_3, .inr (.inr (.inr rfl))⟩
theorem law_windows_ok {k : Nat} {l : List D} {most : Nat} {end_ : Int} (hb : Bag (k + 4 * most + 4) l) (hm : most ≤ 1000) (h0 : 0 ≤ end_) (h1 : end_ ≤ 100000) :
    ∃ ws l', m__law_windows l [.int most, .int end_] = some (wsD ws, l') ∧ Bag k l' ∧ ws.length ≤ most ∧ ∀ w ∈ ws, 0 ≤ w.1 ∧ w.1 ≤ w.2 ∧ w.2 ≤ end_ := by
  obtain ⟨n, b0, e0, n0, n1, hb0⟩ := take_ok (k := k + 4 * most) (m := (most : Int) + 1) (hb.le (by omega)) (by omega) (by omega)
  have hgo := forGo_inv (enc := fun k : Nat => D.int (0 + (k : Int))) (g := gN 4)
    (body := L__law_windows_1)
    (fun r S => ∃ b ws c4 c5 c6, Bag (k + 4 * r.length) b ∧ S = [.ow true b, .vl (.int most), .vl (.int end_), .vl (wsD ws), c4, c5, c6] ∧ ws.length + r.length ≤ most ∧ ∀ w ∈ ws, 0 ≤ w.1 ∧ w.1 ≤ w.2 ∧ w.2 ≤ end_)
    (List.range n.toNat) [.ow true b0, .vl (.int most), .vl (.int end_), .vl (wsD []), .un, .un, .un]
    ⟨b0, [], .un, .un, .un, hb0.le (by rw [List.length_range]; omega), rfl, by rw [List.length_range, List.length_nil]; omega, fun w hw => by cases hw⟩
    (by
      rintro x r S _ ⟨b, ws, c4, c5, c6, hb, rfl, hl, hw⟩
      rw [List.length_cons] at hb hl
      obtain ⟨f, b1, e1, f0, f1, hb1⟩ := take_ok (k := k + 4 * r.length + 2) (m := end_ + 1) (hb.le (by omega)) (by omega) (by omega)
      obtain ⟨i, b2, e2, i0, i1, hb2⟩ := take_ok (k := k + 4 * r.length + 1) (m := 4) (hb1.le (by omega)) (by omega) (by omega)
      obtain ⟨wd, e3, hwd⟩ := pick4 (a := 0) (b := 1) (c := end_ / 4) (d := end_) i0 i1
      have w0 : 0 ≤ wd := by omega
      have w1 : wd ≤ 100000 := by omega
      obtain ⟨x', b3, e4, x0, x1, hb3⟩ := take_ok (k := k + 4 * r.length) (m := wd + 1) (hb2.le (by omega)) (by omega) (by omega)
      have e5 : dDiv (.int end_) (.int 4) = some (.int (end_ / 4)) := dDiv_ap (by decide) (by decide)
      have e6 : dAdd (wsD ws) (.tup [.tup [.int f, .int (min end_ (f + x'))]]) = some (wsD (ws ++ [(f, min end_ (f + x'))])) := by
        unfold wsD
        rw [dAdd_tt (by simp only [List.length_map, List.length_cons, List.length_nil]; omega), List.map_append]; rfl
      refine ⟨_, gN_ap, [.ow true b3, .vl (.int most), .vl (.int end_), .vl (wsD (ws ++ [(f, min end_ (f + x'))])), .vl (.int (0 + (x : Int))), .vl (.int f), .vl (.int wd)], .inl ?_, b3, ws ++ [(f, min end_ (f + x'))], _, _, _, hb3, rfl, ?_, ?_⟩
      · unfold L__law_windows_1; simp only [vls_nil, vls_cons, uns_zero, uns_succ, gt_zero, gt_succ, st_zero, st_succ, bnd_ap, ret_ap, lift_some, eC_ap, eV_ap, e2_ap, eB_ap, eNot_ap, tNot_ap, tAnd_app, tOr_app, ite_ap, eAnd_ap, eOr_ap, e3_app, eIf_ap, brk_ap, brk'_ap, ite_bl, ite_bo, ite_tb, ite_to, ↓reduceIte, Bool.false_eq_true, Bool.not_true, Bool.not_false, aN_ap, aC_ap, eT_ap, eL_ap, fL_ap, eB1_ap, eIsi_ap, eIsiA_ap, e1n_ap, oS_ap, eSl_ap, eCall_ap, fCall_ap, eCall1_ap, eOx_ap, eDGet_ap, eDSort_ap, iS_ap, iR1_ap, iR2_ap, iE_ap, iZ_ap, gN_ap, gT2, gT3, sSeq_ap, sNext_ap, sExpr_ap, sRet_ap, sRetF_ap, sIf_ap, sAsg_ap, sPar_ap, sParD_ap, sPut_ap, sDPut_ap, sBind_ap, sOwn_ap, sApp_ap, sRetO_ap, eSortSet_ap, sFor_ap, sBag_ap, finB_2, own0_ap, fin0_0, fin1_0, fin0_1, fin1_1, fin0_2, fin1_2, fin0_3, fin1_3, fin0_4, fin1_4, fin0_5, fin1_5, fin0_6, fin1_6, fin0_7, fin1_7, fin0_8, fin1_8, dI0_ap, dAdd_ii, dLen_t, dLen_l, dTuple_l, dTuple_t, dList_l, dList_t, dMax_ii, dMin_ii, dIx_t, dIx_l, atI_0, atI_1, atI_2, atI_3, dSl_t, dSl_l, dSl_s, dNe_ii, dEq_ii, ifz, ifz', Option.map_some, List.length_cons, List.length_nil, List.length_append, List.length_map, zl0, zm0, zl1, zm1, zl2, zm2, zl3, zm3, zl4, zm4, zl5, zm5, zl6, zm6, zl7, zm7, zl8, zm8, zl9, zm9, zl10, zm10, zl11, zm11, zl12, zm12, zl13, zm13, zl14, zm14, zl15, zm15, zl16, zm16, Nat.zero_add, Nat.reduceAdd, Int.reduceAdd, Int.reduceSub, Int.reduceMul, Int.reduceNeg, Int.reduceEq, Int.reduceLE, Int.reduceLT, Int.reduceToNat, Int.reducePow, decide_true, decide_false, cn0, cn1, cn2, cn3, cn4, cn5, cn6, cn7, cn8, cn9, cn10, cn11, cn12, List.set_cons_zero, List.set_cons_succ, tn0, tn1, tn2, tn3, tn4, tn5, tn6, tn7, tn8, eLn_ap, tLn_ap, lnd_nil, lnd_cons, lend_ow, lend_dc, lend_un, lend_vl, scD_bl, scD_int, scD_non, scD_str, sParL_ap, frz_ap, chL_ap, chK_ap, chLt_ap, chKt_ap, asB_ap, e1, e2, e3, e4, e5, e6]
      · rw [List.length_append]; simp only [List.length_cons, List.length_nil]; omega
      · intro w hw'
        rcases List.mem_append.mp hw' with hw' | hw'
        · exact hw w hw'
        · rw [List.mem_singleton.mp hw']; simp only []; omega)
  obtain ⟨S', e, b, ws, c4, c5, c6, hb', rfl, hl, hw⟩ := hgo
  refine ⟨ws, b, ?_, hb'.le (by omega), by rw [List.length_nil] at hl; omega, hw⟩
  unfold m__law_windows b__law_windows
  have hn : -1000000000 ≤ n ∧ n ≤ 1000000000 := by omega
  rw [show wsD [] = .tup [] from rfl] at e
  simp only [vls_nil, vls_cons, uns_zero, uns_succ, gt_zero, gt_succ, st_zero, st_succ, bnd_ap, ret_ap, lift_some, eC_ap, eV_ap, e2_ap, eB_ap, eNot_ap, tNot_ap, tAnd_app, tOr_app, ite_ap, eAnd_ap, eOr_ap, e3_app, eIf_ap, brk_ap, brk'_ap, ite_bl, ite_bo, ite_tb, ite_to, ↓reduceIte, Bool.false_eq_true, Bool.not_true, Bool.not_false, aN_ap, aC_ap, eT_ap, eL_ap, fL_ap, eB1_ap, eIsi_ap, eIsiA_ap, e1n_ap, oS_ap, eSl_ap, eCall_ap, fCall_ap, eCall1_ap, eOx_ap, eDGet_ap, eDSort_ap, iS_ap, iR1_ap, iR2_ap, iE_ap, iZ_ap, gN_ap, gT2, gT3, sSeq_ap, sNext_ap, sExpr_ap, sRet_ap, sRetF_ap, sIf_ap, sAsg_ap, sPar_ap, sParD_ap, sPut_ap, sDPut_ap, sBind_ap, sOwn_ap, sApp_ap, sRetO_ap, eSortSet_ap, sFor_ap, sBag_ap, finB_2, own0_ap, fin0_0, fin1_0, fin0_1, fin1_1, fin0_2, fin1_2, fin0_3, fin1_3, fin0_4, fin1_4, fin0_5, fin1_5, fin0_6, fin1_6, fin0_7, fin1_7, fin0_8, fin1_8, dI0_ap, dAdd_ii, dLen_t, dLen_l, dTuple_l, dTuple_t, dList_l, dList_t, dMax_ii, dMin_ii, dIx_t, dIx_l, atI_0, atI_1, atI_2, atI_3, dSl_t, dSl_l, dSl_s, dNe_ii, dEq_ii, ifz, ifz', Option.map_some, List.length_cons, List.length_nil, List.length_append, List.length_map, zl0, zm0, zl1, zm1, zl2, zm2, zl3, zm3, zl4, zm4, zl5, zm5, zl6, zm6, zl7, zm7, zl8, zm8, zl9, zm9, zl10, zm10, zl11, zm11, zl12, zm12, zl13, zm13, zl14, zm14, zl15, zm15, zl16, zm16, Nat.zero_add, Nat.reduceAdd, Int.reduceAdd, Int.reduceSub, Int.reduceMul, Int.reduceNeg, Int.reduceEq, Int.reduceLE, Int.reduceLT, Int.reduceToNat, Int.reducePow, decide_true, decide_false, cn0, cn1, cn2, cn3, cn4, cn5, cn6, cn7, cn8, cn9, cn10, cn11, cn12, List.set_cons_zero, List.set_cons_succ, tn0, tn1, tn2, tn3, tn4, tn5, tn6, tn7, tn8, eLn_ap, tLn_ap, lnd_nil, lnd_cons, lend_ow, lend_dc, lend_un, lend_vl, scD_bl, scD_int, scD_non, scD_str, sParL_ap, frz_ap, chL_ap, chK_ap, chLt_ap, chKt_ap, asB_ap, e0, rg1_ok hn.1 hn.2, rangeL, e]
theorem law_course_ok {k : Nat} {l : List D} {ws : List Win} (hb : Bag (k + ws.length) l) (hl : ws.length ≤ 1000) (hw : ∀ w ∈ ws, w.1 ≤ w.2 ∧ w.2 - w.1 ≤ 1000000) :
    ∃ xs l', m__law_course l [wsD ws] = some (xsD xs, l') ∧ Bag k l' ∧ Paired (fun (w : Win) x => w.1 ≤ x ∧ x ≤ w.2) ws xs := by
  obtain ⟨ys, S2, e, hp, b, rfl, hb'⟩ := lcE_inv (enc := wD) (l := ws) (vs := [2, 3]) (fi := iS (eV 1)) (g := gT [2, 3]) (te := e2 dAdd (eV 2) (eCall1 m__law_take 0 (aC (e2 dAdd (e2 dSub (eV 3) (eV 2)) (eC (.int 1))) aN)))
    (S := [.ow true l, .vl (wsD ws), .un, .un])
    (fun r S => ∃ b, S = [.ow true b, .vl (wsD ws), .un, .un] ∧ Bag (k + r.length) b) (fun w d => ∃ x, d = .int x ∧ w.1 ≤ x ∧ x ≤ w.2) rfl (by omega) ⟨l, rfl, hb⟩
    (by
      rintro x r S hx _ ⟨b, rfl, hb⟩
      obtain ⟨h1, h2⟩ := hw x hx
      obtain ⟨f, b1, e1, f0, f1, hb1⟩ := take_ok (k := k + r.length) (m := x.2 - x.1 + 1) (hb.le (by rw [List.length_cons]; omega)) (by omega) (by omega)
      refine ⟨_, gT2, .int (x.1 + f), [.ow true b1, .vl (wsD ws), .vl (.int x.1), .vl (.int x.2)], ?_, ⟨_, rfl, by omega, by omega⟩, b1, rfl, hb1⟩
      simp only [wp, vls_nil, vls_cons, uns_zero, uns_succ, gt_zero, gt_succ, st_zero, st_succ, bnd_ap, ret_ap, lift_some, eC_ap, eV_ap, e2_ap, eB_ap, eNot_ap, tNot_ap, tAnd_app, tOr_app, ite_ap, eAnd_ap, eOr_ap, e3_app, eIf_ap, brk_ap, brk'_ap, ite_bl, ite_bo, ite_tb, ite_to, ↓reduceIte, Bool.false_eq_true, Bool.not_true, Bool.not_false, aN_ap, aC_ap, eT_ap, eL_ap, fL_ap, eB1_ap, eIsi_ap, eIsiA_ap, e1n_ap, oS_ap, eSl_ap, eCall_ap, fCall_ap, eCall1_ap, eOx_ap, eDGet_ap, eDSort_ap, iS_ap, iR1_ap, iR2_ap, iE_ap, iZ_ap, gN_ap, gT2, gT3, sSeq_ap, sNext_ap, sExpr_ap, sRet_ap, sRetF_ap, sIf_ap, sAsg_ap, sPar_ap, sParD_ap, sPut_ap, sDPut_ap, sBind_ap, sOwn_ap, sApp_ap, sRetO_ap, eSortSet_ap, sFor_ap, sBag_ap, finB_2, own0_ap, fin0_0, fin1_0, fin0_1, fin1_1, fin0_2, fin1_2, fin0_3, fin1_3, fin0_4, fin1_4, fin0_5, fin1_5, fin0_6, fin1_6, fin0_7, fin1_7, fin0_8, fin1_8, dI0_ap, dAdd_ii, dLen_t, dLen_l, dTuple_l, dTuple_t, dList_l, dList_t, dMax_ii, dMin_ii, dIx_t, dIx_l, atI_0, atI_1, atI_2, atI_3, dSl_t, dSl_l, dSl_s, dNe_ii, dEq_ii, ifz, ifz', Option.map_some, List.length_cons, List.length_nil, List.length_append, List.length_map, zl0, zm0, zl1, zm1, zl2, zm2, zl3, zm3, zl4, zm4, zl5, zm5, zl6, zm6, zl7, zm7, zl8, zm8, zl9, zm9, zl10, zm10, zl11, zm11, zl12, zm12, zl13, zm13, zl14, zm14, zl15, zm15, zl16, zm16, Nat.zero_add, Nat.reduceAdd, Int.reduceAdd, Int.reduceSub, Int.reduceMul, Int.reduceNeg, Int.reduceEq, Int.reduceLE, Int.reduceLT, Int.reduceToNat, Int.reducePow, decide_true, decide_false, cn0, cn1, cn2, cn3, cn4, cn5, cn6, cn7, cn8, cn9, cn10, cn11, cn12, List.set_cons_zero, List.set_cons_succ, tn0, tn1, tn2, tn3, tn4, tn5, tn6, tn7, tn8, eLn_ap, tLn_ap, lnd_nil, lnd_cons, lend_ow, lend_dc, lend_un, lend_vl, scD_bl, scD_int, scD_non, scD_str, sParL_ap, frz_ap, chL_ap, chK_ap, chLt_ap, chKt_ap, asB_ap, e1])
  have hp' : ∃ xs : List Int, ys = xs.map D.int ∧ Paired (fun (w : Win) x => w.1 ≤ x ∧ x ≤ w.2) ws xs := by
    clear e hb hb' hl hw
    induction hp with
    | nil => exact ⟨[], rfl, .nil⟩
    | cons r _ ih =>
      obtain ⟨x, rfl, h⟩ := r
      obtain ⟨xs, rfl, h'⟩ := ih
      exact ⟨x :: xs, rfl, .cons h h'⟩
  obtain ⟨xs, rfl, hp'⟩ := hp'
  refine ⟨xs, b, ?_, hb', hp'⟩
  unfold m__law_course b__law_course C__law_course_1
  simp only [rs, kp, vls_nil, vls_cons, uns_zero, uns_succ, gt_zero, gt_succ, st_zero, st_succ, bnd_ap, ret_ap, lift_some, eC_ap, eV_ap, e2_ap, eB_ap, eNot_ap, tNot_ap, tAnd_app, tOr_app, ite_ap, eAnd_ap, eOr_ap, e3_app, eIf_ap, brk_ap, brk'_ap, ite_bl, ite_bo, ite_tb, ite_to, ↓reduceIte, Bool.false_eq_true, Bool.not_true, Bool.not_false, aN_ap, aC_ap, eT_ap, eL_ap, fL_ap, eB1_ap, eIsi_ap, eIsiA_ap, e1n_ap, oS_ap, eSl_ap, eCall_ap, fCall_ap, eCall1_ap, eOx_ap, eDGet_ap, eDSort_ap, iS_ap, iR1_ap, iR2_ap, iE_ap, iZ_ap, gN_ap, gT2, gT3, sSeq_ap, sNext_ap, sExpr_ap, sRet_ap, sRetF_ap, sIf_ap, sAsg_ap, sPar_ap, sParD_ap, sPut_ap, sDPut_ap, sBind_ap, sOwn_ap, sApp_ap, sRetO_ap, eSortSet_ap, sFor_ap, sBag_ap, finB_2, own0_ap, fin0_0, fin1_0, fin0_1, fin1_1, fin0_2, fin1_2, fin0_3, fin1_3, fin0_4, fin1_4, fin0_5, fin1_5, fin0_6, fin1_6, fin0_7, fin1_7, fin0_8, fin1_8, dI0_ap, dAdd_ii, dLen_t, dLen_l, dTuple_l, dTuple_t, dList_l, dList_t, dMax_ii, dMin_ii, dIx_t, dIx_l, atI_0, atI_1, atI_2, atI_3, dSl_t, dSl_l, dSl_s, dNe_ii, dEq_ii, ifz, ifz', Option.map_some, List.length_cons, List.length_nil, List.length_append, List.length_map, zl0, zm0, zl1, zm1, zl2, zm2, zl3, zm3, zl4, zm4, zl5, zm5, zl6, zm6, zl7, zm7, zl8, zm8, zl9, zm9, zl10, zm10, zl11, zm11, zl12, zm12, zl13, zm13, zl14, zm14, zl15, zm15, zl16, zm16, Nat.zero_add, Nat.reduceAdd, Int.reduceAdd, Int.reduceSub, Int.reduceMul, Int.reduceNeg, Int.reduceEq, Int.reduceLE, Int.reduceLT, Int.reduceToNat, Int.reducePow, decide_true, decide_false, cn0, cn1, cn2, cn3, cn4, cn5, cn6, cn7, cn8, cn9, cn10, cn11, cn12, List.set_cons_zero, List.set_cons_succ, tn0, tn1, tn2, tn3, tn4, tn5, tn6, tn7, tn8, eLn_ap, tLn_ap, lnd_nil, lnd_cons, lend_ow, lend_dc, lend_un, lend_vl, scD_bl, scD_int, scD_non, scD_str, sParL_ap, frz_ap, chL_ap, chK_ap, chLt_ap, chKt_ap, asB_ap] at e
  simp only [vls_nil, vls_cons, uns_zero, uns_succ, gt_zero, gt_succ, st_zero, st_succ, bnd_ap, ret_ap, lift_some, eC_ap, eV_ap, e2_ap, eB_ap, eNot_ap, tNot_ap, tAnd_app, tOr_app, ite_ap, eAnd_ap, eOr_ap, e3_app, eIf_ap, brk_ap, brk'_ap, ite_bl, ite_bo, ite_tb, ite_to, ↓reduceIte, Bool.false_eq_true, Bool.not_true, Bool.not_false, aN_ap, aC_ap, eT_ap, eL_ap, fL_ap, eB1_ap, eIsi_ap, eIsiA_ap, e1n_ap, oS_ap, eSl_ap, eCall_ap, fCall_ap, eCall1_ap, eOx_ap, eDGet_ap, eDSort_ap, iS_ap, iR1_ap, iR2_ap, iE_ap, iZ_ap, gN_ap, gT2, gT3, sSeq_ap, sNext_ap, sExpr_ap, sRet_ap, sRetF_ap, sIf_ap, sAsg_ap, sPar_ap, sParD_ap, sPut_ap, sDPut_ap, sBind_ap, sOwn_ap, sApp_ap, sRetO_ap, eSortSet_ap, sFor_ap, sBag_ap, finB_2, own0_ap, fin0_0, fin1_0, fin0_1, fin1_1, fin0_2, fin1_2, fin0_3, fin1_3, fin0_4, fin1_4, fin0_5, fin1_5, fin0_6, fin1_6, fin0_7, fin1_7, fin0_8, fin1_8, dI0_ap, dAdd_ii, dLen_t, dLen_l, dTuple_l, dTuple_t, dList_l, dList_t, dMax_ii, dMin_ii, dIx_t, dIx_l, atI_0, atI_1, atI_2, atI_3, dSl_t, dSl_l, dSl_s, dNe_ii, dEq_ii, ifz, ifz', Option.map_some, List.length_cons, List.length_nil, List.length_append, List.length_map, zl0, zm0, zl1, zm1, zl2, zm2, zl3, zm3, zl4, zm4, zl5, zm5, zl6, zm6, zl7, zm7, zl8, zm8, zl9, zm9, zl10, zm10, zl11, zm11, zl12, zm12, zl13, zm13, zl14, zm14, zl15, zm15, zl16, zm16, Nat.zero_add, Nat.reduceAdd, Int.reduceAdd, Int.reduceSub, Int.reduceMul, Int.reduceNeg, Int.reduceEq, Int.reduceLE, Int.reduceLT, Int.reduceToNat, Int.reducePow, decide_true, decide_false, cn0, cn1, cn2, cn3, cn4, cn5, cn6, cn7, cn8, cn9, cn10, cn11, cn12, List.set_cons_zero, List.set_cons_succ, tn0, tn1, tn2, tn3, tn4, tn5, tn6, tn7, tn8, eLn_ap, tLn_ap, lnd_nil, lnd_cons, lend_ow, lend_dc, lend_un, lend_vl, scD_bl, scD_int, scD_non, scD_str, sParL_ap, frz_ap, chL_ap, chK_ap, chLt_ap, chKt_ap, asB_ap, e, xsD]
/-! the table of tallies -/
def tbl (ps : List Tal) : List (Int × D) := ps.map fun p => (p.1, tD p)
theorem getD_tbl : ∀ (ps : List Tal) (k : Int), (∀ p ∈ ps, p.1 ≠ k) ∧ getD (tbl ps) k = none ∨ ∃ p ∈ ps, p.1 = k ∧ getD (tbl ps) k = some (tD p)
  | [], k => .inl ⟨fun p h => (List.not_mem_nil h).elim, rfl⟩
  | p :: r, k => by
    have e : getD (tbl (p :: r)) k = if p.1 = k then some (tD p) else getD (tbl r) k := rfl
    by_cases q : p.1 = k
    · exact .inr ⟨p, List.mem_cons_self, q, by rw [e, if_pos q]⟩
    · rcases getD_tbl r k with ⟨h1, h2⟩ | ⟨p', h1, h2, h3⟩
      · refine .inl ⟨fun z hz => ?_, by rw [e, if_neg q]; exact h2⟩
        rcases List.mem_cons.mp hz with rfl | hz
        · exact q
        · exact h1 z hz
      · exact .inr ⟨p', List.mem_cons_of_mem _ h1, h2, by rw [e, if_neg q]; exact h3⟩
theorem putD_tbl {P : Tal → Prop} (ps : List Tal) (t : Tal) (hP : ∀ p ∈ ps, P p) (ht : P t) (hn : (ps.map (·.1)).Nodup) : ∃ qs, putD (tbl ps) t.1 (tD t) = tbl qs ∧ (∀ p ∈ qs, P p) ∧ (qs.map (·.1)).Nodup ∧ qs.length ≤ ps.length + 1 := by
  unfold putD hasD
  rcases getD_tbl ps t.1 with ⟨h1, h2⟩ | ⟨p, h1, h2, h3⟩
  · rw [h2]
    refine ⟨ps ++ [t], ?_, fun p hp => ?_, ?_, by simp⟩
    · rw [if_neg (by simp)]; simp [tbl]
    · rcases List.mem_append.mp hp with hp | hp
      · exact hP p hp
      · rw [List.mem_singleton.mp hp]; exact ht
    · rw [List.map_append]
      refine List.nodup_append.mpr ⟨hn, by simp, ?_⟩
      intro a ha b hb
      simp only [List.map_cons, List.map_nil, List.mem_singleton] at hb
      obtain ⟨q, hq, rfl⟩ := List.mem_map.mp ha
      rw [hb]; exact h1 q hq
  · rw [h3]
    have e : (ps.map fun p => if p.1 = t.1 then t else p).map (·.1) = ps.map (·.1) := by
      rw [List.map_map]
      apply List.map_congr_left
      intro a _
      simp only [Function.comp]
      split
      · rename_i h; exact h.symm
      · rfl
    refine ⟨ps.map fun p => if p.1 = t.1 then t else p, ?_, fun p hp => ?_, ?_, by simp⟩
    · rw [if_pos (by rfl)]
      unfold setD tbl
      rw [List.map_map, List.map_map]
      apply List.map_congr_left
      intro a _
      simp only [Function.comp]
      by_cases q : a.1 = t.1
      · rw [if_pos q, if_pos q, q]
      · rw [if_neg q, if_neg q]
    · obtain ⟨a, ha, rfl⟩ := List.mem_map.mp hp
      split
      · exact ht
      · exact hP a ha
    · rw [e]; exact hn
theorem look_tbl (ps : List Tal) : ∀ ks : List Int, (∀ k ∈ ks, k ∈ ps.map (·.1)) → ∃ ts : List Tal, (ks.map fun k => (getD (tbl ps) k).getD .non) = ts.map tD ∧ ts.map (·.1) = ks ∧ ∀ t ∈ ts, t ∈ ps
  | [], _ => ⟨[], rfl, rfl, fun t h => (List.not_mem_nil h).elim⟩
  | k :: r, h => by
    obtain ⟨ts, e1, e2, e3⟩ := look_tbl ps r fun x hx => h x (List.mem_cons_of_mem _ hx)
    rcases getD_tbl ps k with ⟨h1, _⟩ | ⟨p, h1, h2, h3⟩
    · obtain ⟨p, hp, rfl⟩ := List.mem_map.mp (h k List.mem_cons_self)
      exact absurd rfl (h1 p hp)
    · refine ⟨p :: ts, ?_, ?_, fun t ht => ?_⟩
      · rw [List.map_cons, List.map_cons, h3, e1]; rfl
      · rw [List.map_cons, e2, h2]
      · rcases List.mem_cons.mp ht with rfl | ht
        · exact h1
        · exact e3 t ht
theorem strict_of {l : List Int} (h : l.Pairwise (· ≤ ·)) (hn : l.Nodup) : l.Pairwise (· < ·) := by
  induction h with
  | nil => exact .nil
  | @cons a l ha _ ih =>
    rw [List.nodup_cons] at hn
    refine .cons (fun b hb => ?_) (ih hn.2)
    have h1 := ha b hb
    have h2 : a ≠ b := fun e => hn.1 (e ▸ hb)
    omega
theorem num_le (xs : List Int) (t : Int) : num xs t ≤ xs.length := List.length_filter_le _ _
theorem Paired.len' {α β : Type} {R : α → β → Prop} {xs : List α} {ys : List β} (h : Paired R xs ys) : ys.length = xs.length := (Paired.len h).symm
theorem law_tallies_ok {k : Nat} {l : List D} {ws : List Win} {end_ way : Int} (hb : Bag (k + 60) l) (hw : WsOk ws) (h0 : 0 ≤ end_) (h1 : end_ ≤ 1000) :
    ∃ ts l' xs, m__law_tallies l [wsD ws, .int end_, .int way] = some (tsD ts, l') ∧ Bag k l' ∧ TsOk ws.length ts ∧ (∀ t ∈ ts, t.1 ≤ end_) ∧ Paired (fun (w : Win) x => w.1 ≤ x ∧ x ≤ w.2) ws xs ∧ (way ≤ 0 → keptT ts xs = true) := by
  have hlen := hw.len
  obtain ⟨xs, b0, e0, hb0, hx⟩ := law_course_ok (k := k + 50) (ws := ws) (hb.le (by omega)) (by omega) (fun w hm => by obtain ⟨a1, a2, a3⟩ := hw.ok w hm; exact ⟨a2, by omega⟩)
  have hxl := Paired.len' hx
  obtain ⟨n, b1, e1, n0, n1, hb1⟩ := take_ok (k := k + 49) (m := 7) hb0 (by omega) (by omega)
  have hgo := forGo_inv (enc := fun k : Nat => D.int (0 + (k : Int))) (g := gN 6) (body := L__law_tallies_1)
    (fun r S => ∃ b ps c6 c7 c8 c9 c10, Bag (k + 6 * r.length) b ∧ S = [.ow true b, .vl (wsD ws), .vl (.int end_), .vl (.int way), .vl (xsD xs), .dc false (tbl ps), c6, c7, c8, c9, c10] ∧ ps.length + r.length ≤ 6
      ∧ (∀ p ∈ ps, TOk ws.length p ∧ p.1 ≤ end_ ∧ (way ≤ 0 → p.2.1 ≤ (num xs p.1 : Int) ∧ (num xs p.1 : Int) ≤ p.2.2)) ∧ (ps.map (·.1)).Nodup)
    (List.range n.toNat) [.ow true b1, .vl (wsD ws), .vl (.int end_), .vl (.int way), .vl (xsD xs), .dc false (tbl []), .un, .un, .un, .un, .un]
    ⟨b1, [], .un, .un, .un, .un, .un, hb1.le (by rw [List.length_range]; omega), rfl, by rw [List.length_range, List.length_nil]; omega, fun p hp => (List.not_mem_nil hp).elim, List.Pairwise.nil⟩
    (by
      rintro x r S _ ⟨b, ps, c6, c7, c8, c9, c10, hb, rfl, hl, hps, hnd⟩
      rw [List.length_cons] at hb hl
      obtain ⟨t, b1, e1, t0, t1, hb1⟩ := take_ok (k := k + 6 * r.length + 5) (m := end_ + 1) (hb.le (by omega)) (by omega) (by omega)
      obtain ⟨u, b2, e2, u0, u1, hb2⟩ := take_ok (k := k + 6 * r.length + 4) (m := 2) hb1 (by omega) (by omega)
      obtain ⟨v, b3, e3, v0, v1, hb3⟩ := take_ok (k := k + 6 * r.length + 3) (m := 2) hb2 (by omega) (by omega)
      have en := law_number_ok (xs := xs) (by omega) t
      have hnum := num_le xs t
      have ew : dLen [wsD ws] = some (.int ws.length) := by unfold wsD; simp only [vls_nil, vls_cons, uns_zero, uns_succ, gt_zero, gt_succ, st_zero, st_succ, bnd_ap, ret_ap, lift_some, eC_ap, eV_ap, e2_ap, eB_ap, eNot_ap, tNot_ap, tAnd_app, tOr_app, ite_ap, eAnd_ap, eOr_ap, e3_app, eIf_ap, brk_ap, brk'_ap, ite_bl, ite_bo, ite_tb, ite_to, ↓reduceIte, Bool.false_eq_true, Bool.not_true, Bool.not_false, aN_ap, aC_ap, eT_ap, eL_ap, fL_ap, eB1_ap, eIsi_ap, eIsiA_ap, e1n_ap, oS_ap, eSl_ap, eCall_ap, fCall_ap, eCall1_ap, eOx_ap, eDGet_ap, eDSort_ap, iS_ap, iR1_ap, iR2_ap, iE_ap, iZ_ap, gN_ap, gT2, gT3, sSeq_ap, sNext_ap, sExpr_ap, sRet_ap, sRetF_ap, sIf_ap, sAsg_ap, sPar_ap, sParD_ap, sPut_ap, sDPut_ap, sBind_ap, sOwn_ap, sApp_ap, sRetO_ap, eSortSet_ap, sFor_ap, sBag_ap, finB_2, own0_ap, fin0_0, fin1_0, fin0_1, fin1_1, fin0_2, fin1_2, fin0_3, fin1_3, fin0_4, fin1_4, fin0_5, fin1_5, fin0_6, fin1_6, fin0_7, fin1_7, fin0_8, fin1_8, dI0_ap, dAdd_ii, dLen_t, dLen_l, dTuple_l, dTuple_t, dList_l, dList_t, dMax_ii, dMin_ii, dIx_t, dIx_l, atI_0, atI_1, atI_2, atI_3, dSl_t, dSl_l, dSl_s, dNe_ii, dEq_ii, ifz, ifz', Option.map_some, List.length_cons, List.length_nil, List.length_append, List.length_map, zl0, zm0, zl1, zm1, zl2, zm2, zl3, zm3, zl4, zm4, zl5, zm5, zl6, zm6, zl7, zm7, zl8, zm8, zl9, zm9, zl10, zm10, zl11, zm11, zl12, zm12, zl13, zm13, zl14, zm14, zl15, zm15, zl16, zm16, Nat.zero_add, Nat.reduceAdd, Int.reduceAdd, Int.reduceSub, Int.reduceMul, Int.reduceNeg, Int.reduceEq, Int.reduceLE, Int.reduceLT, Int.reduceToNat, Int.reducePow, decide_true, decide_false, cn0, cn1, cn2, cn3, cn4, cn5, cn6, cn7, cn8, cn9, cn10, cn11, cn12, List.set_cons_zero, List.set_cons_succ, tn0, tn1, tn2, tn3, tn4, tn5, tn6, tn7, tn8, eLn_ap, tLn_ap, lnd_nil, lnd_cons, lend_ow, lend_dc, lend_un, lend_vl, scD_bl, scD_int, scD_non, scD_str, sParL_ap, frz_ap, chL_ap, chK_ap, chLt_ap, chKt_ap, asB_ap]
      -- the last step
      have fin : ∀ (b' : List D) (lo hi : Int) (c6 c7 c8 : C), Bag (k + 6 * r.length) b' → 0 ≤ lo → lo ≤ hi → hi ≤ ws.length → (way ≤ 0 → lo ≤ (num xs t : Int) ∧ (num xs t : Int) ≤ hi) →
          ∃ b ps' c6' c7' c8' c9 c10, Bag (k + 6 * r.length) b ∧ [C.ow true b', .vl (wsD ws), .vl (.int end_), .vl (.int way), .vl (xsD xs), .dc false (putD (tbl ps) t (.tup [.int t, .int lo, .int hi])), c6, c7, c8, .vl (.int lo), .vl (.int hi)] = [C.ow true b, .vl (wsD ws), .vl (.int end_), .vl (.int way), .vl (xsD xs), .dc false (tbl ps'), c6', c7', c8', c9, c10] ∧ ps'.length + r.length ≤ 6
            ∧ (∀ p ∈ ps', TOk ws.length p ∧ p.1 ≤ end_ ∧ (way ≤ 0 → p.2.1 ≤ (num xs p.1 : Int) ∧ (num xs p.1 : Int) ≤ p.2.2)) ∧ (ps'.map (·.1)).Nodup := by
        intro b' lo hi c6 c7 c8 hb' q0 q1 q2 q3
        obtain ⟨qs, z1, z2, z3, z4⟩ := putD_tbl ps (t, lo, hi) hps ⟨⟨t0, by simp only []; omega, q0, q1, q2⟩, by simp only []; omega, q3⟩ hnd
        have z1' : putD (tbl ps) t (.tup [.int t, .int lo, .int hi]) = tbl qs := z1
        exact ⟨b', qs, _, _, _, _, _, hb', by rw [z1'], by omega, z2, z3⟩
      have hsz : (tbl ps).length < sizeLine := by unfold tbl sizeLine; rw [List.length_map]; omega
      have go1 : ∀ c9 c10 : C, ∃ S2, gN 6 (D.int (0 + (x : Int))) [.ow true b, .vl (wsD ws), .vl (.int end_), .vl (.int way), .vl (xsD xs), .dc false (tbl ps), c6, c7, c8, c9, c10] = some S2 ∧ S2 = [.ow true b, .vl (wsD ws), .vl (.int end_), .vl (.int way), .vl (xsD xs), .dc false (tbl ps), .vl (.int (0 + (x : Int))), c7, c8, c9, c10] := fun c9 c10 => ⟨_, rfl, rfl⟩
      obtain ⟨S2, g1, rfl⟩ := go1 c9 c10
      refine ⟨_, g1, ?_⟩
      have elo : max 0 ((num xs t : Int) - u) ≤ min (ws.length : Int) ((num xs t : Int) + v) := by omega
      by_cases hway : 0 < way
      · obtain ⟨c, b4, e4, d0, d1, hb4⟩ := take_ok (k := k + 6 * r.length + 2) (m := 2) hb3 (by omega) (by omega)
        by_cases hc : c = 0
        · obtain ⟨lo, b5, e5, lo0, lo1, hb5⟩ := take_ok (k := k + 6 * r.length + 1) (m := (ws.length : Int) + 1) hb4 (by omega) (by omega)
          obtain ⟨hi, b6, e6, hi0, hi1, hb6⟩ := take_ok (k := k + 6 * r.length) (m := (ws.length : Int) + 1 - lo) hb5 (by omega) (by omega)
          refine ⟨_, .inl ?_, fin b6 lo (lo + hi) (.vl (.int (0 + (x : Int)))) (.vl (.int t)) (.vl (.int (num xs t))) hb6 lo0 (by omega) (by omega) (fun q => by omega)⟩
          unfold L__law_tallies_1
          simp only [vls_nil, vls_cons, uns_zero, uns_succ, gt_zero, gt_succ, st_zero, st_succ, bnd_ap, ret_ap, lift_some, eC_ap, eV_ap, e2_ap, eB_ap, eNot_ap, tNot_ap, tAnd_app, tOr_app, ite_ap, eAnd_ap, eOr_ap, e3_app, eIf_ap, brk_ap, brk'_ap, ite_bl, ite_bo, ite_tb, ite_to, ↓reduceIte, Bool.false_eq_true, Bool.not_true, Bool.not_false, aN_ap, aC_ap, eT_ap, eL_ap, fL_ap, eB1_ap, eIsi_ap, eIsiA_ap, e1n_ap, oS_ap, eSl_ap, eCall_ap, fCall_ap, eCall1_ap, eOx_ap, eDGet_ap, eDSort_ap, iS_ap, iR1_ap, iR2_ap, iE_ap, iZ_ap, gN_ap, gT2, gT3, sSeq_ap, sNext_ap, sExpr_ap, sRet_ap, sRetF_ap, sIf_ap, sAsg_ap, sPar_ap, sParD_ap, sPut_ap, sDPut_ap, sBind_ap, sOwn_ap, sApp_ap, sRetO_ap, eSortSet_ap, sFor_ap, sBag_ap, finB_2, own0_ap, fin0_0, fin1_0, fin0_1, fin1_1, fin0_2, fin1_2, fin0_3, fin1_3, fin0_4, fin1_4, fin0_5, fin1_5, fin0_6, fin1_6, fin0_7, fin1_7, fin0_8, fin1_8, dI0_ap, dAdd_ii, dLen_t, dLen_l, dTuple_l, dTuple_t, dList_l, dList_t, dMax_ii, dMin_ii, dIx_t, dIx_l, atI_0, atI_1, atI_2, atI_3, dSl_t, dSl_l, dSl_s, dNe_ii, dEq_ii, ifz, ifz', Option.map_some, List.length_cons, List.length_nil, List.length_append, List.length_map, zl0, zm0, zl1, zm1, zl2, zm2, zl3, zm3, zl4, zm4, zl5, zm5, zl6, zm6, zl7, zm7, zl8, zm8, zl9, zm9, zl10, zm10, zl11, zm11, zl12, zm12, zl13, zm13, zl14, zm14, zl15, zm15, zl16, zm16, Nat.zero_add, Nat.reduceAdd, Int.reduceAdd, Int.reduceSub, Int.reduceMul, Int.reduceNeg, Int.reduceEq, Int.reduceLE, Int.reduceLT, Int.reduceToNat, Int.reducePow, decide_true, decide_false, cn0, cn1, cn2, cn3, cn4, cn5, cn6, cn7, cn8, cn9, cn10, cn11, cn12, List.set_cons_zero, List.set_cons_succ, tn0, tn1, tn2, tn3, tn4, tn5, tn6, tn7, tn8, eLn_ap, tLn_ap, lnd_nil, lnd_cons, lend_ow, lend_dc, lend_un, lend_vl, scD_bl, scD_int, scD_non, scD_str, sParL_ap, frz_ap, chL_ap, chK_ap, chLt_ap, chKt_ap, asB_ap, e1, e2, e3, e4, e5, e6, en, ew, decide_eq_true hway, decide_eq_true hc, hsz]
        · refine ⟨_, .inl ?_, fin b4 (max 0 ((num xs t : Int) - u)) (min (ws.length : Int) ((num xs t : Int) + v)) (.vl (.int (0 + (x : Int)))) (.vl (.int t)) (.vl (.int (num xs t))) (hb4.le (by omega)) (by omega) elo (by omega) (fun q => by omega)⟩
          unfold L__law_tallies_1
          simp only [vls_nil, vls_cons, uns_zero, uns_succ, gt_zero, gt_succ, st_zero, st_succ, bnd_ap, ret_ap, lift_some, eC_ap, eV_ap, e2_ap, eB_ap, eNot_ap, tNot_ap, tAnd_app, tOr_app, ite_ap, eAnd_ap, eOr_ap, e3_app, eIf_ap, brk_ap, brk'_ap, ite_bl, ite_bo, ite_tb, ite_to, ↓reduceIte, Bool.false_eq_true, Bool.not_true, Bool.not_false, aN_ap, aC_ap, eT_ap, eL_ap, fL_ap, eB1_ap, eIsi_ap, eIsiA_ap, e1n_ap, oS_ap, eSl_ap, eCall_ap, fCall_ap, eCall1_ap, eOx_ap, eDGet_ap, eDSort_ap, iS_ap, iR1_ap, iR2_ap, iE_ap, iZ_ap, gN_ap, gT2, gT3, sSeq_ap, sNext_ap, sExpr_ap, sRet_ap, sRetF_ap, sIf_ap, sAsg_ap, sPar_ap, sParD_ap, sPut_ap, sDPut_ap, sBind_ap, sOwn_ap, sApp_ap, sRetO_ap, eSortSet_ap, sFor_ap, sBag_ap, finB_2, own0_ap, fin0_0, fin1_0, fin0_1, fin1_1, fin0_2, fin1_2, fin0_3, fin1_3, fin0_4, fin1_4, fin0_5, fin1_5, fin0_6, fin1_6, fin0_7, fin1_7, fin0_8, fin1_8, dI0_ap, dAdd_ii, dLen_t, dLen_l, dTuple_l, dTuple_t, dList_l, dList_t, dMax_ii, dMin_ii, dIx_t, dIx_l, atI_0, atI_1, atI_2, atI_3, dSl_t, dSl_l, dSl_s, dNe_ii, dEq_ii, ifz, ifz', Option.map_some, List.length_cons, List.length_nil, List.length_append, List.length_map, zl0, zm0, zl1, zm1, zl2, zm2, zl3, zm3, zl4, zm4, zl5, zm5, zl6, zm6, zl7, zm7, zl8, zm8, zl9, zm9, zl10, zm10, zl11, zm11, zl12, zm12, zl13, zm13, zl14, zm14, zl15, zm15, zl16, zm16, Nat.zero_add, Nat.reduceAdd, Int.reduceAdd, Int.reduceSub, Int.reduceMul, Int.reduceNeg, Int.reduceEq, Int.reduceLE, Int.reduceLT, Int.reduceToNat, Int.reducePow, decide_true, decide_false, cn0, cn1, cn2, cn3, cn4, cn5, cn6, cn7, cn8, cn9, cn10, cn11, cn12, List.set_cons_zero, List.set_cons_succ, tn0, tn1, tn2, tn3, tn4, tn5, tn6, tn7, tn8, eLn_ap, tLn_ap, lnd_nil, lnd_cons, lend_ow, lend_dc, lend_un, lend_vl, scD_bl, scD_int, scD_non, scD_str, sParL_ap, frz_ap, chL_ap, chK_ap, chLt_ap, chKt_ap, asB_ap, e1, e2, e3, e4, en, ew, decide_eq_true hway, decide_eq_false hc, hsz]
      · refine ⟨_, .inl ?_, fin b3 (max 0 ((num xs t : Int) - u)) (min (ws.length : Int) ((num xs t : Int) + v)) (.vl (.int (0 + (x : Int)))) (.vl (.int t)) (.vl (.int (num xs t))) (hb3.le (by omega)) (by omega) elo (by omega) (fun q => by omega)⟩
        unfold L__law_tallies_1
        simp only [vls_nil, vls_cons, uns_zero, uns_succ, gt_zero, gt_succ, st_zero, st_succ, bnd_ap, ret_ap, lift_some, eC_ap, eV_ap, e2_ap, eB_ap, eNot_ap, tNot_ap, tAnd_app, tOr_app, ite_ap, eAnd_ap, eOr_ap, e3_app, eIf_ap, brk_ap, brk'_ap, ite_bl, ite_bo, ite_tb, ite_to, ↓reduceIte, Bool.false_eq_true, Bool.not_true, Bool.not_false, aN_ap, aC_ap, eT_ap, eL_ap, fL_ap, eB1_ap, eIsi_ap, eIsiA_ap, e1n_ap, oS_ap, eSl_ap, eCall_ap, fCall_ap, eCall1_ap, eOx_ap, eDGet_ap, eDSort_ap, iS_ap, iR1_ap, iR2_ap, iE_ap, iZ_ap, gN_ap, gT2, gT3, sSeq_ap, sNext_ap, sExpr_ap, sRet_ap, sRetF_ap, sIf_ap, sAsg_ap, sPar_ap, sParD_ap, sPut_ap, sDPut_ap, sBind_ap, sOwn_ap, sApp_ap, sRetO_ap, eSortSet_ap, sFor_ap, sBag_ap, finB_2, own0_ap, fin0_0, fin1_0, fin0_1, fin1_1, fin0_2, fin1_2, fin0_3, fin1_3, fin0_4, fin1_4, fin0_5, fin1_5, fin0_6, fin1_6, fin0_7, fin1_7, fin0_8, fin1_8, dI0_ap, dAdd_ii, dLen_t, dLen_l, dTuple_l, dTuple_t, dList_l, dList_t, dMax_ii, dMin_ii, dIx_t, dIx_l, atI_0, atI_1, atI_2, atI_3, dSl_t, dSl_l, dSl_s, dNe_ii, dEq_ii, ifz, ifz', Option.map_some, List.length_cons, List.length_nil, List.length_append, List.length_map, zl0, zm0, zl1, zm1, zl2, zm2, zl3, zm3, zl4, zm4, zl5, zm5, zl6, zm6, zl7, zm7, zl8, zm8, zl9, zm9, zl10, zm10, zl11, zm11, zl12, zm12, zl13, zm13, zl14, zm14, zl15, zm15, zl16, zm16, Nat.zero_add, Nat.reduceAdd, Int.reduceAdd, Int.reduceSub, Int.reduceMul, Int.reduceNeg, Int.reduceEq, Int.reduceLE, Int.reduceLT, Int.reduceToNat, Int.reducePow, decide_true, decide_false, cn0, cn1, cn2, cn3, cn4, cn5, cn6, cn7, cn8, cn9, cn10, cn11, cn12, List.set_cons_zero, List.set_cons_succ, tn0, tn1, tn2, tn3, tn4, tn5, tn6, tn7, tn8, eLn_ap, tLn_ap, lnd_nil, lnd_cons, lend_ow, lend_dc, lend_un, lend_vl, scD_bl, scD_int, scD_non, scD_str, sParL_ap, frz_ap, chL_ap, chK_ap, chLt_ap, chKt_ap, asB_ap, e1, e2, e3, en, ew, decide_eq_false hway, hsz])
  obtain ⟨S', e, b, ps, c6, c7, c8, c9, c10, hb', rfl, hl, hps, hnd⟩ := hgo
  rw [List.length_nil] at hb' hl
  have hk : (tbl ps).map (·.1) = ps.map (·.1) := by unfold tbl; rw [List.map_map]; rfl
  have hp := isort_perm (ps.map (·.1))
  obtain ⟨ts, z1, z2, z3⟩ := look_tbl ps (isort (ps.map (·.1))) fun k hk => hp.mem_iff.mp hk
  have hlt : ts.length = ps.length := by
    have := congrArg List.length z2
    rw [List.length_map, hp.length_eq, List.length_map] at this
    exact this
  have ec : C__law_tallies_1 [.ow true b, .vl (wsD ws), .vl (.int end_), .vl (.int way), .vl (xsD xs), .dc false (tbl ps), c6, c7, c8, c9, c10] = some (.ok (.lst (ts.map tD)) (rs [.ow true b, .vl (wsD ws), .vl (.int end_), .vl (.int way), .vl (xsD xs), .dc false (tbl ps), c6, c7, c8, c9, c10] [7] (wp [.ow true b, .vl (wsD ws), .vl (.int end_), .vl (.int way), .vl (xsD xs), .dc false (tbl ps), c6, c7, c8, c9, c10] [7]))) := by
    rw [← z1]
    unfold C__law_tallies_1
    refine lcE_map (enc := D.int) (l := isort (ps.map (·.1))) (S1 := [.ow true b, .vl (wsD ws), .vl (.int end_), .vl (.int way), .vl (xsD xs), .dc false (tbl ps), c6, c7, c8, c9, c10]) (fun k => (getD (tbl ps) k).getD .non) ?_ ?_ ?_ rfl
    · have hlt : (ps.map (·.1)).length < 64 := by rw [List.length_map]; omega
      have h64 : ps.length < 64 := by omega
      simp only [vls_nil, vls_cons, uns_zero, uns_succ, gt_zero, gt_succ, st_zero, st_succ, bnd_ap, ret_ap, lift_some, eC_ap, eV_ap, e2_ap, eB_ap, eNot_ap, tNot_ap, tAnd_app, tOr_app, ite_ap, eAnd_ap, eOr_ap, e3_app, eIf_ap, brk_ap, brk'_ap, ite_bl, ite_bo, ite_tb, ite_to, ↓reduceIte, Bool.false_eq_true, Bool.not_true, Bool.not_false, aN_ap, aC_ap, eT_ap, eL_ap, fL_ap, eB1_ap, eIsi_ap, eIsiA_ap, e1n_ap, oS_ap, eSl_ap, eCall_ap, fCall_ap, eCall1_ap, eOx_ap, eDGet_ap, eDSort_ap, iS_ap, iR1_ap, iR2_ap, iE_ap, iZ_ap, gN_ap, gT2, gT3, sSeq_ap, sNext_ap, sExpr_ap, sRet_ap, sRetF_ap, sIf_ap, sAsg_ap, sPar_ap, sParD_ap, sPut_ap, sDPut_ap, sBind_ap, sOwn_ap, sApp_ap, sRetO_ap, eSortSet_ap, sFor_ap, sBag_ap, finB_2, own0_ap, fin0_0, fin1_0, fin0_1, fin1_1, fin0_2, fin1_2, fin0_3, fin1_3, fin0_4, fin1_4, fin0_5, fin1_5, fin0_6, fin1_6, fin0_7, fin1_7, fin0_8, fin1_8, dI0_ap, dAdd_ii, dLen_t, dLen_l, dTuple_l, dTuple_t, dList_l, dList_t, dMax_ii, dMin_ii, dIx_t, dIx_l, atI_0, atI_1, atI_2, atI_3, dSl_t, dSl_l, dSl_s, dNe_ii, dEq_ii, ifz, ifz', Option.map_some, List.length_cons, List.length_nil, List.length_append, List.length_map, zl0, zm0, zl1, zm1, zl2, zm2, zl3, zm3, zl4, zm4, zl5, zm5, zl6, zm6, zl7, zm7, zl8, zm8, zl9, zm9, zl10, zm10, zl11, zm11, zl12, zm12, zl13, zm13, zl14, zm14, zl15, zm15, zl16, zm16, Nat.zero_add, Nat.reduceAdd, Int.reduceAdd, Int.reduceSub, Int.reduceMul, Int.reduceNeg, Int.reduceEq, Int.reduceLE, Int.reduceLT, Int.reduceToNat, Int.reducePow, decide_true, decide_false, cn0, cn1, cn2, cn3, cn4, cn5, cn6, cn7, cn8, cn9, cn10, cn11, cn12, List.set_cons_zero, List.set_cons_succ, tn0, tn1, tn2, tn3, tn4, tn5, tn6, tn7, tn8, eLn_ap, tLn_ap, lnd_nil, lnd_cons, lend_ow, lend_dc, lend_un, lend_vl, scD_bl, scD_int, scD_non, scD_str, sParL_ap, frz_ap, chL_ap, chK_ap, chLt_ap, chKt_ap, asB_ap, hk, h64]
    · rw [hp.length_eq, List.length_map]; omega
    · intro k hk'
      refine ⟨_, rfl, ?_, rfl⟩
      rcases getD_tbl ps k with ⟨h1, _⟩ | ⟨p, h1, h2, h3⟩
      · obtain ⟨p, hp', rfl⟩ := List.mem_map.mp (hp.mem_iff.mp hk')
        exact absurd rfl (h1 p hp')
      · simp only [wp, vls_nil, vls_cons, uns_zero, uns_succ, gt_zero, gt_succ, st_zero, st_succ, bnd_ap, ret_ap, lift_some, eC_ap, eV_ap, e2_ap, eB_ap, eNot_ap, tNot_ap, tAnd_app, tOr_app, ite_ap, eAnd_ap, eOr_ap, e3_app, eIf_ap, brk_ap, brk'_ap, ite_bl, ite_bo, ite_tb, ite_to, ↓reduceIte, Bool.false_eq_true, Bool.not_true, Bool.not_false, aN_ap, aC_ap, eT_ap, eL_ap, fL_ap, eB1_ap, eIsi_ap, eIsiA_ap, e1n_ap, oS_ap, eSl_ap, eCall_ap, fCall_ap, eCall1_ap, eOx_ap, eDGet_ap, eDSort_ap, iS_ap, iR1_ap, iR2_ap, iE_ap, iZ_ap, gN_ap, gT2, gT3, sSeq_ap, sNext_ap, sExpr_ap, sRet_ap, sRetF_ap, sIf_ap, sAsg_ap, sPar_ap, sParD_ap, sPut_ap, sDPut_ap, sBind_ap, sOwn_ap, sApp_ap, sRetO_ap, eSortSet_ap, sFor_ap, sBag_ap, finB_2, own0_ap, fin0_0, fin1_0, fin0_1, fin1_1, fin0_2, fin1_2, fin0_3, fin1_3, fin0_4, fin1_4, fin0_5, fin1_5, fin0_6, fin1_6, fin0_7, fin1_7, fin0_8, fin1_8, dI0_ap, dAdd_ii, dLen_t, dLen_l, dTuple_l, dTuple_t, dList_l, dList_t, dMax_ii, dMin_ii, dIx_t, dIx_l, atI_0, atI_1, atI_2, atI_3, dSl_t, dSl_l, dSl_s, dNe_ii, dEq_ii, ifz, ifz', Option.map_some, List.length_cons, List.length_nil, List.length_append, List.length_map, zl0, zm0, zl1, zm1, zl2, zm2, zl3, zm3, zl4, zm4, zl5, zm5, zl6, zm6, zl7, zm7, zl8, zm8, zl9, zm9, zl10, zm10, zl11, zm11, zl12, zm12, zl13, zm13, zl14, zm14, zl15, zm15, zl16, zm16, Nat.zero_add, Nat.reduceAdd, Int.reduceAdd, Int.reduceSub, Int.reduceMul, Int.reduceNeg, Int.reduceEq, Int.reduceLE, Int.reduceLT, Int.reduceToNat, Int.reducePow, decide_true, decide_false, cn0, cn1, cn2, cn3, cn4, cn5, cn6, cn7, cn8, cn9, cn10, cn11, cn12, List.set_cons_zero, List.set_cons_succ, tn0, tn1, tn2, tn3, tn4, tn5, tn6, tn7, tn8, eLn_ap, tLn_ap, lnd_nil, lnd_cons, lend_ow, lend_dc, lend_un, lend_vl, scD_bl, scD_int, scD_non, scD_str, sParL_ap, frz_ap, chL_ap, chK_ap, chLt_ap, chKt_ap, asB_ap, h3, Option.getD_some]
  refine ⟨ts, b, xs, ?_, hb', ⟨by omega, fun t ht => (hps t (z3 t ht)).1, ?_⟩, fun t ht => (hps t (z3 t ht)).2.1, hx, fun hway => ?_⟩
  · unfold m__law_tallies b__law_tallies
    have hn : -1000000000 ≤ n ∧ n ≤ 1000000000 := by omega
    rw [show tbl [] = [] from rfl] at e
    simp only [vls_nil, vls_cons, uns_zero, uns_succ, gt_zero, gt_succ, st_zero, st_succ, bnd_ap, ret_ap, lift_some, eC_ap, eV_ap, e2_ap, eB_ap, eNot_ap, tNot_ap, tAnd_app, tOr_app, ite_ap, eAnd_ap, eOr_ap, e3_app, eIf_ap, brk_ap, brk'_ap, ite_bl, ite_bo, ite_tb, ite_to, ↓reduceIte, Bool.false_eq_true, Bool.not_true, Bool.not_false, aN_ap, aC_ap, eT_ap, eL_ap, fL_ap, eB1_ap, eIsi_ap, eIsiA_ap, e1n_ap, oS_ap, eSl_ap, eCall_ap, fCall_ap, eCall1_ap, eOx_ap, eDGet_ap, eDSort_ap, iS_ap, iR1_ap, iR2_ap, iE_ap, iZ_ap, gN_ap, gT2, gT3, sSeq_ap, sNext_ap, sExpr_ap, sRet_ap, sRetF_ap, sIf_ap, sAsg_ap, sPar_ap, sParD_ap, sPut_ap, sDPut_ap, sBind_ap, sOwn_ap, sApp_ap, sRetO_ap, eSortSet_ap, sFor_ap, sBag_ap, finB_2, own0_ap, fin0_0, fin1_0, fin0_1, fin1_1, fin0_2, fin1_2, fin0_3, fin1_3, fin0_4, fin1_4, fin0_5, fin1_5, fin0_6, fin1_6, fin0_7, fin1_7, fin0_8, fin1_8, dI0_ap, dAdd_ii, dLen_t, dLen_l, dTuple_l, dTuple_t, dList_l, dList_t, dMax_ii, dMin_ii, dIx_t, dIx_l, atI_0, atI_1, atI_2, atI_3, dSl_t, dSl_l, dSl_s, dNe_ii, dEq_ii, ifz, ifz', Option.map_some, List.length_cons, List.length_nil, List.length_append, List.length_map, zl0, zm0, zl1, zm1, zl2, zm2, zl3, zm3, zl4, zm4, zl5, zm5, zl6, zm6, zl7, zm7, zl8, zm8, zl9, zm9, zl10, zm10, zl11, zm11, zl12, zm12, zl13, zm13, zl14, zm14, zl15, zm15, zl16, zm16, Nat.zero_add, Nat.reduceAdd, Int.reduceAdd, Int.reduceSub, Int.reduceMul, Int.reduceNeg, Int.reduceEq, Int.reduceLE, Int.reduceLT, Int.reduceToNat, Int.reducePow, decide_true, decide_false, cn0, cn1, cn2, cn3, cn4, cn5, cn6, cn7, cn8, cn9, cn10, cn11, cn12, List.set_cons_zero, List.set_cons_succ, tn0, tn1, tn2, tn3, tn4, tn5, tn6, tn7, tn8, eLn_ap, tLn_ap, lnd_nil, lnd_cons, lend_ow, lend_dc, lend_un, lend_vl, scD_bl, scD_int, scD_non, scD_str, sParL_ap, frz_ap, chL_ap, chK_ap, chLt_ap, chKt_ap, asB_ap, e0, e1, rg1_ok hn.1 hn.2, rangeL, e, ec, rs, wp]
    rfl
  · have := strict_of (isort_sorted (ps.map (·.1))) (hp.nodup_iff.mpr hnd)
    rw [← z2, List.pairwise_map] at this
    exact this
  · unfold keptT
    rw [List.all_eq_true]
    intro t ht
    obtain ⟨a1, a2⟩ := (hps t (z3 t ht)).2.2 hway
    rw [decide_eq_true a1, decide_eq_true a2]; rfl
theorem law_well_ok {n c : Int} (h0 : 0 ≤ c) (h1 : c ≤ 1000000) : ∃ l, m__law_well [.int n, .int c] = some (.ro l) ∧ Bag 100000000000000000 l := by
  have e1 : dPow (.int 10) (.int 18) = some (.int 1000000000000000000) := by rw [dPow_ap (by decide) (by decide) (by decide)]; rfl
  have e2 : dMod (.int n) (.int 2305843009213693951) = some (.int (n % 2305843009213693951)) := dMod_ap (by decide)
  have r1 := Int.emod_nonneg n (b := 2305843009213693951) (by decide)
  have r2 := Int.emod_lt_of_pos n (b := 2305843009213693951) (by decide)
  unfold m__law_well b__law_well
  by_cases q : 1000000000000000000 ≤ n
  · refine ⟨[.int (n - 1000000000000000000), .int (n % 2305843009213693951), .int c], ?_, ⟨_, _, _, rfl, by omega, r1, r2, h0, by omega⟩⟩
    simp only [vls_nil, vls_cons, uns_zero, uns_succ, gt_zero, gt_succ, st_zero, st_succ, bnd_ap, ret_ap, lift_some, eC_ap, eV_ap, e2_ap, eB_ap, eNot_ap, tNot_ap, tAnd_app, tOr_app, ite_ap, eAnd_ap, eOr_ap, e3_app, eIf_ap, brk_ap, brk'_ap, ite_bl, ite_bo, ite_tb, ite_to, ↓reduceIte, Bool.false_eq_true, Bool.not_true, Bool.not_false, aN_ap, aC_ap, eT_ap, eL_ap, fL_ap, eB1_ap, eIsi_ap, eIsiA_ap, e1n_ap, oS_ap, eSl_ap, eCall_ap, fCall_ap, eCall1_ap, eOx_ap, eDGet_ap, eDSort_ap, iS_ap, iR1_ap, iR2_ap, iE_ap, iZ_ap, gN_ap, gT2, gT3, sSeq_ap, sNext_ap, sExpr_ap, sRet_ap, sRetF_ap, sIf_ap, sAsg_ap, sPar_ap, sParD_ap, sPut_ap, sDPut_ap, sBind_ap, sOwn_ap, sApp_ap, sRetO_ap, eSortSet_ap, sFor_ap, sBag_ap, finB_2, own0_ap, fin0_0, fin1_0, fin0_1, fin1_1, fin0_2, fin1_2, fin0_3, fin1_3, fin0_4, fin1_4, fin0_5, fin1_5, fin0_6, fin1_6, fin0_7, fin1_7, fin0_8, fin1_8, dI0_ap, dAdd_ii, dLen_t, dLen_l, dTuple_l, dTuple_t, dList_l, dList_t, dMax_ii, dMin_ii, dIx_t, dIx_l, atI_0, atI_1, atI_2, atI_3, dSl_t, dSl_l, dSl_s, dNe_ii, dEq_ii, ifz, ifz', Option.map_some, List.length_cons, List.length_nil, List.length_append, List.length_map, zl0, zm0, zl1, zm1, zl2, zm2, zl3, zm3, zl4, zm4, zl5, zm5, zl6, zm6, zl7, zm7, zl8, zm8, zl9, zm9, zl10, zm10, zl11, zm11, zl12, zm12, zl13, zm13, zl14, zm14, zl15, zm15, zl16, zm16, Nat.zero_add, Nat.reduceAdd, Int.reduceAdd, Int.reduceSub, Int.reduceMul, Int.reduceNeg, Int.reduceEq, Int.reduceLE, Int.reduceLT, Int.reduceToNat, Int.reducePow, decide_true, decide_false, cn0, cn1, cn2, cn3, cn4, cn5, cn6, cn7, cn8, cn9, cn10, cn11, cn12, List.set_cons_zero, List.set_cons_succ, tn0, tn1, tn2, tn3, tn4, tn5, tn6, tn7, tn8, eLn_ap, tLn_ap, lnd_nil, lnd_cons, lend_ow, lend_dc, lend_un, lend_vl, scD_bl, scD_int, scD_non, scD_str, sParL_ap, frz_ap, chL_ap, chK_ap, chLt_ap, chKt_ap, asB_ap, e1, e2, decide_eq_true q]
  · refine ⟨[.int 0, .int (n % 2305843009213693951), .int c], ?_, ⟨_, _, _, rfl, by omega, r1, r2, h0, by omega⟩⟩
    simp only [vls_nil, vls_cons, uns_zero, uns_succ, gt_zero, gt_succ, st_zero, st_succ, bnd_ap, ret_ap, lift_some, eC_ap, eV_ap, e2_ap, eB_ap, eNot_ap, tNot_ap, tAnd_app, tOr_app, ite_ap, eAnd_ap, eOr_ap, e3_app, eIf_ap, brk_ap, brk'_ap, ite_bl, ite_bo, ite_tb, ite_to, ↓reduceIte, Bool.false_eq_true, Bool.not_true, Bool.not_false, aN_ap, aC_ap, eT_ap, eL_ap, fL_ap, eB1_ap, eIsi_ap, eIsiA_ap, e1n_ap, oS_ap, eSl_ap, eCall_ap, fCall_ap, eCall1_ap, eOx_ap, eDGet_ap, eDSort_ap, iS_ap, iR1_ap, iR2_ap, iE_ap, iZ_ap, gN_ap, gT2, gT3, sSeq_ap, sNext_ap, sExpr_ap, sRet_ap, sRetF_ap, sIf_ap, sAsg_ap, sPar_ap, sParD_ap, sPut_ap, sDPut_ap, sBind_ap, sOwn_ap, sApp_ap, sRetO_ap, eSortSet_ap, sFor_ap, sBag_ap, finB_2, own0_ap, fin0_0, fin1_0, fin0_1, fin1_1, fin0_2, fin1_2, fin0_3, fin1_3, fin0_4, fin1_4, fin0_5, fin1_5, fin0_6, fin1_6, fin0_7, fin1_7, fin0_8, fin1_8, dI0_ap, dAdd_ii, dLen_t, dLen_l, dTuple_l, dTuple_t, dList_l, dList_t, dMax_ii, dMin_ii, dIx_t, dIx_l, atI_0, atI_1, atI_2, atI_3, dSl_t, dSl_l, dSl_s, dNe_ii, dEq_ii, ifz, ifz', Option.map_some, List.length_cons, List.length_nil, List.length_append, List.length_map, zl0, zm0, zl1, zm1, zl2, zm2, zl3, zm3, zl4, zm4, zl5, zm5, zl6, zm6, zl7, zm7, zl8, zm8, zl9, zm9, zl10, zm10, zl11, zm11, zl12, zm12, zl13, zm13, zl14, zm14, zl15, zm15, zl16, zm16, Nat.zero_add, Nat.reduceAdd, Int.reduceAdd, Int.reduceSub, Int.reduceMul, Int.reduceNeg, Int.reduceEq, Int.reduceLE, Int.reduceLT, Int.reduceToNat, Int.reducePow, decide_true, decide_false, cn0, cn1, cn2, cn3, cn4, cn5, cn6, cn7, cn8, cn9, cn10, cn11, cn12, List.set_cons_zero, List.set_cons_succ, tn0, tn1, tn2, tn3, tn4, tn5, tn6, tn7, tn8, eLn_ap, tLn_ap, lnd_nil, lnd_cons, lend_ow, lend_dc, lend_un, lend_vl, scD_bl, scD_int, scD_non, scD_str, sParL_ap, frz_ap, chL_ap, chK_ap, chLt_ap, chKt_ap, asB_ap, e1, e2, decide_eq_false q]
theorem law_bags_ok {ns : List Int} {most : Nat} (hm : most ≤ 63) : ∃ ls, m__law_bags [.scr ns, .int most] = some ls ∧ ∀ l ∈ ls, Bag 100000000000000000 l := by
  have hlen : (ns.take most ++ [0]).length ≤ 64 := by
    rw [List.length_append, List.length_take]; simp only [List.length_cons, List.length_nil]; omega
  obtain ⟨ys, e, hy⟩ := lbGo_all (enc := fun p : Int × Nat => D.tup [.int (p.2 : Int), .int p.1]) (vs := [2, 3]) (g := gT [2, 3]) (te := fCall m__law_well (aC (eV 3) (aC (e2 dMul (eC (.int 977)) (eV 2)) aN)))
    (S := [.vl (.scr ns), .vl (.int most), .un, .un]) (Bag 100000000000000000) ((ns.take most ++ [0]).zipIdx 0) [] (fun x h => (List.not_mem_nil h).elim) (by
      rintro ⟨n, i⟩ hx
      have hi := (List.mem_zipIdx hx).2.1
      obtain ⟨l, e1, hb⟩ := law_well_ok (n := n) (c := 977 * (i : Int)) (by omega) (by omega)
      have e2 : dMul (.int 977) (.int (i : Int)) = some (.int (977 * (i : Int))) := dMul_l (by decide) (by decide)
      refine ⟨_, l, gT2, ?_, hb, rfl⟩
      simp only [vls_nil, vls_cons, uns_zero, uns_succ, gt_zero, gt_succ, st_zero, st_succ, bnd_ap, ret_ap, lift_some, eC_ap, eV_ap, e2_ap, eB_ap, eNot_ap, tNot_ap, tAnd_app, tOr_app, ite_ap, eAnd_ap, eOr_ap, e3_app, eIf_ap, brk_ap, brk'_ap, ite_bl, ite_bo, ite_tb, ite_to, ↓reduceIte, Bool.false_eq_true, Bool.not_true, Bool.not_false, aN_ap, aC_ap, eT_ap, eL_ap, fL_ap, eB1_ap, eIsi_ap, eIsiA_ap, e1n_ap, oS_ap, eSl_ap, eCall_ap, fCall_ap, eCall1_ap, eOx_ap, eDGet_ap, eDSort_ap, iS_ap, iR1_ap, iR2_ap, iE_ap, iZ_ap, gN_ap, gT2, gT3, sSeq_ap, sNext_ap, sExpr_ap, sRet_ap, sRetF_ap, sIf_ap, sAsg_ap, sPar_ap, sParD_ap, sPut_ap, sDPut_ap, sBind_ap, sOwn_ap, sApp_ap, sRetO_ap, eSortSet_ap, sFor_ap, sBag_ap, finB_2, own0_ap, fin0_0, fin1_0, fin0_1, fin1_1, fin0_2, fin1_2, fin0_3, fin1_3, fin0_4, fin1_4, fin0_5, fin1_5, fin0_6, fin1_6, fin0_7, fin1_7, fin0_8, fin1_8, dI0_ap, dAdd_ii, dLen_t, dLen_l, dTuple_l, dTuple_t, dList_l, dList_t, dMax_ii, dMin_ii, dIx_t, dIx_l, atI_0, atI_1, atI_2, atI_3, dSl_t, dSl_l, dSl_s, dNe_ii, dEq_ii, ifz, ifz', Option.map_some, List.length_cons, List.length_nil, List.length_append, List.length_map, zl0, zm0, zl1, zm1, zl2, zm2, zl3, zm3, zl4, zm4, zl5, zm5, zl6, zm6, zl7, zm7, zl8, zm8, zl9, zm9, zl10, zm10, zl11, zm11, zl12, zm12, zl13, zm13, zl14, zm14, zl15, zm15, zl16, zm16, Nat.zero_add, Nat.reduceAdd, Int.reduceAdd, Int.reduceSub, Int.reduceMul, Int.reduceNeg, Int.reduceEq, Int.reduceLE, Int.reduceLT, Int.reduceToNat, Int.reducePow, decide_true, decide_false, cn0, cn1, cn2, cn3, cn4, cn5, cn6, cn7, cn8, cn9, cn10, cn11, cn12, List.set_cons_zero, List.set_cons_succ, tn0, tn1, tn2, tn3, tn4, tn5, tn6, tn7, tn8, eLn_ap, tLn_ap, lnd_nil, lnd_cons, lend_ow, lend_dc, lend_un, lend_vl, scD_bl, scD_int, scD_non, scD_str, sParL_ap, frz_ap, chL_ap, chK_ap, chLt_ap, chKt_ap, asB_ap, e1, e2])
  refine ⟨ys, ?_, hy⟩
  have e0 : dAdd (.lst ((ns.take most).map .int)) (.lst [.int 0]) = some (.lst ((ns.take most ++ [0]).map .int)) := by
    rw [dAdd_ll (by simp only [List.length_map, List.length_take, List.length_cons, List.length_nil]; omega), List.map_append]; rfl
  have e1 : iE (aC (e2 dAdd (eSl (eV 0) (ret none) (oS (eV 1))) (eL (aC (eC (.int 0)) aN))) aN) [.vl (.scr ns), .vl (.int most), .un, .un] = some (.ok (((ns.take most ++ [0]).zipIdx 0).map fun p : Int × Nat => D.tup [.int (p.2 : Int), .int p.1]) [.vl (.scr ns), .vl (.int most), .un, .un]) := by
    have e2 : cutL ns none (some (most : Int)) = ns.take most := by rw [cutL_to (by omega)]; rfl
    simp only [vls_nil, vls_cons, uns_zero, uns_succ, gt_zero, gt_succ, st_zero, st_succ, bnd_ap, ret_ap, lift_some, eC_ap, eV_ap, e2_ap, eB_ap, eNot_ap, tNot_ap, tAnd_app, tOr_app, ite_ap, eAnd_ap, eOr_ap, e3_app, eIf_ap, brk_ap, brk'_ap, ite_bl, ite_bo, ite_tb, ite_to, ↓reduceIte, Bool.false_eq_true, Bool.not_true, Bool.not_false, aN_ap, aC_ap, eT_ap, eL_ap, fL_ap, eB1_ap, eIsi_ap, eIsiA_ap, e1n_ap, oS_ap, eSl_ap, eCall_ap, fCall_ap, eCall1_ap, eOx_ap, eDGet_ap, eDSort_ap, iS_ap, iR1_ap, iR2_ap, iE_ap, iZ_ap, gN_ap, gT2, gT3, sSeq_ap, sNext_ap, sExpr_ap, sRet_ap, sRetF_ap, sIf_ap, sAsg_ap, sPar_ap, sParD_ap, sPut_ap, sDPut_ap, sBind_ap, sOwn_ap, sApp_ap, sRetO_ap, eSortSet_ap, sFor_ap, sBag_ap, finB_2, own0_ap, fin0_0, fin1_0, fin0_1, fin1_1, fin0_2, fin1_2, fin0_3, fin1_3, fin0_4, fin1_4, fin0_5, fin1_5, fin0_6, fin1_6, fin0_7, fin1_7, fin0_8, fin1_8, dI0_ap, dAdd_ii, dLen_t, dLen_l, dTuple_l, dTuple_t, dList_l, dList_t, dMax_ii, dMin_ii, dIx_t, dIx_l, atI_0, atI_1, atI_2, atI_3, dSl_t, dSl_l, dSl_s, dNe_ii, dEq_ii, ifz, ifz', Option.map_some, List.length_cons, List.length_nil, List.length_append, List.length_map, zl0, zm0, zl1, zm1, zl2, zm2, zl3, zm3, zl4, zm4, zl5, zm5, zl6, zm6, zl7, zm7, zl8, zm8, zl9, zm9, zl10, zm10, zl11, zm11, zl12, zm12, zl13, zm13, zl14, zm14, zl15, zm15, zl16, zm16, Nat.zero_add, Nat.reduceAdd, Int.reduceAdd, Int.reduceSub, Int.reduceMul, Int.reduceNeg, Int.reduceEq, Int.reduceLE, Int.reduceLT, Int.reduceToNat, Int.reducePow, decide_true, decide_false, cn0, cn1, cn2, cn3, cn4, cn5, cn6, cn7, cn8, cn9, cn10, cn11, cn12, List.set_cons_zero, List.set_cons_succ, tn0, tn1, tn2, tn3, tn4, tn5, tn6, tn7, tn8, eLn_ap, tLn_ap, lnd_nil, lnd_cons, lend_ow, lend_dc, lend_un, lend_vl, scD_bl, scD_int, scD_non, scD_str, sParL_ap, frz_ap, chL_ap, chK_ap, chLt_ap, chKt_ap, asB_ap, e2, e0, enumL_map]
  have hz : (((ns.take most ++ [0]).zipIdx 0).map fun p : Int × Nat => D.tup [.int (p.2 : Int), .int p.1]).length ≤ 16777216 := by
    rw [List.length_map, List.length_zipIdx]; omega
  unfold m__law_bags b__law_bags lbF
  simp only [finB_2, vls_cons, vls_nil, uns_succ, uns_zero, bnd_ap, e1, ifz hz]
  simp only [wp, vls_nil, vls_cons, uns_zero, uns_succ, gt_zero, gt_succ, st_zero, st_succ, bnd_ap, ret_ap, lift_some, eC_ap, eV_ap, e2_ap, eB_ap, eNot_ap, tNot_ap, tAnd_app, tOr_app, ite_ap, eAnd_ap, eOr_ap, e3_app, eIf_ap, brk_ap, brk'_ap, ite_bl, ite_bo, ite_tb, ite_to, ↓reduceIte, Bool.false_eq_true, Bool.not_true, Bool.not_false, aN_ap, aC_ap, eT_ap, eL_ap, fL_ap, eB1_ap, eIsi_ap, eIsiA_ap, e1n_ap, oS_ap, eSl_ap, eCall_ap, fCall_ap, eCall1_ap, eOx_ap, eDGet_ap, eDSort_ap, iS_ap, iR1_ap, iR2_ap, iE_ap, iZ_ap, gN_ap, gT2, gT3, sSeq_ap, sNext_ap, sExpr_ap, sRet_ap, sRetF_ap, sIf_ap, sAsg_ap, sPar_ap, sParD_ap, sPut_ap, sDPut_ap, sBind_ap, sOwn_ap, sApp_ap, sRetO_ap, eSortSet_ap, sFor_ap, sBag_ap, finB_2, own0_ap, fin0_0, fin1_0, fin0_1, fin1_1, fin0_2, fin1_2, fin0_3, fin1_3, fin0_4, fin1_4, fin0_5, fin1_5, fin0_6, fin1_6, fin0_7, fin1_7, fin0_8, fin1_8, dI0_ap, dAdd_ii, dLen_t, dLen_l, dTuple_l, dTuple_t, dList_l, dList_t, dMax_ii, dMin_ii, dIx_t, dIx_l, atI_0, atI_1, atI_2, atI_3, dSl_t, dSl_l, dSl_s, dNe_ii, dEq_ii, ifz, ifz', Option.map_some, List.length_cons, List.length_nil, List.length_append, List.length_map, zl0, zm0, zl1, zm1, zl2, zm2, zl3, zm3, zl4, zm4, zl5, zm5, zl6, zm6, zl7, zm7, zl8, zm8, zl9, zm9, zl10, zm10, zl11, zm11, zl12, zm12, zl13, zm13, zl14, zm14, zl15, zm15, zl16, zm16, Nat.zero_add, Nat.reduceAdd, Int.reduceAdd, Int.reduceSub, Int.reduceMul, Int.reduceNeg, Int.reduceEq, Int.reduceLE, Int.reduceLT, Int.reduceToNat, Int.reducePow, decide_true, decide_false, cn0, cn1, cn2, cn3, cn4, cn5, cn6, cn7, cn8, cn9, cn10, cn11, cn12, List.set_cons_zero, List.set_cons_succ, tn0, tn1, tn2, tn3, tn4, tn5, tn6, tn7, tn8, eLn_ap, tLn_ap, lnd_nil, lnd_cons, lend_ow, lend_dc, lend_un, lend_vl, scD_bl, scD_int, scD_non, scD_str, sParL_ap, frz_ap, chL_ap, chK_ap, chLt_ap, chKt_ap, asB_ap, e]
theorem pick2 {a b r : Int} (h : 0 ≤ r) (h2 : r < 2) : ∃ w, atI [D.int a, .int b] r = some (.int w) ∧ (w = a ∨ w = b) := by
  have : r = 0 ∨ r = 1 := by omega
  rcases this with rfl | rfl
  · exact ⟨a, atI_0, .inl rfl⟩
  · exact ⟨b, atI_1, .inr rfl⟩
theorem inEs_set {ws : List Win} {xs : List Int} (h : Paired (fun (w : Win) x => w.1 ≤ x ∧ x ≤ w.2) ws xs) : ∀ (a : Nat) (w : Win) (d : D), ws[a]? = some w → inEs ((xs.take a).map .int ++ [d] ++ (xs.drop (a + 1)).map .int) ws = inE d w := by
  have all : ∀ {ws : List Win} {xs : List Int}, Paired (fun (w : Win) x => w.1 ≤ x ∧ x ≤ w.2) ws xs → inEs (xs.map .int) ws = true := by
    intro ws xs h
    induction h with
    | nil => rfl
    | @cons w x _ _ r _ ih =>
      show (inE (.int x) w && inEs _ _) = true
      rw [ih, show inE (.int x) w = true by show (decide (w.1 ≤ x) && decide (x ≤ w.2)) = true; rw [decide_eq_true r.1, decide_eq_true r.2]; rfl]; rfl
  induction h with
  | nil => intro a w d e; cases a <;> cases e
  | @cons w x ws xs r t ih =>
    intro a w' d e
    cases a with
    | zero =>
      cases e
      show (inE d w && inEs (xs.map .int) ws) = _
      rw [all t, Bool.and_true]
    | succ a =>
      show (inE (.int x) w && inEs ((xs.take a).map .int ++ [d] ++ (xs.drop (a + 1)).map .int) ws) = _
      rw [ih a w' d e, show inE (.int x) w = true by show (decide (w.1 ≤ x) && decide (x ≤ w.2)) = true; rw [decide_eq_true r.1, decide_eq_true r.2]; rfl, Bool.true_and]
theorem inW_all {ws : List Win} {xs : List Int} (h : Paired (fun (w : Win) x => w.1 ≤ x ∧ x ≤ w.2) ws xs) : inW xs ws = true := by
  induction h with
  | nil => rfl
  | @cons w x ws xs r _ ih =>
    show ((decide (w.1 ≤ x) && decide (x ≤ w.2)) && inW xs ws) = true
    rw [ih, decide_eq_true r.1, decide_eq_true r.2]; rfl
/-! further rules -/
/-- a loop that returns at the first thing of a kind -/
theorem forGo_find {α : Type} {enc : α → D} {g : GF} {body : SM} (I : List C → Prop) (q : α → Bool) (v : α → D) : ∀ (l : List α) (S : List C), I S →
    (∀ x ∈ l, ∀ S, I S → ∃ S2, g (enc x) S = some S2 ∧ ∃ S3, I S3 ∧ ((q x = true ∧ body S2 = some (.rt (v x) S3)) ∨ (q x = false ∧ (body S2 = some (.nx S3) ∨ body S2 = some (.ct S3))))) →
    ∃ S', I S' ∧ ((∃ x, l.find? q = some x ∧ forGo g body (l.map enc) S = some (.rt (v x) S')) ∨ (l.find? q = none ∧ forGo g body (l.map enc) S = some (.nx S')))
  | [], S, h, _ => ⟨S, h, .inr ⟨rfl, rfl⟩⟩
  | x :: r, S, h, k => by
    obtain ⟨S2, e2, S3, h3, hq⟩ := k x List.mem_cons_self S h
    rw [List.map_cons]
    rcases hq with ⟨q1, e3⟩ | ⟨q1, e3⟩
    · refine ⟨S3, h3, .inl ⟨x, List.find?_cons_of_pos q1, ?_⟩⟩
      unfold forGo
      rw [e2]; simp only [e3]
    · obtain ⟨S', h', e⟩ := forGo_find I q v r S3 h3 fun y hy => k y (List.mem_cons_of_mem _ hy)
      refine ⟨S', h', ?_⟩
      rw [List.find?_cons_of_neg (by simp [q1])]
      have e4 : forGo g body (enc x :: r.map enc) S = forGo g body (r.map enc) S3 := by
        conv => lhs; unfold forGo
        rw [e2]
        rcases e3 with e3 | e3 <;> simp only [e3]
      rw [e4]; exact e
theorem lc2Go_pure {α β : Type} {enc : α → D} {enc1 : β → D} {vs vs1 : List Nat} {g g1 : GF} {fi1 : EM (List D)} {tt1 : EM Bool} {te : EM D} {S : List C} (inner : α → List β) (p1 : α → β → Bool) (v : α → β → D) : ∀ (l : List α) (acc : List D),
    (∀ x ∈ l, ∃ S2, g (enc x) S = some S2 ∧ fi1 S2 = some (.ok ((inner x).map enc1) S2) ∧ (∀ y ∈ inner x, ∃ S3, g1 (enc1 y) (wp S2 vs1) = some S3 ∧ tt1 S3 = some (.ok (p1 x y) S3) ∧ (p1 x y = true → te S3 = some (.ok (v x y) S3)) ∧ wp S3 vs1 = wp S2 vs1) ∧ wp (wp S2 vs1) vs = S) →
    lc2Go vs vs1 g (ret true) fi1 g1 tt1 te (l.map enc) acc S = some (acc ++ l.flatMap fun x => ((inner x).filter (p1 x)).map (v x), S)
  | [], acc, _ => by simp [lc2Go]
  | x :: r, acc, h => by
    obtain ⟨S2, e1, e2, e3, e4⟩ := h x List.mem_cons_self
    have ih := fun acc => lc2Go_pure inner p1 v r acc fun y hy => h y (List.mem_cons_of_mem _ hy)
    rw [List.map_cons]
    unfold lc2Go
    rw [e1]
    simp only [ret_ap, e2, lcGo_pure (p1 x) (v x) (inner x) acc e3, e4]
    rw [ih, List.flatMap_cons, List.append_assoc]
theorem lc2E_pureS {α β : Type} {enc : α → D} {enc1 : β → D} {l : List α} {vs vs1 : List Nat} {fi : EM (List D)} {g g1 : GF} {fi1 : EM (List D)} {tt1 : EM Bool} {te : EM D} {S : List C} (inner : α → List β) (p1 : α → β → Bool) (v : α → β → D) (hf : fi S = some (.ok (l.map enc) S))
    (hz : (l.flatMap fun x => ((inner x).filter (p1 x)).map (v x)).length ≤ 16777216)
    (h : ∀ x ∈ l, ∃ S2, g (enc x) (wp S vs) = some S2 ∧ fi1 S2 = some (.ok ((inner x).map enc1) S2) ∧ (∀ y ∈ inner x, ∃ S3, g1 (enc1 y) (wp S2 vs1) = some S3 ∧ tt1 S3 = some (.ok (p1 x y) S3) ∧ (p1 x y = true → te S3 = some (.ok (v x y) S3)) ∧ wp S3 vs1 = wp S2 vs1) ∧ wp (wp S2 vs1) vs = wp S vs) (hr : rs S vs (wp S vs) = S) :
    lc2E vs vs1 fi g (ret true) fi1 g1 tt1 te S = some (.ok (.lst (l.flatMap fun x => ((inner x).filter (p1 x)).map (v x))) S) := by
  unfold lc2E lc2F
  rw [bnd_ap, bnd_ap, hf]
  simp only [lc2Go_pure inner p1 v l [] h, List.nil_append, ifz hz, hr]
  rfl
/-- a loop that goes through: what it carries is folded -/
theorem forGo_run {α β : Type} {enc : α → D} {g : GF} {body : SM} (f : β → α → β) (I : List α → β → List C → Prop) : ∀ (l : List α) (b : β) (S : List C), I l b S →
    (∀ x r b S, x ∈ l → I (x :: r) b S → ∃ S2, g (enc x) S = some S2 ∧ ∃ S3, (body S2 = some (.nx S3) ∨ body S2 = some (.ct S3)) ∧ I r (f b x) S3) →
    ∃ S', forGo g body (l.map enc) S = some (.nx S') ∧ I [] (l.foldl f b) S'
  | [], b, S, h, _ => ⟨S, rfl, h⟩
  | x :: r, b, S, h, k => by
    obtain ⟨S2, e2, S3, e3, h3⟩ := k x r b S List.mem_cons_self h
    obtain ⟨S', e, h'⟩ := forGo_run f I r (f b x) S3 h3 fun y t c T hm hI => k y t c T (List.mem_cons_of_mem _ hm) hI
    refine ⟨S', ?_, h'⟩
    rw [List.map_cons]
    unfold forGo
    rw [e2]
    rcases e3 with e3 | e3 <;> (simp only [e3]; exact e)
theorem foldl_app {α β : Type} (f : α → List β) : ∀ (l : List α) (acc : List β), l.foldl (fun a x => a ++ f x) acc = acc ++ l.flatMap f
  | [], acc => by simp
  | x :: r, acc => by rw [List.foldl_cons, foldl_app f r, List.flatMap_cons, List.append_assoc]
theorem mxL_some : ∀ l : List Int, l ≠ [] → ∃ m, mxL l = some m
  | [], h => absurd rfl h
  | [x], _ => ⟨x, rfl⟩
  | x :: y :: r, _ => by
    obtain ⟨m, e⟩ := mxL_some (y :: r) (by simp)
    exact ⟨max x m, by show (mxL (y :: r)).map _ = _; rw [e]; rfl⟩
theorem mnL_some : ∀ l : List Int, l ≠ [] → ∃ m, mnL l = some m
  | [], h => absurd rfl h
  | [x], _ => ⟨x, rfl⟩
  | x :: y :: r, _ => by
    obtain ⟨m, e⟩ := mnL_some (y :: r) (by simp)
    exact ⟨min x m, by show (mnL (y :: r)).map _ = _; rw [e]; rfl⟩
theorem dMax_map {α : Type} (f : α → Int) (l : List α) (h : l ≠ []) : ∃ m, dMax [.lst (l.map fun x => D.int (f x))] = some (.int m) ∧ (∃ x ∈ l, f x = m) ∧ ∀ x ∈ l, f x ≤ m := by
  obtain ⟨m, e⟩ := mxL_some (l.map f) (by simpa using h)
  obtain ⟨h1, h2⟩ := mxL_spec e
  refine ⟨m, ?_, ?_, fun x hx => h2 _ (List.mem_map_of_mem hx)⟩
  · show ((toIs (l.map fun x => D.int (f x))).bind fun ns => (mxL ns).map D.int) = _
    rw [toIs_map, Option.bind_some, e]; rfl
  · obtain ⟨x, hx, rfl⟩ := List.mem_map.mp h1
    exact ⟨x, hx, rfl⟩
theorem sFor_go {fi : EM (List D)} {g : GF} {body : SM} {S S' : List C} {ds : List D} (h : fi S = some (.ok ds S')) : sFor fi g body S = forGo g body ds S' := by
  rw [sFor_ap, h]
/-! two tallies are enough -/
def ind (w : Win) (s t : Int) : Nat := if s < w.1 ∧ w.2 ≤ t then 1 else 0
theorem insN_cons (w : Win) (ws : List Win) (s t : Int) : insN (w :: ws) s t = ind w s t + insN ws s t := by
  unfold insN ind
  by_cases h : s < w.1 ∧ w.2 ≤ t
  · rw [if_pos h, List.filter_cons_of_pos (by simp [h.1, h.2]), List.length_cons]; omega
  · rw [if_neg h, List.filter_cons_of_neg (by simp only [Bool.and_eq_true, decide_eq_true_eq]; exact h)]; omega
theorem insN_set : ∀ (ws : List Win) (k : Nat) (w w' : Win) (s t : Int), ws[k]? = some w → insN (ws.set k w') s t + ind w s t = insN ws s t + ind w' s t
  | [], k, w, w', s, t, h => by cases k <;> cases h
  | v :: r, 0, w, w', s, t, h => by
    cases h
    rw [List.set_cons_zero, insN_cons, insN_cons]; omega
  | v :: r, k + 1, w, w', s, t, h => by
    have ih := insN_set r k w w' s t h
    rw [List.set_cons_succ, insN_cons, insN_cons]; omega
theorem ind_super (v : Win) {p p' q q' : Int} (h : p ≤ p') (h2 : q ≤ q') : ind v p q + ind v p' q' ≤ ind v p q' + ind v p' q := by
  unfold ind
  split <;> split <;> split <;> split <;> omega
theorem insN_super (ws : List Win) {p p' q q' : Int} (h : p ≤ p') (h2 : q ≤ q') : insN ws p q + insN ws p' q' ≤ insN ws p q' + insN ws p' q := by
  induction ws with
  | nil => simp [insN]
  | cons v r ih =>
    have := ind_super v h h2
    rw [insN_cons, insN_cons, insN_cons, insN_cons]; omega
theorem insN_super1 {p p' q q' : Int} (h : p ≤ p') (h2 : q ≤ q') : ∀ (ws : List Win) (k : Nat) (w : Win), ws[k]? = some w → p < w.1 → w.2 ≤ q' → w.1 ≤ p' → q < w.2 → insN ws p q + insN ws p' q' + 1 ≤ insN ws p q' + insN ws p' q
  | [], k, w, e, _, _, _, _ => by cases k <;> cases e
  | v :: r, 0, w, e, h3, h4, h5, h6 => by
    cases e
    have := insN_super r h h2
    rw [insN_cons, insN_cons, insN_cons, insN_cons]
    have e1 : ind v p q' = 1 := by unfold ind; rw [if_pos ⟨h3, h4⟩]
    have e2 : ind v p q = 0 := by unfold ind; rw [if_neg (by omega)]
    have e3 : ind v p' q' = 0 := by unfold ind; rw [if_neg (by omega)]
    omega
  | v :: r, k + 1, w, e, h3, h4, h5, h6 => by
    have ih := insN_super1 h h2 r k w e h3 h4 h5 h6
    have := ind_super v h h2
    rw [insN_cons, insN_cons, insN_cons, insN_cons]; omega
/-- no lower bound, with the windows between, exceeds a later upper one -/
def FitG (ws : List Win) (lo hi : List (Int × Int)) : Prop := ∀ p ∈ lo, ∀ q ∈ hi, p.1 ≤ q.1 → p.2 + (insN ws p.1 q.1 : Int) ≤ q.2
theorem uncross {ws : List Win} {lo hi : List (Int × Int)} (hf : FitG ws lo hi) {k : Nat} {w : Win} {c : Int} (hk : ws[k]? = some w) (h1 : w.1 ≤ c) (h2 : c < w.2) : FitG (ws.set k (w.1, c)) lo hi ∨ FitG (ws.set k (c + 1, w.2)) lo hi := by
  by_cases g1 : FitG (ws.set k (w.1, c)) lo hi
  · exact .inl g1
  by_cases g2 : FitG (ws.set k (c + 1, w.2)) lo hi
  · exact .inr g2
  exfalso
  unfold FitG at g1 g2
  simp only [Classical.not_forall] at g1 g2
  obtain ⟨p, hp, q, hq, hpq, e1⟩ := g1
  obtain ⟨p', hp', q', hq', hpq', e2⟩ := g2
  have s1 := insN_set ws k w (w.1, c) p.1 q.1 hk
  have s2 := insN_set ws k w (c + 1, w.2) p'.1 q'.1 hk
  have f1 := hf p hp q hq hpq
  have f2 := hf p' hp' q' hq' hpq'
  have i1 : ind w p.1 q.1 = 0 ∧ ind (w.1, c) p.1 q.1 = 1 := by
    have : ind w p.1 q.1 < ind (w.1, c) p.1 q.1 := by omega
    unfold ind at this ⊢
    split at this <;> split at this <;> simp_all
  have i2 : ind w p'.1 q'.1 = 0 ∧ ind (c + 1, w.2) p'.1 q'.1 = 1 := by
    have : ind w p'.1 q'.1 < ind (c + 1, w.2) p'.1 q'.1 := by omega
    unfold ind at this ⊢
    split at this <;> split at this <;> simp_all
  have j1 : p.1 < w.1 ∧ c ≤ q.1 := by
    have := i1.2; unfold ind at this; split at this
    · assumption
    · cases this
  have j2 : p'.1 < c + 1 ∧ w.2 ≤ q'.1 := by
    have := i2.2; unfold ind at this; split at this
    · assumption
    · cases this
  have j3 : ¬ (p.1 < w.1 ∧ w.2 ≤ q.1) := fun z => by have := i1.1; unfold ind at this; rw [if_pos z] at this; cases this
  have j4 : ¬ (p'.1 < w.1 ∧ w.2 ≤ q'.1) := fun z => by have := i2.1; unfold ind at this; rw [if_pos z] at this; cases this
  have f3 := hf p hp q' hq' (by omega)
  have f4 := hf p' hp' q hq (by omega)
  have := insN_super1 (p := p.1) (p' := p'.1) (q := q.1) (q' := q'.1) (by omega) (by omega) ws k w hk j1.1 j2.2 (by omega) (by omega)
  omega
def width : List Win → Nat
  | [] => 0
  | w :: r => (w.2 - w.1).toNat + width r
theorem width_set : ∀ (ws : List Win) (k : Nat) (w w' : Win), ws[k]? = some w → (w'.2 - w'.1).toNat < (w.2 - w.1).toNat → width (ws.set k w') < width ws
  | [], k, w, w', h, _ => by cases k <;> cases h
  | v :: r, 0, w, w', h, h2 => by
    cases h
    show (w'.2 - w'.1).toNat + width r < (v.2 - v.1).toNat + width r
    omega
  | v :: r, k + 1, w, w', h, h2 => by
    have ih := width_set r k w w' h h2
    show (v.2 - v.1).toNat + width (r.set k w') < (v.2 - v.1).toNat + width r
    omega
/-- the window w' lies in the window w -/
def Sub (w w' : Win) : Prop := w.1 ≤ w'.1 ∧ w'.1 ≤ w'.2 ∧ w'.2 ≤ w.2
theorem paired_set {α β : Type} {R : α → β → Prop} : ∀ {xs : List α} {ys : List β} (k : Nat) {y : β}, Paired R xs ys → (∀ x y', xs[k]? = some x → ys[k]? = some y' → R x y' → R x y) → Paired R xs (ys.set k y)
  | _, _, _, _, .nil, _ => .nil
  | _, _, 0, _, .cons r t, h => .cons (h _ _ rfl rfl r) t
  | _, _, k + 1, _, .cons r t, h => .cons r (paired_set k t h)
theorem paired_self {α : Type} {R : α → α → Prop} : ∀ (xs : List α), (∀ x ∈ xs, R x x) → Paired R xs xs
  | [], _ => .nil
  | x :: r, h => .cons (h x List.mem_cons_self) (paired_self r fun y hy => h y (List.mem_cons_of_mem _ hy))
theorem narrow_all (cuts : List Int) (lo hi : List (Int × Int)) : ∀ (m : Nat) (ws us : List Win), width us = m → Paired Sub ws us → FitG us lo hi → ∃ vs, Paired Sub ws vs ∧ FitG vs lo hi ∧ ∀ w ∈ vs, ∀ c ∈ cuts, ¬ (w.1 ≤ c ∧ c < w.2) := by
  intro m
  induction m using Nat.strongRecOn with
  | ind m ih =>
    intro ws us hm hp hf
    by_cases g : ∀ w ∈ us, ∀ c ∈ cuts, ¬ (w.1 ≤ c ∧ c < w.2)
    · exact ⟨us, hp, hf, g⟩
    simp only [Classical.not_forall] at g
    obtain ⟨w, hw, c, _, hc⟩ := g
    have hc' := Classical.not_not.mp hc
    obtain ⟨k, hk, rfl⟩ := List.getElem_of_mem hw
    have hk' : us[k]? = some us[k] := List.getElem?_eq_getElem hk
    generalize us[k] = w at *
    rcases uncross hf hk' hc'.1 hc'.2 with h | h
    · refine ih _ ?_ ws _ rfl (paired_set k hp fun x y' _ e r => ?_) h
      · rw [← hm]; exact width_set us k w _ hk' (by simp only []; omega)
      · rw [hk'] at e; cases e
        exact ⟨r.1, hc'.1, by have := r.2.2; simp only []; omega⟩
    · refine ih _ ?_ ws _ rfl (paired_set k hp fun x y' _ e r => ?_) h
      · rw [← hm]; exact width_set us k w _ hk' (by simp only []; omega)
      · rw [hk'] at e; cases e
        exact ⟨by have := r.1; simp only []; omega, by simp only []; omega, r.2.2⟩
/-- a time in each window -/
abbrev InWs (ws : List Win) (xs : List Int) : Prop := Paired (fun (w : Win) x => w.1 ≤ x ∧ x ≤ w.2) ws xs
def KeepG (xs : List Int) (lo hi : List (Int × Int)) : Prop := (∀ p ∈ lo, p.2 ≤ (num xs p.1 : Int)) ∧ ∀ q ∈ hi, (num xs q.1 : Int) ≤ q.2
theorem num_cons (x : Int) (xs : List Int) (t : Int) : num (x :: xs) t = (if x ≤ t then 1 else 0) + num xs t := by
  unfold num
  by_cases h : x ≤ t
  · rw [if_pos h, List.filter_cons_of_pos (by simp [h]), List.length_cons]; omega
  · rw [if_neg h, List.filter_cons_of_neg (by simp [h])]; omega
theorem num_ins {ws : List Win} {xs : List Int} (h : InWs ws xs) {s t : Int} (hst : s ≤ t) : num xs s + insN ws s t ≤ num xs t := by
  induction h with
  | nil => simp [num, insN]
  | @cons w x ws xs r _ ih =>
    rw [num_cons, num_cons, insN_cons]
    unfold ind
    split <;> split <;> split <;> omega
theorem fit_of_keep {ws : List Win} {xs : List Int} {lo hi : List (Int × Int)} (h : InWs ws xs) (k : KeepG xs lo hi) : FitG ws lo hi := by
  intro p hp q hq hpq
  have h1 := k.1 p hp
  have h2 := k.2 q hq
  have := num_ins h hpq
  omega
theorem num_apart {ws : List Win} {t : Int} (hc : ∀ w ∈ ws, ¬ (w.1 ≤ t ∧ t < w.2)) (ha : ∀ w ∈ ws, (0 : Int) ≤ w.1 ∧ w.1 ≤ w.2 ∧ w.2 ≤ 1000) : num (ws.map (·.1)) t = insN ws (-1) t ∧ num (ws.map (·.1)) t + insN ws t 1000 = ws.length := by
  induction ws with
  | nil => simp [num, insN]
  | cons w r ih =>
    obtain ⟨i1, i2⟩ := ih (fun v hv => hc v (List.mem_cons_of_mem _ hv)) (fun v hv => ha v (List.mem_cons_of_mem _ hv))
    have h1 := hc w List.mem_cons_self
    have h2 := ha w List.mem_cons_self
    rw [List.map_cons, num_cons, insN_cons, insN_cons, List.length_cons]
    unfold ind
    constructor
    · split <;> split <;> omega
    · split <;> split <;> omega
theorem sub_valid {ws vs : List Win} (h : Paired Sub ws vs) (ha : ∀ w ∈ ws, (0 : Int) ≤ w.1 ∧ w.1 ≤ w.2 ∧ w.2 ≤ 1000) : ∀ w ∈ vs, (0 : Int) ≤ w.1 ∧ w.1 ≤ w.2 ∧ w.2 ≤ 1000 := by
  induction h with
  | nil => intro w hw; cases hw
  | cons r _ ih =>
    intro w hw
    rcases List.mem_cons.mp hw with rfl | hw
    · have := ha _ List.mem_cons_self
      obtain ⟨r1, r2, r3⟩ := r
      omega
    · exact ih (fun v hv => ha v (List.mem_cons_of_mem _ hv)) w hw
theorem sub_in {ws vs : List Win} (h : Paired Sub ws vs) : InWs ws (vs.map (·.1)) := by
  induction h with
  | nil => exact .nil
  | cons r _ ih => exact .cons ⟨r.1, Int.le_trans r.2.1 r.2.2⟩ ih
theorem hall {ws : List Win} {lo hi : List (Int × Int)} (ha : ∀ w ∈ ws, (0 : Int) ≤ w.1 ∧ w.1 ≤ w.2 ∧ w.2 ≤ 1000) (hlo : ∀ p ∈ lo, (-1 : Int) ≤ p.1 ∧ p.1 ≤ 1000) (hhi : ∀ q ∈ hi, (-1 : Int) ≤ q.1 ∧ q.1 ≤ 1000) :
    FitG ws ((-1, 0) :: lo) ((1000, (ws.length : Int)) :: hi) ↔ ∃ xs, InWs ws xs ∧ KeepG xs lo hi := by
  constructor
  · intro hf
    obtain ⟨vs, h1, h2, h3⟩ := narrow_all (lo.map (·.1) ++ hi.map (·.1)) _ _ _ ws ws rfl (paired_self ws fun w hw => by obtain ⟨_, b, _⟩ := ha w hw; exact ⟨Int.le_refl _, b, Int.le_refl _⟩) hf
    have hv := sub_valid h1 ha
    have hl : vs.length = ws.length := (Paired.len h1).symm
    refine ⟨vs.map (·.1), sub_in h1, fun p hp => ?_, fun q hq => ?_⟩
    · obtain ⟨_, e2⟩ := num_apart (t := p.1) (fun w hw => h3 w hw p.1 (List.mem_append_left _ (List.mem_map_of_mem hp))) hv
      have := h2 p (List.mem_cons_of_mem _ hp) (1000, (ws.length : Int)) List.mem_cons_self (hlo p hp).2
      simp only [] at this
      omega
    · obtain ⟨e1, _⟩ := num_apart (t := q.1) (fun w hw => h3 w hw q.1 (List.mem_append_right _ (List.mem_map_of_mem hq))) hv
      have := h2 (-1, 0) List.mem_cons_self q (List.mem_cons_of_mem _ hq) (hhi q hq).1
      simp only [] at this
      omega
  · rintro ⟨xs, h1, h2⟩
    refine fit_of_keep h1 ⟨fun p hp => ?_, fun q hq => ?_⟩
    · rcases List.mem_cons.mp hp with rfl | hp
      · simp only []; omega
      · exact h2.1 p hp
    · rcases List.mem_cons.mp hq with rfl | hq
      · have := num_le xs 1000
        rw [Paired.len' h1] at this
        simp only []; omega
      · exact h2.2 q hq
def lows (ts : List Tal) : List (Int × Int) := ts.map fun t => (t.1, t.2.1)
def highs (ts : List Tal) : List (Int × Int) := ts.map fun t => (t.1, t.2.2)
def Fit (ws : List Win) (ts : List Tal) : Prop := FitG ws ((-1, 0) :: lows ts) ((1000, (ws.length : Int)) :: highs ts)
theorem kept_iff {ts : List Tal} {xs : List Int} : keptT ts xs = true ↔ KeepG xs (lows ts) (highs ts) := by
  unfold keptT KeepG lows highs
  rw [List.all_eq_true]
  constructor
  · intro h
    constructor
    · intro p hp
      obtain ⟨t, ht, rfl⟩ := List.mem_map.mp hp
      have := h t ht
      rw [Bool.and_eq_true, decide_eq_true_eq, decide_eq_true_eq] at this
      exact this.1
    · intro p hp
      obtain ⟨t, ht, rfl⟩ := List.mem_map.mp hp
      have := h t ht
      rw [Bool.and_eq_true, decide_eq_true_eq, decide_eq_true_eq] at this
      exact this.2
  · rintro ⟨h1, h2⟩ t ht
    rw [Bool.and_eq_true, decide_eq_true_eq, decide_eq_true_eq]
    exact ⟨h1 _ (List.mem_map_of_mem (f := fun t : Tal => (t.1, t.2.1)) ht), h2 _ (List.mem_map_of_mem (f := fun t : Tal => (t.1, t.2.2)) ht)⟩
theorem fit_iff {ws : List Win} {ts : List Tal} (hw : WsOk ws) (ht : ∀ t ∈ ts, 0 ≤ t.1 ∧ t.1 ≤ 1000) : Fit ws ts ↔ ∃ xs, InWs ws xs ∧ keptT ts xs = true := by
  unfold Fit
  rw [hall hw.ok (fun p hp => by obtain ⟨t, h, rfl⟩ := List.mem_map.mp hp; have := ht t h; simp only []; omega) (fun p hp => by obtain ⟨t, h, rfl⟩ := List.mem_map.mp hp; have := ht t h; simp only []; omega)]
  simp only [kept_iff]
/-! pairs of tallies -/
abbrev Idx := Option Nat
def oD : Idx → D
  | none => .non
  | some i => .int (i : Int)
def pD (p : Idx × Idx) : D := .tup [oD p.1, oD p.2]
def pairsL (m : Nat) : List (Idx × Idx) := [(none, none)] ++ (List.range m).map (fun j => (none, some j)) ++ (List.range m).map (fun i => (some i, none)) ++ (List.range m).flatMap fun i => (List.range (m - i)).map fun j => (some i, some (i + j))
theorem flat_len {α β : Type} (f : α → List β) (B : Nat) : ∀ l : List α, (∀ x ∈ l, (f x).length ≤ B) → (l.flatMap f).length ≤ l.length * B
  | [], _ => by simp
  | x :: r, h => by
    have ih := flat_len f B r fun y hy => h y (List.mem_cons_of_mem _ hy)
    have := h x List.mem_cons_self
    rw [List.flatMap_cons, List.length_append, List.length_cons, Nat.succ_mul]; omega
theorem flat_ext {α β : Type} {f g : α → List β} : ∀ {l : List α}, (∀ x ∈ l, f x = g x) → l.flatMap f = l.flatMap g
  | [], _ => rfl
  | x :: r, h => by
    rw [List.flatMap_cons, List.flatMap_cons, h x List.mem_cons_self, flat_ext fun y hy => h y (List.mem_cons_of_mem _ hy)]
theorem pairs_of_ok {ts : List Tal} (h : ts.length ≤ 1000) : m_pairs_of [tsD ts] = some (.rt (.lst ((pairsL ts.length).map pD))) := by
  unfold m_pairs_of b_pairs_of tsD
  have hn : ts.length ≤ 1000000000 := by omega
  have e1 : ∀ c, C_pairs_of_1 [.vl (.tup (ts.map tD)), .vl (.int ts.length), c, .un, .un] = some (.ok (.lst ((List.range ts.length).map fun j : Nat => .tup [.non, .int (0 + (j : Int))])) [.vl (.tup (ts.map tD)), .vl (.int ts.length), c, .un, .un]) := fun c =>
    lcE_mapS (enc := fun k : Nat => D.int (0 + (k : Int))) (fun j : Nat => .tup [.non, .int (0 + (j : Int))]) (by simp only [vls_nil, vls_cons, uns_zero, uns_succ, gt_zero, gt_succ, st_zero, st_succ, bnd_ap, ret_ap, lift_some, eC_ap, eV_ap, e2_ap, eB_ap, eNot_ap, tNot_ap, tAnd_app, tOr_app, ite_ap, eAnd_ap, eOr_ap, e3_app, eIf_ap, brk_ap, brk'_ap, ite_bl, ite_bo, ite_tb, ite_to, ↓reduceIte, Bool.false_eq_true, Bool.not_true, Bool.not_false, aN_ap, aC_ap, eT_ap, eL_ap, fL_ap, eB1_ap, eIsi_ap, eIsiA_ap, e1n_ap, oS_ap, eSl_ap, eCall_ap, fCall_ap, eCall1_ap, eOx_ap, eDGet_ap, eDSort_ap, iS_ap, iR1_ap, iR2_ap, iE_ap, iZ_ap, gN_ap, gT2, gT3, sSeq_ap, sNext_ap, sExpr_ap, sRet_ap, sRetF_ap, sIf_ap, sAsg_ap, sPar_ap, sParD_ap, sPut_ap, sDPut_ap, sBind_ap, sOwn_ap, sApp_ap, sRetO_ap, eSortSet_ap, sFor_ap, sBag_ap, finB_2, own0_ap, fin0_0, fin1_0, fin0_1, fin1_1, fin0_2, fin1_2, fin0_3, fin1_3, fin0_4, fin1_4, fin0_5, fin1_5, fin0_6, fin1_6, fin0_7, fin1_7, fin0_8, fin1_8, dI0_ap, dAdd_ii, dLen_t, dLen_l, dTuple_l, dTuple_t, dList_l, dList_t, dMax_ii, dMin_ii, dIx_t, dIx_l, atI_0, atI_1, atI_2, atI_3, dSl_t, dSl_l, dSl_s, dNe_ii, dEq_ii, ifz, ifz', Option.map_some, List.length_cons, List.length_nil, List.length_append, List.length_map, zl0, zm0, zl1, zm1, zl2, zm2, zl3, zm3, zl4, zm4, zl5, zm5, zl6, zm6, zl7, zm7, zl8, zm8, zl9, zm9, zl10, zm10, zl11, zm11, zl12, zm12, zl13, zm13, zl14, zm14, zl15, zm15, zl16, zm16, Nat.zero_add, Nat.reduceAdd, Int.reduceAdd, Int.reduceSub, Int.reduceMul, Int.reduceNeg, Int.reduceEq, Int.reduceLE, Int.reduceLT, Int.reduceToNat, Int.reducePow, decide_true, decide_false, cn0, cn1, cn2, cn3, cn4, cn5, cn6, cn7, cn8, cn9, cn10, cn11, cn12, List.set_cons_zero, List.set_cons_succ, tn0, tn1, tn2, tn3, tn4, tn5, tn6, tn7, tn8, eLn_ap, tLn_ap, lnd_nil, lnd_cons, lend_ow, lend_dc, lend_un, lend_vl, scD_bl, scD_int, scD_non, scD_str, sParL_ap, frz_ap, chL_ap, chK_ap, chLt_ap, chKt_ap, asB_ap, rg1_nat hn]) (by rw [List.length_range]; omega) (fun x hx => ⟨_, rfl, by simp only [wp, vls_nil, vls_cons, uns_zero, uns_succ, gt_zero, gt_succ, st_zero, st_succ, bnd_ap, ret_ap, lift_some, eC_ap, eV_ap, e2_ap, eB_ap, eNot_ap, tNot_ap, tAnd_app, tOr_app, ite_ap, eAnd_ap, eOr_ap, e3_app, eIf_ap, brk_ap, brk'_ap, ite_bl, ite_bo, ite_tb, ite_to, ↓reduceIte, Bool.false_eq_true, Bool.not_true, Bool.not_false, aN_ap, aC_ap, eT_ap, eL_ap, fL_ap, eB1_ap, eIsi_ap, eIsiA_ap, e1n_ap, oS_ap, eSl_ap, eCall_ap, fCall_ap, eCall1_ap, eOx_ap, eDGet_ap, eDSort_ap, iS_ap, iR1_ap, iR2_ap, iE_ap, iZ_ap, gN_ap, gT2, gT3, sSeq_ap, sNext_ap, sExpr_ap, sRet_ap, sRetF_ap, sIf_ap, sAsg_ap, sPar_ap, sParD_ap, sPut_ap, sDPut_ap, sBind_ap, sOwn_ap, sApp_ap, sRetO_ap, eSortSet_ap, sFor_ap, sBag_ap, finB_2, own0_ap, fin0_0, fin1_0, fin0_1, fin1_1, fin0_2, fin1_2, fin0_3, fin1_3, fin0_4, fin1_4, fin0_5, fin1_5, fin0_6, fin1_6, fin0_7, fin1_7, fin0_8, fin1_8, dI0_ap, dAdd_ii, dLen_t, dLen_l, dTuple_l, dTuple_t, dList_l, dList_t, dMax_ii, dMin_ii, dIx_t, dIx_l, atI_0, atI_1, atI_2, atI_3, dSl_t, dSl_l, dSl_s, dNe_ii, dEq_ii, ifz, ifz', Option.map_some, List.length_cons, List.length_nil, List.length_append, List.length_map, zl0, zm0, zl1, zm1, zl2, zm2, zl3, zm3, zl4, zm4, zl5, zm5, zl6, zm6, zl7, zm7, zl8, zm8, zl9, zm9, zl10, zm10, zl11, zm11, zl12, zm12, zl13, zm13, zl14, zm14, zl15, zm15, zl16, zm16, Nat.zero_add, Nat.reduceAdd, Int.reduceAdd, Int.reduceSub, Int.reduceMul, Int.reduceNeg, Int.reduceEq, Int.reduceLE, Int.reduceLT, Int.reduceToNat, Int.reducePow, decide_true, decide_false, cn0, cn1, cn2, cn3, cn4, cn5, cn6, cn7, cn8, cn9, cn10, cn11, cn12, List.set_cons_zero, List.set_cons_succ, tn0, tn1, tn2, tn3, tn4, tn5, tn6, tn7, tn8, eLn_ap, tLn_ap, lnd_nil, lnd_cons, lend_ow, lend_dc, lend_un, lend_vl, scD_bl, scD_int, scD_non, scD_str, sParL_ap, frz_ap, chL_ap, chK_ap, chLt_ap, chKt_ap, asB_ap], rfl⟩) rfl
  have e2 : ∀ c, C_pairs_of_2 [.vl (.tup (ts.map tD)), .vl (.int ts.length), c, .un, .un] = some (.ok (.lst ((List.range ts.length).map fun j : Nat => .tup [.int (0 + (j : Int)), .non])) [.vl (.tup (ts.map tD)), .vl (.int ts.length), c, .un, .un]) := fun c =>
    lcE_mapS (enc := fun k : Nat => D.int (0 + (k : Int))) (fun j : Nat => .tup [.int (0 + (j : Int)), .non]) (by simp only [vls_nil, vls_cons, uns_zero, uns_succ, gt_zero, gt_succ, st_zero, st_succ, bnd_ap, ret_ap, lift_some, eC_ap, eV_ap, e2_ap, eB_ap, eNot_ap, tNot_ap, tAnd_app, tOr_app, ite_ap, eAnd_ap, eOr_ap, e3_app, eIf_ap, brk_ap, brk'_ap, ite_bl, ite_bo, ite_tb, ite_to, ↓reduceIte, Bool.false_eq_true, Bool.not_true, Bool.not_false, aN_ap, aC_ap, eT_ap, eL_ap, fL_ap, eB1_ap, eIsi_ap, eIsiA_ap, e1n_ap, oS_ap, eSl_ap, eCall_ap, fCall_ap, eCall1_ap, eOx_ap, eDGet_ap, eDSort_ap, iS_ap, iR1_ap, iR2_ap, iE_ap, iZ_ap, gN_ap, gT2, gT3, sSeq_ap, sNext_ap, sExpr_ap, sRet_ap, sRetF_ap, sIf_ap, sAsg_ap, sPar_ap, sParD_ap, sPut_ap, sDPut_ap, sBind_ap, sOwn_ap, sApp_ap, sRetO_ap, eSortSet_ap, sFor_ap, sBag_ap, finB_2, own0_ap, fin0_0, fin1_0, fin0_1, fin1_1, fin0_2, fin1_2, fin0_3, fin1_3, fin0_4, fin1_4, fin0_5, fin1_5, fin0_6, fin1_6, fin0_7, fin1_7, fin0_8, fin1_8, dI0_ap, dAdd_ii, dLen_t, dLen_l, dTuple_l, dTuple_t, dList_l, dList_t, dMax_ii, dMin_ii, dIx_t, dIx_l, atI_0, atI_1, atI_2, atI_3, dSl_t, dSl_l, dSl_s, dNe_ii, dEq_ii, ifz, ifz', Option.map_some, List.length_cons, List.length_nil, List.length_append, List.length_map, zl0, zm0, zl1, zm1, zl2, zm2, zl3, zm3, zl4, zm4, zl5, zm5, zl6, zm6, zl7, zm7, zl8, zm8, zl9, zm9, zl10, zm10, zl11, zm11, zl12, zm12, zl13, zm13, zl14, zm14, zl15, zm15, zl16, zm16, Nat.zero_add, Nat.reduceAdd, Int.reduceAdd, Int.reduceSub, Int.reduceMul, Int.reduceNeg, Int.reduceEq, Int.reduceLE, Int.reduceLT, Int.reduceToNat, Int.reducePow, decide_true, decide_false, cn0, cn1, cn2, cn3, cn4, cn5, cn6, cn7, cn8, cn9, cn10, cn11, cn12, List.set_cons_zero, List.set_cons_succ, tn0, tn1, tn2, tn3, tn4, tn5, tn6, tn7, tn8, eLn_ap, tLn_ap, lnd_nil, lnd_cons, lend_ow, lend_dc, lend_un, lend_vl, scD_bl, scD_int, scD_non, scD_str, sParL_ap, frz_ap, chL_ap, chK_ap, chLt_ap, chKt_ap, asB_ap, rg1_nat hn]) (by rw [List.length_range]; omega) (fun x hx => ⟨_, rfl, by simp only [wp, vls_nil, vls_cons, uns_zero, uns_succ, gt_zero, gt_succ, st_zero, st_succ, bnd_ap, ret_ap, lift_some, eC_ap, eV_ap, e2_ap, eB_ap, eNot_ap, tNot_ap, tAnd_app, tOr_app, ite_ap, eAnd_ap, eOr_ap, e3_app, eIf_ap, brk_ap, brk'_ap, ite_bl, ite_bo, ite_tb, ite_to, ↓reduceIte, Bool.false_eq_true, Bool.not_true, Bool.not_false, aN_ap, aC_ap, eT_ap, eL_ap, fL_ap, eB1_ap, eIsi_ap, eIsiA_ap, e1n_ap, oS_ap, eSl_ap, eCall_ap, fCall_ap, eCall1_ap, eOx_ap, eDGet_ap, eDSort_ap, iS_ap, iR1_ap, iR2_ap, iE_ap, iZ_ap, gN_ap, gT2, gT3, sSeq_ap, sNext_ap, sExpr_ap, sRet_ap, sRetF_ap, sIf_ap, sAsg_ap, sPar_ap, sParD_ap, sPut_ap, sDPut_ap, sBind_ap, sOwn_ap, sApp_ap, sRetO_ap, eSortSet_ap, sFor_ap, sBag_ap, finB_2, own0_ap, fin0_0, fin1_0, fin0_1, fin1_1, fin0_2, fin1_2, fin0_3, fin1_3, fin0_4, fin1_4, fin0_5, fin1_5, fin0_6, fin1_6, fin0_7, fin1_7, fin0_8, fin1_8, dI0_ap, dAdd_ii, dLen_t, dLen_l, dTuple_l, dTuple_t, dList_l, dList_t, dMax_ii, dMin_ii, dIx_t, dIx_l, atI_0, atI_1, atI_2, atI_3, dSl_t, dSl_l, dSl_s, dNe_ii, dEq_ii, ifz, ifz', Option.map_some, List.length_cons, List.length_nil, List.length_append, List.length_map, zl0, zm0, zl1, zm1, zl2, zm2, zl3, zm3, zl4, zm4, zl5, zm5, zl6, zm6, zl7, zm7, zl8, zm8, zl9, zm9, zl10, zm10, zl11, zm11, zl12, zm12, zl13, zm13, zl14, zm14, zl15, zm15, zl16, zm16, Nat.zero_add, Nat.reduceAdd, Int.reduceAdd, Int.reduceSub, Int.reduceMul, Int.reduceNeg, Int.reduceEq, Int.reduceLE, Int.reduceLT, Int.reduceToNat, Int.reducePow, decide_true, decide_false, cn0, cn1, cn2, cn3, cn4, cn5, cn6, cn7, cn8, cn9, cn10, cn11, cn12, List.set_cons_zero, List.set_cons_succ, tn0, tn1, tn2, tn3, tn4, tn5, tn6, tn7, tn8, eLn_ap, tLn_ap, lnd_nil, lnd_cons, lend_ow, lend_dc, lend_un, lend_vl, scD_bl, scD_int, scD_non, scD_str, sParL_ap, frz_ap, chL_ap, chK_ap, chLt_ap, chKt_ap, asB_ap], rfl⟩) rfl
  have hl3 : ((List.range ts.length).flatMap fun i : Nat => (List.range (ts.length - i)).map fun j : Nat => D.tup [.int (0 + (i : Int)), .int (0 + (i : Int) + (j : Int))]).length ≤ 1000000 := by
    refine Nat.le_trans (flat_len _ 1000 _ fun x _ => by rw [List.length_map, List.length_range]; omega) ?_
    rw [List.length_range]; omega
  have e3 : ∀ c, C_pairs_of_3 [.vl (.tup (ts.map tD)), .vl (.int ts.length), c, .un, .un] = some (.ok (.lst ((List.range ts.length).flatMap fun i : Nat => (List.range (ts.length - i)).map fun j : Nat => D.tup [.int (0 + (i : Int)), .int (0 + (i : Int) + (j : Int))])) [.vl (.tup (ts.map tD)), .vl (.int ts.length), c, .un, .un]) := fun c => by
    have := lc2E_pureS (enc := fun k : Nat => D.int (0 + (k : Int))) (enc1 := fun p : Int × Nat => D.int (p.1 + (p.2 : Int))) (l := List.range ts.length) (vs := [4, 3]) (vs1 := [3]) (fi := iR1 (aC (eV 1) aN)) (g := gN 4) (fi1 := iR2 (aC (eV 4) (aC (eV 1) aN))) (g1 := gN 3) (tt1 := ret true) (te := eT (aC (eV 4) (aC (eV 3) aN)))
      (S := [.vl (.tup (ts.map tD)), .vl (.int ts.length), c, .un, .un]) (fun i => (List.range (ts.length - i)).map fun j => (0 + (i : Int), j)) (fun _ _ => true) (fun i y => .tup [.int (0 + (i : Int)), .int (y.1 + (y.2 : Int))])
      (by simp only [vls_nil, vls_cons, uns_zero, uns_succ, gt_zero, gt_succ, st_zero, st_succ, bnd_ap, ret_ap, lift_some, eC_ap, eV_ap, e2_ap, eB_ap, eNot_ap, tNot_ap, tAnd_app, tOr_app, ite_ap, eAnd_ap, eOr_ap, e3_app, eIf_ap, brk_ap, brk'_ap, ite_bl, ite_bo, ite_tb, ite_to, ↓reduceIte, Bool.false_eq_true, Bool.not_true, Bool.not_false, aN_ap, aC_ap, eT_ap, eL_ap, fL_ap, eB1_ap, eIsi_ap, eIsiA_ap, e1n_ap, oS_ap, eSl_ap, eCall_ap, fCall_ap, eCall1_ap, eOx_ap, eDGet_ap, eDSort_ap, iS_ap, iR1_ap, iR2_ap, iE_ap, iZ_ap, gN_ap, gT2, gT3, sSeq_ap, sNext_ap, sExpr_ap, sRet_ap, sRetF_ap, sIf_ap, sAsg_ap, sPar_ap, sParD_ap, sPut_ap, sDPut_ap, sBind_ap, sOwn_ap, sApp_ap, sRetO_ap, eSortSet_ap, sFor_ap, sBag_ap, finB_2, own0_ap, fin0_0, fin1_0, fin0_1, fin1_1, fin0_2, fin1_2, fin0_3, fin1_3, fin0_4, fin1_4, fin0_5, fin1_5, fin0_6, fin1_6, fin0_7, fin1_7, fin0_8, fin1_8, dI0_ap, dAdd_ii, dLen_t, dLen_l, dTuple_l, dTuple_t, dList_l, dList_t, dMax_ii, dMin_ii, dIx_t, dIx_l, atI_0, atI_1, atI_2, atI_3, dSl_t, dSl_l, dSl_s, dNe_ii, dEq_ii, ifz, ifz', Option.map_some, List.length_cons, List.length_nil, List.length_append, List.length_map, zl0, zm0, zl1, zm1, zl2, zm2, zl3, zm3, zl4, zm4, zl5, zm5, zl6, zm6, zl7, zm7, zl8, zm8, zl9, zm9, zl10, zm10, zl11, zm11, zl12, zm12, zl13, zm13, zl14, zm14, zl15, zm15, zl16, zm16, Nat.zero_add, Nat.reduceAdd, Int.reduceAdd, Int.reduceSub, Int.reduceMul, Int.reduceNeg, Int.reduceEq, Int.reduceLE, Int.reduceLT, Int.reduceToNat, Int.reducePow, decide_true, decide_false, cn0, cn1, cn2, cn3, cn4, cn5, cn6, cn7, cn8, cn9, cn10, cn11, cn12, List.set_cons_zero, List.set_cons_succ, tn0, tn1, tn2, tn3, tn4, tn5, tn6, tn7, tn8, eLn_ap, tLn_ap, lnd_nil, lnd_cons, lend_ow, lend_dc, lend_un, lend_vl, scD_bl, scD_int, scD_non, scD_str, sParL_ap, frz_ap, chL_ap, chK_ap, chLt_ap, chKt_ap, asB_ap, rg1_nat hn]) (by
        refine Nat.le_trans (flat_len _ 1000 _ fun x _ => ?_) (by rw [List.length_range]; omega)
        rw [List.length_map]
        refine Nat.le_trans (List.length_filter_le _ _) ?_
        rw [List.length_map, List.length_range]; omega) (fun x hx => by
        have hx' := List.mem_range.mp hx
        have c1 : -1000000000 ≤ 0 + (x : Int) := by omega
        have c2 : 0 + (x : Int) ≤ 1000000000 := by omega
        have c3 : -1000000000 ≤ (ts.length : Int) := by omega
        have c4 : (ts.length : Int) ≤ 1000000000 := by omega
        have hs : ((ts.length : Int) - (0 + (x : Int))).toNat = ts.length - x := by omega
        refine ⟨_, rfl, ?_, fun y hy => ⟨_, rfl, rfl, fun _ => ?_, rfl⟩, rfl⟩
        · simp only [wp, vls_nil, vls_cons, uns_zero, uns_succ, gt_zero, gt_succ, st_zero, st_succ, bnd_ap, ret_ap, lift_some, eC_ap, eV_ap, e2_ap, eB_ap, eNot_ap, tNot_ap, tAnd_app, tOr_app, ite_ap, eAnd_ap, eOr_ap, e3_app, eIf_ap, brk_ap, brk'_ap, ite_bl, ite_bo, ite_tb, ite_to, ↓reduceIte, Bool.false_eq_true, Bool.not_true, Bool.not_false, aN_ap, aC_ap, eT_ap, eL_ap, fL_ap, eB1_ap, eIsi_ap, eIsiA_ap, e1n_ap, oS_ap, eSl_ap, eCall_ap, fCall_ap, eCall1_ap, eOx_ap, eDGet_ap, eDSort_ap, iS_ap, iR1_ap, iR2_ap, iE_ap, iZ_ap, gN_ap, gT2, gT3, sSeq_ap, sNext_ap, sExpr_ap, sRet_ap, sRetF_ap, sIf_ap, sAsg_ap, sPar_ap, sParD_ap, sPut_ap, sDPut_ap, sBind_ap, sOwn_ap, sApp_ap, sRetO_ap, eSortSet_ap, sFor_ap, sBag_ap, finB_2, own0_ap, fin0_0, fin1_0, fin0_1, fin1_1, fin0_2, fin1_2, fin0_3, fin1_3, fin0_4, fin1_4, fin0_5, fin1_5, fin0_6, fin1_6, fin0_7, fin1_7, fin0_8, fin1_8, dI0_ap, dAdd_ii, dLen_t, dLen_l, dTuple_l, dTuple_t, dList_l, dList_t, dMax_ii, dMin_ii, dIx_t, dIx_l, atI_0, atI_1, atI_2, atI_3, dSl_t, dSl_l, dSl_s, dNe_ii, dEq_ii, ifz, ifz', Option.map_some, List.length_cons, List.length_nil, List.length_append, List.length_map, zl0, zm0, zl1, zm1, zl2, zm2, zl3, zm3, zl4, zm4, zl5, zm5, zl6, zm6, zl7, zm7, zl8, zm8, zl9, zm9, zl10, zm10, zl11, zm11, zl12, zm12, zl13, zm13, zl14, zm14, zl15, zm15, zl16, zm16, Nat.zero_add, Nat.reduceAdd, Int.reduceAdd, Int.reduceSub, Int.reduceMul, Int.reduceNeg, Int.reduceEq, Int.reduceLE, Int.reduceLT, Int.reduceToNat, Int.reducePow, decide_true, decide_false, cn0, cn1, cn2, cn3, cn4, cn5, cn6, cn7, cn8, cn9, cn10, cn11, cn12, List.set_cons_zero, List.set_cons_succ, tn0, tn1, tn2, tn3, tn4, tn5, tn6, tn7, tn8, eLn_ap, tLn_ap, lnd_nil, lnd_cons, lend_ow, lend_dc, lend_un, lend_vl, scD_bl, scD_int, scD_non, scD_str, sParL_ap, frz_ap, chL_ap, chK_ap, chLt_ap, chKt_ap, asB_ap, rg2_ok c1 c2 c3 c4, rangeL, hs, List.map_map]; rfl
        · simp only [wp, vls_nil, vls_cons, uns_zero, uns_succ, gt_zero, gt_succ, st_zero, st_succ, bnd_ap, ret_ap, lift_some, eC_ap, eV_ap, e2_ap, eB_ap, eNot_ap, tNot_ap, tAnd_app, tOr_app, ite_ap, eAnd_ap, eOr_ap, e3_app, eIf_ap, brk_ap, brk'_ap, ite_bl, ite_bo, ite_tb, ite_to, ↓reduceIte, Bool.false_eq_true, Bool.not_true, Bool.not_false, aN_ap, aC_ap, eT_ap, eL_ap, fL_ap, eB1_ap, eIsi_ap, eIsiA_ap, e1n_ap, oS_ap, eSl_ap, eCall_ap, fCall_ap, eCall1_ap, eOx_ap, eDGet_ap, eDSort_ap, iS_ap, iR1_ap, iR2_ap, iE_ap, iZ_ap, gN_ap, gT2, gT3, sSeq_ap, sNext_ap, sExpr_ap, sRet_ap, sRetF_ap, sIf_ap, sAsg_ap, sPar_ap, sParD_ap, sPut_ap, sDPut_ap, sBind_ap, sOwn_ap, sApp_ap, sRetO_ap, eSortSet_ap, sFor_ap, sBag_ap, finB_2, own0_ap, fin0_0, fin1_0, fin0_1, fin1_1, fin0_2, fin1_2, fin0_3, fin1_3, fin0_4, fin1_4, fin0_5, fin1_5, fin0_6, fin1_6, fin0_7, fin1_7, fin0_8, fin1_8, dI0_ap, dAdd_ii, dLen_t, dLen_l, dTuple_l, dTuple_t, dList_l, dList_t, dMax_ii, dMin_ii, dIx_t, dIx_l, atI_0, atI_1, atI_2, atI_3, dSl_t, dSl_l, dSl_s, dNe_ii, dEq_ii, ifz, ifz', Option.map_some, List.length_cons, List.length_nil, List.length_append, List.length_map, zl0, zm0, zl1, zm1, zl2, zm2, zl3, zm3, zl4, zm4, zl5, zm5, zl6, zm6, zl7, zm7, zl8, zm8, zl9, zm9, zl10, zm10, zl11, zm11, zl12, zm12, zl13, zm13, zl14, zm14, zl15, zm15, zl16, zm16, Nat.zero_add, Nat.reduceAdd, Int.reduceAdd, Int.reduceSub, Int.reduceMul, Int.reduceNeg, Int.reduceEq, Int.reduceLE, Int.reduceLT, Int.reduceToNat, Int.reducePow, decide_true, decide_false, cn0, cn1, cn2, cn3, cn4, cn5, cn6, cn7, cn8, cn9, cn10, cn11, cn12, List.set_cons_zero, List.set_cons_succ, tn0, tn1, tn2, tn3, tn4, tn5, tn6, tn7, tn8, eLn_ap, tLn_ap, lnd_nil, lnd_cons, lend_ow, lend_dc, lend_un, lend_vl, scD_bl, scD_int, scD_non, scD_str, sParL_ap, frz_ap, chL_ap, chK_ap, chLt_ap, chKt_ap, asB_ap]) rfl
    have hfl : ((List.range ts.length).flatMap fun i : Nat => (((List.range (ts.length - i)).map fun j : Nat => (0 + (i : Int), j)).filter fun _ => true).map fun y : Int × Nat => D.tup [.int (0 + (i : Int)), .int (y.1 + (y.2 : Int))]) = (List.range ts.length).flatMap fun i : Nat => (List.range (ts.length - i)).map fun j : Nat => D.tup [.int (0 + (i : Int)), .int (0 + (i : Int) + (j : Int))] := by
      refine flat_ext fun x _ => ?_
      rw [List.filter_eq_self.mpr fun _ _ => rfl, List.map_map]
      rfl
    rw [hfl] at this
    exact this
  have hl1 : 1 + ts.length ≤ 16777216 := by omega
  have hl2 : 1 + ts.length + ts.length ≤ 16777216 := by omega
  have hl4 : 1 + ts.length + ts.length + ((List.range ts.length).flatMap fun i : Nat => (List.range (ts.length - i)).map fun j : Nat => D.tup [.int (0 + (i : Int)), .int (0 + (i : Int) + (j : Int))]).length ≤ 16777216 := by omega
  have a1 : dAdd (.lst [.tup [.non, .non]]) (.lst ((List.range ts.length).map fun j : Nat => .tup [.non, .int (0 + (j : Int))])) = some (.lst ([.tup [.non, .non]] ++ (List.range ts.length).map fun j : Nat => .tup [.non, .int (0 + (j : Int))])) :=
    dAdd_ll (by simp only [List.length_cons, List.length_nil, List.length_map, List.length_range]; omega)
  have a2 : dAdd (.lst ([.tup [.non, .non]] ++ (List.range ts.length).map fun j : Nat => .tup [.non, .int (0 + (j : Int))])) (.lst ((List.range ts.length).map fun j : Nat => .tup [.int (0 + (j : Int)), .non])) = some (.lst ([.tup [.non, .non]] ++ (List.range ts.length).map (fun j : Nat => .tup [.non, .int (0 + (j : Int))]) ++ (List.range ts.length).map fun j : Nat => .tup [.int (0 + (j : Int)), .non])) :=
    dAdd_ll (by simp only [List.length_append, List.length_cons, List.length_nil, List.length_map, List.length_range]; omega)
  have a3 : dAdd (.lst ([.tup [.non, .non]] ++ (List.range ts.length).map (fun j : Nat => .tup [.non, .int (0 + (j : Int))]) ++ (List.range ts.length).map fun j : Nat => .tup [.int (0 + (j : Int)), .non])) (.lst ((List.range ts.length).flatMap fun i : Nat => (List.range (ts.length - i)).map fun j : Nat => D.tup [.int (0 + (i : Int)), .int (0 + (i : Int) + (j : Int))])) = some (.lst ((pairsL ts.length).map pD)) := by
    rw [dAdd_ll (by simp only [List.length_append, List.length_cons, List.length_nil, List.length_map, List.length_range]; omega)]
    refine congrArg (fun l => some (D.lst l)) ?_
    unfold pairsL
    rw [List.map_append, List.map_append, List.map_append, List.map_flatMap]
    simp only [List.map_map, Function.comp_def, pD, oD, Int.zero_add, List.map_cons, List.map_nil, Int.natCast_add]
  simp only [vls_nil, vls_cons, uns_zero, uns_succ, gt_zero, gt_succ, st_zero, st_succ, bnd_ap, ret_ap, lift_some, eC_ap, eV_ap, e2_ap, eB_ap, eNot_ap, tNot_ap, tAnd_app, tOr_app, ite_ap, eAnd_ap, eOr_ap, e3_app, eIf_ap, brk_ap, brk'_ap, ite_bl, ite_bo, ite_tb, ite_to, ↓reduceIte, Bool.false_eq_true, Bool.not_true, Bool.not_false, aN_ap, aC_ap, eT_ap, eL_ap, fL_ap, eB1_ap, eIsi_ap, eIsiA_ap, e1n_ap, oS_ap, eSl_ap, eCall_ap, fCall_ap, eCall1_ap, eOx_ap, eDGet_ap, eDSort_ap, iS_ap, iR1_ap, iR2_ap, iE_ap, iZ_ap, gN_ap, gT2, gT3, sSeq_ap, sNext_ap, sExpr_ap, sRet_ap, sRetF_ap, sIf_ap, sAsg_ap, sPar_ap, sParD_ap, sPut_ap, sDPut_ap, sBind_ap, sOwn_ap, sApp_ap, sRetO_ap, eSortSet_ap, sFor_ap, sBag_ap, finB_2, own0_ap, fin0_0, fin1_0, fin0_1, fin1_1, fin0_2, fin1_2, fin0_3, fin1_3, fin0_4, fin1_4, fin0_5, fin1_5, fin0_6, fin1_6, fin0_7, fin1_7, fin0_8, fin1_8, dI0_ap, dAdd_ii, dLen_t, dLen_l, dTuple_l, dTuple_t, dList_l, dList_t, dMax_ii, dMin_ii, dIx_t, dIx_l, atI_0, atI_1, atI_2, atI_3, dSl_t, dSl_l, dSl_s, dNe_ii, dEq_ii, ifz, ifz', Option.map_some, List.length_cons, List.length_nil, List.length_append, List.length_map, zl0, zm0, zl1, zm1, zl2, zm2, zl3, zm3, zl4, zm4, zl5, zm5, zl6, zm6, zl7, zm7, zl8, zm8, zl9, zm9, zl10, zm10, zl11, zm11, zl12, zm12, zl13, zm13, zl14, zm14, zl15, zm15, zl16, zm16, Nat.zero_add, Nat.reduceAdd, Int.reduceAdd, Int.reduceSub, Int.reduceMul, Int.reduceNeg, Int.reduceEq, Int.reduceLE, Int.reduceLT, Int.reduceToNat, Int.reducePow, decide_true, decide_false, cn0, cn1, cn2, cn3, cn4, cn5, cn6, cn7, cn8, cn9, cn10, cn11, cn12, List.set_cons_zero, List.set_cons_succ, tn0, tn1, tn2, tn3, tn4, tn5, tn6, tn7, tn8, eLn_ap, tLn_ap, lnd_nil, lnd_cons, lend_ow, lend_dc, lend_un, lend_vl, scD_bl, scD_int, scD_non, scD_str, sParL_ap, frz_ap, chL_ap, chK_ap, chLt_ap, chKt_ap, asB_ap, e1, e2, e3, a1, a2, a3]
def startP (ts : List Tal) : Idx → Int × Int
  | none => (-1, 0)
  | some i => match ts[i]? with
    | some t => (t.1, t.2.1)
    | none => (0, 0)
def endP (n : Nat) (ts : List Tal) : Idx → Int × Int
  | none => (1000, (n : Int))
  | some i => match ts[i]? with
    | some t => (t.1, t.2.2)
    | none => (0, 0)
def exc (ws : List Win) (ts : List Tal) (p : Idx × Idx) : Int := (startP ts p.1).2 + (insN ws (startP ts p.1).1 (endP ws.length ts p.2).1 : Int) - (endP ws.length ts p.2).2
def IxOk (m : Nat) (i : Idx) : Prop := ∀ k, i = some k → k < m
theorem ts_at {ts : List Tal} {i : Nat} (h : i < ts.length) : ∃ t, ts[i]? = some t ∧ dIx (tsD ts) (.int (i : Int)) = some (tD t) := by
  refine ⟨ts[i], List.getElem?_eq_getElem h, ?_⟩
  unfold tsD
  rw [dIx_t, atI_nat (by omega) (by rw [List.length_map]; omega), List.getElem?_map, show ((i : Int)).toNat = i by omega, List.getElem?_eq_getElem h]; rfl
theorem len_ws {ws : List Win} : dLen [wsD ws] = some (.int ws.length) := by unfold wsD; simp only [vls_nil, vls_cons, uns_zero, uns_succ, gt_zero, gt_succ, st_zero, st_succ, bnd_ap, ret_ap, lift_some, eC_ap, eV_ap, e2_ap, eB_ap, eNot_ap, tNot_ap, tAnd_app, tOr_app, ite_ap, eAnd_ap, eOr_ap, e3_app, eIf_ap, brk_ap, brk'_ap, ite_bl, ite_bo, ite_tb, ite_to, ↓reduceIte, Bool.false_eq_true, Bool.not_true, Bool.not_false, aN_ap, aC_ap, eT_ap, eL_ap, fL_ap, eB1_ap, eIsi_ap, eIsiA_ap, e1n_ap, oS_ap, eSl_ap, eCall_ap, fCall_ap, eCall1_ap, eOx_ap, eDGet_ap, eDSort_ap, iS_ap, iR1_ap, iR2_ap, iE_ap, iZ_ap, gN_ap, gT2, gT3, sSeq_ap, sNext_ap, sExpr_ap, sRet_ap, sRetF_ap, sIf_ap, sAsg_ap, sPar_ap, sParD_ap, sPut_ap, sDPut_ap, sBind_ap, sOwn_ap, sApp_ap, sRetO_ap, eSortSet_ap, sFor_ap, sBag_ap, finB_2, own0_ap, fin0_0, fin1_0, fin0_1, fin1_1, fin0_2, fin1_2, fin0_3, fin1_3, fin0_4, fin1_4, fin0_5, fin1_5, fin0_6, fin1_6, fin0_7, fin1_7, fin0_8, fin1_8, dI0_ap, dAdd_ii, dLen_t, dLen_l, dTuple_l, dTuple_t, dList_l, dList_t, dMax_ii, dMin_ii, dIx_t, dIx_l, atI_0, atI_1, atI_2, atI_3, dSl_t, dSl_l, dSl_s, dNe_ii, dEq_ii, ifz, ifz', Option.map_some, List.length_cons, List.length_nil, List.length_append, List.length_map, zl0, zm0, zl1, zm1, zl2, zm2, zl3, zm3, zl4, zm4, zl5, zm5, zl6, zm6, zl7, zm7, zl8, zm8, zl9, zm9, zl10, zm10, zl11, zm11, zl12, zm12, zl13, zm13, zl14, zm14, zl15, zm15, zl16, zm16, Nat.zero_add, Nat.reduceAdd, Int.reduceAdd, Int.reduceSub, Int.reduceMul, Int.reduceNeg, Int.reduceEq, Int.reduceLE, Int.reduceLT, Int.reduceToNat, Int.reducePow, decide_true, decide_false, cn0, cn1, cn2, cn3, cn4, cn5, cn6, cn7, cn8, cn9, cn10, cn11, cn12, List.set_cons_zero, List.set_cons_succ, tn0, tn1, tn2, tn3, tn4, tn5, tn6, tn7, tn8, eLn_ap, tLn_ap, lnd_nil, lnd_cons, lend_ow, lend_dc, lend_un, lend_vl, scD_bl, scD_int, scD_non, scD_str, sParL_ap, frz_ap, chL_ap, chK_ap, chLt_ap, chKt_ap, asB_ap]
theorem len_ts {ts : List Tal} : dLen [tsD ts] = some (.int ts.length) := by unfold tsD; simp only [vls_nil, vls_cons, uns_zero, uns_succ, gt_zero, gt_succ, st_zero, st_succ, bnd_ap, ret_ap, lift_some, eC_ap, eV_ap, e2_ap, eB_ap, eNot_ap, tNot_ap, tAnd_app, tOr_app, ite_ap, eAnd_ap, eOr_ap, e3_app, eIf_ap, brk_ap, brk'_ap, ite_bl, ite_bo, ite_tb, ite_to, ↓reduceIte, Bool.false_eq_true, Bool.not_true, Bool.not_false, aN_ap, aC_ap, eT_ap, eL_ap, fL_ap, eB1_ap, eIsi_ap, eIsiA_ap, e1n_ap, oS_ap, eSl_ap, eCall_ap, fCall_ap, eCall1_ap, eOx_ap, eDGet_ap, eDSort_ap, iS_ap, iR1_ap, iR2_ap, iE_ap, iZ_ap, gN_ap, gT2, gT3, sSeq_ap, sNext_ap, sExpr_ap, sRet_ap, sRetF_ap, sIf_ap, sAsg_ap, sPar_ap, sParD_ap, sPut_ap, sDPut_ap, sBind_ap, sOwn_ap, sApp_ap, sRetO_ap, eSortSet_ap, sFor_ap, sBag_ap, finB_2, own0_ap, fin0_0, fin1_0, fin0_1, fin1_1, fin0_2, fin1_2, fin0_3, fin1_3, fin0_4, fin1_4, fin0_5, fin1_5, fin0_6, fin1_6, fin0_7, fin1_7, fin0_8, fin1_8, dI0_ap, dAdd_ii, dLen_t, dLen_l, dTuple_l, dTuple_t, dList_l, dList_t, dMax_ii, dMin_ii, dIx_t, dIx_l, atI_0, atI_1, atI_2, atI_3, dSl_t, dSl_l, dSl_s, dNe_ii, dEq_ii, ifz, ifz', Option.map_some, List.length_cons, List.length_nil, List.length_append, List.length_map, zl0, zm0, zl1, zm1, zl2, zm2, zl3, zm3, zl4, zm4, zl5, zm5, zl6, zm6, zl7, zm7, zl8, zm8, zl9, zm9, zl10, zm10, zl11, zm11, zl12, zm12, zl13, zm13, zl14, zm14, zl15, zm15, zl16, zm16, Nat.zero_add, Nat.reduceAdd, Int.reduceAdd, Int.reduceSub, Int.reduceMul, Int.reduceNeg, Int.reduceEq, Int.reduceLE, Int.reduceLT, Int.reduceToNat, Int.reducePow, decide_true, decide_false, cn0, cn1, cn2, cn3, cn4, cn5, cn6, cn7, cn8, cn9, cn10, cn11, cn12, List.set_cons_zero, List.set_cons_succ, tn0, tn1, tn2, tn3, tn4, tn5, tn6, tn7, tn8, eLn_ap, tLn_ap, lnd_nil, lnd_cons, lend_ow, lend_dc, lend_un, lend_vl, scD_bl, scD_int, scD_non, scD_str, sParL_ap, frz_ap, chL_ap, chK_ap, chLt_ap, chKt_ap, asB_ap]
theorem place_ok {ws : List Win} {ts : List Tal} {i : Idx} (h : IxOk ts.length i) (b : Bool) : m_place [wsD ws, tsD ts, oD i, .bl b] = some (.rt (.tup [.int (if b = true then startP ts i else endP ws.length ts i).1, .int (if b = true then startP ts i else endP ws.length ts i).2])) := by
  unfold m_place b_place
  cases i with
  | none =>
    cases b with
    | true => simp only [oD, startP, dIs, isNon, vls_nil, vls_cons, uns_zero, uns_succ, gt_zero, gt_succ, st_zero, st_succ, bnd_ap, ret_ap, lift_some, eC_ap, eV_ap, e2_ap, eB_ap, eNot_ap, tNot_ap, tAnd_app, tOr_app, ite_ap, eAnd_ap, eOr_ap, e3_app, eIf_ap, brk_ap, brk'_ap, ite_bl, ite_bo, ite_tb, ite_to, ↓reduceIte, Bool.false_eq_true, Bool.not_true, Bool.not_false, aN_ap, aC_ap, eT_ap, eL_ap, fL_ap, eB1_ap, eIsi_ap, eIsiA_ap, e1n_ap, oS_ap, eSl_ap, eCall_ap, fCall_ap, eCall1_ap, eOx_ap, eDGet_ap, eDSort_ap, iS_ap, iR1_ap, iR2_ap, iE_ap, iZ_ap, gN_ap, gT2, gT3, sSeq_ap, sNext_ap, sExpr_ap, sRet_ap, sRetF_ap, sIf_ap, sAsg_ap, sPar_ap, sParD_ap, sPut_ap, sDPut_ap, sBind_ap, sOwn_ap, sApp_ap, sRetO_ap, eSortSet_ap, sFor_ap, sBag_ap, finB_2, own0_ap, fin0_0, fin1_0, fin0_1, fin1_1, fin0_2, fin1_2, fin0_3, fin1_3, fin0_4, fin1_4, fin0_5, fin1_5, fin0_6, fin1_6, fin0_7, fin1_7, fin0_8, fin1_8, dI0_ap, dAdd_ii, dLen_t, dLen_l, dTuple_l, dTuple_t, dList_l, dList_t, dMax_ii, dMin_ii, dIx_t, dIx_l, atI_0, atI_1, atI_2, atI_3, dSl_t, dSl_l, dSl_s, dNe_ii, dEq_ii, ifz, ifz', Option.map_some, List.length_cons, List.length_nil, List.length_append, List.length_map, zl0, zm0, zl1, zm1, zl2, zm2, zl3, zm3, zl4, zm4, zl5, zm5, zl6, zm6, zl7, zm7, zl8, zm8, zl9, zm9, zl10, zm10, zl11, zm11, zl12, zm12, zl13, zm13, zl14, zm14, zl15, zm15, zl16, zm16, Nat.zero_add, Nat.reduceAdd, Int.reduceAdd, Int.reduceSub, Int.reduceMul, Int.reduceNeg, Int.reduceEq, Int.reduceLE, Int.reduceLT, Int.reduceToNat, Int.reducePow, decide_true, decide_false, cn0, cn1, cn2, cn3, cn4, cn5, cn6, cn7, cn8, cn9, cn10, cn11, cn12, List.set_cons_zero, List.set_cons_succ, tn0, tn1, tn2, tn3, tn4, tn5, tn6, tn7, tn8, eLn_ap, tLn_ap, lnd_nil, lnd_cons, lend_ow, lend_dc, lend_un, lend_vl, scD_bl, scD_int, scD_non, scD_str, sParL_ap, frz_ap, chL_ap, chK_ap, chLt_ap, chKt_ap, asB_ap]
    | false => simp only [oD, endP, dIs, isNon, vls_nil, vls_cons, uns_zero, uns_succ, gt_zero, gt_succ, st_zero, st_succ, bnd_ap, ret_ap, lift_some, eC_ap, eV_ap, e2_ap, eB_ap, eNot_ap, tNot_ap, tAnd_app, tOr_app, ite_ap, eAnd_ap, eOr_ap, e3_app, eIf_ap, brk_ap, brk'_ap, ite_bl, ite_bo, ite_tb, ite_to, ↓reduceIte, Bool.false_eq_true, Bool.not_true, Bool.not_false, aN_ap, aC_ap, eT_ap, eL_ap, fL_ap, eB1_ap, eIsi_ap, eIsiA_ap, e1n_ap, oS_ap, eSl_ap, eCall_ap, fCall_ap, eCall1_ap, eOx_ap, eDGet_ap, eDSort_ap, iS_ap, iR1_ap, iR2_ap, iE_ap, iZ_ap, gN_ap, gT2, gT3, sSeq_ap, sNext_ap, sExpr_ap, sRet_ap, sRetF_ap, sIf_ap, sAsg_ap, sPar_ap, sParD_ap, sPut_ap, sDPut_ap, sBind_ap, sOwn_ap, sApp_ap, sRetO_ap, eSortSet_ap, sFor_ap, sBag_ap, finB_2, own0_ap, fin0_0, fin1_0, fin0_1, fin1_1, fin0_2, fin1_2, fin0_3, fin1_3, fin0_4, fin1_4, fin0_5, fin1_5, fin0_6, fin1_6, fin0_7, fin1_7, fin0_8, fin1_8, dI0_ap, dAdd_ii, dLen_t, dLen_l, dTuple_l, dTuple_t, dList_l, dList_t, dMax_ii, dMin_ii, dIx_t, dIx_l, atI_0, atI_1, atI_2, atI_3, dSl_t, dSl_l, dSl_s, dNe_ii, dEq_ii, ifz, ifz', Option.map_some, List.length_cons, List.length_nil, List.length_append, List.length_map, zl0, zm0, zl1, zm1, zl2, zm2, zl3, zm3, zl4, zm4, zl5, zm5, zl6, zm6, zl7, zm7, zl8, zm8, zl9, zm9, zl10, zm10, zl11, zm11, zl12, zm12, zl13, zm13, zl14, zm14, zl15, zm15, zl16, zm16, Nat.zero_add, Nat.reduceAdd, Int.reduceAdd, Int.reduceSub, Int.reduceMul, Int.reduceNeg, Int.reduceEq, Int.reduceLE, Int.reduceLT, Int.reduceToNat, Int.reducePow, decide_true, decide_false, cn0, cn1, cn2, cn3, cn4, cn5, cn6, cn7, cn8, cn9, cn10, cn11, cn12, List.set_cons_zero, List.set_cons_succ, tn0, tn1, tn2, tn3, tn4, tn5, tn6, tn7, tn8, eLn_ap, tLn_ap, lnd_nil, lnd_cons, lend_ow, lend_dc, lend_un, lend_vl, scD_bl, scD_int, scD_non, scD_str, sParL_ap, frz_ap, chL_ap, chK_ap, chLt_ap, chKt_ap, asB_ap, len_ws]
  | some k =>
    obtain ⟨t, e1, e2⟩ := ts_at (h k rfl)
    cases b with
    | true => simp only [oD, startP, e1, dIs, isNon, vls_nil, vls_cons, uns_zero, uns_succ, gt_zero, gt_succ, st_zero, st_succ, bnd_ap, ret_ap, lift_some, eC_ap, eV_ap, e2_ap, eB_ap, eNot_ap, tNot_ap, tAnd_app, tOr_app, ite_ap, eAnd_ap, eOr_ap, e3_app, eIf_ap, brk_ap, brk'_ap, ite_bl, ite_bo, ite_tb, ite_to, ↓reduceIte, Bool.false_eq_true, Bool.not_true, Bool.not_false, aN_ap, aC_ap, eT_ap, eL_ap, fL_ap, eB1_ap, eIsi_ap, eIsiA_ap, e1n_ap, oS_ap, eSl_ap, eCall_ap, fCall_ap, eCall1_ap, eOx_ap, eDGet_ap, eDSort_ap, iS_ap, iR1_ap, iR2_ap, iE_ap, iZ_ap, gN_ap, gT2, gT3, sSeq_ap, sNext_ap, sExpr_ap, sRet_ap, sRetF_ap, sIf_ap, sAsg_ap, sPar_ap, sParD_ap, sPut_ap, sDPut_ap, sBind_ap, sOwn_ap, sApp_ap, sRetO_ap, eSortSet_ap, sFor_ap, sBag_ap, finB_2, own0_ap, fin0_0, fin1_0, fin0_1, fin1_1, fin0_2, fin1_2, fin0_3, fin1_3, fin0_4, fin1_4, fin0_5, fin1_5, fin0_6, fin1_6, fin0_7, fin1_7, fin0_8, fin1_8, dI0_ap, dAdd_ii, dLen_t, dLen_l, dTuple_l, dTuple_t, dList_l, dList_t, dMax_ii, dMin_ii, dIx_t, dIx_l, atI_0, atI_1, atI_2, atI_3, dSl_t, dSl_l, dSl_s, dNe_ii, dEq_ii, ifz, ifz', Option.map_some, List.length_cons, List.length_nil, List.length_append, List.length_map, zl0, zm0, zl1, zm1, zl2, zm2, zl3, zm3, zl4, zm4, zl5, zm5, zl6, zm6, zl7, zm7, zl8, zm8, zl9, zm9, zl10, zm10, zl11, zm11, zl12, zm12, zl13, zm13, zl14, zm14, zl15, zm15, zl16, zm16, Nat.zero_add, Nat.reduceAdd, Int.reduceAdd, Int.reduceSub, Int.reduceMul, Int.reduceNeg, Int.reduceEq, Int.reduceLE, Int.reduceLT, Int.reduceToNat, Int.reducePow, decide_true, decide_false, cn0, cn1, cn2, cn3, cn4, cn5, cn6, cn7, cn8, cn9, cn10, cn11, cn12, List.set_cons_zero, List.set_cons_succ, tn0, tn1, tn2, tn3, tn4, tn5, tn6, tn7, tn8, eLn_ap, tLn_ap, lnd_nil, lnd_cons, lend_ow, lend_dc, lend_un, lend_vl, scD_bl, scD_int, scD_non, scD_str, sParL_ap, frz_ap, chL_ap, chK_ap, chLt_ap, chKt_ap, asB_ap, e2, tD]
    | false => simp only [oD, endP, e1, dIs, isNon, vls_nil, vls_cons, uns_zero, uns_succ, gt_zero, gt_succ, st_zero, st_succ, bnd_ap, ret_ap, lift_some, eC_ap, eV_ap, e2_ap, eB_ap, eNot_ap, tNot_ap, tAnd_app, tOr_app, ite_ap, eAnd_ap, eOr_ap, e3_app, eIf_ap, brk_ap, brk'_ap, ite_bl, ite_bo, ite_tb, ite_to, ↓reduceIte, Bool.false_eq_true, Bool.not_true, Bool.not_false, aN_ap, aC_ap, eT_ap, eL_ap, fL_ap, eB1_ap, eIsi_ap, eIsiA_ap, e1n_ap, oS_ap, eSl_ap, eCall_ap, fCall_ap, eCall1_ap, eOx_ap, eDGet_ap, eDSort_ap, iS_ap, iR1_ap, iR2_ap, iE_ap, iZ_ap, gN_ap, gT2, gT3, sSeq_ap, sNext_ap, sExpr_ap, sRet_ap, sRetF_ap, sIf_ap, sAsg_ap, sPar_ap, sParD_ap, sPut_ap, sDPut_ap, sBind_ap, sOwn_ap, sApp_ap, sRetO_ap, eSortSet_ap, sFor_ap, sBag_ap, finB_2, own0_ap, fin0_0, fin1_0, fin0_1, fin1_1, fin0_2, fin1_2, fin0_3, fin1_3, fin0_4, fin1_4, fin0_5, fin1_5, fin0_6, fin1_6, fin0_7, fin1_7, fin0_8, fin1_8, dI0_ap, dAdd_ii, dLen_t, dLen_l, dTuple_l, dTuple_t, dList_l, dList_t, dMax_ii, dMin_ii, dIx_t, dIx_l, atI_0, atI_1, atI_2, atI_3, dSl_t, dSl_l, dSl_s, dNe_ii, dEq_ii, ifz, ifz', Option.map_some, List.length_cons, List.length_nil, List.length_append, List.length_map, zl0, zm0, zl1, zm1, zl2, zm2, zl3, zm3, zl4, zm4, zl5, zm5, zl6, zm6, zl7, zm7, zl8, zm8, zl9, zm9, zl10, zm10, zl11, zm11, zl12, zm12, zl13, zm13, zl14, zm14, zl15, zm15, zl16, zm16, Nat.zero_add, Nat.reduceAdd, Int.reduceAdd, Int.reduceSub, Int.reduceMul, Int.reduceNeg, Int.reduceEq, Int.reduceLE, Int.reduceLT, Int.reduceToNat, Int.reducePow, decide_true, decide_false, cn0, cn1, cn2, cn3, cn4, cn5, cn6, cn7, cn8, cn9, cn10, cn11, cn12, List.set_cons_zero, List.set_cons_succ, tn0, tn1, tn2, tn3, tn4, tn5, tn6, tn7, tn8, eLn_ap, tLn_ap, lnd_nil, lnd_cons, lend_ow, lend_dc, lend_un, lend_vl, scD_bl, scD_int, scD_non, scD_str, sParL_ap, frz_ap, chL_ap, chK_ap, chLt_ap, chKt_ap, asB_ap, e2, tD]
theorem excess_ok {ws : List Win} {ts : List Tal} {p : Idx × Idx} (hw : WsOk ws) (h1 : IxOk ts.length p.1) (h2 : IxOk ts.length p.2) : m_excess [wsD ws, tsD ts, pD p] = some (.rt (.int (exc ws ts p))) := by
  have e1 := place_ok (ws := ws) h1 true
  have e2 := place_ok (ws := ws) h2 false
  unfold m_excess b_excess pD
  simp only [vls_nil, vls_cons, uns_zero, uns_succ, gt_zero, gt_succ, st_zero, st_succ, bnd_ap, ret_ap, lift_some, eC_ap, eV_ap, e2_ap, eB_ap, eNot_ap, tNot_ap, tAnd_app, tOr_app, ite_ap, eAnd_ap, eOr_ap, e3_app, eIf_ap, brk_ap, brk'_ap, ite_bl, ite_bo, ite_tb, ite_to, ↓reduceIte, Bool.false_eq_true, Bool.not_true, Bool.not_false, aN_ap, aC_ap, eT_ap, eL_ap, fL_ap, eB1_ap, eIsi_ap, eIsiA_ap, e1n_ap, oS_ap, eSl_ap, eCall_ap, fCall_ap, eCall1_ap, eOx_ap, eDGet_ap, eDSort_ap, iS_ap, iR1_ap, iR2_ap, iE_ap, iZ_ap, gN_ap, gT2, gT3, sSeq_ap, sNext_ap, sExpr_ap, sRet_ap, sRetF_ap, sIf_ap, sAsg_ap, sPar_ap, sParD_ap, sPut_ap, sDPut_ap, sBind_ap, sOwn_ap, sApp_ap, sRetO_ap, eSortSet_ap, sFor_ap, sBag_ap, finB_2, own0_ap, fin0_0, fin1_0, fin0_1, fin1_1, fin0_2, fin1_2, fin0_3, fin1_3, fin0_4, fin1_4, fin0_5, fin1_5, fin0_6, fin1_6, fin0_7, fin1_7, fin0_8, fin1_8, dI0_ap, dAdd_ii, dLen_t, dLen_l, dTuple_l, dTuple_t, dList_l, dList_t, dMax_ii, dMin_ii, dIx_t, dIx_l, atI_0, atI_1, atI_2, atI_3, dSl_t, dSl_l, dSl_s, dNe_ii, dEq_ii, ifz, ifz', Option.map_some, List.length_cons, List.length_nil, List.length_append, List.length_map, zl0, zm0, zl1, zm1, zl2, zm2, zl3, zm3, zl4, zm4, zl5, zm5, zl6, zm6, zl7, zm7, zl8, zm8, zl9, zm9, zl10, zm10, zl11, zm11, zl12, zm12, zl13, zm13, zl14, zm14, zl15, zm15, zl16, zm16, Nat.zero_add, Nat.reduceAdd, Int.reduceAdd, Int.reduceSub, Int.reduceMul, Int.reduceNeg, Int.reduceEq, Int.reduceLE, Int.reduceLT, Int.reduceToNat, Int.reducePow, decide_true, decide_false, cn0, cn1, cn2, cn3, cn4, cn5, cn6, cn7, cn8, cn9, cn10, cn11, cn12, List.set_cons_zero, List.set_cons_succ, tn0, tn1, tn2, tn3, tn4, tn5, tn6, tn7, tn8, eLn_ap, tLn_ap, lnd_nil, lnd_cons, lend_ow, lend_dc, lend_un, lend_vl, scD_bl, scD_int, scD_non, scD_str, sParL_ap, frz_ap, chL_ap, chK_ap, chLt_ap, chKt_ap, asB_ap] at e1 e2
  simp only [vls_nil, vls_cons, uns_zero, uns_succ, gt_zero, gt_succ, st_zero, st_succ, bnd_ap, ret_ap, lift_some, eC_ap, eV_ap, e2_ap, eB_ap, eNot_ap, tNot_ap, tAnd_app, tOr_app, ite_ap, eAnd_ap, eOr_ap, e3_app, eIf_ap, brk_ap, brk'_ap, ite_bl, ite_bo, ite_tb, ite_to, ↓reduceIte, Bool.false_eq_true, Bool.not_true, Bool.not_false, aN_ap, aC_ap, eT_ap, eL_ap, fL_ap, eB1_ap, eIsi_ap, eIsiA_ap, e1n_ap, oS_ap, eSl_ap, eCall_ap, fCall_ap, eCall1_ap, eOx_ap, eDGet_ap, eDSort_ap, iS_ap, iR1_ap, iR2_ap, iE_ap, iZ_ap, gN_ap, gT2, gT3, sSeq_ap, sNext_ap, sExpr_ap, sRet_ap, sRetF_ap, sIf_ap, sAsg_ap, sPar_ap, sParD_ap, sPut_ap, sDPut_ap, sBind_ap, sOwn_ap, sApp_ap, sRetO_ap, eSortSet_ap, sFor_ap, sBag_ap, finB_2, own0_ap, fin0_0, fin1_0, fin0_1, fin1_1, fin0_2, fin1_2, fin0_3, fin1_3, fin0_4, fin1_4, fin0_5, fin1_5, fin0_6, fin1_6, fin0_7, fin1_7, fin0_8, fin1_8, dI0_ap, dAdd_ii, dLen_t, dLen_l, dTuple_l, dTuple_t, dList_l, dList_t, dMax_ii, dMin_ii, dIx_t, dIx_l, atI_0, atI_1, atI_2, atI_3, dSl_t, dSl_l, dSl_s, dNe_ii, dEq_ii, ifz, ifz', Option.map_some, List.length_cons, List.length_nil, List.length_append, List.length_map, zl0, zm0, zl1, zm1, zl2, zm2, zl3, zm3, zl4, zm4, zl5, zm5, zl6, zm6, zl7, zm7, zl8, zm8, zl9, zm9, zl10, zm10, zl11, zm11, zl12, zm12, zl13, zm13, zl14, zm14, zl15, zm15, zl16, zm16, Nat.zero_add, Nat.reduceAdd, Int.reduceAdd, Int.reduceSub, Int.reduceMul, Int.reduceNeg, Int.reduceEq, Int.reduceLE, Int.reduceLT, Int.reduceToNat, Int.reducePow, decide_true, decide_false, cn0, cn1, cn2, cn3, cn4, cn5, cn6, cn7, cn8, cn9, cn10, cn11, cn12, List.set_cons_zero, List.set_cons_succ, tn0, tn1, tn2, tn3, tn4, tn5, tn6, tn7, tn8, eLn_ap, tLn_ap, lnd_nil, lnd_cons, lend_ow, lend_dc, lend_un, lend_vl, scD_bl, scD_int, scD_non, scD_str, sParL_ap, frz_ap, chL_ap, chK_ap, chLt_ap, chKt_ap, asB_ap, e1, e2, inside_of_ok hw, exc]
theorem pairs_ix {m : Nat} {p : Idx × Idx} (h : p ∈ pairsL m) : IxOk m p.1 ∧ IxOk m p.2 := by
  unfold pairsL at h
  simp only [List.mem_append, List.mem_cons, List.not_mem_nil, or_false, List.mem_map, List.mem_range, List.mem_flatMap] at h
  rcases h with ((rfl | ⟨j, hj, rfl⟩) | ⟨i, hi, rfl⟩) | ⟨i, hi, j, hj, rfl⟩
  · exact ⟨fun k e => (nomatch e), fun k e => (nomatch e)⟩
  · exact ⟨fun k e => (nomatch e), fun k e => by cases e; exact hj⟩
  · exact ⟨fun k e => by cases e; exact hi, fun k e => (nomatch e)⟩
  · exact ⟨fun k e => by cases e; exact hi, fun k e => by cases e; omega⟩
def conf (ws : List Win) (ts : List Tal) : Option (Idx × Idx) := (pairsL ts.length).find? fun p => decide (0 < exc ws ts p)
def confD (o : Option (Idx × Idx)) : D := match o with
  | none => .non
  | some p => pD p
theorem conflict_of_ok {ws : List Win} {ts : List Tal} (hw : WsOk ws) (ht : ts.length ≤ 1000) : m_conflict_of [wsD ws, tsD ts] = some (.rt (confD (conf ws ts))) := by
  obtain ⟨S', ⟨c, rfl⟩, hf⟩ := forGo_find (enc := pD) (g := gN 2) (body := L_conflict_of_1) (fun S => ∃ c, S = [.vl (wsD ws), .vl (tsD ts), c]) (fun p => decide (0 < exc ws ts p)) pD (pairsL ts.length) [.vl (wsD ws), .vl (tsD ts), .un] ⟨_, rfl⟩ (by
    rintro p hp S ⟨c, rfl⟩
    obtain ⟨i1, i2⟩ := pairs_ix hp
    refine ⟨_, rfl, [.vl (wsD ws), .vl (tsD ts), .vl (pD p)], ⟨_, rfl⟩, ?_⟩
    unfold L_conflict_of_1
    by_cases q : 0 < exc ws ts p
    · refine .inl ⟨decide_eq_true q, ?_⟩
      simp only [vls_nil, vls_cons, uns_zero, uns_succ, gt_zero, gt_succ, st_zero, st_succ, bnd_ap, ret_ap, lift_some, eC_ap, eV_ap, e2_ap, eB_ap, eNot_ap, tNot_ap, tAnd_app, tOr_app, ite_ap, eAnd_ap, eOr_ap, e3_app, eIf_ap, brk_ap, brk'_ap, ite_bl, ite_bo, ite_tb, ite_to, ↓reduceIte, Bool.false_eq_true, Bool.not_true, Bool.not_false, aN_ap, aC_ap, eT_ap, eL_ap, fL_ap, eB1_ap, eIsi_ap, eIsiA_ap, e1n_ap, oS_ap, eSl_ap, eCall_ap, fCall_ap, eCall1_ap, eOx_ap, eDGet_ap, eDSort_ap, iS_ap, iR1_ap, iR2_ap, iE_ap, iZ_ap, gN_ap, gT2, gT3, sSeq_ap, sNext_ap, sExpr_ap, sRet_ap, sRetF_ap, sIf_ap, sAsg_ap, sPar_ap, sParD_ap, sPut_ap, sDPut_ap, sBind_ap, sOwn_ap, sApp_ap, sRetO_ap, eSortSet_ap, sFor_ap, sBag_ap, finB_2, own0_ap, fin0_0, fin1_0, fin0_1, fin1_1, fin0_2, fin1_2, fin0_3, fin1_3, fin0_4, fin1_4, fin0_5, fin1_5, fin0_6, fin1_6, fin0_7, fin1_7, fin0_8, fin1_8, dI0_ap, dAdd_ii, dLen_t, dLen_l, dTuple_l, dTuple_t, dList_l, dList_t, dMax_ii, dMin_ii, dIx_t, dIx_l, atI_0, atI_1, atI_2, atI_3, dSl_t, dSl_l, dSl_s, dNe_ii, dEq_ii, ifz, ifz', Option.map_some, List.length_cons, List.length_nil, List.length_append, List.length_map, zl0, zm0, zl1, zm1, zl2, zm2, zl3, zm3, zl4, zm4, zl5, zm5, zl6, zm6, zl7, zm7, zl8, zm8, zl9, zm9, zl10, zm10, zl11, zm11, zl12, zm12, zl13, zm13, zl14, zm14, zl15, zm15, zl16, zm16, Nat.zero_add, Nat.reduceAdd, Int.reduceAdd, Int.reduceSub, Int.reduceMul, Int.reduceNeg, Int.reduceEq, Int.reduceLE, Int.reduceLT, Int.reduceToNat, Int.reducePow, decide_true, decide_false, cn0, cn1, cn2, cn3, cn4, cn5, cn6, cn7, cn8, cn9, cn10, cn11, cn12, List.set_cons_zero, List.set_cons_succ, tn0, tn1, tn2, tn3, tn4, tn5, tn6, tn7, tn8, eLn_ap, tLn_ap, lnd_nil, lnd_cons, lend_ow, lend_dc, lend_un, lend_vl, scD_bl, scD_int, scD_non, scD_str, sParL_ap, frz_ap, chL_ap, chK_ap, chLt_ap, chKt_ap, asB_ap, excess_ok hw i1 i2, decide_eq_true q]
    · refine .inr ⟨decide_eq_false q, .inl ?_⟩
      simp only [vls_nil, vls_cons, uns_zero, uns_succ, gt_zero, gt_succ, st_zero, st_succ, bnd_ap, ret_ap, lift_some, eC_ap, eV_ap, e2_ap, eB_ap, eNot_ap, tNot_ap, tAnd_app, tOr_app, ite_ap, eAnd_ap, eOr_ap, e3_app, eIf_ap, brk_ap, brk'_ap, ite_bl, ite_bo, ite_tb, ite_to, ↓reduceIte, Bool.false_eq_true, Bool.not_true, Bool.not_false, aN_ap, aC_ap, eT_ap, eL_ap, fL_ap, eB1_ap, eIsi_ap, eIsiA_ap, e1n_ap, oS_ap, eSl_ap, eCall_ap, fCall_ap, eCall1_ap, eOx_ap, eDGet_ap, eDSort_ap, iS_ap, iR1_ap, iR2_ap, iE_ap, iZ_ap, gN_ap, gT2, gT3, sSeq_ap, sNext_ap, sExpr_ap, sRet_ap, sRetF_ap, sIf_ap, sAsg_ap, sPar_ap, sParD_ap, sPut_ap, sDPut_ap, sBind_ap, sOwn_ap, sApp_ap, sRetO_ap, eSortSet_ap, sFor_ap, sBag_ap, finB_2, own0_ap, fin0_0, fin1_0, fin0_1, fin1_1, fin0_2, fin1_2, fin0_3, fin1_3, fin0_4, fin1_4, fin0_5, fin1_5, fin0_6, fin1_6, fin0_7, fin1_7, fin0_8, fin1_8, dI0_ap, dAdd_ii, dLen_t, dLen_l, dTuple_l, dTuple_t, dList_l, dList_t, dMax_ii, dMin_ii, dIx_t, dIx_l, atI_0, atI_1, atI_2, atI_3, dSl_t, dSl_l, dSl_s, dNe_ii, dEq_ii, ifz, ifz', Option.map_some, List.length_cons, List.length_nil, List.length_append, List.length_map, zl0, zm0, zl1, zm1, zl2, zm2, zl3, zm3, zl4, zm4, zl5, zm5, zl6, zm6, zl7, zm7, zl8, zm8, zl9, zm9, zl10, zm10, zl11, zm11, zl12, zm12, zl13, zm13, zl14, zm14, zl15, zm15, zl16, zm16, Nat.zero_add, Nat.reduceAdd, Int.reduceAdd, Int.reduceSub, Int.reduceMul, Int.reduceNeg, Int.reduceEq, Int.reduceLE, Int.reduceLT, Int.reduceToNat, Int.reducePow, decide_true, decide_false, cn0, cn1, cn2, cn3, cn4, cn5, cn6, cn7, cn8, cn9, cn10, cn11, cn12, List.set_cons_zero, List.set_cons_succ, tn0, tn1, tn2, tn3, tn4, tn5, tn6, tn7, tn8, eLn_ap, tLn_ap, lnd_nil, lnd_cons, lend_ow, lend_dc, lend_un, lend_vl, scD_bl, scD_int, scD_non, scD_str, sParL_ap, frz_ap, chL_ap, chK_ap, chLt_ap, chKt_ap, asB_ap, excess_ok hw i1 i2, decide_eq_false q])
  unfold m_conflict_of b_conflict_of conf
  rcases hf with ⟨p, e1, e2⟩ | ⟨e1, e2⟩
  · simp only [vls_nil, vls_cons, uns_zero, uns_succ, gt_zero, gt_succ, st_zero, st_succ, bnd_ap, ret_ap, lift_some, eC_ap, eV_ap, e2_ap, eB_ap, eNot_ap, tNot_ap, tAnd_app, tOr_app, ite_ap, eAnd_ap, eOr_ap, e3_app, eIf_ap, brk_ap, brk'_ap, ite_bl, ite_bo, ite_tb, ite_to, ↓reduceIte, Bool.false_eq_true, Bool.not_true, Bool.not_false, aN_ap, aC_ap, eT_ap, eL_ap, fL_ap, eB1_ap, eIsi_ap, eIsiA_ap, e1n_ap, oS_ap, eSl_ap, eCall_ap, fCall_ap, eCall1_ap, eOx_ap, eDGet_ap, eDSort_ap, iS_ap, iR1_ap, iR2_ap, iE_ap, iZ_ap, gN_ap, gT2, gT3, sSeq_ap, sNext_ap, sExpr_ap, sRet_ap, sRetF_ap, sIf_ap, sAsg_ap, sPar_ap, sParD_ap, sPut_ap, sDPut_ap, sBind_ap, sOwn_ap, sApp_ap, sRetO_ap, eSortSet_ap, sFor_ap, sBag_ap, finB_2, own0_ap, fin0_0, fin1_0, fin0_1, fin1_1, fin0_2, fin1_2, fin0_3, fin1_3, fin0_4, fin1_4, fin0_5, fin1_5, fin0_6, fin1_6, fin0_7, fin1_7, fin0_8, fin1_8, dI0_ap, dAdd_ii, dLen_t, dLen_l, dTuple_l, dTuple_t, dList_l, dList_t, dMax_ii, dMin_ii, dIx_t, dIx_l, atI_0, atI_1, atI_2, atI_3, dSl_t, dSl_l, dSl_s, dNe_ii, dEq_ii, ifz, ifz', Option.map_some, List.length_cons, List.length_nil, List.length_append, List.length_map, zl0, zm0, zl1, zm1, zl2, zm2, zl3, zm3, zl4, zm4, zl5, zm5, zl6, zm6, zl7, zm7, zl8, zm8, zl9, zm9, zl10, zm10, zl11, zm11, zl12, zm12, zl13, zm13, zl14, zm14, zl15, zm15, zl16, zm16, Nat.zero_add, Nat.reduceAdd, Int.reduceAdd, Int.reduceSub, Int.reduceMul, Int.reduceNeg, Int.reduceEq, Int.reduceLE, Int.reduceLT, Int.reduceToNat, Int.reducePow, decide_true, decide_false, cn0, cn1, cn2, cn3, cn4, cn5, cn6, cn7, cn8, cn9, cn10, cn11, cn12, List.set_cons_zero, List.set_cons_succ, tn0, tn1, tn2, tn3, tn4, tn5, tn6, tn7, tn8, eLn_ap, tLn_ap, lnd_nil, lnd_cons, lend_ow, lend_dc, lend_un, lend_vl, scD_bl, scD_int, scD_non, scD_str, sParL_ap, frz_ap, chL_ap, chK_ap, chLt_ap, chKt_ap, asB_ap, pairs_of_ok ht, e1, e2]; rfl
  · simp only [vls_nil, vls_cons, uns_zero, uns_succ, gt_zero, gt_succ, st_zero, st_succ, bnd_ap, ret_ap, lift_some, eC_ap, eV_ap, e2_ap, eB_ap, eNot_ap, tNot_ap, tAnd_app, tOr_app, ite_ap, eAnd_ap, eOr_ap, e3_app, eIf_ap, brk_ap, brk'_ap, ite_bl, ite_bo, ite_tb, ite_to, ↓reduceIte, Bool.false_eq_true, Bool.not_true, Bool.not_false, aN_ap, aC_ap, eT_ap, eL_ap, fL_ap, eB1_ap, eIsi_ap, eIsiA_ap, e1n_ap, oS_ap, eSl_ap, eCall_ap, fCall_ap, eCall1_ap, eOx_ap, eDGet_ap, eDSort_ap, iS_ap, iR1_ap, iR2_ap, iE_ap, iZ_ap, gN_ap, gT2, gT3, sSeq_ap, sNext_ap, sExpr_ap, sRet_ap, sRetF_ap, sIf_ap, sAsg_ap, sPar_ap, sParD_ap, sPut_ap, sDPut_ap, sBind_ap, sOwn_ap, sApp_ap, sRetO_ap, eSortSet_ap, sFor_ap, sBag_ap, finB_2, own0_ap, fin0_0, fin1_0, fin0_1, fin1_1, fin0_2, fin1_2, fin0_3, fin1_3, fin0_4, fin1_4, fin0_5, fin1_5, fin0_6, fin1_6, fin0_7, fin1_7, fin0_8, fin1_8, dI0_ap, dAdd_ii, dLen_t, dLen_l, dTuple_l, dTuple_t, dList_l, dList_t, dMax_ii, dMin_ii, dIx_t, dIx_l, atI_0, atI_1, atI_2, atI_3, dSl_t, dSl_l, dSl_s, dNe_ii, dEq_ii, ifz, ifz', Option.map_some, List.length_cons, List.length_nil, List.length_append, List.length_map, zl0, zm0, zl1, zm1, zl2, zm2, zl3, zm3, zl4, zm4, zl5, zm5, zl6, zm6, zl7, zm7, zl8, zm8, zl9, zm9, zl10, zm10, zl11, zm11, zl12, zm12, zl13, zm13, zl14, zm14, zl15, zm15, zl16, zm16, Nat.zero_add, Nat.reduceAdd, Int.reduceAdd, Int.reduceSub, Int.reduceMul, Int.reduceNeg, Int.reduceEq, Int.reduceLE, Int.reduceLT, Int.reduceToNat, Int.reducePow, decide_true, decide_false, cn0, cn1, cn2, cn3, cn4, cn5, cn6, cn7, cn8, cn9, cn10, cn11, cn12, List.set_cons_zero, List.set_cons_succ, tn0, tn1, tn2, tn3, tn4, tn5, tn6, tn7, tn8, eLn_ap, tLn_ap, lnd_nil, lnd_cons, lend_ow, lend_dc, lend_un, lend_vl, scD_bl, scD_int, scD_non, scD_str, sParL_ap, frz_ap, chL_ap, chK_ap, chLt_ap, chKt_ap, asB_ap, pairs_of_ok ht, e1, e2]; rfl
theorem isNon_conf (o : Option (Idx × Idx)) : isNon (confD o) = o.isNone := by cases o <;> rfl
/-- the pairs' points -/
theorem start_mem {ts : List Tal} {i : Idx} (h : IxOk ts.length i) : startP ts i ∈ ((-1 : Int), (0 : Int)) :: lows ts := by
  cases i with
  | none => exact List.mem_cons_self
  | some k =>
    have hk := h k rfl
    refine List.mem_cons_of_mem _ ?_
    simp only [startP, List.getElem?_eq_getElem hk]
    exact List.mem_map_of_mem (f := fun t : Tal => (t.1, t.2.1)) (List.getElem_mem hk)
theorem end_mem {n : Nat} {ts : List Tal} {i : Idx} (h : IxOk ts.length i) : endP n ts i ∈ ((1000 : Int), (n : Int)) :: highs ts := by
  cases i with
  | none => exact List.mem_cons_self
  | some k =>
    have hk := h k rfl
    refine List.mem_cons_of_mem _ ?_
    simp only [endP, List.getElem?_eq_getElem hk]
    exact List.mem_map_of_mem (f := fun t : Tal => (t.1, t.2.2)) (List.getElem_mem hk)
theorem inc_lt {ts : List Tal} (h : ts.Pairwise fun a b => a.1 < b.1) {i j : Nat} {a b : Tal} (hi : ts[i]? = some a) (hj : ts[j]? = some b) (hij : i < j) : a.1 < b.1 := by
  obtain ⟨h1, rfl⟩ := List.getElem?_eq_some_iff.mp hi
  obtain ⟨h2, rfl⟩ := List.getElem?_eq_some_iff.mp hj
  exact List.pairwise_iff_getElem.mp h i j h1 h2 hij
theorem pair_le {n : Nat} {ts : List Tal} (ht : TsOk n ts) {p : Idx × Idx} (hp : p ∈ pairsL ts.length) : (startP ts p.1).1 ≤ (endP n ts p.2).1 := by
  have tb : ∀ (k : Nat) (t : Tal), ts[k]? = some t → 0 ≤ t.1 ∧ t.1 ≤ 1000 := fun k t e => by
    obtain ⟨a1, a2, _⟩ := ht.ok t (List.mem_of_getElem? e)
    exact ⟨a1, a2⟩
  unfold pairsL at hp
  simp only [List.mem_append, List.mem_cons, List.not_mem_nil, or_false, List.mem_map, List.mem_range, List.mem_flatMap] at hp
  rcases hp with ((rfl | ⟨j, hj, rfl⟩) | ⟨i, hi, rfl⟩) | ⟨i, hi, j, hj, rfl⟩
  · simp [startP, endP]
  · have e := List.getElem?_eq_getElem hj
    have := tb j _ e
    simp only [startP, endP, e]; omega
  · have e := List.getElem?_eq_getElem hi
    have := tb i _ e
    simp only [startP, endP, e]; omega
  · have hij : i + j < ts.length := by omega
    have e := List.getElem?_eq_getElem hi
    have e2 := List.getElem?_eq_getElem hij
    simp only [startP, endP, e, e2]
    by_cases z : j = 0
    · subst z; simp
    · exact Int.le_of_lt (inc_lt ht.inc e e2 (by omega))
theorem conf_fit {ws : List Win} {ts : List Tal} (ht : TsOk ws.length ts) : conf ws ts = none ↔ Fit ws ts := by
  unfold conf
  rw [List.find?_eq_none]
  constructor
  · intro h p hp q hq hpq
    have key : ∃ i j, (i, j) ∈ pairsL ts.length ∧ startP ts i = p ∧ endP ws.length ts j = q := by
      have hp' : ∃ i, startP ts i = p ∧ IxOk ts.length i ∧ (i = none ∨ ∃ k t, i = some k ∧ ts[k]? = some t ∧ p = (t.1, t.2.1)) := by
        rcases List.mem_cons.mp hp with rfl | hp
        · exact ⟨none, rfl, fun k e => (nomatch e), .inl rfl⟩
        · obtain ⟨t, htm, rfl⟩ := List.mem_map.mp hp
          obtain ⟨k, hk, e⟩ := List.getElem_of_mem htm
          have e' : ts[k]? = some t := by rw [List.getElem?_eq_getElem hk, e]
          exact ⟨some k, by simp only [startP, e'], fun j e => by cases e; exact hk, .inr ⟨k, t, rfl, e', rfl⟩⟩
      have hq' : ∃ i, endP ws.length ts i = q ∧ IxOk ts.length i ∧ (i = none ∨ ∃ k t, i = some k ∧ ts[k]? = some t ∧ q = (t.1, t.2.2)) := by
        rcases List.mem_cons.mp hq with rfl | hq
        · exact ⟨none, rfl, fun k e => (nomatch e), .inl rfl⟩
        · obtain ⟨t, htm, rfl⟩ := List.mem_map.mp hq
          obtain ⟨k, hk, e⟩ := List.getElem_of_mem htm
          have e' : ts[k]? = some t := by rw [List.getElem?_eq_getElem hk, e]
          exact ⟨some k, by simp only [endP, e'], fun j e => by cases e; exact hk, .inr ⟨k, t, rfl, e', rfl⟩⟩
      obtain ⟨i, ei, oi, ci⟩ := hp'
      obtain ⟨j, ej, oj, cj⟩ := hq'
      refine ⟨i, j, ?_, ei, ej⟩
      unfold pairsL
      simp only [List.mem_append, List.mem_cons, List.not_mem_nil, or_false, List.mem_map, List.mem_range, List.mem_flatMap]
      rcases ci with rfl | ⟨a, ta, rfl, ea, rfl⟩
      · rcases cj with rfl | ⟨b, tb, rfl, eb, rfl⟩
        · exact .inl (.inl (.inl rfl))
        · exact .inl (.inl (.inr ⟨b, oj b rfl, rfl⟩))
      · rcases cj with rfl | ⟨b, tb, rfl, eb, rfl⟩
        · exact .inl (.inr ⟨a, oi a rfl, rfl⟩)
        · have hab : a ≤ b := by
            by_cases z : b < a
            · have := inc_lt ht.inc eb ea z
              simp only [] at hpq
              omega
            · omega
          have hb := oj b rfl
          exact .inr ⟨a, oi a rfl, b - a, by omega, by rw [show a + (b - a) = b by omega]⟩
    obtain ⟨i, j, hm, rfl, rfl⟩ := key
    have h1 := h (i, j) hm
    rw [decide_eq_true_eq] at h1
    have h2 : exc ws ts (i, j) = (startP ts i).2 + (insN ws (startP ts i).1 (endP ws.length ts j).1 : Int) - (endP ws.length ts j).2 := rfl
    rw [h2] at h1
    generalize (insN ws (startP ts i).1 (endP ws.length ts j).1 : Int) = z at *
    omega
  · intro h p hp
    obtain ⟨i1, i2⟩ := pairs_ix hp
    have h1 := h _ (start_mem i1) _ (end_mem i2) (pair_le ht hp)
    have h2 : exc ws ts p = (startP ts p.1).2 + (insN ws (startP ts p.1).1 (endP ws.length ts p.2).1 : Int) - (endP ws.length ts p.2).2 := rfl
    rw [decide_eq_true_eq, h2]
    generalize (insN ws (startP ts p.1).1 (endP ws.length ts p.2).1 : Int) = z at *
    omega
theorem agree_iff {ws : List Win} {ts : List Tal} (hw : WsOk ws) (ht : TsOk ws.length ts) : (conf ws ts).isNone = true ↔ ∃ xs, InWs ws xs ∧ keptT ts xs = true := by
  rw [Option.isNone_iff_eq_none, conf_fit ht, fit_iff hw fun t h => ⟨(ht.ok t h).1, (ht.ok t h).2.1⟩]
/-! the law's own pairs, all courses -/
def idxL (m : Nat) : List Idx := none :: (List.range m).map some
def okP : Idx → Idx → Bool
  | some a, some b => decide (a ≤ b)
  | _, _ => true
def rowD (r : (Idx × Idx) × Int) : D := .tup [oD r.1.1, oD r.1.2, .int r.2]
def lawRows (ws : List Win) (ts : List Tal) : List ((Idx × Idx) × Int) := (idxL ts.length).flatMap fun i => ((idxL ts.length).filter (okP i)).map fun j => ((i, j), exc ws ts (i, j))
def encS (ts : List Tal) (i : Idx) : D := .tup [oD i, .int (startP ts i).1, .int (startP ts i).2]
def encE (n : Nat) (ts : List Tal) (i : Idx) : D := .tup [oD i, .int (endP n ts i).1, .int (endP n ts i).2]
theorem idxL_ok {m : Nat} {i : Idx} (h : i ∈ idxL m) : IxOk m i := by
  unfold idxL at h
  rcases List.mem_cons.mp h with rfl | h
  · exact fun k e => (nomatch e)
  · obtain ⟨a, ha, rfl⟩ := List.mem_map.mp h
    exact fun k e => by cases e; exact List.mem_range.mp ha
theorem enum_range {β : Type} (ts : List Tal) (f : Tal × Nat → β) (g : Nat → β) (h : ∀ i t, ts[i]? = some t → f (t, i) = g i) : (ts.zipIdx 0).map f = (List.range ts.length).map g := by
  apply List.ext_getElem
  · simp
  · intro i h1 h2
    simp only [List.getElem_map, List.getElem_zipIdx, List.getElem_range, Nat.zero_add]
    exact h i _ (List.getElem?_eq_getElem _)
theorem law_pairs_ok {ws : List Win} {ts : List Tal} (hw : WsOk ws) (ht : ts.length ≤ 100) : m__law_pairs [wsD ws, tsD ts] = some (.ro ((lawRows ws ts).map rowD)) := by
  have c1 : ∀ c2 c3 c4 c5 c6 c7 c8 c9 c10 : C, C__law_pairs_1 [.vl (wsD ws), .vl (tsD ts), c2, c3, c4, c5, c6, c7, c8, c9, c10, .un, .un] = some (.ok (.lst ((ts.zipIdx 0).map fun p => .tup [.int (p.2 : Int), .int p.1.1, .int p.1.2.1])) [.vl (wsD ws), .vl (tsD ts), c2, c3, c4, c5, c6, c7, c8, c9, c10, .un, .un]) := fun c2 c3 c4 c5 c6 c7 c8 c9 c10 =>
    lcE_mapS (enc := fun p : Tal × Nat => .tup [.int (p.2 : Int), tD p.1]) (fun p => .tup [.int (p.2 : Int), .int p.1.1, .int p.1.2.1]) (by simp only [vls_nil, vls_cons, uns_zero, uns_succ, gt_zero, gt_succ, st_zero, st_succ, bnd_ap, ret_ap, lift_some, eC_ap, eV_ap, e2_ap, eB_ap, eNot_ap, tNot_ap, tAnd_app, tOr_app, ite_ap, eAnd_ap, eOr_ap, e3_app, eIf_ap, brk_ap, brk'_ap, ite_bl, ite_bo, ite_tb, ite_to, ↓reduceIte, Bool.false_eq_true, Bool.not_true, Bool.not_false, aN_ap, aC_ap, eT_ap, eL_ap, fL_ap, eB1_ap, eIsi_ap, eIsiA_ap, e1n_ap, oS_ap, eSl_ap, eCall_ap, fCall_ap, eCall1_ap, eOx_ap, eDGet_ap, eDSort_ap, iS_ap, iR1_ap, iR2_ap, iE_ap, iZ_ap, gN_ap, gT2, gT3, sSeq_ap, sNext_ap, sExpr_ap, sRet_ap, sRetF_ap, sIf_ap, sAsg_ap, sPar_ap, sParD_ap, sPut_ap, sDPut_ap, sBind_ap, sOwn_ap, sApp_ap, sRetO_ap, eSortSet_ap, sFor_ap, sBag_ap, finB_2, own0_ap, fin0_0, fin1_0, fin0_1, fin1_1, fin0_2, fin1_2, fin0_3, fin1_3, fin0_4, fin1_4, fin0_5, fin1_5, fin0_6, fin1_6, fin0_7, fin1_7, fin0_8, fin1_8, dI0_ap, dAdd_ii, dLen_t, dLen_l, dTuple_l, dTuple_t, dList_l, dList_t, dMax_ii, dMin_ii, dIx_t, dIx_l, atI_0, atI_1, atI_2, atI_3, dSl_t, dSl_l, dSl_s, dNe_ii, dEq_ii, ifz, ifz', Option.map_some, List.length_cons, List.length_nil, List.length_append, List.length_map, zl0, zm0, zl1, zm1, zl2, zm2, zl3, zm3, zl4, zm4, zl5, zm5, zl6, zm6, zl7, zm7, zl8, zm8, zl9, zm9, zl10, zm10, zl11, zm11, zl12, zm12, zl13, zm13, zl14, zm14, zl15, zm15, zl16, zm16, Nat.zero_add, Nat.reduceAdd, Int.reduceAdd, Int.reduceSub, Int.reduceMul, Int.reduceNeg, Int.reduceEq, Int.reduceLE, Int.reduceLT, Int.reduceToNat, Int.reducePow, decide_true, decide_false, cn0, cn1, cn2, cn3, cn4, cn5, cn6, cn7, cn8, cn9, cn10, cn11, cn12, List.set_cons_zero, List.set_cons_succ, tn0, tn1, tn2, tn3, tn4, tn5, tn6, tn7, tn8, eLn_ap, tLn_ap, lnd_nil, lnd_cons, lend_ow, lend_dc, lend_un, lend_vl, scD_bl, scD_int, scD_non, scD_str, sParL_ap, frz_ap, chL_ap, chK_ap, chLt_ap, chKt_ap, asB_ap, tsD, enumL_map]) (by rw [List.length_zipIdx]; omega) (fun x hx => ⟨_, gT2, by simp only [wp, vls_nil, vls_cons, uns_zero, uns_succ, gt_zero, gt_succ, st_zero, st_succ, bnd_ap, ret_ap, lift_some, eC_ap, eV_ap, e2_ap, eB_ap, eNot_ap, tNot_ap, tAnd_app, tOr_app, ite_ap, eAnd_ap, eOr_ap, e3_app, eIf_ap, brk_ap, brk'_ap, ite_bl, ite_bo, ite_tb, ite_to, ↓reduceIte, Bool.false_eq_true, Bool.not_true, Bool.not_false, aN_ap, aC_ap, eT_ap, eL_ap, fL_ap, eB1_ap, eIsi_ap, eIsiA_ap, e1n_ap, oS_ap, eSl_ap, eCall_ap, fCall_ap, eCall1_ap, eOx_ap, eDGet_ap, eDSort_ap, iS_ap, iR1_ap, iR2_ap, iE_ap, iZ_ap, gN_ap, gT2, gT3, sSeq_ap, sNext_ap, sExpr_ap, sRet_ap, sRetF_ap, sIf_ap, sAsg_ap, sPar_ap, sParD_ap, sPut_ap, sDPut_ap, sBind_ap, sOwn_ap, sApp_ap, sRetO_ap, eSortSet_ap, sFor_ap, sBag_ap, finB_2, own0_ap, fin0_0, fin1_0, fin0_1, fin1_1, fin0_2, fin1_2, fin0_3, fin1_3, fin0_4, fin1_4, fin0_5, fin1_5, fin0_6, fin1_6, fin0_7, fin1_7, fin0_8, fin1_8, dI0_ap, dAdd_ii, dLen_t, dLen_l, dTuple_l, dTuple_t, dList_l, dList_t, dMax_ii, dMin_ii, dIx_t, dIx_l, atI_0, atI_1, atI_2, atI_3, dSl_t, dSl_l, dSl_s, dNe_ii, dEq_ii, ifz, ifz', Option.map_some, List.length_cons, List.length_nil, List.length_append, List.length_map, zl0, zm0, zl1, zm1, zl2, zm2, zl3, zm3, zl4, zm4, zl5, zm5, zl6, zm6, zl7, zm7, zl8, zm8, zl9, zm9, zl10, zm10, zl11, zm11, zl12, zm12, zl13, zm13, zl14, zm14, zl15, zm15, zl16, zm16, Nat.zero_add, Nat.reduceAdd, Int.reduceAdd, Int.reduceSub, Int.reduceMul, Int.reduceNeg, Int.reduceEq, Int.reduceLE, Int.reduceLT, Int.reduceToNat, Int.reducePow, decide_true, decide_false, cn0, cn1, cn2, cn3, cn4, cn5, cn6, cn7, cn8, cn9, cn10, cn11, cn12, List.set_cons_zero, List.set_cons_succ, tn0, tn1, tn2, tn3, tn4, tn5, tn6, tn7, tn8, eLn_ap, tLn_ap, lnd_nil, lnd_cons, lend_ow, lend_dc, lend_un, lend_vl, scD_bl, scD_int, scD_non, scD_str, sParL_ap, frz_ap, chL_ap, chK_ap, chLt_ap, chKt_ap, asB_ap, tD], rfl⟩) rfl
  have c2 : ∀ c2 c3 c4 c5 c6 c7 c8 c9 c10 : C, C__law_pairs_2 [.vl (wsD ws), .vl (tsD ts), c2, c3, c4, c5, c6, c7, c8, c9, c10, .un, .un] = some (.ok (.lst ((ts.zipIdx 0).map fun p => .tup [.int (p.2 : Int), .int p.1.1, .int p.1.2.2])) [.vl (wsD ws), .vl (tsD ts), c2, c3, c4, c5, c6, c7, c8, c9, c10, .un, .un]) := fun c2 c3 c4 c5 c6 c7 c8 c9 c10 =>
    lcE_mapS (enc := fun p : Tal × Nat => .tup [.int (p.2 : Int), tD p.1]) (fun p => .tup [.int (p.2 : Int), .int p.1.1, .int p.1.2.2]) (by simp only [vls_nil, vls_cons, uns_zero, uns_succ, gt_zero, gt_succ, st_zero, st_succ, bnd_ap, ret_ap, lift_some, eC_ap, eV_ap, e2_ap, eB_ap, eNot_ap, tNot_ap, tAnd_app, tOr_app, ite_ap, eAnd_ap, eOr_ap, e3_app, eIf_ap, brk_ap, brk'_ap, ite_bl, ite_bo, ite_tb, ite_to, ↓reduceIte, Bool.false_eq_true, Bool.not_true, Bool.not_false, aN_ap, aC_ap, eT_ap, eL_ap, fL_ap, eB1_ap, eIsi_ap, eIsiA_ap, e1n_ap, oS_ap, eSl_ap, eCall_ap, fCall_ap, eCall1_ap, eOx_ap, eDGet_ap, eDSort_ap, iS_ap, iR1_ap, iR2_ap, iE_ap, iZ_ap, gN_ap, gT2, gT3, sSeq_ap, sNext_ap, sExpr_ap, sRet_ap, sRetF_ap, sIf_ap, sAsg_ap, sPar_ap, sParD_ap, sPut_ap, sDPut_ap, sBind_ap, sOwn_ap, sApp_ap, sRetO_ap, eSortSet_ap, sFor_ap, sBag_ap, finB_2, own0_ap, fin0_0, fin1_0, fin0_1, fin1_1, fin0_2, fin1_2, fin0_3, fin1_3, fin0_4, fin1_4, fin0_5, fin1_5, fin0_6, fin1_6, fin0_7, fin1_7, fin0_8, fin1_8, dI0_ap, dAdd_ii, dLen_t, dLen_l, dTuple_l, dTuple_t, dList_l, dList_t, dMax_ii, dMin_ii, dIx_t, dIx_l, atI_0, atI_1, atI_2, atI_3, dSl_t, dSl_l, dSl_s, dNe_ii, dEq_ii, ifz, ifz', Option.map_some, List.length_cons, List.length_nil, List.length_append, List.length_map, zl0, zm0, zl1, zm1, zl2, zm2, zl3, zm3, zl4, zm4, zl5, zm5, zl6, zm6, zl7, zm7, zl8, zm8, zl9, zm9, zl10, zm10, zl11, zm11, zl12, zm12, zl13, zm13, zl14, zm14, zl15, zm15, zl16, zm16, Nat.zero_add, Nat.reduceAdd, Int.reduceAdd, Int.reduceSub, Int.reduceMul, Int.reduceNeg, Int.reduceEq, Int.reduceLE, Int.reduceLT, Int.reduceToNat, Int.reducePow, decide_true, decide_false, cn0, cn1, cn2, cn3, cn4, cn5, cn6, cn7, cn8, cn9, cn10, cn11, cn12, List.set_cons_zero, List.set_cons_succ, tn0, tn1, tn2, tn3, tn4, tn5, tn6, tn7, tn8, eLn_ap, tLn_ap, lnd_nil, lnd_cons, lend_ow, lend_dc, lend_un, lend_vl, scD_bl, scD_int, scD_non, scD_str, sParL_ap, frz_ap, chL_ap, chK_ap, chLt_ap, chKt_ap, asB_ap, tsD, enumL_map]) (by rw [List.length_zipIdx]; omega) (fun x hx => ⟨_, gT2, by simp only [wp, vls_nil, vls_cons, uns_zero, uns_succ, gt_zero, gt_succ, st_zero, st_succ, bnd_ap, ret_ap, lift_some, eC_ap, eV_ap, e2_ap, eB_ap, eNot_ap, tNot_ap, tAnd_app, tOr_app, ite_ap, eAnd_ap, eOr_ap, e3_app, eIf_ap, brk_ap, brk'_ap, ite_bl, ite_bo, ite_tb, ite_to, ↓reduceIte, Bool.false_eq_true, Bool.not_true, Bool.not_false, aN_ap, aC_ap, eT_ap, eL_ap, fL_ap, eB1_ap, eIsi_ap, eIsiA_ap, e1n_ap, oS_ap, eSl_ap, eCall_ap, fCall_ap, eCall1_ap, eOx_ap, eDGet_ap, eDSort_ap, iS_ap, iR1_ap, iR2_ap, iE_ap, iZ_ap, gN_ap, gT2, gT3, sSeq_ap, sNext_ap, sExpr_ap, sRet_ap, sRetF_ap, sIf_ap, sAsg_ap, sPar_ap, sParD_ap, sPut_ap, sDPut_ap, sBind_ap, sOwn_ap, sApp_ap, sRetO_ap, eSortSet_ap, sFor_ap, sBag_ap, finB_2, own0_ap, fin0_0, fin1_0, fin0_1, fin1_1, fin0_2, fin1_2, fin0_3, fin1_3, fin0_4, fin1_4, fin0_5, fin1_5, fin0_6, fin1_6, fin0_7, fin1_7, fin0_8, fin1_8, dI0_ap, dAdd_ii, dLen_t, dLen_l, dTuple_l, dTuple_t, dList_l, dList_t, dMax_ii, dMin_ii, dIx_t, dIx_l, atI_0, atI_1, atI_2, atI_3, dSl_t, dSl_l, dSl_s, dNe_ii, dEq_ii, ifz, ifz', Option.map_some, List.length_cons, List.length_nil, List.length_append, List.length_map, zl0, zm0, zl1, zm1, zl2, zm2, zl3, zm3, zl4, zm4, zl5, zm5, zl6, zm6, zl7, zm7, zl8, zm8, zl9, zm9, zl10, zm10, zl11, zm11, zl12, zm12, zl13, zm13, zl14, zm14, zl15, zm15, zl16, zm16, Nat.zero_add, Nat.reduceAdd, Int.reduceAdd, Int.reduceSub, Int.reduceMul, Int.reduceNeg, Int.reduceEq, Int.reduceLE, Int.reduceLT, Int.reduceToNat, Int.reducePow, decide_true, decide_false, cn0, cn1, cn2, cn3, cn4, cn5, cn6, cn7, cn8, cn9, cn10, cn11, cn12, List.set_cons_zero, List.set_cons_succ, tn0, tn1, tn2, tn3, tn4, tn5, tn6, tn7, tn8, eLn_ap, tLn_ap, lnd_nil, lnd_cons, lend_ow, lend_dc, lend_un, lend_vl, scD_bl, scD_int, scD_non, scD_str, sParL_ap, frz_ap, chL_ap, chK_ap, chLt_ap, chKt_ap, asB_ap, tD], rfl⟩) rfl
  have r1 : ((ts.zipIdx 0).map fun p => D.tup [.int (p.2 : Int), .int p.1.1, .int p.1.2.1]) = (List.range ts.length).map fun i => encS ts (some i) := enum_range ts _ _ fun i t e => by simp only [encS, oD, startP, e]
  have r2 : ((ts.zipIdx 0).map fun p => D.tup [.int (p.2 : Int), .int p.1.1, .int p.1.2.2]) = (List.range ts.length).map fun i => encE ws.length ts (some i) := enum_range ts _ _ fun i t e => by simp only [encE, oD, endP, e]
  have a1 : dAdd (.lst [.tup [.non, .int (-1), .int 0]]) (.lst ((List.range ts.length).map fun i => encS ts (some i))) = some (.lst ((idxL ts.length).map (encS ts))) := by
    rw [dAdd_ll (by simp only [List.length_cons, List.length_nil, List.length_map, List.length_range]; omega)]
    refine congrArg (fun l => some (D.lst l)) ?_
    unfold idxL
    rw [List.map_cons, List.map_map]; rfl
  have a2 : dAdd (.lst [.tup [.non, .int 1000, .int ws.length]]) (.lst ((List.range ts.length).map fun i => encE ws.length ts (some i))) = some (.lst ((idxL ts.length).map (encE ws.length ts))) := by
    rw [dAdd_ll (by simp only [List.length_cons, List.length_nil, List.length_map, List.length_range]; omega)]
    refine congrArg (fun l => some (D.lst l)) ?_
    unfold idxL
    rw [List.map_cons, List.map_map]; rfl
  have hlen : (idxL ts.length).length = ts.length + 1 := by unfold idxL; rw [List.length_cons, List.length_map, List.length_range]
  let S0 : List D → C → C → C → C → C → C → List C := fun acc c5 c6 c7 c8 c9 c10 => [.vl (wsD ws), .vl (tsD ts), .vl (.lst ((idxL ts.length).map (encS ts))), .vl (.lst ((idxL ts.length).map (encE ws.length ts))), .ow false acc, c5, c6, c7, c8, c9, c10, .un, .un]
  have inner : ∀ (i : Idx), i ∈ idxL ts.length → ∀ (acc : List ((Idx × Idx) × Int)) (c8 c9 c10 : C), acc.length ≤ 100000 → ∃ c8' c9' c10', forGo (gT [8, 9, 10]) L__law_pairs_1 ((idxL ts.length).map (encE ws.length ts)) (S0 (acc.map rowD) (.vl (oD i)) (.vl (.int (startP ts i).1)) (.vl (.int (startP ts i).2)) c8 c9 c10)
      = some (.nx (S0 ((acc ++ ((idxL ts.length).filter (okP i)).map fun j => ((i, j), exc ws ts (i, j))).map rowD) (.vl (oD i)) (.vl (.int (startP ts i).1)) (.vl (.int (startP ts i).2)) c8' c9' c10')) := by
    intro i hi acc c8 c9 c10 hacc
    have := forGo_run (enc := encE ws.length ts) (g := gT [8, 9, 10]) (body := L__law_pairs_1) (fun (a : List ((Idx × Idx) × Int)) j => a ++ if okP i j = true then [((i, j), exc ws ts (i, j))] else [])
      (fun r a S => a.length + r.length ≤ 101000 ∧ ∃ c8 c9 c10, S = S0 (a.map rowD) (.vl (oD i)) (.vl (.int (startP ts i).1)) (.vl (.int (startP ts i).2)) c8 c9 c10) (idxL ts.length) acc _ ⟨by omega, c8, c9, c10, rfl⟩ (by
        rintro j r a S hj ⟨hl, c8, c9, c10, rfl⟩
        rw [List.length_cons] at hl
        refine ⟨_, gT3, ?_⟩
        have hz : (a.map rowD).length < sizeLine := by rw [List.length_map]; unfold sizeLine; omega
        have hz' : a.length < sizeLine := by unfold sizeLine; omega
        have hins := law_inside_ok hw (startP ts i).1 (endP ws.length ts j).1
        have go : ∀ b : Bool, okP i j = b → (tOr' (eB (e2 dIs (eV 5) (eC .non))) (tOr' (eB (e2 dIs (eV 8) (eC .non))) (eB (e2 dLe (eV 5) (eV 8))))) (S0 (a.map rowD) (.vl (oD i)) (.vl (.int (startP ts i).1)) (.vl (.int (startP ts i).2)) (.vl (oD j)) (.vl (.int (endP ws.length ts j).1)) (.vl (.int (endP ws.length ts j).2)))
            = some (.ok b (S0 (a.map rowD) (.vl (oD i)) (.vl (.int (startP ts i).1)) (.vl (.int (startP ts i).2)) (.vl (oD j)) (.vl (.int (endP ws.length ts j).1)) (.vl (.int (endP ws.length ts j).2)))) := by
          intro b hb
          cases i with
          | none => cases hb; simp only [S0, oD, dIs, isNon, vls_nil, vls_cons, uns_zero, uns_succ, gt_zero, gt_succ, st_zero, st_succ, bnd_ap, ret_ap, lift_some, eC_ap, eV_ap, e2_ap, eB_ap, eNot_ap, tNot_ap, tAnd_app, tOr_app, ite_ap, eAnd_ap, eOr_ap, e3_app, eIf_ap, brk_ap, brk'_ap, ite_bl, ite_bo, ite_tb, ite_to, ↓reduceIte, Bool.false_eq_true, Bool.not_true, Bool.not_false, aN_ap, aC_ap, eT_ap, eL_ap, fL_ap, eB1_ap, eIsi_ap, eIsiA_ap, e1n_ap, oS_ap, eSl_ap, eCall_ap, fCall_ap, eCall1_ap, eOx_ap, eDGet_ap, eDSort_ap, iS_ap, iR1_ap, iR2_ap, iE_ap, iZ_ap, gN_ap, gT2, gT3, sSeq_ap, sNext_ap, sExpr_ap, sRet_ap, sRetF_ap, sIf_ap, sAsg_ap, sPar_ap, sParD_ap, sPut_ap, sDPut_ap, sBind_ap, sOwn_ap, sApp_ap, sRetO_ap, eSortSet_ap, sFor_ap, sBag_ap, finB_2, own0_ap, fin0_0, fin1_0, fin0_1, fin1_1, fin0_2, fin1_2, fin0_3, fin1_3, fin0_4, fin1_4, fin0_5, fin1_5, fin0_6, fin1_6, fin0_7, fin1_7, fin0_8, fin1_8, dI0_ap, dAdd_ii, dLen_t, dLen_l, dTuple_l, dTuple_t, dList_l, dList_t, dMax_ii, dMin_ii, dIx_t, dIx_l, atI_0, atI_1, atI_2, atI_3, dSl_t, dSl_l, dSl_s, dNe_ii, dEq_ii, ifz, ifz', Option.map_some, List.length_cons, List.length_nil, List.length_append, List.length_map, zl0, zm0, zl1, zm1, zl2, zm2, zl3, zm3, zl4, zm4, zl5, zm5, zl6, zm6, zl7, zm7, zl8, zm8, zl9, zm9, zl10, zm10, zl11, zm11, zl12, zm12, zl13, zm13, zl14, zm14, zl15, zm15, zl16, zm16, Nat.zero_add, Nat.reduceAdd, Int.reduceAdd, Int.reduceSub, Int.reduceMul, Int.reduceNeg, Int.reduceEq, Int.reduceLE, Int.reduceLT, Int.reduceToNat, Int.reducePow, decide_true, decide_false, cn0, cn1, cn2, cn3, cn4, cn5, cn6, cn7, cn8, cn9, cn10, cn11, cn12, List.set_cons_zero, List.set_cons_succ, tn0, tn1, tn2, tn3, tn4, tn5, tn6, tn7, tn8, eLn_ap, tLn_ap, lnd_nil, lnd_cons, lend_ow, lend_dc, lend_un, lend_vl, scD_bl, scD_int, scD_non, scD_str, sParL_ap, frz_ap, chL_ap, chK_ap, chLt_ap, chKt_ap, asB_ap, okP]
          | some i =>
            cases j with
            | none => cases hb; simp only [S0, oD, dIs, isNon, vls_nil, vls_cons, uns_zero, uns_succ, gt_zero, gt_succ, st_zero, st_succ, bnd_ap, ret_ap, lift_some, eC_ap, eV_ap, e2_ap, eB_ap, eNot_ap, tNot_ap, tAnd_app, tOr_app, ite_ap, eAnd_ap, eOr_ap, e3_app, eIf_ap, brk_ap, brk'_ap, ite_bl, ite_bo, ite_tb, ite_to, ↓reduceIte, Bool.false_eq_true, Bool.not_true, Bool.not_false, aN_ap, aC_ap, eT_ap, eL_ap, fL_ap, eB1_ap, eIsi_ap, eIsiA_ap, e1n_ap, oS_ap, eSl_ap, eCall_ap, fCall_ap, eCall1_ap, eOx_ap, eDGet_ap, eDSort_ap, iS_ap, iR1_ap, iR2_ap, iE_ap, iZ_ap, gN_ap, gT2, gT3, sSeq_ap, sNext_ap, sExpr_ap, sRet_ap, sRetF_ap, sIf_ap, sAsg_ap, sPar_ap, sParD_ap, sPut_ap, sDPut_ap, sBind_ap, sOwn_ap, sApp_ap, sRetO_ap, eSortSet_ap, sFor_ap, sBag_ap, finB_2, own0_ap, fin0_0, fin1_0, fin0_1, fin1_1, fin0_2, fin1_2, fin0_3, fin1_3, fin0_4, fin1_4, fin0_5, fin1_5, fin0_6, fin1_6, fin0_7, fin1_7, fin0_8, fin1_8, dI0_ap, dAdd_ii, dLen_t, dLen_l, dTuple_l, dTuple_t, dList_l, dList_t, dMax_ii, dMin_ii, dIx_t, dIx_l, atI_0, atI_1, atI_2, atI_3, dSl_t, dSl_l, dSl_s, dNe_ii, dEq_ii, ifz, ifz', Option.map_some, List.length_cons, List.length_nil, List.length_append, List.length_map, zl0, zm0, zl1, zm1, zl2, zm2, zl3, zm3, zl4, zm4, zl5, zm5, zl6, zm6, zl7, zm7, zl8, zm8, zl9, zm9, zl10, zm10, zl11, zm11, zl12, zm12, zl13, zm13, zl14, zm14, zl15, zm15, zl16, zm16, Nat.zero_add, Nat.reduceAdd, Int.reduceAdd, Int.reduceSub, Int.reduceMul, Int.reduceNeg, Int.reduceEq, Int.reduceLE, Int.reduceLT, Int.reduceToNat, Int.reducePow, decide_true, decide_false, cn0, cn1, cn2, cn3, cn4, cn5, cn6, cn7, cn8, cn9, cn10, cn11, cn12, List.set_cons_zero, List.set_cons_succ, tn0, tn1, tn2, tn3, tn4, tn5, tn6, tn7, tn8, eLn_ap, tLn_ap, lnd_nil, lnd_cons, lend_ow, lend_dc, lend_un, lend_vl, scD_bl, scD_int, scD_non, scD_str, sParL_ap, frz_ap, chL_ap, chK_ap, chLt_ap, chKt_ap, asB_ap, okP]
            | some j =>
              have hb' : decide (i ≤ j) = b := hb
              have hb2 : decide ((i : Int) ≤ (j : Int)) = b := by
                rw [← hb']; by_cases z : i ≤ j
                · rw [decide_eq_true z, decide_eq_true (by omega)]
                · rw [decide_eq_false z, decide_eq_false (by omega)]
              simp only [S0, oD, dIs, isNon, vls_nil, vls_cons, uns_zero, uns_succ, gt_zero, gt_succ, st_zero, st_succ, bnd_ap, ret_ap, lift_some, eC_ap, eV_ap, e2_ap, eB_ap, eNot_ap, tNot_ap, tAnd_app, tOr_app, ite_ap, eAnd_ap, eOr_ap, e3_app, eIf_ap, brk_ap, brk'_ap, ite_bl, ite_bo, ite_tb, ite_to, ↓reduceIte, Bool.false_eq_true, Bool.not_true, Bool.not_false, aN_ap, aC_ap, eT_ap, eL_ap, fL_ap, eB1_ap, eIsi_ap, eIsiA_ap, e1n_ap, oS_ap, eSl_ap, eCall_ap, fCall_ap, eCall1_ap, eOx_ap, eDGet_ap, eDSort_ap, iS_ap, iR1_ap, iR2_ap, iE_ap, iZ_ap, gN_ap, gT2, gT3, sSeq_ap, sNext_ap, sExpr_ap, sRet_ap, sRetF_ap, sIf_ap, sAsg_ap, sPar_ap, sParD_ap, sPut_ap, sDPut_ap, sBind_ap, sOwn_ap, sApp_ap, sRetO_ap, eSortSet_ap, sFor_ap, sBag_ap, finB_2, own0_ap, fin0_0, fin1_0, fin0_1, fin1_1, fin0_2, fin1_2, fin0_3, fin1_3, fin0_4, fin1_4, fin0_5, fin1_5, fin0_6, fin1_6, fin0_7, fin1_7, fin0_8, fin1_8, dI0_ap, dAdd_ii, dLen_t, dLen_l, dTuple_l, dTuple_t, dList_l, dList_t, dMax_ii, dMin_ii, dIx_t, dIx_l, atI_0, atI_1, atI_2, atI_3, dSl_t, dSl_l, dSl_s, dNe_ii, dEq_ii, ifz, ifz', Option.map_some, List.length_cons, List.length_nil, List.length_append, List.length_map, zl0, zm0, zl1, zm1, zl2, zm2, zl3, zm3, zl4, zm4, zl5, zm5, zl6, zm6, zl7, zm7, zl8, zm8, zl9, zm9, zl10, zm10, zl11, zm11, zl12, zm12, zl13, zm13, zl14, zm14, zl15, zm15, zl16, zm16, Nat.zero_add, Nat.reduceAdd, Int.reduceAdd, Int.reduceSub, Int.reduceMul, Int.reduceNeg, Int.reduceEq, Int.reduceLE, Int.reduceLT, Int.reduceToNat, Int.reducePow, decide_true, decide_false, cn0, cn1, cn2, cn3, cn4, cn5, cn6, cn7, cn8, cn9, cn10, cn11, cn12, List.set_cons_zero, List.set_cons_succ, tn0, tn1, tn2, tn3, tn4, tn5, tn6, tn7, tn8, eLn_ap, tLn_ap, lnd_nil, lnd_cons, lend_ow, lend_dc, lend_un, lend_vl, scD_bl, scD_int, scD_non, scD_str, sParL_ap, frz_ap, chL_ap, chK_ap, chLt_ap, chKt_ap, asB_ap, hb2]
        cases q : okP i j with
        | true =>
          refine ⟨S0 ((a ++ [((i, j), exc ws ts (i, j))]).map rowD) (.vl (oD i)) (.vl (.int (startP ts i).1)) (.vl (.int (startP ts i).2)) (.vl (oD j)) (.vl (.int (endP ws.length ts j).1)) (.vl (.int (endP ws.length ts j).2)), .inl ?_, by simp only [if_true, List.length_append, List.length_cons, List.length_nil]; omega, (.vl (oD j)), (.vl (.int (endP ws.length ts j).1)), (.vl (.int (endP ws.length ts j).2)), by simp only [if_true]⟩
          have g := go true q
          unfold L__law_pairs_1
          simp only [S0, vls_nil, vls_cons, uns_zero, uns_succ, gt_zero, gt_succ, st_zero, st_succ, bnd_ap, ret_ap, lift_some, eC_ap, eV_ap, e2_ap, eB_ap, eNot_ap, tNot_ap, tAnd_app, tOr_app, ite_ap, eAnd_ap, eOr_ap, e3_app, eIf_ap, brk_ap, brk'_ap, ite_bl, ite_bo, ite_tb, ite_to, ↓reduceIte, Bool.false_eq_true, Bool.not_true, Bool.not_false, aN_ap, aC_ap, eT_ap, eL_ap, fL_ap, eB1_ap, eIsi_ap, eIsiA_ap, e1n_ap, oS_ap, eSl_ap, eCall_ap, fCall_ap, eCall1_ap, eOx_ap, eDGet_ap, eDSort_ap, iS_ap, iR1_ap, iR2_ap, iE_ap, iZ_ap, gN_ap, gT2, gT3, sSeq_ap, sNext_ap, sExpr_ap, sRet_ap, sRetF_ap, sIf_ap, sAsg_ap, sPar_ap, sParD_ap, sPut_ap, sDPut_ap, sBind_ap, sOwn_ap, sApp_ap, sRetO_ap, eSortSet_ap, sFor_ap, sBag_ap, finB_2, own0_ap, fin0_0, fin1_0, fin0_1, fin1_1, fin0_2, fin1_2, fin0_3, fin1_3, fin0_4, fin1_4, fin0_5, fin1_5, fin0_6, fin1_6, fin0_7, fin1_7, fin0_8, fin1_8, dI0_ap, dAdd_ii, dLen_t, dLen_l, dTuple_l, dTuple_t, dList_l, dList_t, dMax_ii, dMin_ii, dIx_t, dIx_l, atI_0, atI_1, atI_2, atI_3, dSl_t, dSl_l, dSl_s, dNe_ii, dEq_ii, ifz, ifz', Option.map_some, List.length_cons, List.length_nil, List.length_append, List.length_map, zl0, zm0, zl1, zm1, zl2, zm2, zl3, zm3, zl4, zm4, zl5, zm5, zl6, zm6, zl7, zm7, zl8, zm8, zl9, zm9, zl10, zm10, zl11, zm11, zl12, zm12, zl13, zm13, zl14, zm14, zl15, zm15, zl16, zm16, Nat.zero_add, Nat.reduceAdd, Int.reduceAdd, Int.reduceSub, Int.reduceMul, Int.reduceNeg, Int.reduceEq, Int.reduceLE, Int.reduceLT, Int.reduceToNat, Int.reducePow, decide_true, decide_false, cn0, cn1, cn2, cn3, cn4, cn5, cn6, cn7, cn8, cn9, cn10, cn11, cn12, List.set_cons_zero, List.set_cons_succ, tn0, tn1, tn2, tn3, tn4, tn5, tn6, tn7, tn8, eLn_ap, tLn_ap, lnd_nil, lnd_cons, lend_ow, lend_dc, lend_un, lend_vl, scD_bl, scD_int, scD_non, scD_str, sParL_ap, frz_ap, chL_ap, chK_ap, chLt_ap, chKt_ap, asB_ap] at g ⊢
          rw [g]
          simp only [vls_nil, vls_cons, uns_zero, uns_succ, gt_zero, gt_succ, st_zero, st_succ, bnd_ap, ret_ap, lift_some, eC_ap, eV_ap, e2_ap, eB_ap, eNot_ap, tNot_ap, tAnd_app, tOr_app, ite_ap, eAnd_ap, eOr_ap, e3_app, eIf_ap, brk_ap, brk'_ap, ite_bl, ite_bo, ite_tb, ite_to, ↓reduceIte, Bool.false_eq_true, Bool.not_true, Bool.not_false, aN_ap, aC_ap, eT_ap, eL_ap, fL_ap, eB1_ap, eIsi_ap, eIsiA_ap, e1n_ap, oS_ap, eSl_ap, eCall_ap, fCall_ap, eCall1_ap, eOx_ap, eDGet_ap, eDSort_ap, iS_ap, iR1_ap, iR2_ap, iE_ap, iZ_ap, gN_ap, gT2, gT3, sSeq_ap, sNext_ap, sExpr_ap, sRet_ap, sRetF_ap, sIf_ap, sAsg_ap, sPar_ap, sParD_ap, sPut_ap, sDPut_ap, sBind_ap, sOwn_ap, sApp_ap, sRetO_ap, eSortSet_ap, sFor_ap, sBag_ap, finB_2, own0_ap, fin0_0, fin1_0, fin0_1, fin1_1, fin0_2, fin1_2, fin0_3, fin1_3, fin0_4, fin1_4, fin0_5, fin1_5, fin0_6, fin1_6, fin0_7, fin1_7, fin0_8, fin1_8, dI0_ap, dAdd_ii, dLen_t, dLen_l, dTuple_l, dTuple_t, dList_l, dList_t, dMax_ii, dMin_ii, dIx_t, dIx_l, atI_0, atI_1, atI_2, atI_3, dSl_t, dSl_l, dSl_s, dNe_ii, dEq_ii, ifz, ifz', Option.map_some, List.length_cons, List.length_nil, List.length_append, List.length_map, zl0, zm0, zl1, zm1, zl2, zm2, zl3, zm3, zl4, zm4, zl5, zm5, zl6, zm6, zl7, zm7, zl8, zm8, zl9, zm9, zl10, zm10, zl11, zm11, zl12, zm12, zl13, zm13, zl14, zm14, zl15, zm15, zl16, zm16, Nat.zero_add, Nat.reduceAdd, Int.reduceAdd, Int.reduceSub, Int.reduceMul, Int.reduceNeg, Int.reduceEq, Int.reduceLE, Int.reduceLT, Int.reduceToNat, Int.reducePow, decide_true, decide_false, cn0, cn1, cn2, cn3, cn4, cn5, cn6, cn7, cn8, cn9, cn10, cn11, cn12, List.set_cons_zero, List.set_cons_succ, tn0, tn1, tn2, tn3, tn4, tn5, tn6, tn7, tn8, eLn_ap, tLn_ap, lnd_nil, lnd_cons, lend_ow, lend_dc, lend_un, lend_vl, scD_bl, scD_int, scD_non, scD_str, sParL_ap, frz_ap, chL_ap, chK_ap, chLt_ap, chKt_ap, asB_ap, hins, hz, hz', List.map_append, List.map_cons, List.map_nil, rowD, exc]
        | false =>
          refine ⟨S0 (a.map rowD) (.vl (oD i)) (.vl (.int (startP ts i).1)) (.vl (.int (startP ts i).2)) (.vl (oD j)) (.vl (.int (endP ws.length ts j).1)) (.vl (.int (endP ws.length ts j).2)), .inl ?_, by simp only [Bool.false_eq_true, if_false, List.append_nil]; omega, (.vl (oD j)), (.vl (.int (endP ws.length ts j).1)), (.vl (.int (endP ws.length ts j).2)), by simp only [Bool.false_eq_true, if_false, List.append_nil]⟩
          have g := go false q
          unfold L__law_pairs_1
          simp only [S0, vls_nil, vls_cons, uns_zero, uns_succ, gt_zero, gt_succ, st_zero, st_succ, bnd_ap, ret_ap, lift_some, eC_ap, eV_ap, e2_ap, eB_ap, eNot_ap, tNot_ap, tAnd_app, tOr_app, ite_ap, eAnd_ap, eOr_ap, e3_app, eIf_ap, brk_ap, brk'_ap, ite_bl, ite_bo, ite_tb, ite_to, ↓reduceIte, Bool.false_eq_true, Bool.not_true, Bool.not_false, aN_ap, aC_ap, eT_ap, eL_ap, fL_ap, eB1_ap, eIsi_ap, eIsiA_ap, e1n_ap, oS_ap, eSl_ap, eCall_ap, fCall_ap, eCall1_ap, eOx_ap, eDGet_ap, eDSort_ap, iS_ap, iR1_ap, iR2_ap, iE_ap, iZ_ap, gN_ap, gT2, gT3, sSeq_ap, sNext_ap, sExpr_ap, sRet_ap, sRetF_ap, sIf_ap, sAsg_ap, sPar_ap, sParD_ap, sPut_ap, sDPut_ap, sBind_ap, sOwn_ap, sApp_ap, sRetO_ap, eSortSet_ap, sFor_ap, sBag_ap, finB_2, own0_ap, fin0_0, fin1_0, fin0_1, fin1_1, fin0_2, fin1_2, fin0_3, fin1_3, fin0_4, fin1_4, fin0_5, fin1_5, fin0_6, fin1_6, fin0_7, fin1_7, fin0_8, fin1_8, dI0_ap, dAdd_ii, dLen_t, dLen_l, dTuple_l, dTuple_t, dList_l, dList_t, dMax_ii, dMin_ii, dIx_t, dIx_l, atI_0, atI_1, atI_2, atI_3, dSl_t, dSl_l, dSl_s, dNe_ii, dEq_ii, ifz, ifz', Option.map_some, List.length_cons, List.length_nil, List.length_append, List.length_map, zl0, zm0, zl1, zm1, zl2, zm2, zl3, zm3, zl4, zm4, zl5, zm5, zl6, zm6, zl7, zm7, zl8, zm8, zl9, zm9, zl10, zm10, zl11, zm11, zl12, zm12, zl13, zm13, zl14, zm14, zl15, zm15, zl16, zm16, Nat.zero_add, Nat.reduceAdd, Int.reduceAdd, Int.reduceSub, Int.reduceMul, Int.reduceNeg, Int.reduceEq, Int.reduceLE, Int.reduceLT, Int.reduceToNat, Int.reducePow, decide_true, decide_false, cn0, cn1, cn2, cn3, cn4, cn5, cn6, cn7, cn8, cn9, cn10, cn11, cn12, List.set_cons_zero, List.set_cons_succ, tn0, tn1, tn2, tn3, tn4, tn5, tn6, tn7, tn8, eLn_ap, tLn_ap, lnd_nil, lnd_cons, lend_ow, lend_dc, lend_un, lend_vl, scD_bl, scD_int, scD_non, scD_str, sParL_ap, frz_ap, chL_ap, chK_ap, chLt_ap, chKt_ap, asB_ap] at g ⊢
          rw [g])
    obtain ⟨S', e, _, c8', c9', c10', rfl⟩ := this
    refine ⟨c8', c9', c10', ?_⟩
    rw [e, foldl_app]
    have e9 : (idxL ts.length).flatMap (fun j => if okP i j = true then [((i, j), exc ws ts (i, j))] else []) = ((idxL ts.length).filter (okP i)).map fun j => ((i, j), exc ws ts (i, j)) := by
      clear e
      induction (idxL ts.length) with
      | nil => rfl
      | cons x r ih =>
        rw [List.flatMap_cons, ih]
        cases q : okP i x with
        | true => rw [List.filter_cons_of_pos q]; rfl
        | false => rw [List.filter_cons_of_neg (by simp [q])]; rfl
    rw [e9]
  have outer := forGo_run (enc := encS ts) (g := gT [5, 6, 7]) (body := L__law_pairs_2) (fun (a : List ((Idx × Idx) × Int)) i => a ++ ((idxL ts.length).filter (okP i)).map fun j => ((i, j), exc ws ts (i, j)))
    (fun r a S => a.length + r.length * 200 ≤ 50000 ∧ ∃ c5 c6 c7 c8 c9 c10, S = S0 (a.map rowD) c5 c6 c7 c8 c9 c10) (idxL ts.length) [] (S0 [] .un .un .un .un .un .un) ⟨by rw [hlen, List.length_nil]; omega, _, _, _, _, _, _, rfl⟩ (by
      rintro i r a S hi ⟨hl, c5, c6, c7, c8, c9, c10, rfl⟩
      rw [List.length_cons] at hl
      refine ⟨_, gT3, ?_⟩
      obtain ⟨c8', c9', c10', e⟩ := inner i hi a c8 c9 c10 (by omega)
      have hf : ((idxL ts.length).filter (okP i)).length ≤ 200 := Nat.le_trans (List.length_filter_le _ _) (by omega)
      refine ⟨_, .inl ?_, ?_, .vl (oD i), .vl (.int (startP ts i).1), .vl (.int (startP ts i).2), c8', c9', c10', rfl⟩
      · unfold L__law_pairs_2
        exact (sFor_go rfl).trans e
      · rw [List.length_append, List.length_map]; omega)
  obtain ⟨S', e, _, c5, c6, c7, c8, c9, c10, rfl⟩ := outer
  rw [foldl_app, List.nil_append] at e
  have e' : forGo (gT [5, 6, 7]) L__law_pairs_2 ((idxL ts.length).map (encS ts)) [.vl (wsD ws), .vl (tsD ts), .vl (.lst ((idxL ts.length).map (encS ts))), .vl (.lst ((idxL ts.length).map (encE ws.length ts))), .ow false [], .un, .un, .un, .un, .un, .un, .un, .un] = some (.nx [.vl (wsD ws), .vl (tsD ts), .vl (.lst ((idxL ts.length).map (encS ts))), .vl (.lst ((idxL ts.length).map (encE ws.length ts))), .ow false ((lawRows ws ts).map rowD), c5, c6, c7, c8, c9, c10, .un, .un]) := e
  unfold m__law_pairs b__law_pairs
  simp only [vls_nil, vls_cons, uns_zero, uns_succ, gt_zero, gt_succ, st_zero, st_succ, bnd_ap, ret_ap, lift_some, eC_ap, eV_ap, e2_ap, eB_ap, eNot_ap, tNot_ap, tAnd_app, tOr_app, ite_ap, eAnd_ap, eOr_ap, e3_app, eIf_ap, brk_ap, brk'_ap, ite_bl, ite_bo, ite_tb, ite_to, ↓reduceIte, Bool.false_eq_true, Bool.not_true, Bool.not_false, aN_ap, aC_ap, eT_ap, eL_ap, fL_ap, eB1_ap, eIsi_ap, eIsiA_ap, e1n_ap, oS_ap, eSl_ap, eCall_ap, fCall_ap, eCall1_ap, eOx_ap, eDGet_ap, eDSort_ap, iS_ap, iR1_ap, iR2_ap, iE_ap, iZ_ap, gN_ap, gT2, gT3, sSeq_ap, sNext_ap, sExpr_ap, sRet_ap, sRetF_ap, sIf_ap, sAsg_ap, sPar_ap, sParD_ap, sPut_ap, sDPut_ap, sBind_ap, sOwn_ap, sApp_ap, sRetO_ap, eSortSet_ap, sFor_ap, sBag_ap, finB_2, own0_ap, fin0_0, fin1_0, fin0_1, fin1_1, fin0_2, fin1_2, fin0_3, fin1_3, fin0_4, fin1_4, fin0_5, fin1_5, fin0_6, fin1_6, fin0_7, fin1_7, fin0_8, fin1_8, dI0_ap, dAdd_ii, dLen_t, dLen_l, dTuple_l, dTuple_t, dList_l, dList_t, dMax_ii, dMin_ii, dIx_t, dIx_l, atI_0, atI_1, atI_2, atI_3, dSl_t, dSl_l, dSl_s, dNe_ii, dEq_ii, ifz, ifz', Option.map_some, List.length_cons, List.length_nil, List.length_append, List.length_map, zl0, zm0, zl1, zm1, zl2, zm2, zl3, zm3, zl4, zm4, zl5, zm5, zl6, zm6, zl7, zm7, zl8, zm8, zl9, zm9, zl10, zm10, zl11, zm11, zl12, zm12, zl13, zm13, zl14, zm14, zl15, zm15, zl16, zm16, Nat.zero_add, Nat.reduceAdd, Int.reduceAdd, Int.reduceSub, Int.reduceMul, Int.reduceNeg, Int.reduceEq, Int.reduceLE, Int.reduceLT, Int.reduceToNat, Int.reducePow, decide_true, decide_false, cn0, cn1, cn2, cn3, cn4, cn5, cn6, cn7, cn8, cn9, cn10, cn11, cn12, List.set_cons_zero, List.set_cons_succ, tn0, tn1, tn2, tn3, tn4, tn5, tn6, tn7, tn8, eLn_ap, tLn_ap, lnd_nil, lnd_cons, lend_ow, lend_dc, lend_un, lend_vl, scD_bl, scD_int, scD_non, scD_str, sParL_ap, frz_ap, chL_ap, chK_ap, chLt_ap, chKt_ap, asB_ap, len_ws, c1, c2, r1, r2, a1, a2, e']
theorem law_agrees_ok {ws : List Win} {ts : List Tal} (hw : WsOk ws) (ht : ts.length ≤ 100) : m__law_agrees [wsD ws, tsD ts] = some (.rt (.bl ((lawRows ws ts).all fun r => decide (r.2 ≤ 0)))) := by
  have hlen : (lawRows ws ts).length ≤ 100000 := by
    unfold lawRows
    refine Nat.le_trans (flat_len _ 200 _ fun x _ => ?_) ?_
    · rw [List.length_map]
      refine Nat.le_trans (List.length_filter_le _ _) ?_
      unfold idxL; rw [List.length_cons, List.length_map, List.length_range]; omega
    · unfold idxL; rw [List.length_cons, List.length_map, List.length_range]; omega
  have hne : lawRows ws ts ≠ [] := by
    unfold lawRows idxL
    rw [List.flatMap_cons, List.filter_cons_of_pos rfl]
    simp
  obtain ⟨m, e1, ⟨x, hx, hm⟩, h2⟩ := dMax_map (fun r : (Idx × Idx) × Int => r.2) (lawRows ws ts) hne
  have e2 : C__law_agrees_1 [.vl (wsD ws), .vl (tsD ts), .un] = some (.ok (.lst ((lawRows ws ts).map fun r => .int r.2)) [.vl (wsD ws), .vl (tsD ts), .un]) :=
    lcE_mapS (enc := rowD) (fun r => .int r.2) (by simp only [vls_nil, vls_cons, uns_zero, uns_succ, gt_zero, gt_succ, st_zero, st_succ, bnd_ap, ret_ap, lift_some, eC_ap, eV_ap, e2_ap, eB_ap, eNot_ap, tNot_ap, tAnd_app, tOr_app, ite_ap, eAnd_ap, eOr_ap, e3_app, eIf_ap, brk_ap, brk'_ap, ite_bl, ite_bo, ite_tb, ite_to, ↓reduceIte, Bool.false_eq_true, Bool.not_true, Bool.not_false, aN_ap, aC_ap, eT_ap, eL_ap, fL_ap, eB1_ap, eIsi_ap, eIsiA_ap, e1n_ap, oS_ap, eSl_ap, eCall_ap, fCall_ap, eCall1_ap, eOx_ap, eDGet_ap, eDSort_ap, iS_ap, iR1_ap, iR2_ap, iE_ap, iZ_ap, gN_ap, gT2, gT3, sSeq_ap, sNext_ap, sExpr_ap, sRet_ap, sRetF_ap, sIf_ap, sAsg_ap, sPar_ap, sParD_ap, sPut_ap, sDPut_ap, sBind_ap, sOwn_ap, sApp_ap, sRetO_ap, eSortSet_ap, sFor_ap, sBag_ap, finB_2, own0_ap, fin0_0, fin1_0, fin0_1, fin1_1, fin0_2, fin1_2, fin0_3, fin1_3, fin0_4, fin1_4, fin0_5, fin1_5, fin0_6, fin1_6, fin0_7, fin1_7, fin0_8, fin1_8, dI0_ap, dAdd_ii, dLen_t, dLen_l, dTuple_l, dTuple_t, dList_l, dList_t, dMax_ii, dMin_ii, dIx_t, dIx_l, atI_0, atI_1, atI_2, atI_3, dSl_t, dSl_l, dSl_s, dNe_ii, dEq_ii, ifz, ifz', Option.map_some, List.length_cons, List.length_nil, List.length_append, List.length_map, zl0, zm0, zl1, zm1, zl2, zm2, zl3, zm3, zl4, zm4, zl5, zm5, zl6, zm6, zl7, zm7, zl8, zm8, zl9, zm9, zl10, zm10, zl11, zm11, zl12, zm12, zl13, zm13, zl14, zm14, zl15, zm15, zl16, zm16, Nat.zero_add, Nat.reduceAdd, Int.reduceAdd, Int.reduceSub, Int.reduceMul, Int.reduceNeg, Int.reduceEq, Int.reduceLE, Int.reduceLT, Int.reduceToNat, Int.reducePow, decide_true, decide_false, cn0, cn1, cn2, cn3, cn4, cn5, cn6, cn7, cn8, cn9, cn10, cn11, cn12, List.set_cons_zero, List.set_cons_succ, tn0, tn1, tn2, tn3, tn4, tn5, tn6, tn7, tn8, eLn_ap, tLn_ap, lnd_nil, lnd_cons, lend_ow, lend_dc, lend_un, lend_vl, scD_bl, scD_int, scD_non, scD_str, sParL_ap, frz_ap, chL_ap, chK_ap, chLt_ap, chKt_ap, asB_ap, law_pairs_ok hw ht]) (by omega) (fun x hx => ⟨_, rfl, by simp only [wp, vls_nil, vls_cons, uns_zero, uns_succ, gt_zero, gt_succ, st_zero, st_succ, bnd_ap, ret_ap, lift_some, eC_ap, eV_ap, e2_ap, eB_ap, eNot_ap, tNot_ap, tAnd_app, tOr_app, ite_ap, eAnd_ap, eOr_ap, e3_app, eIf_ap, brk_ap, brk'_ap, ite_bl, ite_bo, ite_tb, ite_to, ↓reduceIte, Bool.false_eq_true, Bool.not_true, Bool.not_false, aN_ap, aC_ap, eT_ap, eL_ap, fL_ap, eB1_ap, eIsi_ap, eIsiA_ap, e1n_ap, oS_ap, eSl_ap, eCall_ap, fCall_ap, eCall1_ap, eOx_ap, eDGet_ap, eDSort_ap, iS_ap, iR1_ap, iR2_ap, iE_ap, iZ_ap, gN_ap, gT2, gT3, sSeq_ap, sNext_ap, sExpr_ap, sRet_ap, sRetF_ap, sIf_ap, sAsg_ap, sPar_ap, sParD_ap, sPut_ap, sDPut_ap, sBind_ap, sOwn_ap, sApp_ap, sRetO_ap, eSortSet_ap, sFor_ap, sBag_ap, finB_2, own0_ap, fin0_0, fin1_0, fin0_1, fin1_1, fin0_2, fin1_2, fin0_3, fin1_3, fin0_4, fin1_4, fin0_5, fin1_5, fin0_6, fin1_6, fin0_7, fin1_7, fin0_8, fin1_8, dI0_ap, dAdd_ii, dLen_t, dLen_l, dTuple_l, dTuple_t, dList_l, dList_t, dMax_ii, dMin_ii, dIx_t, dIx_l, atI_0, atI_1, atI_2, atI_3, dSl_t, dSl_l, dSl_s, dNe_ii, dEq_ii, ifz, ifz', Option.map_some, List.length_cons, List.length_nil, List.length_append, List.length_map, zl0, zm0, zl1, zm1, zl2, zm2, zl3, zm3, zl4, zm4, zl5, zm5, zl6, zm6, zl7, zm7, zl8, zm8, zl9, zm9, zl10, zm10, zl11, zm11, zl12, zm12, zl13, zm13, zl14, zm14, zl15, zm15, zl16, zm16, Nat.zero_add, Nat.reduceAdd, Int.reduceAdd, Int.reduceSub, Int.reduceMul, Int.reduceNeg, Int.reduceEq, Int.reduceLE, Int.reduceLT, Int.reduceToNat, Int.reducePow, decide_true, decide_false, cn0, cn1, cn2, cn3, cn4, cn5, cn6, cn7, cn8, cn9, cn10, cn11, cn12, List.set_cons_zero, List.set_cons_succ, tn0, tn1, tn2, tn3, tn4, tn5, tn6, tn7, tn8, eLn_ap, tLn_ap, lnd_nil, lnd_cons, lend_ow, lend_dc, lend_un, lend_vl, scD_bl, scD_int, scD_non, scD_str, sParL_ap, frz_ap, chL_ap, chK_ap, chLt_ap, chKt_ap, asB_ap, rowD], rfl⟩) rfl
  have e3 : ((lawRows ws ts).all fun r => decide (r.2 ≤ 0)) = decide (m ≤ 0) := by
    by_cases q : m ≤ 0
    · rw [decide_eq_true q, List.all_eq_true]
      intro r hr
      have := h2 r hr
      exact decide_eq_true (by omega)
    · rw [decide_eq_false q]
      cases w : (lawRows ws ts).all fun r => decide (r.2 ≤ 0) with
      | false => rfl
      | true =>
        have := of_decide_eq_true (List.all_eq_true.mp w x hx)
        omega
  unfold m__law_agrees b__law_agrees
  simp only [vls_nil, vls_cons, uns_zero, uns_succ, gt_zero, gt_succ, st_zero, st_succ, bnd_ap, ret_ap, lift_some, eC_ap, eV_ap, e2_ap, eB_ap, eNot_ap, tNot_ap, tAnd_app, tOr_app, ite_ap, eAnd_ap, eOr_ap, e3_app, eIf_ap, brk_ap, brk'_ap, ite_bl, ite_bo, ite_tb, ite_to, ↓reduceIte, Bool.false_eq_true, Bool.not_true, Bool.not_false, aN_ap, aC_ap, eT_ap, eL_ap, fL_ap, eB1_ap, eIsi_ap, eIsiA_ap, e1n_ap, oS_ap, eSl_ap, eCall_ap, fCall_ap, eCall1_ap, eOx_ap, eDGet_ap, eDSort_ap, iS_ap, iR1_ap, iR2_ap, iE_ap, iZ_ap, gN_ap, gT2, gT3, sSeq_ap, sNext_ap, sExpr_ap, sRet_ap, sRetF_ap, sIf_ap, sAsg_ap, sPar_ap, sParD_ap, sPut_ap, sDPut_ap, sBind_ap, sOwn_ap, sApp_ap, sRetO_ap, eSortSet_ap, sFor_ap, sBag_ap, finB_2, own0_ap, fin0_0, fin1_0, fin0_1, fin1_1, fin0_2, fin1_2, fin0_3, fin1_3, fin0_4, fin1_4, fin0_5, fin1_5, fin0_6, fin1_6, fin0_7, fin1_7, fin0_8, fin1_8, dI0_ap, dAdd_ii, dLen_t, dLen_l, dTuple_l, dTuple_t, dList_l, dList_t, dMax_ii, dMin_ii, dIx_t, dIx_l, atI_0, atI_1, atI_2, atI_3, dSl_t, dSl_l, dSl_s, dNe_ii, dEq_ii, ifz, ifz', Option.map_some, List.length_cons, List.length_nil, List.length_append, List.length_map, zl0, zm0, zl1, zm1, zl2, zm2, zl3, zm3, zl4, zm4, zl5, zm5, zl6, zm6, zl7, zm7, zl8, zm8, zl9, zm9, zl10, zm10, zl11, zm11, zl12, zm12, zl13, zm13, zl14, zm14, zl15, zm15, zl16, zm16, Nat.zero_add, Nat.reduceAdd, Int.reduceAdd, Int.reduceSub, Int.reduceMul, Int.reduceNeg, Int.reduceEq, Int.reduceLE, Int.reduceLT, Int.reduceToNat, Int.reducePow, decide_true, decide_false, cn0, cn1, cn2, cn3, cn4, cn5, cn6, cn7, cn8, cn9, cn10, cn11, cn12, List.set_cons_zero, List.set_cons_succ, tn0, tn1, tn2, tn3, tn4, tn5, tn6, tn7, tn8, eLn_ap, tLn_ap, lnd_nil, lnd_cons, lend_ow, lend_dc, lend_un, lend_vl, scD_bl, scD_int, scD_non, scD_str, sParL_ap, frz_ap, chL_ap, chK_ap, chLt_ap, chKt_ap, asB_ap, e2, e1, e3]
theorem mem_pairsL {m : Nat} {i j : Idx} : (i, j) ∈ pairsL m ↔ i ∈ idxL m ∧ j ∈ idxL m ∧ okP i j = true := by
  unfold pairsL idxL
  simp only [List.mem_append, List.mem_cons, List.not_mem_nil, or_false, List.mem_map, List.mem_range, List.mem_flatMap, Prod.mk.injEq]
  constructor
  · rintro (((⟨rfl, rfl⟩ | ⟨b, hb, rfl, rfl⟩) | ⟨a, ha, rfl, rfl⟩) | ⟨a, ha, b, hb, rfl, rfl⟩)
    · exact ⟨.inl rfl, .inl rfl, rfl⟩
    · exact ⟨.inl rfl, .inr ⟨b, hb, rfl⟩, rfl⟩
    · exact ⟨.inr ⟨a, ha, rfl⟩, .inl rfl, rfl⟩
    · exact ⟨.inr ⟨a, ha, rfl⟩, .inr ⟨a + b, by omega, rfl⟩, decide_eq_true (by omega)⟩
  · rintro ⟨hi, hj, h⟩
    rcases hi with rfl | ⟨a, ha, rfl⟩
    · rcases hj with rfl | ⟨b, hb, rfl⟩
      · exact .inl (.inl (.inl ⟨rfl, rfl⟩))
      · exact .inl (.inl (.inr ⟨b, hb, rfl, rfl⟩))
    · rcases hj with rfl | ⟨b, hb, rfl⟩
      · exact .inl (.inr ⟨a, ha, rfl, rfl⟩)
      · have := of_decide_eq_true (p := a ≤ b) h
        exact .inr ⟨a, ha, b - a, by omega, rfl, congrArg some (by omega)⟩
theorem mem_lawRows {ws : List Win} {ts : List Tal} {r : (Idx × Idx) × Int} : r ∈ lawRows ws ts ↔ r.1 ∈ pairsL ts.length ∧ r.2 = exc ws ts r.1 := by
  obtain ⟨⟨i, j⟩, e⟩ := r
  rw [mem_pairsL]
  unfold lawRows
  simp only [List.mem_flatMap, List.mem_map, List.mem_filter, Prod.mk.injEq]
  constructor
  · rintro ⟨a, ha, b, ⟨hb, hok⟩, ⟨rfl, rfl⟩, rfl⟩
    exact ⟨⟨ha, hb, hok⟩, rfl⟩
  · rintro ⟨⟨hi, hj, hok⟩, rfl⟩
    exact ⟨i, hi, j, ⟨hj, hok⟩, ⟨rfl, rfl⟩, rfl⟩
theorem agrees_conf {ws : List Win} {ts : List Tal} : ((lawRows ws ts).all fun r => decide (r.2 ≤ 0)) = (conf ws ts).isNone := by
  cases q : conf ws ts with
  | none =>
    unfold conf at q
    rw [List.find?_eq_none] at q
    show _ = true
    rw [List.all_eq_true]
    intro r hr
    obtain ⟨h1, h2⟩ := mem_lawRows.mp hr
    have := q r.1 h1
    rw [decide_eq_true_eq] at this
    exact decide_eq_true (by omega)
  | some p =>
    unfold conf at q
    have h1 := List.mem_of_find?_eq_some q
    have h3 : decide (0 < exc ws ts p) = true := List.find?_some (p := fun p => decide (0 < exc ws ts p)) q
    have h2 := of_decide_eq_true h3
    show _ = false
    cases w : (lawRows ws ts).all fun r => decide (r.2 ≤ 0) with
    | false => rfl
    | true =>
      have := of_decide_eq_true (List.all_eq_true.mp w (p, exc ws ts p) (mem_lawRows.mpr ⟨h1, rfl⟩))
      simp only [] at this
      omega
/-! all courses -/
def rngI (w : Win) : List Int := (List.range (w.2 + 1 - w.1).toNat).map fun k : Nat => w.1 + (k : Int)
theorem mem_rngI {w : Win} {m : Int} : m ∈ rngI w ↔ w.1 ≤ m ∧ m ≤ w.2 := by
  unfold rngI
  rw [List.mem_map]
  constructor
  · rintro ⟨k, hk, rfl⟩
    have := List.mem_range.mp hk
    omega
  · rintro ⟨h1, h2⟩
    exact ⟨(m - w.1).toNat, List.mem_range.mpr (by omega), by omega⟩
def stepAll (found : List (List Int)) (w : Win) : List (List Int) := found.flatMap fun row => (rngI w).map fun m => row ++ [m]
def allC (ws : List Win) : List (List Int) := ws.foldl stepAll [[]]
theorem inws_snoc {ws : List Win} {w : Win} : ∀ {xs : List Int}, InWs (ws ++ [w]) xs ↔ ∃ ys m, xs = ys ++ [m] ∧ InWs ws ys ∧ w.1 ≤ m ∧ m ≤ w.2 := by
  induction ws with
  | nil =>
    intro xs
    constructor
    · intro h
      cases h with
      | cons r t => cases t; exact ⟨[], _, rfl, .nil, r⟩
    · rintro ⟨ys, m, rfl, h, r⟩
      cases h
      exact .cons r .nil
  | cons v ws ih =>
    intro xs
    constructor
    · intro h
      cases h with
      | @cons _ x _ xs r t =>
        obtain ⟨ys, m, rfl, h, r2⟩ := ih.mp t
        exact ⟨x :: ys, m, rfl, .cons r h, r2⟩
    · rintro ⟨ys, m, rfl, h, r2⟩
      cases h with
      | cons r t => exact .cons r (ih.mpr ⟨_, m, rfl, t, r2⟩)
theorem mem_foldAll : ∀ (ws pre : List Win) (found : List (List Int)), (∀ xs, xs ∈ found ↔ InWs pre xs) → ∀ xs, xs ∈ ws.foldl stepAll found ↔ InWs (pre ++ ws) xs
  | [], pre, found, h, xs => by rw [List.append_nil]; exact h xs
  | w :: ws, pre, found, h, xs => by
    have := mem_foldAll ws (pre ++ [w]) (stepAll found w) (fun ys => by
      rw [inws_snoc]
      unfold stepAll
      simp only [List.mem_flatMap, List.mem_map]
      constructor
      · rintro ⟨row, hr, m, hm, rfl⟩
        exact ⟨row, m, rfl, (h row).mp hr, mem_rngI.mp hm⟩
      · rintro ⟨row, m, rfl, hr, hm⟩
        exact ⟨row, (h row).mpr hr, m, mem_rngI.mpr hm, rfl⟩) xs
    rw [List.append_assoc] at this
    exact this
theorem mem_allC {ws : List Win} {xs : List Int} : xs ∈ allC ws ↔ InWs ws xs := by
  have := mem_foldAll ws [] [[]] (fun xs => by
    constructor
    · intro h
      rw [List.mem_singleton.mp h]; exact .nil
    · intro h
      cases h
      exact List.mem_singleton.mpr rfl) xs
  rw [List.nil_append] at this
  exact this
theorem stepAll_len (found : List (List Int)) {w : Win} (h : w.2 - w.1 ≤ 8) : (stepAll found w).length ≤ found.length * 9 := by
  unfold stepAll
  refine flat_len _ 9 _ fun x _ => ?_
  unfold rngI
  rw [List.length_map, List.length_map, List.length_range]; omega
theorem foldAll_len : ∀ (ws : List Win) (found : List (List Int)), (∀ w ∈ ws, w.2 - w.1 ≤ 8) → (ws.foldl stepAll found).length ≤ found.length * 9 ^ ws.length
  | [], found, _ => by simp
  | w :: ws, found, h => by
    have ih := foldAll_len ws (stepAll found w) fun v hv => h v (List.mem_cons_of_mem _ hv)
    have h1 := stepAll_len found (h w List.mem_cons_self)
    rw [List.foldl_cons, List.length_cons, Nat.pow_succ]
    refine Nat.le_trans ih (Nat.le_trans (Nat.mul_le_mul_right _ h1) ?_)
    rw [Nat.mul_assoc, Nat.mul_comm 9]
    exact Nat.le_refl _
theorem allC_len {ws : List Win} (hl : ws.length ≤ 5) (h : ∀ w ∈ ws, w.2 - w.1 ≤ 8) : (allC ws).length ≤ 59049 := by
  have := foldAll_len ws [[]] h
  refine Nat.le_trans this ?_
  rw [List.length_singleton, Nat.one_mul]
  exact Nat.le_trans (Nat.pow_le_pow_right (by decide) hl) (by decide)
def keptAll (ws : List Win) (ts : List Tal) : List (List Int) := (allC ws).filter (keptT ts)
theorem mem_keptAll {ws : List Win} {ts : List Tal} {xs : List Int} : xs ∈ keptAll ws ts ↔ InWs ws xs ∧ keptT ts xs = true := by
  unfold keptAll
  rw [List.mem_filter, mem_allC]
theorem law_all_ok {ws : List Win} {ts : List Tal} (hl : ws.length ≤ 5) (hw : ∀ w ∈ ws, 0 ≤ w.1 ∧ w.1 ≤ w.2 ∧ w.2 ≤ 1000 ∧ w.2 - w.1 ≤ 8) (ht : ts.length ≤ 100) : m__law_all [wsD ws, tsD ts] = some (.ro ((keptAll ws ts).map xsD)) := by
  have inner : ∀ (w : Win) (found : List (List Int)) (c5 c6 : C), w ∈ ws → found.length ≤ 59049 → (∀ row ∈ found, row.length ≤ 1000) → ∃ c6',
      forGo (gN 6) L__law_all_1 (found.map xsD) [.vl (wsD ws), .vl (tsD ts), .vl (.lst (found.map xsD)), .vl (.int w.1), .vl (.int w.2), .vl (.lst []), c6, .un] = some (.nx [.vl (wsD ws), .vl (tsD ts), .vl (.lst (found.map xsD)), .vl (.int w.1), .vl (.int w.2), .vl (.lst ((stepAll found w).map xsD)), c6', .un]) := by
    intro w found c5 c6 hm hf hrow
    obtain ⟨q0, q1, q2, q3⟩ := hw w hm
    have := forGo_run (enc := xsD) (g := gN 6) (body := L__law_all_1) (fun (a : List (List Int)) row => a ++ (rngI w).map fun m => row ++ [m])
      (fun r a S => a.length + r.length * 9 ≤ 600000 ∧ ∃ c6, S = [.vl (wsD ws), .vl (tsD ts), .vl (.lst (found.map xsD)), .vl (.int w.1), .vl (.int w.2), .vl (.lst (a.map xsD)), c6, .un]) found [] _ ⟨by rw [List.length_nil]; omega, c6, rfl⟩ (by
        rintro row r a S hr ⟨hz, c6, rfl⟩
        rw [List.length_cons] at hz
        have hrl := hrow row hr
        refine ⟨_, rfl, [.vl (wsD ws), .vl (tsD ts), .vl (.lst (found.map xsD)), .vl (.int w.1), .vl (.int w.2), .vl (.lst ((a ++ (rngI w).map fun m => row ++ [m]).map xsD)), .vl (xsD row), .un], .inl ?_, ?_, _, rfl⟩
        · have g1 : -1000000000 ≤ w.1 := by omega
          have g2 : w.1 ≤ 1000000000 := by omega
          have g3 : -1000000000 ≤ w.2 + 1 := by omega
          have g4 : w.2 + 1 ≤ 1000000000 := by omega
          have e1 : C__law_all_1 [.vl (wsD ws), .vl (tsD ts), .vl (.lst (found.map xsD)), .vl (.int w.1), .vl (.int w.2), .vl (.lst (a.map xsD)), .vl (xsD row), .un] = some (.ok (.lst ((List.range (w.2 + 1 - w.1).toNat).map fun k : Nat => xsD (row ++ [w.1 + (k : Int)]))) [.vl (wsD ws), .vl (tsD ts), .vl (.lst (found.map xsD)), .vl (.int w.1), .vl (.int w.2), .vl (.lst (a.map xsD)), .vl (xsD row), .un]) := by
            refine lcE_mapS (enc := fun k : Nat => D.int (w.1 + (k : Int))) (fun k : Nat => xsD (row ++ [w.1 + (k : Int)])) (by simp only [vls_nil, vls_cons, uns_zero, uns_succ, gt_zero, gt_succ, st_zero, st_succ, bnd_ap, ret_ap, lift_some, eC_ap, eV_ap, e2_ap, eB_ap, eNot_ap, tNot_ap, tAnd_app, tOr_app, ite_ap, eAnd_ap, eOr_ap, e3_app, eIf_ap, brk_ap, brk'_ap, ite_bl, ite_bo, ite_tb, ite_to, ↓reduceIte, Bool.false_eq_true, Bool.not_true, Bool.not_false, aN_ap, aC_ap, eT_ap, eL_ap, fL_ap, eB1_ap, eIsi_ap, eIsiA_ap, e1n_ap, oS_ap, eSl_ap, eCall_ap, fCall_ap, eCall1_ap, eOx_ap, eDGet_ap, eDSort_ap, iS_ap, iR1_ap, iR2_ap, iE_ap, iZ_ap, gN_ap, gT2, gT3, sSeq_ap, sNext_ap, sExpr_ap, sRet_ap, sRetF_ap, sIf_ap, sAsg_ap, sPar_ap, sParD_ap, sPut_ap, sDPut_ap, sBind_ap, sOwn_ap, sApp_ap, sRetO_ap, eSortSet_ap, sFor_ap, sBag_ap, finB_2, own0_ap, fin0_0, fin1_0, fin0_1, fin1_1, fin0_2, fin1_2, fin0_3, fin1_3, fin0_4, fin1_4, fin0_5, fin1_5, fin0_6, fin1_6, fin0_7, fin1_7, fin0_8, fin1_8, dI0_ap, dAdd_ii, dLen_t, dLen_l, dTuple_l, dTuple_t, dList_l, dList_t, dMax_ii, dMin_ii, dIx_t, dIx_l, atI_0, atI_1, atI_2, atI_3, dSl_t, dSl_l, dSl_s, dNe_ii, dEq_ii, ifz, ifz', Option.map_some, List.length_cons, List.length_nil, List.length_append, List.length_map, zl0, zm0, zl1, zm1, zl2, zm2, zl3, zm3, zl4, zm4, zl5, zm5, zl6, zm6, zl7, zm7, zl8, zm8, zl9, zm9, zl10, zm10, zl11, zm11, zl12, zm12, zl13, zm13, zl14, zm14, zl15, zm15, zl16, zm16, Nat.zero_add, Nat.reduceAdd, Int.reduceAdd, Int.reduceSub, Int.reduceMul, Int.reduceNeg, Int.reduceEq, Int.reduceLE, Int.reduceLT, Int.reduceToNat, Int.reducePow, decide_true, decide_false, cn0, cn1, cn2, cn3, cn4, cn5, cn6, cn7, cn8, cn9, cn10, cn11, cn12, List.set_cons_zero, List.set_cons_succ, tn0, tn1, tn2, tn3, tn4, tn5, tn6, tn7, tn8, eLn_ap, tLn_ap, lnd_nil, lnd_cons, lend_ow, lend_dc, lend_un, lend_vl, scD_bl, scD_int, scD_non, scD_str, sParL_ap, frz_ap, chL_ap, chK_ap, chLt_ap, chKt_ap, asB_ap, rg2_ok g1 g2 g3 g4, rangeL]) (by rw [List.length_range]; omega) (fun k hk => ⟨_, rfl, ?_, rfl⟩) rfl
            have e2 : dAdd (xsD row) (.tup [.int (w.1 + (k : Int))]) = some (xsD (row ++ [w.1 + (k : Int)])) := by
              unfold xsD
              rw [dAdd_tt (by simp only [List.length_map, List.length_cons, List.length_nil]; omega), List.map_append]; rfl
            simp only [wp, vls_nil, vls_cons, uns_zero, uns_succ, gt_zero, gt_succ, st_zero, st_succ, bnd_ap, ret_ap, lift_some, eC_ap, eV_ap, e2_ap, eB_ap, eNot_ap, tNot_ap, tAnd_app, tOr_app, ite_ap, eAnd_ap, eOr_ap, e3_app, eIf_ap, brk_ap, brk'_ap, ite_bl, ite_bo, ite_tb, ite_to, ↓reduceIte, Bool.false_eq_true, Bool.not_true, Bool.not_false, aN_ap, aC_ap, eT_ap, eL_ap, fL_ap, eB1_ap, eIsi_ap, eIsiA_ap, e1n_ap, oS_ap, eSl_ap, eCall_ap, fCall_ap, eCall1_ap, eOx_ap, eDGet_ap, eDSort_ap, iS_ap, iR1_ap, iR2_ap, iE_ap, iZ_ap, gN_ap, gT2, gT3, sSeq_ap, sNext_ap, sExpr_ap, sRet_ap, sRetF_ap, sIf_ap, sAsg_ap, sPar_ap, sParD_ap, sPut_ap, sDPut_ap, sBind_ap, sOwn_ap, sApp_ap, sRetO_ap, eSortSet_ap, sFor_ap, sBag_ap, finB_2, own0_ap, fin0_0, fin1_0, fin0_1, fin1_1, fin0_2, fin1_2, fin0_3, fin1_3, fin0_4, fin1_4, fin0_5, fin1_5, fin0_6, fin1_6, fin0_7, fin1_7, fin0_8, fin1_8, dI0_ap, dAdd_ii, dLen_t, dLen_l, dTuple_l, dTuple_t, dList_l, dList_t, dMax_ii, dMin_ii, dIx_t, dIx_l, atI_0, atI_1, atI_2, atI_3, dSl_t, dSl_l, dSl_s, dNe_ii, dEq_ii, ifz, ifz', Option.map_some, List.length_cons, List.length_nil, List.length_append, List.length_map, zl0, zm0, zl1, zm1, zl2, zm2, zl3, zm3, zl4, zm4, zl5, zm5, zl6, zm6, zl7, zm7, zl8, zm8, zl9, zm9, zl10, zm10, zl11, zm11, zl12, zm12, zl13, zm13, zl14, zm14, zl15, zm15, zl16, zm16, Nat.zero_add, Nat.reduceAdd, Int.reduceAdd, Int.reduceSub, Int.reduceMul, Int.reduceNeg, Int.reduceEq, Int.reduceLE, Int.reduceLT, Int.reduceToNat, Int.reducePow, decide_true, decide_false, cn0, cn1, cn2, cn3, cn4, cn5, cn6, cn7, cn8, cn9, cn10, cn11, cn12, List.set_cons_zero, List.set_cons_succ, tn0, tn1, tn2, tn3, tn4, tn5, tn6, tn7, tn8, eLn_ap, tLn_ap, lnd_nil, lnd_cons, lend_ow, lend_dc, lend_un, lend_vl, scD_bl, scD_int, scD_non, scD_str, sParL_ap, frz_ap, chL_ap, chK_ap, chLt_ap, chKt_ap, asB_ap, e2]
          have e3 : ((List.range (w.2 + 1 - w.1).toNat).map fun k : Nat => xsD (row ++ [w.1 + (k : Int)])) = ((rngI w).map fun m => row ++ [m]).map xsD := by
            unfold rngI
            rw [List.map_map, List.map_map]; rfl
          have e4 : dAdd (.lst (a.map xsD)) (.lst (((rngI w).map fun m => row ++ [m]).map xsD)) = some (.lst ((a ++ (rngI w).map fun m => row ++ [m]).map xsD)) := by
            rw [dAdd_ll (by
              simp only [List.length_map]; unfold rngI; rw [List.length_map, List.length_range]; omega), List.map_append]
          unfold L__law_all_1
          simp only [vls_nil, vls_cons, uns_zero, uns_succ, gt_zero, gt_succ, st_zero, st_succ, bnd_ap, ret_ap, lift_some, eC_ap, eV_ap, e2_ap, eB_ap, eNot_ap, tNot_ap, tAnd_app, tOr_app, ite_ap, eAnd_ap, eOr_ap, e3_app, eIf_ap, brk_ap, brk'_ap, ite_bl, ite_bo, ite_tb, ite_to, ↓reduceIte, Bool.false_eq_true, Bool.not_true, Bool.not_false, aN_ap, aC_ap, eT_ap, eL_ap, fL_ap, eB1_ap, eIsi_ap, eIsiA_ap, e1n_ap, oS_ap, eSl_ap, eCall_ap, fCall_ap, eCall1_ap, eOx_ap, eDGet_ap, eDSort_ap, iS_ap, iR1_ap, iR2_ap, iE_ap, iZ_ap, gN_ap, gT2, gT3, sSeq_ap, sNext_ap, sExpr_ap, sRet_ap, sRetF_ap, sIf_ap, sAsg_ap, sPar_ap, sParD_ap, sPut_ap, sDPut_ap, sBind_ap, sOwn_ap, sApp_ap, sRetO_ap, eSortSet_ap, sFor_ap, sBag_ap, finB_2, own0_ap, fin0_0, fin1_0, fin0_1, fin1_1, fin0_2, fin1_2, fin0_3, fin1_3, fin0_4, fin1_4, fin0_5, fin1_5, fin0_6, fin1_6, fin0_7, fin1_7, fin0_8, fin1_8, dI0_ap, dAdd_ii, dLen_t, dLen_l, dTuple_l, dTuple_t, dList_l, dList_t, dMax_ii, dMin_ii, dIx_t, dIx_l, atI_0, atI_1, atI_2, atI_3, dSl_t, dSl_l, dSl_s, dNe_ii, dEq_ii, ifz, ifz', Option.map_some, List.length_cons, List.length_nil, List.length_append, List.length_map, zl0, zm0, zl1, zm1, zl2, zm2, zl3, zm3, zl4, zm4, zl5, zm5, zl6, zm6, zl7, zm7, zl8, zm8, zl9, zm9, zl10, zm10, zl11, zm11, zl12, zm12, zl13, zm13, zl14, zm14, zl15, zm15, zl16, zm16, Nat.zero_add, Nat.reduceAdd, Int.reduceAdd, Int.reduceSub, Int.reduceMul, Int.reduceNeg, Int.reduceEq, Int.reduceLE, Int.reduceLT, Int.reduceToNat, Int.reducePow, decide_true, decide_false, cn0, cn1, cn2, cn3, cn4, cn5, cn6, cn7, cn8, cn9, cn10, cn11, cn12, List.set_cons_zero, List.set_cons_succ, tn0, tn1, tn2, tn3, tn4, tn5, tn6, tn7, tn8, eLn_ap, tLn_ap, lnd_nil, lnd_cons, lend_ow, lend_dc, lend_un, lend_vl, scD_bl, scD_int, scD_non, scD_str, sParL_ap, frz_ap, chL_ap, chK_ap, chLt_ap, chKt_ap, asB_ap, e1, e3, e4]
        · rw [List.length_append, List.length_map]; unfold rngI; rw [List.length_map, List.length_range]; omega)
    obtain ⟨S', e, _, c6', rfl⟩ := this
    rw [foldl_app, List.nil_append] at e
    exact ⟨c6', e⟩
  have outer := forGo_run (enc := wD) (g := gT [3, 4]) (body := L__law_all_2) stepAll
    (fun r a S => a.length * 9 ^ r.length ≤ 59049 ∧ (∀ row ∈ a, row.length + r.length ≤ 1000) ∧ ∃ c3 c4 c5 c6, S = [.vl (wsD ws), .vl (tsD ts), .vl (.lst (a.map xsD)), c3, c4, c5, c6, .un]) ws [[]] [.vl (wsD ws), .vl (tsD ts), .vl (.lst (([[]] : List (List Int)).map xsD)), .un, .un, .un, .un, .un]
    ⟨by rw [List.length_singleton, Nat.one_mul]; exact Nat.le_trans (Nat.pow_le_pow_right (by decide) hl) (by decide), fun row hr => by rw [List.mem_singleton.mp hr, List.length_nil]; omega, _, _, _, _, rfl⟩ (by
      rintro w r a S hm ⟨hz, hrow, c3, c4, c5, c6, rfl⟩
      rw [List.length_cons, Nat.pow_succ] at hz
      have p1 : 1 ≤ 9 ^ r.length := Nat.one_le_pow _ _ (by decide)
      have hz2 : a.length * 1 ≤ a.length * (9 ^ r.length * 9) := Nat.mul_le_mul_left _ (by omega)
      obtain ⟨c6', e⟩ := inner w a c5 c6 hm (by omega) (fun row hr => by have := hrow row hr; omega)
      refine ⟨_, gT2, [.vl (wsD ws), .vl (tsD ts), .vl (.lst ((stepAll a w).map xsD)), .vl (.int w.1), .vl (.int w.2), .vl (.lst ((stepAll a w).map xsD)), c6', .un], .inl ?_, ?_, ?_, _, _, _, _, rfl⟩
      · unfold L__law_all_2
        refine (sSeq_nx (S' := [.vl (wsD ws), .vl (tsD ts), .vl (.lst (a.map xsD)), .vl (.int w.1), .vl (.int w.2), .vl (.lst []), c6, .un]) (by simp only [vls_nil, vls_cons, uns_zero, uns_succ, gt_zero, gt_succ, st_zero, st_succ, bnd_ap, ret_ap, lift_some, eC_ap, eV_ap, e2_ap, eB_ap, eNot_ap, tNot_ap, tAnd_app, tOr_app, ite_ap, eAnd_ap, eOr_ap, e3_app, eIf_ap, brk_ap, brk'_ap, ite_bl, ite_bo, ite_tb, ite_to, ↓reduceIte, Bool.false_eq_true, Bool.not_true, Bool.not_false, aN_ap, aC_ap, eT_ap, eL_ap, fL_ap, eB1_ap, eIsi_ap, eIsiA_ap, e1n_ap, oS_ap, eSl_ap, eCall_ap, fCall_ap, eCall1_ap, eOx_ap, eDGet_ap, eDSort_ap, iS_ap, iR1_ap, iR2_ap, iE_ap, iZ_ap, gN_ap, gT2, gT3, sSeq_ap, sNext_ap, sExpr_ap, sRet_ap, sRetF_ap, sIf_ap, sAsg_ap, sPar_ap, sParD_ap, sPut_ap, sDPut_ap, sBind_ap, sOwn_ap, sApp_ap, sRetO_ap, eSortSet_ap, sFor_ap, sBag_ap, finB_2, own0_ap, fin0_0, fin1_0, fin0_1, fin1_1, fin0_2, fin1_2, fin0_3, fin1_3, fin0_4, fin1_4, fin0_5, fin1_5, fin0_6, fin1_6, fin0_7, fin1_7, fin0_8, fin1_8, dI0_ap, dAdd_ii, dLen_t, dLen_l, dTuple_l, dTuple_t, dList_l, dList_t, dMax_ii, dMin_ii, dIx_t, dIx_l, atI_0, atI_1, atI_2, atI_3, dSl_t, dSl_l, dSl_s, dNe_ii, dEq_ii, ifz, ifz', Option.map_some, List.length_cons, List.length_nil, List.length_append, List.length_map, zl0, zm0, zl1, zm1, zl2, zm2, zl3, zm3, zl4, zm4, zl5, zm5, zl6, zm6, zl7, zm7, zl8, zm8, zl9, zm9, zl10, zm10, zl11, zm11, zl12, zm12, zl13, zm13, zl14, zm14, zl15, zm15, zl16, zm16, Nat.zero_add, Nat.reduceAdd, Int.reduceAdd, Int.reduceSub, Int.reduceMul, Int.reduceNeg, Int.reduceEq, Int.reduceLE, Int.reduceLT, Int.reduceToNat, Int.reducePow, decide_true, decide_false, cn0, cn1, cn2, cn3, cn4, cn5, cn6, cn7, cn8, cn9, cn10, cn11, cn12, List.set_cons_zero, List.set_cons_succ, tn0, tn1, tn2, tn3, tn4, tn5, tn6, tn7, tn8, eLn_ap, tLn_ap, lnd_nil, lnd_cons, lend_ow, lend_dc, lend_un, lend_vl, scD_bl, scD_int, scD_non, scD_str, sParL_ap, frz_ap, chL_ap, chK_ap, chLt_ap, chKt_ap, asB_ap])).trans ?_
        refine (sSeq_nx ((sFor_go rfl).trans e)).trans ?_
        simp only [vls_nil, vls_cons, uns_zero, uns_succ, gt_zero, gt_succ, st_zero, st_succ, bnd_ap, ret_ap, lift_some, eC_ap, eV_ap, e2_ap, eB_ap, eNot_ap, tNot_ap, tAnd_app, tOr_app, ite_ap, eAnd_ap, eOr_ap, e3_app, eIf_ap, brk_ap, brk'_ap, ite_bl, ite_bo, ite_tb, ite_to, ↓reduceIte, Bool.false_eq_true, Bool.not_true, Bool.not_false, aN_ap, aC_ap, eT_ap, eL_ap, fL_ap, eB1_ap, eIsi_ap, eIsiA_ap, e1n_ap, oS_ap, eSl_ap, eCall_ap, fCall_ap, eCall1_ap, eOx_ap, eDGet_ap, eDSort_ap, iS_ap, iR1_ap, iR2_ap, iE_ap, iZ_ap, gN_ap, gT2, gT3, sSeq_ap, sNext_ap, sExpr_ap, sRet_ap, sRetF_ap, sIf_ap, sAsg_ap, sPar_ap, sParD_ap, sPut_ap, sDPut_ap, sBind_ap, sOwn_ap, sApp_ap, sRetO_ap, eSortSet_ap, sFor_ap, sBag_ap, finB_2, own0_ap, fin0_0, fin1_0, fin0_1, fin1_1, fin0_2, fin1_2, fin0_3, fin1_3, fin0_4, fin1_4, fin0_5, fin1_5, fin0_6, fin1_6, fin0_7, fin1_7, fin0_8, fin1_8, dI0_ap, dAdd_ii, dLen_t, dLen_l, dTuple_l, dTuple_t, dList_l, dList_t, dMax_ii, dMin_ii, dIx_t, dIx_l, atI_0, atI_1, atI_2, atI_3, dSl_t, dSl_l, dSl_s, dNe_ii, dEq_ii, ifz, ifz', Option.map_some, List.length_cons, List.length_nil, List.length_append, List.length_map, zl0, zm0, zl1, zm1, zl2, zm2, zl3, zm3, zl4, zm4, zl5, zm5, zl6, zm6, zl7, zm7, zl8, zm8, zl9, zm9, zl10, zm10, zl11, zm11, zl12, zm12, zl13, zm13, zl14, zm14, zl15, zm15, zl16, zm16, Nat.zero_add, Nat.reduceAdd, Int.reduceAdd, Int.reduceSub, Int.reduceMul, Int.reduceNeg, Int.reduceEq, Int.reduceLE, Int.reduceLT, Int.reduceToNat, Int.reducePow, decide_true, decide_false, cn0, cn1, cn2, cn3, cn4, cn5, cn6, cn7, cn8, cn9, cn10, cn11, cn12, List.set_cons_zero, List.set_cons_succ, tn0, tn1, tn2, tn3, tn4, tn5, tn6, tn7, tn8, eLn_ap, tLn_ap, lnd_nil, lnd_cons, lend_ow, lend_dc, lend_un, lend_vl, scD_bl, scD_int, scD_non, scD_str, sParL_ap, frz_ap, chL_ap, chK_ap, chLt_ap, chKt_ap, asB_ap]
      · have h1 := stepAll_len a (w := w) (hw w hm).2.2.2
        refine Nat.le_trans (Nat.mul_le_mul_right _ h1) ?_
        rw [Nat.mul_assoc, Nat.mul_comm 9]
        exact hz
      · intro row hr
        unfold stepAll at hr
        simp only [List.mem_flatMap, List.mem_map] at hr
        obtain ⟨row', hr', m, _, rfl⟩ := hr
        have := hrow row' hr'
        rw [List.length_cons] at this
        rw [List.length_append, List.length_singleton]; omega)
  obtain ⟨S', e, hz, hrow, c3, c4, c5, c6, rfl⟩ := outer
  have hz' : (allC ws).length ≤ 59049 := allC_len hl fun w hm => (hw w hm).2.2.2
  have ec : C__law_all_2 [.vl (wsD ws), .vl (tsD ts), .vl (.lst ((allC ws).map xsD)), c3, c4, c5, c6, .un] = some (.ok ((keptAll ws ts).map xsD) (rs [.vl (wsD ws), .vl (tsD ts), .vl (.lst ((allC ws).map xsD)), c3, c4, c5, c6, .un] [6] (wp [.vl (wsD ws), .vl (tsD ts), .vl (.lst ((allC ws).map xsD)), c3, c4, c5, c6, .un] [6]))) := by
    refine lcF_pure (enc := xsD) (l := allC ws) (fi := iS (eV 2)) (S1 := [.vl (wsD ws), .vl (tsD ts), .vl (.lst ((allC ws).map xsD)), c3, c4, c5, c6, .un]) (keptT ts) xsD rfl (by omega) (fun xs hxs => ⟨_, rfl, ?_, fun _ => ?_, rfl⟩)
    · have hin := mem_allC.mp hxs
      have hxl := Paired.len' hin
      have k := law_kept_ok (ws := ws) (ts := ts) (xs := xs) (by omega) (by omega) (by omega)
      rw [inW_all hin, Bool.true_and] at k
      simp only [wp, vls_nil, vls_cons, uns_zero, uns_succ, gt_zero, gt_succ, st_zero, st_succ, bnd_ap, ret_ap, lift_some, eC_ap, eV_ap, e2_ap, eB_ap, eNot_ap, tNot_ap, tAnd_app, tOr_app, ite_ap, eAnd_ap, eOr_ap, e3_app, eIf_ap, brk_ap, brk'_ap, ite_bl, ite_bo, ite_tb, ite_to, ↓reduceIte, Bool.false_eq_true, Bool.not_true, Bool.not_false, aN_ap, aC_ap, eT_ap, eL_ap, fL_ap, eB1_ap, eIsi_ap, eIsiA_ap, e1n_ap, oS_ap, eSl_ap, eCall_ap, fCall_ap, eCall1_ap, eOx_ap, eDGet_ap, eDSort_ap, iS_ap, iR1_ap, iR2_ap, iE_ap, iZ_ap, gN_ap, gT2, gT3, sSeq_ap, sNext_ap, sExpr_ap, sRet_ap, sRetF_ap, sIf_ap, sAsg_ap, sPar_ap, sParD_ap, sPut_ap, sDPut_ap, sBind_ap, sOwn_ap, sApp_ap, sRetO_ap, eSortSet_ap, sFor_ap, sBag_ap, finB_2, own0_ap, fin0_0, fin1_0, fin0_1, fin1_1, fin0_2, fin1_2, fin0_3, fin1_3, fin0_4, fin1_4, fin0_5, fin1_5, fin0_6, fin1_6, fin0_7, fin1_7, fin0_8, fin1_8, dI0_ap, dAdd_ii, dLen_t, dLen_l, dTuple_l, dTuple_t, dList_l, dList_t, dMax_ii, dMin_ii, dIx_t, dIx_l, atI_0, atI_1, atI_2, atI_3, dSl_t, dSl_l, dSl_s, dNe_ii, dEq_ii, ifz, ifz', Option.map_some, List.length_cons, List.length_nil, List.length_append, List.length_map, zl0, zm0, zl1, zm1, zl2, zm2, zl3, zm3, zl4, zm4, zl5, zm5, zl6, zm6, zl7, zm7, zl8, zm8, zl9, zm9, zl10, zm10, zl11, zm11, zl12, zm12, zl13, zm13, zl14, zm14, zl15, zm15, zl16, zm16, Nat.zero_add, Nat.reduceAdd, Int.reduceAdd, Int.reduceSub, Int.reduceMul, Int.reduceNeg, Int.reduceEq, Int.reduceLE, Int.reduceLT, Int.reduceToNat, Int.reducePow, decide_true, decide_false, cn0, cn1, cn2, cn3, cn4, cn5, cn6, cn7, cn8, cn9, cn10, cn11, cn12, List.set_cons_zero, List.set_cons_succ, tn0, tn1, tn2, tn3, tn4, tn5, tn6, tn7, tn8, eLn_ap, tLn_ap, lnd_nil, lnd_cons, lend_ow, lend_dc, lend_un, lend_vl, scD_bl, scD_int, scD_non, scD_str, sParL_ap, frz_ap, chL_ap, chK_ap, chLt_ap, chKt_ap, asB_ap, k]
    · simp only [wp, vls_nil, vls_cons, uns_zero, uns_succ, gt_zero, gt_succ, st_zero, st_succ, bnd_ap, ret_ap, lift_some, eC_ap, eV_ap, e2_ap, eB_ap, eNot_ap, tNot_ap, tAnd_app, tOr_app, ite_ap, eAnd_ap, eOr_ap, e3_app, eIf_ap, brk_ap, brk'_ap, ite_bl, ite_bo, ite_tb, ite_to, ↓reduceIte, Bool.false_eq_true, Bool.not_true, Bool.not_false, aN_ap, aC_ap, eT_ap, eL_ap, fL_ap, eB1_ap, eIsi_ap, eIsiA_ap, e1n_ap, oS_ap, eSl_ap, eCall_ap, fCall_ap, eCall1_ap, eOx_ap, eDGet_ap, eDSort_ap, iS_ap, iR1_ap, iR2_ap, iE_ap, iZ_ap, gN_ap, gT2, gT3, sSeq_ap, sNext_ap, sExpr_ap, sRet_ap, sRetF_ap, sIf_ap, sAsg_ap, sPar_ap, sParD_ap, sPut_ap, sDPut_ap, sBind_ap, sOwn_ap, sApp_ap, sRetO_ap, eSortSet_ap, sFor_ap, sBag_ap, finB_2, own0_ap, fin0_0, fin1_0, fin0_1, fin1_1, fin0_2, fin1_2, fin0_3, fin1_3, fin0_4, fin1_4, fin0_5, fin1_5, fin0_6, fin1_6, fin0_7, fin1_7, fin0_8, fin1_8, dI0_ap, dAdd_ii, dLen_t, dLen_l, dTuple_l, dTuple_t, dList_l, dList_t, dMax_ii, dMin_ii, dIx_t, dIx_l, atI_0, atI_1, atI_2, atI_3, dSl_t, dSl_l, dSl_s, dNe_ii, dEq_ii, ifz, ifz', Option.map_some, List.length_cons, List.length_nil, List.length_append, List.length_map, zl0, zm0, zl1, zm1, zl2, zm2, zl3, zm3, zl4, zm4, zl5, zm5, zl6, zm6, zl7, zm7, zl8, zm8, zl9, zm9, zl10, zm10, zl11, zm11, zl12, zm12, zl13, zm13, zl14, zm14, zl15, zm15, zl16, zm16, Nat.zero_add, Nat.reduceAdd, Int.reduceAdd, Int.reduceSub, Int.reduceMul, Int.reduceNeg, Int.reduceEq, Int.reduceLE, Int.reduceLT, Int.reduceToNat, Int.reducePow, decide_true, decide_false, cn0, cn1, cn2, cn3, cn4, cn5, cn6, cn7, cn8, cn9, cn10, cn11, cn12, List.set_cons_zero, List.set_cons_succ, tn0, tn1, tn2, tn3, tn4, tn5, tn6, tn7, tn8, eLn_ap, tLn_ap, lnd_nil, lnd_cons, lend_ow, lend_dc, lend_un, lend_vl, scD_bl, scD_int, scD_non, scD_str, sParL_ap, frz_ap, chL_ap, chK_ap, chLt_ap, chKt_ap, asB_ap]
  have e' : forGo (gT [3, 4]) L__law_all_2 (ws.map wD) [.vl (wsD ws), .vl (tsD ts), .vl (.lst [.tup []]), .un, .un, .un, .un, .un] = some (.nx [.vl (wsD ws), .vl (tsD ts), .vl (.lst ((allC ws).map xsD)), c3, c4, c5, c6, .un]) := e
  have hb : b__law_all [.vl (wsD ws), .vl (tsD ts), .un, .un, .un, .un, .un, .un] = some (.ro ((keptAll ws ts).map xsD) (rs [.vl (wsD ws), .vl (tsD ts), .vl (.lst ((allC ws).map xsD)), c3, c4, c5, c6, .un] [6] (wp [.vl (wsD ws), .vl (tsD ts), .vl (.lst ((allC ws).map xsD)), c3, c4, c5, c6, .un] [6]))) := by
    unfold b__law_all
    refine (sSeq_nx (S' := [.vl (wsD ws), .vl (tsD ts), .vl (.lst [.tup []]), .un, .un, .un, .un, .un]) (by simp only [vls_nil, vls_cons, uns_zero, uns_succ, gt_zero, gt_succ, st_zero, st_succ, bnd_ap, ret_ap, lift_some, eC_ap, eV_ap, e2_ap, eB_ap, eNot_ap, tNot_ap, tAnd_app, tOr_app, ite_ap, eAnd_ap, eOr_ap, e3_app, eIf_ap, brk_ap, brk'_ap, ite_bl, ite_bo, ite_tb, ite_to, ↓reduceIte, Bool.false_eq_true, Bool.not_true, Bool.not_false, aN_ap, aC_ap, eT_ap, eL_ap, fL_ap, eB1_ap, eIsi_ap, eIsiA_ap, e1n_ap, oS_ap, eSl_ap, eCall_ap, fCall_ap, eCall1_ap, eOx_ap, eDGet_ap, eDSort_ap, iS_ap, iR1_ap, iR2_ap, iE_ap, iZ_ap, gN_ap, gT2, gT3, sSeq_ap, sNext_ap, sExpr_ap, sRet_ap, sRetF_ap, sIf_ap, sAsg_ap, sPar_ap, sParD_ap, sPut_ap, sDPut_ap, sBind_ap, sOwn_ap, sApp_ap, sRetO_ap, eSortSet_ap, sFor_ap, sBag_ap, finB_2, own0_ap, fin0_0, fin1_0, fin0_1, fin1_1, fin0_2, fin1_2, fin0_3, fin1_3, fin0_4, fin1_4, fin0_5, fin1_5, fin0_6, fin1_6, fin0_7, fin1_7, fin0_8, fin1_8, dI0_ap, dAdd_ii, dLen_t, dLen_l, dTuple_l, dTuple_t, dList_l, dList_t, dMax_ii, dMin_ii, dIx_t, dIx_l, atI_0, atI_1, atI_2, atI_3, dSl_t, dSl_l, dSl_s, dNe_ii, dEq_ii, ifz, ifz', Option.map_some, List.length_cons, List.length_nil, List.length_append, List.length_map, zl0, zm0, zl1, zm1, zl2, zm2, zl3, zm3, zl4, zm4, zl5, zm5, zl6, zm6, zl7, zm7, zl8, zm8, zl9, zm9, zl10, zm10, zl11, zm11, zl12, zm12, zl13, zm13, zl14, zm14, zl15, zm15, zl16, zm16, Nat.zero_add, Nat.reduceAdd, Int.reduceAdd, Int.reduceSub, Int.reduceMul, Int.reduceNeg, Int.reduceEq, Int.reduceLE, Int.reduceLT, Int.reduceToNat, Int.reducePow, decide_true, decide_false, cn0, cn1, cn2, cn3, cn4, cn5, cn6, cn7, cn8, cn9, cn10, cn11, cn12, List.set_cons_zero, List.set_cons_succ, tn0, tn1, tn2, tn3, tn4, tn5, tn6, tn7, tn8, eLn_ap, tLn_ap, lnd_nil, lnd_cons, lend_ow, lend_dc, lend_un, lend_vl, scD_bl, scD_int, scD_non, scD_str, sParL_ap, frz_ap, chL_ap, chK_ap, chLt_ap, chKt_ap, asB_ap])).trans ?_
    refine (sSeq_nx ((sFor_go rfl).trans e')).trans ?_
    simp only [vls_nil, vls_cons, uns_zero, uns_succ, gt_zero, gt_succ, st_zero, st_succ, bnd_ap, ret_ap, lift_some, eC_ap, eV_ap, e2_ap, eB_ap, eNot_ap, tNot_ap, tAnd_app, tOr_app, ite_ap, eAnd_ap, eOr_ap, e3_app, eIf_ap, brk_ap, brk'_ap, ite_bl, ite_bo, ite_tb, ite_to, ↓reduceIte, Bool.false_eq_true, Bool.not_true, Bool.not_false, aN_ap, aC_ap, eT_ap, eL_ap, fL_ap, eB1_ap, eIsi_ap, eIsiA_ap, e1n_ap, oS_ap, eSl_ap, eCall_ap, fCall_ap, eCall1_ap, eOx_ap, eDGet_ap, eDSort_ap, iS_ap, iR1_ap, iR2_ap, iE_ap, iZ_ap, gN_ap, gT2, gT3, sSeq_ap, sNext_ap, sExpr_ap, sRet_ap, sRetF_ap, sIf_ap, sAsg_ap, sPar_ap, sParD_ap, sPut_ap, sDPut_ap, sBind_ap, sOwn_ap, sApp_ap, sRetO_ap, eSortSet_ap, sFor_ap, sBag_ap, finB_2, own0_ap, fin0_0, fin1_0, fin0_1, fin1_1, fin0_2, fin1_2, fin0_3, fin1_3, fin0_4, fin1_4, fin0_5, fin1_5, fin0_6, fin1_6, fin0_7, fin1_7, fin0_8, fin1_8, dI0_ap, dAdd_ii, dLen_t, dLen_l, dTuple_l, dTuple_t, dList_l, dList_t, dMax_ii, dMin_ii, dIx_t, dIx_l, atI_0, atI_1, atI_2, atI_3, dSl_t, dSl_l, dSl_s, dNe_ii, dEq_ii, ifz, ifz', Option.map_some, List.length_cons, List.length_nil, List.length_append, List.length_map, zl0, zm0, zl1, zm1, zl2, zm2, zl3, zm3, zl4, zm4, zl5, zm5, zl6, zm6, zl7, zm7, zl8, zm8, zl9, zm9, zl10, zm10, zl11, zm11, zl12, zm12, zl13, zm13, zl14, zm14, zl15, zm15, zl16, zm16, Nat.zero_add, Nat.reduceAdd, Int.reduceAdd, Int.reduceSub, Int.reduceMul, Int.reduceNeg, Int.reduceEq, Int.reduceLE, Int.reduceLT, Int.reduceToNat, Int.reducePow, decide_true, decide_false, cn0, cn1, cn2, cn3, cn4, cn5, cn6, cn7, cn8, cn9, cn10, cn11, cn12, List.set_cons_zero, List.set_cons_succ, tn0, tn1, tn2, tn3, tn4, tn5, tn6, tn7, tn8, eLn_ap, tLn_ap, lnd_nil, lnd_cons, lend_ow, lend_dc, lend_un, lend_vl, scD_bl, scD_int, scD_non, scD_str, sParL_ap, frz_ap, chL_ap, chK_ap, chLt_ap, chKt_ap, asB_ap, ec]
  unfold m__law_all
  simp only [fin0_2, vls_cons, vls_nil, uns_succ, uns_zero, hb]
theorem same_all {ws : List Win} {ts : List Tal} (hw : WsOk ws) (ht : TsOk ws.length ts) : (conf ws ts).isNone = !(keptAll ws ts).isEmpty := by
  cases q : (keptAll ws ts).isEmpty with
  | true =>
    cases w : (conf ws ts).isNone with
    | false => rfl
    | true =>
      obtain ⟨xs, h1, h2⟩ := (agree_iff hw ht).mp w
      have := mem_keptAll.mpr ⟨h1, h2⟩
      rw [List.isEmpty_iff.mp q] at this
      cases this
  | false =>
    rw [Bool.not_false]
    cases z : keptAll ws ts with
    | nil => rw [z] at q; cases q
    | cons xs r =>
      have : xs ∈ keptAll ws ts := by rw [z]; exact List.mem_cons_self
      exact (agree_iff hw ht).mpr ⟨xs, mem_keptAll.mp this⟩
/-! bounds -/
def loL (ws : List Win) (ts : List Tal) (t : Int) : List Int := (insN ws (-1) t : Int) :: (ts.filter fun x => decide (x.1 ≤ t)).map fun x => x.2.1 + (insN ws x.1 t : Int)
def hiL (ws : List Win) (ts : List Tal) (t : Int) : List Int := ((ws.length : Int) - (insN ws t 1000 : Int)) :: (ts.filter fun x => decide (t ≤ x.1)).map fun x => x.2.2 - (insN ws t x.1 : Int)
def lowB (ws : List Win) (ts : List Tal) (t : Int) : Int := (mxL (loL ws ts t)).getD 0
def highB (ws : List Win) (ts : List Tal) (t : Int) : Int := (mnL (hiL ws ts t)).getD 0
theorem lowB_eq (ws : List Win) (ts : List Tal) (t : Int) : mxL (loL ws ts t) = some (lowB ws ts t) := by
  obtain ⟨m, e⟩ := mxL_some (loL ws ts t) (by unfold loL; simp)
  unfold lowB; rw [e]; rfl
theorem highB_eq (ws : List Win) (ts : List Tal) (t : Int) : mnL (hiL ws ts t) = some (highB ws ts t) := by
  obtain ⟨m, e⟩ := mnL_some (hiL ws ts t) (by unfold hiL; simp)
  unfold highB; rw [e]; rfl
theorem insN_self {ws : List Win} (ha : ∀ w ∈ ws, WOk w) (t : Int) : insN ws t t = 0 := by
  unfold insN
  rw [List.length_eq_zero_iff, List.filter_eq_nil_iff]
  intro w hw
  obtain ⟨_, h, _⟩ := ha w hw
  simp only [Bool.and_eq_true, decide_eq_true_eq]
  omega
/-- the numbers that courses have by a time -/
theorem range_iff {ws : List Win} {ts : List Tal} (hw : WsOk ws) (ht : ∀ x ∈ ts, 0 ≤ x.1 ∧ x.1 ≤ 1000) (hf : Fit ws ts) {t v : Int} (t0 : -1 ≤ t) (t1 : t ≤ 1000) :
    (∃ xs, InWs ws xs ∧ keptT ts xs = true ∧ (num xs t : Int) = v) ↔ lowB ws ts t ≤ v ∧ v ≤ highB ws ts t := by
  obtain ⟨l1, l2⟩ := mxL_spec (lowB_eq ws ts t)
  obtain ⟨h1, h2⟩ := mnL_spec (highB_eq ws ts t)
  constructor
  · rintro ⟨xs, hx, hk, rfl⟩
    have hk' := kept_iff.mp hk
    constructor
    · unfold loL at l1
      rcases List.mem_cons.mp l1 with e | e
      · rw [e]
        have := num_ins hx t0
        omega
      · obtain ⟨x, hx', e'⟩ := List.mem_map.mp e
        obtain ⟨hm, hd⟩ := List.mem_filter.mp hx'
        have := num_ins hx (of_decide_eq_true hd)
        have := hk'.1 (x.1, x.2.1) (List.mem_map_of_mem (f := fun t : Tal => (t.1, t.2.1)) hm)
        simp only [] at this
        omega
    · unfold hiL at h1
      rcases List.mem_cons.mp h1 with e | e
      · rw [e]
        have := num_ins hx t1
        have := num_le xs 1000
        rw [Paired.len' hx] at this
        omega
      · obtain ⟨x, hx', e'⟩ := List.mem_map.mp e
        obtain ⟨hm, hd⟩ := List.mem_filter.mp hx'
        have := num_ins hx (of_decide_eq_true hd)
        have := hk'.2 (x.1, x.2.2) (List.mem_map_of_mem (f := fun t : Tal => (t.1, t.2.2)) hm)
        simp only [] at this
        omega
  · rintro ⟨hl, hh⟩
    have hall' := (hall (ws := ws) (lo := (t, v) :: lows ts) (hi := (t, v) :: highs ts) hw.ok (fun p hp => by
      rcases List.mem_cons.mp hp with rfl | hp
      · exact ⟨t0, t1⟩
      · obtain ⟨x, h, rfl⟩ := List.mem_map.mp hp; have := ht x h; simp only []; omega) (fun p hp => by
      rcases List.mem_cons.mp hp with rfl | hp
      · exact ⟨t0, t1⟩
      · obtain ⟨x, h, rfl⟩ := List.mem_map.mp hp; have := ht x h; simp only []; omega)).mp (by
      have lowp : ∀ p ∈ ((-1 : Int), (0 : Int)) :: lows ts, p.1 ≤ t → p.2 + (insN ws p.1 t : Int) ≤ lowB ws ts t := by
        intro p hp hpt
        rcases List.mem_cons.mp hp with rfl | hp
        · have := l2 _ (List.mem_cons_self (a := (insN ws (-1) t : Int)))
          simp only []; omega
        · obtain ⟨x, hx, rfl⟩ := List.mem_map.mp hp
          exact l2 _ (List.mem_cons_of_mem _ (List.mem_map.mpr ⟨x, List.mem_filter.mpr ⟨hx, decide_eq_true hpt⟩, rfl⟩))
      have highp : ∀ q ∈ ((1000 : Int), (ws.length : Int)) :: highs ts, t ≤ q.1 → highB ws ts t ≤ q.2 - (insN ws t q.1 : Int) := by
        intro q hq hqt
        rcases List.mem_cons.mp hq with rfl | hq
        · have := h2 _ (List.mem_cons_self (a := (ws.length : Int) - (insN ws t 1000 : Int)))
          simp only []; omega
        · obtain ⟨x, hx, rfl⟩ := List.mem_map.mp hq
          exact h2 _ (List.mem_cons_of_mem _ (List.mem_map.mpr ⟨x, List.mem_filter.mpr ⟨hx, decide_eq_true hqt⟩, rfl⟩))
      intro p hp q hq hpq
      rcases List.mem_cons.mp hp with rfl | hp
      · rcases List.mem_cons.mp hq with rfl | hq
        · exact hf _ List.mem_cons_self _ List.mem_cons_self hpq
        · rcases List.mem_cons.mp hq with rfl | hq
          · have := lowp (-1, 0) List.mem_cons_self hpq
            simp only [] at this ⊢; omega
          · exact hf _ List.mem_cons_self _ (List.mem_cons_of_mem _ hq) hpq
      · rcases List.mem_cons.mp hp with rfl | hp
        · rcases List.mem_cons.mp hq with rfl | hq
          · have := highp _ List.mem_cons_self hpq
            simp only [] at this ⊢; omega
          · rcases List.mem_cons.mp hq with rfl | hq
            · have := insN_self hw.ok t
              simp only []; omega
            · have := highp q (List.mem_cons_of_mem _ hq) hpq
              simp only [] at this ⊢; omega
        · rcases List.mem_cons.mp hq with rfl | hq
          · exact hf _ (List.mem_cons_of_mem _ hp) _ List.mem_cons_self hpq
          · rcases List.mem_cons.mp hq with rfl | hq
            · have := lowp p (List.mem_cons_of_mem _ hp) hpq
              simp only [] at this ⊢; omega
            · exact hf _ (List.mem_cons_of_mem _ hp) _ (List.mem_cons_of_mem _ hq) hpq)
    obtain ⟨xs, hx, k1, k2⟩ := hall'
    refine ⟨xs, hx, kept_iff.mpr ⟨fun p hp => k1 p (List.mem_cons_of_mem _ hp), fun q hq => k2 q (List.mem_cons_of_mem _ hq)⟩, ?_⟩
    have a1 := k1 (t, v) List.mem_cons_self
    have a2 := k2 (t, v) List.mem_cons_self
    simp only [] at a1 a2
    omega
theorem dMax_ints {l : List Int} {m : Int} (h : mxL l = some m) : dMax [.lst (l.map D.int)] = some (.int m) := by
  show ((toIs (l.map fun x => D.int x)).bind fun ns => (mxL ns).map D.int) = _
  rw [toIs_map (fun x => x), Option.bind_some, List.map_id', h]; rfl
theorem dMin_ints {l : List Int} {m : Int} (h : mnL l = some m) : dMin [.lst (l.map D.int)] = some (.int m) := by
  show ((toIs (l.map fun x => D.int x)).bind fun ns => (mnL ns).map D.int) = _
  rw [toIs_map (fun x => x), Option.bind_some, List.map_id', h]; rfl
theorem check_time_ok {t : Int} (h : 0 ≤ t) (h2 : t ≤ 1000) : m_check_time [.int t] = some (.rt .non) := by
  unfold m_check_time b_check_time
  simp only [vls_nil, vls_cons, uns_zero, uns_succ, gt_zero, gt_succ, st_zero, st_succ, bnd_ap, ret_ap, lift_some, eC_ap, eV_ap, e2_ap, eB_ap, eNot_ap, tNot_ap, tAnd_app, tOr_app, ite_ap, eAnd_ap, eOr_ap, e3_app, eIf_ap, brk_ap, brk'_ap, ite_bl, ite_bo, ite_tb, ite_to, ↓reduceIte, Bool.false_eq_true, Bool.not_true, Bool.not_false, aN_ap, aC_ap, eT_ap, eL_ap, fL_ap, eB1_ap, eIsi_ap, eIsiA_ap, e1n_ap, oS_ap, eSl_ap, eCall_ap, fCall_ap, eCall1_ap, eOx_ap, eDGet_ap, eDSort_ap, iS_ap, iR1_ap, iR2_ap, iE_ap, iZ_ap, gN_ap, gT2, gT3, sSeq_ap, sNext_ap, sExpr_ap, sRet_ap, sRetF_ap, sIf_ap, sAsg_ap, sPar_ap, sParD_ap, sPut_ap, sDPut_ap, sBind_ap, sOwn_ap, sApp_ap, sRetO_ap, eSortSet_ap, sFor_ap, sBag_ap, finB_2, own0_ap, fin0_0, fin1_0, fin0_1, fin1_1, fin0_2, fin1_2, fin0_3, fin1_3, fin0_4, fin1_4, fin0_5, fin1_5, fin0_6, fin1_6, fin0_7, fin1_7, fin0_8, fin1_8, dI0_ap, dAdd_ii, dLen_t, dLen_l, dTuple_l, dTuple_t, dList_l, dList_t, dMax_ii, dMin_ii, dIx_t, dIx_l, atI_0, atI_1, atI_2, atI_3, dSl_t, dSl_l, dSl_s, dNe_ii, dEq_ii, ifz, ifz', Option.map_some, List.length_cons, List.length_nil, List.length_append, List.length_map, zl0, zm0, zl1, zm1, zl2, zm2, zl3, zm3, zl4, zm4, zl5, zm5, zl6, zm6, zl7, zm7, zl8, zm8, zl9, zm9, zl10, zm10, zl11, zm11, zl12, zm12, zl13, zm13, zl14, zm14, zl15, zm15, zl16, zm16, Nat.zero_add, Nat.reduceAdd, Int.reduceAdd, Int.reduceSub, Int.reduceMul, Int.reduceNeg, Int.reduceEq, Int.reduceLE, Int.reduceLT, Int.reduceToNat, Int.reducePow, decide_true, decide_false, cn0, cn1, cn2, cn3, cn4, cn5, cn6, cn7, cn8, cn9, cn10, cn11, cn12, List.set_cons_zero, List.set_cons_succ, tn0, tn1, tn2, tn3, tn4, tn5, tn6, tn7, tn8, eLn_ap, tLn_ap, lnd_nil, lnd_cons, lend_ow, lend_dc, lend_un, lend_vl, scD_bl, scD_int, scD_non, scD_str, sParL_ap, frz_ap, chL_ap, chK_ap, chLt_ap, chKt_ap, asB_ap, in_range_t h h2]
def rangeD (ws : List Win) (ts : List Tal) (t : Int) : D := if (conf ws ts).isNone = true then .tup [.int (lowB ws ts t), .int (highB ws ts t)] else .non
/-! equal values are the same -/
theorem zip_self_mem {α : Type} : ∀ {l : List α} {p : α × α}, p ∈ l.zip l → p.1 = p.2 ∧ p.1 ∈ l
  | [], p, h => by cases h
  | x :: r, p, h => by
    rw [List.zip_cons_cons] at h
    rcases List.mem_cons.mp h with rfl | h
    · exact ⟨rfl, List.mem_cons_self⟩
    · obtain ⟨h1, h2⟩ := zip_self_mem h
      exact ⟨h1, List.mem_cons_of_mem _ h2⟩
theorem zipL_self : ∀ l m : List D, zipL l m = (l.zip m).map fun p => .tup [p.1, p.2]
  | [], m => by cases m <;> rfl
  | x :: r, [] => rfl
  | x :: r, y :: t => by
    show D.tup [x, y] :: zipL r t = _
    rw [zipL_self r t]; rfl
def Short : Nat → D → Prop
  | _, .non => True
  | _, .int _ => True
  | n + 1, .tup l => l.length ≤ 1000000 ∧ ∀ d ∈ l, Short n d
  | n + 1, .lst l => l.length ≤ 1000000 ∧ ∀ d ∈ l, Short n d
  | _, _ => False
theorem law_same_refl : ∀ (n : Nat) (d : D), Short n d → m__law_same (n + 1) [d, d] = some (.rt (.bl true))
  | n, .non, _ => by
    unfold m__law_same b__law_same
    simp only [vls_nil, vls_cons, uns_zero, uns_succ, gt_zero, gt_succ, st_zero, st_succ, bnd_ap, ret_ap, lift_some, eC_ap, eV_ap, e2_ap, eB_ap, eNot_ap, tNot_ap, tAnd_app, tOr_app, ite_ap, eAnd_ap, eOr_ap, e3_app, eIf_ap, brk_ap, brk'_ap, ite_bl, ite_bo, ite_tb, ite_to, ↓reduceIte, Bool.false_eq_true, Bool.not_true, Bool.not_false, aN_ap, aC_ap, eT_ap, eL_ap, fL_ap, eB1_ap, eIsi_ap, eIsiA_ap, e1n_ap, oS_ap, eSl_ap, eCall_ap, fCall_ap, eCall1_ap, eOx_ap, eDGet_ap, eDSort_ap, iS_ap, iR1_ap, iR2_ap, iE_ap, iZ_ap, gN_ap, gT2, gT3, sSeq_ap, sNext_ap, sExpr_ap, sRet_ap, sRetF_ap, sIf_ap, sAsg_ap, sPar_ap, sParD_ap, sPut_ap, sDPut_ap, sBind_ap, sOwn_ap, sApp_ap, sRetO_ap, eSortSet_ap, sFor_ap, sBag_ap, finB_2, own0_ap, fin0_0, fin1_0, fin0_1, fin1_1, fin0_2, fin1_2, fin0_3, fin1_3, fin0_4, fin1_4, fin0_5, fin1_5, fin0_6, fin1_6, fin0_7, fin1_7, fin0_8, fin1_8, dI0_ap, dAdd_ii, dLen_t, dLen_l, dTuple_l, dTuple_t, dList_l, dList_t, dMax_ii, dMin_ii, dIx_t, dIx_l, atI_0, atI_1, atI_2, atI_3, dSl_t, dSl_l, dSl_s, dNe_ii, dEq_ii, ifz, ifz', Option.map_some, List.length_cons, List.length_nil, List.length_append, List.length_map, zl0, zm0, zl1, zm1, zl2, zm2, zl3, zm3, zl4, zm4, zl5, zm5, zl6, zm6, zl7, zm7, zl8, zm8, zl9, zm9, zl10, zm10, zl11, zm11, zl12, zm12, zl13, zm13, zl14, zm14, zl15, zm15, zl16, zm16, Nat.zero_add, Nat.reduceAdd, Int.reduceAdd, Int.reduceSub, Int.reduceMul, Int.reduceNeg, Int.reduceEq, Int.reduceLE, Int.reduceLT, Int.reduceToNat, Int.reducePow, decide_true, decide_false, cn0, cn1, cn2, cn3, cn4, cn5, cn6, cn7, cn8, cn9, cn10, cn11, cn12, List.set_cons_zero, List.set_cons_succ, tn0, tn1, tn2, tn3, tn4, tn5, tn6, tn7, tn8, eLn_ap, tLn_ap, lnd_nil, lnd_cons, lend_ow, lend_dc, lend_un, lend_vl, scD_bl, scD_int, scD_non, scD_str, sParL_ap, frz_ap, chL_ap, chK_ap, chLt_ap, chKt_ap, asB_ap, dIsi, inst, instA, dIs, isNon, Bool.or_true, Bool.true_or, Bool.or_false, Bool.and_self]
  | n, .int i, _ => by
    unfold m__law_same b__law_same
    simp only [vls_nil, vls_cons, uns_zero, uns_succ, gt_zero, gt_succ, st_zero, st_succ, bnd_ap, ret_ap, lift_some, eC_ap, eV_ap, e2_ap, eB_ap, eNot_ap, tNot_ap, tAnd_app, tOr_app, ite_ap, eAnd_ap, eOr_ap, e3_app, eIf_ap, brk_ap, brk'_ap, ite_bl, ite_bo, ite_tb, ite_to, ↓reduceIte, Bool.false_eq_true, Bool.not_true, Bool.not_false, aN_ap, aC_ap, eT_ap, eL_ap, fL_ap, eB1_ap, eIsi_ap, eIsiA_ap, e1n_ap, oS_ap, eSl_ap, eCall_ap, fCall_ap, eCall1_ap, eOx_ap, eDGet_ap, eDSort_ap, iS_ap, iR1_ap, iR2_ap, iE_ap, iZ_ap, gN_ap, gT2, gT3, sSeq_ap, sNext_ap, sExpr_ap, sRet_ap, sRetF_ap, sIf_ap, sAsg_ap, sPar_ap, sParD_ap, sPut_ap, sDPut_ap, sBind_ap, sOwn_ap, sApp_ap, sRetO_ap, eSortSet_ap, sFor_ap, sBag_ap, finB_2, own0_ap, fin0_0, fin1_0, fin0_1, fin1_1, fin0_2, fin1_2, fin0_3, fin1_3, fin0_4, fin1_4, fin0_5, fin1_5, fin0_6, fin1_6, fin0_7, fin1_7, fin0_8, fin1_8, dI0_ap, dAdd_ii, dLen_t, dLen_l, dTuple_l, dTuple_t, dList_l, dList_t, dMax_ii, dMin_ii, dIx_t, dIx_l, atI_0, atI_1, atI_2, atI_3, dSl_t, dSl_l, dSl_s, dNe_ii, dEq_ii, ifz, ifz', Option.map_some, List.length_cons, List.length_nil, List.length_append, List.length_map, zl0, zm0, zl1, zm1, zl2, zm2, zl3, zm3, zl4, zm4, zl5, zm5, zl6, zm6, zl7, zm7, zl8, zm8, zl9, zm9, zl10, zm10, zl11, zm11, zl12, zm12, zl13, zm13, zl14, zm14, zl15, zm15, zl16, zm16, Nat.zero_add, Nat.reduceAdd, Int.reduceAdd, Int.reduceSub, Int.reduceMul, Int.reduceNeg, Int.reduceEq, Int.reduceLE, Int.reduceLT, Int.reduceToNat, Int.reducePow, decide_true, decide_false, cn0, cn1, cn2, cn3, cn4, cn5, cn6, cn7, cn8, cn9, cn10, cn11, cn12, List.set_cons_zero, List.set_cons_succ, tn0, tn1, tn2, tn3, tn4, tn5, tn6, tn7, tn8, eLn_ap, tLn_ap, lnd_nil, lnd_cons, lend_ow, lend_dc, lend_un, lend_vl, scD_bl, scD_int, scD_non, scD_str, sParL_ap, frz_ap, chL_ap, chK_ap, chLt_ap, chKt_ap, asB_ap, dIsi, inst, instA, Bool.or_true, Bool.true_or, Bool.or_false, Bool.and_self]
  | n + 1, .tup l, h => by
    have e : lcE [2, 3] (iZ (aC (eV 0) (aC (eV 1) aN))) (gT [2, 3]) (ret true) (eCall (m__law_same (n + 1)) (aC (eV 2) (aC (eV 3) aN))) [.vl (.tup l), .vl (.tup l), .un, .un] = some (.ok (.lst ((l.zip l).map fun _ => .bl true)) [.vl (.tup l), .vl (.tup l), .un, .un]) :=
      lcE_mapS (enc := fun p : D × D => .tup [p.1, p.2]) (fun _ => .bl true) (by simp only [vls_nil, vls_cons, uns_zero, uns_succ, gt_zero, gt_succ, st_zero, st_succ, bnd_ap, ret_ap, lift_some, eC_ap, eV_ap, e2_ap, eB_ap, eNot_ap, tNot_ap, tAnd_app, tOr_app, ite_ap, eAnd_ap, eOr_ap, e3_app, eIf_ap, brk_ap, brk'_ap, ite_bl, ite_bo, ite_tb, ite_to, ↓reduceIte, Bool.false_eq_true, Bool.not_true, Bool.not_false, aN_ap, aC_ap, eT_ap, eL_ap, fL_ap, eB1_ap, eIsi_ap, eIsiA_ap, e1n_ap, oS_ap, eSl_ap, eCall_ap, fCall_ap, eCall1_ap, eOx_ap, eDGet_ap, eDSort_ap, iS_ap, iR1_ap, iR2_ap, iE_ap, iZ_ap, gN_ap, gT2, gT3, sSeq_ap, sNext_ap, sExpr_ap, sRet_ap, sRetF_ap, sIf_ap, sAsg_ap, sPar_ap, sParD_ap, sPut_ap, sDPut_ap, sBind_ap, sOwn_ap, sApp_ap, sRetO_ap, eSortSet_ap, sFor_ap, sBag_ap, finB_2, own0_ap, fin0_0, fin1_0, fin0_1, fin1_1, fin0_2, fin1_2, fin0_3, fin1_3, fin0_4, fin1_4, fin0_5, fin1_5, fin0_6, fin1_6, fin0_7, fin1_7, fin0_8, fin1_8, dI0_ap, dAdd_ii, dLen_t, dLen_l, dTuple_l, dTuple_t, dList_l, dList_t, dMax_ii, dMin_ii, dIx_t, dIx_l, atI_0, atI_1, atI_2, atI_3, dSl_t, dSl_l, dSl_s, dNe_ii, dEq_ii, ifz, ifz', Option.map_some, List.length_cons, List.length_nil, List.length_append, List.length_map, zl0, zm0, zl1, zm1, zl2, zm2, zl3, zm3, zl4, zm4, zl5, zm5, zl6, zm6, zl7, zm7, zl8, zm8, zl9, zm9, zl10, zm10, zl11, zm11, zl12, zm12, zl13, zm13, zl14, zm14, zl15, zm15, zl16, zm16, Nat.zero_add, Nat.reduceAdd, Int.reduceAdd, Int.reduceSub, Int.reduceMul, Int.reduceNeg, Int.reduceEq, Int.reduceLE, Int.reduceLT, Int.reduceToNat, Int.reducePow, decide_true, decide_false, cn0, cn1, cn2, cn3, cn4, cn5, cn6, cn7, cn8, cn9, cn10, cn11, cn12, List.set_cons_zero, List.set_cons_succ, tn0, tn1, tn2, tn3, tn4, tn5, tn6, tn7, tn8, eLn_ap, tLn_ap, lnd_nil, lnd_cons, lend_ow, lend_dc, lend_un, lend_vl, scD_bl, scD_int, scD_non, scD_str, sParL_ap, frz_ap, chL_ap, chK_ap, chLt_ap, chKt_ap, asB_ap, zipL_self]) (by rw [List.length_zip]; have := h.1; omega) (fun p hp => by
        obtain ⟨q1, q2⟩ := zip_self_mem hp
        have ih := law_same_refl n p.1 (h.2 _ q2)
        refine ⟨_, gT2, ?_, rfl⟩
        rw [← q1]
        simp only [wp, vls_nil, vls_cons, uns_zero, uns_succ, gt_zero, gt_succ, st_zero, st_succ, bnd_ap, ret_ap, lift_some, eC_ap, eV_ap, e2_ap, eB_ap, eNot_ap, tNot_ap, tAnd_app, tOr_app, ite_ap, eAnd_ap, eOr_ap, e3_app, eIf_ap, brk_ap, brk'_ap, ite_bl, ite_bo, ite_tb, ite_to, ↓reduceIte, Bool.false_eq_true, Bool.not_true, Bool.not_false, aN_ap, aC_ap, eT_ap, eL_ap, fL_ap, eB1_ap, eIsi_ap, eIsiA_ap, e1n_ap, oS_ap, eSl_ap, eCall_ap, fCall_ap, eCall1_ap, eOx_ap, eDGet_ap, eDSort_ap, iS_ap, iR1_ap, iR2_ap, iE_ap, iZ_ap, gN_ap, gT2, gT3, sSeq_ap, sNext_ap, sExpr_ap, sRet_ap, sRetF_ap, sIf_ap, sAsg_ap, sPar_ap, sParD_ap, sPut_ap, sDPut_ap, sBind_ap, sOwn_ap, sApp_ap, sRetO_ap, eSortSet_ap, sFor_ap, sBag_ap, finB_2, own0_ap, fin0_0, fin1_0, fin0_1, fin1_1, fin0_2, fin1_2, fin0_3, fin1_3, fin0_4, fin1_4, fin0_5, fin1_5, fin0_6, fin1_6, fin0_7, fin1_7, fin0_8, fin1_8, dI0_ap, dAdd_ii, dLen_t, dLen_l, dTuple_l, dTuple_t, dList_l, dList_t, dMax_ii, dMin_ii, dIx_t, dIx_l, atI_0, atI_1, atI_2, atI_3, dSl_t, dSl_l, dSl_s, dNe_ii, dEq_ii, ifz, ifz', Option.map_some, List.length_cons, List.length_nil, List.length_append, List.length_map, zl0, zm0, zl1, zm1, zl2, zm2, zl3, zm3, zl4, zm4, zl5, zm5, zl6, zm6, zl7, zm7, zl8, zm8, zl9, zm9, zl10, zm10, zl11, zm11, zl12, zm12, zl13, zm13, zl14, zm14, zl15, zm15, zl16, zm16, Nat.zero_add, Nat.reduceAdd, Int.reduceAdd, Int.reduceSub, Int.reduceMul, Int.reduceNeg, Int.reduceEq, Int.reduceLE, Int.reduceLT, Int.reduceToNat, Int.reducePow, decide_true, decide_false, cn0, cn1, cn2, cn3, cn4, cn5, cn6, cn7, cn8, cn9, cn10, cn11, cn12, List.set_cons_zero, List.set_cons_succ, tn0, tn1, tn2, tn3, tn4, tn5, tn6, tn7, tn8, eLn_ap, tLn_ap, lnd_nil, lnd_cons, lend_ow, lend_dc, lend_un, lend_vl, scD_bl, scD_int, scD_non, scD_str, sParL_ap, frz_ap, chL_ap, chK_ap, chLt_ap, chKt_ap, asB_ap, ih]) rfl
    unfold m__law_same b__law_same
    simp only [vls_nil, vls_cons, uns_zero, uns_succ, gt_zero, gt_succ, st_zero, st_succ, bnd_ap, ret_ap, lift_some, eC_ap, eV_ap, e2_ap, eB_ap, eNot_ap, tNot_ap, tAnd_app, tOr_app, ite_ap, eAnd_ap, eOr_ap, e3_app, eIf_ap, brk_ap, brk'_ap, ite_bl, ite_bo, ite_tb, ite_to, ↓reduceIte, Bool.false_eq_true, Bool.not_true, Bool.not_false, aN_ap, aC_ap, eT_ap, eL_ap, fL_ap, eB1_ap, eIsi_ap, eIsiA_ap, e1n_ap, oS_ap, eSl_ap, eCall_ap, fCall_ap, eCall1_ap, eOx_ap, eDGet_ap, eDSort_ap, iS_ap, iR1_ap, iR2_ap, iE_ap, iZ_ap, gN_ap, gT2, gT3, sSeq_ap, sNext_ap, sExpr_ap, sRet_ap, sRetF_ap, sIf_ap, sAsg_ap, sPar_ap, sParD_ap, sPut_ap, sDPut_ap, sBind_ap, sOwn_ap, sApp_ap, sRetO_ap, eSortSet_ap, sFor_ap, sBag_ap, finB_2, own0_ap, fin0_0, fin1_0, fin0_1, fin1_1, fin0_2, fin1_2, fin0_3, fin1_3, fin0_4, fin1_4, fin0_5, fin1_5, fin0_6, fin1_6, fin0_7, fin1_7, fin0_8, fin1_8, dI0_ap, dAdd_ii, dLen_t, dLen_l, dTuple_l, dTuple_t, dList_l, dList_t, dMax_ii, dMin_ii, dIx_t, dIx_l, atI_0, atI_1, atI_2, atI_3, dSl_t, dSl_l, dSl_s, dNe_ii, dEq_ii, ifz, ifz', Option.map_some, List.length_cons, List.length_nil, List.length_append, List.length_map, zl0, zm0, zl1, zm1, zl2, zm2, zl3, zm3, zl4, zm4, zl5, zm5, zl6, zm6, zl7, zm7, zl8, zm8, zl9, zm9, zl10, zm10, zl11, zm11, zl12, zm12, zl13, zm13, zl14, zm14, zl15, zm15, zl16, zm16, Nat.zero_add, Nat.reduceAdd, Int.reduceAdd, Int.reduceSub, Int.reduceMul, Int.reduceNeg, Int.reduceEq, Int.reduceLE, Int.reduceLT, Int.reduceToNat, Int.reducePow, decide_true, decide_false, cn0, cn1, cn2, cn3, cn4, cn5, cn6, cn7, cn8, cn9, cn10, cn11, cn12, List.set_cons_zero, List.set_cons_succ, tn0, tn1, tn2, tn3, tn4, tn5, tn6, tn7, tn8, eLn_ap, tLn_ap, lnd_nil, lnd_cons, lend_ow, lend_dc, lend_un, lend_vl, scD_bl, scD_int, scD_non, scD_str, sParL_ap, frz_ap, chL_ap, chK_ap, chLt_ap, chKt_ap, asB_ap, dIsi, inst, e, dAll_map, all_yes]
  | n + 1, .lst l, h => by
    have e : lcE [2, 3] (iZ (aC (eV 0) (aC (eV 1) aN))) (gT [2, 3]) (ret true) (eCall (m__law_same (n + 1)) (aC (eV 2) (aC (eV 3) aN))) [.vl (.lst l), .vl (.lst l), .un, .un] = some (.ok (.lst ((l.zip l).map fun _ => .bl true)) [.vl (.lst l), .vl (.lst l), .un, .un]) :=
      lcE_mapS (enc := fun p : D × D => .tup [p.1, p.2]) (fun _ => .bl true) (by simp only [vls_nil, vls_cons, uns_zero, uns_succ, gt_zero, gt_succ, st_zero, st_succ, bnd_ap, ret_ap, lift_some, eC_ap, eV_ap, e2_ap, eB_ap, eNot_ap, tNot_ap, tAnd_app, tOr_app, ite_ap, eAnd_ap, eOr_ap, e3_app, eIf_ap, brk_ap, brk'_ap, ite_bl, ite_bo, ite_tb, ite_to, ↓reduceIte, Bool.false_eq_true, Bool.not_true, Bool.not_false, aN_ap, aC_ap, eT_ap, eL_ap, fL_ap, eB1_ap, eIsi_ap, eIsiA_ap, e1n_ap, oS_ap, eSl_ap, eCall_ap, fCall_ap, eCall1_ap, eOx_ap, eDGet_ap, eDSort_ap, iS_ap, iR1_ap, iR2_ap, iE_ap, iZ_ap, gN_ap, gT2, gT3, sSeq_ap, sNext_ap, sExpr_ap, sRet_ap, sRetF_ap, sIf_ap, sAsg_ap, sPar_ap, sParD_ap, sPut_ap, sDPut_ap, sBind_ap, sOwn_ap, sApp_ap, sRetO_ap, eSortSet_ap, sFor_ap, sBag_ap, finB_2, own0_ap, fin0_0, fin1_0, fin0_1, fin1_1, fin0_2, fin1_2, fin0_3, fin1_3, fin0_4, fin1_4, fin0_5, fin1_5, fin0_6, fin1_6, fin0_7, fin1_7, fin0_8, fin1_8, dI0_ap, dAdd_ii, dLen_t, dLen_l, dTuple_l, dTuple_t, dList_l, dList_t, dMax_ii, dMin_ii, dIx_t, dIx_l, atI_0, atI_1, atI_2, atI_3, dSl_t, dSl_l, dSl_s, dNe_ii, dEq_ii, ifz, ifz', Option.map_some, List.length_cons, List.length_nil, List.length_append, List.length_map, zl0, zm0, zl1, zm1, zl2, zm2, zl3, zm3, zl4, zm4, zl5, zm5, zl6, zm6, zl7, zm7, zl8, zm8, zl9, zm9, zl10, zm10, zl11, zm11, zl12, zm12, zl13, zm13, zl14, zm14, zl15, zm15, zl16, zm16, Nat.zero_add, Nat.reduceAdd, Int.reduceAdd, Int.reduceSub, Int.reduceMul, Int.reduceNeg, Int.reduceEq, Int.reduceLE, Int.reduceLT, Int.reduceToNat, Int.reducePow, decide_true, decide_false, cn0, cn1, cn2, cn3, cn4, cn5, cn6, cn7, cn8, cn9, cn10, cn11, cn12, List.set_cons_zero, List.set_cons_succ, tn0, tn1, tn2, tn3, tn4, tn5, tn6, tn7, tn8, eLn_ap, tLn_ap, lnd_nil, lnd_cons, lend_ow, lend_dc, lend_un, lend_vl, scD_bl, scD_int, scD_non, scD_str, sParL_ap, frz_ap, chL_ap, chK_ap, chLt_ap, chKt_ap, asB_ap, zipL_self]) (by rw [List.length_zip]; have := h.1; omega) (fun p hp => by
        obtain ⟨q1, q2⟩ := zip_self_mem hp
        have ih := law_same_refl n p.1 (h.2 _ q2)
        refine ⟨_, gT2, ?_, rfl⟩
        rw [← q1]
        simp only [wp, vls_nil, vls_cons, uns_zero, uns_succ, gt_zero, gt_succ, st_zero, st_succ, bnd_ap, ret_ap, lift_some, eC_ap, eV_ap, e2_ap, eB_ap, eNot_ap, tNot_ap, tAnd_app, tOr_app, ite_ap, eAnd_ap, eOr_ap, e3_app, eIf_ap, brk_ap, brk'_ap, ite_bl, ite_bo, ite_tb, ite_to, ↓reduceIte, Bool.false_eq_true, Bool.not_true, Bool.not_false, aN_ap, aC_ap, eT_ap, eL_ap, fL_ap, eB1_ap, eIsi_ap, eIsiA_ap, e1n_ap, oS_ap, eSl_ap, eCall_ap, fCall_ap, eCall1_ap, eOx_ap, eDGet_ap, eDSort_ap, iS_ap, iR1_ap, iR2_ap, iE_ap, iZ_ap, gN_ap, gT2, gT3, sSeq_ap, sNext_ap, sExpr_ap, sRet_ap, sRetF_ap, sIf_ap, sAsg_ap, sPar_ap, sParD_ap, sPut_ap, sDPut_ap, sBind_ap, sOwn_ap, sApp_ap, sRetO_ap, eSortSet_ap, sFor_ap, sBag_ap, finB_2, own0_ap, fin0_0, fin1_0, fin0_1, fin1_1, fin0_2, fin1_2, fin0_3, fin1_3, fin0_4, fin1_4, fin0_5, fin1_5, fin0_6, fin1_6, fin0_7, fin1_7, fin0_8, fin1_8, dI0_ap, dAdd_ii, dLen_t, dLen_l, dTuple_l, dTuple_t, dList_l, dList_t, dMax_ii, dMin_ii, dIx_t, dIx_l, atI_0, atI_1, atI_2, atI_3, dSl_t, dSl_l, dSl_s, dNe_ii, dEq_ii, ifz, ifz', Option.map_some, List.length_cons, List.length_nil, List.length_append, List.length_map, zl0, zm0, zl1, zm1, zl2, zm2, zl3, zm3, zl4, zm4, zl5, zm5, zl6, zm6, zl7, zm7, zl8, zm8, zl9, zm9, zl10, zm10, zl11, zm11, zl12, zm12, zl13, zm13, zl14, zm14, zl15, zm15, zl16, zm16, Nat.zero_add, Nat.reduceAdd, Int.reduceAdd, Int.reduceSub, Int.reduceMul, Int.reduceNeg, Int.reduceEq, Int.reduceLE, Int.reduceLT, Int.reduceToNat, Int.reducePow, decide_true, decide_false, cn0, cn1, cn2, cn3, cn4, cn5, cn6, cn7, cn8, cn9, cn10, cn11, cn12, List.set_cons_zero, List.set_cons_succ, tn0, tn1, tn2, tn3, tn4, tn5, tn6, tn7, tn8, eLn_ap, tLn_ap, lnd_nil, lnd_cons, lend_ow, lend_dc, lend_un, lend_vl, scD_bl, scD_int, scD_non, scD_str, sParL_ap, frz_ap, chL_ap, chK_ap, chLt_ap, chKt_ap, asB_ap, ih]) rfl
    unfold m__law_same b__law_same
    simp only [vls_nil, vls_cons, uns_zero, uns_succ, gt_zero, gt_succ, st_zero, st_succ, bnd_ap, ret_ap, lift_some, eC_ap, eV_ap, e2_ap, eB_ap, eNot_ap, tNot_ap, tAnd_app, tOr_app, ite_ap, eAnd_ap, eOr_ap, e3_app, eIf_ap, brk_ap, brk'_ap, ite_bl, ite_bo, ite_tb, ite_to, ↓reduceIte, Bool.false_eq_true, Bool.not_true, Bool.not_false, aN_ap, aC_ap, eT_ap, eL_ap, fL_ap, eB1_ap, eIsi_ap, eIsiA_ap, e1n_ap, oS_ap, eSl_ap, eCall_ap, fCall_ap, eCall1_ap, eOx_ap, eDGet_ap, eDSort_ap, iS_ap, iR1_ap, iR2_ap, iE_ap, iZ_ap, gN_ap, gT2, gT3, sSeq_ap, sNext_ap, sExpr_ap, sRet_ap, sRetF_ap, sIf_ap, sAsg_ap, sPar_ap, sParD_ap, sPut_ap, sDPut_ap, sBind_ap, sOwn_ap, sApp_ap, sRetO_ap, eSortSet_ap, sFor_ap, sBag_ap, finB_2, own0_ap, fin0_0, fin1_0, fin0_1, fin1_1, fin0_2, fin1_2, fin0_3, fin1_3, fin0_4, fin1_4, fin0_5, fin1_5, fin0_6, fin1_6, fin0_7, fin1_7, fin0_8, fin1_8, dI0_ap, dAdd_ii, dLen_t, dLen_l, dTuple_l, dTuple_t, dList_l, dList_t, dMax_ii, dMin_ii, dIx_t, dIx_l, atI_0, atI_1, atI_2, atI_3, dSl_t, dSl_l, dSl_s, dNe_ii, dEq_ii, ifz, ifz', Option.map_some, List.length_cons, List.length_nil, List.length_append, List.length_map, zl0, zm0, zl1, zm1, zl2, zm2, zl3, zm3, zl4, zm4, zl5, zm5, zl6, zm6, zl7, zm7, zl8, zm8, zl9, zm9, zl10, zm10, zl11, zm11, zl12, zm12, zl13, zm13, zl14, zm14, zl15, zm15, zl16, zm16, Nat.zero_add, Nat.reduceAdd, Int.reduceAdd, Int.reduceSub, Int.reduceMul, Int.reduceNeg, Int.reduceEq, Int.reduceLE, Int.reduceLT, Int.reduceToNat, Int.reducePow, decide_true, decide_false, cn0, cn1, cn2, cn3, cn4, cn5, cn6, cn7, cn8, cn9, cn10, cn11, cn12, List.set_cons_zero, List.set_cons_succ, tn0, tn1, tn2, tn3, tn4, tn5, tn6, tn7, tn8, eLn_ap, tLn_ap, lnd_nil, lnd_cons, lend_ow, lend_dc, lend_un, lend_vl, scD_bl, scD_int, scD_non, scD_str, sParL_ap, frz_ap, chL_ap, chK_ap, chLt_ap, chKt_ap, asB_ap, dIsi, inst, e, dAll_map, all_yes]
  | 0, .tup _, h => h.elim
  | 0, .lst _, h => h.elim
  | 0, .bl _, h => h.elim
  | 0, .str _, h => h.elim
  | 0, .dct _, h => h.elim
  | 0, .scr _, h => h.elim
  | 0, .rf _, h => h.elim
  | _ + 1, .bl _, h => h.elim
  | _ + 1, .str _, h => h.elim
  | _ + 1, .dct _, h => h.elim
  | _ + 1, .scr _, h => h.elim
  | _ + 1, .rf _, h => h.elim
theorem foldAll_lenB (B : Nat) : ∀ (ws : List Win) (found : List (List Int)), (∀ w ∈ ws, w.2 + 1 - w.1 ≤ B) → (ws.foldl stepAll found).length ≤ found.length * B ^ ws.length
  | [], found, _ => by simp
  | w :: ws, found, h => by
    have ih := foldAll_lenB B ws (stepAll found w) fun v hv => h v (List.mem_cons_of_mem _ hv)
    have h1 : (stepAll found w).length ≤ found.length * B := by
      unfold stepAll
      refine flat_len _ B _ fun x _ => ?_
      have := h w List.mem_cons_self
      unfold rngI
      rw [List.length_map, List.length_map, List.length_range]; omega
    rw [List.foldl_cons, List.length_cons, Nat.pow_succ]
    refine Nat.le_trans ih (Nat.le_trans (Nat.mul_le_mul_right _ h1) ?_)
    rw [Nat.mul_assoc, Nat.mul_comm B]
    exact Nat.le_refl _
theorem keptAll_len {ws : List Win} {ts : List Tal} (hl : ws.length ≤ 4) (h : ∀ w ∈ ws, w.2 + 1 - w.1 ≤ 7) : (keptAll ws ts).length ≤ 2401 := by
  unfold keptAll
  refine Nat.le_trans (List.length_filter_le _ _) ?_
  have := foldAll_lenB 7 ws [[]] h
  refine Nat.le_trans this ?_
  rw [List.length_singleton, Nat.one_mul]
  exact Nat.le_trans (Nat.pow_le_pow_right (by decide) hl) (by decide)
theorem dSortSet_ok {l : List D} {ns : List Int} (h : toIs l = some ns) (h1 : ns.length < 4000) (h2 : (dd ns).length < 64) : dSortSet (.lst l) = some (.lst ((isort (dd ns)).map .int)) := by
  show (toIs l).bind _ = _
  rw [h, Option.bind_some, if_pos ⟨h1, h2⟩]
theorem dd_small {l : List Int} {a b : Int} {n : Nat} (h : ∀ x ∈ l, a ≤ x ∧ x ≤ b) (hn : b - a + 1 ≤ n) : (dd l).length ≤ n := by
  have h1 := nd_len (m := (List.range n).map fun k : Nat => a + (k : Int)) (nodup_dd l) fun x hx => by
    have := h x ((mem_dd x l).mp hx)
    exact List.mem_map.mpr ⟨(x - a).toNat, List.mem_range.mpr (by omega), by omega⟩
  rw [List.length_map, List.length_range] at h1
  exact h1
/-- a sorted list without gaps -/
theorem isort_range {l : List Int} {a b : Int} (h : ∀ v, v ∈ l ↔ a ≤ v ∧ v ≤ b) : isort (dd l) = (List.range (b + 1 - a).toNat).map fun k : Nat => a + (k : Int) := by
  refine sorted_unique ?_ (isort_sorted _) ?_
  · refine (isort_perm _).trans ((List.perm_ext_iff_of_nodup (nodup_dd l) ?_).mpr fun v => ?_)
    · refine List.pairwise_map.mpr (List.nodup_range.imp fun {x y} hne => by omega)
    · rw [mem_dd, h, List.mem_map]
      constructor
      · rintro ⟨h1, h2⟩
        exact ⟨(v - a).toNat, List.mem_range.mpr (by omega), by omega⟩
      · rintro ⟨k, hk, rfl⟩
        have := List.mem_range.mp hk
        omega
  · refine List.pairwise_map.mpr (List.pairwise_lt_range.imp fun {x y} hlt => by omega)
theorem atI_neg1 {α : Type} {l : List α} (h : 0 < l.length) : atI l (-1) = l[l.length - 1]? := by
  unfold atI ixN
  rw [if_neg (by decide), if_pos (by omega)]
  show l[(-1 + (l.length : Int)).toNat]? = _
  rw [show (-1 + (l.length : Int)).toNat = l.length - 1 by omega]
theorem short_range (ws : List Win) (ts : List Tal) (t : Int) : Short 3 (rangeD ws ts t) := by
  unfold rangeD
  split
  · refine ⟨by simp, fun d hd => ?_⟩
    rcases List.mem_cons.mp hd with rfl | hd
    · trivial
    · rw [List.mem_singleton.mp hd]; trivial
  · trivial
/-! the numbers of all courses by a time, sorted -/
theorem numbers_ok {ws : List Win} {ts : List Tal} (hw : WsOk ws) (ht : TsOk ws.length ts) (hl : ws.length ≤ 4) (hs : ∀ w ∈ ws, w.2 ≤ 6) {t : Int} (t0 : -1 ≤ t) (t1 : t ≤ 1000) :
    ∃ L : List D, dSortSet (.lst ((keptAll ws ts).map fun xs => D.int (num xs t : Int))) = some (.lst L) ∧
      (((conf ws ts).isNone = false ∧ keptAll ws ts = [] ∧ L = [] ∧ dNe (.lst L) (.lst []) = some (.bl false) ∧ rangeD ws ts t = .non) ∨
       ∃ a b : Int, (conf ws ts).isNone = true ∧ rangeD ws ts t = .tup [.int a, .int b] ∧ L = rangeL a (b + 1 - a).toNat ∧ dNe (.lst L) (.lst []) = some (.bl true) ∧ atI L 0 = some (.int a) ∧ atI L (-1) = some (.int b) ∧ 0 ≤ a ∧ a ≤ b ∧ b ≤ 4 ∧ dNe (.lst L) (.lst L) = some (.bl false)) := by
  have hlt := ht.len
  have kl := keptAll_len (ws := ws) (ts := ts) hl (fun w hm => by obtain ⟨a1, a2, a3⟩ := hw.ok w hm; have := hs w hm; omega)
  have hns : toIs ((keptAll ws ts).map fun xs => D.int (num xs t : Int)) = some ((keptAll ws ts).map fun xs => (num xs t : Int)) := toIs_map _ _
  have hdd : (dd ((keptAll ws ts).map fun xs => (num xs t : Int))).length < 64 := by
    refine Nat.lt_of_le_of_lt (dd_small (a := 0) (b := 4) (n := 5) (fun v hv => ?_) (by omega)) (by decide)
    obtain ⟨xs, hxs, rfl⟩ := List.mem_map.mp hv
    have := Paired.len' (mem_keptAll.mp hxs).1
    have := num_le xs t
    omega
  have es := dSortSet_ok hns (by rw [List.length_map]; omega) hdd
  refine ⟨_, es, ?_⟩
  cases q : (conf ws ts).isNone with
  | false =>
    have he : keptAll ws ts = [] := by
      have := same_all hw ht
      rw [q] at this
      exact List.isEmpty_iff.mp (by revert this; cases (keptAll ws ts).isEmpty <;> simp)
    refine .inl ⟨rfl, he, ?_, ?_, ?_⟩
    · rw [he]; rfl
    · rw [he]; exact (dEq_empty D.int (fun _ => trivial) []).2
    · unfold rangeD; rw [q]; rfl
  | true =>
    have hf : Fit ws ts := (conf_fit ht).mp (Option.isNone_iff_eq_none.mp q)
    have hmem : ∀ v, v ∈ ((keptAll ws ts).map fun xs => (num xs t : Int)) ↔ lowB ws ts t ≤ v ∧ v ≤ highB ws ts t := fun v => by
      rw [← range_iff hw (fun x hx => ⟨(ht.ok x hx).1, (ht.ok x hx).2.1⟩) hf (t := t) (by omega) (by omega), List.mem_map]
      constructor
      · rintro ⟨xs, hxs, rfl⟩
        exact ⟨xs, (mem_keptAll.mp hxs).1, (mem_keptAll.mp hxs).2, rfl⟩
      · rintro ⟨xs, h1, h2, rfl⟩
        exact ⟨xs, mem_keptAll.mpr ⟨h1, h2⟩, rfl⟩
    have hne : ∃ v, v ∈ ((keptAll ws ts).map fun xs => (num xs t : Int)) := by
      obtain ⟨xs, h1, h2⟩ := (agree_iff hw ht).mp q
      exact ⟨_, List.mem_map.mpr ⟨xs, mem_keptAll.mpr ⟨h1, h2⟩, rfl⟩⟩
    obtain ⟨v, hv⟩ := hne
    have hv' := (hmem v).mp hv
    have b0 : 0 ≤ lowB ws ts t := by
      obtain ⟨xs, _, e⟩ := List.mem_map.mp ((hmem _).mpr ⟨Int.le_refl _, by omega⟩)
      omega
    have b1 : highB ws ts t ≤ 4 := by
      obtain ⟨xs, hxs, e⟩ := List.mem_map.mp ((hmem _).mpr ⟨(by omega : lowB ws ts t ≤ highB ws ts t), Int.le_refl _⟩)
      have := Paired.len' (mem_keptAll.mp hxs).1
      have := num_le xs t
      omega
    have hr := isort_range hmem
    have hrd : rangeD ws ts t = .tup [.int (lowB ws ts t), .int (highB ws ts t)] := by unfold rangeD; rw [q]; rfl
    rw [hr, hrd]
    generalize lowB ws ts t = a at *
    generalize highB ws ts t = b at *
    have hnum : ((List.range (b + 1 - a).toNat).map fun k : Nat => a + (k : Int)).map D.int = rangeL a (b + 1 - a).toNat := by unfold rangeL; rw [List.map_map]; rfl
    rw [hnum]
    have hlen : (rangeL a (b + 1 - a).toNat).length = (b + 1 - a).toNat := by unfold rangeL; rw [List.length_map, List.length_range]
    have i0 : atI (rangeL a (b + 1 - a).toNat) 0 = some (.int a) := by
      rw [atI_nat (by decide) (by rw [hlen]; omega)]
      unfold rangeL
      rw [List.getElem?_map, List.getElem?_range (by show (0 : Int).toNat < _; omega)]
      show some (D.int (a + ((0 : Nat) : Int))) = _
      rw [show a + ((0 : Nat) : Int) = a by omega]
    have i1 : atI (rangeL a (b + 1 - a).toNat) (-1) = some (.int b) := by
      rw [atI_neg1 (by rw [hlen]; omega), hlen]
      unfold rangeL
      rw [List.getElem?_map, List.getElem?_range (by omega)]
      show some (D.int (a + (((b + 1 - a).toNat - 1 : Nat) : Int))) = _
      rw [show a + (((b + 1 - a).toNat - 1 : Nat) : Int) = b by omega]
    have nn : Nice 6 (.lst (rangeL a (b + 1 - a).toNat)) := fun d hd => by
      unfold rangeL at hd
      obtain ⟨k, _, rfl⟩ := List.mem_map.mp hd
      trivial
    have n1 : dNe (.lst (rangeL a (b + 1 - a).toNat)) (.lst []) = some (.bl true) := (dEq_false 6 nn (show Nice 6 (.lst []) from fun d hd => (List.not_mem_nil hd).elim) (fun e => by
      have := congrArg (fun d => match d with | D.lst l => l.length | _ => 0) e
      simp only [hlen, List.length_nil] at this
      omega)).2
    exact .inr ⟨a, b, rfl, rfl, rfl, n1, i0, i1, b0, by omega, b1, (dEq_true 6 nn nn rfl).2⟩
/-! tallies without one of them; one window or tally changed -/
theorem sub_ok {n : Nat} {ts us : List Tal} (h : TsOk n ts) (s : us.Sublist ts) : TsOk n us :=
  ⟨Nat.le_trans s.length_le h.len, fun t ht => h.ok t (s.subset ht), h.inc.sublist s⟩
theorem erase_ok {n : Nat} {ts : List Tal} (h : TsOk n ts) (i : Nat) : TsOk n (ts.eraseIdx i) := sub_ok h (List.eraseIdx_sublist ts i)
theorem sl_to {α : Type} (f : α → D) (l : List α) (i : Nat) : dSl (.tup (l.map f)) none (some (i : Int)) = some (.tup ((l.take i).map f)) := by
  rw [dSl_t, cutL_to (by omega), Int.toNat_natCast, List.map_take]
theorem sl_from {α : Type} (f : α → D) (l : List α) (i : Nat) : dSl (.tup (l.map f)) (some ((i : Int) + 1)) none = some (.tup ((l.drop (i + 1)).map f)) := by
  rw [dSl_t, cutL_from (by omega), show ((i : Int) + 1).toNat = i + 1 by omega, List.map_drop]
theorem ts_to (ts : List Tal) (i : Nat) : dSl (tsD ts) none (some (i : Int)) = some (.tup ((ts.take i).map tD)) := sl_to tD ts i
theorem ts_from (ts : List Tal) (i : Nat) : dSl (tsD ts) (some ((i : Int) + 1)) none = some (.tup ((ts.drop (i + 1)).map tD)) := sl_from tD ts i
theorem ws_to (ws : List Win) (i : Nat) : dSl (wsD ws) none (some (i : Int)) = some (.tup ((ws.take i).map wD)) := sl_to wD ws i
theorem ws_from (ws : List Win) (i : Nat) : dSl (wsD ws) (some ((i : Int) + 1)) none = some (.tup ((ws.drop (i + 1)).map wD)) := sl_from wD ws i
theorem add_erase {α : Type} (f : α → D) {l : List α} {i : Nat} (h : l.length ≤ 1000) : dAdd (.tup ((l.take i).map f)) (.tup ((l.drop (i + 1)).map f)) = some (.tup ((l.eraseIdx i).map f)) := by
  rw [dAdd_tt (by simp only [List.length_map, List.length_take, List.length_drop]; omega), ← List.map_append, List.eraseIdx_eq_take_drop_succ]
theorem ts_erase {ts : List Tal} {i : Nat} (h : ts.length ≤ 1000) : dAdd (.tup ((ts.take i).map tD)) (.tup ((ts.drop (i + 1)).map tD)) = some (tsD (ts.eraseIdx i)) := add_erase tD h
theorem set_eq {α : Type} {l : List α} {i : Nat} {x : α} (h : i < l.length) : l.take i ++ [x] ++ l.drop (i + 1) = l.set i x := by
  rw [List.set_eq_take_append_cons_drop, if_pos h, List.append_assoc]; rfl
theorem add_set1 {α : Type} (f : α → D) {l : List α} {i : Nat} {x : D} (h : l.length ≤ 1000) : dAdd (.tup ((l.take i).map f)) (.tup [x]) = some (.tup ((l.take i).map f ++ [x])) :=
  dAdd_tt (by simp only [List.length_map, List.length_take, List.length_cons, List.length_nil]; omega)
theorem add_set2 {α : Type} (f : α → D) {l : List α} {i : Nat} {x : α} (h : l.length ≤ 1000) (hi : i < l.length) : dAdd (.tup ((l.take i).map f ++ [f x])) (.tup ((l.drop (i + 1)).map f)) = some (.tup ((l.set i x).map f)) := by
  rw [dAdd_tt (by simp only [List.length_append, List.length_map, List.length_take, List.length_drop, List.length_cons, List.length_nil]; omega), ← set_eq hi, List.map_append, List.map_append]; rfl
theorem ts_set1 {ts : List Tal} {i : Nat} {x : D} (h : ts.length ≤ 1000) : dAdd (.tup ((ts.take i).map tD)) (.tup [x]) = some (.tup ((ts.take i).map tD ++ [x])) := add_set1 tD h
theorem ts_set2 {ts : List Tal} {i : Nat} {a b c : Int} (h : ts.length ≤ 1000) (hi : i < ts.length) : dAdd (.tup ((ts.take i).map tD ++ [.tup [.int a, .int b, .int c]])) (.tup ((ts.drop (i + 1)).map tD)) = some (tsD (ts.set i (a, b, c))) := add_set2 tD (x := (a, b, c)) h hi
theorem ws_set1 {ws : List Win} {i : Nat} {x : D} (h : ws.length ≤ 1000) : dAdd (.tup ((ws.take i).map wD)) (.tup [x]) = some (.tup ((ws.take i).map wD ++ [x])) := add_set1 wD h
theorem ws_set2 {ws : List Win} {i : Nat} {a b : Int} (h : ws.length ≤ 1000) (hi : i < ws.length) : dAdd (.tup ((ws.take i).map wD ++ [.tup [.int a, .int b]])) (.tup ((ws.drop (i + 1)).map wD)) = some (wsD (ws.set i (a, b))) := add_set2 wD (x := (a, b)) h hi
theorem set_ok {n : Nat} {ts : List Tal} (h : TsOk n ts) {i : Nat} {t u : Tal} (hi : ts[i]? = some t) (e : u.1 = t.1) (hu : TOk n u) : TsOk n (ts.set i u) := by
  refine ⟨by rw [List.length_set]; exact h.len, fun x hx => ?_, ?_⟩
  · rcases List.mem_or_eq_of_mem_set hx with hx | rfl
    · exact h.ok x hx
    · exact hu
  · have e1 : (ts.set i u).map (·.1) = ts.map (·.1) := by
      apply List.ext_getElem?
      intro j
      rw [List.getElem?_map, List.getElem?_map, List.getElem?_set]
      by_cases z : i = j
      · subst z
        obtain ⟨h1, rfl⟩ := List.getElem?_eq_some_iff.mp hi
        rw [if_pos rfl, if_pos h1, List.getElem?_eq_getElem h1]
        simp only [Option.map_some, e]
      · rw [if_neg z]
    have h1 := (List.pairwise_map (f := fun t : Tal => t.1) (R := fun a b : Int => a < b)).mpr h.inc
    rw [← e1] at h1
    exact List.pairwise_map.mp h1
/-- a drawn time in a narrowed window is one of the wider window -/
theorem ws_ix {ws : List Win} {i : Nat} {w : Win} (h : ws[i]? = some w) : dIx (wsD ws) (.int (i : Int)) = some (wD w) := by
  obtain ⟨h1, rfl⟩ := List.getElem?_eq_some_iff.mp h
  unfold wsD
  rw [dIx_t, atI_nat (by omega) (by rw [List.length_map]; omega), List.getElem?_map, show ((i : Int)).toNat = i by omega, List.getElem?_eq_getElem h1]; rfl
theorem ts_ix {ts : List Tal} {i : Nat} {t : Tal} (h : ts[i]? = some t) : dIx (tsD ts) (.int (i : Int)) = some (tD t) := by
  obtain ⟨h1, rfl⟩ := List.getElem?_eq_some_iff.mp h
  unfold tsD
  rw [dIx_t, atI_nat (by omega) (by rw [List.length_map]; omega), List.getElem?_map, show ((i : Int)).toNat = i by omega, List.getElem?_eq_getElem h1]; rfl
theorem xs_ix {xs : List Int} {i : Nat} {x : Int} (h : xs[i]? = some x) : dIx (xsD xs) (.int (i : Int)) = some (.int x) := by
  obtain ⟨h1, rfl⟩ := List.getElem?_eq_some_iff.mp h
  unfold xsD
  rw [dIx_t, atI_nat (by omega) (by rw [List.length_map]; omega), List.getElem?_map, show ((i : Int)).toNat = i by omega, List.getElem?_eq_getElem h1]; rfl
theorem mem_enum {α : Type} {l : List α} {x : α × Nat} (h : x ∈ l.zipIdx 0) : l[x.2]? = some x.1 := List.mem_zipIdx_iff_getElem?.mp h
/-! a tally that is lost -/
/-! neighbours in a rising list -/
theorem zip_next {cs : List Int} (h : cs.Pairwise (· < ·)) : ∀ p ∈ cs.zip (cs.drop 1), p.1 ∈ cs ∧ p.2 ∈ cs ∧ p.1 < p.2 ∧ ∀ x ∈ cs, x ≤ p.1 ∨ p.2 ≤ x := by
  induction h with
  | nil => intro p hp; cases hp
  | @cons a l ha hl ih =>
    cases l with
    | nil => intro p hp; cases hp
    | cons b r =>
      intro p hp
      have hp' : p ∈ (a, b) :: ((b :: r).zip ((b :: r).drop 1)) := hp
      rcases List.mem_cons.mp hp' with rfl | hp'
      · refine ⟨List.mem_cons_self, List.mem_cons_of_mem _ List.mem_cons_self, ha b List.mem_cons_self, fun x hx => ?_⟩
        rcases List.mem_cons.mp hx with rfl | hx
        · exact .inl (Int.le_refl _)
        · rcases List.mem_cons.mp hx with rfl | hx
          · exact .inr (Int.le_refl _)
          · exact .inr (Int.le_of_lt ((List.pairwise_cons.mp hl).1 x hx))
      · obtain ⟨h1, h2, h3, h4⟩ := ih p hp'
        refine ⟨List.mem_cons_of_mem _ h1, List.mem_cons_of_mem _ h2, h3, fun x hx => ?_⟩
        rcases List.mem_cons.mp hx with rfl | hx
        · exact .inl (Int.le_of_lt (ha _ h1))
        · exact h4 x hx
/-- the pairs hang together, from z on to the end y -/
def Chn (y : Int) : Int → List (Int × Int) → Prop
  | z, [] => z = y
  | z, p :: r => p.1 = z ∧ Chn y p.2 r
theorem chn_zip : ∀ (cs : List Int) (z : Int), Chn ((z :: cs).getLast (by simp)) z ((z :: cs).zip cs)
  | [], z => rfl
  | b :: r, z => by
    refine ⟨rfl, ?_⟩
    have := chn_zip r b
    rw [List.getLast_cons (by simp)]
    exact this
theorem sorted_ends {cs : List Int} (h : cs.Pairwise (· < ·)) {a b : Int} (ha : a ∈ cs) (hb : b ∈ cs) (hm : ∀ x ∈ cs, a ≤ x ∧ x ≤ b) : ∃ r, cs = a :: r ∧ (a :: r).getLast (by simp) = b := by
  cases h with
  | nil => cases ha
  | @cons c r hc hr =>
    have e : c = a := by
      rcases List.mem_cons.mp ha with e | h1
      · exact e.symm
      · have := hc a h1
        have := (hm c List.mem_cons_self).1
        omega
    subst e
    refine ⟨r, rfl, ?_⟩
    have hl := List.getLast_mem (l := c :: r) (by simp)
    have h1 := (hm _ hl).2
    -- b stands somewhere; the last is not below it
    have key : ∀ (l : List Int) (hne : l ≠ []), l.Pairwise (· < ·) → ∀ x ∈ l, x ≤ l.getLast hne := by
      intro l
      induction l with
      | nil => intro hne; exact absurd rfl hne
      | cons y t ih =>
        intro hne hp x hx
        cases t with
        | nil => rw [List.mem_singleton.mp hx]; exact Int.le_refl _
        | cons z t =>
          rw [List.getLast_cons (by simp)]
          rcases List.mem_cons.mp hx with rfl | hx
          · have := (List.pairwise_cons.mp hp).1 z List.mem_cons_self
            have := ih (by simp) (List.pairwise_cons.mp hp).2 z List.mem_cons_self
            omega
          · exact ih (by simp) (List.pairwise_cons.mp hp).2 x hx
    have h2 := key (c :: r) (by simp) (.cons hc hr) b hb
    omega
/-! a single event's times -/
/-- whether the event can happen at this time -/
def poss (ws : List Win) (ts : List Tal) (e : Nat) (m : Int) : Bool := (conf (ws.set e (m, m)) ts).isNone
def posL (ws : List Win) (ts : List Tal) (e : Nat) (w : Win) : List Int := (rngI w).filter (poss ws ts e)
theorem exc_set {ws : List Win} {ts : List Tal} {e : Nat} {w u v : Win} (he : ws[e]? = some w) {p : Idx × Idx} (h : ind u (startP ts p.1).1 (endP ws.length ts p.2).1 = ind v (startP ts p.1).1 (endP ws.length ts p.2).1) : exc (ws.set e u) ts p = exc (ws.set e v) ts p := by
  have h1 := insN_set ws e w u (startP ts p.1).1 (endP ws.length ts p.2).1 he
  have h2 := insN_set ws e w v (startP ts p.1).1 (endP ws.length ts p.2).1 he
  unfold exc
  rw [List.length_set, List.length_set]
  have : insN (ws.set e u) (startP ts p.1).1 (endP ws.length ts p.2).1 = insN (ws.set e v) (startP ts p.1).1 (endP ws.length ts p.2).1 := by omega
  rw [this]
theorem conf_piece {ws : List Win} {ts : List Tal} (ht : ∀ t ∈ ts, 0 ≤ t.1 ∧ t.1 ≤ 1000) {e : Nat} {w : Win} (he : ws[e]? = some w) {s t m : Int} (hs : -1 ≤ s) (ht2 : t ≤ 1000) (hc : ∀ x ∈ ts, x.1 ≤ s ∨ t ≤ x.1) (h1 : s < m) (h2 : m ≤ t) : conf (ws.set e (m, m)) ts = conf (ws.set e (s + 1, t)) ts := by
  unfold conf
  have : ∀ p ∈ pairsL ts.length, decide (0 < exc (ws.set e (m, m)) ts p) = decide (0 < exc (ws.set e (s + 1, t)) ts p) := by
    intro p hp
    obtain ⟨i1, i2⟩ := pairs_ix hp
    have hst : (startP ts p.1).1 ≤ s ∨ t ≤ (startP ts p.1).1 := by
      have := start_mem i1
      rcases List.mem_cons.mp this with e1 | h
      · rw [e1]; exact .inl hs
      · unfold lows at h
        obtain ⟨x, hx, e1⟩ := List.mem_map.mp h
        rw [← e1]; exact hc x hx
    have hen : (endP ws.length ts p.2).1 ≤ s ∨ t ≤ (endP ws.length ts p.2).1 := by
      have := end_mem (n := ws.length) i2
      rcases List.mem_cons.mp this with e1 | h
      · rw [e1]; exact .inr ht2
      · unfold highs at h
        obtain ⟨x, hx, e1⟩ := List.mem_map.mp h
        rw [← e1]; exact hc x hx
    rw [exc_set he (u := (m, m)) (v := (s + 1, t))]
    unfold ind
    simp only []
    by_cases q : (startP ts p.1).1 < m ∧ m ≤ (endP ws.length ts p.2).1
    · rw [if_pos q, if_pos (by omega)]
    · rw [if_neg q, if_neg (by omega)]
  generalize pairsL ts.length = l at *
  induction l with
  | nil => rfl
  | cons p r ih =>
    have hp := this p List.mem_cons_self
    have ih := ih fun q hq => this q (List.mem_cons_of_mem _ hq)
    rw [List.find?_cons, List.find?_cons, hp, ih]
theorem poss_piece {ws : List Win} {ts : List Tal} (ht : ∀ t ∈ ts, 0 ≤ t.1 ∧ t.1 ≤ 1000) {e : Nat} {w : Win} (he : ws[e]? = some w) {s t m : Int} (hs : -1 ≤ s) (ht2 : t ≤ 1000) (hc : ∀ x ∈ ts, x.1 ≤ s ∨ t ≤ x.1) (h1 : s < m) (h2 : m ≤ t) : poss ws ts e m = (conf (ws.set e (s + 1, t)) ts).isNone := by
  unfold poss
  rw [conf_piece ht he hs ht2 hc h1 h2]
/-! maximal ranges -/
def jstep (found : List Win) (p : Win) : List Win := match found.getLast? with
  | some q => if q.2 + 1 = p.1 then found.dropLast ++ [(q.1, p.2)] else found ++ [p]
  | none => found ++ [p]
def joined (l : List Int) : List Win := l.foldl (fun f m => jstep f (m, m)) []
theorem jstep_range : ∀ (n : Nat) (f : List Win) (s : Int), (((List.range (n + 1)).map fun k : Nat => s + (k : Int)).foldl (fun f m => jstep f (m, m)) f) = jstep f (s, s + (n : Int))
  | 0, f, s => by
    show jstep f (s + ((0 : Nat) : Int), s + ((0 : Nat) : Int)) = _
    rw [show s + ((0 : Nat) : Int) = s by omega]
  | n + 1, f, s => by
    rw [List.range_succ, List.map_append, List.foldl_append, jstep_range n f s]
    show jstep (jstep f (s, s + (n : Int))) (s + ((n + 1 : Nat) : Int), s + ((n + 1 : Nat) : Int)) = _
    have key : ∀ (g : List Win) (a : Int), jstep (g ++ [(a, s + (n : Int))]) (s + ((n + 1 : Nat) : Int), s + ((n + 1 : Nat) : Int)) = g ++ [(a, s + ((n + 1 : Nat) : Int))] := by
      intro g a
      unfold jstep
      rw [List.getLast?_append, List.getLast?_singleton]
      simp only [Option.some_or]
      rw [if_pos (by omega), List.dropLast_concat]
    generalize hx : s + ((n + 1 : Nat) : Int) = x at *
    unfold jstep
    cases q : f.getLast? with
    | none =>
      simp only []
      have := key f s
      unfold jstep at this
      exact this
    | some z =>
      simp only []
      by_cases w : z.2 + 1 = s
      · rw [if_pos w, if_pos w]
        have := key f.dropLast z.1
        unfold jstep at this
        exact this
      · rw [if_neg w, if_neg w]
        have := key f s
        unfold jstep at this
        exact this
theorem joined_rng {l : List Int} {s t : Int} (h : s ≤ t) : joined (l ++ rngI (s, t)) = jstep (joined l) (s, t) := by
  unfold joined
  rw [List.foldl_append]
  have e : rngI (s, t) = (List.range ((t - s).toNat + 1)).map fun k : Nat => s + (k : Int) := by
    unfold rngI
    rw [show (t + 1 - s).toNat = (t - s).toNat + 1 by omega]
  rw [e, jstep_range]
  rw [show s + ((t - s).toNat : Int) = t by omega]
def spread (r : List Win) : List Int := r.flatMap rngI
theorem rngI_snoc {a b : Int} (h : a ≤ b + 1) : rngI (a, b + 1) = rngI (a, b) ++ [b + 1] := by
  unfold rngI
  rw [show (b + 1 + 1 - a).toNat = (b + 1 - a).toNat + 1 by omega, List.range_succ, List.map_append]
  simp only [List.map_cons, List.map_nil]
  rw [show a + ((b + 1 - a).toNat : Int) = b + 1 by omega]
theorem spread_jstep {f : List Win} {m : Int} (hf : ∀ w ∈ f, w.1 ≤ w.2) : spread (jstep f (m, m)) = spread f ++ [m] ∧ ∀ w ∈ jstep f (m, m), w.1 ≤ w.2 := by
  have single : rngI (m, m) = [m] := by
    unfold rngI
    rw [show (m + 1 - m).toNat = 1 by omega]
    show [m + ((0 : Nat) : Int)] = [m]
    rw [show m + ((0 : Nat) : Int) = m by omega]
  have plainly : spread (f ++ [(m, m)]) = spread f ++ [m] ∧ ∀ w ∈ f ++ [(m, m)], w.1 ≤ w.2 := by
    constructor
    · unfold spread
      rw [List.flatMap_append]
      simp only [List.flatMap_cons, List.flatMap_nil, List.append_nil, single]
    · intro w hw
      rcases List.mem_append.mp hw with hw | hw
      · exact hf w hw
      · rw [List.mem_singleton.mp hw]; exact Int.le_refl _
  unfold jstep
  cases q : f.getLast? with
  | none => exact plainly
  | some z =>
    simp only []
    by_cases w : z.2 + 1 = m
    · rw [if_pos w]
      obtain ⟨g, rfl⟩ := List.getLast?_eq_some_iff.mp q
      rw [List.dropLast_concat]
      have hz2 := hf z (by simp)
      subst w
      constructor
      · unfold spread
        rw [List.flatMap_append, List.flatMap_append]
        simp only [List.flatMap_cons, List.flatMap_nil, List.append_nil]
        rw [rngI_snoc (by omega), List.append_assoc]
      · intro w hw
        rcases List.mem_append.mp hw with hw | hw
        · exact hf w (List.mem_append_left _ hw)
        · rw [List.mem_singleton.mp hw]; simp only []; omega
    · rw [if_neg w]; exact plainly
theorem spread_joined (l : List Int) : spread (joined l) = l ∧ ∀ w ∈ joined l, w.1 ≤ w.2 := by
  have key : ∀ (l : List Int) (f : List Win), (∀ w ∈ f, w.1 ≤ w.2) → spread (l.foldl (fun f m => jstep f (m, m)) f) = spread f ++ l ∧ ∀ w ∈ l.foldl (fun f m => jstep f (m, m)) f, w.1 ≤ w.2 := by
    intro l
    induction l with
    | nil => intro f hf; exact ⟨by simp, hf⟩
    | cons m r ih =>
      intro f hf
      obtain ⟨h1, h2⟩ := spread_jstep (m := m) hf
      obtain ⟨h3, h4⟩ := ih _ h2
      refine ⟨?_, h4⟩
      rw [List.foldl_cons, h3, h1, List.append_assoc]; rfl
  obtain ⟨h1, h2⟩ := key l [] fun w hw => (List.not_mem_nil hw).elim
  exact ⟨by rw [show joined l = l.foldl (fun f m => jstep f (m, m)) [] from rfl, h1]; rfl, h2⟩
theorem mem_joined {l : List Int} {m : Int} : (∃ w ∈ joined l, w.1 ≤ m ∧ m ≤ w.2) ↔ m ∈ l := by
  conv => rhs; rw [← (spread_joined l).1]
  unfold spread
  rw [List.mem_flatMap]
  simp only [mem_rngI]
theorem joined_len (l : List Int) : (joined l).length ≤ l.length := by
  have key : ∀ (l : List Int) (f : List Win), (l.foldl (fun f m => jstep f (m, m)) f).length ≤ f.length + l.length := by
    intro l
    induction l with
    | nil => intro f; exact Nat.le_refl _
    | cons m r ih =>
      intro f
      refine Nat.le_trans (ih (jstep f (m, m))) ?_
      have : (jstep f (m, m)).length ≤ f.length + 1 := by
        unfold jstep
        cases f.getLast? with
        | none => simp
        | some z =>
          simp only []
          split
          · rw [List.length_append, List.length_dropLast, List.length_singleton]; omega
          · simp
      rw [List.length_cons]; omega
  have := key l []
  rw [List.length_nil, Nat.zero_add] at this
  exact this
theorem rngI_sorted (w : Win) : (rngI w).Pairwise (· < ·) := by
  unfold rngI
  exact List.pairwise_map.mpr (List.pairwise_lt_range.imp fun {x y} h => by omega)
theorem sorted_ext {l m : List Int} (h : l.Pairwise (· < ·)) (h' : m.Pairwise (· < ·)) (e : ∀ x, x ∈ l ↔ x ∈ m) : l = m := by
  refine sorted_unique ?_ (h.imp fun {x y} q => by omega) (h'.imp fun {x y} q => by omega)
  exact (List.perm_ext_iff_of_nodup (h.imp fun {x y} q => by omega) (h'.imp fun {x y} q => by omega)).mpr e
/-- the possible times so far -/
def posTo (ws : List Win) (ts : List Tal) (e : Nat) (w : Win) (z : Int) : List Int := (rngI w).filter fun m => poss ws ts e m && decide (m ≤ z)
theorem posTo_mem {ws : List Win} {ts : List Tal} {e : Nat} {w : Win} {z m : Int} : m ∈ posTo ws ts e w z ↔ (w.1 ≤ m ∧ m ≤ w.2) ∧ poss ws ts e m = true ∧ m ≤ z := by
  unfold posTo
  rw [List.mem_filter, mem_rngI, Bool.and_eq_true, decide_eq_true_eq]
theorem posTo_sorted (ws : List Win) (ts : List Tal) (e : Nat) (w : Win) (z : Int) : (posTo ws ts e w z).Pairwise (· < ·) := (rngI_sorted w).filter _
theorem posTo_end (ws : List Win) (ts : List Tal) (e : Nat) (w : Win) : posTo ws ts e w w.2 = posL ws ts e w := by
  unfold posTo posL
  refine List.filter_congr fun m hm => ?_
  rw [decide_eq_true (mem_rngI.mp hm).2, Bool.and_true]
theorem posTo_start (ws : List Win) (ts : List Tal) (e : Nat) (w : Win) : posTo ws ts e w (w.1 - 1) = [] := by
  unfold posTo
  rw [List.filter_eq_nil_iff]
  intro m hm
  have := (mem_rngI.mp hm).1
  rw [decide_eq_false (by omega), Bool.and_false]
  exact Bool.false_ne_true
theorem posTo_step {ws : List Win} {ts : List Tal} (ht : ∀ t ∈ ts, 0 ≤ t.1 ∧ t.1 ≤ 1000) {e : Nat} {w : Win} (he : ws[e]? = some w) (hw : WOk w) {s t : Int} (h1 : w.1 - 1 ≤ s) (h2 : s < t) (h3 : t ≤ w.2) (hc : ∀ x ∈ ts, x.1 ≤ s ∨ t ≤ x.1) :
    posTo ws ts e w t = posTo ws ts e w s ++ if (conf (ws.set e (s + 1, t)) ts).isNone = true then rngI (s + 1, t) else [] := by
  obtain ⟨w0, w1, w2⟩ := hw
  have hp : ∀ m, s < m → m ≤ t → poss ws ts e m = (conf (ws.set e (s + 1, t)) ts).isNone := fun m a b => poss_piece ht he (by omega) (by omega) hc a b
  refine sorted_ext (posTo_sorted _ _ _ _ _) ?_ fun m => ?_
  · refine List.pairwise_append.mpr ⟨posTo_sorted _ _ _ _ _, ?_, fun a ha b hb => ?_⟩
    · split
      · exact rngI_sorted _
      · exact .nil
    · have h4 := (posTo_mem.mp ha).2.2
      split at hb
      · have := (mem_rngI.mp hb).1
        simp only [] at this
        omega
      · cases hb
  · rw [List.mem_append, posTo_mem, posTo_mem]
    cases q : (conf (ws.set e (s + 1, t)) ts).isNone with
    | true =>
      rw [if_pos rfl, mem_rngI]
      simp only []
      constructor
      · rintro ⟨⟨a, b⟩, c, d⟩
        by_cases z : m ≤ s
        · exact .inl ⟨⟨a, b⟩, c, z⟩
        · exact .inr ⟨by omega, d⟩
      · rintro (⟨⟨a, b⟩, c, d⟩ | ⟨a, b⟩)
        · exact ⟨⟨a, b⟩, c, by omega⟩
        · exact ⟨⟨by omega, by omega⟩, by rw [hp m (by omega) b, q], b⟩
    | false =>
      rw [if_neg Bool.false_ne_true]
      constructor
      · rintro ⟨⟨a, b⟩, c, d⟩
        by_cases z : m ≤ s
        · exact .inl ⟨⟨a, b⟩, c, z⟩
        · rw [hp m (by omega) d, q] at c; cases c
      · rintro (⟨⟨a, b⟩, c, d⟩ | h)
        · exact ⟨⟨a, b⟩, c, by omega⟩
        · cases h
theorem set_wok {ws : List Win} (hw : WsOk ws) {e : Nat} {u : Win} (hu : WOk u) : WsOk (ws.set e u) := by
  refine ⟨by rw [List.length_set]; exact hw.len, fun x hx => ?_⟩
  rcases List.mem_or_eq_of_mem_set hx with hx | rfl
  · exact hw.ok x hx
  · exact hu
theorem check_event_ok {ws : List Win} {e : Nat} (h : e < ws.length) : m_check_event [wsD ws, .int (e : Int)] = some (.rt .non) := by
  have k := in_range_t (i := (e : Int)) (a := 0) (b := (ws.length : Int) - 1) (by omega) (by omega)
  unfold m_check_event b_check_event
  simp only [vls_nil, vls_cons, uns_zero, uns_succ, gt_zero, gt_succ, st_zero, st_succ, bnd_ap, ret_ap, lift_some, eC_ap, eV_ap, e2_ap, eB_ap, eNot_ap, tNot_ap, tAnd_app, tOr_app, ite_ap, eAnd_ap, eOr_ap, e3_app, eIf_ap, brk_ap, brk'_ap, ite_bl, ite_bo, ite_tb, ite_to, ↓reduceIte, Bool.false_eq_true, Bool.not_true, Bool.not_false, aN_ap, aC_ap, eT_ap, eL_ap, fL_ap, eB1_ap, eIsi_ap, eIsiA_ap, e1n_ap, oS_ap, eSl_ap, eCall_ap, fCall_ap, eCall1_ap, eOx_ap, eDGet_ap, eDSort_ap, iS_ap, iR1_ap, iR2_ap, iE_ap, iZ_ap, gN_ap, gT2, gT3, sSeq_ap, sNext_ap, sExpr_ap, sRet_ap, sRetF_ap, sIf_ap, sAsg_ap, sPar_ap, sParD_ap, sPut_ap, sDPut_ap, sBind_ap, sOwn_ap, sApp_ap, sRetO_ap, eSortSet_ap, sFor_ap, sBag_ap, finB_2, own0_ap, fin0_0, fin1_0, fin0_1, fin1_1, fin0_2, fin1_2, fin0_3, fin1_3, fin0_4, fin1_4, fin0_5, fin1_5, fin0_6, fin1_6, fin0_7, fin1_7, fin0_8, fin1_8, dI0_ap, dAdd_ii, dLen_t, dLen_l, dTuple_l, dTuple_t, dList_l, dList_t, dMax_ii, dMin_ii, dIx_t, dIx_l, atI_0, atI_1, atI_2, atI_3, dSl_t, dSl_l, dSl_s, dNe_ii, dEq_ii, ifz, ifz', Option.map_some, List.length_cons, List.length_nil, List.length_append, List.length_map, zl0, zm0, zl1, zm1, zl2, zm2, zl3, zm3, zl4, zm4, zl5, zm5, zl6, zm6, zl7, zm7, zl8, zm8, zl9, zm9, zl10, zm10, zl11, zm11, zl12, zm12, zl13, zm13, zl14, zm14, zl15, zm15, zl16, zm16, Nat.zero_add, Nat.reduceAdd, Int.reduceAdd, Int.reduceSub, Int.reduceMul, Int.reduceNeg, Int.reduceEq, Int.reduceLE, Int.reduceLT, Int.reduceToNat, Int.reducePow, decide_true, decide_false, cn0, cn1, cn2, cn3, cn4, cn5, cn6, cn7, cn8, cn9, cn10, cn11, cn12, List.set_cons_zero, List.set_cons_succ, tn0, tn1, tn2, tn3, tn4, tn5, tn6, tn7, tn8, eLn_ap, tLn_ap, lnd_nil, lnd_cons, lend_ow, lend_dc, lend_un, lend_vl, scD_bl, scD_int, scD_non, scD_str, sParL_ap, frz_ap, chL_ap, chK_ap, chLt_ap, chKt_ap, asB_ap, len_ws, k]
theorem atI_last {α : Type} (g : List α) (q : α) : atI (g ++ [q]) (-1) = some q := by
  rw [atI_neg1 (by rw [List.length_append, List.length_singleton]; omega), List.length_append, List.length_singleton, show g.length + 1 - 1 = g.length by omega, List.getElem?_append_right (Nat.le_refl _), Nat.sub_self]; rfl
theorem ixN_last {α : Type} (g : List α) (q : α) : ixN (g ++ [q]).length (-1) = some g.length := by
  unfold ixN
  rw [if_neg (by decide), if_pos (by rw [List.length_append, List.length_singleton]; omega)]
  rw [List.length_append, List.length_singleton, show (-1 + ((g.length + 1 : Nat) : Int)).toNat = g.length by omega]
theorem set_last {α : Type} (g : List α) (q r : α) : (g ++ [q]).set g.length r = g ++ [r] := by
  rw [List.set_append_right _ _ (Nat.le_refl _), Nat.sub_self]; rfl
def cutsE (ws : List Win) (ts : List Tal) (w : Win) : List Int := isort (dd ([w.1 - 1, w.2] ++ (ts.filter fun x => decide (w.1 ≤ x.1) && decide (x.1 < w.2)).map (·.1)))
theorem event_step {ws : List Win} {ts : List Tal} (hw : WsOk ws) (ht : TsOk ws.length ts) {e : Nat} {w : Win} (he : ws[e]? = some w) {s t : Int} (h1 : w.1 - 1 ≤ s) (h2 : s < t) (h3 : t ≤ w.2) {f : List Win} (hf : f.length ≤ 100000) {c5 c9 : C} :
    ∃ d9, L_event_times_1 [.vl (wsD ws), .vl (tsD ts), .vl (.int (e : Int)), .vl (.int w.1), .vl (.int w.2), c5, .ow false (f.map wD), .vl (.int s), .vl (.int t), c9, .un, .un, .un]
      = some (.nx [.vl (wsD ws), .vl (tsD ts), .vl (.int (e : Int)), .vl (.int w.1), .vl (.int w.2), c5, .ow false ((if (conf (ws.set e (s + 1, t)) ts).isNone = true then jstep f (s + 1, t) else f).map wD), .vl (.int s), .vl (.int t), d9, .un, .un, .un]) := by
  have hel : e < ws.length := (List.getElem?_eq_some_iff.mp he).1
  obtain ⟨w0, w1, w2⟩ := hw.ok w (List.mem_of_getElem? he)
  have hlw := hw.len
  have hlt := ht.len
  have hws : WsOk (ws.set e (s + 1, t)) := set_wok hw ⟨by simp only []; omega, by simp only []; omega, by simp only []; omega⟩
  have k := conflict_of_ok (ts := ts) hws (by omega)
  refine ⟨.vl (wsD (ws.set e (s + 1, t))), ?_⟩
  unfold L_event_times_1
  have hb1 : ws.length ≤ 1000 := by omega
  cases q : conf (ws.set e (s + 1, t)) ts with
  | some p =>
    rw [q] at k
    simp only [confD] at k
    have e4 : dIs (pD p) .non = some (.bl false) := rfl
    simp only [vls_nil, vls_cons, uns_zero, uns_succ, gt_zero, gt_succ, st_zero, st_succ, bnd_ap, ret_ap, lift_some, eC_ap, eV_ap, e2_ap, eB_ap, eNot_ap, tNot_ap, tAnd_app, tOr_app, ite_ap, eAnd_ap, eOr_ap, e3_app, eIf_ap, brk_ap, brk'_ap, ite_bl, ite_bo, ite_tb, ite_to, ↓reduceIte, Bool.false_eq_true, Bool.not_true, Bool.not_false, aN_ap, aC_ap, eT_ap, eL_ap, fL_ap, eB1_ap, eIsi_ap, eIsiA_ap, e1n_ap, oS_ap, eSl_ap, eCall_ap, fCall_ap, eCall1_ap, eOx_ap, eDGet_ap, eDSort_ap, iS_ap, iR1_ap, iR2_ap, iE_ap, iZ_ap, gN_ap, gT2, gT3, sSeq_ap, sNext_ap, sExpr_ap, sRet_ap, sRetF_ap, sIf_ap, sAsg_ap, sPar_ap, sParD_ap, sPut_ap, sDPut_ap, sBind_ap, sOwn_ap, sApp_ap, sRetO_ap, eSortSet_ap, sFor_ap, sBag_ap, finB_2, own0_ap, fin0_0, fin1_0, fin0_1, fin1_1, fin0_2, fin1_2, fin0_3, fin1_3, fin0_4, fin1_4, fin0_5, fin1_5, fin0_6, fin1_6, fin0_7, fin1_7, fin0_8, fin1_8, dI0_ap, dAdd_ii, dLen_t, dLen_l, dTuple_l, dTuple_t, dList_l, dList_t, dMax_ii, dMin_ii, dIx_t, dIx_l, atI_0, atI_1, atI_2, atI_3, dSl_t, dSl_l, dSl_s, dNe_ii, dEq_ii, ifz, ifz', Option.map_some, List.length_cons, List.length_nil, List.length_append, List.length_map, zl0, zm0, zl1, zm1, zl2, zm2, zl3, zm3, zl4, zm4, zl5, zm5, zl6, zm6, zl7, zm7, zl8, zm8, zl9, zm9, zl10, zm10, zl11, zm11, zl12, zm12, zl13, zm13, zl14, zm14, zl15, zm15, zl16, zm16, Nat.zero_add, Nat.reduceAdd, Int.reduceAdd, Int.reduceSub, Int.reduceMul, Int.reduceNeg, Int.reduceEq, Int.reduceLE, Int.reduceLT, Int.reduceToNat, Int.reducePow, decide_true, decide_false, cn0, cn1, cn2, cn3, cn4, cn5, cn6, cn7, cn8, cn9, cn10, cn11, cn12, List.set_cons_zero, List.set_cons_succ, tn0, tn1, tn2, tn3, tn4, tn5, tn6, tn7, tn8, eLn_ap, tLn_ap, lnd_nil, lnd_cons, lend_ow, lend_dc, lend_un, lend_vl, scD_bl, scD_int, scD_non, scD_str, sParL_ap, frz_ap, chL_ap, chK_ap, chLt_ap, chKt_ap, asB_ap, ws_to, ws_from, ws_set1 hb1, ws_set2 hb1 hel, k, e4, Option.isNone_some]
  | none =>
    rw [q] at k
    simp only [confD] at k
    have ne := (dEq_empty wD (fun x d hd => by
      rcases List.mem_cons.mp hd with rfl | hd
      · trivial
      · rw [List.mem_singleton.mp hd]; trivial) f).2
    rcases List.eq_nil_or_concat f with rfl | ⟨g, z, rfl⟩
    · simp only [List.map_nil, List.isEmpty_nil, Bool.not_true] at ne
      simp only [vls_nil, vls_cons, uns_zero, uns_succ, gt_zero, gt_succ, st_zero, st_succ, bnd_ap, ret_ap, lift_some, eC_ap, eV_ap, e2_ap, eB_ap, eNot_ap, tNot_ap, tAnd_app, tOr_app, ite_ap, eAnd_ap, eOr_ap, e3_app, eIf_ap, brk_ap, brk'_ap, ite_bl, ite_bo, ite_tb, ite_to, ↓reduceIte, Bool.false_eq_true, Bool.not_true, Bool.not_false, aN_ap, aC_ap, eT_ap, eL_ap, fL_ap, eB1_ap, eIsi_ap, eIsiA_ap, e1n_ap, oS_ap, eSl_ap, eCall_ap, fCall_ap, eCall1_ap, eOx_ap, eDGet_ap, eDSort_ap, iS_ap, iR1_ap, iR2_ap, iE_ap, iZ_ap, gN_ap, gT2, gT3, sSeq_ap, sNext_ap, sExpr_ap, sRet_ap, sRetF_ap, sIf_ap, sAsg_ap, sPar_ap, sParD_ap, sPut_ap, sDPut_ap, sBind_ap, sOwn_ap, sApp_ap, sRetO_ap, eSortSet_ap, sFor_ap, sBag_ap, finB_2, own0_ap, fin0_0, fin1_0, fin0_1, fin1_1, fin0_2, fin1_2, fin0_3, fin1_3, fin0_4, fin1_4, fin0_5, fin1_5, fin0_6, fin1_6, fin0_7, fin1_7, fin0_8, fin1_8, dI0_ap, dAdd_ii, dLen_t, dLen_l, dTuple_l, dTuple_t, dList_l, dList_t, dMax_ii, dMin_ii, dIx_t, dIx_l, atI_0, atI_1, atI_2, atI_3, dSl_t, dSl_l, dSl_s, dNe_ii, dEq_ii, ifz, ifz', Option.map_some, List.length_cons, List.length_nil, List.length_append, List.length_map, zl0, zm0, zl1, zm1, zl2, zm2, zl3, zm3, zl4, zm4, zl5, zm5, zl6, zm6, zl7, zm7, zl8, zm8, zl9, zm9, zl10, zm10, zl11, zm11, zl12, zm12, zl13, zm13, zl14, zm14, zl15, zm15, zl16, zm16, Nat.zero_add, Nat.reduceAdd, Int.reduceAdd, Int.reduceSub, Int.reduceMul, Int.reduceNeg, Int.reduceEq, Int.reduceLE, Int.reduceLT, Int.reduceToNat, Int.reducePow, decide_true, decide_false, cn0, cn1, cn2, cn3, cn4, cn5, cn6, cn7, cn8, cn9, cn10, cn11, cn12, List.set_cons_zero, List.set_cons_succ, tn0, tn1, tn2, tn3, tn4, tn5, tn6, tn7, tn8, eLn_ap, tLn_ap, lnd_nil, lnd_cons, lend_ow, lend_dc, lend_un, lend_vl, scD_bl, scD_int, scD_non, scD_str, sParL_ap, frz_ap, chL_ap, chK_ap, chLt_ap, chKt_ap, asB_ap, ws_to, ws_from, ws_set1 hb1, ws_set2 hb1 hel, k, dIs, isNon, Option.isNone_none, List.map_nil, ne]
      rfl
    · rw [List.concat_eq_append] at *
      have hne : (g ++ [z]).isEmpty = false := by cases g <;> rfl
      rw [hne] at ne
      have em : (g ++ [z]).map wD = g.map wD ++ [wD z] := by rw [List.map_append]; rfl
      rw [em] at ne ⊢
      have e1 := atI_last (g.map wD) (wD z)
      have e2 := ixN_last (g.map wD) (wD z)
      have x0 : dIx (wD z) (.int 0) = some (.int z.1) := atI_0
      have x1 : dIx (wD z) (.int 1) = some (.int z.2) := atI_1
      have hz : g.length + 1 < 16777216 := by rw [List.length_append, List.length_singleton] at hf; omega
      have ej : jstep (g ++ [z]) (s + 1, t) = if z.2 + 1 = s + 1 then g ++ [(z.1, t)] else g ++ [z] ++ [(s + 1, t)] := by
        unfold jstep
        rw [List.getLast?_append, List.getLast?_singleton]
        simp only [Option.some_or, List.dropLast_concat]
      simp only [Option.isNone_none, ↓reduceIte, ej]
      by_cases w9 : z.2 = s
      · have e3 := set_last (g.map wD) (wD z) (.tup [.int z.1, .int t])
        rw [if_pos (show z.2 + 1 = s + 1 by omega)]
        rw [List.length_append, List.length_singleton] at e2
        simp only [vls_nil, vls_cons, uns_zero, uns_succ, gt_zero, gt_succ, st_zero, st_succ, bnd_ap, ret_ap, lift_some, eC_ap, eV_ap, e2_ap, eB_ap, eNot_ap, tNot_ap, tAnd_app, tOr_app, ite_ap, eAnd_ap, eOr_ap, e3_app, eIf_ap, brk_ap, brk'_ap, ite_bl, ite_bo, ite_tb, ite_to, ↓reduceIte, Bool.false_eq_true, Bool.not_true, Bool.not_false, aN_ap, aC_ap, eT_ap, eL_ap, fL_ap, eB1_ap, eIsi_ap, eIsiA_ap, e1n_ap, oS_ap, eSl_ap, eCall_ap, fCall_ap, eCall1_ap, eOx_ap, eDGet_ap, eDSort_ap, iS_ap, iR1_ap, iR2_ap, iE_ap, iZ_ap, gN_ap, gT2, gT3, sSeq_ap, sNext_ap, sExpr_ap, sRet_ap, sRetF_ap, sIf_ap, sAsg_ap, sPar_ap, sParD_ap, sPut_ap, sDPut_ap, sBind_ap, sOwn_ap, sApp_ap, sRetO_ap, eSortSet_ap, sFor_ap, sBag_ap, finB_2, own0_ap, fin0_0, fin1_0, fin0_1, fin1_1, fin0_2, fin1_2, fin0_3, fin1_3, fin0_4, fin1_4, fin0_5, fin1_5, fin0_6, fin1_6, fin0_7, fin1_7, fin0_8, fin1_8, dI0_ap, dAdd_ii, dLen_t, dLen_l, dTuple_l, dTuple_t, dList_l, dList_t, dMax_ii, dMin_ii, dIx_t, dIx_l, atI_0, atI_1, atI_2, atI_3, dSl_t, dSl_l, dSl_s, dNe_ii, dEq_ii, ifz, ifz', Option.map_some, List.length_cons, List.length_nil, List.length_append, List.length_map, zl0, zm0, zl1, zm1, zl2, zm2, zl3, zm3, zl4, zm4, zl5, zm5, zl6, zm6, zl7, zm7, zl8, zm8, zl9, zm9, zl10, zm10, zl11, zm11, zl12, zm12, zl13, zm13, zl14, zm14, zl15, zm15, zl16, zm16, Nat.zero_add, Nat.reduceAdd, Int.reduceAdd, Int.reduceSub, Int.reduceMul, Int.reduceNeg, Int.reduceEq, Int.reduceLE, Int.reduceLT, Int.reduceToNat, Int.reducePow, decide_true, decide_false, cn0, cn1, cn2, cn3, cn4, cn5, cn6, cn7, cn8, cn9, cn10, cn11, cn12, List.set_cons_zero, List.set_cons_succ, tn0, tn1, tn2, tn3, tn4, tn5, tn6, tn7, tn8, eLn_ap, tLn_ap, lnd_nil, lnd_cons, lend_ow, lend_dc, lend_un, lend_vl, scD_bl, scD_int, scD_non, scD_str, sParL_ap, frz_ap, chL_ap, chK_ap, chLt_ap, chKt_ap, asB_ap, ws_to, ws_from, ws_set1 hb1, ws_set2 hb1 hel, k, dIs, isNon, ne, e1, x0, x1, decide_eq_true w9, List.length_append, List.length_singleton, List.length_map] at e2 e3 ⊢
        simp only [e2, vls_nil, vls_cons, uns_zero, uns_succ, gt_zero, gt_succ, st_zero, st_succ, bnd_ap, ret_ap, lift_some, eC_ap, eV_ap, e2_ap, eB_ap, eNot_ap, tNot_ap, tAnd_app, tOr_app, ite_ap, eAnd_ap, eOr_ap, e3_app, eIf_ap, brk_ap, brk'_ap, ite_bl, ite_bo, ite_tb, ite_to, ↓reduceIte, Bool.false_eq_true, Bool.not_true, Bool.not_false, aN_ap, aC_ap, eT_ap, eL_ap, fL_ap, eB1_ap, eIsi_ap, eIsiA_ap, e1n_ap, oS_ap, eSl_ap, eCall_ap, fCall_ap, eCall1_ap, eOx_ap, eDGet_ap, eDSort_ap, iS_ap, iR1_ap, iR2_ap, iE_ap, iZ_ap, gN_ap, gT2, gT3, sSeq_ap, sNext_ap, sExpr_ap, sRet_ap, sRetF_ap, sIf_ap, sAsg_ap, sPar_ap, sParD_ap, sPut_ap, sDPut_ap, sBind_ap, sOwn_ap, sApp_ap, sRetO_ap, eSortSet_ap, sFor_ap, sBag_ap, finB_2, own0_ap, fin0_0, fin1_0, fin0_1, fin1_1, fin0_2, fin1_2, fin0_3, fin1_3, fin0_4, fin1_4, fin0_5, fin1_5, fin0_6, fin1_6, fin0_7, fin1_7, fin0_8, fin1_8, dI0_ap, dAdd_ii, dLen_t, dLen_l, dTuple_l, dTuple_t, dList_l, dList_t, dMax_ii, dMin_ii, dIx_t, dIx_l, atI_0, atI_1, atI_2, atI_3, dSl_t, dSl_l, dSl_s, dNe_ii, dEq_ii, ifz, ifz', Option.map_some, List.length_cons, List.length_nil, List.length_append, List.length_map, zl0, zm0, zl1, zm1, zl2, zm2, zl3, zm3, zl4, zm4, zl5, zm5, zl6, zm6, zl7, zm7, zl8, zm8, zl9, zm9, zl10, zm10, zl11, zm11, zl12, zm12, zl13, zm13, zl14, zm14, zl15, zm15, zl16, zm16, Nat.zero_add, Nat.reduceAdd, Int.reduceAdd, Int.reduceSub, Int.reduceMul, Int.reduceNeg, Int.reduceEq, Int.reduceLE, Int.reduceLT, Int.reduceToNat, Int.reducePow, decide_true, decide_false, cn0, cn1, cn2, cn3, cn4, cn5, cn6, cn7, cn8, cn9, cn10, cn11, cn12, List.set_cons_zero, List.set_cons_succ, tn0, tn1, tn2, tn3, tn4, tn5, tn6, tn7, tn8, eLn_ap, tLn_ap, lnd_nil, lnd_cons, lend_ow, lend_dc, lend_un, lend_vl, scD_bl, scD_int, scD_non, scD_str, sParL_ap, frz_ap, chL_ap, chK_ap, chLt_ap, chKt_ap, asB_ap]
        rw [show g.length = (g.map wD).length by rw [List.length_map]] at *
        rw [set_last]
        simp only [List.map_append]
        rfl
      · rw [if_neg (show ¬ z.2 + 1 = s + 1 by omega)]
        simp only [vls_nil, vls_cons, uns_zero, uns_succ, gt_zero, gt_succ, st_zero, st_succ, bnd_ap, ret_ap, lift_some, eC_ap, eV_ap, e2_ap, eB_ap, eNot_ap, tNot_ap, tAnd_app, tOr_app, ite_ap, eAnd_ap, eOr_ap, e3_app, eIf_ap, brk_ap, brk'_ap, ite_bl, ite_bo, ite_tb, ite_to, ↓reduceIte, Bool.false_eq_true, Bool.not_true, Bool.not_false, aN_ap, aC_ap, eT_ap, eL_ap, fL_ap, eB1_ap, eIsi_ap, eIsiA_ap, e1n_ap, oS_ap, eSl_ap, eCall_ap, fCall_ap, eCall1_ap, eOx_ap, eDGet_ap, eDSort_ap, iS_ap, iR1_ap, iR2_ap, iE_ap, iZ_ap, gN_ap, gT2, gT3, sSeq_ap, sNext_ap, sExpr_ap, sRet_ap, sRetF_ap, sIf_ap, sAsg_ap, sPar_ap, sParD_ap, sPut_ap, sDPut_ap, sBind_ap, sOwn_ap, sApp_ap, sRetO_ap, eSortSet_ap, sFor_ap, sBag_ap, finB_2, own0_ap, fin0_0, fin1_0, fin0_1, fin1_1, fin0_2, fin1_2, fin0_3, fin1_3, fin0_4, fin1_4, fin0_5, fin1_5, fin0_6, fin1_6, fin0_7, fin1_7, fin0_8, fin1_8, dI0_ap, dAdd_ii, dLen_t, dLen_l, dTuple_l, dTuple_t, dList_l, dList_t, dMax_ii, dMin_ii, dIx_t, dIx_l, atI_0, atI_1, atI_2, atI_3, dSl_t, dSl_l, dSl_s, dNe_ii, dEq_ii, ifz, ifz', Option.map_some, List.length_cons, List.length_nil, List.length_append, List.length_map, zl0, zm0, zl1, zm1, zl2, zm2, zl3, zm3, zl4, zm4, zl5, zm5, zl6, zm6, zl7, zm7, zl8, zm8, zl9, zm9, zl10, zm10, zl11, zm11, zl12, zm12, zl13, zm13, zl14, zm14, zl15, zm15, zl16, zm16, Nat.zero_add, Nat.reduceAdd, Int.reduceAdd, Int.reduceSub, Int.reduceMul, Int.reduceNeg, Int.reduceEq, Int.reduceLE, Int.reduceLT, Int.reduceToNat, Int.reducePow, decide_true, decide_false, cn0, cn1, cn2, cn3, cn4, cn5, cn6, cn7, cn8, cn9, cn10, cn11, cn12, List.set_cons_zero, List.set_cons_succ, tn0, tn1, tn2, tn3, tn4, tn5, tn6, tn7, tn8, eLn_ap, tLn_ap, lnd_nil, lnd_cons, lend_ow, lend_dc, lend_un, lend_vl, scD_bl, scD_int, scD_non, scD_str, sParL_ap, frz_ap, chL_ap, chK_ap, chLt_ap, chKt_ap, asB_ap, ws_to, ws_from, ws_set1 hb1, ws_set2 hb1 hel, k, dIs, isNon, ne, e1, x0, x1, decide_eq_false w9, List.length_append, List.length_singleton, List.length_map, ifz' hz]
        simp only [List.map_append]
        rfl
def evT (ws : List Win) (ts : List Tal) (e : Nat) (w : Win) : List Win := joined (posL ws ts e w)
theorem posL_len {ws : List Win} {ts : List Tal} {e : Nat} {w : Win} (h : WOk w) : (posL ws ts e w).length ≤ 1001 := by
  obtain ⟨h1, h2, h3⟩ := h
  unfold posL
  refine Nat.le_trans (List.length_filter_le _ _) ?_
  unfold rngI
  rw [List.length_map, List.length_range]; omega
theorem event_times_ok {ws : List Win} {ts : List Tal} (hw : WsOk ws) (ht : TsOk ws.length ts) {e : Nat} {w : Win} (he : ws[e]? = some w) : m_event_times [wsD ws, tsD ts, .int (e : Int)] = some (.ro ((evT ws ts e w).map wD)) := by
  have hel : e < ws.length := (List.getElem?_eq_some_iff.mp he).1
  have hwok := hw.ok w (List.mem_of_getElem? he)
  obtain ⟨w0, w1, w2⟩ := hw.ok w (List.mem_of_getElem? he)
  have hlw := hw.len
  have hlt := ht.len
  have htt : ∀ t ∈ ts, 0 ≤ t.1 ∧ t.1 ≤ 1000 := fun t h => ⟨(ht.ok t h).1, (ht.ok t h).2.1⟩
  have kx : dIx (wsD ws) (.int (e : Int)) = some (.tup [.int w.1, .int w.2]) := ws_ix he
  have hfl : (ts.filter fun x => decide (w.1 ≤ x.1) && decide (x.1 < w.2)).length ≤ 6 := Nat.le_trans (List.length_filter_le _ _) hlt
  have c1 : ∀ c5 c6 c7 c8 c9 : C, C_event_times_1 [.vl (wsD ws), .vl (tsD ts), .vl (.int (e : Int)), .vl (.int w.1), .vl (.int w.2), c5, c6, c7, c8, c9, .un, .un, .un] = some (.ok (.lst ((ts.filter fun x => decide (w.1 ≤ x.1) && decide (x.1 < w.2)).map fun x => .int x.1)) [.vl (wsD ws), .vl (tsD ts), .vl (.int (e : Int)), .vl (.int w.1), .vl (.int w.2), c5, c6, c7, c8, c9, .un, .un, .un]) := fun c5 c6 c7 c8 c9 =>
    lcE_pureS (enc := tD) (fun x => decide (w.1 ≤ x.1) && decide (x.1 < w.2)) (fun x => .int x.1) rfl (by omega) (fun x _ => ⟨_, gT3, by simp only [wp, vls_nil, vls_cons, uns_zero, uns_succ, gt_zero, gt_succ, st_zero, st_succ, bnd_ap, ret_ap, lift_some, eC_ap, eV_ap, e2_ap, eB_ap, eNot_ap, tNot_ap, tAnd_app, tOr_app, ite_ap, eAnd_ap, eOr_ap, e3_app, eIf_ap, brk_ap, brk'_ap, ite_bl, ite_bo, ite_tb, ite_to, ↓reduceIte, Bool.false_eq_true, Bool.not_true, Bool.not_false, aN_ap, aC_ap, eT_ap, eL_ap, fL_ap, eB1_ap, eIsi_ap, eIsiA_ap, e1n_ap, oS_ap, eSl_ap, eCall_ap, fCall_ap, eCall1_ap, eOx_ap, eDGet_ap, eDSort_ap, iS_ap, iR1_ap, iR2_ap, iE_ap, iZ_ap, gN_ap, gT2, gT3, sSeq_ap, sNext_ap, sExpr_ap, sRet_ap, sRetF_ap, sIf_ap, sAsg_ap, sPar_ap, sParD_ap, sPut_ap, sDPut_ap, sBind_ap, sOwn_ap, sApp_ap, sRetO_ap, eSortSet_ap, sFor_ap, sBag_ap, finB_2, own0_ap, fin0_0, fin1_0, fin0_1, fin1_1, fin0_2, fin1_2, fin0_3, fin1_3, fin0_4, fin1_4, fin0_5, fin1_5, fin0_6, fin1_6, fin0_7, fin1_7, fin0_8, fin1_8, dI0_ap, dAdd_ii, dLen_t, dLen_l, dTuple_l, dTuple_t, dList_l, dList_t, dMax_ii, dMin_ii, dIx_t, dIx_l, atI_0, atI_1, atI_2, atI_3, dSl_t, dSl_l, dSl_s, dNe_ii, dEq_ii, ifz, ifz', Option.map_some, List.length_cons, List.length_nil, List.length_append, List.length_map, zl0, zm0, zl1, zm1, zl2, zm2, zl3, zm3, zl4, zm4, zl5, zm5, zl6, zm6, zl7, zm7, zl8, zm8, zl9, zm9, zl10, zm10, zl11, zm11, zl12, zm12, zl13, zm13, zl14, zm14, zl15, zm15, zl16, zm16, Nat.zero_add, Nat.reduceAdd, Int.reduceAdd, Int.reduceSub, Int.reduceMul, Int.reduceNeg, Int.reduceEq, Int.reduceLE, Int.reduceLT, Int.reduceToNat, Int.reducePow, decide_true, decide_false, cn0, cn1, cn2, cn3, cn4, cn5, cn6, cn7, cn8, cn9, cn10, cn11, cn12, List.set_cons_zero, List.set_cons_succ, tn0, tn1, tn2, tn3, tn4, tn5, tn6, tn7, tn8, eLn_ap, tLn_ap, lnd_nil, lnd_cons, lend_ow, lend_dc, lend_un, lend_vl, scD_bl, scD_int, scD_non, scD_str, sParL_ap, frz_ap, chL_ap, chK_ap, chLt_ap, chKt_ap, asB_ap, e3_app], fun _ => by simp only [wp, vls_nil, vls_cons, uns_zero, uns_succ, gt_zero, gt_succ, st_zero, st_succ, bnd_ap, ret_ap, lift_some, eC_ap, eV_ap, e2_ap, eB_ap, eNot_ap, tNot_ap, tAnd_app, tOr_app, ite_ap, eAnd_ap, eOr_ap, e3_app, eIf_ap, brk_ap, brk'_ap, ite_bl, ite_bo, ite_tb, ite_to, ↓reduceIte, Bool.false_eq_true, Bool.not_true, Bool.not_false, aN_ap, aC_ap, eT_ap, eL_ap, fL_ap, eB1_ap, eIsi_ap, eIsiA_ap, e1n_ap, oS_ap, eSl_ap, eCall_ap, fCall_ap, eCall1_ap, eOx_ap, eDGet_ap, eDSort_ap, iS_ap, iR1_ap, iR2_ap, iE_ap, iZ_ap, gN_ap, gT2, gT3, sSeq_ap, sNext_ap, sExpr_ap, sRet_ap, sRetF_ap, sIf_ap, sAsg_ap, sPar_ap, sParD_ap, sPut_ap, sDPut_ap, sBind_ap, sOwn_ap, sApp_ap, sRetO_ap, eSortSet_ap, sFor_ap, sBag_ap, finB_2, own0_ap, fin0_0, fin1_0, fin0_1, fin1_1, fin0_2, fin1_2, fin0_3, fin1_3, fin0_4, fin1_4, fin0_5, fin1_5, fin0_6, fin1_6, fin0_7, fin1_7, fin0_8, fin1_8, dI0_ap, dAdd_ii, dLen_t, dLen_l, dTuple_l, dTuple_t, dList_l, dList_t, dMax_ii, dMin_ii, dIx_t, dIx_l, atI_0, atI_1, atI_2, atI_3, dSl_t, dSl_l, dSl_s, dNe_ii, dEq_ii, ifz, ifz', Option.map_some, List.length_cons, List.length_nil, List.length_append, List.length_map, zl0, zm0, zl1, zm1, zl2, zm2, zl3, zm3, zl4, zm4, zl5, zm5, zl6, zm6, zl7, zm7, zl8, zm8, zl9, zm9, zl10, zm10, zl11, zm11, zl12, zm12, zl13, zm13, zl14, zm14, zl15, zm15, zl16, zm16, Nat.zero_add, Nat.reduceAdd, Int.reduceAdd, Int.reduceSub, Int.reduceMul, Int.reduceNeg, Int.reduceEq, Int.reduceLE, Int.reduceLT, Int.reduceToNat, Int.reducePow, decide_true, decide_false, cn0, cn1, cn2, cn3, cn4, cn5, cn6, cn7, cn8, cn9, cn10, cn11, cn12, List.set_cons_zero, List.set_cons_succ, tn0, tn1, tn2, tn3, tn4, tn5, tn6, tn7, tn8, eLn_ap, tLn_ap, lnd_nil, lnd_cons, lend_ow, lend_dc, lend_un, lend_vl, scD_bl, scD_int, scD_non, scD_str, sParL_ap, frz_ap, chL_ap, chK_ap, chLt_ap, chKt_ap, asB_ap], rfl⟩) rfl
  have a1 : dAdd (.lst [.int (w.1 - 1), .int w.2]) (.lst ((ts.filter fun x => decide (w.1 ≤ x.1) && decide (x.1 < w.2)).map fun x => .int x.1)) = some (.lst (([w.1 - 1, w.2] ++ (ts.filter fun x => decide (w.1 ≤ x.1) && decide (x.1 < w.2)).map (·.1)).map D.int)) := by
    rw [dAdd_ll (by simp only [List.length_cons, List.length_nil, List.length_map]; omega), List.map_append, List.map_map]; rfl
  have hns : toIs (([w.1 - 1, w.2] ++ (ts.filter fun x => decide (w.1 ≤ x.1) && decide (x.1 < w.2)).map (·.1)).map D.int) = some ([w.1 - 1, w.2] ++ (ts.filter fun x => decide (w.1 ≤ x.1) && decide (x.1 < w.2)).map (·.1)) := by
    have := toIs_map (fun x : Int => x) ([w.1 - 1, w.2] ++ (ts.filter fun x => decide (w.1 ≤ x.1) && decide (x.1 < w.2)).map (·.1))
    rw [List.map_id'] at this
    exact this
  have hnl : ([w.1 - 1, w.2] ++ (ts.filter fun x => decide (w.1 ≤ x.1) && decide (x.1 < w.2)).map (·.1)).length ≤ 8 := by
    rw [List.length_append, List.length_map]; simp only [List.length_cons, List.length_nil]; omega
  have hddl : (dd ([w.1 - 1, w.2] ++ (ts.filter fun x => decide (w.1 ≤ x.1) && decide (x.1 < w.2)).map (·.1))).length ≤ 8 := Nat.le_trans (nd_len (nodup_dd _) fun x hx => (mem_dd x _).mp hx) hnl
  have es := dSortSet_ok hns (by omega) (by omega)
  have hcm : ∀ x, x ∈ cutsE ws ts w ↔ x = w.1 - 1 ∨ x = w.2 ∨ ∃ t ∈ ts, (w.1 ≤ t.1 ∧ t.1 < w.2) ∧ t.1 = x := fun x => by
    unfold cutsE
    rw [(isort_perm _).mem_iff, mem_dd, List.mem_append, List.mem_map]
    simp only [List.mem_cons, List.not_mem_nil, or_false, List.mem_filter, Bool.and_eq_true, decide_eq_true_eq, or_assoc, and_assoc]
  have hcs : (cutsE ws ts w).Pairwise (· < ·) := strict_of (isort_sorted _) ((isort_perm _).nodup_iff.mpr (nodup_dd _))
  have hbd : ∀ x ∈ cutsE ws ts w, w.1 - 1 ≤ x ∧ x ≤ w.2 := fun x hx => by
    rcases (hcm x).mp hx with rfl | rfl | ⟨t, _, h, rfl⟩ <;> omega
  obtain ⟨r0, er0, el0⟩ := sorted_ends hcs ((hcm _).mpr (.inl rfl)) ((hcm _).mpr (.inr (.inl rfl))) hbd
  have hch : Chn w.2 (w.1 - 1) ((cutsE ws ts w).zip ((cutsE ws ts w).drop 1)) := by
    rw [er0, List.drop_succ_cons, List.drop_zero, ← el0]
    exact chn_zip r0 (w.1 - 1)
  have hcl : (cutsE ws ts w).length ≤ 8 := by unfold cutsE; rw [(isort_perm _).length_eq]; exact hddl
  have hnx := zip_next hcs
  have hgo := forGo_mem (enc := fun p : Int × Int => D.tup [.int p.1, .int p.2]) (g := gT [7, 8]) (body := L_event_times_1) (fun r S => ∃ z c7 c8 c9, Chn w.2 z r ∧ S = [.vl (wsD ws), .vl (tsD ts), .vl (.int (e : Int)), .vl (.int w.1), .vl (.int w.2), .vl (.lst ((cutsE ws ts w).map D.int)), .ow false ((joined (posTo ws ts e w z)).map wD), c7, c8, c9, .un, .un, .un])
    ((cutsE ws ts w).zip ((cutsE ws ts w).drop 1)) [.vl (wsD ws), .vl (tsD ts), .vl (.int (e : Int)), .vl (.int w.1), .vl (.int w.2), .vl (.lst ((cutsE ws ts w).map D.int)), .ow false ((joined (posTo ws ts e w (w.1 - 1))).map wD), .un, .un, .un, .un, .un, .un]
    ⟨w.1 - 1, _, _, _, hch, rfl⟩ (by
      rintro x r S hx _ ⟨z, c7, c8, c9, ⟨hz, hr⟩, rfl⟩
      obtain ⟨n1, n2, n3, n4⟩ := hnx x hx
      obtain ⟨b1, _⟩ := hbd _ n1
      obtain ⟨_, b2⟩ := hbd _ n2
      have hc : ∀ t ∈ ts, t.1 ≤ x.1 ∨ x.2 ≤ t.1 := fun t hm => by
        by_cases q : w.1 ≤ t.1 ∧ t.1 < w.2
        · exact n4 _ ((hcm _).mpr (.inr (.inr ⟨t, hm, q, rfl⟩)))
        · omega
      have hpl : (joined (posTo ws ts e w x.1)).length ≤ 100000 := by
        refine Nat.le_trans (joined_len _) ?_
        unfold posTo
        refine Nat.le_trans (List.length_filter_le _ _) ?_
        unfold rngI
        rw [List.length_map, List.length_range]; omega
      obtain ⟨d9, es⟩ := event_step hw ht he b1 n3 b2 hpl (c5 := .vl (.lst ((cutsE ws ts w).map D.int))) (c9 := c9)
      subst hz
      have hst := posTo_step htt he hwok b1 n3 b2 hc
      refine ⟨_, gT2, _, .inl es, x.2, .vl (.int x.1), .vl (.int x.2), d9, hr, ?_⟩
      rw [hst]
      cases q : (conf (ws.set e (x.1 + 1, x.2)) ts).isNone with
      | true => rw [if_pos rfl, if_pos rfl, joined_rng (by omega)]
      | false => rw [if_neg Bool.false_ne_true, if_neg Bool.false_ne_true, List.append_nil])
  obtain ⟨S', eg, z, c7, c8, c9, hz, rfl⟩ := hgo
  have hz' : z = w.2 := hz
  subst hz'
  rw [posTo_end] at eg
  rw [posTo_start] at eg
  have eg' : forGo (gT [7, 8]) L_event_times_1 (((cutsE ws ts w).zip ((cutsE ws ts w).drop 1)).map fun p : Int × Int => D.tup [.int p.1, .int p.2]) [.vl (wsD ws), .vl (tsD ts), .vl (.int (e : Int)), .vl (.int w.1), .vl (.int w.2), .vl (.lst ((cutsE ws ts w).map D.int)), .ow false [], .un, .un, .un, .un, .un, .un] = some (.nx [.vl (wsD ws), .vl (tsD ts), .vl (.int (e : Int)), .vl (.int w.1), .vl (.int w.2), .vl (.lst ((cutsE ws ts w).map D.int)), .ow false ((evT ws ts e w).map wD), c7, c8, c9, .un, .un, .un]) := eg
  have es' : dSortSet (.lst (([w.1 - 1, w.2] ++ (ts.filter fun x => decide (w.1 ≤ x.1) && decide (x.1 < w.2)).map (·.1)).map D.int)) = some (.lst ((cutsE ws ts w).map D.int)) := es
  have ez : cutL ((cutsE ws ts w).map D.int) (some 1) none = ((cutsE ws ts w).drop 1).map D.int := by
    rw [cutL_from (by decide), List.map_drop]; rfl
  unfold m_event_times b_event_times
  simp only [vls_nil, vls_cons, uns_zero, uns_succ, gt_zero, gt_succ, st_zero, st_succ, bnd_ap, ret_ap, lift_some, eC_ap, eV_ap, e2_ap, eB_ap, eNot_ap, tNot_ap, tAnd_app, tOr_app, ite_ap, eAnd_ap, eOr_ap, e3_app, eIf_ap, brk_ap, brk'_ap, ite_bl, ite_bo, ite_tb, ite_to, ↓reduceIte, Bool.false_eq_true, Bool.not_true, Bool.not_false, aN_ap, aC_ap, eT_ap, eL_ap, fL_ap, eB1_ap, eIsi_ap, eIsiA_ap, e1n_ap, oS_ap, eSl_ap, eCall_ap, fCall_ap, eCall1_ap, eOx_ap, eDGet_ap, eDSort_ap, iS_ap, iR1_ap, iR2_ap, iE_ap, iZ_ap, gN_ap, gT2, gT3, sSeq_ap, sNext_ap, sExpr_ap, sRet_ap, sRetF_ap, sIf_ap, sAsg_ap, sPar_ap, sParD_ap, sPut_ap, sDPut_ap, sBind_ap, sOwn_ap, sApp_ap, sRetO_ap, eSortSet_ap, sFor_ap, sBag_ap, finB_2, own0_ap, fin0_0, fin1_0, fin0_1, fin1_1, fin0_2, fin1_2, fin0_3, fin1_3, fin0_4, fin1_4, fin0_5, fin1_5, fin0_6, fin1_6, fin0_7, fin1_7, fin0_8, fin1_8, dI0_ap, dAdd_ii, dLen_t, dLen_l, dTuple_l, dTuple_t, dList_l, dList_t, dMax_ii, dMin_ii, dIx_t, dIx_l, atI_0, atI_1, atI_2, atI_3, dSl_t, dSl_l, dSl_s, dNe_ii, dEq_ii, ifz, ifz', Option.map_some, List.length_cons, List.length_nil, List.length_append, List.length_map, zl0, zm0, zl1, zm1, zl2, zm2, zl3, zm3, zl4, zm4, zl5, zm5, zl6, zm6, zl7, zm7, zl8, zm8, zl9, zm9, zl10, zm10, zl11, zm11, zl12, zm12, zl13, zm13, zl14, zm14, zl15, zm15, zl16, zm16, Nat.zero_add, Nat.reduceAdd, Int.reduceAdd, Int.reduceSub, Int.reduceMul, Int.reduceNeg, Int.reduceEq, Int.reduceLE, Int.reduceLT, Int.reduceToNat, Int.reducePow, decide_true, decide_false, cn0, cn1, cn2, cn3, cn4, cn5, cn6, cn7, cn8, cn9, cn10, cn11, cn12, List.set_cons_zero, List.set_cons_succ, tn0, tn1, tn2, tn3, tn4, tn5, tn6, tn7, tn8, eLn_ap, tLn_ap, lnd_nil, lnd_cons, lend_ow, lend_dc, lend_un, lend_vl, scD_bl, scD_int, scD_non, scD_str, sParL_ap, frz_ap, chL_ap, chK_ap, chLt_ap, chKt_ap, asB_ap, check_both_ok hw ht, check_event_ok hel, kx, c1, a1, es', ez, zipL_map, eg']
/-! courses by their places -/
def atX (xs : List Int) (i : Nat) : Int := xs[i]?.getD 0
theorem inws_iff : ∀ {ws : List Win} {xs : List Int}, InWs ws xs ↔ xs.length = ws.length ∧ ∀ i w, ws[i]? = some w → w.1 ≤ atX xs i ∧ atX xs i ≤ w.2
  | [], [] => ⟨fun _ => ⟨rfl, fun i w h => by cases h⟩, fun _ => .nil⟩
  | [], x :: xs => ⟨fun h => (by cases h), fun ⟨h, _⟩ => (by cases h)⟩
  | w :: ws, [] => ⟨fun h => (by cases h), fun ⟨h, _⟩ => (by cases h)⟩
  | w :: ws, x :: xs => by
    have ih := inws_iff (ws := ws) (xs := xs)
    constructor
    · intro h
      cases h with
      | cons r t =>
        obtain ⟨h1, h2⟩ := ih.mp t
        refine ⟨by rw [List.length_cons, List.length_cons, h1], fun i v hv => ?_⟩
        cases i with
        | zero => cases hv; exact r
        | succ i => exact h2 i v hv
    · rintro ⟨h1, h2⟩
      exact .cons (h2 0 w rfl) (ih.mpr ⟨by simpa using h1, fun i v hv => h2 (i + 1) v hv⟩)
theorem atX_set {xs : List Int} {i j : Nat} {m : Int} (h : i < xs.length) : atX (xs.set i m) j = if i = j then m else atX xs j := by
  unfold atX
  rw [List.getElem?_set]
  by_cases e : i = j
  · subst e; rw [if_pos rfl, if_pos h, if_pos rfl]; rfl
  · rw [if_neg e, if_neg e]
theorem num_set : ∀ {xs : List Int} {i : Nat} {m t : Int}, i < xs.length → num (xs.set i m) t + (if atX xs i ≤ t then 1 else 0) = num xs t + (if m ≤ t then 1 else 0)
  | [], _, _, _, h => by cases h
  | x :: xs, 0, m, t, _ => by
    rw [List.set_cons_zero, num_cons, num_cons]
    show _ + (if x ≤ t then 1 else 0) = _
    omega
  | x :: xs, i + 1, m, t, h => by
    have ih := num_set (xs := xs) (i := i) (m := m) (t := t) (by simpa using h)
    rw [List.set_cons_succ, num_cons, num_cons]
    show _ + (if atX xs i ≤ t then 1 else 0) = _
    omega
theorem kept_move {ts : List Tal} {xs : List Int} {i : Nat} {m : Int} (hi : i < xs.length) (h : ∀ t ∈ ts, (atX xs i ≤ t.1 ↔ m ≤ t.1)) : keptT ts (xs.set i m) = keptT ts xs := by
  unfold keptT
  have : ∀ t ∈ ts, num (xs.set i m) t.1 = num xs t.1 := fun t ht => by
    have h1 := num_set (m := m) (t := t.1) hi
    have h2 := h t ht
    by_cases q : m ≤ t.1
    · rw [if_pos q, if_pos (h2.mpr q)] at h1; omega
    · rw [if_neg q, if_neg (fun z => q (h2.mp z))] at h1; omega
  induction ts with
  | nil => rfl
  | cons t r ih =>
    rw [List.all_cons, List.all_cons, this t List.mem_cons_self, ih (fun x hx => h x (List.mem_cons_of_mem _ hx)) (fun x hx => this x (List.mem_cons_of_mem _ hx))]
theorem inws_set {ws : List Win} {xs : List Int} {e : Nat} {w u : Win} (he : ws[e]? = some w) : InWs (ws.set e u) xs ↔ xs.length = ws.length ∧ (u.1 ≤ atX xs e ∧ atX xs e ≤ u.2) ∧ ∀ i v, i ≠ e → ws[i]? = some v → v.1 ≤ atX xs i ∧ atX xs i ≤ v.2 := by
  have hel : e < ws.length := (List.getElem?_eq_some_iff.mp he).1
  rw [inws_iff, List.length_set]
  constructor
  · rintro ⟨h1, h2⟩
    exact ⟨h1, h2 e u (List.getElem?_set_self hel), fun i v hi hv => h2 i v (by rw [List.getElem?_set_ne (Ne.symm hi)]; exact hv)⟩
  · rintro ⟨h1, h2, h3⟩
    refine ⟨h1, fun i v hv => ?_⟩
    by_cases q : i = e
    · subst q
      rw [List.getElem?_set_self hel] at hv
      cases hv; exact h2
    · rw [List.getElem?_set_ne (Ne.symm q)] at hv
      exact h3 i v q hv
theorem posL_mem {ws : List Win} {ts : List Tal} (hw : WsOk ws) (ht : TsOk ws.length ts) {e : Nat} {w : Win} (he : ws[e]? = some w) {m : Int} : m ∈ posL ws ts e w ↔ ∃ xs, InWs ws xs ∧ keptT ts xs = true ∧ atX xs e = m := by
  obtain ⟨w0, w1, w2⟩ := hw.ok w (List.mem_of_getElem? he)
  unfold posL poss
  rw [List.mem_filter, mem_rngI]
  constructor
  · rintro ⟨⟨h1, h2⟩, h3⟩
    have hws : WsOk (ws.set e (m, m)) := set_wok hw ⟨by simp only []; omega, by simp only []; omega, by simp only []; omega⟩
    obtain ⟨xs, h4, h5⟩ := (agree_iff hws (by rw [List.length_set]; exact ht)).mp h3
    obtain ⟨a1, ⟨a2, a3⟩, a4⟩ := (inws_set he).mp h4
    simp only [] at a2 a3
    refine ⟨xs, inws_iff.mpr ⟨a1, fun i v hv => ?_⟩, h5, by omega⟩
    by_cases q : i = e
    · subst q; rw [he] at hv; cases hv; omega
    · exact a4 i v q hv
  · rintro ⟨xs, h1, h2, rfl⟩
    obtain ⟨a1, a2⟩ := inws_iff.mp h1
    have a3 := a2 e w he
    have hws : WsOk (ws.set e (atX xs e, atX xs e)) := set_wok hw ⟨by simp only []; omega, by simp only []; omega, by simp only []; omega⟩
    refine ⟨a3, (agree_iff hws (by rw [List.length_set]; exact ht)).mpr ⟨xs, (inws_set he).mpr ⟨a1, ⟨Int.le_refl _, Int.le_refl _⟩, fun i v _ hv => a2 i v hv⟩, h2⟩⟩
theorem posL_sorted (ws : List Win) (ts : List Tal) (e : Nat) (w : Win) : (posL ws ts e w).Pairwise (· < ·) := (rngI_sorted w).filter _
theorem joined_nil {l : List Int} : joined l = [] ↔ l = [] := by
  constructor
  · intro h
    have := (spread_joined l).1
    rw [h] at this
    exact this.symm
  · rintro rfl; rfl
theorem joined_first {l : List Int} (hs : l.Pairwise (· < ·)) {w : Win} {r : List Win} (h : joined l = w :: r) : w.1 ∈ l ∧ ∀ m ∈ l, w.1 ≤ m := by
  obtain ⟨h1, h2⟩ := spread_joined l
  have hw := h2 w (by rw [h]; exact List.mem_cons_self)
  have hin : w.1 ∈ l := mem_joined.mp ⟨w, by rw [h]; exact List.mem_cons_self, Int.le_refl _, hw⟩
  refine ⟨hin, fun m hm => ?_⟩
  rw [h] at h1
  have e : spread (w :: r) = w.1 :: ((List.range (w.2 - w.1).toNat).map (fun k : Nat => w.1 + 1 + (k : Int)) ++ spread r) := by
    unfold spread
    rw [List.flatMap_cons]
    unfold rngI
    rw [show (w.2 + 1 - w.1).toNat = (w.2 - w.1).toNat + 1 by omega, List.range_succ_eq_map, List.map_cons, List.map_map]
    show (w.1 + ((0 : Nat) : Int)) :: _ = _
    rw [show w.1 + ((0 : Nat) : Int) = w.1 by omega]
    congr 2
    refine List.map_congr_left fun k _ => ?_
    show w.1 + ((k + 1 : Nat) : Int) = _
    omega
  rw [e] at h1
  rw [← h1] at hs hm
  rcases List.mem_cons.mp hm with rfl | hm
  · exact Int.le_refl _
  · have := (List.pairwise_cons.mp hs).1 m hm
    omega
theorem joined_last {l : List Int} (hs : l.Pairwise (· < ·)) {z : Win} {g : List Win} (h : joined l = g ++ [z]) : z.2 ∈ l ∧ ∀ m ∈ l, m ≤ z.2 := by
  obtain ⟨h1, h2⟩ := spread_joined l
  have hz := h2 z (by rw [h]; simp)
  have hin : z.2 ∈ l := mem_joined.mp ⟨z, by rw [h]; simp, hz, Int.le_refl _⟩
  refine ⟨hin, fun m hm => ?_⟩
  rw [h] at h1
  have e : spread (g ++ [z]) = spread g ++ rngI z := by
    unfold spread
    rw [List.flatMap_append]
    simp only [List.flatMap_cons, List.flatMap_nil, List.append_nil]
  rw [e] at h1
  rw [← h1] at hs hm
  rcases List.mem_append.mp hm with hm | hm
  · have := (List.pairwise_append.mp hs).2.2 m hm z.2 (mem_rngI.mpr ⟨hz, Int.le_refl _⟩)
    omega
  · exact (mem_rngI.mp hm).2
/-! two events in order -/
theorem fl_ws {ws : List Win} {r : List C} : fList (aC (eV 0) aN) (.vl (wsD ws) :: r) = some (.ok (ws.map wD) (.vl (wsD ws) :: r)) := rfl
def nar (ws : List Win) (a b : Nat) (wa wb : Win) (g m : Int) : List Win := (ws.set a (wa.1, min wa.2 m)).set b (max wb.1 (m + g), wb.2)
def moms (ts : List Tal) (wa wb : Win) (g : Int) : List Int := [wa.1, wa.2, wb.1 - g, wb.2 - g] ++ ts.map (·.1) ++ ts.map (fun t => t.1 + 1)
def ordQ (ws : List Win) (ts : List Tal) (a b : Nat) (wa wb : Win) (g m : Int) : Bool := (decide (wa.1 ≤ m) && decide (m + g ≤ wb.2)) && (conf (nar ws a b wa wb g m) ts).isNone
theorem nar_ok {ws : List Win} (hw : WsOk ws) {a b : Nat} {wa wb : Win} (ha : ws[a]? = some wa) (hb : ws[b]? = some wb) {g m : Int} (hg : 0 ≤ g) (h1 : wa.1 ≤ m) (h2 : m + g ≤ wb.2) : WsOk (nar ws a b wa wb g m) := by
  obtain ⟨a0, a1, a2⟩ := hw.ok wa (List.mem_of_getElem? ha)
  obtain ⟨b0, b1, b2⟩ := hw.ok wb (List.mem_of_getElem? hb)
  exact set_wok (set_wok hw ⟨by simp only []; omega, by simp only []; omega, by simp only []; omega⟩) ⟨by simp only []; omega, by simp only []; omega, by simp only []; omega⟩
theorem nar_len (ws : List Win) (a b : Nat) (wa wb : Win) (g m : Int) : (nar ws a b wa wb g m).length = ws.length := by unfold nar; rw [List.length_set, List.length_set]
theorem nar_in {ws : List Win} {a b : Nat} {wa wb : Win} (ha : ws[a]? = some wa) (hb : ws[b]? = some wb) (hab : a ≠ b) {g m : Int} {xs : List Int} : InWs (nar ws a b wa wb g m) xs ↔ InWs ws xs ∧ atX xs a ≤ m ∧ m + g ≤ atX xs b := by
  have hal : a < ws.length := (List.getElem?_eq_some_iff.mp ha).1
  have hb' : (ws.set a (wa.1, min wa.2 m))[b]? = some wb := by rw [List.getElem?_set_ne hab]; exact hb
  unfold nar
  rw [inws_set hb', List.length_set, inws_iff]
  constructor
  · rintro ⟨h1, ⟨h2, h3⟩, h4⟩
    simp only [] at h2 h3
    have h5 := h4 a _ hab (List.getElem?_set_self hal)
    simp only [] at h5
    refine ⟨⟨h1, fun i v hv => ?_⟩, by omega, by omega⟩
    by_cases q : i = b
    · subst q; rw [hb] at hv; cases hv; omega
    · by_cases q2 : i = a
      · subst q2; rw [ha] at hv; cases hv; omega
      · exact h4 i v q (by rw [List.getElem?_set_ne (Ne.symm q2)]; exact hv)
  · rintro ⟨⟨h1, h2⟩, h3, h4⟩
    have h5 := h2 a wa ha
    have h6 := h2 b wb hb
    refine ⟨h1, ⟨by simp only []; omega, h6.2⟩, fun i v q hv => ?_⟩
    by_cases q2 : i = a
    · subst q2
      rw [List.getElem?_set_self hal] at hv
      cases hv
      exact ⟨h5.1, by simp only []; omega⟩
    · rw [List.getElem?_set_ne (Ne.symm q2)] at hv
      exact h2 i v hv
/-- some course has them so, if and only if one of the moments shows it -/
theorem order_iff {ws : List Win} {ts : List Tal} (hw : WsOk ws) (ht : TsOk ws.length ts) {a b : Nat} {wa wb : Win} (ha : ws[a]? = some wa) (hb : ws[b]? = some wb) (hab : a ≠ b) {g : Int} (hg : 0 ≤ g) :
    (∃ m ∈ moms ts wa wb g, ordQ ws ts a b wa wb g m = true) ↔ ∃ xs, InWs ws xs ∧ keptT ts xs = true ∧ atX xs a + g ≤ atX xs b := by
  have hal : a < ws.length := (List.getElem?_eq_some_iff.mp ha).1
  constructor
  · rintro ⟨m, _, h⟩
    unfold ordQ at h
    rw [Bool.and_eq_true, Bool.and_eq_true, decide_eq_true_eq, decide_eq_true_eq] at h
    obtain ⟨⟨h1, h2⟩, h3⟩ := h
    obtain ⟨xs, h4, h5⟩ := (agree_iff (nar_ok hw ha hb hg h1 h2) (by rw [nar_len]; exact ht)).mp h3
    obtain ⟨h6, h7, h8⟩ := (nar_in ha hb hab).mp h4
    exact ⟨xs, h6, h5, by omega⟩
  · rintro ⟨xs, h1, h2, h3⟩
    obtain ⟨l1, l2⟩ := inws_iff.mp h1
    have pa := l2 a wa ha
    have pb := l2 b wb hb
    -- the last moment that is not behind the event
    have key : ∃ m ∈ moms ts wa wb g, m ≤ atX xs a ∧ ∀ y ∈ moms ts wa wb g, y ≤ atX xs a → y ≤ m := by
      have hm : wa.1 ∈ moms ts wa wb g := by unfold moms; simp
      have gen : ∀ l : List Int, (∃ y ∈ l, y ≤ atX xs a) → ∃ m ∈ l, m ≤ atX xs a ∧ ∀ y ∈ l, y ≤ atX xs a → y ≤ m := by
        intro l
        induction l with
        | nil => rintro ⟨y, hy, _⟩; cases hy
        | cons z r ih =>
          rintro ⟨y, hy, hya⟩
          by_cases hr : ∃ y ∈ r, y ≤ atX xs a
          · obtain ⟨m, hm1, hm2, hm3⟩ := ih hr
            by_cases q : z ≤ atX xs a ∧ m ≤ z
            · refine ⟨z, List.mem_cons_self, q.1, fun y hy hya => ?_⟩
              rcases List.mem_cons.mp hy with rfl | hy
              · exact Int.le_refl _
              · have := hm3 y hy hya; omega
            · refine ⟨m, List.mem_cons_of_mem _ hm1, hm2, fun y hy hya => ?_⟩
              rcases List.mem_cons.mp hy with rfl | hy
              · omega
              · exact hm3 y hy hya
          · have hz : y = z := by
              rcases List.mem_cons.mp hy with e | h
              · exact e
              · exact absurd ⟨y, h, hya⟩ hr
            subst hz
            refine ⟨y, List.mem_cons_self, hya, fun x hx hxa => ?_⟩
            rcases List.mem_cons.mp hx with rfl | hx
            · exact Int.le_refl _
            · exact absurd ⟨x, hx, hxa⟩ hr
      exact gen _ ⟨wa.1, hm, pa.1⟩
    obtain ⟨m, hm1, hm2, hm3⟩ := key
    have hfa : wa.1 ≤ m := hm3 wa.1 (by unfold moms; simp) pa.1
    refine ⟨m, hm1, ?_⟩
    have hxl : a < xs.length := by omega
    have hmove : keptT ts (xs.set a m) = true := by
      rw [kept_move hxl fun t htm => ?_]
      · exact h2
      · constructor
        · intro q; omega
        · intro q
          have := hm3 (t.1 + 1) (by unfold moms; exact List.mem_append_right _ (List.mem_map.mpr ⟨t, htm, rfl⟩))
          omega
    have hin : InWs (nar ws a b wa wb g m) (xs.set a m) := by
      refine (nar_in ha hb hab).mpr ⟨inws_iff.mpr ⟨by rw [List.length_set]; exact l1, fun i v hv => ?_⟩, ?_, ?_⟩
      · rw [atX_set hxl]
        by_cases q : a = i
        · subst q; rw [if_pos rfl]; rw [ha] at hv; cases hv; omega
        · rw [if_neg q]; exact l2 i v hv
      · rw [atX_set hxl, if_pos rfl]; exact Int.le_refl _
      · rw [atX_set hxl, if_neg hab]; omega
    have hbd : m + g ≤ wb.2 := by omega
    unfold ordQ
    rw [decide_eq_true hfa, decide_eq_true hbd, (agree_iff (nar_ok hw ha hb hg hfa hbd) (by rw [nar_len]; exact ht)).mpr ⟨_, hin, hmove⟩]; rfl
/-! statements -/
inductive Stm where
  | num (t lo hi : Int) | by_ (e : Nat) (t : Int) | bef (a b : Nat)
def stmD : Stm → D
  | .num t lo hi => .tup [.str "number", .int t, .int lo, .int hi]
  | .by_ e t => .tup [.str "by", .int (e : Int), .int t]
  | .bef a b => .tup [.str "before", .int (a : Int), .int (b : Int)]
def StmOk (n : Nat) : Stm → Prop
  | .num t lo hi => 0 ≤ t ∧ t ≤ 1000 ∧ 0 ≤ lo ∧ lo ≤ hi ∧ hi ≤ n
  | .by_ e t => e < n ∧ 0 ≤ t ∧ t ≤ 1000
  | .bef a b => a < n ∧ b < n ∧ a ≠ b
def holdsS (xs : List Int) : Stm → Bool
  | .num t lo hi => decide (lo ≤ (num xs t : Int)) && decide ((num xs t : Int) ≤ hi)
  | .by_ e t => decide (atX xs e ≤ t)
  | .bef a b => decide (atX xs a < atX xs b)
theorem dEq_ss {i j : Str} : dEq (.str i) (.str j) = some (.bl (decide (i = j))) := rfl
theorem dec_yes {i : Str} : decide (i = i) = true := decide_eq_true rfl
theorem sbn : decide (("by" : Str) = ("number" : Str)) = false := by decide +kernel
theorem sfn : decide (("before" : Str) = ("number" : Str)) = false := by decide +kernel
theorem sfb : decide (("before" : Str) = ("by" : Str)) = false := by decide +kernel
theorem dEq_tupT {l m : List D} {ps qs : List PyData} (h : toPys l = some ps) (h' : toPys m = some qs) (s : SeqAt.shaped (.tuple ps) = true) (s' : SeqAt.shaped (.tuple qs) = true) : dEq (.tup l) (.tup m) = some (.bl (PyData.eqv (.tuple ps) (.tuple qs))) := by
  have e1 : toPy (.tup l) = some (.tuple ps) := by simp only [toPy, h, Option.map_some]
  have e2 : toPy (.tup m) = some (.tuple qs) := by simp only [toPy, h', Option.map_some]
  show (eqPy (.tup l) (.tup m)).map D.bl = _
  unfold eqPy
  simp only [e1, e2, s, s', Bool.and_self, ↓reduceIte, Option.map_some]
theorem stm_nil (s : Stm) : dEq (stmD s) (.tup []) = some (.bl false) := by
  cases s with
  | num t lo hi =>
    have := dEq_tupT (l := [.str "number", .int t, .int lo, .int hi]) (m := []) (ps := [.str "number", .int t, .int lo, .int hi]) (qs := []) rfl rfl (by
      unfold SeqAt.shaped
      simp only [PyData.canLay0, PyData.canLayAll0, PyData.depth, PyData.depthAll]
      exact (by decide +kernel : (PyData.strOk (Str.ofString "number") && (true && (true && (true && true))) && decide (max 0 (max 0 (max 0 (max 0 0))) + 1 ≤ 64)) = true)) (by decide +kernel)
    refine this.trans ?_
    simp [PyData.eqv, PyData.eqvAll]
  | by_ e t =>
    have := dEq_tupT (l := [.str "by", .int (e : Int), .int t]) (m := []) (ps := [.str "by", .int (e : Int), .int t]) (qs := []) rfl rfl (by
      unfold SeqAt.shaped
      simp only [PyData.canLay0, PyData.canLayAll0, PyData.depth, PyData.depthAll]
      exact (by decide +kernel : (PyData.strOk (Str.ofString "by") && (true && (true && true)) && decide (max 0 (max 0 (max 0 0)) + 1 ≤ 64)) = true)) (by decide +kernel)
    refine this.trans ?_
    simp [PyData.eqv, PyData.eqvAll]
  | bef a b =>
    have := dEq_tupT (l := [.str "before", .int (a : Int), .int (b : Int)]) (m := []) (ps := [.str "before", .int (a : Int), .int (b : Int)]) (qs := []) rfl rfl (by
      unfold SeqAt.shaped
      simp only [PyData.canLay0, PyData.canLayAll0, PyData.depth, PyData.depthAll]
      exact (by decide +kernel : (PyData.strOk (Str.ofString "before") && (true && (true && true)) && decide (max 0 (max 0 (max 0 0)) + 1 ≤ 64)) = true)) (by decide +kernel)
    refine this.trans ?_
    simp [PyData.eqv, PyData.eqvAll]
theorem wD2 {a b : Int} {w : Win} (h1 : w.1 = a) (h2 : w.2 = b) : wD w = .tup [.int a, .int b] := by subst h1; subst h2; rfl
/-- the first of all possible times, and the last -/
theorem evT_ends {ws : List Win} {ts : List Tal} (hw : WsOk ws) (ht : TsOk ws.length ts) {e : Nat} {w : Win} (he : ws[e]? = some w) (hc : (conf ws ts).isNone = true) :
    ∃ a b, atI ((evT ws ts e w).map wD) 0 = some (wD a) ∧ atI ((evT ws ts e w).map wD) (-1) = some (wD b) ∧ a.1 ∈ posL ws ts e w ∧ b.2 ∈ posL ws ts e w ∧ ∀ m ∈ posL ws ts e w, a.1 ≤ m ∧ m ≤ b.2 := by
  obtain ⟨xs, h1, h2⟩ := (agree_iff hw ht).mp hc
  have hm := (posL_mem hw ht he).mpr ⟨xs, h1, h2, rfl⟩
  have hs := posL_sorted ws ts e w
  unfold evT
  cases q : joined (posL ws ts e w) with
  | nil => rw [joined_nil.mp q] at hm; cases hm
  | cons a r =>
    obtain ⟨f1, f2⟩ := joined_first hs q
    rcases List.eq_nil_or_concat (a :: r) with z | ⟨g, b, z⟩
    · cases z
    · rw [List.concat_eq_append] at z
      obtain ⟨l1, l2⟩ := joined_last hs (q.trans z)
      refine ⟨a, b, ?_, ?_, f1, l1, fun m hm => ⟨f2 m hm, l2 m hm⟩⟩
      · rw [List.map_cons]; exact atI_0
      · rw [z, List.map_append]; exact atI_last _ _
/-- whether some course has it so -/
def someS (ws : List Win) (ts : List Tal) (s : Stm) (b : Bool) : Prop := ∃ xs, InWs ws xs ∧ keptT ts xs = true ∧ holdsS xs s = b
def wordS (c p r : Bool) : Str := if c = true then (if r = true then (if p = true then "open" else "impossible") else "certain") else "inconsistent"
theorem dNe_bl {a b : Bool} : dNe (.bl a) (.bl b) = some (.bl (!(a == b))) := by cases a <;> cases b <;> rfl
theorem kp_own {c : C} (h : kp c = c) : c.own = false := by
  cases c with
  | vl d => rfl
  | un => rfl
  | ow p l => cases h
  | dc p l => cases h
theorem jstep_last (g : List Win) (z p : Win) : jstep (g ++ [z]) p = if z.2 + 1 = p.1 then g ++ [(z.1, p.2)] else g ++ [z] ++ [p] := by
  unfold jstep
  rw [List.getLast?_append, List.getLast?_singleton]
  simp only [Option.some_or, List.dropLast_concat]
theorem nice_wD (w : Win) : Nice 5 (wD w) := fun d hd => by
  rcases List.mem_cons.mp hd with rfl | hd
  · trivial
  · rw [List.mem_singleton.mp hd]; trivial
theorem jbody_ok {c0 : C} {f : List Win} {m : Int} (hf : f.length ≤ 100000) : L__law_joined_1 [c0, .ow false (f.map wD), .vl (.int m)] = some (.nx [c0, .ow false ((jstep f (m, m)).map wD), .vl (.int m)]) := by
  have ne := (dEq_empty wD nice_wD f).2
  unfold L__law_joined_1
  rcases List.eq_nil_or_concat f with rfl | ⟨g, z, rfl⟩
  · simp only [List.map_nil, List.isEmpty_nil, Bool.not_true] at ne
    simp only [vls_nil, vls_cons, uns_zero, uns_succ, gt_zero, gt_succ, st_zero, st_succ, bnd_ap, ret_ap, lift_some, eC_ap, eV_ap, e2_ap, eB_ap, eNot_ap, tNot_ap, tAnd_app, tOr_app, ite_ap, eAnd_ap, eOr_ap, e3_app, eIf_ap, brk_ap, brk'_ap, ite_bl, ite_bo, ite_tb, ite_to, ↓reduceIte, Bool.false_eq_true, Bool.not_true, Bool.not_false, aN_ap, aC_ap, eT_ap, eL_ap, fL_ap, eB1_ap, eIsi_ap, eIsiA_ap, e1n_ap, oS_ap, eSl_ap, eCall_ap, fCall_ap, eCall1_ap, eOx_ap, eDGet_ap, eDSort_ap, iS_ap, iR1_ap, iR2_ap, iE_ap, iZ_ap, gN_ap, gT2, gT3, sSeq_ap, sNext_ap, sExpr_ap, sRet_ap, sRetF_ap, sIf_ap, sAsg_ap, sPar_ap, sParD_ap, sPut_ap, sDPut_ap, sBind_ap, sOwn_ap, sApp_ap, sRetO_ap, eSortSet_ap, sFor_ap, sBag_ap, finB_2, own0_ap, fin0_0, fin1_0, fin0_1, fin1_1, fin0_2, fin1_2, fin0_3, fin1_3, fin0_4, fin1_4, fin0_5, fin1_5, fin0_6, fin1_6, fin0_7, fin1_7, fin0_8, fin1_8, dI0_ap, dAdd_ii, dLen_t, dLen_l, dTuple_l, dTuple_t, dList_l, dList_t, dMax_ii, dMin_ii, dIx_t, dIx_l, atI_0, atI_1, atI_2, atI_3, dSl_t, dSl_l, dSl_s, dNe_ii, dEq_ii, ifz, ifz', Option.map_some, List.length_cons, List.length_nil, List.length_append, List.length_map, zl0, zm0, zl1, zm1, zl2, zm2, zl3, zm3, zl4, zm4, zl5, zm5, zl6, zm6, zl7, zm7, zl8, zm8, zl9, zm9, zl10, zm10, zl11, zm11, zl12, zm12, zl13, zm13, zl14, zm14, zl15, zm15, zl16, zm16, Nat.zero_add, Nat.reduceAdd, Int.reduceAdd, Int.reduceSub, Int.reduceMul, Int.reduceNeg, Int.reduceEq, Int.reduceLE, Int.reduceLT, Int.reduceToNat, Int.reducePow, decide_true, decide_false, cn0, cn1, cn2, cn3, cn4, cn5, cn6, cn7, cn8, cn9, cn10, cn11, cn12, List.set_cons_zero, List.set_cons_succ, tn0, tn1, tn2, tn3, tn4, tn5, tn6, tn7, tn8, eLn_ap, tLn_ap, lnd_nil, lnd_cons, lend_ow, lend_dc, lend_un, lend_vl, scD_bl, scD_int, scD_non, scD_str, sParL_ap, frz_ap, chL_ap, chK_ap, chLt_ap, chKt_ap, asB_ap, List.map_nil, ne]
    rfl
  · rw [List.concat_eq_append] at *
    have hne : (g ++ [z]).isEmpty = false := by cases g <;> rfl
    rw [hne] at ne
    have em : (g ++ [z]).map wD = g.map wD ++ [wD z] := by rw [List.map_append]; rfl
    rw [em] at ne ⊢
    have e1 := atI_last (g.map wD) (wD z)
    have e2 := ixN_last (g.map wD) (wD z)
    have x0 : dIx (wD z) (.int 0) = some (.int z.1) := atI_0
    have x1 : dIx (wD z) (.int 1) = some (.int z.2) := atI_1
    have hz : g.length + 1 < 16777216 := by rw [List.length_append, List.length_singleton] at hf; omega
    rw [jstep_last]
    by_cases w9 : z.2 = m - 1
    · have e3 := set_last (g.map wD) (wD z) (.tup [.int z.1, .int m])
      rw [if_pos (show z.2 + 1 = m by omega)]
      rw [List.length_append, List.length_singleton] at e2
      simp only [vls_nil, vls_cons, uns_zero, uns_succ, gt_zero, gt_succ, st_zero, st_succ, bnd_ap, ret_ap, lift_some, eC_ap, eV_ap, e2_ap, eB_ap, eNot_ap, tNot_ap, tAnd_app, tOr_app, ite_ap, eAnd_ap, eOr_ap, e3_app, eIf_ap, brk_ap, brk'_ap, ite_bl, ite_bo, ite_tb, ite_to, ↓reduceIte, Bool.false_eq_true, Bool.not_true, Bool.not_false, aN_ap, aC_ap, eT_ap, eL_ap, fL_ap, eB1_ap, eIsi_ap, eIsiA_ap, e1n_ap, oS_ap, eSl_ap, eCall_ap, fCall_ap, eCall1_ap, eOx_ap, eDGet_ap, eDSort_ap, iS_ap, iR1_ap, iR2_ap, iE_ap, iZ_ap, gN_ap, gT2, gT3, sSeq_ap, sNext_ap, sExpr_ap, sRet_ap, sRetF_ap, sIf_ap, sAsg_ap, sPar_ap, sParD_ap, sPut_ap, sDPut_ap, sBind_ap, sOwn_ap, sApp_ap, sRetO_ap, eSortSet_ap, sFor_ap, sBag_ap, finB_2, own0_ap, fin0_0, fin1_0, fin0_1, fin1_1, fin0_2, fin1_2, fin0_3, fin1_3, fin0_4, fin1_4, fin0_5, fin1_5, fin0_6, fin1_6, fin0_7, fin1_7, fin0_8, fin1_8, dI0_ap, dAdd_ii, dLen_t, dLen_l, dTuple_l, dTuple_t, dList_l, dList_t, dMax_ii, dMin_ii, dIx_t, dIx_l, atI_0, atI_1, atI_2, atI_3, dSl_t, dSl_l, dSl_s, dNe_ii, dEq_ii, ifz, ifz', Option.map_some, List.length_cons, List.length_nil, List.length_append, List.length_map, zl0, zm0, zl1, zm1, zl2, zm2, zl3, zm3, zl4, zm4, zl5, zm5, zl6, zm6, zl7, zm7, zl8, zm8, zl9, zm9, zl10, zm10, zl11, zm11, zl12, zm12, zl13, zm13, zl14, zm14, zl15, zm15, zl16, zm16, Nat.zero_add, Nat.reduceAdd, Int.reduceAdd, Int.reduceSub, Int.reduceMul, Int.reduceNeg, Int.reduceEq, Int.reduceLE, Int.reduceLT, Int.reduceToNat, Int.reducePow, decide_true, decide_false, cn0, cn1, cn2, cn3, cn4, cn5, cn6, cn7, cn8, cn9, cn10, cn11, cn12, List.set_cons_zero, List.set_cons_succ, tn0, tn1, tn2, tn3, tn4, tn5, tn6, tn7, tn8, eLn_ap, tLn_ap, lnd_nil, lnd_cons, lend_ow, lend_dc, lend_un, lend_vl, scD_bl, scD_int, scD_non, scD_str, sParL_ap, frz_ap, chL_ap, chK_ap, chLt_ap, chKt_ap, asB_ap, ne, e1, x0, x1, decide_eq_true w9, List.length_append, List.length_singleton, List.length_map] at e2 e3 ⊢
      simp only [e2, vls_nil, vls_cons, uns_zero, uns_succ, gt_zero, gt_succ, st_zero, st_succ, bnd_ap, ret_ap, lift_some, eC_ap, eV_ap, e2_ap, eB_ap, eNot_ap, tNot_ap, tAnd_app, tOr_app, ite_ap, eAnd_ap, eOr_ap, e3_app, eIf_ap, brk_ap, brk'_ap, ite_bl, ite_bo, ite_tb, ite_to, ↓reduceIte, Bool.false_eq_true, Bool.not_true, Bool.not_false, aN_ap, aC_ap, eT_ap, eL_ap, fL_ap, eB1_ap, eIsi_ap, eIsiA_ap, e1n_ap, oS_ap, eSl_ap, eCall_ap, fCall_ap, eCall1_ap, eOx_ap, eDGet_ap, eDSort_ap, iS_ap, iR1_ap, iR2_ap, iE_ap, iZ_ap, gN_ap, gT2, gT3, sSeq_ap, sNext_ap, sExpr_ap, sRet_ap, sRetF_ap, sIf_ap, sAsg_ap, sPar_ap, sParD_ap, sPut_ap, sDPut_ap, sBind_ap, sOwn_ap, sApp_ap, sRetO_ap, eSortSet_ap, sFor_ap, sBag_ap, finB_2, own0_ap, fin0_0, fin1_0, fin0_1, fin1_1, fin0_2, fin1_2, fin0_3, fin1_3, fin0_4, fin1_4, fin0_5, fin1_5, fin0_6, fin1_6, fin0_7, fin1_7, fin0_8, fin1_8, dI0_ap, dAdd_ii, dLen_t, dLen_l, dTuple_l, dTuple_t, dList_l, dList_t, dMax_ii, dMin_ii, dIx_t, dIx_l, atI_0, atI_1, atI_2, atI_3, dSl_t, dSl_l, dSl_s, dNe_ii, dEq_ii, ifz, ifz', Option.map_some, List.length_cons, List.length_nil, List.length_append, List.length_map, zl0, zm0, zl1, zm1, zl2, zm2, zl3, zm3, zl4, zm4, zl5, zm5, zl6, zm6, zl7, zm7, zl8, zm8, zl9, zm9, zl10, zm10, zl11, zm11, zl12, zm12, zl13, zm13, zl14, zm14, zl15, zm15, zl16, zm16, Nat.zero_add, Nat.reduceAdd, Int.reduceAdd, Int.reduceSub, Int.reduceMul, Int.reduceNeg, Int.reduceEq, Int.reduceLE, Int.reduceLT, Int.reduceToNat, Int.reducePow, decide_true, decide_false, cn0, cn1, cn2, cn3, cn4, cn5, cn6, cn7, cn8, cn9, cn10, cn11, cn12, List.set_cons_zero, List.set_cons_succ, tn0, tn1, tn2, tn3, tn4, tn5, tn6, tn7, tn8, eLn_ap, tLn_ap, lnd_nil, lnd_cons, lend_ow, lend_dc, lend_un, lend_vl, scD_bl, scD_int, scD_non, scD_str, sParL_ap, frz_ap, chL_ap, chK_ap, chLt_ap, chKt_ap, asB_ap]
      rw [show g.length = (g.map wD).length by rw [List.length_map]] at *
      rw [set_last]
      simp only [List.map_append]
      rfl
    · rw [if_neg (show ¬ z.2 + 1 = m by omega)]
      simp only [vls_nil, vls_cons, uns_zero, uns_succ, gt_zero, gt_succ, st_zero, st_succ, bnd_ap, ret_ap, lift_some, eC_ap, eV_ap, e2_ap, eB_ap, eNot_ap, tNot_ap, tAnd_app, tOr_app, ite_ap, eAnd_ap, eOr_ap, e3_app, eIf_ap, brk_ap, brk'_ap, ite_bl, ite_bo, ite_tb, ite_to, ↓reduceIte, Bool.false_eq_true, Bool.not_true, Bool.not_false, aN_ap, aC_ap, eT_ap, eL_ap, fL_ap, eB1_ap, eIsi_ap, eIsiA_ap, e1n_ap, oS_ap, eSl_ap, eCall_ap, fCall_ap, eCall1_ap, eOx_ap, eDGet_ap, eDSort_ap, iS_ap, iR1_ap, iR2_ap, iE_ap, iZ_ap, gN_ap, gT2, gT3, sSeq_ap, sNext_ap, sExpr_ap, sRet_ap, sRetF_ap, sIf_ap, sAsg_ap, sPar_ap, sParD_ap, sPut_ap, sDPut_ap, sBind_ap, sOwn_ap, sApp_ap, sRetO_ap, eSortSet_ap, sFor_ap, sBag_ap, finB_2, own0_ap, fin0_0, fin1_0, fin0_1, fin1_1, fin0_2, fin1_2, fin0_3, fin1_3, fin0_4, fin1_4, fin0_5, fin1_5, fin0_6, fin1_6, fin0_7, fin1_7, fin0_8, fin1_8, dI0_ap, dAdd_ii, dLen_t, dLen_l, dTuple_l, dTuple_t, dList_l, dList_t, dMax_ii, dMin_ii, dIx_t, dIx_l, atI_0, atI_1, atI_2, atI_3, dSl_t, dSl_l, dSl_s, dNe_ii, dEq_ii, ifz, ifz', Option.map_some, List.length_cons, List.length_nil, List.length_append, List.length_map, zl0, zm0, zl1, zm1, zl2, zm2, zl3, zm3, zl4, zm4, zl5, zm5, zl6, zm6, zl7, zm7, zl8, zm8, zl9, zm9, zl10, zm10, zl11, zm11, zl12, zm12, zl13, zm13, zl14, zm14, zl15, zm15, zl16, zm16, Nat.zero_add, Nat.reduceAdd, Int.reduceAdd, Int.reduceSub, Int.reduceMul, Int.reduceNeg, Int.reduceEq, Int.reduceLE, Int.reduceLT, Int.reduceToNat, Int.reducePow, decide_true, decide_false, cn0, cn1, cn2, cn3, cn4, cn5, cn6, cn7, cn8, cn9, cn10, cn11, cn12, List.set_cons_zero, List.set_cons_succ, tn0, tn1, tn2, tn3, tn4, tn5, tn6, tn7, tn8, eLn_ap, tLn_ap, lnd_nil, lnd_cons, lend_ow, lend_dc, lend_un, lend_vl, scD_bl, scD_int, scD_non, scD_str, sParL_ap, frz_ap, chL_ap, chK_ap, chLt_ap, chKt_ap, asB_ap, ne, e1, x0, x1, decide_eq_false w9, List.length_append, List.length_singleton, List.length_map, ifz' hz]
      simp only [List.map_append]
      rfl
theorem law_joined_ok {l : List Int} (hl : l.length ≤ 10000) : m__law_joined [.lst (l.map D.int)] = some (.ro ((joined l).map wD)) := by
  obtain ⟨S', e, _, c2, rfl⟩ := forGo_run (enc := D.int) (g := gN 2) (body := L__law_joined_1) (fun (f : List Win) m => jstep f (m, m))
    (fun r f S => f.length + r.length ≤ 10000 ∧ ∃ c2, S = [.vl (.lst (l.map D.int)), .ow false (f.map wD), c2]) l [] [.vl (.lst (l.map D.int)), .ow false (([] : List Win).map wD), .un] ⟨by rw [List.length_nil]; omega, _, rfl⟩ (by
      rintro x r f S _ ⟨hz, c2, rfl⟩
      rw [List.length_cons] at hz
      refine ⟨_, rfl, _, .inl (jbody_ok (by omega)), ?_, _, rfl⟩
      have : (jstep f (x, x)).length ≤ f.length + 1 := by
        unfold jstep
        cases f.getLast? with
        | none => simp
        | some z =>
          simp only []
          split
          · rw [List.length_append, List.length_dropLast, List.length_singleton]; omega
          · simp
      omega)
  have e' : forGo (gN 2) L__law_joined_1 (l.map D.int) [.vl (.lst (l.map D.int)), .ow false [], .un] = some (.nx [.vl (.lst (l.map D.int)), .ow false ((joined l).map wD), c2]) := e
  unfold m__law_joined b__law_joined
  simp only [vls_nil, vls_cons, uns_zero, uns_succ, gt_zero, gt_succ, st_zero, st_succ, bnd_ap, ret_ap, lift_some, eC_ap, eV_ap, e2_ap, eB_ap, eNot_ap, tNot_ap, tAnd_app, tOr_app, ite_ap, eAnd_ap, eOr_ap, e3_app, eIf_ap, brk_ap, brk'_ap, ite_bl, ite_bo, ite_tb, ite_to, ↓reduceIte, Bool.false_eq_true, Bool.not_true, Bool.not_false, aN_ap, aC_ap, eT_ap, eL_ap, fL_ap, eB1_ap, eIsi_ap, eIsiA_ap, e1n_ap, oS_ap, eSl_ap, eCall_ap, fCall_ap, eCall1_ap, eOx_ap, eDGet_ap, eDSort_ap, iS_ap, iR1_ap, iR2_ap, iE_ap, iZ_ap, gN_ap, gT2, gT3, sSeq_ap, sNext_ap, sExpr_ap, sRet_ap, sRetF_ap, sIf_ap, sAsg_ap, sPar_ap, sParD_ap, sPut_ap, sDPut_ap, sBind_ap, sOwn_ap, sApp_ap, sRetO_ap, eSortSet_ap, sFor_ap, sBag_ap, finB_2, own0_ap, fin0_0, fin1_0, fin0_1, fin1_1, fin0_2, fin1_2, fin0_3, fin1_3, fin0_4, fin1_4, fin0_5, fin1_5, fin0_6, fin1_6, fin0_7, fin1_7, fin0_8, fin1_8, dI0_ap, dAdd_ii, dLen_t, dLen_l, dTuple_l, dTuple_t, dList_l, dList_t, dMax_ii, dMin_ii, dIx_t, dIx_l, atI_0, atI_1, atI_2, atI_3, dSl_t, dSl_l, dSl_s, dNe_ii, dEq_ii, ifz, ifz', Option.map_some, List.length_cons, List.length_nil, List.length_append, List.length_map, zl0, zm0, zl1, zm1, zl2, zm2, zl3, zm3, zl4, zm4, zl5, zm5, zl6, zm6, zl7, zm7, zl8, zm8, zl9, zm9, zl10, zm10, zl11, zm11, zl12, zm12, zl13, zm13, zl14, zm14, zl15, zm15, zl16, zm16, Nat.zero_add, Nat.reduceAdd, Int.reduceAdd, Int.reduceSub, Int.reduceMul, Int.reduceNeg, Int.reduceEq, Int.reduceLE, Int.reduceLT, Int.reduceToNat, Int.reducePow, decide_true, decide_false, cn0, cn1, cn2, cn3, cn4, cn5, cn6, cn7, cn8, cn9, cn10, cn11, cn12, List.set_cons_zero, List.set_cons_succ, tn0, tn1, tn2, tn3, tn4, tn5, tn6, tn7, tn8, eLn_ap, tLn_ap, lnd_nil, lnd_cons, lend_ow, lend_dc, lend_un, lend_vl, scD_bl, scD_int, scD_non, scD_str, sParL_ap, frz_ap, chL_ap, chK_ap, chLt_ap, chKt_ap, asB_ap, e']
theorem xs_at {xs : List Int} {i : Nat} (h : i < xs.length) : dIx (xsD xs) (.int (i : Int)) = some (.int (atX xs i)) := by
  refine xs_ix ?_
  unfold atX
  rw [List.getElem?_eq_getElem h]; rfl
theorem xs_at0 {xs : List Int} {i : Nat} (h : i < xs.length) : dIx (xsD xs) (.int (0 + (i : Int))) = some (.int (atX xs i)) := by rw [Int.zero_add]; exact xs_at h
theorem short_rows (l : List Win) (h : l.length ≤ 1000000) : Short 3 (.lst (l.map wD)) := by
  refine ⟨by rw [List.length_map]; exact h, fun d hd => ?_⟩
  obtain ⟨w, _, rfl⟩ := List.mem_map.mp hd
  refine ⟨by simp, fun d hd => ?_⟩
  rcases List.mem_cons.mp hd with rfl | hd
  · trivial
  · rw [List.mem_singleton.mp hd]; trivial
/-- all moments of a small case, sorted -/
theorem moments_ok {ws : List Win} {ts : List Tal} (hw : WsOk ws) (ht : TsOk ws.length ts) (hl : ws.length ≤ 4) (hs : ∀ w ∈ ws, w.2 ≤ 6) {e : Nat} {w : Win} (he : ws[e]? = some w) :
    dSortSet (.lst ((keptAll ws ts).map fun xs => D.int (atX xs e))) = some (.lst ((posL ws ts e w).map D.int)) := by
  have kl := keptAll_len (ws := ws) (ts := ts) hl (fun w hm => by obtain ⟨a1, a2, a3⟩ := hw.ok w hm; have := hs w hm; omega)
  have hns : toIs ((keptAll ws ts).map fun xs => D.int (atX xs e)) = some ((keptAll ws ts).map fun xs => atX xs e) := toIs_map _ _
  have hmem : ∀ m, m ∈ (keptAll ws ts).map (fun xs => atX xs e) ↔ m ∈ posL ws ts e w := fun m => by
    rw [posL_mem hw ht he, List.mem_map]
    constructor
    · rintro ⟨xs, hx, rfl⟩
      exact ⟨xs, (mem_keptAll.mp hx).1, (mem_keptAll.mp hx).2, rfl⟩
    · rintro ⟨xs, h1, h2, rfl⟩
      exact ⟨xs, mem_keptAll.mpr ⟨h1, h2⟩, rfl⟩
  have hdd : (dd ((keptAll ws ts).map fun xs => atX xs e)).length < 64 := by
    refine Nat.lt_of_le_of_lt (dd_small (a := 0) (b := 6) (n := 7) (fun v hv => ?_) (by omega)) (by decide)
    have h1 := (hmem v).mp hv
    unfold posL at h1
    have h2 := mem_rngI.mp (List.mem_filter.mp h1).1
    obtain ⟨a1, a2, a3⟩ := hw.ok w (List.mem_of_getElem? he)
    have := hs w (List.mem_of_getElem? he)
    omega
  rw [dSortSet_ok hns (by rw [List.length_map]; omega) hdd]
  have : isort (dd ((keptAll ws ts).map fun xs => atX xs e)) = posL ws ts e w := by
    refine sorted_ext (strict_of (isort_sorted _) ((isort_perm _).nodup_iff.mpr (nodup_dd _))) (posL_sorted _ _ _ _) fun m => ?_
    rw [(isort_perm _).mem_iff, mem_dd, hmem]
  rw [this]
theorem evT_len {ws : List Win} {ts : List Tal} {e : Nat} {w : Win} (h : WOk w) : (evT ws ts e w).length ≤ 1001 := Nat.le_trans (joined_len _) (posL_len h)
theorem law1_ok {ws : List Win} {ts : List Tal} (hw : WsOk ws) (ht : TsOk ws.length ts) (hl : ws.length ≤ 4) (hs : ∀ w ∈ ws, w.2 ≤ 6) {e : Nat} (hel : e < ws.length) {c0 c1 c2 c7 c8 : C} :
    ∃ d7, L_law_1 [c0, c1, c2, .vl (wsD ws), .vl (tsD ts), .vl (.lst ((keptAll ws ts).map xsD)), .vl (.int (0 + (e : Int))), c7, c8, .un] = some (.nx [c0, c1, c2, .vl (wsD ws), .vl (tsD ts), .vl (.lst ((keptAll ws ts).map xsD)), .vl (.int (0 + (e : Int))), d7, c8, .un]) := by
  have he := List.getElem?_eq_getElem hel
  generalize ws[e] = w at he
  have hwok := hw.ok w (List.mem_of_getElem? he)
  have kl := keptAll_len (ws := ws) (ts := ts) hl (fun w hm => by obtain ⟨a1, a2, a3⟩ := hw.ok w hm; have := hs w hm; omega)
  have ec : ∀ c7 : C, C_law_1 [c0, c1, c2, .vl (wsD ws), .vl (tsD ts), .vl (.lst ((keptAll ws ts).map xsD)), .vl (.int (0 + (e : Int))), c7, c8, .un] = some (.ok (.lst ((keptAll ws ts).map fun xs => D.int (atX xs e))) [c0, c1, c2, .vl (wsD ws), .vl (tsD ts), .vl (.lst ((keptAll ws ts).map xsD)), .vl (.int (0 + (e : Int))), c7, c8, .un]) := fun c7 =>
    lcE_mapS (enc := xsD) (fun xs => D.int (atX xs e)) rfl (by omega) (fun xs hx => by
      have hxl := Paired.len' (mem_keptAll.mp hx).1
      refine ⟨_, rfl, ?_, rfl⟩
      simp only [wp, vls_nil, vls_cons, uns_zero, uns_succ, gt_zero, gt_succ, st_zero, st_succ, bnd_ap, ret_ap, lift_some, eC_ap, eV_ap, e2_ap, eB_ap, eNot_ap, tNot_ap, tAnd_app, tOr_app, ite_ap, eAnd_ap, eOr_ap, e3_app, eIf_ap, brk_ap, brk'_ap, ite_bl, ite_bo, ite_tb, ite_to, ↓reduceIte, Bool.false_eq_true, Bool.not_true, Bool.not_false, aN_ap, aC_ap, eT_ap, eL_ap, fL_ap, eB1_ap, eIsi_ap, eIsiA_ap, e1n_ap, oS_ap, eSl_ap, eCall_ap, fCall_ap, eCall1_ap, eOx_ap, eDGet_ap, eDSort_ap, iS_ap, iR1_ap, iR2_ap, iE_ap, iZ_ap, gN_ap, gT2, gT3, sSeq_ap, sNext_ap, sExpr_ap, sRet_ap, sRetF_ap, sIf_ap, sAsg_ap, sPar_ap, sParD_ap, sPut_ap, sDPut_ap, sBind_ap, sOwn_ap, sApp_ap, sRetO_ap, eSortSet_ap, sFor_ap, sBag_ap, finB_2, own0_ap, fin0_0, fin1_0, fin0_1, fin1_1, fin0_2, fin1_2, fin0_3, fin1_3, fin0_4, fin1_4, fin0_5, fin1_5, fin0_6, fin1_6, fin0_7, fin1_7, fin0_8, fin1_8, dI0_ap, dAdd_ii, dLen_t, dLen_l, dTuple_l, dTuple_t, dList_l, dList_t, dMax_ii, dMin_ii, dIx_t, dIx_l, atI_0, atI_1, atI_2, atI_3, dSl_t, dSl_l, dSl_s, dNe_ii, dEq_ii, ifz, ifz', Option.map_some, List.length_cons, List.length_nil, List.length_append, List.length_map, zl0, zm0, zl1, zm1, zl2, zm2, zl3, zm3, zl4, zm4, zl5, zm5, zl6, zm6, zl7, zm7, zl8, zm8, zl9, zm9, zl10, zm10, zl11, zm11, zl12, zm12, zl13, zm13, zl14, zm14, zl15, zm15, zl16, zm16, Nat.zero_add, Nat.reduceAdd, Int.reduceAdd, Int.reduceSub, Int.reduceMul, Int.reduceNeg, Int.reduceEq, Int.reduceLE, Int.reduceLT, Int.reduceToNat, Int.reducePow, decide_true, decide_false, cn0, cn1, cn2, cn3, cn4, cn5, cn6, cn7, cn8, cn9, cn10, cn11, cn12, List.set_cons_zero, List.set_cons_succ, tn0, tn1, tn2, tn3, tn4, tn5, tn6, tn7, tn8, eLn_ap, tLn_ap, lnd_nil, lnd_cons, lend_ow, lend_dc, lend_un, lend_vl, scD_bl, scD_int, scD_non, scD_str, sParL_ap, frz_ap, chL_ap, chK_ap, chLt_ap, chKt_ap, asB_ap, xs_at0 (xs := xs) (i := e) (by omega)]) rfl
  have es := moments_ok hw ht hl hs he
  have kj := law_joined_ok (l := posL ws ts e w) (by have := posL_len (ws := ws) (ts := ts) (e := e) hwok; omega)
  have ke : m_event_times [wsD ws, tsD ts, .int (0 + (e : Int))] = some (.ro ((evT ws ts e w).map wD)) := by rw [Int.zero_add]; exact event_times_ok hw ht he
  have ks := law_same_refl 3 _ (short_rows (evT ws ts e w) (by have := evT_len (ws := ws) (ts := ts) (e := e) hwok; omega))
  refine ⟨.ow false ((evT ws ts e w).map wD), ?_⟩
  unfold L_law_1
  have kj' : m__law_joined [.lst ((posL ws ts e w).map D.int)] = some (.ro ((evT ws ts e w).map wD)) := kj
  simp only [vls_nil, vls_cons, uns_zero, uns_succ, gt_zero, gt_succ, st_zero, st_succ, bnd_ap, ret_ap, lift_some, eC_ap, eV_ap, e2_ap, eB_ap, eNot_ap, tNot_ap, tAnd_app, tOr_app, ite_ap, eAnd_ap, eOr_ap, e3_app, eIf_ap, brk_ap, brk'_ap, ite_bl, ite_bo, ite_tb, ite_to, ↓reduceIte, Bool.false_eq_true, Bool.not_true, Bool.not_false, aN_ap, aC_ap, eT_ap, eL_ap, fL_ap, eB1_ap, eIsi_ap, eIsiA_ap, e1n_ap, oS_ap, eSl_ap, eCall_ap, fCall_ap, eCall1_ap, eOx_ap, eDGet_ap, eDSort_ap, iS_ap, iR1_ap, iR2_ap, iE_ap, iZ_ap, gN_ap, gT2, gT3, sSeq_ap, sNext_ap, sExpr_ap, sRet_ap, sRetF_ap, sIf_ap, sAsg_ap, sPar_ap, sParD_ap, sPut_ap, sDPut_ap, sBind_ap, sOwn_ap, sApp_ap, sRetO_ap, eSortSet_ap, sFor_ap, sBag_ap, finB_2, own0_ap, fin0_0, fin1_0, fin0_1, fin1_1, fin0_2, fin1_2, fin0_3, fin1_3, fin0_4, fin1_4, fin0_5, fin1_5, fin0_6, fin1_6, fin0_7, fin1_7, fin0_8, fin1_8, dI0_ap, dAdd_ii, dLen_t, dLen_l, dTuple_l, dTuple_t, dList_l, dList_t, dMax_ii, dMin_ii, dIx_t, dIx_l, atI_0, atI_1, atI_2, atI_3, dSl_t, dSl_l, dSl_s, dNe_ii, dEq_ii, ifz, ifz', Option.map_some, List.length_cons, List.length_nil, List.length_append, List.length_map, zl0, zm0, zl1, zm1, zl2, zm2, zl3, zm3, zl4, zm4, zl5, zm5, zl6, zm6, zl7, zm7, zl8, zm8, zl9, zm9, zl10, zm10, zl11, zm11, zl12, zm12, zl13, zm13, zl14, zm14, zl15, zm15, zl16, zm16, Nat.zero_add, Nat.reduceAdd, Int.reduceAdd, Int.reduceSub, Int.reduceMul, Int.reduceNeg, Int.reduceEq, Int.reduceLE, Int.reduceLT, Int.reduceToNat, Int.reducePow, decide_true, decide_false, cn0, cn1, cn2, cn3, cn4, cn5, cn6, cn7, cn8, cn9, cn10, cn11, cn12, List.set_cons_zero, List.set_cons_succ, tn0, tn1, tn2, tn3, tn4, tn5, tn6, tn7, tn8, eLn_ap, tLn_ap, lnd_nil, lnd_cons, lend_ow, lend_dc, lend_un, lend_vl, scD_bl, scD_int, scD_non, scD_str, sParL_ap, frz_ap, chL_ap, chK_ap, chLt_ap, chKt_ap, asB_ap, ec, es, kj', ke, ks]
open Classical in
/-- the event has happened by this time in all courses -/
noncomputable def doneB (ws : List Win) (ts : List Tal) (t : Int) (e : Nat) : Bool := decide (∀ xs, InWs ws xs → keptT ts xs = true → atX xs e ≤ t)
noncomputable def doneL (ws : List Win) (ts : List Tal) (t : Int) : List Nat := (List.range ws.length).filter (doneB ws ts t)
open Classical in
theorem doneB_iff {ws : List Win} {ts : List Tal} {t : Int} {e : Nat} : doneB ws ts t e = true ↔ ∀ xs, InWs ws xs → keptT ts xs = true → atX xs e ≤ t := by
  unfold doneB; exact decide_eq_true_iff
theorem doneB_of {ws : List Win} {ts : List Tal} {t : Int} {e : Nat} {b : Bool} (h : b = true ↔ ∀ xs, InWs ws xs → keptT ts xs = true → atX xs e ≤ t) : b = doneB ws ts t e := by
  cases b with
  | true => exact (doneB_iff.mpr (h.mp rfl)).symm
  | false =>
    cases q : doneB ws ts t e with
    | false => rfl
    | true => exact absurd (h.mpr (doneB_iff.mp q)) Bool.false_ne_true
def iD (l : List Nat) : List D := l.map fun i : Nat => D.int (0 + (i : Int))
theorem surely_done_ok {ws : List Win} {ts : List Tal} (hw : WsOk ws) (ht : TsOk ws.length ts) {t : Int} (t0 : 0 ≤ t) (t1 : t ≤ 1000) : m_surely_done [wsD ws, tsD ts, .int t] = some (if (conf ws ts).isNone = true then .ro (iD (doneL ws ts t)) else .rt .non) := by
  have hlt := ht.len
  have hlw := hw.len
  have k := conflict_of_ok (ts := ts) hw (by omega)
  unfold m_surely_done b_surely_done
  cases q : conf ws ts with
  | some p =>
    rw [q] at k
    simp only [confD] at k
    have e4 : dIsn (pD p) .non = some (.bl true) := rfl
    simp only [vls_nil, vls_cons, uns_zero, uns_succ, gt_zero, gt_succ, st_zero, st_succ, bnd_ap, ret_ap, lift_some, eC_ap, eV_ap, e2_ap, eB_ap, eNot_ap, tNot_ap, tAnd_app, tOr_app, ite_ap, eAnd_ap, eOr_ap, e3_app, eIf_ap, brk_ap, brk'_ap, ite_bl, ite_bo, ite_tb, ite_to, ↓reduceIte, Bool.false_eq_true, Bool.not_true, Bool.not_false, aN_ap, aC_ap, eT_ap, eL_ap, fL_ap, eB1_ap, eIsi_ap, eIsiA_ap, e1n_ap, oS_ap, eSl_ap, eCall_ap, fCall_ap, eCall1_ap, eOx_ap, eDGet_ap, eDSort_ap, iS_ap, iR1_ap, iR2_ap, iE_ap, iZ_ap, gN_ap, gT2, gT3, sSeq_ap, sNext_ap, sExpr_ap, sRet_ap, sRetF_ap, sIf_ap, sAsg_ap, sPar_ap, sParD_ap, sPut_ap, sDPut_ap, sBind_ap, sOwn_ap, sApp_ap, sRetO_ap, eSortSet_ap, sFor_ap, sBag_ap, finB_2, own0_ap, fin0_0, fin1_0, fin0_1, fin1_1, fin0_2, fin1_2, fin0_3, fin1_3, fin0_4, fin1_4, fin0_5, fin1_5, fin0_6, fin1_6, fin0_7, fin1_7, fin0_8, fin1_8, dI0_ap, dAdd_ii, dLen_t, dLen_l, dTuple_l, dTuple_t, dList_l, dList_t, dMax_ii, dMin_ii, dIx_t, dIx_l, atI_0, atI_1, atI_2, atI_3, dSl_t, dSl_l, dSl_s, dNe_ii, dEq_ii, ifz, ifz', Option.map_some, List.length_cons, List.length_nil, List.length_append, List.length_map, zl0, zm0, zl1, zm1, zl2, zm2, zl3, zm3, zl4, zm4, zl5, zm5, zl6, zm6, zl7, zm7, zl8, zm8, zl9, zm9, zl10, zm10, zl11, zm11, zl12, zm12, zl13, zm13, zl14, zm14, zl15, zm15, zl16, zm16, Nat.zero_add, Nat.reduceAdd, Int.reduceAdd, Int.reduceSub, Int.reduceMul, Int.reduceNeg, Int.reduceEq, Int.reduceLE, Int.reduceLT, Int.reduceToNat, Int.reducePow, decide_true, decide_false, cn0, cn1, cn2, cn3, cn4, cn5, cn6, cn7, cn8, cn9, cn10, cn11, cn12, List.set_cons_zero, List.set_cons_succ, tn0, tn1, tn2, tn3, tn4, tn5, tn6, tn7, tn8, eLn_ap, tLn_ap, lnd_nil, lnd_cons, lend_ow, lend_dc, lend_un, lend_vl, scD_bl, scD_int, scD_non, scD_str, sParL_ap, frz_ap, chL_ap, chK_ap, chLt_ap, chKt_ap, asB_ap, check_both_ok hw ht, check_time_ok t0 t1, k, e4, Option.isNone_some]
  | none =>
    have hc : (conf ws ts).isNone = true := by rw [q]; rfl
    rw [q] at k
    simp only [confD] at k
    have e4 : dIsn .non .non = some (.bl false) := rfl
    have hr : ws.length ≤ 1000000000 := by omega
    have ec : C_surely_done_1 [.vl (wsD ws), .vl (tsD ts), .vl (.int t), .un] = some (.ok (iD (doneL ws ts t)) [.vl (wsD ws), .vl (tsD ts), .vl (.int t), .un]) := by
      refine lcF_pure (enc := fun k : Nat => D.int (0 + (k : Int))) (l := List.range ws.length) (S1 := [.vl (wsD ws), .vl (tsD ts), .vl (.int t), .un]) (doneB ws ts t) (fun i => .int (0 + (i : Int))) (by simp only [vls_nil, vls_cons, uns_zero, uns_succ, gt_zero, gt_succ, st_zero, st_succ, bnd_ap, ret_ap, lift_some, eC_ap, eV_ap, e2_ap, eB_ap, eNot_ap, tNot_ap, tAnd_app, tOr_app, ite_ap, eAnd_ap, eOr_ap, e3_app, eIf_ap, brk_ap, brk'_ap, ite_bl, ite_bo, ite_tb, ite_to, ↓reduceIte, Bool.false_eq_true, Bool.not_true, Bool.not_false, aN_ap, aC_ap, eT_ap, eL_ap, fL_ap, eB1_ap, eIsi_ap, eIsiA_ap, e1n_ap, oS_ap, eSl_ap, eCall_ap, fCall_ap, eCall1_ap, eOx_ap, eDGet_ap, eDSort_ap, iS_ap, iR1_ap, iR2_ap, iE_ap, iZ_ap, gN_ap, gT2, gT3, sSeq_ap, sNext_ap, sExpr_ap, sRet_ap, sRetF_ap, sIf_ap, sAsg_ap, sPar_ap, sParD_ap, sPut_ap, sDPut_ap, sBind_ap, sOwn_ap, sApp_ap, sRetO_ap, eSortSet_ap, sFor_ap, sBag_ap, finB_2, own0_ap, fin0_0, fin1_0, fin0_1, fin1_1, fin0_2, fin1_2, fin0_3, fin1_3, fin0_4, fin1_4, fin0_5, fin1_5, fin0_6, fin1_6, fin0_7, fin1_7, fin0_8, fin1_8, dI0_ap, dAdd_ii, dLen_t, dLen_l, dTuple_l, dTuple_t, dList_l, dList_t, dMax_ii, dMin_ii, dIx_t, dIx_l, atI_0, atI_1, atI_2, atI_3, dSl_t, dSl_l, dSl_s, dNe_ii, dEq_ii, ifz, ifz', Option.map_some, List.length_cons, List.length_nil, List.length_append, List.length_map, zl0, zm0, zl1, zm1, zl2, zm2, zl3, zm3, zl4, zm4, zl5, zm5, zl6, zm6, zl7, zm7, zl8, zm8, zl9, zm9, zl10, zm10, zl11, zm11, zl12, zm12, zl13, zm13, zl14, zm14, zl15, zm15, zl16, zm16, Nat.zero_add, Nat.reduceAdd, Int.reduceAdd, Int.reduceSub, Int.reduceMul, Int.reduceNeg, Int.reduceEq, Int.reduceLE, Int.reduceLT, Int.reduceToNat, Int.reducePow, decide_true, decide_false, cn0, cn1, cn2, cn3, cn4, cn5, cn6, cn7, cn8, cn9, cn10, cn11, cn12, List.set_cons_zero, List.set_cons_succ, tn0, tn1, tn2, tn3, tn4, tn5, tn6, tn7, tn8, eLn_ap, tLn_ap, lnd_nil, lnd_cons, lend_ow, lend_dc, lend_un, lend_vl, scD_bl, scD_int, scD_non, scD_str, sParL_ap, frz_ap, chL_ap, chK_ap, chLt_ap, chKt_ap, asB_ap, len_ws, rg1_nat hr]) (by rw [List.length_range]; omega) (fun e hm => ?_)
      have hel := List.mem_range.mp hm
      have he := List.getElem?_eq_getElem hel
      generalize ws[e] = w at he
      have ke : m_event_times [wsD ws, tsD ts, .int (0 + (e : Int))] = some (.ro ((evT ws ts e w).map wD)) := by rw [Int.zero_add]; exact event_times_ok hw ht he
      obtain ⟨a, b, i1, i2, m1, m2, m3⟩ := evT_ends hw ht he hc
      have x1 : dIx (wD b) (.int 1) = some (.int b.2) := atI_1
      have hb : decide (b.2 ≤ t) = doneB ws ts t e := doneB_of (by
        rw [decide_eq_true_eq]
        constructor
        · intro h xs h1 h2
          have := (m3 _ ((posL_mem hw ht he).mpr ⟨xs, h1, h2, rfl⟩)).2
          omega
        · intro h
          obtain ⟨xs, h1, h2, h3⟩ := (posL_mem hw ht he).mp m2
          rw [← h3]; exact h xs h1 h2)
      refine ⟨_, rfl, ?_, fun _ => by simp only [wp, vls_nil, vls_cons, uns_zero, uns_succ, gt_zero, gt_succ, st_zero, st_succ, bnd_ap, ret_ap, lift_some, eC_ap, eV_ap, e2_ap, eB_ap, eNot_ap, tNot_ap, tAnd_app, tOr_app, ite_ap, eAnd_ap, eOr_ap, e3_app, eIf_ap, brk_ap, brk'_ap, ite_bl, ite_bo, ite_tb, ite_to, ↓reduceIte, Bool.false_eq_true, Bool.not_true, Bool.not_false, aN_ap, aC_ap, eT_ap, eL_ap, fL_ap, eB1_ap, eIsi_ap, eIsiA_ap, e1n_ap, oS_ap, eSl_ap, eCall_ap, fCall_ap, eCall1_ap, eOx_ap, eDGet_ap, eDSort_ap, iS_ap, iR1_ap, iR2_ap, iE_ap, iZ_ap, gN_ap, gT2, gT3, sSeq_ap, sNext_ap, sExpr_ap, sRet_ap, sRetF_ap, sIf_ap, sAsg_ap, sPar_ap, sParD_ap, sPut_ap, sDPut_ap, sBind_ap, sOwn_ap, sApp_ap, sRetO_ap, eSortSet_ap, sFor_ap, sBag_ap, finB_2, own0_ap, fin0_0, fin1_0, fin0_1, fin1_1, fin0_2, fin1_2, fin0_3, fin1_3, fin0_4, fin1_4, fin0_5, fin1_5, fin0_6, fin1_6, fin0_7, fin1_7, fin0_8, fin1_8, dI0_ap, dAdd_ii, dLen_t, dLen_l, dTuple_l, dTuple_t, dList_l, dList_t, dMax_ii, dMin_ii, dIx_t, dIx_l, atI_0, atI_1, atI_2, atI_3, dSl_t, dSl_l, dSl_s, dNe_ii, dEq_ii, ifz, ifz', Option.map_some, List.length_cons, List.length_nil, List.length_append, List.length_map, zl0, zm0, zl1, zm1, zl2, zm2, zl3, zm3, zl4, zm4, zl5, zm5, zl6, zm6, zl7, zm7, zl8, zm8, zl9, zm9, zl10, zm10, zl11, zm11, zl12, zm12, zl13, zm13, zl14, zm14, zl15, zm15, zl16, zm16, Nat.zero_add, Nat.reduceAdd, Int.reduceAdd, Int.reduceSub, Int.reduceMul, Int.reduceNeg, Int.reduceEq, Int.reduceLE, Int.reduceLT, Int.reduceToNat, Int.reducePow, decide_true, decide_false, cn0, cn1, cn2, cn3, cn4, cn5, cn6, cn7, cn8, cn9, cn10, cn11, cn12, List.set_cons_zero, List.set_cons_succ, tn0, tn1, tn2, tn3, tn4, tn5, tn6, tn7, tn8, eLn_ap, tLn_ap, lnd_nil, lnd_cons, lend_ow, lend_dc, lend_un, lend_vl, scD_bl, scD_int, scD_non, scD_str, sParL_ap, frz_ap, chL_ap, chK_ap, chLt_ap, chKt_ap, asB_ap], rfl⟩
      simp only [wp, vls_nil, vls_cons, uns_zero, uns_succ, gt_zero, gt_succ, st_zero, st_succ, bnd_ap, ret_ap, lift_some, eC_ap, eV_ap, e2_ap, eB_ap, eNot_ap, tNot_ap, tAnd_app, tOr_app, ite_ap, eAnd_ap, eOr_ap, e3_app, eIf_ap, brk_ap, brk'_ap, ite_bl, ite_bo, ite_tb, ite_to, ↓reduceIte, Bool.false_eq_true, Bool.not_true, Bool.not_false, aN_ap, aC_ap, eT_ap, eL_ap, fL_ap, eB1_ap, eIsi_ap, eIsiA_ap, e1n_ap, oS_ap, eSl_ap, eCall_ap, fCall_ap, eCall1_ap, eOx_ap, eDGet_ap, eDSort_ap, iS_ap, iR1_ap, iR2_ap, iE_ap, iZ_ap, gN_ap, gT2, gT3, sSeq_ap, sNext_ap, sExpr_ap, sRet_ap, sRetF_ap, sIf_ap, sAsg_ap, sPar_ap, sParD_ap, sPut_ap, sDPut_ap, sBind_ap, sOwn_ap, sApp_ap, sRetO_ap, eSortSet_ap, sFor_ap, sBag_ap, finB_2, own0_ap, fin0_0, fin1_0, fin0_1, fin1_1, fin0_2, fin1_2, fin0_3, fin1_3, fin0_4, fin1_4, fin0_5, fin1_5, fin0_6, fin1_6, fin0_7, fin1_7, fin0_8, fin1_8, dI0_ap, dAdd_ii, dLen_t, dLen_l, dTuple_l, dTuple_t, dList_l, dList_t, dMax_ii, dMin_ii, dIx_t, dIx_l, atI_0, atI_1, atI_2, atI_3, dSl_t, dSl_l, dSl_s, dNe_ii, dEq_ii, ifz, ifz', Option.map_some, List.length_cons, List.length_nil, List.length_append, List.length_map, zl0, zm0, zl1, zm1, zl2, zm2, zl3, zm3, zl4, zm4, zl5, zm5, zl6, zm6, zl7, zm7, zl8, zm8, zl9, zm9, zl10, zm10, zl11, zm11, zl12, zm12, zl13, zm13, zl14, zm14, zl15, zm15, zl16, zm16, Nat.zero_add, Nat.reduceAdd, Int.reduceAdd, Int.reduceSub, Int.reduceMul, Int.reduceNeg, Int.reduceEq, Int.reduceLE, Int.reduceLT, Int.reduceToNat, Int.reducePow, decide_true, decide_false, cn0, cn1, cn2, cn3, cn4, cn5, cn6, cn7, cn8, cn9, cn10, cn11, cn12, List.set_cons_zero, List.set_cons_succ, tn0, tn1, tn2, tn3, tn4, tn5, tn6, tn7, tn8, eLn_ap, tLn_ap, lnd_nil, lnd_cons, lend_ow, lend_dc, lend_un, lend_vl, scD_bl, scD_int, scD_non, scD_str, sParL_ap, frz_ap, chL_ap, chK_ap, chLt_ap, chKt_ap, asB_ap, ke, i2, x1, hb]
    simp only [vls_nil, vls_cons, uns_zero, uns_succ, gt_zero, gt_succ, st_zero, st_succ, bnd_ap, ret_ap, lift_some, eC_ap, eV_ap, e2_ap, eB_ap, eNot_ap, tNot_ap, tAnd_app, tOr_app, ite_ap, eAnd_ap, eOr_ap, e3_app, eIf_ap, brk_ap, brk'_ap, ite_bl, ite_bo, ite_tb, ite_to, ↓reduceIte, Bool.false_eq_true, Bool.not_true, Bool.not_false, aN_ap, aC_ap, eT_ap, eL_ap, fL_ap, eB1_ap, eIsi_ap, eIsiA_ap, e1n_ap, oS_ap, eSl_ap, eCall_ap, fCall_ap, eCall1_ap, eOx_ap, eDGet_ap, eDSort_ap, iS_ap, iR1_ap, iR2_ap, iE_ap, iZ_ap, gN_ap, gT2, gT3, sSeq_ap, sNext_ap, sExpr_ap, sRet_ap, sRetF_ap, sIf_ap, sAsg_ap, sPar_ap, sParD_ap, sPut_ap, sDPut_ap, sBind_ap, sOwn_ap, sApp_ap, sRetO_ap, eSortSet_ap, sFor_ap, sBag_ap, finB_2, own0_ap, fin0_0, fin1_0, fin0_1, fin1_1, fin0_2, fin1_2, fin0_3, fin1_3, fin0_4, fin1_4, fin0_5, fin1_5, fin0_6, fin1_6, fin0_7, fin1_7, fin0_8, fin1_8, dI0_ap, dAdd_ii, dLen_t, dLen_l, dTuple_l, dTuple_t, dList_l, dList_t, dMax_ii, dMin_ii, dIx_t, dIx_l, atI_0, atI_1, atI_2, atI_3, dSl_t, dSl_l, dSl_s, dNe_ii, dEq_ii, ifz, ifz', Option.map_some, List.length_cons, List.length_nil, List.length_append, List.length_map, zl0, zm0, zl1, zm1, zl2, zm2, zl3, zm3, zl4, zm4, zl5, zm5, zl6, zm6, zl7, zm7, zl8, zm8, zl9, zm9, zl10, zm10, zl11, zm11, zl12, zm12, zl13, zm13, zl14, zm14, zl15, zm15, zl16, zm16, Nat.zero_add, Nat.reduceAdd, Int.reduceAdd, Int.reduceSub, Int.reduceMul, Int.reduceNeg, Int.reduceEq, Int.reduceLE, Int.reduceLT, Int.reduceToNat, Int.reducePow, decide_true, decide_false, cn0, cn1, cn2, cn3, cn4, cn5, cn6, cn7, cn8, cn9, cn10, cn11, cn12, List.set_cons_zero, List.set_cons_succ, tn0, tn1, tn2, tn3, tn4, tn5, tn6, tn7, tn8, eLn_ap, tLn_ap, lnd_nil, lnd_cons, lend_ow, lend_dc, lend_un, lend_vl, scD_bl, scD_int, scD_non, scD_str, sParL_ap, frz_ap, chL_ap, chK_ap, chLt_ap, chKt_ap, asB_ap, check_both_ok hw ht, check_time_ok t0 t1, k, e4, ec, Option.isNone_none]
theorem law2_ok {ws : List Win} {ts : List Tal} (hw : WsOk ws) (ht : TsOk ws.length ts) (hl : ws.length ≤ 4) (hs : ∀ w ∈ ws, w.2 ≤ 6) (hc : (conf ws ts).isNone = true) {e : Nat} (hel : e < ws.length) {t : Int} {acc : List Nat} (ha : acc.length ≤ 1000) {c0 c1 c2 : C} :
    L_law_2 [c0, c1, c2, .vl (wsD ws), .vl (tsD ts), .vl (.lst ((keptAll ws ts).map xsD)), .vl (.int (0 + (e : Int))), .ow false (iD acc), .vl (.int t), .un] = some (.nx [c0, c1, c2, .vl (wsD ws), .vl (tsD ts), .vl (.lst ((keptAll ws ts).map xsD)), .vl (.int (0 + (e : Int))), .ow false (iD (acc ++ if doneB ws ts t e = true then [e] else [])), .vl (.int t), .un]) := by
  have kl := keptAll_len (ws := ws) (ts := ts) hl (fun w hm => by obtain ⟨a1, a2, a3⟩ := hw.ok w hm; have := hs w hm; omega)
  have ec : C_law_2 [c0, c1, c2, .vl (wsD ws), .vl (tsD ts), .vl (.lst ((keptAll ws ts).map xsD)), .vl (.int (0 + (e : Int))), .ow false (iD acc), .vl (.int t), .un] = some (.ok (.lst ((keptAll ws ts).map fun xs => D.int (atX xs e))) [c0, c1, c2, .vl (wsD ws), .vl (tsD ts), .vl (.lst ((keptAll ws ts).map xsD)), .vl (.int (0 + (e : Int))), .ow false (iD acc), .vl (.int t), .un]) :=
    lcE_mapS (enc := xsD) (fun xs => D.int (atX xs e)) rfl (by omega) (fun xs hx => by
      have hxl := Paired.len' (mem_keptAll.mp hx).1
      refine ⟨_, rfl, ?_, rfl⟩
      simp only [wp, vls_nil, vls_cons, uns_zero, uns_succ, gt_zero, gt_succ, st_zero, st_succ, bnd_ap, ret_ap, lift_some, eC_ap, eV_ap, e2_ap, eB_ap, eNot_ap, tNot_ap, tAnd_app, tOr_app, ite_ap, eAnd_ap, eOr_ap, e3_app, eIf_ap, brk_ap, brk'_ap, ite_bl, ite_bo, ite_tb, ite_to, ↓reduceIte, Bool.false_eq_true, Bool.not_true, Bool.not_false, aN_ap, aC_ap, eT_ap, eL_ap, fL_ap, eB1_ap, eIsi_ap, eIsiA_ap, e1n_ap, oS_ap, eSl_ap, eCall_ap, fCall_ap, eCall1_ap, eOx_ap, eDGet_ap, eDSort_ap, iS_ap, iR1_ap, iR2_ap, iE_ap, iZ_ap, gN_ap, gT2, gT3, sSeq_ap, sNext_ap, sExpr_ap, sRet_ap, sRetF_ap, sIf_ap, sAsg_ap, sPar_ap, sParD_ap, sPut_ap, sDPut_ap, sBind_ap, sOwn_ap, sApp_ap, sRetO_ap, eSortSet_ap, sFor_ap, sBag_ap, finB_2, own0_ap, fin0_0, fin1_0, fin0_1, fin1_1, fin0_2, fin1_2, fin0_3, fin1_3, fin0_4, fin1_4, fin0_5, fin1_5, fin0_6, fin1_6, fin0_7, fin1_7, fin0_8, fin1_8, dI0_ap, dAdd_ii, dLen_t, dLen_l, dTuple_l, dTuple_t, dList_l, dList_t, dMax_ii, dMin_ii, dIx_t, dIx_l, atI_0, atI_1, atI_2, atI_3, dSl_t, dSl_l, dSl_s, dNe_ii, dEq_ii, ifz, ifz', Option.map_some, List.length_cons, List.length_nil, List.length_append, List.length_map, zl0, zm0, zl1, zm1, zl2, zm2, zl3, zm3, zl4, zm4, zl5, zm5, zl6, zm6, zl7, zm7, zl8, zm8, zl9, zm9, zl10, zm10, zl11, zm11, zl12, zm12, zl13, zm13, zl14, zm14, zl15, zm15, zl16, zm16, Nat.zero_add, Nat.reduceAdd, Int.reduceAdd, Int.reduceSub, Int.reduceMul, Int.reduceNeg, Int.reduceEq, Int.reduceLE, Int.reduceLT, Int.reduceToNat, Int.reducePow, decide_true, decide_false, cn0, cn1, cn2, cn3, cn4, cn5, cn6, cn7, cn8, cn9, cn10, cn11, cn12, List.set_cons_zero, List.set_cons_succ, tn0, tn1, tn2, tn3, tn4, tn5, tn6, tn7, tn8, eLn_ap, tLn_ap, lnd_nil, lnd_cons, lend_ow, lend_dc, lend_un, lend_vl, scD_bl, scD_int, scD_non, scD_str, sParL_ap, frz_ap, chL_ap, chK_ap, chLt_ap, chKt_ap, asB_ap, xs_at0 (xs := xs) (i := e) (by omega)]) rfl
  have hne : keptAll ws ts ≠ [] := fun z => by
    have := same_all hw ht
    rw [hc, z] at this; cases this
  obtain ⟨m, e1, ⟨x, hx, hm⟩, h2⟩ := dMax_map (fun xs => atX xs e) (keptAll ws ts) hne
  have hb : decide (m ≤ t) = doneB ws ts t e := doneB_of (by
    rw [decide_eq_true_eq]
    constructor
    · intro h xs h1 h3
      have := h2 xs (mem_keptAll.mpr ⟨h1, h3⟩)
      omega
    · intro h
      have := mem_keptAll.mp hx
      rw [← hm]; exact h x this.1 this.2)
  unfold L_law_2
  cases q : doneB ws ts t e with
  | true =>
    rw [q] at hb
    have happ : iD (acc ++ [e]) = iD acc ++ [.int (0 + (e : Int))] := by unfold iD; rw [List.map_append]; rfl
    have hz : (iD acc).length < 16777216 := by unfold iD; rw [List.length_map]; omega
    rw [if_pos rfl, happ]
    simp only [vls_nil, vls_cons, uns_zero, uns_succ, gt_zero, gt_succ, st_zero, st_succ, bnd_ap, ret_ap, lift_some, eC_ap, eV_ap, e2_ap, eB_ap, eNot_ap, tNot_ap, tAnd_app, tOr_app, ite_ap, eAnd_ap, eOr_ap, e3_app, eIf_ap, brk_ap, brk'_ap, ite_bl, ite_bo, ite_tb, ite_to, ↓reduceIte, Bool.false_eq_true, Bool.not_true, Bool.not_false, aN_ap, aC_ap, eT_ap, eL_ap, fL_ap, eB1_ap, eIsi_ap, eIsiA_ap, e1n_ap, oS_ap, eSl_ap, eCall_ap, fCall_ap, eCall1_ap, eOx_ap, eDGet_ap, eDSort_ap, iS_ap, iR1_ap, iR2_ap, iE_ap, iZ_ap, gN_ap, gT2, gT3, sSeq_ap, sNext_ap, sExpr_ap, sRet_ap, sRetF_ap, sIf_ap, sAsg_ap, sPar_ap, sParD_ap, sPut_ap, sDPut_ap, sBind_ap, sOwn_ap, sApp_ap, sRetO_ap, eSortSet_ap, sFor_ap, sBag_ap, finB_2, own0_ap, fin0_0, fin1_0, fin0_1, fin1_1, fin0_2, fin1_2, fin0_3, fin1_3, fin0_4, fin1_4, fin0_5, fin1_5, fin0_6, fin1_6, fin0_7, fin1_7, fin0_8, fin1_8, dI0_ap, dAdd_ii, dLen_t, dLen_l, dTuple_l, dTuple_t, dList_l, dList_t, dMax_ii, dMin_ii, dIx_t, dIx_l, atI_0, atI_1, atI_2, atI_3, dSl_t, dSl_l, dSl_s, dNe_ii, dEq_ii, ifz, ifz', Option.map_some, List.length_cons, List.length_nil, List.length_append, List.length_map, zl0, zm0, zl1, zm1, zl2, zm2, zl3, zm3, zl4, zm4, zl5, zm5, zl6, zm6, zl7, zm7, zl8, zm8, zl9, zm9, zl10, zm10, zl11, zm11, zl12, zm12, zl13, zm13, zl14, zm14, zl15, zm15, zl16, zm16, Nat.zero_add, Nat.reduceAdd, Int.reduceAdd, Int.reduceSub, Int.reduceMul, Int.reduceNeg, Int.reduceEq, Int.reduceLE, Int.reduceLT, Int.reduceToNat, Int.reducePow, decide_true, decide_false, cn0, cn1, cn2, cn3, cn4, cn5, cn6, cn7, cn8, cn9, cn10, cn11, cn12, List.set_cons_zero, List.set_cons_succ, tn0, tn1, tn2, tn3, tn4, tn5, tn6, tn7, tn8, eLn_ap, tLn_ap, lnd_nil, lnd_cons, lend_ow, lend_dc, lend_un, lend_vl, scD_bl, scD_int, scD_non, scD_str, sParL_ap, frz_ap, chL_ap, chK_ap, chLt_ap, chKt_ap, asB_ap, ec, e1, hb, ifz' hz]
  | false =>
    rw [q] at hb
    simp only [vls_nil, vls_cons, uns_zero, uns_succ, gt_zero, gt_succ, st_zero, st_succ, bnd_ap, ret_ap, lift_some, eC_ap, eV_ap, e2_ap, eB_ap, eNot_ap, tNot_ap, tAnd_app, tOr_app, ite_ap, eAnd_ap, eOr_ap, e3_app, eIf_ap, brk_ap, brk'_ap, ite_bl, ite_bo, ite_tb, ite_to, ↓reduceIte, Bool.false_eq_true, Bool.not_true, Bool.not_false, aN_ap, aC_ap, eT_ap, eL_ap, fL_ap, eB1_ap, eIsi_ap, eIsiA_ap, e1n_ap, oS_ap, eSl_ap, eCall_ap, fCall_ap, eCall1_ap, eOx_ap, eDGet_ap, eDSort_ap, iS_ap, iR1_ap, iR2_ap, iE_ap, iZ_ap, gN_ap, gT2, gT3, sSeq_ap, sNext_ap, sExpr_ap, sRet_ap, sRetF_ap, sIf_ap, sAsg_ap, sPar_ap, sParD_ap, sPut_ap, sDPut_ap, sBind_ap, sOwn_ap, sApp_ap, sRetO_ap, eSortSet_ap, sFor_ap, sBag_ap, finB_2, own0_ap, fin0_0, fin1_0, fin0_1, fin1_1, fin0_2, fin1_2, fin0_3, fin1_3, fin0_4, fin1_4, fin0_5, fin1_5, fin0_6, fin1_6, fin0_7, fin1_7, fin0_8, fin1_8, dI0_ap, dAdd_ii, dLen_t, dLen_l, dTuple_l, dTuple_t, dList_l, dList_t, dMax_ii, dMin_ii, dIx_t, dIx_l, atI_0, atI_1, atI_2, atI_3, dSl_t, dSl_l, dSl_s, dNe_ii, dEq_ii, ifz, ifz', Option.map_some, List.length_cons, List.length_nil, List.length_append, List.length_map, zl0, zm0, zl1, zm1, zl2, zm2, zl3, zm3, zl4, zm4, zl5, zm5, zl6, zm6, zl7, zm7, zl8, zm8, zl9, zm9, zl10, zm10, zl11, zm11, zl12, zm12, zl13, zm13, zl14, zm14, zl15, zm15, zl16, zm16, Nat.zero_add, Nat.reduceAdd, Int.reduceAdd, Int.reduceSub, Int.reduceMul, Int.reduceNeg, Int.reduceEq, Int.reduceLE, Int.reduceLT, Int.reduceToNat, Int.reducePow, decide_true, decide_false, cn0, cn1, cn2, cn3, cn4, cn5, cn6, cn7, cn8, cn9, cn10, cn11, cn12, List.set_cons_zero, List.set_cons_succ, tn0, tn1, tn2, tn3, tn4, tn5, tn6, tn7, tn8, eLn_ap, tLn_ap, lnd_nil, lnd_cons, lend_ow, lend_dc, lend_un, lend_vl, scD_bl, scD_int, scD_non, scD_str, sParL_ap, frz_ap, chL_ap, chK_ap, chLt_ap, chKt_ap, asB_ap, ec, e1, hb, List.append_nil]
theorem filter_flat {α : Type} (p : α → Bool) : ∀ l : List α, l.filter p = l.flatMap fun x => if p x = true then [x] else []
  | [] => rfl
  | x :: r => by
    rw [List.flatMap_cons, ← filter_flat p r, List.filter_cons]
    split <;> rfl
theorem short_iD (l : List Nat) (h : l.length ≤ 1000000) : Short 3 (.lst (iD l)) := by
  refine ⟨by unfold iD; rw [List.length_map]; exact h, fun d hd => ?_⟩
  unfold iD at hd
  obtain ⟨i, _, rfl⟩ := List.mem_map.mp hd
  trivial
theorem doneL_len (ws : List Win) (ts : List Tal) (t : Int) : (doneL ws ts t).length ≤ ws.length := by
  unfold doneL
  exact Nat.le_trans (List.length_filter_le _ _) (by rw [List.length_range]; exact Nat.le_refl _)
theorem law3_ok {ws : List Win} {ts : List Tal} (hw : WsOk ws) (ht : TsOk ws.length ts) (hl : ws.length ≤ 4) (hs : ∀ w ∈ ws, w.2 ≤ 6) {t : Int} (t0 : 0 ≤ t) (t1 : t ≤ 1000) {c0 c1 c2 c6 c7 : C} :
    ∃ d6 d7, L_law_3 [c0, c1, c2, .vl (wsD ws), .vl (tsD ts), .vl (.lst ((keptAll ws ts).map xsD)), c6, c7, .vl (.int t), .un] = some (.nx [c0, c1, c2, .vl (wsD ws), .vl (tsD ts), .vl (.lst ((keptAll ws ts).map xsD)), d6, d7, .vl (.int t), .un]) := by
  have e0 := (dEq_empty xsD (fun x d hd => by obtain ⟨i, _, rfl⟩ := List.mem_map.mp hd; trivial) (keptAll ws ts)).2
  have hsame := same_all hw ht
  have kd := surely_done_ok hw ht t0 t1
  unfold L_law_3
  cases q : (conf ws ts).isNone with
  | false =>
    rw [q] at hsame kd
    have hq : (!(keptAll ws ts).isEmpty) = false := hsame.symm
    rw [hq] at e0
    rw [if_neg Bool.false_ne_true] at kd
    have ks := law_same_refl 3 .non trivial
    refine ⟨c6, .vl .non, ?_⟩
    simp only [vls_nil, vls_cons, uns_zero, uns_succ, gt_zero, gt_succ, st_zero, st_succ, bnd_ap, ret_ap, lift_some, eC_ap, eV_ap, e2_ap, eB_ap, eNot_ap, tNot_ap, tAnd_app, tOr_app, ite_ap, eAnd_ap, eOr_ap, e3_app, eIf_ap, brk_ap, brk'_ap, ite_bl, ite_bo, ite_tb, ite_to, ↓reduceIte, Bool.false_eq_true, Bool.not_true, Bool.not_false, aN_ap, aC_ap, eT_ap, eL_ap, fL_ap, eB1_ap, eIsi_ap, eIsiA_ap, e1n_ap, oS_ap, eSl_ap, eCall_ap, fCall_ap, eCall1_ap, eOx_ap, eDGet_ap, eDSort_ap, iS_ap, iR1_ap, iR2_ap, iE_ap, iZ_ap, gN_ap, gT2, gT3, sSeq_ap, sNext_ap, sExpr_ap, sRet_ap, sRetF_ap, sIf_ap, sAsg_ap, sPar_ap, sParD_ap, sPut_ap, sDPut_ap, sBind_ap, sOwn_ap, sApp_ap, sRetO_ap, eSortSet_ap, sFor_ap, sBag_ap, finB_2, own0_ap, fin0_0, fin1_0, fin0_1, fin1_1, fin0_2, fin1_2, fin0_3, fin1_3, fin0_4, fin1_4, fin0_5, fin1_5, fin0_6, fin1_6, fin0_7, fin1_7, fin0_8, fin1_8, dI0_ap, dAdd_ii, dLen_t, dLen_l, dTuple_l, dTuple_t, dList_l, dList_t, dMax_ii, dMin_ii, dIx_t, dIx_l, atI_0, atI_1, atI_2, atI_3, dSl_t, dSl_l, dSl_s, dNe_ii, dEq_ii, ifz, ifz', Option.map_some, List.length_cons, List.length_nil, List.length_append, List.length_map, zl0, zm0, zl1, zm1, zl2, zm2, zl3, zm3, zl4, zm4, zl5, zm5, zl6, zm6, zl7, zm7, zl8, zm8, zl9, zm9, zl10, zm10, zl11, zm11, zl12, zm12, zl13, zm13, zl14, zm14, zl15, zm15, zl16, zm16, Nat.zero_add, Nat.reduceAdd, Int.reduceAdd, Int.reduceSub, Int.reduceMul, Int.reduceNeg, Int.reduceEq, Int.reduceLE, Int.reduceLT, Int.reduceToNat, Int.reducePow, decide_true, decide_false, cn0, cn1, cn2, cn3, cn4, cn5, cn6, cn7, cn8, cn9, cn10, cn11, cn12, List.set_cons_zero, List.set_cons_succ, tn0, tn1, tn2, tn3, tn4, tn5, tn6, tn7, tn8, eLn_ap, tLn_ap, lnd_nil, lnd_cons, lend_ow, lend_dc, lend_un, lend_vl, scD_bl, scD_int, scD_non, scD_str, sParL_ap, frz_ap, chL_ap, chK_ap, chLt_ap, chKt_ap, asB_ap, e0, kd, ks]
  | true =>
    rw [q] at hsame kd
    have hq : (!(keptAll ws ts).isEmpty) = true := hsame.symm
    rw [hq] at e0
    rw [if_pos rfl] at kd
    have ks := law_same_refl 3 _ (short_iD (doneL ws ts t) (by have := doneL_len ws ts t; omega))
    obtain ⟨S', e, _, c6', rfl⟩ := forGo_run (enc := fun k : Nat => D.int (0 + (k : Int))) (g := gN 6) (body := L_law_2) (fun (a : List Nat) i => a ++ if doneB ws ts t i = true then [i] else [])
      (fun r a S => a.length + r.length ≤ ws.length ∧ ∃ c6, S = [c0, c1, c2, .vl (wsD ws), .vl (tsD ts), .vl (.lst ((keptAll ws ts).map xsD)), c6, .ow false (iD a), .vl (.int t), .un]) (List.range ws.length) [] [c0, c1, c2, .vl (wsD ws), .vl (tsD ts), .vl (.lst ((keptAll ws ts).map xsD)), c6, .ow false (iD []), .vl (.int t), .un]
      ⟨by rw [List.length_range, List.length_nil]; omega, _, rfl⟩ (by
        rintro x r a S hx ⟨hz, c6, rfl⟩
        rw [List.length_cons] at hz
        refine ⟨_, rfl, _, .inl (law2_ok hw ht hl hs q (List.mem_range.mp hx) (by omega)), ?_, _, rfl⟩
        rw [List.length_append]
        split <;> simp only [List.length_cons, List.length_nil] <;> omega)
    have ed : (List.range ws.length).foldl (fun (a : List Nat) i => a ++ if doneB ws ts t i = true then [i] else []) [] = doneL ws ts t := by
      unfold doneL
      rw [foldl_app, List.nil_append]
      exact (filter_flat _ _).symm
    rw [ed] at e
    have e' : forGo (gN 6) L_law_2 ((List.range ws.length).map fun k : Nat => D.int (0 + (k : Int))) [c0, c1, c2, .vl (wsD ws), .vl (tsD ts), .vl (.lst ((keptAll ws ts).map xsD)), c6, .ow false [], .vl (.int t), .un] = _ := e
    have hr : ws.length ≤ 1000000000 := by omega
    refine ⟨c6', .ow false (iD (doneL ws ts t)), ?_⟩
    simp only [vls_nil, vls_cons, uns_zero, uns_succ, gt_zero, gt_succ, st_zero, st_succ, bnd_ap, ret_ap, lift_some, eC_ap, eV_ap, e2_ap, eB_ap, eNot_ap, tNot_ap, tAnd_app, tOr_app, ite_ap, eAnd_ap, eOr_ap, e3_app, eIf_ap, brk_ap, brk'_ap, ite_bl, ite_bo, ite_tb, ite_to, ↓reduceIte, Bool.false_eq_true, Bool.not_true, Bool.not_false, aN_ap, aC_ap, eT_ap, eL_ap, fL_ap, eB1_ap, eIsi_ap, eIsiA_ap, e1n_ap, oS_ap, eSl_ap, eCall_ap, fCall_ap, eCall1_ap, eOx_ap, eDGet_ap, eDSort_ap, iS_ap, iR1_ap, iR2_ap, iE_ap, iZ_ap, gN_ap, gT2, gT3, sSeq_ap, sNext_ap, sExpr_ap, sRet_ap, sRetF_ap, sIf_ap, sAsg_ap, sPar_ap, sParD_ap, sPut_ap, sDPut_ap, sBind_ap, sOwn_ap, sApp_ap, sRetO_ap, eSortSet_ap, sFor_ap, sBag_ap, finB_2, own0_ap, fin0_0, fin1_0, fin0_1, fin1_1, fin0_2, fin1_2, fin0_3, fin1_3, fin0_4, fin1_4, fin0_5, fin1_5, fin0_6, fin1_6, fin0_7, fin1_7, fin0_8, fin1_8, dI0_ap, dAdd_ii, dLen_t, dLen_l, dTuple_l, dTuple_t, dList_l, dList_t, dMax_ii, dMin_ii, dIx_t, dIx_l, atI_0, atI_1, atI_2, atI_3, dSl_t, dSl_l, dSl_s, dNe_ii, dEq_ii, ifz, ifz', Option.map_some, List.length_cons, List.length_nil, List.length_append, List.length_map, zl0, zm0, zl1, zm1, zl2, zm2, zl3, zm3, zl4, zm4, zl5, zm5, zl6, zm6, zl7, zm7, zl8, zm8, zl9, zm9, zl10, zm10, zl11, zm11, zl12, zm12, zl13, zm13, zl14, zm14, zl15, zm15, zl16, zm16, Nat.zero_add, Nat.reduceAdd, Int.reduceAdd, Int.reduceSub, Int.reduceMul, Int.reduceNeg, Int.reduceEq, Int.reduceLE, Int.reduceLT, Int.reduceToNat, Int.reducePow, decide_true, decide_false, cn0, cn1, cn2, cn3, cn4, cn5, cn6, cn7, cn8, cn9, cn10, cn11, cn12, List.set_cons_zero, List.set_cons_succ, tn0, tn1, tn2, tn3, tn4, tn5, tn6, tn7, tn8, eLn_ap, tLn_ap, lnd_nil, lnd_cons, lend_ow, lend_dc, lend_un, lend_vl, scD_bl, scD_int, scD_non, scD_str, sParL_ap, frz_ap, chL_ap, chK_ap, chLt_ap, chKt_ap, asB_ap, e0, len_ws, rg1_nat hr, e', kd, ks]
theorem law4_ok {k : Nat} {l : List D} {c0 c2 c3 c4 c5 c6 c7 c8 : C} (hb : Bag (k + 200) l) : ∃ l' d3 d4 d5 d6 d7 d8, L_law_4 [c0, .ow false l, c2, c3, c4, c5, c6, c7, c8, .un] = some (.nx [c0, .ow false l', c2, d3, d4, d5, d6, d7, d8, .un]) ∧ Bag k l' := by
  obtain ⟨ws, b1, e1, hb1, hl, hw⟩ := law_windows_ok (k := k + 170) (most := 4) (end_ := 6) (hb.le (by omega)) (by omega) (by omega) (by omega)
  have hws : WsOk ws := ⟨by omega, fun w hm => by obtain ⟨a1, a2, a3⟩ := hw w hm; exact ⟨a1, a2, by omega⟩⟩
  obtain ⟨y, b2, e2, y0, y1, hb2⟩ := take_ok (k := k + 160) (m := 2) (hb1.le (by omega)) (by omega) (by omega)
  obtain ⟨ts, b3, xs, e3, hb3, hts, -, -, -⟩ := law_tallies_ok (k := k + 100) (end_ := 6) (way := y) hb2 hws (by omega) (by omega)
  have hlt := hts.len
  have ka := law_all_ok (ws := ws) (ts := ts) (by omega) (fun w hm => by obtain ⟨a1, a2, a3⟩ := hw w hm; exact ⟨a1, a2, by omega, by omega⟩) (by omega)
  have e1' : m__law_windows l [.int 4, .int 6] = some (wsD ws, b1) := e1
  have g1 := forGo_mem (enc := fun k : Nat => D.int (0 + (k : Int))) (g := gN 6) (body := L_law_1) (fun r S => True ∧ ∃ c6 c7, S = [c0, .ow false b3, c2, .vl (wsD ws), .vl (tsD ts), .vl (.lst ((keptAll ws ts).map xsD)), c6, c7, c8, .un])
    (List.range ws.length) [c0, .ow false b3, c2, .vl (wsD ws), .vl (tsD ts), .vl (.lst ((keptAll ws ts).map xsD)), c6, c7, c8, .un] ⟨trivial, _, _, rfl⟩ (by
      rintro x r S hx _ ⟨_, c6, c7, rfl⟩
      obtain ⟨d7, e⟩ := law1_ok hws hts hl (fun w hm => (hw w hm).2.2) (List.mem_range.mp hx) (c0 := c0) (c1 := .ow false b3) (c2 := c2) (c7 := c7) (c8 := c8)
      exact ⟨_, rfl, _, .inl e, trivial, _, _, rfl⟩)
  obtain ⟨S1, ee1, _, d6, d7, rfl⟩ := g1
  have g2 := forGo_mem (enc := fun k : Nat => D.int (0 + (k : Int))) (g := gN 8) (body := L_law_3) (fun r S => True ∧ ∃ c6 c7 c8, S = [c0, .ow false b3, c2, .vl (wsD ws), .vl (tsD ts), .vl (.lst ((keptAll ws ts).map xsD)), c6, c7, c8, .un])
    (List.range 7) [c0, .ow false b3, c2, .vl (wsD ws), .vl (tsD ts), .vl (.lst ((keptAll ws ts).map xsD)), d6, d7, c8, .un] ⟨trivial, _, _, _, rfl⟩ (by
      rintro x r S hx _ ⟨_, c6, c7, c8, rfl⟩
      have := List.mem_range.mp hx
      obtain ⟨d6, d7, e⟩ := law3_ok hws hts hl (fun w hm => (hw w hm).2.2) (t := 0 + (x : Int)) (by omega) (by omega) (c0 := c0) (c1 := .ow false b3) (c2 := c2) (c6 := c6) (c7 := c7)
      exact ⟨_, rfl, _, .inl e, trivial, _, _, _, rfl⟩)
  obtain ⟨S2, ee2, _, f6, f7, f8, rfl⟩ := g2
  have hr : ∀ (n : Nat) (S : List C), n ≤ 1000 → iR1 (aC (eC (.int n)) aN) S = some (.ok ((List.range n).map fun k : Nat => D.int (0 + (k : Int))) S) := fun n S hn => by
    have : rg1 (n : Int) S = some (.ok ((List.range n).map fun k : Nat => D.int (0 + (k : Int))) S) := rg1_nat (by omega)
    simp only [vls_nil, vls_cons, uns_zero, uns_succ, gt_zero, gt_succ, st_zero, st_succ, bnd_ap, ret_ap, lift_some, eC_ap, eV_ap, e2_ap, eB_ap, eNot_ap, tNot_ap, tAnd_app, tOr_app, ite_ap, eAnd_ap, eOr_ap, e3_app, eIf_ap, brk_ap, brk'_ap, ite_bl, ite_bo, ite_tb, ite_to, ↓reduceIte, Bool.false_eq_true, Bool.not_true, Bool.not_false, aN_ap, aC_ap, eT_ap, eL_ap, fL_ap, eB1_ap, eIsi_ap, eIsiA_ap, e1n_ap, oS_ap, eSl_ap, eCall_ap, fCall_ap, eCall1_ap, eOx_ap, eDGet_ap, eDSort_ap, iS_ap, iR1_ap, iR2_ap, iE_ap, iZ_ap, gN_ap, gT2, gT3, sSeq_ap, sNext_ap, sExpr_ap, sRet_ap, sRetF_ap, sIf_ap, sAsg_ap, sPar_ap, sParD_ap, sPut_ap, sDPut_ap, sBind_ap, sOwn_ap, sApp_ap, sRetO_ap, eSortSet_ap, sFor_ap, sBag_ap, finB_2, own0_ap, fin0_0, fin1_0, fin0_1, fin1_1, fin0_2, fin1_2, fin0_3, fin1_3, fin0_4, fin1_4, fin0_5, fin1_5, fin0_6, fin1_6, fin0_7, fin1_7, fin0_8, fin1_8, dI0_ap, dAdd_ii, dLen_t, dLen_l, dTuple_l, dTuple_t, dList_l, dList_t, dMax_ii, dMin_ii, dIx_t, dIx_l, atI_0, atI_1, atI_2, atI_3, dSl_t, dSl_l, dSl_s, dNe_ii, dEq_ii, ifz, ifz', Option.map_some, List.length_cons, List.length_nil, List.length_append, List.length_map, zl0, zm0, zl1, zm1, zl2, zm2, zl3, zm3, zl4, zm4, zl5, zm5, zl6, zm6, zl7, zm7, zl8, zm8, zl9, zm9, zl10, zm10, zl11, zm11, zl12, zm12, zl13, zm13, zl14, zm14, zl15, zm15, zl16, zm16, Nat.zero_add, Nat.reduceAdd, Int.reduceAdd, Int.reduceSub, Int.reduceMul, Int.reduceNeg, Int.reduceEq, Int.reduceLE, Int.reduceLT, Int.reduceToNat, Int.reducePow, decide_true, decide_false, cn0, cn1, cn2, cn3, cn4, cn5, cn6, cn7, cn8, cn9, cn10, cn11, cn12, List.set_cons_zero, List.set_cons_succ, tn0, tn1, tn2, tn3, tn4, tn5, tn6, tn7, tn8, eLn_ap, tLn_ap, lnd_nil, lnd_cons, lend_ow, lend_dc, lend_un, lend_vl, scD_bl, scD_int, scD_non, scD_str, sParL_ap, frz_ap, chL_ap, chK_ap, chLt_ap, chKt_ap, asB_ap, this]
  have hr2 : ws.length ≤ 1000000000 := by omega
  refine ⟨b3, .vl (wsD ws), .vl (tsD ts), .vl (.lst ((keptAll ws ts).map xsD)), f6, f7, f8, ?_, hb3.le (by omega)⟩
  unfold L_law_4
  refine (sSeq_nx (S' := [c0, .ow false b1, c2, .vl (wsD ws), c4, c5, c6, c7, c8, .un]) (by simp only [vls_nil, vls_cons, uns_zero, uns_succ, gt_zero, gt_succ, st_zero, st_succ, bnd_ap, ret_ap, lift_some, eC_ap, eV_ap, e2_ap, eB_ap, eNot_ap, tNot_ap, tAnd_app, tOr_app, ite_ap, eAnd_ap, eOr_ap, e3_app, eIf_ap, brk_ap, brk'_ap, ite_bl, ite_bo, ite_tb, ite_to, ↓reduceIte, Bool.false_eq_true, Bool.not_true, Bool.not_false, aN_ap, aC_ap, eT_ap, eL_ap, fL_ap, eB1_ap, eIsi_ap, eIsiA_ap, e1n_ap, oS_ap, eSl_ap, eCall_ap, fCall_ap, eCall1_ap, eOx_ap, eDGet_ap, eDSort_ap, iS_ap, iR1_ap, iR2_ap, iE_ap, iZ_ap, gN_ap, gT2, gT3, sSeq_ap, sNext_ap, sExpr_ap, sRet_ap, sRetF_ap, sIf_ap, sAsg_ap, sPar_ap, sParD_ap, sPut_ap, sDPut_ap, sBind_ap, sOwn_ap, sApp_ap, sRetO_ap, eSortSet_ap, sFor_ap, sBag_ap, finB_2, own0_ap, fin0_0, fin1_0, fin0_1, fin1_1, fin0_2, fin1_2, fin0_3, fin1_3, fin0_4, fin1_4, fin0_5, fin1_5, fin0_6, fin1_6, fin0_7, fin1_7, fin0_8, fin1_8, dI0_ap, dAdd_ii, dLen_t, dLen_l, dTuple_l, dTuple_t, dList_l, dList_t, dMax_ii, dMin_ii, dIx_t, dIx_l, atI_0, atI_1, atI_2, atI_3, dSl_t, dSl_l, dSl_s, dNe_ii, dEq_ii, ifz, ifz', Option.map_some, List.length_cons, List.length_nil, List.length_append, List.length_map, zl0, zm0, zl1, zm1, zl2, zm2, zl3, zm3, zl4, zm4, zl5, zm5, zl6, zm6, zl7, zm7, zl8, zm8, zl9, zm9, zl10, zm10, zl11, zm11, zl12, zm12, zl13, zm13, zl14, zm14, zl15, zm15, zl16, zm16, Nat.zero_add, Nat.reduceAdd, Int.reduceAdd, Int.reduceSub, Int.reduceMul, Int.reduceNeg, Int.reduceEq, Int.reduceLE, Int.reduceLT, Int.reduceToNat, Int.reducePow, decide_true, decide_false, cn0, cn1, cn2, cn3, cn4, cn5, cn6, cn7, cn8, cn9, cn10, cn11, cn12, List.set_cons_zero, List.set_cons_succ, tn0, tn1, tn2, tn3, tn4, tn5, tn6, tn7, tn8, eLn_ap, tLn_ap, lnd_nil, lnd_cons, lend_ow, lend_dc, lend_un, lend_vl, scD_bl, scD_int, scD_non, scD_str, sParL_ap, frz_ap, chL_ap, chK_ap, chLt_ap, chKt_ap, asB_ap, e1'])).trans ?_
  refine (sSeq_nx (S' := [c0, .ow false b3, c2, .vl (wsD ws), .vl (tsD ts), c5, c6, c7, c8, .un]) (by simp only [vls_nil, vls_cons, uns_zero, uns_succ, gt_zero, gt_succ, st_zero, st_succ, bnd_ap, ret_ap, lift_some, eC_ap, eV_ap, e2_ap, eB_ap, eNot_ap, tNot_ap, tAnd_app, tOr_app, ite_ap, eAnd_ap, eOr_ap, e3_app, eIf_ap, brk_ap, brk'_ap, ite_bl, ite_bo, ite_tb, ite_to, ↓reduceIte, Bool.false_eq_true, Bool.not_true, Bool.not_false, aN_ap, aC_ap, eT_ap, eL_ap, fL_ap, eB1_ap, eIsi_ap, eIsiA_ap, e1n_ap, oS_ap, eSl_ap, eCall_ap, fCall_ap, eCall1_ap, eOx_ap, eDGet_ap, eDSort_ap, iS_ap, iR1_ap, iR2_ap, iE_ap, iZ_ap, gN_ap, gT2, gT3, sSeq_ap, sNext_ap, sExpr_ap, sRet_ap, sRetF_ap, sIf_ap, sAsg_ap, sPar_ap, sParD_ap, sPut_ap, sDPut_ap, sBind_ap, sOwn_ap, sApp_ap, sRetO_ap, eSortSet_ap, sFor_ap, sBag_ap, finB_2, own0_ap, fin0_0, fin1_0, fin0_1, fin1_1, fin0_2, fin1_2, fin0_3, fin1_3, fin0_4, fin1_4, fin0_5, fin1_5, fin0_6, fin1_6, fin0_7, fin1_7, fin0_8, fin1_8, dI0_ap, dAdd_ii, dLen_t, dLen_l, dTuple_l, dTuple_t, dList_l, dList_t, dMax_ii, dMin_ii, dIx_t, dIx_l, atI_0, atI_1, atI_2, atI_3, dSl_t, dSl_l, dSl_s, dNe_ii, dEq_ii, ifz, ifz', Option.map_some, List.length_cons, List.length_nil, List.length_append, List.length_map, zl0, zm0, zl1, zm1, zl2, zm2, zl3, zm3, zl4, zm4, zl5, zm5, zl6, zm6, zl7, zm7, zl8, zm8, zl9, zm9, zl10, zm10, zl11, zm11, zl12, zm12, zl13, zm13, zl14, zm14, zl15, zm15, zl16, zm16, Nat.zero_add, Nat.reduceAdd, Int.reduceAdd, Int.reduceSub, Int.reduceMul, Int.reduceNeg, Int.reduceEq, Int.reduceLE, Int.reduceLT, Int.reduceToNat, Int.reducePow, decide_true, decide_false, cn0, cn1, cn2, cn3, cn4, cn5, cn6, cn7, cn8, cn9, cn10, cn11, cn12, List.set_cons_zero, List.set_cons_succ, tn0, tn1, tn2, tn3, tn4, tn5, tn6, tn7, tn8, eLn_ap, tLn_ap, lnd_nil, lnd_cons, lend_ow, lend_dc, lend_un, lend_vl, scD_bl, scD_int, scD_non, scD_str, sParL_ap, frz_ap, chL_ap, chK_ap, chLt_ap, chKt_ap, asB_ap, e2, e3])).trans ?_
  refine (sSeq_nx (S' := [c0, .ow false b3, c2, .vl (wsD ws), .vl (tsD ts), .vl (.lst ((keptAll ws ts).map xsD)), c6, c7, c8, .un]) (by simp only [vls_nil, vls_cons, uns_zero, uns_succ, gt_zero, gt_succ, st_zero, st_succ, bnd_ap, ret_ap, lift_some, eC_ap, eV_ap, e2_ap, eB_ap, eNot_ap, tNot_ap, tAnd_app, tOr_app, ite_ap, eAnd_ap, eOr_ap, e3_app, eIf_ap, brk_ap, brk'_ap, ite_bl, ite_bo, ite_tb, ite_to, ↓reduceIte, Bool.false_eq_true, Bool.not_true, Bool.not_false, aN_ap, aC_ap, eT_ap, eL_ap, fL_ap, eB1_ap, eIsi_ap, eIsiA_ap, e1n_ap, oS_ap, eSl_ap, eCall_ap, fCall_ap, eCall1_ap, eOx_ap, eDGet_ap, eDSort_ap, iS_ap, iR1_ap, iR2_ap, iE_ap, iZ_ap, gN_ap, gT2, gT3, sSeq_ap, sNext_ap, sExpr_ap, sRet_ap, sRetF_ap, sIf_ap, sAsg_ap, sPar_ap, sParD_ap, sPut_ap, sDPut_ap, sBind_ap, sOwn_ap, sApp_ap, sRetO_ap, eSortSet_ap, sFor_ap, sBag_ap, finB_2, own0_ap, fin0_0, fin1_0, fin0_1, fin1_1, fin0_2, fin1_2, fin0_3, fin1_3, fin0_4, fin1_4, fin0_5, fin1_5, fin0_6, fin1_6, fin0_7, fin1_7, fin0_8, fin1_8, dI0_ap, dAdd_ii, dLen_t, dLen_l, dTuple_l, dTuple_t, dList_l, dList_t, dMax_ii, dMin_ii, dIx_t, dIx_l, atI_0, atI_1, atI_2, atI_3, dSl_t, dSl_l, dSl_s, dNe_ii, dEq_ii, ifz, ifz', Option.map_some, List.length_cons, List.length_nil, List.length_append, List.length_map, zl0, zm0, zl1, zm1, zl2, zm2, zl3, zm3, zl4, zm4, zl5, zm5, zl6, zm6, zl7, zm7, zl8, zm8, zl9, zm9, zl10, zm10, zl11, zm11, zl12, zm12, zl13, zm13, zl14, zm14, zl15, zm15, zl16, zm16, Nat.zero_add, Nat.reduceAdd, Int.reduceAdd, Int.reduceSub, Int.reduceMul, Int.reduceNeg, Int.reduceEq, Int.reduceLE, Int.reduceLT, Int.reduceToNat, Int.reducePow, decide_true, decide_false, cn0, cn1, cn2, cn3, cn4, cn5, cn6, cn7, cn8, cn9, cn10, cn11, cn12, List.set_cons_zero, List.set_cons_succ, tn0, tn1, tn2, tn3, tn4, tn5, tn6, tn7, tn8, eLn_ap, tLn_ap, lnd_nil, lnd_cons, lend_ow, lend_dc, lend_un, lend_vl, scD_bl, scD_int, scD_non, scD_str, sParL_ap, frz_ap, chL_ap, chK_ap, chLt_ap, chKt_ap, asB_ap, ka])).trans ?_
  refine (sSeq_nx ((sFor_go (by simp only [vls_nil, vls_cons, uns_zero, uns_succ, gt_zero, gt_succ, st_zero, st_succ, bnd_ap, ret_ap, lift_some, eC_ap, eV_ap, e2_ap, eB_ap, eNot_ap, tNot_ap, tAnd_app, tOr_app, ite_ap, eAnd_ap, eOr_ap, e3_app, eIf_ap, brk_ap, brk'_ap, ite_bl, ite_bo, ite_tb, ite_to, ↓reduceIte, Bool.false_eq_true, Bool.not_true, Bool.not_false, aN_ap, aC_ap, eT_ap, eL_ap, fL_ap, eB1_ap, eIsi_ap, eIsiA_ap, e1n_ap, oS_ap, eSl_ap, eCall_ap, fCall_ap, eCall1_ap, eOx_ap, eDGet_ap, eDSort_ap, iS_ap, iR1_ap, iR2_ap, iE_ap, iZ_ap, gN_ap, gT2, gT3, sSeq_ap, sNext_ap, sExpr_ap, sRet_ap, sRetF_ap, sIf_ap, sAsg_ap, sPar_ap, sParD_ap, sPut_ap, sDPut_ap, sBind_ap, sOwn_ap, sApp_ap, sRetO_ap, eSortSet_ap, sFor_ap, sBag_ap, finB_2, own0_ap, fin0_0, fin1_0, fin0_1, fin1_1, fin0_2, fin1_2, fin0_3, fin1_3, fin0_4, fin1_4, fin0_5, fin1_5, fin0_6, fin1_6, fin0_7, fin1_7, fin0_8, fin1_8, dI0_ap, dAdd_ii, dLen_t, dLen_l, dTuple_l, dTuple_t, dList_l, dList_t, dMax_ii, dMin_ii, dIx_t, dIx_l, atI_0, atI_1, atI_2, atI_3, dSl_t, dSl_l, dSl_s, dNe_ii, dEq_ii, ifz, ifz', Option.map_some, List.length_cons, List.length_nil, List.length_append, List.length_map, zl0, zm0, zl1, zm1, zl2, zm2, zl3, zm3, zl4, zm4, zl5, zm5, zl6, zm6, zl7, zm7, zl8, zm8, zl9, zm9, zl10, zm10, zl11, zm11, zl12, zm12, zl13, zm13, zl14, zm14, zl15, zm15, zl16, zm16, Nat.zero_add, Nat.reduceAdd, Int.reduceAdd, Int.reduceSub, Int.reduceMul, Int.reduceNeg, Int.reduceEq, Int.reduceLE, Int.reduceLT, Int.reduceToNat, Int.reducePow, decide_true, decide_false, cn0, cn1, cn2, cn3, cn4, cn5, cn6, cn7, cn8, cn9, cn10, cn11, cn12, List.set_cons_zero, List.set_cons_succ, tn0, tn1, tn2, tn3, tn4, tn5, tn6, tn7, tn8, eLn_ap, tLn_ap, lnd_nil, lnd_cons, lend_ow, lend_dc, lend_un, lend_vl, scD_bl, scD_int, scD_non, scD_str, sParL_ap, frz_ap, chL_ap, chK_ap, chLt_ap, chKt_ap, asB_ap, len_ws, rg1_nat hr2])).trans ee1)).trans ?_
  exact (sFor_go (hr 7 _ (by decide))).trans ee2
/-! the long ones -/
theorem law_at_ok {ws : List Win} {ts : List Tal} (hw : WsOk ws) (ht : TsOk ws.length ts) {e : Nat} (hel : e < ws.length) {m : Int} (m0 : 0 ≤ m) (m1 : m ≤ 1000) : m__law_at [wsD ws, tsD ts, .int (e : Int), .int m] = some (.rt (.bl (poss ws ts e m))) := by
  have hlt := ht.len
  have hlw := hw.len
  have hws : WsOk (ws.set e (m, m)) := set_wok hw ⟨by simp only []; omega, by simp only []; omega, by simp only []; omega⟩
  have k := law_agrees_ok (ts := ts) hws (by omega)
  rw [agrees_conf] at k
  have hb1 : ws.length ≤ 1000 := by omega
  unfold m__law_at b__law_at poss
  simp only [vls_nil, vls_cons, uns_zero, uns_succ, gt_zero, gt_succ, st_zero, st_succ, bnd_ap, ret_ap, lift_some, eC_ap, eV_ap, e2_ap, eB_ap, eNot_ap, tNot_ap, tAnd_app, tOr_app, ite_ap, eAnd_ap, eOr_ap, e3_app, eIf_ap, brk_ap, brk'_ap, ite_bl, ite_bo, ite_tb, ite_to, ↓reduceIte, Bool.false_eq_true, Bool.not_true, Bool.not_false, aN_ap, aC_ap, eT_ap, eL_ap, fL_ap, eB1_ap, eIsi_ap, eIsiA_ap, e1n_ap, oS_ap, eSl_ap, eCall_ap, fCall_ap, eCall1_ap, eOx_ap, eDGet_ap, eDSort_ap, iS_ap, iR1_ap, iR2_ap, iE_ap, iZ_ap, gN_ap, gT2, gT3, sSeq_ap, sNext_ap, sExpr_ap, sRet_ap, sRetF_ap, sIf_ap, sAsg_ap, sPar_ap, sParD_ap, sPut_ap, sDPut_ap, sBind_ap, sOwn_ap, sApp_ap, sRetO_ap, eSortSet_ap, sFor_ap, sBag_ap, finB_2, own0_ap, fin0_0, fin1_0, fin0_1, fin1_1, fin0_2, fin1_2, fin0_3, fin1_3, fin0_4, fin1_4, fin0_5, fin1_5, fin0_6, fin1_6, fin0_7, fin1_7, fin0_8, fin1_8, dI0_ap, dAdd_ii, dLen_t, dLen_l, dTuple_l, dTuple_t, dList_l, dList_t, dMax_ii, dMin_ii, dIx_t, dIx_l, atI_0, atI_1, atI_2, atI_3, dSl_t, dSl_l, dSl_s, dNe_ii, dEq_ii, ifz, ifz', Option.map_some, List.length_cons, List.length_nil, List.length_append, List.length_map, zl0, zm0, zl1, zm1, zl2, zm2, zl3, zm3, zl4, zm4, zl5, zm5, zl6, zm6, zl7, zm7, zl8, zm8, zl9, zm9, zl10, zm10, zl11, zm11, zl12, zm12, zl13, zm13, zl14, zm14, zl15, zm15, zl16, zm16, Nat.zero_add, Nat.reduceAdd, Int.reduceAdd, Int.reduceSub, Int.reduceMul, Int.reduceNeg, Int.reduceEq, Int.reduceLE, Int.reduceLT, Int.reduceToNat, Int.reducePow, decide_true, decide_false, cn0, cn1, cn2, cn3, cn4, cn5, cn6, cn7, cn8, cn9, cn10, cn11, cn12, List.set_cons_zero, List.set_cons_succ, tn0, tn1, tn2, tn3, tn4, tn5, tn6, tn7, tn8, eLn_ap, tLn_ap, lnd_nil, lnd_cons, lend_ow, lend_dc, lend_un, lend_vl, scD_bl, scD_int, scD_non, scD_str, sParL_ap, frz_ap, chL_ap, chK_ap, chLt_ap, chKt_ap, asB_ap, ws_to, ws_from, ws_set1 hb1, ws_set2 hb1 hel, k]
theorem spread_apart : ∀ {r : List Win}, (spread r).Pairwise (· < ·) → (∀ w ∈ r, w.1 ≤ w.2) → r.Pairwise fun a b => a.2 < b.1
  | [], _, _ => .nil
  | w :: r, h, hr => by
    have e : spread (w :: r) = rngI w ++ spread r := by unfold spread; rw [List.flatMap_cons]
    rw [e] at h
    obtain ⟨h1, h2, h3⟩ := List.pairwise_append.mp h
    refine .cons (fun v hv => ?_) (spread_apart h2 fun v hv => hr v (List.mem_cons_of_mem _ hv))
    have hw := hr w List.mem_cons_self
    have hv' := hr v (List.mem_cons_of_mem _ hv)
    exact h3 w.2 (mem_rngI.mpr ⟨hw, Int.le_refl _⟩) v.1 (by unfold spread; exact List.mem_flatMap.mpr ⟨v, hv, mem_rngI.mpr ⟨Int.le_refl _, hv'⟩⟩)
theorem evT_apart (ws : List Win) (ts : List Tal) (e : Nat) (w : Win) : (evT ws ts e w).Pairwise (fun a b => a.2 < b.1) ∧ ∀ v ∈ evT ws ts e w, v.1 ≤ v.2 := by
  obtain ⟨h1, h2⟩ := spread_joined (posL ws ts e w)
  exact ⟨spread_apart (by rw [show spread (evT ws ts e w) = posL ws ts e w from h1]; exact posL_sorted ws ts e w) h2, h2⟩
theorem evT_in {ws : List Win} {ts : List Tal} {e : Nat} {w v : Win} (h : v ∈ evT ws ts e w) : w.1 ≤ v.1 ∧ v.1 ≤ v.2 ∧ v.2 ≤ w.2 := by
  have h2 := (evT_apart ws ts e w).2 v h
  have a : v.1 ∈ posL ws ts e w := mem_joined.mp ⟨v, h, Int.le_refl _, h2⟩
  have b : v.2 ∈ posL ws ts e w := mem_joined.mp ⟨v, h, h2, Int.le_refl _⟩
  unfold posL at a b
  exact ⟨(mem_rngI.mp (List.mem_filter.mp a).1).1, h2, (mem_rngI.mp (List.mem_filter.mp b).1).2⟩
def pyW (w : Win) : PyData := .tuple [.int w.1, .int w.2]
theorem sort_rows {l : List Win} (h : l.Pairwise fun a b => a.1 < b.1) : dSortG [.lst (l.map wD)] = some (.lst (l.map wD)) := by
  rw [dSortG_map wD pyW l (fun x _ => rfl) (fun x _ y _ => by unfold pyW; simp only [PySem.W.alike, PySem.W.alikeAll, Bool.and_self]) (.inl fun x _ => ⟨_, _, rfl⟩) (fun x _ => by unfold pyW; simp only [PyData.depth, PyData.depthAll]; omega)]
  rw [List.mergeSort_of_pairwise]
  refine h.imp fun {a b} hab => ?_
  have := congrFun (congrFun (PySem.W.dataLe_ii (fun w : Win => w.1) (fun w : Win => w.2)) a) b
  exact this.trans (decide_eq_true (.inl hab))
theorem cut_last {α : Type} (l : List α) (x : α) : cutL (l ++ [x]) none (some (-1)) = l := by
  unfold cutL
  have : HT.sIx (l ++ [x]).length (l ++ [x]).length (some (-1)) = l.length := by
    unfold HT.sIx
    rw [List.length_append, List.length_singleton]
    simp only []
    split <;> omega
  rw [this, show HT.sIx (l ++ [x]).length 0 none = 0 from rfl, List.drop_zero, Nat.sub_zero, List.take_left]
theorem dEq_lst0 {l : List Win} {p : Win → Bool} : dNe (.lst ((l.filter p).map wD)) (.lst []) = some (.bl (l.any p)) := by
  have := (dEq_empty wD nice_wD (l.filter p)).2
  rw [this]
  congr 2
  induction l with
  | nil => rfl
  | cons x r ih =>
    rw [List.any_cons, List.filter_cons]
    cases q : p x with
    | true => rfl
    | false => rw [Bool.false_or, ← ih (dEq_empty wD nice_wD (r.filter p)).2]; rfl
def stepM (b : List Int × C × C) (v : Win) : List Int × C × C := (b.1 ++ [v.1, v.2, v.1 - 1, v.2 + 1], .vl (.int v.1), .vl (.int v.2))
theorem stepM_own : ∀ (l : List Win) (b : List Int × C × C), kp b.2.1 = b.2.1 → kp b.2.2 = b.2.2 → kp (l.foldl stepM b).2.1 = (l.foldl stepM b).2.1 ∧ kp (l.foldl stepM b).2.2 = (l.foldl stepM b).2.2
  | [], _, h1, h2 => ⟨h1, h2⟩
  | _ :: r, _, _, _ => stepM_own r _ rfl rfl
theorem large1_ok {ws : List Win} {ts : List Tal} (hw : WsOk ws) (ht : TsOk ws.length ts) {e : Nat} {w : Win} (he : ws[e]? = some w) {k : Nat} {b : List D} (hb : Bag (k + 10) b) {c5 c6 c7 c8 c9 c10 : C} (h7 : kp c7 = c7) (h8 : kp c8 = c8) (h9 : kp c9 = c9) (h10 : kp c10 = c10) (h6 : kp c6 = c6) :
    ∃ b' d5 d6 d7 d8 d9 d10, L__law_large_right_3 [.ow true b, .vl (wsD ws), .vl (tsD ts), .vl (.int (e : Int)), .vl (wD w), c5, c6, c7, c8, c9, c10, .un] = some (.nx [.ow true b', .vl (wsD ws), .vl (tsD ts), .vl (.int (e : Int)), .vl (wD w), d5, d6, d7, d8, d9, d10, .un]) ∧ Bag k b' ∧ kp d7 = d7 ∧ kp d8 = d8 ∧ kp d9 = d9 ∧ kp d10 = d10 ∧ kp d6 = d6 := by
  have hel : e < ws.length := (List.getElem?_eq_some_iff.mp he).1
  have hwok := hw.ok w (List.mem_of_getElem? he)
  obtain ⟨w0, w1, w2⟩ := hw.ok w (List.mem_of_getElem? he)
  have ke := event_times_ok hw ht he
  have hlen := evT_len (ws := ws) (ts := ts) (e := e) hwok
  obtain ⟨ap1, ap2⟩ := evT_apart ws ts e w
  have srt := sort_rows (l := evT ws ts e w) (ap1.imp_of_mem fun {a b} ha hb hab => by have := ap2 a ha; omega)
  have nr : Nice 6 (.lst ((evT ws ts e w).map wD)) := fun d hd => by obtain ⟨v, _, rfl⟩ := List.mem_map.mp hd; exact nice_wD v
  have n1 := (dEq_true 6 nr nr rfl).2
  have x0 : dIx (wD w) (.int 0) = some (.int w.1) := atI_0
  have x1 : dIx (wD w) (.int 1) = some (.int w.2) := atI_1
  have y0 : ∀ v : Win, dIx (wD v) (.int 0) = some (.int v.1) := fun v => atI_0
  have y1 : ∀ v : Win, dIx (wD v) (.int 1) = some (.int v.2) := fun v => atI_1
  obtain ⟨u, b1, e1, u0, u1, hb1⟩ := take_ok (k := k) (m := w.2 - w.1 + 1) (hb.le (by omega)) (by omega) (by omega)
  generalize hR : evT ws ts e w = R at *
  -- no row lies outside
  have c1 : ∀ (q0 : C), C__law_large_right_1 [q0, .vl (wsD ws), .vl (tsD ts), .vl (.int (e : Int)), .vl (wD w), .vl (.lst (R.map wD)), c6, c7, c8, c9, c10, .un] = some (.ok (.lst []) [q0, .vl (wsD ws), .vl (tsD ts), .vl (.int (e : Int)), .vl (wD w), .vl (.lst (R.map wD)), c6, c7, c8, c9, c10, .un]) := fun q0 => by
    have hf : R.filter (fun v => !(decide (w.1 ≤ v.1) && (decide (v.1 ≤ v.2) && decide (v.2 ≤ w.2)))) = [] := by
      rw [List.filter_eq_nil_iff]
      intro v hv
      rw [← hR] at hv
      obtain ⟨a1, a2, a3⟩ := evT_in hv
      rw [decide_eq_true a1, decide_eq_true a2, decide_eq_true a3]
      exact Bool.false_ne_true
    have := lcE_pureS (vs := [11]) (fi := iS (eV 5)) (g := gN 11) (tt := tNot' (bnd (TW.e2 dIx (eV 4) (eC (.int 0))) (chKt dLe (TW.e2 dIx (eV 11) (eC (.int 0))) (chKt dLe (TW.e2 dIx (eV 11) (eC (.int 1))) (chLt dLe (TW.e2 dIx (eV 4) (eC (.int 1)))))))) (te := eV 11) (enc := wD) (l := R) (S := [q0, .vl (wsD ws), .vl (tsD ts), .vl (.int (e : Int)), .vl (wD w), .vl (.lst (R.map wD)), c6, c7, c8, c9, c10, .un]) (fun v => !(decide (w.1 ≤ v.1) && (decide (v.1 ≤ v.2) && decide (v.2 ≤ w.2)))) wD rfl (by omega) (fun v _ => ⟨_, rfl, by
        simp only [wp, vls_nil, vls_cons, uns_zero, uns_succ, gt_zero, gt_succ, st_zero, st_succ, bnd_ap, ret_ap, lift_some, eC_ap, eV_ap, e2_ap, eB_ap, eNot_ap, tNot_ap, tAnd_app, tOr_app, ite_ap, eAnd_ap, eOr_ap, e3_app, eIf_ap, brk_ap, brk'_ap, ite_bl, ite_bo, ite_tb, ite_to, ↓reduceIte, Bool.false_eq_true, Bool.not_true, Bool.not_false, aN_ap, aC_ap, eT_ap, eL_ap, fL_ap, eB1_ap, eIsi_ap, eIsiA_ap, e1n_ap, oS_ap, eSl_ap, eCall_ap, fCall_ap, eCall1_ap, eOx_ap, eDGet_ap, eDSort_ap, iS_ap, iR1_ap, iR2_ap, iE_ap, iZ_ap, gN_ap, gT2, gT3, sSeq_ap, sNext_ap, sExpr_ap, sRet_ap, sRetF_ap, sIf_ap, sAsg_ap, sPar_ap, sParD_ap, sPut_ap, sDPut_ap, sBind_ap, sOwn_ap, sApp_ap, sRetO_ap, eSortSet_ap, sFor_ap, sBag_ap, finB_2, own0_ap, fin0_0, fin1_0, fin0_1, fin1_1, fin0_2, fin1_2, fin0_3, fin1_3, fin0_4, fin1_4, fin0_5, fin1_5, fin0_6, fin1_6, fin0_7, fin1_7, fin0_8, fin1_8, dI0_ap, dAdd_ii, dLen_t, dLen_l, dTuple_l, dTuple_t, dList_l, dList_t, dMax_ii, dMin_ii, dIx_t, dIx_l, atI_0, atI_1, atI_2, atI_3, dSl_t, dSl_l, dSl_s, dNe_ii, dEq_ii, ifz, ifz', Option.map_some, List.length_cons, List.length_nil, List.length_append, List.length_map, zl0, zm0, zl1, zm1, zl2, zm2, zl3, zm3, zl4, zm4, zl5, zm5, zl6, zm6, zl7, zm7, zl8, zm8, zl9, zm9, zl10, zm10, zl11, zm11, zl12, zm12, zl13, zm13, zl14, zm14, zl15, zm15, zl16, zm16, Nat.zero_add, Nat.reduceAdd, Int.reduceAdd, Int.reduceSub, Int.reduceMul, Int.reduceNeg, Int.reduceEq, Int.reduceLE, Int.reduceLT, Int.reduceToNat, Int.reducePow, decide_true, decide_false, cn0, cn1, cn2, cn3, cn4, cn5, cn6, cn7, cn8, cn9, cn10, cn11, cn12, List.set_cons_zero, List.set_cons_succ, tn0, tn1, tn2, tn3, tn4, tn5, tn6, tn7, tn8, eLn_ap, tLn_ap, lnd_nil, lnd_cons, lend_ow, lend_dc, lend_un, lend_vl, scD_bl, scD_int, scD_non, scD_str, sParL_ap, frz_ap, chL_ap, chK_ap, chLt_ap, chKt_ap, asB_ap, x0, x1, y0, y1], fun _ => by simp only [wp, vls_nil, vls_cons, uns_zero, uns_succ, gt_zero, gt_succ, st_zero, st_succ, bnd_ap, ret_ap, lift_some, eC_ap, eV_ap, e2_ap, eB_ap, eNot_ap, tNot_ap, tAnd_app, tOr_app, ite_ap, eAnd_ap, eOr_ap, e3_app, eIf_ap, brk_ap, brk'_ap, ite_bl, ite_bo, ite_tb, ite_to, ↓reduceIte, Bool.false_eq_true, Bool.not_true, Bool.not_false, aN_ap, aC_ap, eT_ap, eL_ap, fL_ap, eB1_ap, eIsi_ap, eIsiA_ap, e1n_ap, oS_ap, eSl_ap, eCall_ap, fCall_ap, eCall1_ap, eOx_ap, eDGet_ap, eDSort_ap, iS_ap, iR1_ap, iR2_ap, iE_ap, iZ_ap, gN_ap, gT2, gT3, sSeq_ap, sNext_ap, sExpr_ap, sRet_ap, sRetF_ap, sIf_ap, sAsg_ap, sPar_ap, sParD_ap, sPut_ap, sDPut_ap, sBind_ap, sOwn_ap, sApp_ap, sRetO_ap, eSortSet_ap, sFor_ap, sBag_ap, finB_2, own0_ap, fin0_0, fin1_0, fin0_1, fin1_1, fin0_2, fin1_2, fin0_3, fin1_3, fin0_4, fin1_4, fin0_5, fin1_5, fin0_6, fin1_6, fin0_7, fin1_7, fin0_8, fin1_8, dI0_ap, dAdd_ii, dLen_t, dLen_l, dTuple_l, dTuple_t, dList_l, dList_t, dMax_ii, dMin_ii, dIx_t, dIx_l, atI_0, atI_1, atI_2, atI_3, dSl_t, dSl_l, dSl_s, dNe_ii, dEq_ii, ifz, ifz', Option.map_some, List.length_cons, List.length_nil, List.length_append, List.length_map, zl0, zm0, zl1, zm1, zl2, zm2, zl3, zm3, zl4, zm4, zl5, zm5, zl6, zm6, zl7, zm7, zl8, zm8, zl9, zm9, zl10, zm10, zl11, zm11, zl12, zm12, zl13, zm13, zl14, zm14, zl15, zm15, zl16, zm16, Nat.zero_add, Nat.reduceAdd, Int.reduceAdd, Int.reduceSub, Int.reduceMul, Int.reduceNeg, Int.reduceEq, Int.reduceLE, Int.reduceLT, Int.reduceToNat, Int.reducePow, decide_true, decide_false, cn0, cn1, cn2, cn3, cn4, cn5, cn6, cn7, cn8, cn9, cn10, cn11, cn12, List.set_cons_zero, List.set_cons_succ, tn0, tn1, tn2, tn3, tn4, tn5, tn6, tn7, tn8, eLn_ap, tLn_ap, lnd_nil, lnd_cons, lend_ow, lend_dc, lend_un, lend_vl, scD_bl, scD_int, scD_non, scD_str, sParL_ap, frz_ap, chL_ap, chK_ap, chLt_ap, chKt_ap, asB_ap], rfl⟩) rfl
    rw [hf] at this
    exact this
  have n2 : dNe (.lst []) (.lst []) = some (.bl false) := (dEq_empty D.int (fun _ => trivial) []).2
  -- the moments
  have lp : ∀ as : Nat → Addr, forGo (gT [7, 8]) L__law_large_right_1 (R.map wD) (pinA as 0 [.ow true b1, .vl (wsD ws), .vl (tsD ts), .vl (.int (e : Int)), .vl (wD w), .ow false (R.map wD), .vl (.lst [.int w.1, .int w.2, .int (w.1 + u)]), c7, c8, c9, c10, .un])
      = some (.nx (pinA as 0 [.ow true b1, .vl (wsD ws), .vl (tsD ts), .vl (.int (e : Int)), .vl (wD w), .ow false (R.map wD), .vl (.lst ((R.foldl stepM ([w.1, w.2, w.1 + u], c7, c8)).1.map D.int)), (R.foldl stepM ([w.1, w.2, w.1 + u], c7, c8)).2.1, (R.foldl stepM ([w.1, w.2, w.1 + u], c7, c8)).2.2, c9, c10, .un])) := fun as => by
    have pk : ∀ (j : Nat) (c : C), kp c = c → pin1 (as j) c = c := fun j c h => by cases c <;> first | rfl | cases h
    obtain ⟨S', ee, _, q7, q8, rfl⟩ := forGo_run (enc := wD) (g := gT [7, 8]) (body := L__law_large_right_1) stepM
      (fun r a S => a.1.length + 4 * r.length ≤ 100000 ∧ kp a.2.1 = a.2.1 ∧ kp a.2.2 = a.2.2 ∧ S = [.vl (.rf (as 0)), .vl (wsD ws), .vl (tsD ts), .vl (.int (e : Int)), .vl (wD w), .vl (.rf (as 5)), .vl (.lst (a.1.map D.int)), a.2.1, a.2.2, c9, c10, .un]) R ([w.1, w.2, w.1 + u], c7, c8) _ ⟨by simp only [List.length_cons, List.length_nil]; omega, h7, h8, rfl⟩ (by
        rintro v r ⟨M, z7, z8⟩ S hv ⟨hz, k7, k8, rfl⟩
        rw [List.length_cons] at hz
        simp only [] at hz k7 k8
        have ea : dAdd (.lst (M.map D.int)) (.lst [.int v.1, .int v.2, .int (v.1 - 1), .int (v.2 + 1)]) = some (.lst ((M ++ [v.1, v.2, v.1 - 1, v.2 + 1]).map D.int)) := by
          rw [dAdd_ll (by simp only [List.length_map, List.length_cons, List.length_nil]; omega), List.map_append]; rfl
        refine ⟨_, gT2, _, .inl (by
          show L__law_large_right_1 [.vl (.rf (as 0)), .vl (wsD ws), .vl (tsD ts), .vl (.int (e : Int)), .vl (wD w), .vl (.rf (as 5)), .vl (.lst (M.map D.int)), .vl (.int v.1), .vl (.int v.2), c9, c10, .un] = _
          unfold L__law_large_right_1
          simp only [vls_nil, vls_cons, uns_zero, uns_succ, gt_zero, gt_succ, st_zero, st_succ, bnd_ap, ret_ap, lift_some, eC_ap, eV_ap, e2_ap, eB_ap, eNot_ap, tNot_ap, tAnd_app, tOr_app, ite_ap, eAnd_ap, eOr_ap, e3_app, eIf_ap, brk_ap, brk'_ap, ite_bl, ite_bo, ite_tb, ite_to, ↓reduceIte, Bool.false_eq_true, Bool.not_true, Bool.not_false, aN_ap, aC_ap, eT_ap, eL_ap, fL_ap, eB1_ap, eIsi_ap, eIsiA_ap, e1n_ap, oS_ap, eSl_ap, eCall_ap, fCall_ap, eCall1_ap, eOx_ap, eDGet_ap, eDSort_ap, iS_ap, iR1_ap, iR2_ap, iE_ap, iZ_ap, gN_ap, gT2, gT3, sSeq_ap, sNext_ap, sExpr_ap, sRet_ap, sRetF_ap, sIf_ap, sAsg_ap, sPar_ap, sParD_ap, sPut_ap, sDPut_ap, sBind_ap, sOwn_ap, sApp_ap, sRetO_ap, eSortSet_ap, sFor_ap, sBag_ap, finB_2, own0_ap, fin0_0, fin1_0, fin0_1, fin1_1, fin0_2, fin1_2, fin0_3, fin1_3, fin0_4, fin1_4, fin0_5, fin1_5, fin0_6, fin1_6, fin0_7, fin1_7, fin0_8, fin1_8, dI0_ap, dAdd_ii, dLen_t, dLen_l, dTuple_l, dTuple_t, dList_l, dList_t, dMax_ii, dMin_ii, dIx_t, dIx_l, atI_0, atI_1, atI_2, atI_3, dSl_t, dSl_l, dSl_s, dNe_ii, dEq_ii, ifz, ifz', Option.map_some, List.length_cons, List.length_nil, List.length_append, List.length_map, zl0, zm0, zl1, zm1, zl2, zm2, zl3, zm3, zl4, zm4, zl5, zm5, zl6, zm6, zl7, zm7, zl8, zm8, zl9, zm9, zl10, zm10, zl11, zm11, zl12, zm12, zl13, zm13, zl14, zm14, zl15, zm15, zl16, zm16, Nat.zero_add, Nat.reduceAdd, Int.reduceAdd, Int.reduceSub, Int.reduceMul, Int.reduceNeg, Int.reduceEq, Int.reduceLE, Int.reduceLT, Int.reduceToNat, Int.reducePow, decide_true, decide_false, cn0, cn1, cn2, cn3, cn4, cn5, cn6, cn7, cn8, cn9, cn10, cn11, cn12, List.set_cons_zero, List.set_cons_succ, tn0, tn1, tn2, tn3, tn4, tn5, tn6, tn7, tn8, eLn_ap, tLn_ap, lnd_nil, lnd_cons, lend_ow, lend_dc, lend_un, lend_vl, scD_bl, scD_int, scD_non, scD_str, sParL_ap, frz_ap, chL_ap, chK_ap, chLt_ap, chKt_ap, asB_ap, ea]; rfl), ?_, rfl, rfl, rfl⟩
        show (M ++ [v.1, v.2, v.1 - 1, v.2 + 1]).length + 4 * r.length ≤ 100000
        rw [List.length_append]; simp only [List.length_cons, List.length_nil]; omega)
    simp only [pinA_cons, pinA_nil, pin1_ow, pin1_vl, pin1_un, pk _ _ h7, pk _ _ h8, pk _ _ h9, pk _ _ h10, pk _ _ q7, pk _ _ q8]
    exact ee
  obtain ⟨k7, k8⟩ := stepM_own R ([w.1, w.2, w.1 + u], c7, c8) h7 h8
  have hM : (R.foldl stepM ([w.1, w.2, w.1 + u], c7, c8)).1.length ≤ 100000 := by
    have gen : ∀ (l : List Win) (b : List Int × C × C), (l.foldl stepM b).1.length = b.1.length + 4 * l.length := by
      intro l
      induction l with
      | nil => intro b; rfl
      | cons v r ih =>
        intro b
        rw [List.foldl_cons, ih]
        show (b.1 ++ [v.1, v.2, v.1 - 1, v.2 + 1]).length + 4 * r.length = _
        rw [List.length_append]; simp only [List.length_cons, List.length_nil]; omega
    rw [gen]; simp only [List.length_cons, List.length_nil]; omega
  generalize (R.foldl stepM ([w.1, w.2, w.1 + u], c7, c8)).1 = M at *
  generalize (R.foldl stepM ([w.1, w.2, w.1 + u], c7, c8)).2.1 = z7 at *
  generalize (R.foldl stepM ([w.1, w.2, w.1 + u], c7, c8)).2.2 = z8 at *
  have sO := sForO_ap (i := 5) (g := gT [7, 8]) (body := L__law_large_right_1) (S := [.ow true b1, .vl (wsD ws), .vl (tsD ts), .vl (.int (e : Int)), .vl (wD w), .ow false (R.map wD), .vl (.lst [.int w.1, .int w.2, .int (w.1 + u)]), c7, c8, c9, c10, .un]) rfl
    (.same (.same (.same (.same (.same (.same (.vl rfl (.cons (fun q => by rw [kp_own h7] at q; cases q) (fun q => by rw [kp_own k7] at q; cases q) (.cons (fun q => by rw [kp_own h8] at q; cases q) (fun q => by rw [kp_own k8] at q; cases q) (.same (.same (.same .nil)))))))))))) lp
  -- each of them is told right
  have c2 : ∀ c10 : C, C__law_large_right_2 [.ow true b1, .vl (wsD ws), .vl (tsD ts), .vl (.int (e : Int)), .vl (wD w), .ow false (R.map wD), .vl (.lst (M.map D.int)), z7, z8, c9, c10, .un] = some (.ok (.lst ((M.filter fun m => decide (w.1 ≤ m) && decide (m ≤ w.2)).map D.int)) [.ow true b1, .vl (wsD ws), .vl (tsD ts), .vl (.int (e : Int)), .vl (wD w), .ow false (R.map wD), .vl (.lst (M.map D.int)), z7, z8, c9, c10, .un]) := fun c10 =>
    lcE_pure (enc := D.int) (S1 := [.ow true b1, .vl (wsD ws), .vl (tsD ts), .vl (.int (e : Int)), .vl (wD w), .ow false (R.map wD), .vl (.lst (M.map D.int)), z7, z8, c9, c10, .un]) (fun m => decide (w.1 ≤ m) && decide (m ≤ w.2)) D.int rfl (by omega) (fun m _ => ⟨_, rfl, by simp only [wp, vls_nil, vls_cons, uns_zero, uns_succ, gt_zero, gt_succ, st_zero, st_succ, bnd_ap, ret_ap, lift_some, eC_ap, eV_ap, e2_ap, eB_ap, eNot_ap, tNot_ap, tAnd_app, tOr_app, ite_ap, eAnd_ap, eOr_ap, e3_app, eIf_ap, brk_ap, brk'_ap, ite_bl, ite_bo, ite_tb, ite_to, ↓reduceIte, Bool.false_eq_true, Bool.not_true, Bool.not_false, aN_ap, aC_ap, eT_ap, eL_ap, fL_ap, eB1_ap, eIsi_ap, eIsiA_ap, e1n_ap, oS_ap, eSl_ap, eCall_ap, fCall_ap, eCall1_ap, eOx_ap, eDGet_ap, eDSort_ap, iS_ap, iR1_ap, iR2_ap, iE_ap, iZ_ap, gN_ap, gT2, gT3, sSeq_ap, sNext_ap, sExpr_ap, sRet_ap, sRetF_ap, sIf_ap, sAsg_ap, sPar_ap, sParD_ap, sPut_ap, sDPut_ap, sBind_ap, sOwn_ap, sApp_ap, sRetO_ap, eSortSet_ap, sFor_ap, sBag_ap, finB_2, own0_ap, fin0_0, fin1_0, fin0_1, fin1_1, fin0_2, fin1_2, fin0_3, fin1_3, fin0_4, fin1_4, fin0_5, fin1_5, fin0_6, fin1_6, fin0_7, fin1_7, fin0_8, fin1_8, dI0_ap, dAdd_ii, dLen_t, dLen_l, dTuple_l, dTuple_t, dList_l, dList_t, dMax_ii, dMin_ii, dIx_t, dIx_l, atI_0, atI_1, atI_2, atI_3, dSl_t, dSl_l, dSl_s, dNe_ii, dEq_ii, ifz, ifz', Option.map_some, List.length_cons, List.length_nil, List.length_append, List.length_map, zl0, zm0, zl1, zm1, zl2, zm2, zl3, zm3, zl4, zm4, zl5, zm5, zl6, zm6, zl7, zm7, zl8, zm8, zl9, zm9, zl10, zm10, zl11, zm11, zl12, zm12, zl13, zm13, zl14, zm14, zl15, zm15, zl16, zm16, Nat.zero_add, Nat.reduceAdd, Int.reduceAdd, Int.reduceSub, Int.reduceMul, Int.reduceNeg, Int.reduceEq, Int.reduceLE, Int.reduceLT, Int.reduceToNat, Int.reducePow, decide_true, decide_false, cn0, cn1, cn2, cn3, cn4, cn5, cn6, cn7, cn8, cn9, cn10, cn11, cn12, List.set_cons_zero, List.set_cons_succ, tn0, tn1, tn2, tn3, tn4, tn5, tn6, tn7, tn8, eLn_ap, tLn_ap, lnd_nil, lnd_cons, lend_ow, lend_dc, lend_un, lend_vl, scD_bl, scD_int, scD_non, scD_str, sParL_ap, frz_ap, chL_ap, chK_ap, chLt_ap, chKt_ap, asB_ap, e3_app, x0, x1], fun _ => by simp only [wp, vls_nil, vls_cons, uns_zero, uns_succ, gt_zero, gt_succ, st_zero, st_succ, bnd_ap, ret_ap, lift_some, eC_ap, eV_ap, e2_ap, eB_ap, eNot_ap, tNot_ap, tAnd_app, tOr_app, ite_ap, eAnd_ap, eOr_ap, e3_app, eIf_ap, brk_ap, brk'_ap, ite_bl, ite_bo, ite_tb, ite_to, ↓reduceIte, Bool.false_eq_true, Bool.not_true, Bool.not_false, aN_ap, aC_ap, eT_ap, eL_ap, fL_ap, eB1_ap, eIsi_ap, eIsiA_ap, e1n_ap, oS_ap, eSl_ap, eCall_ap, fCall_ap, eCall1_ap, eOx_ap, eDGet_ap, eDSort_ap, iS_ap, iR1_ap, iR2_ap, iE_ap, iZ_ap, gN_ap, gT2, gT3, sSeq_ap, sNext_ap, sExpr_ap, sRet_ap, sRetF_ap, sIf_ap, sAsg_ap, sPar_ap, sParD_ap, sPut_ap, sDPut_ap, sBind_ap, sOwn_ap, sApp_ap, sRetO_ap, eSortSet_ap, sFor_ap, sBag_ap, finB_2, own0_ap, fin0_0, fin1_0, fin0_1, fin1_1, fin0_2, fin1_2, fin0_3, fin1_3, fin0_4, fin1_4, fin0_5, fin1_5, fin0_6, fin1_6, fin0_7, fin1_7, fin0_8, fin1_8, dI0_ap, dAdd_ii, dLen_t, dLen_l, dTuple_l, dTuple_t, dList_l, dList_t, dMax_ii, dMin_ii, dIx_t, dIx_l, atI_0, atI_1, atI_2, atI_3, dSl_t, dSl_l, dSl_s, dNe_ii, dEq_ii, ifz, ifz', Option.map_some, List.length_cons, List.length_nil, List.length_append, List.length_map, zl0, zm0, zl1, zm1, zl2, zm2, zl3, zm3, zl4, zm4, zl5, zm5, zl6, zm6, zl7, zm7, zl8, zm8, zl9, zm9, zl10, zm10, zl11, zm11, zl12, zm12, zl13, zm13, zl14, zm14, zl15, zm15, zl16, zm16, Nat.zero_add, Nat.reduceAdd, Int.reduceAdd, Int.reduceSub, Int.reduceMul, Int.reduceNeg, Int.reduceEq, Int.reduceLE, Int.reduceLT, Int.reduceToNat, Int.reducePow, decide_true, decide_false, cn0, cn1, cn2, cn3, cn4, cn5, cn6, cn7, cn8, cn9, cn10, cn11, cn12, List.set_cons_zero, List.set_cons_succ, tn0, tn1, tn2, tn3, tn4, tn5, tn6, tn7, tn8, eLn_ap, tLn_ap, lnd_nil, lnd_cons, lend_ow, lend_dc, lend_un, lend_vl, scD_bl, scD_int, scD_non, scD_str, sParL_ap, frz_ap, chL_ap, chK_ap, chLt_ap, chKt_ap, asB_ap], rfl⟩) (by simp only [rs, wp, gt_zero, gt_succ, st_zero, st_succ, h9])
  have g2 := forGo_mem (enc := D.int) (g := gN 9) (body := L__law_large_right_2) (fun r S => True ∧ ∃ c9 c10, kp c9 = c9 ∧ kp c10 = c10 ∧ S = [.ow true b1, .vl (wsD ws), .vl (tsD ts), .vl (.int (e : Int)), .vl (wD w), .ow false (R.map wD), .vl (.lst (M.map D.int)), z7, z8, c9, c10, .un])
    (M.filter fun m => decide (w.1 ≤ m) && decide (m ≤ w.2)) [.ow true b1, .vl (wsD ws), .vl (tsD ts), .vl (.int (e : Int)), .vl (wD w), .ow false (R.map wD), .vl (.lst (M.map D.int)), z7, z8, c9, c10, .un] ⟨trivial, c9, c10, h9, h10, rfl⟩ (by
      rintro m r S hm _ ⟨_, c9, c10, _, _, rfl⟩
      have hm' := (List.mem_filter.mp hm).2
      rw [Bool.and_eq_true, decide_eq_true_eq, decide_eq_true_eq] at hm'
      have ka := law_at_ok hw ht hel (m := m) (by omega) (by omega)
      have c3 : ∀ q0 q7 q8 q10 : C, C__law_large_right_3 [q0, .vl (wsD ws), .vl (tsD ts), .vl (.int (e : Int)), .vl (wD w), .vl (.lst (R.map wD)), .vl (.lst (M.map D.int)), q7, q8, .vl (.int m), q10, .un] = some (.ok (.lst ((R.filter fun v => decide (v.1 ≤ m) && decide (m ≤ v.2)).map wD)) [q0, .vl (wsD ws), .vl (tsD ts), .vl (.int (e : Int)), .vl (wD w), .vl (.lst (R.map wD)), .vl (.lst (M.map D.int)), q7, q8, .vl (.int m), q10, .un]) := fun q0 q7 q8 q10 =>
        lcE_pureS (enc := wD) (fun v => decide (v.1 ≤ m) && decide (m ≤ v.2)) wD rfl (by omega) (fun v _ => ⟨_, rfl, by simp only [wp, vls_nil, vls_cons, uns_zero, uns_succ, gt_zero, gt_succ, st_zero, st_succ, bnd_ap, ret_ap, lift_some, eC_ap, eV_ap, e2_ap, eB_ap, eNot_ap, tNot_ap, tAnd_app, tOr_app, ite_ap, eAnd_ap, eOr_ap, e3_app, eIf_ap, brk_ap, brk'_ap, ite_bl, ite_bo, ite_tb, ite_to, ↓reduceIte, Bool.false_eq_true, Bool.not_true, Bool.not_false, aN_ap, aC_ap, eT_ap, eL_ap, fL_ap, eB1_ap, eIsi_ap, eIsiA_ap, e1n_ap, oS_ap, eSl_ap, eCall_ap, fCall_ap, eCall1_ap, eOx_ap, eDGet_ap, eDSort_ap, iS_ap, iR1_ap, iR2_ap, iE_ap, iZ_ap, gN_ap, gT2, gT3, sSeq_ap, sNext_ap, sExpr_ap, sRet_ap, sRetF_ap, sIf_ap, sAsg_ap, sPar_ap, sParD_ap, sPut_ap, sDPut_ap, sBind_ap, sOwn_ap, sApp_ap, sRetO_ap, eSortSet_ap, sFor_ap, sBag_ap, finB_2, own0_ap, fin0_0, fin1_0, fin0_1, fin1_1, fin0_2, fin1_2, fin0_3, fin1_3, fin0_4, fin1_4, fin0_5, fin1_5, fin0_6, fin1_6, fin0_7, fin1_7, fin0_8, fin1_8, dI0_ap, dAdd_ii, dLen_t, dLen_l, dTuple_l, dTuple_t, dList_l, dList_t, dMax_ii, dMin_ii, dIx_t, dIx_l, atI_0, atI_1, atI_2, atI_3, dSl_t, dSl_l, dSl_s, dNe_ii, dEq_ii, ifz, ifz', Option.map_some, List.length_cons, List.length_nil, List.length_append, List.length_map, zl0, zm0, zl1, zm1, zl2, zm2, zl3, zm3, zl4, zm4, zl5, zm5, zl6, zm6, zl7, zm7, zl8, zm8, zl9, zm9, zl10, zm10, zl11, zm11, zl12, zm12, zl13, zm13, zl14, zm14, zl15, zm15, zl16, zm16, Nat.zero_add, Nat.reduceAdd, Int.reduceAdd, Int.reduceSub, Int.reduceMul, Int.reduceNeg, Int.reduceEq, Int.reduceLE, Int.reduceLT, Int.reduceToNat, Int.reducePow, decide_true, decide_false, cn0, cn1, cn2, cn3, cn4, cn5, cn6, cn7, cn8, cn9, cn10, cn11, cn12, List.set_cons_zero, List.set_cons_succ, tn0, tn1, tn2, tn3, tn4, tn5, tn6, tn7, tn8, eLn_ap, tLn_ap, lnd_nil, lnd_cons, lend_ow, lend_dc, lend_un, lend_vl, scD_bl, scD_int, scD_non, scD_str, sParL_ap, frz_ap, chL_ap, chK_ap, chLt_ap, chKt_ap, asB_ap, e3_app, y0, y1], fun _ => by simp only [wp, vls_nil, vls_cons, uns_zero, uns_succ, gt_zero, gt_succ, st_zero, st_succ, bnd_ap, ret_ap, lift_some, eC_ap, eV_ap, e2_ap, eB_ap, eNot_ap, tNot_ap, tAnd_app, tOr_app, ite_ap, eAnd_ap, eOr_ap, e3_app, eIf_ap, brk_ap, brk'_ap, ite_bl, ite_bo, ite_tb, ite_to, ↓reduceIte, Bool.false_eq_true, Bool.not_true, Bool.not_false, aN_ap, aC_ap, eT_ap, eL_ap, fL_ap, eB1_ap, eIsi_ap, eIsiA_ap, e1n_ap, oS_ap, eSl_ap, eCall_ap, fCall_ap, eCall1_ap, eOx_ap, eDGet_ap, eDSort_ap, iS_ap, iR1_ap, iR2_ap, iE_ap, iZ_ap, gN_ap, gT2, gT3, sSeq_ap, sNext_ap, sExpr_ap, sRet_ap, sRetF_ap, sIf_ap, sAsg_ap, sPar_ap, sParD_ap, sPut_ap, sDPut_ap, sBind_ap, sOwn_ap, sApp_ap, sRetO_ap, eSortSet_ap, sFor_ap, sBag_ap, finB_2, own0_ap, fin0_0, fin1_0, fin0_1, fin1_1, fin0_2, fin1_2, fin0_3, fin1_3, fin0_4, fin1_4, fin0_5, fin1_5, fin0_6, fin1_6, fin0_7, fin1_7, fin0_8, fin1_8, dI0_ap, dAdd_ii, dLen_t, dLen_l, dTuple_l, dTuple_t, dList_l, dList_t, dMax_ii, dMin_ii, dIx_t, dIx_l, atI_0, atI_1, atI_2, atI_3, dSl_t, dSl_l, dSl_s, dNe_ii, dEq_ii, ifz, ifz', Option.map_some, List.length_cons, List.length_nil, List.length_append, List.length_map, zl0, zm0, zl1, zm1, zl2, zm2, zl3, zm3, zl4, zm4, zl5, zm5, zl6, zm6, zl7, zm7, zl8, zm8, zl9, zm9, zl10, zm10, zl11, zm11, zl12, zm12, zl13, zm13, zl14, zm14, zl15, zm15, zl16, zm16, Nat.zero_add, Nat.reduceAdd, Int.reduceAdd, Int.reduceSub, Int.reduceMul, Int.reduceNeg, Int.reduceEq, Int.reduceLE, Int.reduceLT, Int.reduceToNat, Int.reducePow, decide_true, decide_false, cn0, cn1, cn2, cn3, cn4, cn5, cn6, cn7, cn8, cn9, cn10, cn11, cn12, List.set_cons_zero, List.set_cons_succ, tn0, tn1, tn2, tn3, tn4, tn5, tn6, tn7, tn8, eLn_ap, tLn_ap, lnd_nil, lnd_cons, lend_ow, lend_dc, lend_un, lend_vl, scD_bl, scD_int, scD_non, scD_str, sParL_ap, frz_ap, chL_ap, chK_ap, chLt_ap, chKt_ap, asB_ap], rfl⟩) rfl
      have n3 := dEq_lst0 (l := R) (p := fun v => decide (v.1 ≤ m) && decide (m ≤ v.2))
      have hany : (R.any fun v => decide (v.1 ≤ m) && decide (m ≤ v.2)) = poss ws ts e m := by
        have h1 : (R.any fun v => decide (v.1 ≤ m) && decide (m ≤ v.2)) = true ↔ poss ws ts e m = true := by
          rw [List.any_eq_true]
          have : (∃ v ∈ R, v.1 ≤ m ∧ m ≤ v.2) ↔ m ∈ posL ws ts e w := by rw [← hR]; exact mem_joined
          constructor
          · rintro ⟨v, hv, hq⟩
            rw [Bool.and_eq_true, decide_eq_true_eq, decide_eq_true_eq] at hq
            have := this.mp ⟨v, hv, hq⟩
            unfold posL at this
            exact (List.mem_filter.mp this).2
          · intro hq
            obtain ⟨v, hv, h1, h2⟩ := this.mpr (by unfold posL; exact List.mem_filter.mpr ⟨mem_rngI.mpr hm', hq⟩)
            exact ⟨v, hv, by rw [decide_eq_true h1, decide_eq_true h2]; rfl⟩
        cases q1 : (R.any fun v => decide (v.1 ≤ m) && decide (m ≤ v.2)) with
        | true => exact (h1.mp q1).symm
        | false =>
          cases q2 : poss ws ts e m with
          | false => rfl
          | true => rw [h1.mpr q2] at q1; cases q1
      rw [hany] at n3
      refine ⟨_, rfl, [.ow true b1, .vl (wsD ws), .vl (tsD ts), .vl (.int (e : Int)), .vl (wD w), .ow false (R.map wD), .vl (.lst (M.map D.int)), z7, z8, .vl (.int m), .vl (.bl (poss ws ts e m)), .un], .inl ?_, trivial, _, _, rfl, rfl, rfl⟩
      show L__law_large_right_2 [.ow true b1, .vl (wsD ws), .vl (tsD ts), .vl (.int (e : Int)), .vl (wD w), .ow false (R.map wD), .vl (.lst (M.map D.int)), z7, z8, .vl (.int m), c10, .un] = _
      unfold L__law_large_right_2
      simp only [vls_nil, vls_cons, uns_zero, uns_succ, gt_zero, gt_succ, st_zero, st_succ, bnd_ap, ret_ap, lift_some, eC_ap, eV_ap, e2_ap, eB_ap, eNot_ap, tNot_ap, tAnd_app, tOr_app, ite_ap, eAnd_ap, eOr_ap, e3_app, eIf_ap, brk_ap, brk'_ap, ite_bl, ite_bo, ite_tb, ite_to, ↓reduceIte, Bool.false_eq_true, Bool.not_true, Bool.not_false, aN_ap, aC_ap, eT_ap, eL_ap, fL_ap, eB1_ap, eIsi_ap, eIsiA_ap, e1n_ap, oS_ap, eSl_ap, eCall_ap, fCall_ap, eCall1_ap, eOx_ap, eDGet_ap, eDSort_ap, iS_ap, iR1_ap, iR2_ap, iE_ap, iZ_ap, gN_ap, gT2, gT3, sSeq_ap, sNext_ap, sExpr_ap, sRet_ap, sRetF_ap, sIf_ap, sAsg_ap, sPar_ap, sParD_ap, sPut_ap, sDPut_ap, sBind_ap, sOwn_ap, sApp_ap, sRetO_ap, eSortSet_ap, sFor_ap, sBag_ap, finB_2, own0_ap, fin0_0, fin1_0, fin0_1, fin1_1, fin0_2, fin1_2, fin0_3, fin1_3, fin0_4, fin1_4, fin0_5, fin1_5, fin0_6, fin1_6, fin0_7, fin1_7, fin0_8, fin1_8, dI0_ap, dAdd_ii, dLen_t, dLen_l, dTuple_l, dTuple_t, dList_l, dList_t, dMax_ii, dMin_ii, dIx_t, dIx_l, atI_0, atI_1, atI_2, atI_3, dSl_t, dSl_l, dSl_s, dNe_ii, dEq_ii, ifz, ifz', Option.map_some, List.length_cons, List.length_nil, List.length_append, List.length_map, zl0, zm0, zl1, zm1, zl2, zm2, zl3, zm3, zl4, zm4, zl5, zm5, zl6, zm6, zl7, zm7, zl8, zm8, zl9, zm9, zl10, zm10, zl11, zm11, zl12, zm12, zl13, zm13, zl14, zm14, zl15, zm15, zl16, zm16, Nat.zero_add, Nat.reduceAdd, Int.reduceAdd, Int.reduceSub, Int.reduceMul, Int.reduceNeg, Int.reduceEq, Int.reduceLE, Int.reduceLT, Int.reduceToNat, Int.reducePow, decide_true, decide_false, cn0, cn1, cn2, cn3, cn4, cn5, cn6, cn7, cn8, cn9, cn10, cn11, cn12, List.set_cons_zero, List.set_cons_succ, tn0, tn1, tn2, tn3, tn4, tn5, tn6, tn7, tn8, eLn_ap, tLn_ap, lnd_nil, lnd_cons, lend_ow, lend_dc, lend_un, lend_vl, scD_bl, scD_int, scD_non, scD_str, sParL_ap, frz_ap, chL_ap, chK_ap, chLt_ap, chKt_ap, asB_ap, c3, n3, ka, dNe_bl, BEq.rfl])
  obtain ⟨S2, ee2, _, f9, f10, k9, k10, rfl⟩ := g2
  have hz : (R.map wD).length < 16777216 := by rw [List.length_map]; omega
  refine ⟨b1, .ow false (R.map wD ++ [.non]), .vl (.lst (M.map D.int)), z7, z8, f9, f10, ?_, hb1, k7, k8, k9, k10, rfl⟩
  unfold L__law_large_right_3
  refine (sSeq_nx (S' := [.ow true b, .vl (wsD ws), .vl (tsD ts), .vl (.int (e : Int)), .vl (wD w), .ow false (R.map wD), c6, c7, c8, c9, c10, .un]) (by simp only [vls_nil, vls_cons, uns_zero, uns_succ, gt_zero, gt_succ, st_zero, st_succ, bnd_ap, ret_ap, lift_some, eC_ap, eV_ap, e2_ap, eB_ap, eNot_ap, tNot_ap, tAnd_app, tOr_app, ite_ap, eAnd_ap, eOr_ap, e3_app, eIf_ap, brk_ap, brk'_ap, ite_bl, ite_bo, ite_tb, ite_to, ↓reduceIte, Bool.false_eq_true, Bool.not_true, Bool.not_false, aN_ap, aC_ap, eT_ap, eL_ap, fL_ap, eB1_ap, eIsi_ap, eIsiA_ap, e1n_ap, oS_ap, eSl_ap, eCall_ap, fCall_ap, eCall1_ap, eOx_ap, eDGet_ap, eDSort_ap, iS_ap, iR1_ap, iR2_ap, iE_ap, iZ_ap, gN_ap, gT2, gT3, sSeq_ap, sNext_ap, sExpr_ap, sRet_ap, sRetF_ap, sIf_ap, sAsg_ap, sPar_ap, sParD_ap, sPut_ap, sDPut_ap, sBind_ap, sOwn_ap, sApp_ap, sRetO_ap, eSortSet_ap, sFor_ap, sBag_ap, finB_2, own0_ap, fin0_0, fin1_0, fin0_1, fin1_1, fin0_2, fin1_2, fin0_3, fin1_3, fin0_4, fin1_4, fin0_5, fin1_5, fin0_6, fin1_6, fin0_7, fin1_7, fin0_8, fin1_8, dI0_ap, dAdd_ii, dLen_t, dLen_l, dTuple_l, dTuple_t, dList_l, dList_t, dMax_ii, dMin_ii, dIx_t, dIx_l, atI_0, atI_1, atI_2, atI_3, dSl_t, dSl_l, dSl_s, dNe_ii, dEq_ii, ifz, ifz', Option.map_some, List.length_cons, List.length_nil, List.length_append, List.length_map, zl0, zm0, zl1, zm1, zl2, zm2, zl3, zm3, zl4, zm4, zl5, zm5, zl6, zm6, zl7, zm7, zl8, zm8, zl9, zm9, zl10, zm10, zl11, zm11, zl12, zm12, zl13, zm13, zl14, zm14, zl15, zm15, zl16, zm16, Nat.zero_add, Nat.reduceAdd, Int.reduceAdd, Int.reduceSub, Int.reduceMul, Int.reduceNeg, Int.reduceEq, Int.reduceLE, Int.reduceLT, Int.reduceToNat, Int.reducePow, decide_true, decide_false, cn0, cn1, cn2, cn3, cn4, cn5, cn6, cn7, cn8, cn9, cn10, cn11, cn12, List.set_cons_zero, List.set_cons_succ, tn0, tn1, tn2, tn3, tn4, tn5, tn6, tn7, tn8, eLn_ap, tLn_ap, lnd_nil, lnd_cons, lend_ow, lend_dc, lend_un, lend_vl, scD_bl, scD_int, scD_non, scD_str, sParL_ap, frz_ap, chL_ap, chK_ap, chLt_ap, chKt_ap, asB_ap, ke])).trans ?_
  refine (sSeq_nx (S' := [.ow true b, .vl (wsD ws), .vl (tsD ts), .vl (.int (e : Int)), .vl (wD w), .ow false (R.map wD), c6, c7, c8, c9, c10, .un]) (by simp only [vls_nil, vls_cons, uns_zero, uns_succ, gt_zero, gt_succ, st_zero, st_succ, bnd_ap, ret_ap, lift_some, eC_ap, eV_ap, e2_ap, eB_ap, eNot_ap, tNot_ap, tAnd_app, tOr_app, ite_ap, eAnd_ap, eOr_ap, e3_app, eIf_ap, brk_ap, brk'_ap, ite_bl, ite_bo, ite_tb, ite_to, ↓reduceIte, Bool.false_eq_true, Bool.not_true, Bool.not_false, aN_ap, aC_ap, eT_ap, eL_ap, fL_ap, eB1_ap, eIsi_ap, eIsiA_ap, e1n_ap, oS_ap, eSl_ap, eCall_ap, fCall_ap, eCall1_ap, eOx_ap, eDGet_ap, eDSort_ap, iS_ap, iR1_ap, iR2_ap, iE_ap, iZ_ap, gN_ap, gT2, gT3, sSeq_ap, sNext_ap, sExpr_ap, sRet_ap, sRetF_ap, sIf_ap, sAsg_ap, sPar_ap, sParD_ap, sPut_ap, sDPut_ap, sBind_ap, sOwn_ap, sApp_ap, sRetO_ap, eSortSet_ap, sFor_ap, sBag_ap, finB_2, own0_ap, fin0_0, fin1_0, fin0_1, fin1_1, fin0_2, fin1_2, fin0_3, fin1_3, fin0_4, fin1_4, fin0_5, fin1_5, fin0_6, fin1_6, fin0_7, fin1_7, fin0_8, fin1_8, dI0_ap, dAdd_ii, dLen_t, dLen_l, dTuple_l, dTuple_t, dList_l, dList_t, dMax_ii, dMin_ii, dIx_t, dIx_l, atI_0, atI_1, atI_2, atI_3, dSl_t, dSl_l, dSl_s, dNe_ii, dEq_ii, ifz, ifz', Option.map_some, List.length_cons, List.length_nil, List.length_append, List.length_map, zl0, zm0, zl1, zm1, zl2, zm2, zl3, zm3, zl4, zm4, zl5, zm5, zl6, zm6, zl7, zm7, zl8, zm8, zl9, zm9, zl10, zm10, zl11, zm11, zl12, zm12, zl13, zm13, zl14, zm14, zl15, zm15, zl16, zm16, Nat.zero_add, Nat.reduceAdd, Int.reduceAdd, Int.reduceSub, Int.reduceMul, Int.reduceNeg, Int.reduceEq, Int.reduceLE, Int.reduceLT, Int.reduceToNat, Int.reducePow, decide_true, decide_false, cn0, cn1, cn2, cn3, cn4, cn5, cn6, cn7, cn8, cn9, cn10, cn11, cn12, List.set_cons_zero, List.set_cons_succ, tn0, tn1, tn2, tn3, tn4, tn5, tn6, tn7, tn8, eLn_ap, tLn_ap, lnd_nil, lnd_cons, lend_ow, lend_dc, lend_un, lend_vl, scD_bl, scD_int, scD_non, scD_str, sParL_ap, frz_ap, chL_ap, chK_ap, chLt_ap, chKt_ap, asB_ap, dIsi, inst, srt, n1])).trans ?_
  have lk : ∀ c : C, kp c = c → lend c = c := fun c h => by cases c <;> first | rfl | cases h
  refine (sSeq_nx (S' := [.ow true b, .vl (wsD ws), .vl (tsD ts), .vl (.int (e : Int)), .vl (wD w), .ow false (R.map wD), c6, c7, c8, c9, c10, .un]) (by simp only [vls_nil, vls_cons, uns_zero, uns_succ, gt_zero, gt_succ, st_zero, st_succ, bnd_ap, ret_ap, lift_some, eC_ap, eV_ap, e2_ap, eB_ap, eNot_ap, tNot_ap, tAnd_app, tOr_app, ite_ap, eAnd_ap, eOr_ap, e3_app, eIf_ap, brk_ap, brk'_ap, ite_bl, ite_bo, ite_tb, ite_to, ↓reduceIte, Bool.false_eq_true, Bool.not_true, Bool.not_false, aN_ap, aC_ap, eT_ap, eL_ap, fL_ap, eB1_ap, eIsi_ap, eIsiA_ap, e1n_ap, oS_ap, eSl_ap, eCall_ap, fCall_ap, eCall1_ap, eOx_ap, eDGet_ap, eDSort_ap, iS_ap, iR1_ap, iR2_ap, iE_ap, iZ_ap, gN_ap, gT2, gT3, sSeq_ap, sNext_ap, sExpr_ap, sRet_ap, sRetF_ap, sIf_ap, sAsg_ap, sPar_ap, sParD_ap, sPut_ap, sDPut_ap, sBind_ap, sOwn_ap, sApp_ap, sRetO_ap, eSortSet_ap, sFor_ap, sBag_ap, finB_2, own0_ap, fin0_0, fin1_0, fin0_1, fin1_1, fin0_2, fin1_2, fin0_3, fin1_3, fin0_4, fin1_4, fin0_5, fin1_5, fin0_6, fin1_6, fin0_7, fin1_7, fin0_8, fin1_8, dI0_ap, dAdd_ii, dLen_t, dLen_l, dTuple_l, dTuple_t, dList_l, dList_t, dMax_ii, dMin_ii, dIx_t, dIx_l, atI_0, atI_1, atI_2, atI_3, dSl_t, dSl_l, dSl_s, dNe_ii, dEq_ii, ifz, ifz', Option.map_some, List.length_cons, List.length_nil, List.length_append, List.length_map, zl0, zm0, zl1, zm1, zl2, zm2, zl3, zm3, zl4, zm4, zl5, zm5, zl6, zm6, zl7, zm7, zl8, zm8, zl9, zm9, zl10, zm10, zl11, zm11, zl12, zm12, zl13, zm13, zl14, zm14, zl15, zm15, zl16, zm16, Nat.zero_add, Nat.reduceAdd, Int.reduceAdd, Int.reduceSub, Int.reduceMul, Int.reduceNeg, Int.reduceEq, Int.reduceLE, Int.reduceLT, Int.reduceToNat, Int.reducePow, decide_true, decide_false, cn0, cn1, cn2, cn3, cn4, cn5, cn6, cn7, cn8, cn9, cn10, cn11, cn12, List.set_cons_zero, List.set_cons_succ, tn0, tn1, tn2, tn3, tn4, tn5, tn6, tn7, tn8, eLn_ap, tLn_ap, lnd_nil, lnd_cons, lend_ow, lend_dc, lend_un, lend_vl, scD_bl, scD_int, scD_non, scD_str, sParL_ap, frz_ap, chL_ap, chK_ap, chLt_ap, chKt_ap, asB_ap, lk _ h6, lk _ h7, lk _ h8, lk _ h9, lk _ h10, c1, n2])).trans ?_
  refine (sSeq_nx (S' := [.ow true b1, .vl (wsD ws), .vl (tsD ts), .vl (.int (e : Int)), .vl (wD w), .ow false (R.map wD), .vl (.lst [.int w.1, .int w.2, .int (w.1 + u)]), c7, c8, c9, c10, .un]) (by simp only [vls_nil, vls_cons, uns_zero, uns_succ, gt_zero, gt_succ, st_zero, st_succ, bnd_ap, ret_ap, lift_some, eC_ap, eV_ap, e2_ap, eB_ap, eNot_ap, tNot_ap, tAnd_app, tOr_app, ite_ap, eAnd_ap, eOr_ap, e3_app, eIf_ap, brk_ap, brk'_ap, ite_bl, ite_bo, ite_tb, ite_to, ↓reduceIte, Bool.false_eq_true, Bool.not_true, Bool.not_false, aN_ap, aC_ap, eT_ap, eL_ap, fL_ap, eB1_ap, eIsi_ap, eIsiA_ap, e1n_ap, oS_ap, eSl_ap, eCall_ap, fCall_ap, eCall1_ap, eOx_ap, eDGet_ap, eDSort_ap, iS_ap, iR1_ap, iR2_ap, iE_ap, iZ_ap, gN_ap, gT2, gT3, sSeq_ap, sNext_ap, sExpr_ap, sRet_ap, sRetF_ap, sIf_ap, sAsg_ap, sPar_ap, sParD_ap, sPut_ap, sDPut_ap, sBind_ap, sOwn_ap, sApp_ap, sRetO_ap, eSortSet_ap, sFor_ap, sBag_ap, finB_2, own0_ap, fin0_0, fin1_0, fin0_1, fin1_1, fin0_2, fin1_2, fin0_3, fin1_3, fin0_4, fin1_4, fin0_5, fin1_5, fin0_6, fin1_6, fin0_7, fin1_7, fin0_8, fin1_8, dI0_ap, dAdd_ii, dLen_t, dLen_l, dTuple_l, dTuple_t, dList_l, dList_t, dMax_ii, dMin_ii, dIx_t, dIx_l, atI_0, atI_1, atI_2, atI_3, dSl_t, dSl_l, dSl_s, dNe_ii, dEq_ii, ifz, ifz', Option.map_some, List.length_cons, List.length_nil, List.length_append, List.length_map, zl0, zm0, zl1, zm1, zl2, zm2, zl3, zm3, zl4, zm4, zl5, zm5, zl6, zm6, zl7, zm7, zl8, zm8, zl9, zm9, zl10, zm10, zl11, zm11, zl12, zm12, zl13, zm13, zl14, zm14, zl15, zm15, zl16, zm16, Nat.zero_add, Nat.reduceAdd, Int.reduceAdd, Int.reduceSub, Int.reduceMul, Int.reduceNeg, Int.reduceEq, Int.reduceLE, Int.reduceLT, Int.reduceToNat, Int.reducePow, decide_true, decide_false, cn0, cn1, cn2, cn3, cn4, cn5, cn6, cn7, cn8, cn9, cn10, cn11, cn12, List.set_cons_zero, List.set_cons_succ, tn0, tn1, tn2, tn3, tn4, tn5, tn6, tn7, tn8, eLn_ap, tLn_ap, lnd_nil, lnd_cons, lend_ow, lend_dc, lend_un, lend_vl, scD_bl, scD_int, scD_non, scD_str, sParL_ap, frz_ap, chL_ap, chK_ap, chLt_ap, chKt_ap, asB_ap, x0, x1, e1])).trans ?_
  refine (sSeq_nx sO).trans ?_
  refine (sSeq_nx ((sFor_go (by simp only [vls_nil, vls_cons, uns_zero, uns_succ, gt_zero, gt_succ, st_zero, st_succ, bnd_ap, ret_ap, lift_some, eC_ap, eV_ap, e2_ap, eB_ap, eNot_ap, tNot_ap, tAnd_app, tOr_app, ite_ap, eAnd_ap, eOr_ap, e3_app, eIf_ap, brk_ap, brk'_ap, ite_bl, ite_bo, ite_tb, ite_to, ↓reduceIte, Bool.false_eq_true, Bool.not_true, Bool.not_false, aN_ap, aC_ap, eT_ap, eL_ap, fL_ap, eB1_ap, eIsi_ap, eIsiA_ap, e1n_ap, oS_ap, eSl_ap, eCall_ap, fCall_ap, eCall1_ap, eOx_ap, eDGet_ap, eDSort_ap, iS_ap, iR1_ap, iR2_ap, iE_ap, iZ_ap, gN_ap, gT2, gT3, sSeq_ap, sNext_ap, sExpr_ap, sRet_ap, sRetF_ap, sIf_ap, sAsg_ap, sPar_ap, sParD_ap, sPut_ap, sDPut_ap, sBind_ap, sOwn_ap, sApp_ap, sRetO_ap, eSortSet_ap, sFor_ap, sBag_ap, finB_2, own0_ap, fin0_0, fin1_0, fin0_1, fin1_1, fin0_2, fin1_2, fin0_3, fin1_3, fin0_4, fin1_4, fin0_5, fin1_5, fin0_6, fin1_6, fin0_7, fin1_7, fin0_8, fin1_8, dI0_ap, dAdd_ii, dLen_t, dLen_l, dTuple_l, dTuple_t, dList_l, dList_t, dMax_ii, dMin_ii, dIx_t, dIx_l, atI_0, atI_1, atI_2, atI_3, dSl_t, dSl_l, dSl_s, dNe_ii, dEq_ii, ifz, ifz', Option.map_some, List.length_cons, List.length_nil, List.length_append, List.length_map, zl0, zm0, zl1, zm1, zl2, zm2, zl3, zm3, zl4, zm4, zl5, zm5, zl6, zm6, zl7, zm7, zl8, zm8, zl9, zm9, zl10, zm10, zl11, zm11, zl12, zm12, zl13, zm13, zl14, zm14, zl15, zm15, zl16, zm16, Nat.zero_add, Nat.reduceAdd, Int.reduceAdd, Int.reduceSub, Int.reduceMul, Int.reduceNeg, Int.reduceEq, Int.reduceLE, Int.reduceLT, Int.reduceToNat, Int.reducePow, decide_true, decide_false, cn0, cn1, cn2, cn3, cn4, cn5, cn6, cn7, cn8, cn9, cn10, cn11, cn12, List.set_cons_zero, List.set_cons_succ, tn0, tn1, tn2, tn3, tn4, tn5, tn6, tn7, tn8, eLn_ap, tLn_ap, lnd_nil, lnd_cons, lend_ow, lend_dc, lend_un, lend_vl, scD_bl, scD_int, scD_non, scD_str, sParL_ap, frz_ap, chL_ap, chK_ap, chLt_ap, chKt_ap, asB_ap, c2])).trans ee2)).trans ?_
  refine (sSeq_nx (S' := [.ow true b1, .vl (wsD ws), .vl (tsD ts), .vl (.int (e : Int)), .vl (wD w), .ow false (R.map wD ++ [.non]), .vl (.lst (M.map D.int)), z7, z8, f9, f10, .un]) (by simp only [vls_nil, vls_cons, uns_zero, uns_succ, gt_zero, gt_succ, st_zero, st_succ, bnd_ap, ret_ap, lift_some, eC_ap, eV_ap, e2_ap, eB_ap, eNot_ap, tNot_ap, tAnd_app, tOr_app, ite_ap, eAnd_ap, eOr_ap, e3_app, eIf_ap, brk_ap, brk'_ap, ite_bl, ite_bo, ite_tb, ite_to, ↓reduceIte, Bool.false_eq_true, Bool.not_true, Bool.not_false, aN_ap, aC_ap, eT_ap, eL_ap, fL_ap, eB1_ap, eIsi_ap, eIsiA_ap, e1n_ap, oS_ap, eSl_ap, eCall_ap, fCall_ap, eCall1_ap, eOx_ap, eDGet_ap, eDSort_ap, iS_ap, iR1_ap, iR2_ap, iE_ap, iZ_ap, gN_ap, gT2, gT3, sSeq_ap, sNext_ap, sExpr_ap, sRet_ap, sRetF_ap, sIf_ap, sAsg_ap, sPar_ap, sParD_ap, sPut_ap, sDPut_ap, sBind_ap, sOwn_ap, sApp_ap, sRetO_ap, eSortSet_ap, sFor_ap, sBag_ap, finB_2, own0_ap, fin0_0, fin1_0, fin0_1, fin1_1, fin0_2, fin1_2, fin0_3, fin1_3, fin0_4, fin1_4, fin0_5, fin1_5, fin0_6, fin1_6, fin0_7, fin1_7, fin0_8, fin1_8, dI0_ap, dAdd_ii, dLen_t, dLen_l, dTuple_l, dTuple_t, dList_l, dList_t, dMax_ii, dMin_ii, dIx_t, dIx_l, atI_0, atI_1, atI_2, atI_3, dSl_t, dSl_l, dSl_s, dNe_ii, dEq_ii, ifz, ifz', Option.map_some, List.length_cons, List.length_nil, List.length_append, List.length_map, zl0, zm0, zl1, zm1, zl2, zm2, zl3, zm3, zl4, zm4, zl5, zm5, zl6, zm6, zl7, zm7, zl8, zm8, zl9, zm9, zl10, zm10, zl11, zm11, zl12, zm12, zl13, zm13, zl14, zm14, zl15, zm15, zl16, zm16, Nat.zero_add, Nat.reduceAdd, Int.reduceAdd, Int.reduceSub, Int.reduceMul, Int.reduceNeg, Int.reduceEq, Int.reduceLE, Int.reduceLT, Int.reduceToNat, Int.reducePow, decide_true, decide_false, cn0, cn1, cn2, cn3, cn4, cn5, cn6, cn7, cn8, cn9, cn10, cn11, cn12, List.set_cons_zero, List.set_cons_succ, tn0, tn1, tn2, tn3, tn4, tn5, tn6, tn7, tn8, eLn_ap, tLn_ap, lnd_nil, lnd_cons, lend_ow, lend_dc, lend_un, lend_vl, scD_bl, scD_int, scD_non, scD_str, sParL_ap, frz_ap, chL_ap, chK_ap, chLt_ap, chKt_ap, asB_ap, ifz' hz, ifz' (show R.length < 16777216 by omega)])).trans ?_
  simp only [vls_nil, vls_cons, uns_zero, uns_succ, gt_zero, gt_succ, st_zero, st_succ, bnd_ap, ret_ap, lift_some, eC_ap, eV_ap, e2_ap, eB_ap, eNot_ap, tNot_ap, tAnd_app, tOr_app, ite_ap, eAnd_ap, eOr_ap, e3_app, eIf_ap, brk_ap, brk'_ap, ite_bl, ite_bo, ite_tb, ite_to, ↓reduceIte, Bool.false_eq_true, Bool.not_true, Bool.not_false, aN_ap, aC_ap, eT_ap, eL_ap, fL_ap, eB1_ap, eIsi_ap, eIsiA_ap, e1n_ap, oS_ap, eSl_ap, eCall_ap, fCall_ap, eCall1_ap, eOx_ap, eDGet_ap, eDSort_ap, iS_ap, iR1_ap, iR2_ap, iE_ap, iZ_ap, gN_ap, gT2, gT3, sSeq_ap, sNext_ap, sExpr_ap, sRet_ap, sRetF_ap, sIf_ap, sAsg_ap, sPar_ap, sParD_ap, sPut_ap, sDPut_ap, sBind_ap, sOwn_ap, sApp_ap, sRetO_ap, eSortSet_ap, sFor_ap, sBag_ap, finB_2, own0_ap, fin0_0, fin1_0, fin0_1, fin1_1, fin0_2, fin1_2, fin0_3, fin1_3, fin0_4, fin1_4, fin0_5, fin1_5, fin0_6, fin1_6, fin0_7, fin1_7, fin0_8, fin1_8, dI0_ap, dAdd_ii, dLen_t, dLen_l, dTuple_l, dTuple_t, dList_l, dList_t, dMax_ii, dMin_ii, dIx_t, dIx_l, atI_0, atI_1, atI_2, atI_3, dSl_t, dSl_l, dSl_s, dNe_ii, dEq_ii, ifz, ifz', Option.map_some, List.length_cons, List.length_nil, List.length_append, List.length_map, zl0, zm0, zl1, zm1, zl2, zm2, zl3, zm3, zl4, zm4, zl5, zm5, zl6, zm6, zl7, zm7, zl8, zm8, zl9, zm9, zl10, zm10, zl11, zm11, zl12, zm12, zl13, zm13, zl14, zm14, zl15, zm15, zl16, zm16, Nat.zero_add, Nat.reduceAdd, Int.reduceAdd, Int.reduceSub, Int.reduceMul, Int.reduceNeg, Int.reduceEq, Int.reduceLE, Int.reduceLT, Int.reduceToNat, Int.reducePow, decide_true, decide_false, cn0, cn1, cn2, cn3, cn4, cn5, cn6, cn7, cn8, cn9, cn10, cn11, cn12, List.set_cons_zero, List.set_cons_succ, tn0, tn1, tn2, tn3, tn4, tn5, tn6, tn7, tn8, eLn_ap, tLn_ap, lnd_nil, lnd_cons, lend_ow, lend_dc, lend_un, lend_vl, scD_bl, scD_int, scD_non, scD_str, sParL_ap, frz_ap, chL_ap, chK_ap, chLt_ap, chKt_ap, asB_ap, ke, cut_last, n1]
theorem large_ok {ws : List Win} {ts : List Tal} (hw : WsOk ws) (ht : TsOk ws.length ts) {k : Nat} {b : List D} (hb : Bag (k + 100) b) : ∃ b', m__law_large_right b [wsD ws, tsD ts] = some (.bl true, b') ∧ Bag k b' := by
  have hlw := hw.len
  have hgo := forGo_mem (enc := fun p : Win × Nat => D.tup [.int (p.2 : Int), wD p.1]) (g := gT [3, 4]) (body := L__law_large_right_3) (fun r S => ∃ b c3 c4 c5 c6 c7 c8 c9 c10, Bag (k + 10 * r.length) b ∧ kp c7 = c7 ∧ kp c8 = c8 ∧ kp c9 = c9 ∧ kp c10 = c10 ∧ kp c6 = c6 ∧ S = [.ow true b, .vl (wsD ws), .vl (tsD ts), c3, c4, c5, c6, c7, c8, c9, c10, .un])
    (ws.zipIdx 0) [.ow true b, .vl (wsD ws), .vl (tsD ts), .un, .un, .un, .un, .un, .un, .un, .un, .un] ⟨b, _, _, _, _, _, _, _, _, hb.le (by rw [List.length_zipIdx]; omega), rfl, rfl, rfl, rfl, rfl, rfl⟩ (by
      rintro x r S hx _ ⟨b, c3, c4, c5, c6, c7, c8, c9, c10, hb, k7, k8, k9, k10, k6, rfl⟩
      obtain ⟨b', d5, d6, d7, d8, d9, d10, e, h, j7, j8, j9, j10, j6⟩ := large1_ok hw ht (mem_enum hx) (k := k + 10 * r.length) (b := b) (hb.le (by rw [List.length_cons]; omega)) (c5 := c5) k7 k8 k9 k10 k6
      exact ⟨_, gT2, _, .inl e, b', _, _, _, _, _, _, _, _, h, j7, j8, j9, j10, j6, rfl⟩)
  obtain ⟨S', e, b', c3, c4, c5, c6, c7, c8, c9, c10, hb', _, _, _, _, _, rfl⟩ := hgo
  have ei : iE (aC (eV 1) aN) [.ow true b, .vl (wsD ws), .vl (tsD ts), .un, .un, .un, .un, .un, .un, .un, .un, .un] = some (.ok ((ws.zipIdx 0).map fun p : Win × Nat => D.tup [.int (p.2 : Int), wD p.1]) [.ow true b, .vl (wsD ws), .vl (tsD ts), .un, .un, .un, .un, .un, .un, .un, .un, .un]) := by simp only [vls_nil, vls_cons, uns_zero, uns_succ, gt_zero, gt_succ, st_zero, st_succ, bnd_ap, ret_ap, lift_some, eC_ap, eV_ap, e2_ap, eB_ap, eNot_ap, tNot_ap, tAnd_app, tOr_app, ite_ap, eAnd_ap, eOr_ap, e3_app, eIf_ap, brk_ap, brk'_ap, ite_bl, ite_bo, ite_tb, ite_to, ↓reduceIte, Bool.false_eq_true, Bool.not_true, Bool.not_false, aN_ap, aC_ap, eT_ap, eL_ap, fL_ap, eB1_ap, eIsi_ap, eIsiA_ap, e1n_ap, oS_ap, eSl_ap, eCall_ap, fCall_ap, eCall1_ap, eOx_ap, eDGet_ap, eDSort_ap, iS_ap, iR1_ap, iR2_ap, iE_ap, iZ_ap, gN_ap, gT2, gT3, sSeq_ap, sNext_ap, sExpr_ap, sRet_ap, sRetF_ap, sIf_ap, sAsg_ap, sPar_ap, sParD_ap, sPut_ap, sDPut_ap, sBind_ap, sOwn_ap, sApp_ap, sRetO_ap, eSortSet_ap, sFor_ap, sBag_ap, finB_2, own0_ap, fin0_0, fin1_0, fin0_1, fin1_1, fin0_2, fin1_2, fin0_3, fin1_3, fin0_4, fin1_4, fin0_5, fin1_5, fin0_6, fin1_6, fin0_7, fin1_7, fin0_8, fin1_8, dI0_ap, dAdd_ii, dLen_t, dLen_l, dTuple_l, dTuple_t, dList_l, dList_t, dMax_ii, dMin_ii, dIx_t, dIx_l, atI_0, atI_1, atI_2, atI_3, dSl_t, dSl_l, dSl_s, dNe_ii, dEq_ii, ifz, ifz', Option.map_some, List.length_cons, List.length_nil, List.length_append, List.length_map, zl0, zm0, zl1, zm1, zl2, zm2, zl3, zm3, zl4, zm4, zl5, zm5, zl6, zm6, zl7, zm7, zl8, zm8, zl9, zm9, zl10, zm10, zl11, zm11, zl12, zm12, zl13, zm13, zl14, zm14, zl15, zm15, zl16, zm16, Nat.zero_add, Nat.reduceAdd, Int.reduceAdd, Int.reduceSub, Int.reduceMul, Int.reduceNeg, Int.reduceEq, Int.reduceLE, Int.reduceLT, Int.reduceToNat, Int.reducePow, decide_true, decide_false, cn0, cn1, cn2, cn3, cn4, cn5, cn6, cn7, cn8, cn9, cn10, cn11, cn12, List.set_cons_zero, List.set_cons_succ, tn0, tn1, tn2, tn3, tn4, tn5, tn6, tn7, tn8, eLn_ap, tLn_ap, lnd_nil, lnd_cons, lend_ow, lend_dc, lend_un, lend_vl, scD_bl, scD_int, scD_non, scD_str, sParL_ap, frz_ap, chL_ap, chK_ap, chLt_ap, chKt_ap, asB_ap, wsD, enumL_map]
  have hb2 : b__law_large_right [.ow true b, .vl (wsD ws), .vl (tsD ts), .un, .un, .un, .un, .un, .un, .un, .un, .un] = some (.rt (.bl true) [.ow true b', .vl (wsD ws), .vl (tsD ts), c3, c4, c5, c6, c7, c8, c9, c10, .un]) := by
    unfold b__law_large_right
    exact (sSeq_nx ((sFor_go ei).trans e)).trans (by simp only [vls_nil, vls_cons, uns_zero, uns_succ, gt_zero, gt_succ, st_zero, st_succ, bnd_ap, ret_ap, lift_some, eC_ap, eV_ap, e2_ap, eB_ap, eNot_ap, tNot_ap, tAnd_app, tOr_app, ite_ap, eAnd_ap, eOr_ap, e3_app, eIf_ap, brk_ap, brk'_ap, ite_bl, ite_bo, ite_tb, ite_to, ↓reduceIte, Bool.false_eq_true, Bool.not_true, Bool.not_false, aN_ap, aC_ap, eT_ap, eL_ap, fL_ap, eB1_ap, eIsi_ap, eIsiA_ap, e1n_ap, oS_ap, eSl_ap, eCall_ap, fCall_ap, eCall1_ap, eOx_ap, eDGet_ap, eDSort_ap, iS_ap, iR1_ap, iR2_ap, iE_ap, iZ_ap, gN_ap, gT2, gT3, sSeq_ap, sNext_ap, sExpr_ap, sRet_ap, sRetF_ap, sIf_ap, sAsg_ap, sPar_ap, sParD_ap, sPut_ap, sDPut_ap, sBind_ap, sOwn_ap, sApp_ap, sRetO_ap, eSortSet_ap, sFor_ap, sBag_ap, finB_2, own0_ap, fin0_0, fin1_0, fin0_1, fin1_1, fin0_2, fin1_2, fin0_3, fin1_3, fin0_4, fin1_4, fin0_5, fin1_5, fin0_6, fin1_6, fin0_7, fin1_7, fin0_8, fin1_8, dI0_ap, dAdd_ii, dLen_t, dLen_l, dTuple_l, dTuple_t, dList_l, dList_t, dMax_ii, dMin_ii, dIx_t, dIx_l, atI_0, atI_1, atI_2, atI_3, dSl_t, dSl_l, dSl_s, dNe_ii, dEq_ii, ifz, ifz', Option.map_some, List.length_cons, List.length_nil, List.length_append, List.length_map, zl0, zm0, zl1, zm1, zl2, zm2, zl3, zm3, zl4, zm4, zl5, zm5, zl6, zm6, zl7, zm7, zl8, zm8, zl9, zm9, zl10, zm10, zl11, zm11, zl12, zm12, zl13, zm13, zl14, zm14, zl15, zm15, zl16, zm16, Nat.zero_add, Nat.reduceAdd, Int.reduceAdd, Int.reduceSub, Int.reduceMul, Int.reduceNeg, Int.reduceEq, Int.reduceLE, Int.reduceLT, Int.reduceToNat, Int.reducePow, decide_true, decide_false, cn0, cn1, cn2, cn3, cn4, cn5, cn6, cn7, cn8, cn9, cn10, cn11, cn12, List.set_cons_zero, List.set_cons_succ, tn0, tn1, tn2, tn3, tn4, tn5, tn6, tn7, tn8, eLn_ap, tLn_ap, lnd_nil, lnd_cons, lend_ow, lend_dc, lend_un, lend_vl, scD_bl, scD_int, scD_non, scD_str, sParL_ap, frz_ap, chL_ap, chK_ap, chLt_ap, chKt_ap, asB_ap])
  refine ⟨b', ?_, hb'.le (by omega)⟩
  unfold m__law_large_right
  simp only [fin1_2, vls_cons, vls_nil, uns_succ, uns_zero, hb2]
  rfl
theorem law5_ok {l : List D} {c0 c2 c3 c4 c5 c6 c7 c8 : C} (hb : Bag 100000000000000000 l) : ∃ l' d2 d3 d4 d5 d6 d7 d8, L_law_5 [c0, .ow false l, c2, c3, c4, c5, c6, c7, c8, .un] = some (.nx [c0, .ow false l', d2, d3, d4, d5, d6, d7, d8, .un]) := by
  have h1 := forGo_inv (enc := fun k : Nat => D.int (0 + (k : Int))) (g := gN 2) (body := L_law_4) (fun r S => ∃ b c2 c3 c4 c5 c6 c7 c8, Bag (10000 + 200 * r.length) b ∧ S = [c0, .ow false b, c2, c3, c4, c5, c6, c7, c8, .un])
    (List.range 5) [c0, .ow false l, c2, c3, c4, c5, c6, c7, c8, .un] ⟨l, _, _, _, _, _, _, _, hb.le (by rw [List.length_range]; omega), rfl⟩ (by
      rintro x r S _ ⟨b, c2, c3, c4, c5, c6, c7, c8, hb, rfl⟩
      obtain ⟨l', d3, d4, d5, d6, d7, d8, e, h⟩ := law4_ok (k := 10000 + 200 * r.length) (c0 := c0) (c2 := .vl (.int (0 + (x : Int)))) (c3 := c3) (c4 := c4) (c5 := c5) (c6 := c6) (c7 := c7) (c8 := c8) (hb.le (by rw [List.length_cons]; omega))
      exact ⟨_, rfl, _, .inl e, l', _, _, _, _, _, _, _, h, rfl⟩)
  obtain ⟨S1, e1, b1, d2, d3, d4, d5, d6, d7, d8, hb1, rfl⟩ := h1
  obtain ⟨ws, b2, e2, hb2, hl, hw⟩ := law_windows_ok (k := 5000) (most := 8) (end_ := 1000) (hb1.le (by simp only [List.length_nil]; omega)) (by omega) (by omega) (by omega)
  have hws : WsOk ws := ⟨by omega, fun w hm => by obtain ⟨a1, a2, a3⟩ := hw w hm; exact ⟨a1, a2, by omega⟩⟩
  obtain ⟨y, b3, e3, y0, y1, hb3⟩ := take_ok (k := 4000) (m := 2) (hb2.le (by omega)) (by omega) (by omega)
  obtain ⟨ts, b4, xs, e4, hb4, hts, -, -, -⟩ := law_tallies_ok (k := 2000) (end_ := 1000) (way := y) (hb3.le (by omega)) hws (by omega) (by omega)
  obtain ⟨b5, e5, hb5⟩ := large_ok hws hts (k := 0) (b := b4) (hb4.le (by omega))
  have e2' : m__law_windows b1 [.int 8, .int 1000] = some (wsD ws, b2) := e2
  have hr : ∀ (n : Nat) (S : List C), n ≤ 1000 → iR1 (aC (eC (.int n)) aN) S = some (.ok ((List.range n).map fun k : Nat => D.int (0 + (k : Int))) S) := fun n S hn => by
    have : rg1 (n : Int) S = some (.ok ((List.range n).map fun k : Nat => D.int (0 + (k : Int))) S) := rg1_nat (by omega)
    simp only [vls_nil, vls_cons, uns_zero, uns_succ, gt_zero, gt_succ, st_zero, st_succ, bnd_ap, ret_ap, lift_some, eC_ap, eV_ap, e2_ap, eB_ap, eNot_ap, tNot_ap, tAnd_app, tOr_app, ite_ap, eAnd_ap, eOr_ap, e3_app, eIf_ap, brk_ap, brk'_ap, ite_bl, ite_bo, ite_tb, ite_to, ↓reduceIte, Bool.false_eq_true, Bool.not_true, Bool.not_false, aN_ap, aC_ap, eT_ap, eL_ap, fL_ap, eB1_ap, eIsi_ap, eIsiA_ap, e1n_ap, oS_ap, eSl_ap, eCall_ap, fCall_ap, eCall1_ap, eOx_ap, eDGet_ap, eDSort_ap, iS_ap, iR1_ap, iR2_ap, iE_ap, iZ_ap, gN_ap, gT2, gT3, sSeq_ap, sNext_ap, sExpr_ap, sRet_ap, sRetF_ap, sIf_ap, sAsg_ap, sPar_ap, sParD_ap, sPut_ap, sDPut_ap, sBind_ap, sOwn_ap, sApp_ap, sRetO_ap, eSortSet_ap, sFor_ap, sBag_ap, finB_2, own0_ap, fin0_0, fin1_0, fin0_1, fin1_1, fin0_2, fin1_2, fin0_3, fin1_3, fin0_4, fin1_4, fin0_5, fin1_5, fin0_6, fin1_6, fin0_7, fin1_7, fin0_8, fin1_8, dI0_ap, dAdd_ii, dLen_t, dLen_l, dTuple_l, dTuple_t, dList_l, dList_t, dMax_ii, dMin_ii, dIx_t, dIx_l, atI_0, atI_1, atI_2, atI_3, dSl_t, dSl_l, dSl_s, dNe_ii, dEq_ii, ifz, ifz', Option.map_some, List.length_cons, List.length_nil, List.length_append, List.length_map, zl0, zm0, zl1, zm1, zl2, zm2, zl3, zm3, zl4, zm4, zl5, zm5, zl6, zm6, zl7, zm7, zl8, zm8, zl9, zm9, zl10, zm10, zl11, zm11, zl12, zm12, zl13, zm13, zl14, zm14, zl15, zm15, zl16, zm16, Nat.zero_add, Nat.reduceAdd, Int.reduceAdd, Int.reduceSub, Int.reduceMul, Int.reduceNeg, Int.reduceEq, Int.reduceLE, Int.reduceLT, Int.reduceToNat, Int.reducePow, decide_true, decide_false, cn0, cn1, cn2, cn3, cn4, cn5, cn6, cn7, cn8, cn9, cn10, cn11, cn12, List.set_cons_zero, List.set_cons_succ, tn0, tn1, tn2, tn3, tn4, tn5, tn6, tn7, tn8, eLn_ap, tLn_ap, lnd_nil, lnd_cons, lend_ow, lend_dc, lend_un, lend_vl, scD_bl, scD_int, scD_non, scD_str, sParL_ap, frz_ap, chL_ap, chK_ap, chLt_ap, chKt_ap, asB_ap, this]
  refine ⟨b5, d2, .vl (wsD ws), d4, d5, d6, d7, d8, ?_⟩
  unfold L_law_5
  refine (sSeq_nx ((sFor_go (hr 5 _ (by decide))).trans e1)).trans ?_
  simp only [vls_nil, vls_cons, uns_zero, uns_succ, gt_zero, gt_succ, st_zero, st_succ, bnd_ap, ret_ap, lift_some, eC_ap, eV_ap, e2_ap, eB_ap, eNot_ap, tNot_ap, tAnd_app, tOr_app, ite_ap, eAnd_ap, eOr_ap, e3_app, eIf_ap, brk_ap, brk'_ap, ite_bl, ite_bo, ite_tb, ite_to, ↓reduceIte, Bool.false_eq_true, Bool.not_true, Bool.not_false, aN_ap, aC_ap, eT_ap, eL_ap, fL_ap, eB1_ap, eIsi_ap, eIsiA_ap, e1n_ap, oS_ap, eSl_ap, eCall_ap, fCall_ap, eCall1_ap, eOx_ap, eDGet_ap, eDSort_ap, iS_ap, iR1_ap, iR2_ap, iE_ap, iZ_ap, gN_ap, gT2, gT3, sSeq_ap, sNext_ap, sExpr_ap, sRet_ap, sRetF_ap, sIf_ap, sAsg_ap, sPar_ap, sParD_ap, sPut_ap, sDPut_ap, sBind_ap, sOwn_ap, sApp_ap, sRetO_ap, eSortSet_ap, sFor_ap, sBag_ap, finB_2, own0_ap, fin0_0, fin1_0, fin0_1, fin1_1, fin0_2, fin1_2, fin0_3, fin1_3, fin0_4, fin1_4, fin0_5, fin1_5, fin0_6, fin1_6, fin0_7, fin1_7, fin0_8, fin1_8, dI0_ap, dAdd_ii, dLen_t, dLen_l, dTuple_l, dTuple_t, dList_l, dList_t, dMax_ii, dMin_ii, dIx_t, dIx_l, atI_0, atI_1, atI_2, atI_3, dSl_t, dSl_l, dSl_s, dNe_ii, dEq_ii, ifz, ifz', Option.map_some, List.length_cons, List.length_nil, List.length_append, List.length_map, zl0, zm0, zl1, zm1, zl2, zm2, zl3, zm3, zl4, zm4, zl5, zm5, zl6, zm6, zl7, zm7, zl8, zm8, zl9, zm9, zl10, zm10, zl11, zm11, zl12, zm12, zl13, zm13, zl14, zm14, zl15, zm15, zl16, zm16, Nat.zero_add, Nat.reduceAdd, Int.reduceAdd, Int.reduceSub, Int.reduceMul, Int.reduceNeg, Int.reduceEq, Int.reduceLE, Int.reduceLT, Int.reduceToNat, Int.reducePow, decide_true, decide_false, cn0, cn1, cn2, cn3, cn4, cn5, cn6, cn7, cn8, cn9, cn10, cn11, cn12, List.set_cons_zero, List.set_cons_succ, tn0, tn1, tn2, tn3, tn4, tn5, tn6, tn7, tn8, eLn_ap, tLn_ap, lnd_nil, lnd_cons, lend_ow, lend_dc, lend_un, lend_vl, scD_bl, scD_int, scD_non, scD_str, sParL_ap, frz_ap, chL_ap, chK_ap, chLt_ap, chKt_ap, asB_ap, e2', e3, e4, e5]
theorem plain (ns : List Int) (_ : ns.length ≤ 63) : m_law [.scr ns] = some (.rt (.bl true)) := by
  obtain ⟨ls, e1, hls⟩ := law_bags_ok (ns := ns) (most := 6) (by omega)
  obtain ⟨S', e2, c1, c2, c3, c4, c5, c6, c7, c8, rfl⟩ := bagGo_inv (i := 1) (body := L_law_5) (fun S => ∃ c1 c2 c3 c4 c5 c6 c7 c8, S = [.vl (.scr ns), c1, c2, c3, c4, c5, c6, c7, c8, .un]) ls [.vl (.scr ns), .un, .un, .un, .un, .un, .un, .un, .un, .un] ⟨_, _, _, _, _, _, _, _, rfl⟩ (by
    rintro l hl S ⟨c1, c2, c3, c4, c5, c6, c7, c8, rfl⟩
    obtain ⟨l', d2, d3, d4, d5, d6, d7, d8, e⟩ := law5_ok (c0 := .vl (.scr ns)) (c2 := c2) (c3 := c3) (c4 := c4) (c5 := c5) (c6 := c6) (c7 := c7) (c8 := c8) (hls l hl)
    exact ⟨_, .inl e, _, _, _, _, _, _, _, _, rfl⟩)
  have e1' : m__law_bags [.scr ns, .int 6] = some ls := e1
  have t1 : m_event_times [.tup [.tup [.int 8, .int 12]], .tup [.tup [.int 9, .int 1, .int 1]], .int 0] = some (.ro [.tup [.int 8, .int 9]]) := by
    have := event_times_ok (ws := [(8, 12)]) (ts := [(9, 1, 1)]) ⟨by decide, fun w hw => by rw [List.mem_singleton.mp hw]; unfold WOk; decide⟩ ⟨by decide, fun t ht => by rw [List.mem_singleton.mp ht]; unfold TOk; decide, by decide⟩ (e := 0) (w := (8, 12)) rfl
    rw [show evT [(8, 12)] [(9, 1, 1)] 0 (8, 12) = [(8, 9)] by decide +kernel] at this
    exact this
  have t2 : m_event_times [.tup [.tup [.int 0, .int 9], .tup [.int 0, .int 9]], .tup [.tup [.int 3, .int 1, .int 1], .tup [.int 6, .int 1, .int 1]], .int 0] = some (.ro [.tup [.int 0, .int 3], .tup [.int 7, .int 9]]) := by
    have := event_times_ok (ws := [(0, 9), (0, 9)]) (ts := [(3, 1, 1), (6, 1, 1)]) ⟨by decide, fun w hw => by
      rcases List.mem_cons.mp hw with rfl | hw
      · unfold WOk; decide
      · rw [List.mem_singleton.mp hw]; unfold WOk; decide⟩ ⟨by decide, fun t ht => by
      rcases List.mem_cons.mp ht with rfl | ht
      · unfold TOk; decide
      · rw [List.mem_singleton.mp ht]; unfold TOk; decide, by decide⟩ (e := 0) (w := (0, 9)) rfl
    rw [show evT [(0, 9), (0, 9)] [(3, 1, 1), (6, 1, 1)] 0 (0, 9) = [(0, 3), (7, 9)] by decide +kernel] at this
    exact this
  have t3 : m_event_times [.tup [.tup [.int 8, .int 12]], .tup [.tup [.int 9, .int 0, .int 0], .tup [.int 10, .int 1, .int 1]], .int 0] = some (.ro [.tup [.int 10, .int 10]]) := by
    have := event_times_ok (ws := [(8, 12)]) (ts := [(9, 0, 0), (10, 1, 1)]) ⟨by decide, fun w hw => by rw [List.mem_singleton.mp hw]; unfold WOk; decide⟩ ⟨by decide, fun t ht => by
      rcases List.mem_cons.mp ht with rfl | ht
      · unfold TOk; decide
      · rw [List.mem_singleton.mp ht]; unfold TOk; decide, by decide⟩ (e := 0) (w := (8, 12)) rfl
    rw [show evT [(8, 12)] [(9, 0, 0), (10, 1, 1)] 0 (8, 12) = [(10, 10)] by decide +kernel] at this
    exact this
  have nn : ∀ l : List Win, Nice 6 (.lst (l.map wD)) := fun l d hd => by obtain ⟨v, _, rfl⟩ := List.mem_map.mp hd; exact nice_wD v
  have q1 : dNe (.lst [.tup [.int 8, .int 9]]) (.lst [.tup [.int 8, .int 9]]) = some (.bl false) := (dEq_true 6 (nn [(8, 9)]) (nn [(8, 9)]) rfl).2
  have q2 : dNe (.lst [.tup [.int 0, .int 3], .tup [.int 7, .int 9]]) (.lst [.tup [.int 0, .int 3], .tup [.int 7, .int 9]]) = some (.bl false) := (dEq_true 6 (nn [(0, 3), (7, 9)]) (nn [(0, 3), (7, 9)]) rfl).2
  have q3 : dEq (.lst [.tup [.int 10, .int 10]]) (.lst [.tup [.int 10, .int 10]]) = some (.bl true) := (dEq_true 6 (nn [(10, 10)]) (nn [(10, 10)]) rfl).1
  unfold m_law b_law
  simp only [vls_nil, vls_cons, uns_zero, uns_succ, gt_zero, gt_succ, st_zero, st_succ, bnd_ap, ret_ap, lift_some, eC_ap, eV_ap, e2_ap, eB_ap, eNot_ap, tNot_ap, tAnd_app, tOr_app, ite_ap, eAnd_ap, eOr_ap, e3_app, eIf_ap, brk_ap, brk'_ap, ite_bl, ite_bo, ite_tb, ite_to, ↓reduceIte, Bool.false_eq_true, Bool.not_true, Bool.not_false, aN_ap, aC_ap, eT_ap, eL_ap, fL_ap, eB1_ap, eIsi_ap, eIsiA_ap, e1n_ap, oS_ap, eSl_ap, eCall_ap, fCall_ap, eCall1_ap, eOx_ap, eDGet_ap, eDSort_ap, iS_ap, iR1_ap, iR2_ap, iE_ap, iZ_ap, gN_ap, gT2, gT3, sSeq_ap, sNext_ap, sExpr_ap, sRet_ap, sRetF_ap, sIf_ap, sAsg_ap, sPar_ap, sParD_ap, sPut_ap, sDPut_ap, sBind_ap, sOwn_ap, sApp_ap, sRetO_ap, eSortSet_ap, sFor_ap, sBag_ap, finB_2, own0_ap, fin0_0, fin1_0, fin0_1, fin1_1, fin0_2, fin1_2, fin0_3, fin1_3, fin0_4, fin1_4, fin0_5, fin1_5, fin0_6, fin1_6, fin0_7, fin1_7, fin0_8, fin1_8, dI0_ap, dAdd_ii, dLen_t, dLen_l, dTuple_l, dTuple_t, dList_l, dList_t, dMax_ii, dMin_ii, dIx_t, dIx_l, atI_0, atI_1, atI_2, atI_3, dSl_t, dSl_l, dSl_s, dNe_ii, dEq_ii, ifz, ifz', Option.map_some, List.length_cons, List.length_nil, List.length_append, List.length_map, zl0, zm0, zl1, zm1, zl2, zm2, zl3, zm3, zl4, zm4, zl5, zm5, zl6, zm6, zl7, zm7, zl8, zm8, zl9, zm9, zl10, zm10, zl11, zm11, zl12, zm12, zl13, zm13, zl14, zm14, zl15, zm15, zl16, zm16, Nat.zero_add, Nat.reduceAdd, Int.reduceAdd, Int.reduceSub, Int.reduceMul, Int.reduceNeg, Int.reduceEq, Int.reduceLE, Int.reduceLT, Int.reduceToNat, Int.reducePow, decide_true, decide_false, cn0, cn1, cn2, cn3, cn4, cn5, cn6, cn7, cn8, cn9, cn10, cn11, cn12, List.set_cons_zero, List.set_cons_succ, tn0, tn1, tn2, tn3, tn4, tn5, tn6, tn7, tn8, eLn_ap, tLn_ap, lnd_nil, lnd_cons, lend_ow, lend_dc, lend_un, lend_vl, scD_bl, scD_int, scD_non, scD_str, sParL_ap, frz_ap, chL_ap, chK_ap, chLt_ap, chKt_ap, asB_ap, e1', e2, t1, t2, t3, q1, q2, q3]
end TW
namespace TW
open PySem PySem.Spec PyProof.Rows L2 RZ
def topS (i : Nat) : Stmt := PySem.Challenge.pw_tallywindows_k08_whole_times_of_single_e.main.body.getD i (.Pass ⟨0, 0, 0, 0⟩)
section
variable {P : Program} {w : World} {K : PySem.W.Frag} {mg : Str → Option Value} {base : Heap}
abbrev s_is_integer : Stmt := topS 10
theorem sc_is_integer : FnScope ["value"] ["value"] (defScope s_is_integer) := ⟨rfl, rfl, rfl, by decide +kernel, rfl, by decide +kernel, by decide +kernel⟩
theorem q_is_integer (T : Blt mg) (A : At K mg "is_integer" s_is_integer) : DefOk P w K mg base 1 "is_integer" ["value"] (Sp0 K mg 1 m_is_integer) := by
  obtain ⟨f, fd, F, hm⟩ := A.ex
  refine ok0 (n := 1) (u := 0) (b := b_is_integer) F sc_is_integer rfl rfl hm (F.binds (ps := ["value"]) fun _ _ _ _ _ _ us hl => match us, hl with | [_], _ => rfl) fun cdv A outer s H E hr => ?_
  have hx : Passes (L2.CX P w) (cxOf (L2.CX P w) P w K mg base ["value"] "is_integer" (defScope s_is_integer) f cdv A outer s H E) E := passes_call (takes_of rfl rfl rfl rfl) fun _ _ _ _ h => h
  exact ⟨_, (ss_one (sd_ret (de_and (de_isi (K := K) .int (dv 0) (by rfl) T.isinstance (by rfl) T.int bb_int) (de_one (de_not (de_isi (K := K) .bool (dv 0) (by rfl) T.isinstance (by rfl) T.bool bb_bool))))))⟩
abbrev s_in_range : Stmt := topS 11
theorem sc_in_range : FnScope ["value", "low", "high"] ["value", "low", "high"] (defScope s_in_range) := ⟨rfl, rfl, rfl, by decide +kernel, rfl, by decide +kernel, by decide +kernel⟩
theorem q_in_range (T : Blt mg) (A : At K mg "in_range" s_in_range) (d_is_integer : DefOk P w K mg base 1 "is_integer" ["value"] (Sp0 K mg 1 m_is_integer)) : DefOk P w K mg base 2 "in_range" ["value", "low", "high"] (Sp0 K mg 3 m_in_range) := by
  obtain ⟨f, fd, F, hm⟩ := A.ex
  refine ok0 (n := 3) (u := 0) (b := b_in_range) F sc_in_range rfl rfl hm (F.binds (ps := ["value", "low", "high"]) fun _ _ _ _ _ _ us hl => match us, hl with | [_, _, _], _ => rfl) fun cdv A outer s H E hr => ?_
  have hx : Passes (L2.CX P w) (cxOf (L2.CX P w) P w K mg base ["value", "low", "high"] "in_range" (defScope s_in_range) f cdv A outer s H E) E := passes_call (takes_of rfl rfl rfl rfl) fun _ _ _ _ h => h
  exact ⟨_, (ss_one (sd_ret (de_and (de_call d_is_integer fin0_len (hr.mono (by decide)) (by rfl) hx (da_cons (dv 0) da_nil)) (de_one (de_chain o_le o_le (dv 1) (dv 0) (dv 2))))))⟩
abbrev s_is_window : Stmt := topS 12
theorem sc_is_window : FnScope ["value"] ["value"] (defScope s_is_window) := ⟨rfl, rfl, rfl, by decide +kernel, rfl, by decide +kernel, by decide +kernel⟩
theorem q_is_window (T : Blt mg) (A : At K mg "is_window" s_is_window) (gLAST : ∃ u, mg "LAST" = some (.int 1000 u)) (d_in_range : DefOk P w K mg base 2 "in_range" ["value", "low", "high"] (Sp0 K mg 3 m_in_range)) : DefOk P w K mg base 3 "is_window" ["value"] (Sp0 K mg 1 m_is_window) := by
  obtain ⟨f, fd, F, hm⟩ := A.ex
  obtain ⟨ugLAST, gLAST⟩ := gLAST
  refine ok0 (n := 1) (u := 0) (b := b_is_window) F sc_is_window rfl rfl hm (F.binds (ps := ["value"]) fun _ _ _ _ _ _ us hl => match us, hl with | [_], _ => rfl) fun cdv A outer s H E hr => ?_
  have hx : Passes (L2.CX P w) (cxOf (L2.CX P w) P w K mg base ["value"] "is_window" (defScope s_is_window) f cdv A outer s H E) E := passes_call (takes_of rfl rfl rfl rfl) fun _ _ _ _ h => h
  exact ⟨_, (ss_cons (sd_if (WD.td (wd_or (td_not (td_val (de_isi (K := K) .tuple (dv 0) (by rfl) T.isinstance (by rfl) T.tuple bb_tuple))) (wd_or1 (td_cmp (o_ne (K := K) hr.units) (de_b (c_len (K := K)) (by rfl) T.len bb_len (da_cons (dv 0) da_nil)) de_int))))
    (ss_one (sd_ret de_bl))
    ss_nil)
    (ss_one (sd_ret (de_and (de_call d_in_range fin0_len (hr.mono (by decide)) (by rfl) hx (da_cons (de_ix (K := K) (dv 0) de_int) (da_cons de_int (da_cons (de_glob (by rfl) gLAST) da_nil)))) (de_one (de_call d_in_range fin0_len (hr.mono (by decide)) (by rfl) hx (da_cons (de_ix (K := K) (dv 0) de_int) (da_cons (de_ix (K := K) (dv 0) de_int) (da_cons (de_glob (by rfl) gLAST) da_nil)))))))))⟩
abbrev s_is_windows : Stmt := topS 13
theorem sc_is_windows : FnScope ["value", "window"] ["value"] (defScope s_is_windows) := ⟨rfl, rfl, rfl, by decide +kernel, rfl, by decide +kernel, by decide +kernel⟩
theorem q_is_windows (T : Blt mg) (A : At K mg "is_windows" s_is_windows) (gMAX_EVENTS : ∃ u, mg "MAX_EVENTS" = some (.int 8 u)) (d_is_window : DefOk P w K mg base 3 "is_window" ["value"] (Sp0 K mg 1 m_is_window)) : DefOk P w K mg base 4 "is_windows" ["value"] (Sp0 K mg 1 m_is_windows) := by
  obtain ⟨f, fd, F, hm⟩ := A.ex
  obtain ⟨ugMAX_EVENTS, gMAX_EVENTS⟩ := gMAX_EVENTS
  refine ok0 (n := 1) (u := 1) (b := b_is_windows) F sc_is_windows rfl rfl hm (F.binds (ps := ["value"]) fun _ _ _ _ _ _ us hl => match us, hl with | [_], _ => rfl) fun cdv A outer s H E hr => ?_
  have hx : Passes (L2.CX P w) (cxOf (L2.CX P w) P w K mg base ["value", "window"] "is_windows" (defScope s_is_windows) f cdv A outer s H E) E := passes_call (takes_of rfl rfl rfl rfl) fun _ _ _ _ h => h
  exact ⟨_, (ss_one (sd_ret (de_and (de_isi (K := K) .tuple (dv 0) (by rfl) T.isinstance (by rfl) T.tuple bb_tuple) (de_and (de_cmp o_le (de_b (c_len (K := K)) (by rfl) T.len bb_len (da_cons (dv 0) da_nil)) (de_glob (by rfl) gMAX_EVENTS)) (de_one (de_b (c_all (K := K) rfl) (by rfl) T.all bb_all (da_cons (de_lcN ["value", "window"] (defScope s_is_windows) [("window", 1)] (di_seq (K := K) (dv 0)) rfl sc_is_windows.nd (by decide +kernel) (fun _ _ _ _ _ => (gd_name (i := 1) sc_is_windows.nd rfl (by first | exact Or.inl rfl | exact Or.inr rfl))) (fun _ _ _ _ _ => ts_nil) (fun _ _ _ _ _ => (de_call d_is_window fin0_len (hr.mono (by decide)) (by rfl) passL (da_cons (dv 1) da_nil)))) da_nil)))))))⟩
abbrev s_check_windows : Stmt := topS 14
theorem sc_check_windows : FnScope ["windows"] ["windows"] (defScope s_check_windows) := ⟨rfl, rfl, rfl, by decide +kernel, rfl, by decide +kernel, by decide +kernel⟩
theorem q_check_windows (T : Blt mg) (A : At K mg "check_windows" s_check_windows) (d_is_windows : DefOk P w K mg base 4 "is_windows" ["value"] (Sp0 K mg 1 m_is_windows)) : DefOk P w K mg base 5 "check_windows" ["windows"] (Sp0 K mg 1 m_check_windows) := by
  obtain ⟨f, fd, F, hm⟩ := A.ex
  refine ok0 (n := 1) (u := 0) (b := b_check_windows) F sc_check_windows rfl rfl hm (F.binds (ps := ["windows"]) fun _ _ _ _ _ _ us hl => match us, hl with | [_], _ => rfl) fun cdv A outer s H E hr => ?_
  have hx : Passes (L2.CX P w) (cxOf (L2.CX P w) P w K mg base ["windows"] "check_windows" (defScope s_check_windows) f cdv A outer s H E) E := passes_call (takes_of rfl rfl rfl rfl) fun _ _ _ _ h => h
  exact ⟨_, (ss_one (sd_if (td_not (td_val (de_call d_is_windows fin0_len (hr.mono (by decide)) (by rfl) hx (da_cons (dv 0) da_nil))))
    (ss_one sd_never)
    ss_nil))⟩
abbrev s_is_tally : Stmt := topS 15
theorem sc_is_tally : FnScope ["windows", "value"] ["windows", "value"] (defScope s_is_tally) := ⟨rfl, rfl, rfl, by decide +kernel, rfl, by decide +kernel, by decide +kernel⟩
theorem q_is_tally (T : Blt mg) (A : At K mg "is_tally" s_is_tally) (gLAST : ∃ u, mg "LAST" = some (.int 1000 u)) (d_in_range : DefOk P w K mg base 2 "in_range" ["value", "low", "high"] (Sp0 K mg 3 m_in_range)) : DefOk P w K mg base 3 "is_tally" ["windows", "value"] (Sp0 K mg 2 m_is_tally) := by
  obtain ⟨f, fd, F, hm⟩ := A.ex
  obtain ⟨ugLAST, gLAST⟩ := gLAST
  refine ok0 (n := 2) (u := 0) (b := b_is_tally) F sc_is_tally rfl rfl hm (F.binds (ps := ["windows", "value"]) fun _ _ _ _ _ _ us hl => match us, hl with | [_, _], _ => rfl) fun cdv A outer s H E hr => ?_
  have hx : Passes (L2.CX P w) (cxOf (L2.CX P w) P w K mg base ["windows", "value"] "is_tally" (defScope s_is_tally) f cdv A outer s H E) E := passes_call (takes_of rfl rfl rfl rfl) fun _ _ _ _ h => h
  exact ⟨_, (ss_cons (sd_if (WD.td (wd_or (td_not (td_val (de_isi (K := K) .tuple (dv 1) (by rfl) T.isinstance (by rfl) T.tuple bb_tuple))) (wd_or (td_cmp (o_ne (K := K) hr.units) (de_b (c_len (K := K)) (by rfl) T.len bb_len (da_cons (dv 1) da_nil)) de_int) (wd_or1 (td_not (td_val (de_call d_in_range fin0_len (hr.mono (by decide)) (by rfl) hx (da_cons (de_ix (K := K) (dv 1) de_int) (da_cons de_int (da_cons (de_glob (by rfl) gLAST) da_nil))))))))))
    (ss_one (sd_ret de_bl))
    ss_nil)
    (ss_one (sd_ret (de_and (de_call d_in_range fin0_len (hr.mono (by decide)) (by rfl) hx (da_cons (de_ix (K := K) (dv 1) de_int) (da_cons de_int (da_cons (de_b (c_len (K := K)) (by rfl) T.len bb_len (da_cons (dv 0) da_nil)) da_nil)))) (de_one (de_call d_in_range fin0_len (hr.mono (by decide)) (by rfl) hx (da_cons (de_ix (K := K) (dv 1) de_int) (da_cons (de_ix (K := K) (dv 1) de_int) (da_cons (de_b (c_len (K := K)) (by rfl) T.len bb_len (da_cons (dv 0) da_nil)) da_nil)))))))))⟩
abbrev s_are_tallies : Stmt := topS 16
theorem sc_are_tallies : FnScope ["windows", "value", "tally", "following"] ["windows", "value"] (defScope s_are_tallies) := ⟨rfl, rfl, rfl, by decide +kernel, rfl, by decide +kernel, by decide +kernel⟩
theorem q_are_tallies (T : Blt mg) (A : At K mg "are_tallies" s_are_tallies) (gMAX_TALLIES : ∃ u, mg "MAX_TALLIES" = some (.int 6 u)) (d_is_tally : DefOk P w K mg base 3 "is_tally" ["windows", "value"] (Sp0 K mg 2 m_is_tally)) : DefOk P w K mg base 4 "are_tallies" ["windows", "value"] (Sp0 K mg 2 m_are_tallies) := by
  obtain ⟨f, fd, F, hm⟩ := A.ex
  obtain ⟨ugMAX_TALLIES, gMAX_TALLIES⟩ := gMAX_TALLIES
  refine ok0 (n := 2) (u := 2) (b := b_are_tallies) F sc_are_tallies rfl rfl hm (F.binds (ps := ["windows", "value"]) fun _ _ _ _ _ _ us hl => match us, hl with | [_, _], _ => rfl) fun cdv A outer s H E hr => ?_
  have hx : Passes (L2.CX P w) (cxOf (L2.CX P w) P w K mg base ["windows", "value", "tally", "following"] "are_tallies" (defScope s_are_tallies) f cdv A outer s H E) E := passes_call (takes_of rfl rfl rfl rfl) fun _ _ _ _ h => h
  exact ⟨_, (ss_cons (sd_if (WD.td (wd_or (td_not (td_val (de_isi (K := K) .tuple (dv 1) (by rfl) T.isinstance (by rfl) T.tuple bb_tuple))) (wd_or1 (td_cmp o_gt (de_b (c_len (K := K)) (by rfl) T.len bb_len (da_cons (dv 1) da_nil)) (de_glob (by rfl) gMAX_TALLIES)))))
    (ss_one (sd_ret de_bl))
    ss_nil)
    (ss_cons (sd_if (td_not (td_val (de_b (c_all (K := K) rfl) (by rfl) T.all bb_all (da_cons (de_lcN ["windows", "value", "tally", "following"] (defScope s_are_tallies) [("tally", 2)] (di_seq (K := K) (dv 1)) rfl sc_are_tallies.nd (by decide +kernel) (fun _ _ _ _ _ => (gd_name (i := 2) sc_are_tallies.nd rfl (by first | exact Or.inl rfl | exact Or.inr rfl))) (fun _ _ _ _ _ => ts_nil) (fun _ _ _ _ _ => (de_call d_is_tally fin0_len (hr.mono (by decide)) (by rfl) passL (da_cons (dv 0) (da_cons (dv 2) da_nil))))) da_nil))))
    (ss_one (sd_ret de_bl))
    ss_nil)
    (ss_one (sd_ret (de_b (c_all (K := K) rfl) (by rfl) T.all bb_all (da_cons (de_lcN ["windows", "value", "tally", "following"] (defScope s_are_tallies) [("tally", 2), ("following", 3)] (di_zip (K := K) (by rfl) T.zip (da_cons (dv 1) (da_cons (de_sl (K := K) (dv 1) (do_some de_int) do_none) da_nil))) rfl sc_are_tallies.nd (by decide +kernel) (fun _ _ _ _ _ => (gd_tup (K := K) (n := 2) rfl (gs_cons (i := 2) sc_are_tallies.nd rfl (by first | exact Or.inl rfl | exact Or.inr rfl) (gs_cons (i := 3) sc_are_tallies.nd rfl (by first | exact Or.inl rfl | exact Or.inr rfl) gs_nil)))) (fun _ _ _ _ _ => ts_nil) (fun _ _ _ _ _ => (de_cmp o_lt (de_ix (K := K) (dv 2) de_int) (de_ix (K := K) (dv 3) de_int)))) da_nil))))))⟩
abbrev s_check_both : Stmt := topS 17
theorem sc_check_both : FnScope ["windows", "tallies"] ["windows", "tallies"] (defScope s_check_both) := ⟨rfl, rfl, rfl, by decide +kernel, rfl, by decide +kernel, by decide +kernel⟩
theorem q_check_both (T : Blt mg) (A : At K mg "check_both" s_check_both) (d_are_tallies : DefOk P w K mg base 4 "are_tallies" ["windows", "value"] (Sp0 K mg 2 m_are_tallies)) (d_check_windows : DefOk P w K mg base 5 "check_windows" ["windows"] (Sp0 K mg 1 m_check_windows)) : DefOk P w K mg base 6 "check_both" ["windows", "tallies"] (Sp0 K mg 2 m_check_both) := by
  obtain ⟨f, fd, F, hm⟩ := A.ex
  refine ok0 (n := 2) (u := 0) (b := b_check_both) F sc_check_both rfl rfl hm (F.binds (ps := ["windows", "tallies"]) fun _ _ _ _ _ _ us hl => match us, hl with | [_, _], _ => rfl) fun cdv A outer s H E hr => ?_
  have hx : Passes (L2.CX P w) (cxOf (L2.CX P w) P w K mg base ["windows", "tallies"] "check_both" (defScope s_check_both) f cdv A outer s H E) E := passes_call (takes_of rfl rfl rfl rfl) fun _ _ _ _ h => h
  exact ⟨_, (ss_cons (sd_expr (de_call d_check_windows fin0_len (hr.mono (by decide)) (by rfl) hx (da_cons (dv 0) da_nil)))
    (ss_one (sd_if (td_not (td_val (de_call d_are_tallies fin0_len (hr.mono (by decide)) (by rfl) hx (da_cons (dv 0) (da_cons (dv 1) da_nil)))))
    (ss_one sd_never)
    ss_nil)))⟩
abbrev s_check_time : Stmt := topS 18
theorem sc_check_time : FnScope ["time"] ["time"] (defScope s_check_time) := ⟨rfl, rfl, rfl, by decide +kernel, rfl, by decide +kernel, by decide +kernel⟩
theorem q_check_time (T : Blt mg) (A : At K mg "check_time" s_check_time) (gLAST : ∃ u, mg "LAST" = some (.int 1000 u)) (d_in_range : DefOk P w K mg base 2 "in_range" ["value", "low", "high"] (Sp0 K mg 3 m_in_range)) : DefOk P w K mg base 3 "check_time" ["time"] (Sp0 K mg 1 m_check_time) := by
  obtain ⟨f, fd, F, hm⟩ := A.ex
  obtain ⟨ugLAST, gLAST⟩ := gLAST
  refine ok0 (n := 1) (u := 0) (b := b_check_time) F sc_check_time rfl rfl hm (F.binds (ps := ["time"]) fun _ _ _ _ _ _ us hl => match us, hl with | [_], _ => rfl) fun cdv A outer s H E hr => ?_
  have hx : Passes (L2.CX P w) (cxOf (L2.CX P w) P w K mg base ["time"] "check_time" (defScope s_check_time) f cdv A outer s H E) E := passes_call (takes_of rfl rfl rfl rfl) fun _ _ _ _ h => h
  exact ⟨_, (ss_one (sd_if (td_not (td_val (de_call d_in_range fin0_len (hr.mono (by decide)) (by rfl) hx (da_cons (dv 0) (da_cons de_int (da_cons (de_glob (by rfl) gLAST) da_nil))))))
    (ss_one sd_never)
    ss_nil))⟩
abbrev s_check_event : Stmt := topS 19
theorem sc_check_event : FnScope ["windows", "event"] ["windows", "event"] (defScope s_check_event) := ⟨rfl, rfl, rfl, by decide +kernel, rfl, by decide +kernel, by decide +kernel⟩
theorem q_check_event (T : Blt mg) (A : At K mg "check_event" s_check_event) (d_in_range : DefOk P w K mg base 2 "in_range" ["value", "low", "high"] (Sp0 K mg 3 m_in_range)) : DefOk P w K mg base 3 "check_event" ["windows", "event"] (Sp0 K mg 2 m_check_event) := by
  obtain ⟨f, fd, F, hm⟩ := A.ex
  refine ok0 (n := 2) (u := 0) (b := b_check_event) F sc_check_event rfl rfl hm (F.binds (ps := ["windows", "event"]) fun _ _ _ _ _ _ us hl => match us, hl with | [_, _], _ => rfl) fun cdv A outer s H E hr => ?_
  have hx : Passes (L2.CX P w) (cxOf (L2.CX P w) P w K mg base ["windows", "event"] "check_event" (defScope s_check_event) f cdv A outer s H E) E := passes_call (takes_of rfl rfl rfl rfl) fun _ _ _ _ h => h
  exact ⟨_, (ss_one (sd_if (td_not (td_val (de_call d_in_range fin0_len (hr.mono (by decide)) (by rfl) hx (da_cons (dv 1) (da_cons de_int (da_cons (de_op o_sub (de_b (c_len (K := K)) (by rfl) T.len bb_len (da_cons (dv 0) da_nil)) de_int) da_nil))))))
    (ss_one sd_never)
    ss_nil))⟩
abbrev s_inside_of : Stmt := topS 20
theorem sc_inside_of : FnScope ["windows", "start", "end", "window"] ["windows", "start", "end"] (defScope s_inside_of) := ⟨rfl, rfl, rfl, by decide +kernel, rfl, by decide +kernel, by decide +kernel⟩
theorem q_inside_of (T : Blt mg) (A : At K mg "inside_of" s_inside_of) : DefOk P w K mg base 1 "inside_of" ["windows", "start", "end"] (Sp0 K mg 3 m_inside_of) := by
  obtain ⟨f, fd, F, hm⟩ := A.ex
  refine ok0 (n := 3) (u := 1) (b := b_inside_of) F sc_inside_of rfl rfl hm (F.binds (ps := ["windows", "start", "end"]) fun _ _ _ _ _ _ us hl => match us, hl with | [_, _, _], _ => rfl) fun cdv A outer s H E hr => ?_
  have hx : Passes (L2.CX P w) (cxOf (L2.CX P w) P w K mg base ["windows", "start", "end", "window"] "inside_of" (defScope s_inside_of) f cdv A outer s H E) E := passes_call (takes_of rfl rfl rfl rfl) fun _ _ _ _ h => h
  exact ⟨_, (ss_one (sd_ret (de_b (c_len (K := K)) (by rfl) T.len bb_len (da_cons (de_lcN ["windows", "start", "end", "window"] (defScope s_inside_of) [("window", 3)] (di_seq (K := K) (dv 0)) rfl sc_inside_of.nd (by decide +kernel) (fun _ _ _ _ _ => (gd_name (i := 3) sc_inside_of.nd rfl (by first | exact Or.inl rfl | exact Or.inr rfl))) (fun _ _ _ _ _ => (ts_one (WD.td (wd_and (td_cmp o_gt (de_ix (K := K) (dv 3) de_int) (dv 1)) (wd_and1 (td_cmp o_le (de_ix (K := K) (dv 3) de_int) (dv 2))))))) (fun _ _ _ _ _ => (dv 3))) da_nil))))⟩
abbrev s_place : Stmt := topS 22
theorem sc_place : FnScope ["windows", "tallies", "index", "first"] ["windows", "tallies", "index", "first"] (defScope s_place) := ⟨rfl, rfl, rfl, by decide +kernel, rfl, by decide +kernel, by decide +kernel⟩
theorem q_place (T : Blt mg) (A : At K mg "place" s_place) (gLAST : ∃ u, mg "LAST" = some (.int 1000 u)) : DefOk P w K mg base 1 "place" ["windows", "tallies", "index", "first"] (Sp0 K mg 4 m_place) := by
  obtain ⟨f, fd, F, hm⟩ := A.ex
  obtain ⟨ugLAST, gLAST⟩ := gLAST
  refine ok0 (n := 4) (u := 0) (b := b_place) F sc_place rfl rfl hm (F.binds (ps := ["windows", "tallies", "index", "first"]) fun _ _ _ _ _ _ us hl => match us, hl with | [_, _, _, _], _ => rfl) fun cdv A outer s H E hr => ?_
  have hx : Passes (L2.CX P w) (cxOf (L2.CX P w) P w K mg base ["windows", "tallies", "index", "first"] "place" (defScope s_place) f cdv A outer s H E) E := passes_call (takes_of rfl rfl rfl rfl) fun _ _ _ _ h => h
  exact ⟨_, (ss_cons (sd_if (td_cmp o_is (dv 2) de_non)
    (ss_one (sd_ret (de_if (td_val (dv 3)) (de_tup (da_cons (de_neg de_int) (da_cons de_int da_nil))) (de_tup (da_cons (de_glob (by rfl) gLAST) (da_cons (de_b (c_len (K := K)) (by rfl) T.len bb_len (da_cons (dv 0) da_nil)) da_nil))))))
    ss_nil)
    (ss_one (sd_ret (de_tup (da_cons (de_ix (K := K) (de_ix (K := K) (dv 1) (dv 2)) de_int) (da_cons (de_if (td_val (dv 3)) (de_ix (K := K) (de_ix (K := K) (dv 1) (dv 2)) de_int) (de_ix (K := K) (de_ix (K := K) (dv 1) (dv 2)) de_int)) da_nil))))))⟩
abbrev s_pairs_of : Stmt := topS 23
theorem sc_pairs_of : FnScope ["tallies", "many", "pairs", "second", "first"] ["tallies"] (defScope s_pairs_of) := ⟨rfl, rfl, rfl, by decide +kernel, rfl, by decide +kernel, by decide +kernel⟩
theorem q_pairs_of (T : Blt mg) (A : At K mg "pairs_of" s_pairs_of) : DefOk P w K mg base 1 "pairs_of" ["tallies"] (Sp0 K mg 1 m_pairs_of) := by
  obtain ⟨f, fd, F, hm⟩ := A.ex
  refine ok0 (n := 1) (u := 4) (b := b_pairs_of) F sc_pairs_of rfl rfl hm (F.binds (ps := ["tallies"]) fun _ _ _ _ _ _ us hl => match us, hl with | [_], _ => rfl) fun cdv A outer s H E hr => ?_
  have hx : Passes (L2.CX P w) (cxOf (L2.CX P w) P w K mg base ["tallies", "many", "pairs", "second", "first"] "pairs_of" (defScope s_pairs_of) f cdv A outer s H E) E := passes_call (takes_of rfl rfl rfl rfl) fun _ _ _ _ h => h
  exact ⟨_, (ss_cons (sd_set (i := 1) (de_b (c_len (K := K)) (by rfl) T.len bb_len (da_cons (dv 0) da_nil)) sc_pairs_of.nd rfl (by first | exact Or.inl rfl | exact Or.inr rfl))
    (ss_cons (sd_set (i := 2) (de_lst (da_cons (de_tup (da_cons de_non (da_cons de_non da_nil))) da_nil)) sc_pairs_of.nd rfl (by first | exact Or.inl rfl | exact Or.inr rfl))
    (ss_cons (sd_set (i := 2) (de_op (o_add (K := K)) (dv 2) (de_lcN ["tallies", "many", "pairs", "second", "first"] (defScope s_pairs_of) [("second", 3)] (di_r1 (by rfl) T.range (da_cons (dv 1) da_nil)) rfl sc_pairs_of.nd (by decide +kernel) (fun _ _ _ _ _ => (gd_name (i := 3) sc_pairs_of.nd rfl (by first | exact Or.inl rfl | exact Or.inr rfl))) (fun _ _ _ _ _ => ts_nil) (fun _ _ _ _ _ => (de_tup (da_cons de_non (da_cons (dv 3) da_nil)))))) sc_pairs_of.nd rfl (by first | exact Or.inl rfl | exact Or.inr rfl))
    (ss_cons (sd_set (i := 2) (de_op (o_add (K := K)) (dv 2) (de_lcN ["tallies", "many", "pairs", "second", "first"] (defScope s_pairs_of) [("first", 4)] (di_r1 (by rfl) T.range (da_cons (dv 1) da_nil)) rfl sc_pairs_of.nd (by decide +kernel) (fun _ _ _ _ _ => (gd_name (i := 4) sc_pairs_of.nd rfl (by first | exact Or.inl rfl | exact Or.inr rfl))) (fun _ _ _ _ _ => ts_nil) (fun _ _ _ _ _ => (de_tup (da_cons (dv 4) (da_cons de_non da_nil)))))) sc_pairs_of.nd rfl (by first | exact Or.inl rfl | exact Or.inr rfl))
    (ss_one (sd_ret (de_op (o_add (K := K)) (dv 2) (de_lc2N ["tallies", "many", "pairs", "second", "first"] (defScope s_pairs_of) [("first", 4), ("second", 3)] [3] (di_r1 (by rfl) T.range (da_cons (dv 1) da_nil)) rfl sc_pairs_of.nd (by decide +kernel) (fun _ _ _ _ _ => (gd_name (i := 4) sc_pairs_of.nd rfl (by first | exact Or.inl rfl | exact Or.inr rfl))) (fun _ _ _ _ _ => ts_nil) (fun _ _ _ _ _ => (di_r2 (by rfl) T.range (da_cons (dv 4) (da_cons (dv 1) da_nil)))) (fun _ _ _ _ _ => (gd_name (i := 3) sc_pairs_of.nd rfl (by first | exact Or.inl rfl | exact Or.inr rfl))) (fun _ _ _ _ _ => ts_nil) (fun _ _ _ _ _ => (de_tup (da_cons (dv 4) (da_cons (dv 3) da_nil))))))))))))⟩
abbrev s_excess : Stmt := topS 24
theorem sc_excess : FnScope ["windows", "tallies", "pair", "start", "low", "end", "high"] ["windows", "tallies", "pair"] (defScope s_excess) := ⟨rfl, rfl, rfl, by decide +kernel, rfl, by decide +kernel, by decide +kernel⟩
theorem q_excess (T : Blt mg) (A : At K mg "excess" s_excess) (d_inside_of : DefOk P w K mg base 1 "inside_of" ["windows", "start", "end"] (Sp0 K mg 3 m_inside_of)) (d_place : DefOk P w K mg base 1 "place" ["windows", "tallies", "index", "first"] (Sp0 K mg 4 m_place)) : DefOk P w K mg base 2 "excess" ["windows", "tallies", "pair"] (Sp0 K mg 3 m_excess) := by
  obtain ⟨f, fd, F, hm⟩ := A.ex
  refine ok0 (n := 3) (u := 4) (b := b_excess) F sc_excess rfl rfl hm (F.binds (ps := ["windows", "tallies", "pair"]) fun _ _ _ _ _ _ us hl => match us, hl with | [_, _, _], _ => rfl) fun cdv A outer s H E hr => ?_
  have hx : Passes (L2.CX P w) (cxOf (L2.CX P w) P w K mg base ["windows", "tallies", "pair", "start", "low", "end", "high"] "excess" (defScope s_excess) f cdv A outer s H E) E := passes_call (takes_of rfl rfl rfl rfl) fun _ _ _ _ h => h
  exact ⟨_, (ss_cons (sd_asg (de_call d_place fin0_len (hr.mono (by decide)) (by rfl) hx (da_cons (dv 0) (da_cons (dv 1) (da_cons (de_ix (K := K) (dv 2) de_int) (da_cons de_bl da_nil))))) (gd_tup (K := K) (n := 2) rfl (gs_cons (i := 3) sc_excess.nd rfl (by first | exact Or.inl rfl | exact Or.inr rfl) (gs_cons (i := 4) sc_excess.nd rfl (by first | exact Or.inl rfl | exact Or.inr rfl) gs_nil))))
    (ss_cons (sd_asg (de_call d_place fin0_len (hr.mono (by decide)) (by rfl) hx (da_cons (dv 0) (da_cons (dv 1) (da_cons (de_ix (K := K) (dv 2) de_int) (da_cons de_bl da_nil))))) (gd_tup (K := K) (n := 2) rfl (gs_cons (i := 5) sc_excess.nd rfl (by first | exact Or.inl rfl | exact Or.inr rfl) (gs_cons (i := 6) sc_excess.nd rfl (by first | exact Or.inl rfl | exact Or.inr rfl) gs_nil))))
    (ss_one (sd_ret (de_op o_sub (de_op (o_add (K := K)) (dv 4) (de_call d_inside_of fin0_len (hr.mono (by decide)) (by rfl) hx (da_cons (dv 0) (da_cons (dv 3) (da_cons (dv 5) da_nil))))) (dv 6))))))⟩
abbrev s_conflict_of : Stmt := topS 25
theorem sc_conflict_of : FnScope ["windows", "tallies", "pair"] ["windows", "tallies"] (defScope s_conflict_of) := ⟨rfl, rfl, rfl, by decide +kernel, rfl, by decide +kernel, by decide +kernel⟩
theorem q_conflict_of (T : Blt mg) (A : At K mg "conflict_of" s_conflict_of) (d_excess : DefOk P w K mg base 2 "excess" ["windows", "tallies", "pair"] (Sp0 K mg 3 m_excess)) (d_pairs_of : DefOk P w K mg base 1 "pairs_of" ["tallies"] (Sp0 K mg 1 m_pairs_of)) : DefOk P w K mg base 3 "conflict_of" ["windows", "tallies"] (Sp0 K mg 2 m_conflict_of) := by
  obtain ⟨f, fd, F, hm⟩ := A.ex
  refine ok0 (n := 2) (u := 1) (b := b_conflict_of) F sc_conflict_of rfl rfl hm (F.binds (ps := ["windows", "tallies"]) fun _ _ _ _ _ _ us hl => match us, hl with | [_, _], _ => rfl) fun cdv A outer s H E hr => ?_
  have hx : Passes (L2.CX P w) (cxOf (L2.CX P w) P w K mg base ["windows", "tallies", "pair"] "conflict_of" (defScope s_conflict_of) f cdv A outer s H E) E := passes_call (takes_of rfl rfl rfl rfl) fun _ _ _ _ h => h
  exact ⟨_, (ss_cons (sd_for' (passes_of rfl) rfl (di_seq (K := K) (de_call d_pairs_of fin0_len (hr.mono (by decide)) (by rfl) hx (da_cons (dv 1) da_nil))) (gd_name (i := 2) sc_conflict_of.nd rfl (by first | exact Or.inl rfl | exact Or.inr rfl))
    (ss_one (sd_if (td_cmp o_gt (de_call d_excess fin0_len (hr.mono (by decide)) (by rfl) hx (da_cons (dv 0) (da_cons (dv 1) (da_cons (dv 2) da_nil)))) de_int)
    (ss_one (sd_ret (dv 2)))
    ss_nil)))
    (ss_one (sd_ret de_non)))⟩
abbrev s_event_times : Stmt := topS 27
theorem sc_event_times : FnScope ["windows", "tallies", "event", "first", "last", "cuts", "found", "start", "end", "narrowed", "time", "low", "high"] ["windows", "tallies", "event"] (defScope s_event_times) := ⟨rfl, rfl, rfl, by decide +kernel, rfl, by decide +kernel, by decide +kernel⟩
theorem q_event_times (T : Blt mg) (A : At K mg "event_times" s_event_times) (d_check_both : DefOk P w K mg base 6 "check_both" ["windows", "tallies"] (Sp0 K mg 2 m_check_both)) (d_check_event : DefOk P w K mg base 3 "check_event" ["windows", "event"] (Sp0 K mg 2 m_check_event)) (d_conflict_of : DefOk P w K mg base 3 "conflict_of" ["windows", "tallies"] (Sp0 K mg 2 m_conflict_of)) : DefOk P w K mg base 7 "event_times" ["windows", "tallies", "event"] (Sp0 K mg 3 m_event_times) := by
  obtain ⟨f, fd, F, hm⟩ := A.ex
  refine ok0 (n := 3) (u := 10) (b := b_event_times) F sc_event_times rfl rfl hm (F.binds (ps := ["windows", "tallies", "event"]) fun _ _ _ _ _ _ us hl => match us, hl with | [_, _, _], _ => rfl) fun cdv A outer s H E hr => ?_
  have hx : Passes (L2.CX P w) (cxOf (L2.CX P w) P w K mg base ["windows", "tallies", "event", "first", "last", "cuts", "found", "start", "end", "narrowed", "time", "low", "high"] "event_times" (defScope s_event_times) f cdv A outer s H E) E := passes_call (takes_of rfl rfl rfl rfl) fun _ _ _ _ h => h
  exact ⟨_, (ss_cons (sd_expr (de_call d_check_both fin0_len (hr.mono (by decide)) (by rfl) hx (da_cons (dv 0) (da_cons (dv 1) da_nil))))
    (ss_cons (sd_expr (de_call d_check_event fin0_len (hr.mono (by decide)) (by rfl) hx (da_cons (dv 0) (da_cons (dv 2) da_nil))))
    (ss_cons (sd_asg (de_ix (K := K) (dv 0) (dv 2)) (gd_tup (K := K) (n := 2) rfl (gs_cons (i := 3) sc_event_times.nd rfl (by first | exact Or.inl rfl | exact Or.inr rfl) (gs_cons (i := 4) sc_event_times.nd rfl (by first | exact Or.inl rfl | exact Or.inr rfl) gs_nil))))
    (ss_cons (sd_set (i := 5) (de_sortset (K := K) rfl (de_op (o_add (K := K)) (de_lst (da_cons (de_op o_sub (dv 3) de_int) (da_cons (dv 4) da_nil))) (de_lcN ["windows", "tallies", "event", "first", "last", "cuts", "found", "start", "end", "narrowed", "time", "low", "high"] (defScope s_event_times) [("time", 10), ("low", 11), ("high", 12)] (di_seq (K := K) (dv 1)) rfl sc_event_times.nd (by decide +kernel) (fun _ _ _ _ _ => (gd_tup (K := K) (n := 3) rfl (gs_cons (i := 10) sc_event_times.nd rfl (by first | exact Or.inl rfl | exact Or.inr rfl) (gs_cons (i := 11) sc_event_times.nd rfl (by first | exact Or.inl rfl | exact Or.inr rfl) (gs_cons (i := 12) sc_event_times.nd rfl (by first | exact Or.inl rfl | exact Or.inr rfl) gs_nil))))) (fun _ _ _ _ _ => (ts_one (td_chain o_le o_lt (dv 3) (dv 10) (dv 4)))) (fun _ _ _ _ _ => (dv 10)))) (by rfl) T.sorted bb_sorted (by rfl) T.set bb_set) sc_event_times.nd rfl (by first | exact Or.inl rfl | exact Or.inr rfl))
    (ss_cons (sd_own (i := 6) (fd_lst da_nil) sc_event_times.nd rfl (by first | exact Or.inl rfl | exact Or.inr rfl))
    (ss_cons (sd_for' (passes_of rfl) rfl (di_zip (K := K) (by rfl) T.zip (da_cons (dv 5) (da_cons (de_sl (K := K) (dv 5) (do_some de_int) do_none) da_nil))) (gd_tup (K := K) (n := 2) rfl (gs_cons (i := 7) sc_event_times.nd rfl (by first | exact Or.inl rfl | exact Or.inr rfl) (gs_cons (i := 8) sc_event_times.nd rfl (by first | exact Or.inl rfl | exact Or.inr rfl) gs_nil)))
    (ss_cons (sd_set (i := 9) (de_op (o_add (K := K)) (de_op (o_add (K := K)) (de_sl (K := K) (dv 0) do_none (do_some (dv 2))) (de_tup (da_cons (de_tup (da_cons (de_op (o_add (K := K)) (dv 7) de_int) (da_cons (dv 8) da_nil))) da_nil))) (de_sl (K := K) (dv 0) (do_some (de_op (o_add (K := K)) (dv 2) de_int)) do_none)) sc_event_times.nd rfl (by first | exact Or.inl rfl | exact Or.inr rfl))
    (ss_one (sd_if (td_cmp o_is (de_call d_conflict_of fin0_len (hr.mono (by decide)) (by rfl) hx (da_cons (dv 9) (da_cons (dv 1) da_nil))) de_non)
    (ss_one (sd_if (WD.td (wd_and (td_ln (td_cmp (o_ne (K := K) hr.units) (dv 6) (de_lst da_nil))) (wd_and1 (td_cmp (o_eq (K := K) hr.units) (de_ix (K := K) (de_ox (K := K) (i := 6) (de_neg de_int)) de_int) (dv 7)))))
    (ss_one (sd_putN (i := 6) (de_tup (da_cons (de_ix (K := K) (de_ox (K := K) (i := 6) (de_neg de_int)) de_int) (da_cons (dv 8) da_nil))) (de_neg de_int) (hp := fun h1 h2 h3 => ps_asg h1 (pg_sub h2 h3 set_list))))
    (ss_one (sd_appN (i := 6) (de_tup (da_cons (de_op (o_add (K := K)) (dv 7) de_int) (da_cons (dv 8) da_nil))) (hp := fun h1 h2 => ps_expr (pe_bm PySem.F.plainAttrs_list PySem.F.slot_list_append PySem.F.type_list_append mt_append h1 (pa_cons h2 pa_nil)))))))
    ss_nil))))
    (ss_one (sd_retO (i := 6)))))))))⟩
abbrev s_surely_done : Stmt := topS 29
theorem sc_surely_done : FnScope ["windows", "tallies", "time", "event"] ["windows", "tallies", "time"] (defScope s_surely_done) := ⟨rfl, rfl, rfl, by decide +kernel, rfl, by decide +kernel, by decide +kernel⟩
theorem q_surely_done (T : Blt mg) (A : At K mg "surely_done" s_surely_done) (d_check_both : DefOk P w K mg base 6 "check_both" ["windows", "tallies"] (Sp0 K mg 2 m_check_both)) (d_check_time : DefOk P w K mg base 3 "check_time" ["time"] (Sp0 K mg 1 m_check_time)) (d_conflict_of : DefOk P w K mg base 3 "conflict_of" ["windows", "tallies"] (Sp0 K mg 2 m_conflict_of)) (d_event_times : DefOk P w K mg base 7 "event_times" ["windows", "tallies", "event"] (Sp0 K mg 3 m_event_times)) : DefOk P w K mg base 8 "surely_done" ["windows", "tallies", "time"] (Sp0 K mg 3 m_surely_done) := by
  obtain ⟨f, fd, F, hm⟩ := A.ex
  refine ok0 (n := 3) (u := 1) (b := b_surely_done) F sc_surely_done rfl rfl hm (F.binds (ps := ["windows", "tallies", "time"]) fun _ _ _ _ _ _ us hl => match us, hl with | [_, _, _], _ => rfl) fun cdv A outer s H E hr => ?_
  have hx : Passes (L2.CX P w) (cxOf (L2.CX P w) P w K mg base ["windows", "tallies", "time", "event"] "surely_done" (defScope s_surely_done) f cdv A outer s H E) E := passes_call (takes_of rfl rfl rfl rfl) fun _ _ _ _ h => h
  exact ⟨_, (ss_cons (sd_expr (de_call d_check_both fin0_len (hr.mono (by decide)) (by rfl) hx (da_cons (dv 0) (da_cons (dv 1) da_nil))))
    (ss_cons (sd_expr (de_call d_check_time fin0_len (hr.mono (by decide)) (by rfl) hx (da_cons (dv 2) da_nil)))
    (ss_cons (sd_if (td_cmp o_isn (de_call d_conflict_of fin0_len (hr.mono (by decide)) (by rfl) hx (da_cons (dv 0) (da_cons (dv 1) da_nil))) de_non)
    (ss_one (sd_ret de_non))
    ss_nil)
    (ss_one (sd_retF (fd_lcN ["windows", "tallies", "time", "event"] (defScope s_surely_done) [("event", 3)] (di_r1 (by rfl) T.range (da_cons (de_b (c_len (K := K)) (by rfl) T.len bb_len (da_cons (dv 0) da_nil)) da_nil)) rfl sc_surely_done.nd (by decide +kernel) (fun _ _ _ _ _ => (gd_name (i := 3) sc_surely_done.nd rfl (by first | exact Or.inl rfl | exact Or.inr rfl))) (fun _ _ _ _ _ => (ts_one (td_cmp o_le (de_ix (K := K) (de_ix (K := K) (de_call d_event_times fin0_len (hr.mono (by decide)) (by rfl) passL (da_cons (dv 0) (da_cons (dv 1) (da_cons (dv 3) da_nil)))) (de_neg de_int)) de_int) (dv 2)))) (fun _ _ _ _ _ => (dv 3))))))))⟩
abbrev s__law_well : Stmt := topS 31
theorem sc__law_well : FnScope ["cell", "turn"] ["cell", "turn"] (defScope s__law_well) := ⟨rfl, rfl, rfl, by decide +kernel, rfl, by decide +kernel, by decide +kernel⟩
theorem q__law_well (T : Blt mg) (A : At K mg "_law_well" s__law_well) : DefOk P w K mg base 1 "_law_well" ["cell", "turn"] (Sp0 K mg 2 m__law_well) := by
  obtain ⟨f, fd, F, hm⟩ := A.ex
  refine ok0 (n := 2) (u := 0) (b := b__law_well) F sc__law_well rfl rfl hm (F.binds (ps := ["cell", "turn"]) fun _ _ _ _ _ _ us hl => match us, hl with | [_, _], _ => rfl) fun cdv A outer s H E hr => ?_
  have hx : Passes (L2.CX P w) (cxOf (L2.CX P w) P w K mg base ["cell", "turn"] "_law_well" (defScope s__law_well) f cdv A outer s H E) E := passes_call (takes_of rfl rfl rfl rfl) fun _ _ _ _ h => h
  exact ⟨_, (ss_cons (sd_if (td_cmp o_ge (dv 0) (de_op o_pow de_int de_int))
    (ss_one (sd_retF (fd_lst (da_cons (de_op o_sub (dv 0) (de_op o_pow de_int de_int)) (da_cons (de_op o_mod (dv 0) de_int) (da_cons (dv 1) da_nil))))))
    ss_nil)
    (ss_one (sd_retF (fd_lst (da_cons de_int (da_cons (de_op o_mod (dv 0) de_int) (da_cons (dv 1) da_nil)))))))⟩
abbrev s__law_take : Stmt := topS 32
theorem sc__law_take : FnScope ["bag", "many", "found", "p", "n"] ["bag", "many"] (defScope s__law_take) := ⟨rfl, rfl, rfl, by decide +kernel, rfl, by decide +kernel, by decide +kernel⟩
theorem q__law_take (T : Blt mg) (A : At K mg "_law_take" s__law_take) : DefOk P w K mg base 1 "_law_take" ["bag", "many"] (Sp1 K 1 m__law_take) := by
  obtain ⟨f, fd, F, hm⟩ := A.ex
  refine ok1 (n := 1) (u := 3) (b := b__law_take) F sc__law_take rfl rfl hm (F.binds (ps := ["bag", "many"]) fun _ _ _ _ _ _ us hl => match us, hl with | [_, _], _ => rfl) fun cdv A outer s H E hr => ?_
  have hx : Passes (L2.CX P w) (cxOf (L2.CX P w) P w K mg base ["bag", "many", "found", "p", "n"] "_law_take" (defScope s__law_take) f cdv A outer s H E) E := passes_call (takes_of rfl rfl rfl rfl) fun _ _ _ _ h => h
  exact ⟨_, (ss_cons (sd_if (td_cmp o_gt (de_ox (K := K) (i := 0) de_int) de_int)
    (ss_cons (sd_set (i := 2) (de_op o_mod (de_ox (K := K) (i := 0) de_int) (dv 1)) sc__law_take.nd rfl (by first | exact Or.inl rfl | exact Or.inr rfl))
    (ss_cons (sd_putN (i := 0) (de_op o_div (de_ox (K := K) (i := 0) de_int) (dv 1)) de_int (hp := fun h1 h2 h3 => ps_asg h1 (pg_sub h2 h3 set_list)))
    (ss_one (sd_ret (dv 2)))))
    ss_nil)
    (ss_cons (sd_putN (i := 0) (de_op (o_add (K := K)) (de_ox (K := K) (i := 0) de_int) de_int) de_int (hp := fun h1 h2 h3 => ps_asg h1 (pg_sub h2 h3 set_list)))
    (ss_cons (sd_set (i := 3) de_int sc__law_take.nd rfl (by first | exact Or.inl rfl | exact Or.inr rfl))
    (ss_cons (sd_set (i := 4) (de_op o_mod (de_op (o_add (K := K)) (de_ox (K := K) (i := 0) de_int) (de_op (o_mul (K := K)) de_int (de_ox (K := K) (i := 0) de_int))) (dv 3)) sc__law_take.nd rfl (by first | exact Or.inl rfl | exact Or.inr rfl))
    (ss_cons (sd_set (i := 4) (de_op o_mod (de_op (o_add (K := K)) (de_op (o_add (K := K)) (de_op (o_mul (K := K)) (dv 4) (dv 4)) (de_op (o_mul (K := K)) de_int (de_op o_pow (de_ox (K := K) (i := 0) de_int) de_int))) de_int) (dv 3)) sc__law_take.nd rfl (by first | exact Or.inl rfl | exact Or.inr rfl))
    (ss_one (sd_ret (de_op o_mod (de_op o_div (de_op o_mod (de_op o_pow (dv 4) de_int) (dv 3)) de_int) (dv 1)))))))))⟩
abbrev s__law_bags : Stmt := topS 33
theorem sc__law_bags : FnScope ["script", "most", "k", "cell"] ["script", "most"] (defScope s__law_bags) := ⟨rfl, rfl, rfl, by decide +kernel, rfl, by decide +kernel, by decide +kernel⟩
theorem q__law_bags (T : Blt mg) (A : At K mg "_law_bags" s__law_bags) (d__law_well : DefOk P w K mg base 1 "_law_well" ["cell", "turn"] (Sp0 K mg 2 m__law_well)) : DefOk P w K mg base 2 "_law_bags" ["script", "most"] (SpB K 2 m__law_bags) := by
  obtain ⟨f, fd, F, hm⟩ := A.ex
  refine okB (n := 2) (u := 2) (b := b__law_bags) F sc__law_bags rfl rfl rfl hm (F.binds (ps := ["script", "most"]) fun _ _ _ _ _ _ us hl => match us, hl with | [_, _], _ => rfl) fun cdv A outer s H E hr => ?_
  have hx : Passes (L2.CX P w) (cxOf (L2.CX P w) P w K mg base ["script", "most", "k", "cell"] "_law_bags" (defScope s__law_bags) f cdv A outer s H E) E := passes_call (takes_of rfl rfl rfl rfl) fun _ _ _ _ h => h
  exact ⟨_, (bd_lcN ["script", "most", "k", "cell"] (defScope s__law_bags) [("k", 2), ("cell", 3)] (di_en (K := K) (by rfl) T.enumerate (da_cons (de_op (o_add (K := K)) (de_sl (K := K) (dv 0) do_none (do_some (dv 1))) (de_lst (da_cons de_int da_nil))) da_nil)) rfl sc__law_bags.nd (by decide +kernel) (fun _ _ _ _ _ => (gd_tup (K := K) (n := 2) rfl (gs_cons (i := 2) sc__law_bags.nd rfl (by first | exact Or.inl rfl | exact Or.inr rfl) (gs_cons (i := 3) sc__law_bags.nd rfl (by first | exact Or.inl rfl | exact Or.inr rfl) gs_nil)))) (fun _ _ _ _ _ => (fd_call d__law_well fin0_len (hr.mono (by decide)) (by rfl) passL (da_cons (dv 3) (da_cons (de_op (o_mul (K := K)) de_int (dv 2)) da_nil)))))⟩
abbrev s__law_same : Stmt := topS 34
theorem sc__law_same : FnScope ["a", "b", "x", "y"] ["a", "b"] (defScope s__law_same) := ⟨rfl, rfl, rfl, by decide +kernel, rfl, by decide +kernel, by decide +kernel⟩
theorem q__law_same (T : Blt mg) (A : At K mg "_law_same" s__law_same) : ∀ k, DefOk P w K mg base k "_law_same" ["a", "b"] (Sp0 K mg 2 (m__law_same k))
  | 0 => by
    obtain ⟨f, fd, F, hm⟩ := A.ex
    exact okZ F hm (F.binds (ps := ["a", "b"]) fun _ _ _ _ _ _ us hl => match us, hl with | [_, _], _ => rfl)
  | k + 1 => by
    have ih : DefOk P w K mg base k "_law_same" ["a", "b"] (Sp0 K mg 2 (m__law_same k)) := q__law_same T A k
    obtain ⟨f, fd, F, hm⟩ := A.ex
    refine ok0 (n := 2) (u := 2) (b := b__law_same (m__law_same k)) F sc__law_same rfl rfl hm (F.binds (ps := ["a", "b"]) fun _ _ _ _ _ _ us hl => match us, hl with | [_, _], _ => rfl) fun cdv A outer s H E hr => ?_
    have hx : Passes (L2.CX P w) (cxOf (L2.CX P w) P w K mg base ["a", "b", "x", "y"] "_law_same" (defScope s__law_same) f cdv A outer s H E) E := passes_call (takes_of rfl rfl rfl rfl) fun _ _ _ _ h => h
    exact ⟨_, (ss_cons (sd_if (WD.td (wd_or (WD.td (wd_and (td_val (de_isi (K := K) .list (dv 0) (by rfl) T.isinstance (by rfl) T.list bb_list)) (wd_and1 (td_val (de_isi (K := K) .list (dv 1) (by rfl) T.isinstance (by rfl) T.list bb_list))))) (wd_or1 (WD.td (wd_and (td_val (de_isi (K := K) .tuple (dv 0) (by rfl) T.isinstance (by rfl) T.tuple bb_tuple)) (wd_and1 (td_val (de_isi (K := K) .tuple (dv 1) (by rfl) T.isinstance (by rfl) T.tuple bb_tuple))))))))
    (ss_one (sd_ret (de_and (de_cmp (o_eq (K := K) hr.units) (de_b (c_len (K := K)) (by rfl) T.len bb_len (da_cons (dv 0) da_nil)) (de_b (c_len (K := K)) (by rfl) T.len bb_len (da_cons (dv 1) da_nil))) (de_one (de_b (c_all (K := K) rfl) (by rfl) T.all bb_all (da_cons (de_lcN ["a", "b", "x", "y"] (defScope s__law_same) [("x", 2), ("y", 3)] (di_zip (K := K) (by rfl) T.zip (da_cons (dv 0) (da_cons (dv 1) da_nil))) rfl sc__law_same.nd (by decide +kernel) (fun _ _ _ _ _ => (gd_tup (K := K) (n := 2) rfl (gs_cons (i := 2) sc__law_same.nd rfl (by first | exact Or.inl rfl | exact Or.inr rfl) (gs_cons (i := 3) sc__law_same.nd rfl (by first | exact Or.inl rfl | exact Or.inr rfl) gs_nil)))) (fun _ _ _ _ _ => ts_nil) (fun _ _ _ _ _ => (de_call ih (_law_same_len k) hr (by rfl) passL (da_cons (dv 2) (da_cons (dv 3) da_nil))))) da_nil))))))
    ss_nil)
    (ss_cons (sd_if (WD.td (wd_or (td_val (de_isiA (K := K) (dv 0) (by simp) (pa_ty ⟨by rfl, T.bool, bb_bool, by decide, by decide⟩ (pa_ty ⟨by rfl, T.list, bb_list, by decide, by decide⟩ (pa_ty ⟨by rfl, T.tuple, bb_tuple, by decide, by decide⟩ pa_nil))) (by decide) (by rfl) T.isinstance bb_isinstance)) (wd_or1 (td_val (de_isiA (K := K) (dv 1) (by simp) (pa_ty ⟨by rfl, T.bool, bb_bool, by decide, by decide⟩ (pa_ty ⟨by rfl, T.list, bb_list, by decide, by decide⟩ (pa_ty ⟨by rfl, T.tuple, bb_tuple, by decide, by decide⟩ pa_nil))) (by decide) (by rfl) T.isinstance bb_isinstance)))))
    (ss_one (sd_ret (de_and (de_isi (K := K) .bool (dv 0) (by rfl) T.isinstance (by rfl) T.bool bb_bool) (de_and (de_isi (K := K) .bool (dv 1) (by rfl) T.isinstance (by rfl) T.bool bb_bool) (de_one (de_cmp (o_eq (K := K) hr.units) (dv 0) (dv 1)))))))
    ss_nil)
    (ss_cons (sd_if (WD.td (wd_or (td_val (de_isi (K := K) .int (dv 0) (by rfl) T.isinstance (by rfl) T.int bb_int)) (wd_or1 (td_val (de_isi (K := K) .int (dv 1) (by rfl) T.isinstance (by rfl) T.int bb_int)))))
    (ss_one (sd_ret (de_and (de_isi (K := K) .int (dv 0) (by rfl) T.isinstance (by rfl) T.int bb_int) (de_and (de_isi (K := K) .int (dv 1) (by rfl) T.isinstance (by rfl) T.int bb_int) (de_one (de_cmp (o_eq (K := K) hr.units) (dv 0) (dv 1)))))))
    ss_nil)
    (ss_cons (sd_if (WD.td (wd_or (td_val (de_isi (K := K) .str (dv 0) (by rfl) T.isinstance (by rfl) T.str bb_str)) (wd_or1 (td_val (de_isi (K := K) .str (dv 1) (by rfl) T.isinstance (by rfl) T.str bb_str)))))
    (ss_one (sd_ret (de_and (de_isi (K := K) .str (dv 0) (by rfl) T.isinstance (by rfl) T.str bb_str) (de_and (de_isi (K := K) .str (dv 1) (by rfl) T.isinstance (by rfl) T.str bb_str) (de_one (de_cmp (o_eq (K := K) hr.units) (dv 0) (dv 1)))))))
    ss_nil)
    (ss_one (sd_ret (de_and (de_cmp o_is (dv 0) de_non) (de_one (de_cmp o_is (dv 1) de_non)))))))))⟩
abbrev s__law_windows : Stmt := topS 35
theorem sc__law_windows : FnScope ["bag", "most", "end", "found", "turn", "first", "wide"] ["bag", "most", "end"] (defScope s__law_windows) := ⟨rfl, rfl, rfl, by decide +kernel, rfl, by decide +kernel, by decide +kernel⟩
theorem q__law_windows (T : Blt mg) (A : At K mg "_law_windows" s__law_windows) (d__law_take : DefOk P w K mg base 1 "_law_take" ["bag", "many"] (Sp1 K 1 m__law_take)) : DefOk P w K mg base 2 "_law_windows" ["bag", "most", "end"] (Sp1 K 2 m__law_windows) := by
  obtain ⟨f, fd, F, hm⟩ := A.ex
  refine ok1 (n := 2) (u := 4) (b := b__law_windows) F sc__law_windows rfl rfl hm (F.binds (ps := ["bag", "most", "end"]) fun _ _ _ _ _ _ us hl => match us, hl with | [_, _, _], _ => rfl) fun cdv A outer s H E hr => ?_
  have hx : Passes (L2.CX P w) (cxOf (L2.CX P w) P w K mg base ["bag", "most", "end", "found", "turn", "first", "wide"] "_law_windows" (defScope s__law_windows) f cdv A outer s H E) E := passes_call (takes_of rfl rfl rfl rfl) fun _ _ _ _ h => h
  exact ⟨_, (ss_cons (sd_set (i := 3) (de_tup da_nil) sc__law_windows.nd rfl (by first | exact Or.inl rfl | exact Or.inr rfl))
    (ss_cons (sd_for' (passes_of rfl) rfl (di_r1 (by rfl) T.range (da_cons (de_call1 (i := 0) d__law_take fin1_len (hr.mono (by decide)) (by rfl) hx (da_cons (de_op (o_add (K := K)) (dv 1) de_int) da_nil)) da_nil)) (gd_name (i := 4) sc__law_windows.nd rfl (by first | exact Or.inl rfl | exact Or.inr rfl))
    (ss_cons (sd_set (i := 5) (de_call1 (i := 0) d__law_take fin1_len (hr.mono (by decide)) (by rfl) hx (da_cons (de_op (o_add (K := K)) (dv 2) de_int) da_nil)) sc__law_windows.nd rfl (by first | exact Or.inl rfl | exact Or.inr rfl))
    (ss_cons (sd_set (i := 6) (de_ix (K := K) (de_lst (da_cons de_int (da_cons de_int (da_cons (de_op o_div (dv 2) de_int) (da_cons (dv 2) da_nil))))) (de_call1 (i := 0) d__law_take fin1_len (hr.mono (by decide)) (by rfl) hx (da_cons de_int da_nil))) sc__law_windows.nd rfl (by first | exact Or.inl rfl | exact Or.inr rfl))
    (ss_one (sd_set (i := 3) (de_op (o_add (K := K)) (dv 3) (de_tup (da_cons (de_tup (da_cons (dv 5) (da_cons (de_b (c_min (K := K) rfl) (by rfl) T.min bb_min (da_cons (dv 2) (da_cons (de_op (o_add (K := K)) (dv 5) (de_call1 (i := 0) d__law_take fin1_len (hr.mono (by decide)) (by rfl) hx (da_cons (de_op (o_add (K := K)) (dv 6) de_int) da_nil))) da_nil))) da_nil))) da_nil))) sc__law_windows.nd rfl (by first | exact Or.inl rfl | exact Or.inr rfl))))))
    (ss_one (sd_ret (dv 3)))))⟩
abbrev s__law_course : Stmt := topS 36
theorem sc__law_course : FnScope ["bag", "windows", "first", "last"] ["bag", "windows"] (defScope s__law_course) := ⟨rfl, rfl, rfl, by decide +kernel, rfl, by decide +kernel, by decide +kernel⟩
theorem q__law_course (T : Blt mg) (A : At K mg "_law_course" s__law_course) (d__law_take : DefOk P w K mg base 1 "_law_take" ["bag", "many"] (Sp1 K 1 m__law_take)) : DefOk P w K mg base 2 "_law_course" ["bag", "windows"] (Sp1 K 1 m__law_course) := by
  obtain ⟨f, fd, F, hm⟩ := A.ex
  refine ok1 (n := 1) (u := 2) (b := b__law_course) F sc__law_course rfl rfl hm (F.binds (ps := ["bag", "windows"]) fun _ _ _ _ _ _ us hl => match us, hl with | [_, _], _ => rfl) fun cdv A outer s H E hr => ?_
  have hx : Passes (L2.CX P w) (cxOf (L2.CX P w) P w K mg base ["bag", "windows", "first", "last"] "_law_course" (defScope s__law_course) f cdv A outer s H E) E := passes_call (takes_of rfl rfl rfl rfl) fun _ _ _ _ h => h
  exact ⟨_, (ss_one (sd_ret (de_ty (c_tuple (K := K)) (by rfl) T.tuple bb_tuple (da_cons (de_lcN ["bag", "windows", "first", "last"] (defScope s__law_course) [("first", 2), ("last", 3)] (di_seq (K := K) (dv 1)) rfl sc__law_course.nd (by decide +kernel) (fun _ _ _ _ _ => (gd_tup (K := K) (n := 2) rfl (gs_cons (i := 2) sc__law_course.nd rfl (by first | exact Or.inl rfl | exact Or.inr rfl) (gs_cons (i := 3) sc__law_course.nd rfl (by first | exact Or.inl rfl | exact Or.inr rfl) gs_nil)))) (fun _ _ _ _ _ => ts_nil) (fun _ _ _ _ _ => (de_op (o_add (K := K)) (dv 2) (de_call1 (i := 0) d__law_take fin1_len (hr.mono (by decide)) (by rfl) passL (da_cons (de_op (o_add (K := K)) (de_op o_sub (dv 3) (dv 2)) de_int) da_nil))))) da_nil))))⟩
abbrev s__law_number : Stmt := topS 37
theorem sc__law_number : FnScope ["course", "time", "moment"] ["course", "time"] (defScope s__law_number) := ⟨rfl, rfl, rfl, by decide +kernel, rfl, by decide +kernel, by decide +kernel⟩
theorem q__law_number (T : Blt mg) (A : At K mg "_law_number" s__law_number) : DefOk P w K mg base 1 "_law_number" ["course", "time"] (Sp0 K mg 2 m__law_number) := by
  obtain ⟨f, fd, F, hm⟩ := A.ex
  refine ok0 (n := 2) (u := 1) (b := b__law_number) F sc__law_number rfl rfl hm (F.binds (ps := ["course", "time"]) fun _ _ _ _ _ _ us hl => match us, hl with | [_, _], _ => rfl) fun cdv A outer s H E hr => ?_
  have hx : Passes (L2.CX P w) (cxOf (L2.CX P w) P w K mg base ["course", "time", "moment"] "_law_number" (defScope s__law_number) f cdv A outer s H E) E := passes_call (takes_of rfl rfl rfl rfl) fun _ _ _ _ h => h
  exact ⟨_, (ss_one (sd_ret (de_b (c_len (K := K)) (by rfl) T.len bb_len (da_cons (de_lcN ["course", "time", "moment"] (defScope s__law_number) [("moment", 2)] (di_seq (K := K) (dv 0)) rfl sc__law_number.nd (by decide +kernel) (fun _ _ _ _ _ => (gd_name (i := 2) sc__law_number.nd rfl (by first | exact Or.inl rfl | exact Or.inr rfl))) (fun _ _ _ _ _ => (ts_one (td_cmp o_le (dv 2) (dv 1)))) (fun _ _ _ _ _ => (dv 2))) da_nil))))⟩
abbrev s__law_tallies : Stmt := topS 38
theorem sc__law_tallies : FnScope ["bag", "windows", "end", "way", "course", "found", "turn", "time", "number", "low", "high"] ["bag", "windows", "end", "way"] (defScope s__law_tallies) := ⟨rfl, rfl, rfl, by decide +kernel, rfl, by decide +kernel, by decide +kernel⟩
theorem q__law_tallies (T : Blt mg) (A : At K mg "_law_tallies" s__law_tallies) (d__law_course : DefOk P w K mg base 2 "_law_course" ["bag", "windows"] (Sp1 K 1 m__law_course)) (d__law_number : DefOk P w K mg base 1 "_law_number" ["course", "time"] (Sp0 K mg 2 m__law_number)) (d__law_take : DefOk P w K mg base 1 "_law_take" ["bag", "many"] (Sp1 K 1 m__law_take)) : DefOk P w K mg base 3 "_law_tallies" ["bag", "windows", "end", "way"] (Sp1 K 3 m__law_tallies) := by
  obtain ⟨f, fd, F, hm⟩ := A.ex
  refine ok1 (n := 3) (u := 7) (b := b__law_tallies) F sc__law_tallies rfl rfl hm (F.binds (ps := ["bag", "windows", "end", "way"]) fun _ _ _ _ _ _ us hl => match us, hl with | [_, _, _, _], _ => rfl) fun cdv A outer s H E hr => ?_
  have hx : Passes (L2.CX P w) (cxOf (L2.CX P w) P w K mg base ["bag", "windows", "end", "way", "course", "found", "turn", "time", "number", "low", "high"] "_law_tallies" (defScope s__law_tallies) f cdv A outer s H E) E := passes_call (takes_of rfl rfl rfl rfl) fun _ _ _ _ h => h
  exact ⟨_, (ss_cons (sd_parD (i := 4) (j := 5) (de_call1 (i := 0) d__law_course fin1_len (hr.mono (by decide)) (by rfl) hx (da_cons (dv 1) da_nil)) rfl sc__law_tallies.nd rfl rfl (by decide) (by first | exact Or.inl rfl | exact Or.inr rfl) (by first | exact Or.inl rfl | exact Or.inr rfl))
    (ss_cons (sd_for' (passes_of rfl) rfl (di_r1 (by rfl) T.range (da_cons (de_call1 (i := 0) d__law_take fin1_len (hr.mono (by decide)) (by rfl) hx (da_cons de_int da_nil)) da_nil)) (gd_name (i := 6) sc__law_tallies.nd rfl (by first | exact Or.inl rfl | exact Or.inr rfl))
    (ss_cons (sd_set (i := 7) (de_call1 (i := 0) d__law_take fin1_len (hr.mono (by decide)) (by rfl) hx (da_cons (de_op (o_add (K := K)) (dv 2) de_int) da_nil)) sc__law_tallies.nd rfl (by first | exact Or.inl rfl | exact Or.inr rfl))
    (ss_cons (sd_set (i := 8) (de_call d__law_number fin0_len (hr.mono (by decide)) (by rfl) hx (da_cons (dv 4) (da_cons (dv 7) da_nil))) sc__law_tallies.nd rfl (by first | exact Or.inl rfl | exact Or.inr rfl))
    (ss_cons (sd_par (i := 9) (j := 10) (da_cons (de_b (c_max (K := K) rfl) (by rfl) T.max bb_max (da_cons de_int (da_cons (de_op o_sub (dv 8) (de_call1 (i := 0) d__law_take fin1_len (hr.mono (by decide)) (by rfl) hx (da_cons de_int da_nil))) da_nil))) (da_cons (de_b (c_min (K := K) rfl) (by rfl) T.min bb_min (da_cons (de_b (c_len (K := K)) (by rfl) T.len bb_len (da_cons (dv 1) da_nil)) (da_cons (de_op (o_add (K := K)) (dv 8) (de_call1 (i := 0) d__law_take fin1_len (hr.mono (by decide)) (by rfl) hx (da_cons de_int da_nil))) da_nil))) da_nil)) rfl sc__law_tallies.nd rfl rfl (by decide) rfl rfl)
    (ss_cons (sd_if (WD.td (wd_and (td_cmp o_gt (dv 3) de_int) (wd_and1 (td_cmp (o_eq (K := K) hr.units) (de_call1 (i := 0) d__law_take fin1_len (hr.mono (by decide)) (by rfl) hx (da_cons de_int da_nil)) de_int))))
    (ss_cons (sd_set (i := 9) (de_call1 (i := 0) d__law_take fin1_len (hr.mono (by decide)) (by rfl) hx (da_cons (de_op (o_add (K := K)) (de_b (c_len (K := K)) (by rfl) T.len bb_len (da_cons (dv 1) da_nil)) de_int) da_nil)) sc__law_tallies.nd rfl (by first | exact Or.inl rfl | exact Or.inr rfl))
    (ss_one (sd_set (i := 10) (de_op (o_add (K := K)) (dv 9) (de_call1 (i := 0) d__law_take fin1_len (hr.mono (by decide)) (by rfl) hx (da_cons (de_op o_sub (de_op (o_add (K := K)) (de_b (c_len (K := K)) (by rfl) T.len bb_len (da_cons (dv 1) da_nil)) de_int) (dv 9)) da_nil))) sc__law_tallies.nd rfl (by first | exact Or.inl rfl | exact Or.inr rfl))))
    ss_nil)
    (ss_one (sd_dput (i := 5) (hu_of hr) (de_tup (da_cons (dv 7) (da_cons (dv 9) (da_cons (dv 10) da_nil)))) (dv 7))))))))
    (ss_one (sd_ret (de_ty (c_tuple (K := K)) (by rfl) T.tuple bb_tuple (da_cons (de_lcN ["bag", "windows", "end", "way", "course", "found", "turn", "time", "number", "low", "high"] (defScope s__law_tallies) [("time", 7)] (di_seq (K := K) (de_dsort (i := 5) rfl (by rfl) T.sorted bb_sorted)) rfl sc__law_tallies.nd (by decide +kernel) (fun _ _ _ _ _ => (gd_name (i := 7) sc__law_tallies.nd rfl (by first | exact Or.inl rfl | exact Or.inr rfl))) (fun _ _ _ _ _ => ts_nil) (fun _ _ _ _ _ => (de_dget (i := 5) (hu_of hr) (dv 7)))) da_nil))))))⟩
abbrev s__law_inside : Stmt := topS 39
theorem sc__law_inside : FnScope ["windows", "start", "end", "first", "last"] ["windows", "start", "end"] (defScope s__law_inside) := ⟨rfl, rfl, rfl, by decide +kernel, rfl, by decide +kernel, by decide +kernel⟩
theorem q__law_inside (T : Blt mg) (A : At K mg "_law_inside" s__law_inside) : DefOk P w K mg base 1 "_law_inside" ["windows", "start", "end"] (Sp0 K mg 3 m__law_inside) := by
  obtain ⟨f, fd, F, hm⟩ := A.ex
  refine ok0 (n := 3) (u := 2) (b := b__law_inside) F sc__law_inside rfl rfl hm (F.binds (ps := ["windows", "start", "end"]) fun _ _ _ _ _ _ us hl => match us, hl with | [_, _, _], _ => rfl) fun cdv A outer s H E hr => ?_
  have hx : Passes (L2.CX P w) (cxOf (L2.CX P w) P w K mg base ["windows", "start", "end", "first", "last"] "_law_inside" (defScope s__law_inside) f cdv A outer s H E) E := passes_call (takes_of rfl rfl rfl rfl) fun _ _ _ _ h => h
  exact ⟨_, (ss_one (sd_ret (de_b (c_len (K := K)) (by rfl) T.len bb_len (da_cons (de_lcN ["windows", "start", "end", "first", "last"] (defScope s__law_inside) [("first", 3), ("last", 4)] (di_seq (K := K) (dv 0)) rfl sc__law_inside.nd (by decide +kernel) (fun _ _ _ _ _ => (gd_tup (K := K) (n := 2) rfl (gs_cons (i := 3) sc__law_inside.nd rfl (by first | exact Or.inl rfl | exact Or.inr rfl) (gs_cons (i := 4) sc__law_inside.nd rfl (by first | exact Or.inl rfl | exact Or.inr rfl) gs_nil)))) (fun _ _ _ _ _ => (ts_one (WD.td (wd_and (td_cmp o_lt (dv 1) (dv 3)) (wd_and1 (td_cmp o_le (dv 4) (dv 2))))))) (fun _ _ _ _ _ => de_int)) da_nil))))⟩
abbrev s__law_pairs : Stmt := topS 40
theorem sc__law_pairs : FnScope ["windows", "tallies", "starts", "ends", "found", "one", "start", "low", "other", "end", "high", "index", "row"] ["windows", "tallies"] (defScope s__law_pairs) := ⟨rfl, rfl, rfl, by decide +kernel, rfl, by decide +kernel, by decide +kernel⟩
theorem q__law_pairs (T : Blt mg) (A : At K mg "_law_pairs" s__law_pairs) (d__law_inside : DefOk P w K mg base 1 "_law_inside" ["windows", "start", "end"] (Sp0 K mg 3 m__law_inside)) : DefOk P w K mg base 2 "_law_pairs" ["windows", "tallies"] (Sp0 K mg 2 m__law_pairs) := by
  obtain ⟨f, fd, F, hm⟩ := A.ex
  refine ok0 (n := 2) (u := 11) (b := b__law_pairs) F sc__law_pairs rfl rfl hm (F.binds (ps := ["windows", "tallies"]) fun _ _ _ _ _ _ us hl => match us, hl with | [_, _], _ => rfl) fun cdv A outer s H E hr => ?_
  have hx : Passes (L2.CX P w) (cxOf (L2.CX P w) P w K mg base ["windows", "tallies", "starts", "ends", "found", "one", "start", "low", "other", "end", "high", "index", "row"] "_law_pairs" (defScope s__law_pairs) f cdv A outer s H E) E := passes_call (takes_of rfl rfl rfl rfl) fun _ _ _ _ h => h
  exact ⟨_, (ss_cons (sd_set (i := 2) (de_op (o_add (K := K)) (de_lst (da_cons (de_tup (da_cons de_non (da_cons (de_neg de_int) (da_cons de_int da_nil)))) da_nil)) (de_lcN ["windows", "tallies", "starts", "ends", "found", "one", "start", "low", "other", "end", "high", "index", "row"] (defScope s__law_pairs) [("index", 11), ("row", 12)] (di_en (K := K) (by rfl) T.enumerate (da_cons (dv 1) da_nil)) rfl sc__law_pairs.nd (by decide +kernel) (fun _ _ _ _ _ => (gd_tup (K := K) (n := 2) rfl (gs_cons (i := 11) sc__law_pairs.nd rfl (by first | exact Or.inl rfl | exact Or.inr rfl) (gs_cons (i := 12) sc__law_pairs.nd rfl (by first | exact Or.inl rfl | exact Or.inr rfl) gs_nil)))) (fun _ _ _ _ _ => ts_nil) (fun _ _ _ _ _ => (de_tup (da_cons (dv 11) (da_cons (de_ix (K := K) (dv 12) de_int) (da_cons (de_ix (K := K) (dv 12) de_int) da_nil))))))) sc__law_pairs.nd rfl (by first | exact Or.inl rfl | exact Or.inr rfl))
    (ss_cons (sd_set (i := 3) (de_op (o_add (K := K)) (de_lst (da_cons (de_tup (da_cons de_non (da_cons de_int (da_cons (de_b (c_len (K := K)) (by rfl) T.len bb_len (da_cons (dv 0) da_nil)) da_nil)))) da_nil)) (de_lcN ["windows", "tallies", "starts", "ends", "found", "one", "start", "low", "other", "end", "high", "index", "row"] (defScope s__law_pairs) [("index", 11), ("row", 12)] (di_en (K := K) (by rfl) T.enumerate (da_cons (dv 1) da_nil)) rfl sc__law_pairs.nd (by decide +kernel) (fun _ _ _ _ _ => (gd_tup (K := K) (n := 2) rfl (gs_cons (i := 11) sc__law_pairs.nd rfl (by first | exact Or.inl rfl | exact Or.inr rfl) (gs_cons (i := 12) sc__law_pairs.nd rfl (by first | exact Or.inl rfl | exact Or.inr rfl) gs_nil)))) (fun _ _ _ _ _ => ts_nil) (fun _ _ _ _ _ => (de_tup (da_cons (dv 11) (da_cons (de_ix (K := K) (dv 12) de_int) (da_cons (de_ix (K := K) (dv 12) de_int) da_nil))))))) sc__law_pairs.nd rfl (by first | exact Or.inl rfl | exact Or.inr rfl))
    (ss_cons (sd_own (i := 4) (fd_lst da_nil) sc__law_pairs.nd rfl (by first | exact Or.inl rfl | exact Or.inr rfl))
    (ss_cons (sd_for' (passes_of rfl) rfl (di_seq (K := K) (dv 2)) (gd_tup (K := K) (n := 3) rfl (gs_cons (i := 5) sc__law_pairs.nd rfl (by first | exact Or.inl rfl | exact Or.inr rfl) (gs_cons (i := 6) sc__law_pairs.nd rfl (by first | exact Or.inl rfl | exact Or.inr rfl) (gs_cons (i := 7) sc__law_pairs.nd rfl (by first | exact Or.inl rfl | exact Or.inr rfl) gs_nil))))
    (ss_one (sd_for' (passes_of rfl) rfl (di_seq (K := K) (dv 3)) (gd_tup (K := K) (n := 3) rfl (gs_cons (i := 8) sc__law_pairs.nd rfl (by first | exact Or.inl rfl | exact Or.inr rfl) (gs_cons (i := 9) sc__law_pairs.nd rfl (by first | exact Or.inl rfl | exact Or.inr rfl) (gs_cons (i := 10) sc__law_pairs.nd rfl (by first | exact Or.inl rfl | exact Or.inr rfl) gs_nil))))
    (ss_one (sd_if (WD.td (wd_or (td_cmp o_is (dv 5) de_non) (wd_or (td_cmp o_is (dv 8) de_non) (wd_or1 (td_cmp o_le (dv 5) (dv 8))))))
    (ss_one (sd_appN (i := 4) (de_tup (da_cons (dv 5) (da_cons (dv 8) (da_cons (de_op o_sub (de_op (o_add (K := K)) (dv 7) (de_call d__law_inside fin0_len (hr.mono (by decide)) (by rfl) hx (da_cons (dv 0) (da_cons (dv 6) (da_cons (dv 9) da_nil))))) (dv 10)) da_nil)))) (hp := fun h1 h2 => ps_expr (pe_bm PySem.F.plainAttrs_list PySem.F.slot_list_append PySem.F.type_list_append mt_append h1 (pa_cons h2 pa_nil)))))
    ss_nil)))))
    (ss_one (sd_retO (i := 4)))))))⟩
abbrev s__law_agrees : Stmt := topS 41
theorem sc__law_agrees : FnScope ["windows", "tallies", "row"] ["windows", "tallies"] (defScope s__law_agrees) := ⟨rfl, rfl, rfl, by decide +kernel, rfl, by decide +kernel, by decide +kernel⟩
theorem q__law_agrees (T : Blt mg) (A : At K mg "_law_agrees" s__law_agrees) (d__law_pairs : DefOk P w K mg base 2 "_law_pairs" ["windows", "tallies"] (Sp0 K mg 2 m__law_pairs)) : DefOk P w K mg base 3 "_law_agrees" ["windows", "tallies"] (Sp0 K mg 2 m__law_agrees) := by
  obtain ⟨f, fd, F, hm⟩ := A.ex
  refine ok0 (n := 2) (u := 1) (b := b__law_agrees) F sc__law_agrees rfl rfl hm (F.binds (ps := ["windows", "tallies"]) fun _ _ _ _ _ _ us hl => match us, hl with | [_, _], _ => rfl) fun cdv A outer s H E hr => ?_
  have hx : Passes (L2.CX P w) (cxOf (L2.CX P w) P w K mg base ["windows", "tallies", "row"] "_law_agrees" (defScope s__law_agrees) f cdv A outer s H E) E := passes_call (takes_of rfl rfl rfl rfl) fun _ _ _ _ h => h
  exact ⟨_, (ss_one (sd_ret (de_cmp o_le (de_b (c_max (K := K) rfl) (by rfl) T.max bb_max (da_cons (de_lcN ["windows", "tallies", "row"] (defScope s__law_agrees) [("row", 2)] (di_seq (K := K) (de_call d__law_pairs fin0_len (hr.mono (by decide)) (by rfl) hx (da_cons (dv 0) (da_cons (dv 1) da_nil)))) rfl sc__law_agrees.nd (by decide +kernel) (fun _ _ _ _ _ => (gd_name (i := 2) sc__law_agrees.nd rfl (by first | exact Or.inl rfl | exact Or.inr rfl))) (fun _ _ _ _ _ => ts_nil) (fun _ _ _ _ _ => (de_ix (K := K) (dv 2) de_int))) da_nil)) de_int)))⟩
abbrev s__law_kept : Stmt := topS 42
theorem sc__law_kept : FnScope ["windows", "tallies", "course", "moment", "window", "time", "low", "high"] ["windows", "tallies", "course"] (defScope s__law_kept) := ⟨rfl, rfl, rfl, by decide +kernel, rfl, by decide +kernel, by decide +kernel⟩
theorem q__law_kept (T : Blt mg) (A : At K mg "_law_kept" s__law_kept) (d__law_number : DefOk P w K mg base 1 "_law_number" ["course", "time"] (Sp0 K mg 2 m__law_number)) : DefOk P w K mg base 2 "_law_kept" ["windows", "tallies", "course"] (Sp0 K mg 3 m__law_kept) := by
  obtain ⟨f, fd, F, hm⟩ := A.ex
  refine ok0 (n := 3) (u := 5) (b := b__law_kept) F sc__law_kept rfl rfl hm (F.binds (ps := ["windows", "tallies", "course"]) fun _ _ _ _ _ _ us hl => match us, hl with | [_, _, _], _ => rfl) fun cdv A outer s H E hr => ?_
  have hx : Passes (L2.CX P w) (cxOf (L2.CX P w) P w K mg base ["windows", "tallies", "course", "moment", "window", "time", "low", "high"] "_law_kept" (defScope s__law_kept) f cdv A outer s H E) E := passes_call (takes_of rfl rfl rfl rfl) fun _ _ _ _ h => h
  exact ⟨_, (ss_cons (sd_if (td_cmp (o_ne (K := K) hr.units) (de_lcN ["windows", "tallies", "course", "moment", "window", "time", "low", "high"] (defScope s__law_kept) [("moment", 3), ("window", 4)] (di_zip (K := K) (by rfl) T.zip (da_cons (dv 2) (da_cons (dv 0) da_nil))) rfl sc__law_kept.nd (by decide +kernel) (fun _ _ _ _ _ => (gd_tup (K := K) (n := 2) rfl (gs_cons (i := 3) sc__law_kept.nd rfl (by first | exact Or.inl rfl | exact Or.inr rfl) (gs_cons (i := 4) sc__law_kept.nd rfl (by first | exact Or.inl rfl | exact Or.inr rfl) gs_nil)))) (fun _ _ _ _ _ => (ts_one (td_not (td_chain o_le o_le (de_ix (K := K) (dv 4) de_int) (dv 3) (de_ix (K := K) (dv 4) de_int))))) (fun _ _ _ _ _ => de_int)) (de_lst da_nil))
    (ss_one (sd_ret de_bl))
    ss_nil)
    (ss_one (sd_ret (de_cmp (o_eq (K := K) hr.units) (de_lcN ["windows", "tallies", "course", "moment", "window", "time", "low", "high"] (defScope s__law_kept) [("time", 5), ("low", 6), ("high", 7)] (di_seq (K := K) (dv 1)) rfl sc__law_kept.nd (by decide +kernel) (fun _ _ _ _ _ => (gd_tup (K := K) (n := 3) rfl (gs_cons (i := 5) sc__law_kept.nd rfl (by first | exact Or.inl rfl | exact Or.inr rfl) (gs_cons (i := 6) sc__law_kept.nd rfl (by first | exact Or.inl rfl | exact Or.inr rfl) (gs_cons (i := 7) sc__law_kept.nd rfl (by first | exact Or.inl rfl | exact Or.inr rfl) gs_nil))))) (fun _ _ _ _ _ => (ts_one (td_not (td_chain o_le o_le (dv 6) (de_call d__law_number fin0_len (hr.mono (by decide)) (by rfl) passL (da_cons (dv 2) (da_cons (dv 5) da_nil))) (dv 7))))) (fun _ _ _ _ _ => de_int)) (de_lst da_nil)))))⟩
abbrev s__law_all : Stmt := topS 43
theorem sc__law_all : FnScope ["windows", "tallies", "found", "first", "last", "longer", "row", "moment"] ["windows", "tallies"] (defScope s__law_all) := ⟨rfl, rfl, rfl, by decide +kernel, rfl, by decide +kernel, by decide +kernel⟩
theorem q__law_all (T : Blt mg) (A : At K mg "_law_all" s__law_all) (d__law_kept : DefOk P w K mg base 2 "_law_kept" ["windows", "tallies", "course"] (Sp0 K mg 3 m__law_kept)) : DefOk P w K mg base 3 "_law_all" ["windows", "tallies"] (Sp0 K mg 2 m__law_all) := by
  obtain ⟨f, fd, F, hm⟩ := A.ex
  refine ok0 (n := 2) (u := 6) (b := b__law_all) F sc__law_all rfl rfl hm (F.binds (ps := ["windows", "tallies"]) fun _ _ _ _ _ _ us hl => match us, hl with | [_, _], _ => rfl) fun cdv A outer s H E hr => ?_
  have hx : Passes (L2.CX P w) (cxOf (L2.CX P w) P w K mg base ["windows", "tallies", "found", "first", "last", "longer", "row", "moment"] "_law_all" (defScope s__law_all) f cdv A outer s H E) E := passes_call (takes_of rfl rfl rfl rfl) fun _ _ _ _ h => h
  exact ⟨_, (ss_cons (sd_set (i := 2) (de_lst (da_cons (de_tup da_nil) da_nil)) sc__law_all.nd rfl (by first | exact Or.inl rfl | exact Or.inr rfl))
    (ss_cons (sd_for' (passes_of rfl) rfl (di_seq (K := K) (dv 0)) (gd_tup (K := K) (n := 2) rfl (gs_cons (i := 3) sc__law_all.nd rfl (by first | exact Or.inl rfl | exact Or.inr rfl) (gs_cons (i := 4) sc__law_all.nd rfl (by first | exact Or.inl rfl | exact Or.inr rfl) gs_nil)))
    (ss_cons (sd_set (i := 5) (de_lst da_nil) sc__law_all.nd rfl (by first | exact Or.inl rfl | exact Or.inr rfl))
    (ss_cons (sd_for' (passes_of rfl) rfl (di_seq (K := K) (dv 2)) (gd_name (i := 6) sc__law_all.nd rfl (by first | exact Or.inl rfl | exact Or.inr rfl))
    (ss_one (sd_set (i := 5) (de_op (o_add (K := K)) (dv 5) (de_lcN ["windows", "tallies", "found", "first", "last", "longer", "row", "moment"] (defScope s__law_all) [("moment", 7)] (di_r2 (by rfl) T.range (da_cons (dv 3) (da_cons (de_op (o_add (K := K)) (dv 4) de_int) da_nil))) rfl sc__law_all.nd (by decide +kernel) (fun _ _ _ _ _ => (gd_name (i := 7) sc__law_all.nd rfl (by first | exact Or.inl rfl | exact Or.inr rfl))) (fun _ _ _ _ _ => ts_nil) (fun _ _ _ _ _ => (de_op (o_add (K := K)) (dv 6) (de_tup (da_cons (dv 7) da_nil)))))) sc__law_all.nd rfl (by first | exact Or.inl rfl | exact Or.inr rfl))))
    (ss_one (sd_set (i := 2) (dv 5) sc__law_all.nd rfl (by first | exact Or.inl rfl | exact Or.inr rfl))))))
    (ss_one (sd_retF (fd_lcN ["windows", "tallies", "found", "first", "last", "longer", "row", "moment"] (defScope s__law_all) [("row", 6)] (di_seq (K := K) (dv 2)) rfl sc__law_all.nd (by decide +kernel) (fun _ _ _ _ _ => (gd_name (i := 6) sc__law_all.nd rfl (by first | exact Or.inl rfl | exact Or.inr rfl))) (fun _ _ _ _ _ => (ts_one (td_val (de_call d__law_kept fin0_len (hr.mono (by decide)) (by rfl) passL (da_cons (dv 0) (da_cons (dv 1) (da_cons (dv 6) da_nil))))))) (fun _ _ _ _ _ => (dv 6)))))))⟩
abbrev s__law_joined : Stmt := topS 44
theorem sc__law_joined : FnScope ["moments", "found", "moment"] ["moments"] (defScope s__law_joined) := ⟨rfl, rfl, rfl, by decide +kernel, rfl, by decide +kernel, by decide +kernel⟩
theorem q__law_joined (T : Blt mg) (A : At K mg "_law_joined" s__law_joined) : DefOk P w K mg base 1 "_law_joined" ["moments"] (Sp0 K mg 1 m__law_joined) := by
  obtain ⟨f, fd, F, hm⟩ := A.ex
  refine ok0 (n := 1) (u := 2) (b := b__law_joined) F sc__law_joined rfl rfl hm (F.binds (ps := ["moments"]) fun _ _ _ _ _ _ us hl => match us, hl with | [_], _ => rfl) fun cdv A outer s H E hr => ?_
  have hx : Passes (L2.CX P w) (cxOf (L2.CX P w) P w K mg base ["moments", "found", "moment"] "_law_joined" (defScope s__law_joined) f cdv A outer s H E) E := passes_call (takes_of rfl rfl rfl rfl) fun _ _ _ _ h => h
  exact ⟨_, (ss_cons (sd_own (i := 1) (fd_lst da_nil) sc__law_joined.nd rfl (by first | exact Or.inl rfl | exact Or.inr rfl))
    (ss_cons (sd_for' (passes_of rfl) rfl (di_seq (K := K) (dv 0)) (gd_name (i := 2) sc__law_joined.nd rfl (by first | exact Or.inl rfl | exact Or.inr rfl))
    (ss_one (sd_if (WD.td (wd_and (td_ln (td_cmp (o_ne (K := K) hr.units) (dv 1) (de_lst da_nil))) (wd_and1 (td_cmp (o_eq (K := K) hr.units) (de_ix (K := K) (de_ox (K := K) (i := 1) (de_neg de_int)) de_int) (de_op o_sub (dv 2) de_int)))))
    (ss_one (sd_putN (i := 1) (de_tup (da_cons (de_ix (K := K) (de_ox (K := K) (i := 1) (de_neg de_int)) de_int) (da_cons (dv 2) da_nil))) (de_neg de_int) (hp := fun h1 h2 h3 => ps_asg h1 (pg_sub h2 h3 set_list))))
    (ss_one (sd_appN (i := 1) (de_tup (da_cons (dv 2) (da_cons (dv 2) da_nil))) (hp := fun h1 h2 => ps_expr (pe_bm PySem.F.plainAttrs_list PySem.F.slot_list_append PySem.F.type_list_append mt_append h1 (pa_cons h2 pa_nil))))))))
    (ss_one (sd_retO (i := 1)))))⟩
abbrev s__law_at : Stmt := topS 45
theorem sc__law_at : FnScope ["windows", "tallies", "event", "moment", "narrow"] ["windows", "tallies", "event", "moment"] (defScope s__law_at) := ⟨rfl, rfl, rfl, by decide +kernel, rfl, by decide +kernel, by decide +kernel⟩
theorem q__law_at (T : Blt mg) (A : At K mg "_law_at" s__law_at) (d__law_agrees : DefOk P w K mg base 3 "_law_agrees" ["windows", "tallies"] (Sp0 K mg 2 m__law_agrees)) : DefOk P w K mg base 4 "_law_at" ["windows", "tallies", "event", "moment"] (Sp0 K mg 4 m__law_at) := by
  obtain ⟨f, fd, F, hm⟩ := A.ex
  refine ok0 (n := 4) (u := 1) (b := b__law_at) F sc__law_at rfl rfl hm (F.binds (ps := ["windows", "tallies", "event", "moment"]) fun _ _ _ _ _ _ us hl => match us, hl with | [_, _, _, _], _ => rfl) fun cdv A outer s H E hr => ?_
  have hx : Passes (L2.CX P w) (cxOf (L2.CX P w) P w K mg base ["windows", "tallies", "event", "moment", "narrow"] "_law_at" (defScope s__law_at) f cdv A outer s H E) E := passes_call (takes_of rfl rfl rfl rfl) fun _ _ _ _ h => h
  exact ⟨_, (ss_cons (sd_set (i := 4) (de_op (o_add (K := K)) (de_op (o_add (K := K)) (de_sl (K := K) (dv 0) do_none (do_some (dv 2))) (de_tup (da_cons (de_tup (da_cons (dv 3) (da_cons (dv 3) da_nil))) da_nil))) (de_sl (K := K) (dv 0) (do_some (de_op (o_add (K := K)) (dv 2) de_int)) do_none)) sc__law_at.nd rfl (by first | exact Or.inl rfl | exact Or.inr rfl))
    (ss_one (sd_ret (de_call d__law_agrees fin0_len (hr.mono (by decide)) (by rfl) hx (da_cons (dv 4) (da_cons (dv 1) da_nil))))))⟩
abbrev s__law_large_right : Stmt := topS 46
theorem sc__law_large_right : FnScope ["bag", "windows", "tallies", "event", "window", "rows", "moments", "first", "last", "moment", "told", "row"] ["bag", "windows", "tallies"] (defScope s__law_large_right) := ⟨rfl, rfl, rfl, by decide +kernel, rfl, by decide +kernel, by decide +kernel⟩
theorem q__law_large_right (T : Blt mg) (A : At K mg "_law_large_right" s__law_large_right) (d__law_at : DefOk P w K mg base 4 "_law_at" ["windows", "tallies", "event", "moment"] (Sp0 K mg 4 m__law_at)) (d__law_take : DefOk P w K mg base 1 "_law_take" ["bag", "many"] (Sp1 K 1 m__law_take)) (d_event_times : DefOk P w K mg base 7 "event_times" ["windows", "tallies", "event"] (Sp0 K mg 3 m_event_times)) : DefOk P w K mg base 8 "_law_large_right" ["bag", "windows", "tallies"] (Sp1 K 2 m__law_large_right) := by
  obtain ⟨f, fd, F, hm⟩ := A.ex
  refine ok1 (n := 2) (u := 9) (b := b__law_large_right) F sc__law_large_right rfl rfl hm (F.binds (ps := ["bag", "windows", "tallies"]) fun _ _ _ _ _ _ us hl => match us, hl with | [_, _, _], _ => rfl) fun cdv A outer s H E hr => ?_
  have hx : Passes (L2.CX P w) (cxOf (L2.CX P w) P w K mg base ["bag", "windows", "tallies", "event", "window", "rows", "moments", "first", "last", "moment", "told", "row"] "_law_large_right" (defScope s__law_large_right) f cdv A outer s H E) E := passes_call (takes_of rfl rfl rfl rfl) fun _ _ _ _ h => h
  exact ⟨_, (ss_cons (sd_for' (passes_of rfl) rfl (di_en (K := K) (by rfl) T.enumerate (da_cons (dv 1) da_nil)) (gd_tup (K := K) (n := 2) rfl (gs_cons (i := 3) sc__law_large_right.nd rfl (by first | exact Or.inl rfl | exact Or.inr rfl) (gs_cons (i := 4) sc__law_large_right.nd rfl (by first | exact Or.inl rfl | exact Or.inr rfl) gs_nil)))
    (ss_cons (sd_own (i := 5) (fd_call d_event_times fin0_len (hr.mono (by decide)) (by rfl) hx (da_cons (dv 1) (da_cons (dv 2) (da_cons (dv 3) da_nil)))) sc__law_large_right.nd rfl (by first | exact Or.inl rfl | exact Or.inr rfl))
    (ss_cons (sd_if (WD.td (wd_or (td_not (td_ln (td_val (de_isi (K := K) .list (dv 5) (by rfl) T.isinstance (by rfl) T.list bb_list)))) (wd_or1 (td_ln (td_cmp (o_ne (K := K) hr.units) (dv 5) (de_b (c_sortG (K := K) hr.units) (by rfl) T.sorted bb_sorted (da_cons (dv 5) da_nil)))))))
    (ss_one (sd_ret de_bl))
    ss_nil)
    (ss_cons (sd_if (td_ln (td_cmp (o_ne (K := K) hr.units) (de_lcN ["bag", "windows", "tallies", "event", "window", "rows", "moments", "first", "last", "moment", "told", "row"] (defScope s__law_large_right) [("row", 11)] (di_seq (K := K) (dv 5)) rfl sc__law_large_right.nd (by decide +kernel) (fun _ _ _ _ _ => (gd_name (i := 11) sc__law_large_right.nd rfl (by first | exact Or.inl rfl | exact Or.inr rfl))) (fun _ _ _ _ _ => (ts_one (td_not (td_chN (de_ix (K := K) (dv 4) de_int) (ctd_link o_le (de_ix (K := K) (dv 11) de_int) (ctd_link o_le (de_ix (K := K) (dv 11) de_int) (ctd_last o_le (de_ix (K := K) (dv 4) de_int)))))))) (fun _ _ _ _ _ => (dv 11))) (de_lst da_nil)))
    (ss_one (sd_ret de_bl))
    ss_nil)
    (ss_cons (sd_set (i := 6) (de_lst (da_cons (de_ix (K := K) (dv 4) de_int) (da_cons (de_ix (K := K) (dv 4) de_int) (da_cons (de_op (o_add (K := K)) (de_ix (K := K) (dv 4) de_int) (de_call1 (i := 0) d__law_take fin1_len (hr.mono (by decide)) (by rfl) hx (da_cons (de_op (o_add (K := K)) (de_op o_sub (de_ix (K := K) (dv 4) de_int) (de_ix (K := K) (dv 4) de_int)) de_int) da_nil))) da_nil)))) sc__law_large_right.nd rfl (by first | exact Or.inl rfl | exact Or.inr rfl))
    (ss_cons (sd_forO (i := 5) (K := K) (passes_of rfl) rfl (gd_tup (K := K) (n := 2) rfl (gs_cons (i := 7) sc__law_large_right.nd rfl (by first | exact Or.inl rfl | exact Or.inr rfl) (gs_cons (i := 8) sc__law_large_right.nd rfl (by first | exact Or.inl rfl | exact Or.inr rfl) gs_nil)))
    (ss_one (sd_set (i := 6) (de_op (o_add (K := K)) (dv 6) (de_lst (da_cons (dv 7) (da_cons (dv 8) (da_cons (de_op o_sub (dv 7) de_int) (da_cons (de_op (o_add (K := K)) (dv 8) de_int) da_nil)))))) sc__law_large_right.nd rfl (by first | exact Or.inl rfl | exact Or.inr rfl))))
    (ss_cons (sd_for' (passes_of rfl) rfl (di_seq (K := K) (de_lcN ["bag", "windows", "tallies", "event", "window", "rows", "moments", "first", "last", "moment", "told", "row"] (defScope s__law_large_right) [("moment", 9)] (di_seq (K := K) (dv 6)) rfl sc__law_large_right.nd (by decide +kernel) (fun _ _ _ _ _ => (gd_name (i := 9) sc__law_large_right.nd rfl (by first | exact Or.inl rfl | exact Or.inr rfl))) (fun _ _ _ _ _ => (ts_one (td_chain o_le o_le (de_ix (K := K) (dv 4) de_int) (dv 9) (de_ix (K := K) (dv 4) de_int)))) (fun _ _ _ _ _ => (dv 9)))) (gd_name (i := 9) sc__law_large_right.nd rfl (by first | exact Or.inl rfl | exact Or.inr rfl))
    (ss_cons (sd_set (i := 10) (de_ln (de_cmp (o_ne (K := K) hr.units) (de_lcN ["bag", "windows", "tallies", "event", "window", "rows", "moments", "first", "last", "moment", "told", "row"] (defScope s__law_large_right) [("row", 11)] (di_seq (K := K) (dv 5)) rfl sc__law_large_right.nd (by decide +kernel) (fun _ _ _ _ _ => (gd_name (i := 11) sc__law_large_right.nd rfl (by first | exact Or.inl rfl | exact Or.inr rfl))) (fun _ _ _ _ _ => (ts_one (td_chain o_le o_le (de_ix (K := K) (dv 11) de_int) (dv 9) (de_ix (K := K) (dv 11) de_int)))) (fun _ _ _ _ _ => (dv 11))) (de_lst da_nil))) sc__law_large_right.nd rfl (by first | exact Or.inl rfl | exact Or.inr rfl))
    (ss_one (sd_if (td_cmp (o_ne (K := K) hr.units) (dv 10) (de_call d__law_at fin0_len (hr.mono (by decide)) (by rfl) hx (da_cons (dv 1) (da_cons (dv 2) (da_cons (dv 3) (da_cons (dv 9) da_nil))))))
    (ss_one (sd_ret de_bl))
    ss_nil))))
    (ss_cons (sd_appN (i := 5) de_non (hp := fun h1 h2 => ps_expr (pe_bm PySem.F.plainAttrs_list PySem.F.slot_list_append PySem.F.type_list_append mt_append h1 (pa_cons h2 pa_nil))))
    (ss_one (sd_if (td_ln (td_cmp (o_ne (K := K) hr.units) (de_call d_event_times fin0_len (hr.mono (by decide)) (by rfl) hx (da_cons (dv 1) (da_cons (dv 2) (da_cons (dv 3) da_nil)))) (de_sl (K := K) (dv 5) do_none (do_some (de_neg de_int)))))
    (ss_one (sd_ret de_bl))
    ss_nil))))))))))
    (ss_one (sd_ret de_bl)))⟩
abbrev s_law : Stmt := topS 47
theorem sc_law : FnScope ["script", "bag", "turn", "windows", "tallies", "every", "event", "due", "time", "course"] ["script"] (defScope s_law) := ⟨rfl, rfl, rfl, by decide +kernel, rfl, by decide +kernel, by decide +kernel⟩
theorem q_law (T : Blt mg) {f : Addr} {fd : FuncData} (F : Fun K "law" "law" s_law f fd) (hm : mg "law" = some (.ref f)) (d__law_all : DefOk P w K mg base 3 "_law_all" ["windows", "tallies"] (Sp0 K mg 2 m__law_all)) (d__law_bags : DefOk P w K mg base 2 "_law_bags" ["script", "most"] (SpB K 2 m__law_bags)) (d__law_joined : DefOk P w K mg base 1 "_law_joined" ["moments"] (Sp0 K mg 1 m__law_joined)) (d__law_large_right : DefOk P w K mg base 8 "_law_large_right" ["bag", "windows", "tallies"] (Sp1 K 2 m__law_large_right)) (d__law_same : DefOk P w K mg base 4 "_law_same" ["a", "b"] (Sp0 K mg 2 (m__law_same 4))) (d__law_take : DefOk P w K mg base 1 "_law_take" ["bag", "many"] (Sp1 K 1 m__law_take)) (d__law_tallies : DefOk P w K mg base 3 "_law_tallies" ["bag", "windows", "end", "way"] (Sp1 K 3 m__law_tallies)) (d__law_windows : DefOk P w K mg base 2 "_law_windows" ["bag", "most", "end"] (Sp1 K 2 m__law_windows)) (d_event_times : DefOk P w K mg base 7 "event_times" ["windows", "tallies", "event"] (Sp0 K mg 3 m_event_times)) (d_surely_done : DefOk P w K mg base 8 "surely_done" ["windows", "tallies", "time"] (Sp0 K mg 3 m_surely_done)) : FnOk P w K mg base (L2.CX P w) 9 f fd ["script"] (Sp0 K mg 1 m_law) := by
  refine ok0F (n := 1) (u := 9) (b := b_law) F sc_law rfl rfl hm (F.binds (ps := ["script"]) fun _ _ _ _ _ _ us hl => match us, hl with | [_], _ => rfl) fun cdv A outer s H E hr => ?_
  have hx : Passes (L2.CX P w) (cxOf (L2.CX P w) P w K mg base ["script", "bag", "turn", "windows", "tallies", "every", "event", "due", "time", "course"] "law" (defScope s_law) f cdv A outer s H E) E := passes_call (takes_of rfl rfl rfl rfl) fun _ _ _ _ h => h
  exact ⟨_, (ss_cons (sd_bag' (i := 1) (passes_of rfl) rfl d__law_bags finB_len (hr.mono (by decide)) (by rfl) hx (da_cons (dv 0) (da_cons de_int da_nil)) sc_law.nd rfl (by first | exact Or.inl rfl | exact Or.inr rfl)
    (ss_cons (sd_for' (passes_of rfl) rfl (di_r1 (by rfl) T.range (da_cons de_int da_nil)) (gd_name (i := 2) sc_law.nd rfl (by first | exact Or.inl rfl | exact Or.inr rfl))
    (ss_cons (sd_set (i := 3) (de_call1 (i := 1) d__law_windows fin1_len (hr.mono (by decide)) (by rfl) hx (da_cons de_int (da_cons de_int da_nil))) sc_law.nd rfl (by first | exact Or.inl rfl | exact Or.inr rfl))
    (ss_cons (sd_set (i := 4) (de_call1 (i := 1) d__law_tallies fin1_len (hr.mono (by decide)) (by rfl) hx (da_cons (dv 3) (da_cons de_int (da_cons (de_call1 (i := 1) d__law_take fin1_len (hr.mono (by decide)) (by rfl) hx (da_cons de_int da_nil)) da_nil)))) sc_law.nd rfl (by first | exact Or.inl rfl | exact Or.inr rfl))
    (ss_cons (sd_set (i := 5) (de_call d__law_all fin0_len (hr.mono (by decide)) (by rfl) hx (da_cons (dv 3) (da_cons (dv 4) da_nil))) sc_law.nd rfl (by first | exact Or.inl rfl | exact Or.inr rfl))
    (ss_cons (sd_for' (passes_of rfl) rfl (di_r1 (by rfl) T.range (da_cons (de_b (c_len (K := K)) (by rfl) T.len bb_len (da_cons (dv 3) da_nil)) da_nil)) (gd_name (i := 6) sc_law.nd rfl (by first | exact Or.inl rfl | exact Or.inr rfl))
    (ss_cons (sd_own (i := 7) (fd_call d__law_joined fin0_len (hr.mono (by decide)) (by rfl) hx (da_cons (de_sortset (K := K) rfl (de_lcN ["script", "bag", "turn", "windows", "tallies", "every", "event", "due", "time", "course"] (defScope s_law) [("course", 9)] (di_seq (K := K) (dv 5)) rfl sc_law.nd (by decide +kernel) (fun _ _ _ _ _ => (gd_name (i := 9) sc_law.nd rfl (by first | exact Or.inl rfl | exact Or.inr rfl))) (fun _ _ _ _ _ => ts_nil) (fun _ _ _ _ _ => (de_ix (K := K) (dv 9) (dv 6)))) (by rfl) T.sorted bb_sorted (by rfl) T.set bb_set) da_nil)) sc_law.nd rfl (by first | exact Or.inl rfl | exact Or.inr rfl))
    (ss_one (sd_if (td_not (td_ln (td_val (de_call d__law_same (_law_same_len 4) (hr.mono (by decide)) (by rfl) hx (da_cons (de_call d_event_times fin0_len (hr.mono (by decide)) (by rfl) hx (da_cons (dv 3) (da_cons (dv 4) (da_cons (dv 6) da_nil)))) (da_cons (dv 7) da_nil))))))
    (ss_one (sd_ret de_bl))
    ss_nil))))
    (ss_one (sd_for' (passes_of rfl) rfl (di_r1 (by rfl) T.range (da_cons de_int da_nil)) (gd_name (i := 8) sc_law.nd rfl (by first | exact Or.inl rfl | exact Or.inr rfl))
    (ss_cons (sd_set (i := 7) de_non sc_law.nd rfl (by first | exact Or.inl rfl | exact Or.inr rfl))
    (ss_cons (sd_if (td_cmp (o_ne (K := K) hr.units) (dv 5) (de_lst da_nil))
    (ss_cons (sd_own (i := 7) (fd_lst da_nil) sc_law.nd rfl (by first | exact Or.inl rfl | exact Or.inr rfl))
    (ss_one (sd_for' (passes_of rfl) rfl (di_r1 (by rfl) T.range (da_cons (de_b (c_len (K := K)) (by rfl) T.len bb_len (da_cons (dv 3) da_nil)) da_nil)) (gd_name (i := 6) sc_law.nd rfl (by first | exact Or.inl rfl | exact Or.inr rfl))
    (ss_one (sd_if (td_cmp o_le (de_b (c_max (K := K) rfl) (by rfl) T.max bb_max (da_cons (de_lcN ["script", "bag", "turn", "windows", "tallies", "every", "event", "due", "time", "course"] (defScope s_law) [("course", 9)] (di_seq (K := K) (dv 5)) rfl sc_law.nd (by decide +kernel) (fun _ _ _ _ _ => (gd_name (i := 9) sc_law.nd rfl (by first | exact Or.inl rfl | exact Or.inr rfl))) (fun _ _ _ _ _ => ts_nil) (fun _ _ _ _ _ => (de_ix (K := K) (dv 9) (dv 6)))) da_nil)) (dv 8))
    (ss_one (sd_appN (i := 7) (dv 6) (hp := fun h1 h2 => ps_expr (pe_bm PySem.F.plainAttrs_list PySem.F.slot_list_append PySem.F.type_list_append mt_append h1 (pa_cons h2 pa_nil)))))
    ss_nil)))))
    ss_nil)
    (ss_one (sd_if (td_not (td_ln (td_val (de_call d__law_same (_law_same_len 4) (hr.mono (by decide)) (by rfl) hx (da_cons (de_call d_surely_done fin0_len (hr.mono (by decide)) (by rfl) hx (da_cons (dv 3) (da_cons (dv 4) (da_cons (dv 8) da_nil)))) (da_cons (dv 7) da_nil))))))
    (ss_one (sd_ret de_bl))
    ss_nil)))))))))))
    (ss_cons (sd_set (i := 3) (de_call1 (i := 1) d__law_windows fin1_len (hr.mono (by decide)) (by rfl) hx (da_cons de_int (da_cons de_int da_nil))) sc_law.nd rfl (by first | exact Or.inl rfl | exact Or.inr rfl))
    (ss_one (sd_if (td_not (td_val (de_call1 (i := 1) d__law_large_right fin1_len (hr.mono (by decide)) (by rfl) hx (da_cons (dv 3) (da_cons (de_call1 (i := 1) d__law_tallies fin1_len (hr.mono (by decide)) (by rfl) hx (da_cons (dv 3) (da_cons de_int (da_cons (de_call1 (i := 1) d__law_take fin1_len (hr.mono (by decide)) (by rfl) hx (da_cons de_int da_nil)) da_nil)))) da_nil)))))
    (ss_one (sd_ret de_bl))
    ss_nil)))))
    (ss_cons (sd_if (td_cmp (o_ne (K := K) hr.units) (de_call d_event_times fin0_len (hr.mono (by decide)) (by rfl) hx (da_cons (de_tup (da_cons (de_tup (da_cons de_int (da_cons de_int da_nil))) da_nil)) (da_cons (de_tup (da_cons (de_tup (da_cons de_int (da_cons de_int (da_cons de_int da_nil)))) da_nil)) (da_cons de_int da_nil)))) (de_lst (da_cons (de_tup (da_cons de_int (da_cons de_int da_nil))) da_nil)))
    (ss_one (sd_ret de_bl))
    ss_nil)
    (ss_cons (sd_if (td_cmp (o_ne (K := K) hr.units) (de_call d_event_times fin0_len (hr.mono (by decide)) (by rfl) hx (da_cons (de_tup (da_cons (de_tup (da_cons de_int (da_cons de_int da_nil))) (da_cons (de_tup (da_cons de_int (da_cons de_int da_nil))) da_nil))) (da_cons (de_tup (da_cons (de_tup (da_cons de_int (da_cons de_int (da_cons de_int da_nil)))) (da_cons (de_tup (da_cons de_int (da_cons de_int (da_cons de_int da_nil)))) da_nil))) (da_cons de_int da_nil)))) (de_lst (da_cons (de_tup (da_cons de_int (da_cons de_int da_nil))) (da_cons (de_tup (da_cons de_int (da_cons de_int da_nil))) da_nil))))
    (ss_one (sd_ret de_bl))
    ss_nil)
    (ss_one (sd_ret (de_cmp (o_eq (K := K) hr.units) (de_call d_event_times fin0_len (hr.mono (by decide)) (by rfl) hx (da_cons (de_tup (da_cons (de_tup (da_cons de_int (da_cons de_int da_nil))) da_nil)) (da_cons (de_tup (da_cons (de_tup (da_cons de_int (da_cons de_int (da_cons de_int da_nil)))) (da_cons (de_tup (da_cons de_int (da_cons de_int (da_cons de_int da_nil)))) da_nil))) (da_cons de_int da_nil)))) (de_lst (da_cons (de_tup (da_cons de_int (da_cons de_int da_nil))) da_nil))))))))⟩
end
end TW
namespace TW
open PySem PySem.Spec PyProof.Rows L2 RZ
theorem all_mk {l : PySem.W.OpenLaw} {w : World} {K : PySem.W.Frag} {h : Heap} {mg : Str → Option Value} (X : K.In h) (G : h.Ns mainGlobals mg)
    {fa : Addr} (hfa : mg "law" = some (.ref fa)) {f0 f1 f2 f3 f4 f5 f6 f7 f8 f9 f10 f11 f12 f13 f14 f15 f16 f17 f18 f19 f20 f21 f22 f23 f24 f25 f26 f27 f28 f29 f30 f31 f32 f33 : Addr} {od0 an0 od1 an1 od2 an2 od3 an3 od4 an4 od5 an5 od6 an6 od7 an7 od8 an8 od9 an9 od10 an10 od11 an11 od12 an12 od13 an13 od14 an14 od15 an15 od16 an16 od17 an17 od18 an18 od19 an19 od20 an20 od21 an21 od22 an22 od23 an23 od24 an24 od25 an25 od26 an26 od27 an27 od28 an28 od29 an29 od30 an30 od31 an31 od32 an32 od33 an33 : Option Addr} {sl0 sl1 sl2 sl3 sl4 sl5 sl6 sl7 sl8 sl9 sl10 sl11 sl12 sl13 sl14 sl15 sl16 sl17 sl18 sl19 sl20 sl21 sl22 sl23 sl24 sl25 sl26 sl27 sl28 sl29 sl30 sl31 sl32 sl33 : Array (Option Value)} {oc0 kV0 dc0 pm0 cd0 ct0 oc1 kV1 dc1 pm1 cd1 ct1 oc2 kV2 dc2 pm2 cd2 ct2 oc3 kV3 dc3 pm3 cd3 ct3 oc4 kV4 dc4 pm4 cd4 ct4 oc5 kV5 dc5 pm5 cd5 ct5 oc6 kV6 dc6 pm6 cd6 ct6 oc7 kV7 dc7 pm7 cd7 ct7 oc8 kV8 dc8 pm8 cd8 ct8 oc9 kV9 dc9 pm9 cd9 ct9 oc10 kV10 dc10 pm10 cd10 ct10 oc11 kV11 dc11 pm11 cd11 ct11 oc12 kV12 dc12 pm12 cd12 ct12 oc13 kV13 dc13 pm13 cd13 ct13 oc14 kV14 dc14 pm14 cd14 ct14 oc15 kV15 dc15 pm15 cd15 ct15 oc16 kV16 dc16 pm16 cd16 ct16 oc17 kV17 dc17 pm17 cd17 ct17 oc18 kV18 dc18 pm18 cd18 ct18 oc19 kV19 dc19 pm19 cd19 ct19 oc20 kV20 dc20 pm20 cd20 ct20 oc21 kV21 dc21 pm21 cd21 ct21 oc22 kV22 dc22 pm22 cd22 ct22 oc23 kV23 dc23 pm23 cd23 ct23 oc24 kV24 dc24 pm24 cd24 ct24 oc25 kV25 dc25 pm25 cd25 ct25 oc26 kV26 dc26 pm26 cd26 ct26 oc27 kV27 dc27 pm27 cd27 ct27 oc28 kV28 dc28 pm28 cd28 ct28 oc29 kV29 dc29 pm29 cd29 ct29 oc30 kV30 dc30 pm30 cd30 ct30 oc31 kV31 dc31 pm31 cd31 ct31 oc32 kV32 dc32 pm32 cd32 ct32 oc33 kV33 dc33 pm33 cd33 ct33 : Value}
    (a0 : PySem.W.nsIn K mainGlobals "is_integer" = some (some (.ref f0))) (l0 : K.lookup f0 = some ⟨oc0, od0, .func (PySem.W.fnOf "is_integer" "is_integer" (defArgs s_is_integer) (defBody s_is_integer) (defScope s_is_integer) .none kV0 dc0 pm0 an0 cd0 ct0), sl0⟩) (c0 : PySem.W.codeIn K cd0 "is_integer" = true) (k0 : PySem.W.keepIn K (.ref f0) = true)
    (a1 : PySem.W.nsIn K mainGlobals "in_range" = some (some (.ref f1))) (l1 : K.lookup f1 = some ⟨oc1, od1, .func (PySem.W.fnOf "in_range" "in_range" (defArgs s_in_range) (defBody s_in_range) (defScope s_in_range) .none kV1 dc1 pm1 an1 cd1 ct1), sl1⟩) (c1 : PySem.W.codeIn K cd1 "in_range" = true) (k1 : PySem.W.keepIn K (.ref f1) = true)
    (a2 : PySem.W.nsIn K mainGlobals "is_window" = some (some (.ref f2))) (l2 : K.lookup f2 = some ⟨oc2, od2, .func (PySem.W.fnOf "is_window" "is_window" (defArgs s_is_window) (defBody s_is_window) (defScope s_is_window) .none kV2 dc2 pm2 an2 cd2 ct2), sl2⟩) (c2 : PySem.W.codeIn K cd2 "is_window" = true) (k2 : PySem.W.keepIn K (.ref f2) = true)
    (a3 : PySem.W.nsIn K mainGlobals "is_windows" = some (some (.ref f3))) (l3 : K.lookup f3 = some ⟨oc3, od3, .func (PySem.W.fnOf "is_windows" "is_windows" (defArgs s_is_windows) (defBody s_is_windows) (defScope s_is_windows) .none kV3 dc3 pm3 an3 cd3 ct3), sl3⟩) (c3 : PySem.W.codeIn K cd3 "is_windows" = true) (k3 : PySem.W.keepIn K (.ref f3) = true)
    (a4 : PySem.W.nsIn K mainGlobals "check_windows" = some (some (.ref f4))) (l4 : K.lookup f4 = some ⟨oc4, od4, .func (PySem.W.fnOf "check_windows" "check_windows" (defArgs s_check_windows) (defBody s_check_windows) (defScope s_check_windows) .none kV4 dc4 pm4 an4 cd4 ct4), sl4⟩) (c4 : PySem.W.codeIn K cd4 "check_windows" = true) (k4 : PySem.W.keepIn K (.ref f4) = true)
    (a5 : PySem.W.nsIn K mainGlobals "is_tally" = some (some (.ref f5))) (l5 : K.lookup f5 = some ⟨oc5, od5, .func (PySem.W.fnOf "is_tally" "is_tally" (defArgs s_is_tally) (defBody s_is_tally) (defScope s_is_tally) .none kV5 dc5 pm5 an5 cd5 ct5), sl5⟩) (c5 : PySem.W.codeIn K cd5 "is_tally" = true) (k5 : PySem.W.keepIn K (.ref f5) = true)
    (a6 : PySem.W.nsIn K mainGlobals "are_tallies" = some (some (.ref f6))) (l6 : K.lookup f6 = some ⟨oc6, od6, .func (PySem.W.fnOf "are_tallies" "are_tallies" (defArgs s_are_tallies) (defBody s_are_tallies) (defScope s_are_tallies) .none kV6 dc6 pm6 an6 cd6 ct6), sl6⟩) (c6 : PySem.W.codeIn K cd6 "are_tallies" = true) (k6 : PySem.W.keepIn K (.ref f6) = true)
    (a7 : PySem.W.nsIn K mainGlobals "check_both" = some (some (.ref f7))) (l7 : K.lookup f7 = some ⟨oc7, od7, .func (PySem.W.fnOf "check_both" "check_both" (defArgs s_check_both) (defBody s_check_both) (defScope s_check_both) .none kV7 dc7 pm7 an7 cd7 ct7), sl7⟩) (c7 : PySem.W.codeIn K cd7 "check_both" = true) (k7 : PySem.W.keepIn K (.ref f7) = true)
    (a8 : PySem.W.nsIn K mainGlobals "check_time" = some (some (.ref f8))) (l8 : K.lookup f8 = some ⟨oc8, od8, .func (PySem.W.fnOf "check_time" "check_time" (defArgs s_check_time) (defBody s_check_time) (defScope s_check_time) .none kV8 dc8 pm8 an8 cd8 ct8), sl8⟩) (c8 : PySem.W.codeIn K cd8 "check_time" = true) (k8 : PySem.W.keepIn K (.ref f8) = true)
    (a9 : PySem.W.nsIn K mainGlobals "check_event" = some (some (.ref f9))) (l9 : K.lookup f9 = some ⟨oc9, od9, .func (PySem.W.fnOf "check_event" "check_event" (defArgs s_check_event) (defBody s_check_event) (defScope s_check_event) .none kV9 dc9 pm9 an9 cd9 ct9), sl9⟩) (c9 : PySem.W.codeIn K cd9 "check_event" = true) (k9 : PySem.W.keepIn K (.ref f9) = true)
    (a10 : PySem.W.nsIn K mainGlobals "inside_of" = some (some (.ref f10))) (l10 : K.lookup f10 = some ⟨oc10, od10, .func (PySem.W.fnOf "inside_of" "inside_of" (defArgs s_inside_of) (defBody s_inside_of) (defScope s_inside_of) .none kV10 dc10 pm10 an10 cd10 ct10), sl10⟩) (c10 : PySem.W.codeIn K cd10 "inside_of" = true) (k10 : PySem.W.keepIn K (.ref f10) = true)
    (a11 : PySem.W.nsIn K mainGlobals "place" = some (some (.ref f11))) (l11 : K.lookup f11 = some ⟨oc11, od11, .func (PySem.W.fnOf "place" "place" (defArgs s_place) (defBody s_place) (defScope s_place) .none kV11 dc11 pm11 an11 cd11 ct11), sl11⟩) (c11 : PySem.W.codeIn K cd11 "place" = true) (k11 : PySem.W.keepIn K (.ref f11) = true)
    (a12 : PySem.W.nsIn K mainGlobals "pairs_of" = some (some (.ref f12))) (l12 : K.lookup f12 = some ⟨oc12, od12, .func (PySem.W.fnOf "pairs_of" "pairs_of" (defArgs s_pairs_of) (defBody s_pairs_of) (defScope s_pairs_of) .none kV12 dc12 pm12 an12 cd12 ct12), sl12⟩) (c12 : PySem.W.codeIn K cd12 "pairs_of" = true) (k12 : PySem.W.keepIn K (.ref f12) = true)
    (a13 : PySem.W.nsIn K mainGlobals "excess" = some (some (.ref f13))) (l13 : K.lookup f13 = some ⟨oc13, od13, .func (PySem.W.fnOf "excess" "excess" (defArgs s_excess) (defBody s_excess) (defScope s_excess) .none kV13 dc13 pm13 an13 cd13 ct13), sl13⟩) (c13 : PySem.W.codeIn K cd13 "excess" = true) (k13 : PySem.W.keepIn K (.ref f13) = true)
    (a14 : PySem.W.nsIn K mainGlobals "conflict_of" = some (some (.ref f14))) (l14 : K.lookup f14 = some ⟨oc14, od14, .func (PySem.W.fnOf "conflict_of" "conflict_of" (defArgs s_conflict_of) (defBody s_conflict_of) (defScope s_conflict_of) .none kV14 dc14 pm14 an14 cd14 ct14), sl14⟩) (c14 : PySem.W.codeIn K cd14 "conflict_of" = true) (k14 : PySem.W.keepIn K (.ref f14) = true)
    (a15 : PySem.W.nsIn K mainGlobals "event_times" = some (some (.ref f15))) (l15 : K.lookup f15 = some ⟨oc15, od15, .func (PySem.W.fnOf "event_times" "event_times" (defArgs s_event_times) (defBody s_event_times) (defScope s_event_times) .none kV15 dc15 pm15 an15 cd15 ct15), sl15⟩) (c15 : PySem.W.codeIn K cd15 "event_times" = true) (k15 : PySem.W.keepIn K (.ref f15) = true)
    (a16 : PySem.W.nsIn K mainGlobals "surely_done" = some (some (.ref f16))) (l16 : K.lookup f16 = some ⟨oc16, od16, .func (PySem.W.fnOf "surely_done" "surely_done" (defArgs s_surely_done) (defBody s_surely_done) (defScope s_surely_done) .none kV16 dc16 pm16 an16 cd16 ct16), sl16⟩) (c16 : PySem.W.codeIn K cd16 "surely_done" = true) (k16 : PySem.W.keepIn K (.ref f16) = true)
    (a17 : PySem.W.nsIn K mainGlobals "_law_well" = some (some (.ref f17))) (l17 : K.lookup f17 = some ⟨oc17, od17, .func (PySem.W.fnOf "_law_well" "_law_well" (defArgs s__law_well) (defBody s__law_well) (defScope s__law_well) .none kV17 dc17 pm17 an17 cd17 ct17), sl17⟩) (c17 : PySem.W.codeIn K cd17 "_law_well" = true) (k17 : PySem.W.keepIn K (.ref f17) = true)
    (a18 : PySem.W.nsIn K mainGlobals "_law_take" = some (some (.ref f18))) (l18 : K.lookup f18 = some ⟨oc18, od18, .func (PySem.W.fnOf "_law_take" "_law_take" (defArgs s__law_take) (defBody s__law_take) (defScope s__law_take) .none kV18 dc18 pm18 an18 cd18 ct18), sl18⟩) (c18 : PySem.W.codeIn K cd18 "_law_take" = true) (k18 : PySem.W.keepIn K (.ref f18) = true)
    (a19 : PySem.W.nsIn K mainGlobals "_law_bags" = some (some (.ref f19))) (l19 : K.lookup f19 = some ⟨oc19, od19, .func (PySem.W.fnOf "_law_bags" "_law_bags" (defArgs s__law_bags) (defBody s__law_bags) (defScope s__law_bags) .none kV19 dc19 pm19 an19 cd19 ct19), sl19⟩) (c19 : PySem.W.codeIn K cd19 "_law_bags" = true) (k19 : PySem.W.keepIn K (.ref f19) = true)
    (a20 : PySem.W.nsIn K mainGlobals "_law_same" = some (some (.ref f20))) (l20 : K.lookup f20 = some ⟨oc20, od20, .func (PySem.W.fnOf "_law_same" "_law_same" (defArgs s__law_same) (defBody s__law_same) (defScope s__law_same) .none kV20 dc20 pm20 an20 cd20 ct20), sl20⟩) (c20 : PySem.W.codeIn K cd20 "_law_same" = true) (k20 : PySem.W.keepIn K (.ref f20) = true)
    (a21 : PySem.W.nsIn K mainGlobals "_law_windows" = some (some (.ref f21))) (l21 : K.lookup f21 = some ⟨oc21, od21, .func (PySem.W.fnOf "_law_windows" "_law_windows" (defArgs s__law_windows) (defBody s__law_windows) (defScope s__law_windows) .none kV21 dc21 pm21 an21 cd21 ct21), sl21⟩) (c21 : PySem.W.codeIn K cd21 "_law_windows" = true) (k21 : PySem.W.keepIn K (.ref f21) = true)
    (a22 : PySem.W.nsIn K mainGlobals "_law_course" = some (some (.ref f22))) (l22 : K.lookup f22 = some ⟨oc22, od22, .func (PySem.W.fnOf "_law_course" "_law_course" (defArgs s__law_course) (defBody s__law_course) (defScope s__law_course) .none kV22 dc22 pm22 an22 cd22 ct22), sl22⟩) (c22 : PySem.W.codeIn K cd22 "_law_course" = true) (k22 : PySem.W.keepIn K (.ref f22) = true)
    (a23 : PySem.W.nsIn K mainGlobals "_law_number" = some (some (.ref f23))) (l23 : K.lookup f23 = some ⟨oc23, od23, .func (PySem.W.fnOf "_law_number" "_law_number" (defArgs s__law_number) (defBody s__law_number) (defScope s__law_number) .none kV23 dc23 pm23 an23 cd23 ct23), sl23⟩) (c23 : PySem.W.codeIn K cd23 "_law_number" = true) (k23 : PySem.W.keepIn K (.ref f23) = true)
    (a24 : PySem.W.nsIn K mainGlobals "_law_tallies" = some (some (.ref f24))) (l24 : K.lookup f24 = some ⟨oc24, od24, .func (PySem.W.fnOf "_law_tallies" "_law_tallies" (defArgs s__law_tallies) (defBody s__law_tallies) (defScope s__law_tallies) .none kV24 dc24 pm24 an24 cd24 ct24), sl24⟩) (c24 : PySem.W.codeIn K cd24 "_law_tallies" = true) (k24 : PySem.W.keepIn K (.ref f24) = true)
    (a25 : PySem.W.nsIn K mainGlobals "_law_inside" = some (some (.ref f25))) (l25 : K.lookup f25 = some ⟨oc25, od25, .func (PySem.W.fnOf "_law_inside" "_law_inside" (defArgs s__law_inside) (defBody s__law_inside) (defScope s__law_inside) .none kV25 dc25 pm25 an25 cd25 ct25), sl25⟩) (c25 : PySem.W.codeIn K cd25 "_law_inside" = true) (k25 : PySem.W.keepIn K (.ref f25) = true)
    (a26 : PySem.W.nsIn K mainGlobals "_law_pairs" = some (some (.ref f26))) (l26 : K.lookup f26 = some ⟨oc26, od26, .func (PySem.W.fnOf "_law_pairs" "_law_pairs" (defArgs s__law_pairs) (defBody s__law_pairs) (defScope s__law_pairs) .none kV26 dc26 pm26 an26 cd26 ct26), sl26⟩) (c26 : PySem.W.codeIn K cd26 "_law_pairs" = true) (k26 : PySem.W.keepIn K (.ref f26) = true)
    (a27 : PySem.W.nsIn K mainGlobals "_law_agrees" = some (some (.ref f27))) (l27 : K.lookup f27 = some ⟨oc27, od27, .func (PySem.W.fnOf "_law_agrees" "_law_agrees" (defArgs s__law_agrees) (defBody s__law_agrees) (defScope s__law_agrees) .none kV27 dc27 pm27 an27 cd27 ct27), sl27⟩) (c27 : PySem.W.codeIn K cd27 "_law_agrees" = true) (k27 : PySem.W.keepIn K (.ref f27) = true)
    (a28 : PySem.W.nsIn K mainGlobals "_law_kept" = some (some (.ref f28))) (l28 : K.lookup f28 = some ⟨oc28, od28, .func (PySem.W.fnOf "_law_kept" "_law_kept" (defArgs s__law_kept) (defBody s__law_kept) (defScope s__law_kept) .none kV28 dc28 pm28 an28 cd28 ct28), sl28⟩) (c28 : PySem.W.codeIn K cd28 "_law_kept" = true) (k28 : PySem.W.keepIn K (.ref f28) = true)
    (a29 : PySem.W.nsIn K mainGlobals "_law_all" = some (some (.ref f29))) (l29 : K.lookup f29 = some ⟨oc29, od29, .func (PySem.W.fnOf "_law_all" "_law_all" (defArgs s__law_all) (defBody s__law_all) (defScope s__law_all) .none kV29 dc29 pm29 an29 cd29 ct29), sl29⟩) (c29 : PySem.W.codeIn K cd29 "_law_all" = true) (k29 : PySem.W.keepIn K (.ref f29) = true)
    (a30 : PySem.W.nsIn K mainGlobals "_law_joined" = some (some (.ref f30))) (l30 : K.lookup f30 = some ⟨oc30, od30, .func (PySem.W.fnOf "_law_joined" "_law_joined" (defArgs s__law_joined) (defBody s__law_joined) (defScope s__law_joined) .none kV30 dc30 pm30 an30 cd30 ct30), sl30⟩) (c30 : PySem.W.codeIn K cd30 "_law_joined" = true) (k30 : PySem.W.keepIn K (.ref f30) = true)
    (a31 : PySem.W.nsIn K mainGlobals "_law_at" = some (some (.ref f31))) (l31 : K.lookup f31 = some ⟨oc31, od31, .func (PySem.W.fnOf "_law_at" "_law_at" (defArgs s__law_at) (defBody s__law_at) (defScope s__law_at) .none kV31 dc31 pm31 an31 cd31 ct31), sl31⟩) (c31 : PySem.W.codeIn K cd31 "_law_at" = true) (k31 : PySem.W.keepIn K (.ref f31) = true)
    (a32 : PySem.W.nsIn K mainGlobals "_law_large_right" = some (some (.ref f32))) (l32 : K.lookup f32 = some ⟨oc32, od32, .func (PySem.W.fnOf "_law_large_right" "_law_large_right" (defArgs s__law_large_right) (defBody s__law_large_right) (defScope s__law_large_right) .none kV32 dc32 pm32 an32 cd32 ct32), sl32⟩) (c32 : PySem.W.codeIn K cd32 "_law_large_right" = true) (k32 : PySem.W.keepIn K (.ref f32) = true)
    (a33 : PySem.W.nsIn K mainGlobals "law" = some (some (.ref f33))) (l33 : K.lookup f33 = some ⟨oc33, od33, .func (PySem.W.fnOf "law" "law" (defArgs s_law) (defBody s_law) (defScope s_law) .none kV33 dc33 pm33 an33 cd33 ct33), sl33⟩) (c33 : PySem.W.codeIn K cd33 "law" = true) (k33 : PySem.W.keepIn K (.ref f33) = true)
    {tLAST : Tok} (nLAST : PySem.W.nsIn K mainGlobals "LAST" = some (some (.int 1000 tLAST)))
    {tMAX_EVENTS : Tok} (nMAX_EVENTS : PySem.W.nsIn K mainGlobals "MAX_EVENTS" = some (some (.int 8 tMAX_EVENTS)))
    {tMAX_TALLIES : Tok} (nMAX_TALLIES : PySem.W.nsIn K mainGlobals "MAX_TALLIES" = some (some (.int 6 tMAX_TALLIES)))
    (zlen : PySem.W.nsIn K mainGlobals "len" = some none)
    (zisinstance : PySem.W.nsIn K mainGlobals "isinstance" = some none)
    (zall : PySem.W.nsIn K mainGlobals "all" = some none)
    (zmax : PySem.W.nsIn K mainGlobals "max" = some none)
    (zmin : PySem.W.nsIn K mainGlobals "min" = some none)
    (zsum : PySem.W.nsIn K mainGlobals "sum" = some none)
    (zsorted : PySem.W.nsIn K mainGlobals "sorted" = some none)
    (zset : PySem.W.nsIn K mainGlobals "set" = some none)
    (ztuple : PySem.W.nsIn K mainGlobals "tuple" = some none)
    (zlist : PySem.W.nsIn K mainGlobals "list" = some none)
    (zdict : PySem.W.nsIn K mainGlobals "dict" = some none)
    (zrange : PySem.W.nsIn K mainGlobals "range" = some none)
    (zzip : PySem.W.nsIn K mainGlobals "zip" = some none)
    (zenumerate : PySem.W.nsIn K mainGlobals "enumerate" = some none)
    (zint : PySem.W.nsIn K mainGlobals "int" = some none)
    (zbool : PySem.W.nsIn K mainGlobals "bool" = some none)
    (zstr : PySem.W.nsIn K mainGlobals "str" = some none)
    (plain : ∀ ns : List Int, ns.length ≤ 63 → m_law [.scr ns] = some (.rt (.bl true))) :
    ∃ fd : FuncData, (∀ (s : Shared) (v : Value), BindsTo s fd ⟨[v], []⟩ [("script", v)]) ∧ ∀ base : Heap, K.In base → base.Ns mainGlobals mg → FnOk l.prog w K mg base (L2.CX l.prog w) 9 fa fd ["script"] (spLaw K) := by
  have e := hfa.symm.trans (PySem.W.mg_of X G a33)
  cases e
  have T : Blt mg := ⟨PySem.W.mg_none_of X G zlen, PySem.W.mg_none_of X G zisinstance, PySem.W.mg_none_of X G zall, PySem.W.mg_none_of X G zmax, PySem.W.mg_none_of X G zmin, PySem.W.mg_none_of X G zsum, PySem.W.mg_none_of X G zsorted, PySem.W.mg_none_of X G zset, PySem.W.mg_none_of X G ztuple, PySem.W.mg_none_of X G zlist, PySem.W.mg_none_of X G zdict, PySem.W.mg_none_of X G zrange, PySem.W.mg_none_of X G zzip, PySem.W.mg_none_of X G zenumerate, PySem.W.mg_none_of X G zint, PySem.W.mg_none_of X G zbool, PySem.W.mg_none_of X G zstr⟩
  have gLAST : ∃ u, mg "LAST" = some (.int 1000 u) := ⟨_, PySem.W.mg_of X G nLAST⟩
  have gMAX_EVENTS : ∃ u, mg "MAX_EVENTS" = some (.int 8 u) := ⟨_, PySem.W.mg_of X G nMAX_EVENTS⟩
  have gMAX_TALLIES : ∃ u, mg "MAX_TALLIES" = some (.int 6 u) := ⟨_, PySem.W.mg_of X G nMAX_TALLIES⟩
  refine ⟨PySem.W.fnOf "law" "law" (defArgs s_law) (defBody s_law) (defScope s_law) .none kV33 dc33 pm33 an33 cd33 ct33, fun s v => .of_eq rfl, fun base _ _ => ?_⟩
  have d_is_integer := q_is_integer (P := l.prog) (w := w) (base := base) T ⟨⟨_, _, fun_mk (st := s_is_integer) l0 c0 k0, PySem.W.mg_of X G a0⟩⟩ 
  have d_in_range := q_in_range (P := l.prog) (w := w) (base := base) T ⟨⟨_, _, fun_mk (st := s_in_range) l1 c1 k1, PySem.W.mg_of X G a1⟩⟩ d_is_integer
  have d_is_window := q_is_window (P := l.prog) (w := w) (base := base) T ⟨⟨_, _, fun_mk (st := s_is_window) l2 c2 k2, PySem.W.mg_of X G a2⟩⟩ gLAST d_in_range
  have d_is_windows := q_is_windows (P := l.prog) (w := w) (base := base) T ⟨⟨_, _, fun_mk (st := s_is_windows) l3 c3 k3, PySem.W.mg_of X G a3⟩⟩ gMAX_EVENTS d_is_window
  have d_check_windows := q_check_windows (P := l.prog) (w := w) (base := base) T ⟨⟨_, _, fun_mk (st := s_check_windows) l4 c4 k4, PySem.W.mg_of X G a4⟩⟩ d_is_windows
  have d_is_tally := q_is_tally (P := l.prog) (w := w) (base := base) T ⟨⟨_, _, fun_mk (st := s_is_tally) l5 c5 k5, PySem.W.mg_of X G a5⟩⟩ gLAST d_in_range
  have d_are_tallies := q_are_tallies (P := l.prog) (w := w) (base := base) T ⟨⟨_, _, fun_mk (st := s_are_tallies) l6 c6 k6, PySem.W.mg_of X G a6⟩⟩ gMAX_TALLIES d_is_tally
  have d_check_both := q_check_both (P := l.prog) (w := w) (base := base) T ⟨⟨_, _, fun_mk (st := s_check_both) l7 c7 k7, PySem.W.mg_of X G a7⟩⟩ d_are_tallies d_check_windows
  have d_check_time := q_check_time (P := l.prog) (w := w) (base := base) T ⟨⟨_, _, fun_mk (st := s_check_time) l8 c8 k8, PySem.W.mg_of X G a8⟩⟩ gLAST d_in_range
  have d_check_event := q_check_event (P := l.prog) (w := w) (base := base) T ⟨⟨_, _, fun_mk (st := s_check_event) l9 c9 k9, PySem.W.mg_of X G a9⟩⟩ d_in_range
  have d_inside_of := q_inside_of (P := l.prog) (w := w) (base := base) T ⟨⟨_, _, fun_mk (st := s_inside_of) l10 c10 k10, PySem.W.mg_of X G a10⟩⟩ 
  have d_place := q_place (P := l.prog) (w := w) (base := base) T ⟨⟨_, _, fun_mk (st := s_place) l11 c11 k11, PySem.W.mg_of X G a11⟩⟩ gLAST
  have d_pairs_of := q_pairs_of (P := l.prog) (w := w) (base := base) T ⟨⟨_, _, fun_mk (st := s_pairs_of) l12 c12 k12, PySem.W.mg_of X G a12⟩⟩ 
  have d_excess := q_excess (P := l.prog) (w := w) (base := base) T ⟨⟨_, _, fun_mk (st := s_excess) l13 c13 k13, PySem.W.mg_of X G a13⟩⟩ d_inside_of d_place
  have d_conflict_of := q_conflict_of (P := l.prog) (w := w) (base := base) T ⟨⟨_, _, fun_mk (st := s_conflict_of) l14 c14 k14, PySem.W.mg_of X G a14⟩⟩ d_excess d_pairs_of
  have d_event_times := q_event_times (P := l.prog) (w := w) (base := base) T ⟨⟨_, _, fun_mk (st := s_event_times) l15 c15 k15, PySem.W.mg_of X G a15⟩⟩ d_check_both d_check_event d_conflict_of
  have d_surely_done := q_surely_done (P := l.prog) (w := w) (base := base) T ⟨⟨_, _, fun_mk (st := s_surely_done) l16 c16 k16, PySem.W.mg_of X G a16⟩⟩ d_check_both d_check_time d_conflict_of d_event_times
  have d__law_well := q__law_well (P := l.prog) (w := w) (base := base) T ⟨⟨_, _, fun_mk (st := s__law_well) l17 c17 k17, PySem.W.mg_of X G a17⟩⟩ 
  have d__law_take := q__law_take (P := l.prog) (w := w) (base := base) T ⟨⟨_, _, fun_mk (st := s__law_take) l18 c18 k18, PySem.W.mg_of X G a18⟩⟩ 
  have d__law_bags := q__law_bags (P := l.prog) (w := w) (base := base) T ⟨⟨_, _, fun_mk (st := s__law_bags) l19 c19 k19, PySem.W.mg_of X G a19⟩⟩ d__law_well
  have d__law_same := q__law_same (P := l.prog) (w := w) (base := base) T ⟨⟨_, _, fun_mk (st := s__law_same) l20 c20 k20, PySem.W.mg_of X G a20⟩⟩  4
  have d__law_windows := q__law_windows (P := l.prog) (w := w) (base := base) T ⟨⟨_, _, fun_mk (st := s__law_windows) l21 c21 k21, PySem.W.mg_of X G a21⟩⟩ d__law_take
  have d__law_course := q__law_course (P := l.prog) (w := w) (base := base) T ⟨⟨_, _, fun_mk (st := s__law_course) l22 c22 k22, PySem.W.mg_of X G a22⟩⟩ d__law_take
  have d__law_number := q__law_number (P := l.prog) (w := w) (base := base) T ⟨⟨_, _, fun_mk (st := s__law_number) l23 c23 k23, PySem.W.mg_of X G a23⟩⟩ 
  have d__law_tallies := q__law_tallies (P := l.prog) (w := w) (base := base) T ⟨⟨_, _, fun_mk (st := s__law_tallies) l24 c24 k24, PySem.W.mg_of X G a24⟩⟩ d__law_course d__law_number d__law_take
  have d__law_inside := q__law_inside (P := l.prog) (w := w) (base := base) T ⟨⟨_, _, fun_mk (st := s__law_inside) l25 c25 k25, PySem.W.mg_of X G a25⟩⟩ 
  have d__law_pairs := q__law_pairs (P := l.prog) (w := w) (base := base) T ⟨⟨_, _, fun_mk (st := s__law_pairs) l26 c26 k26, PySem.W.mg_of X G a26⟩⟩ d__law_inside
  have d__law_agrees := q__law_agrees (P := l.prog) (w := w) (base := base) T ⟨⟨_, _, fun_mk (st := s__law_agrees) l27 c27 k27, PySem.W.mg_of X G a27⟩⟩ d__law_pairs
  have d__law_kept := q__law_kept (P := l.prog) (w := w) (base := base) T ⟨⟨_, _, fun_mk (st := s__law_kept) l28 c28 k28, PySem.W.mg_of X G a28⟩⟩ d__law_number
  have d__law_all := q__law_all (P := l.prog) (w := w) (base := base) T ⟨⟨_, _, fun_mk (st := s__law_all) l29 c29 k29, PySem.W.mg_of X G a29⟩⟩ d__law_kept
  have d__law_joined := q__law_joined (P := l.prog) (w := w) (base := base) T ⟨⟨_, _, fun_mk (st := s__law_joined) l30 c30 k30, PySem.W.mg_of X G a30⟩⟩ 
  have d__law_at := q__law_at (P := l.prog) (w := w) (base := base) T ⟨⟨_, _, fun_mk (st := s__law_at) l31 c31 k31, PySem.W.mg_of X G a31⟩⟩ d__law_agrees
  have d__law_large_right := q__law_large_right (P := l.prog) (w := w) (base := base) T ⟨⟨_, _, fun_mk (st := s__law_large_right) l32 c32 k32, PySem.W.mg_of X G a32⟩⟩ d__law_at d__law_take d_event_times
  exact law_imp (q_law (P := l.prog) (w := w) (base := base) T (fun_mk (st := s_law) l33 c33 k33) (PySem.W.mg_of X G a33) d__law_all d__law_bags d__law_joined d__law_large_right d__law_same d__law_take d__law_tallies d__law_windows d_event_times d_surely_done) plain

end TW
open PySem PySem.W PyProof.Rows in
set_option maxRecDepth 100000 in
set_option maxHeartbeats 0 in
theorem PySem.Challenge.cw_tallywindows_k08_whole_times_of_single_e_holds : PySem.Challenge.rw_tallywindows_k08_whole_times_of_single_e.Holds := by
  w_on; o_law; k_head; (case hw => w_witness2)
  k_fill
  refine L2.walk_of (l := PySem.Challenge.rw_tallywindows_k08_whole_times_of_single_e) (n := 63) (k := 9) (x := "script") (CX := fun w => L2.CX (PySem.Challenge.rw_tallywindows_k08_whole_times_of_single_e).prog w) (sp := fun w => TW.spLaw _) rfl (by decide) rfl ⟨rfl, by decide, by decide⟩ (fun w h Y => PySem.W.kIn_of Y) ?F (fun _ _ a ns hl _ hS => ⟨a, ns, rfl, hS, hl, fun _ => rfl⟩) TW.cx_false
  case F =>
    intro w mg fa h KX G hmg
    refine' TW.all_mk KX G hmg ?a0 ?l0 ?c0 ?k0 ?a1 ?l1 ?c1 ?k1 ?a2 ?l2 ?c2 ?k2 ?a3 ?l3 ?c3 ?k3 ?a4 ?l4 ?c4 ?k4 ?a5 ?l5 ?c5 ?k5 ?a6 ?l6 ?c6 ?k6 ?a7 ?l7 ?c7 ?k7 ?a8 ?l8 ?c8 ?k8 ?a9 ?l9 ?c9 ?k9 ?a10 ?l10 ?c10 ?k10 ?a11 ?l11 ?c11 ?k11 ?a12 ?l12 ?c12 ?k12 ?a13 ?l13 ?c13 ?k13 ?a14 ?l14 ?c14 ?k14 ?a15 ?l15 ?c15 ?k15 ?a16 ?l16 ?c16 ?k16 ?a17 ?l17 ?c17 ?k17 ?a18 ?l18 ?c18 ?k18 ?a19 ?l19 ?c19 ?k19 ?a20 ?l20 ?c20 ?k20 ?a21 ?l21 ?c21 ?k21 ?a22 ?l22 ?c22 ?k22 ?a23 ?l23 ?c23 ?k23 ?a24 ?l24 ?c24 ?k24 ?a25 ?l25 ?c25 ?k25 ?a26 ?l26 ?c26 ?k26 ?a27 ?l27 ?c27 ?k27 ?a28 ?l28 ?c28 ?k28 ?a29 ?l29 ?c29 ?k29 ?a30 ?l30 ?c30 ?k30 ?a31 ?l31 ?c31 ?k31 ?a32 ?l32 ?c32 ?k32 ?a33 ?l33 ?c33 ?k33 ?nLAST ?nMAX_EVENTS ?nMAX_TALLIES ?zlen ?zisinstance ?zall ?zmax ?zmin ?zsum ?zsorted ?zset ?ztuple ?zlist ?zdict ?zrange ?zzip ?zenumerate ?zint ?zbool ?zstr TW.plain
    (case a0 => k_is)
    (case l0 => k_is)
    (case c0 => k_is)
    (case k0 => k_is)
    (case a1 => k_is)
    (case l1 => k_is)
    (case c1 => k_is)
    (case k1 => k_is)
    (case a2 => k_is)
    (case l2 => k_is)
    (case c2 => k_is)
    (case k2 => k_is)
    (case a3 => k_is)
    (case l3 => k_is)
    (case c3 => k_is)
    (case k3 => k_is)
    (case a4 => k_is)
    (case l4 => k_is)
    (case c4 => k_is)
    (case k4 => k_is)
    (case a5 => k_is)
    (case l5 => k_is)
    (case c5 => k_is)
    (case k5 => k_is)
    (case a6 => k_is)
    (case l6 => k_is)
    (case c6 => k_is)
    (case k6 => k_is)
    (case a7 => k_is)
    (case l7 => k_is)
    (case c7 => k_is)
    (case k7 => k_is)
    (case a8 => k_is)
    (case l8 => k_is)
    (case c8 => k_is)
    (case k8 => k_is)
    (case a9 => k_is)
    (case l9 => k_is)
    (case c9 => k_is)
    (case k9 => k_is)
    (case a10 => k_is)
    (case l10 => k_is)
    (case c10 => k_is)
    (case k10 => k_is)
    (case a11 => k_is)
    (case l11 => k_is)
    (case c11 => k_is)
    (case k11 => k_is)
    (case a12 => k_is)
    (case l12 => k_is)
    (case c12 => k_is)
    (case k12 => k_is)
    (case a13 => k_is)
    (case l13 => k_is)
    (case c13 => k_is)
    (case k13 => k_is)
    (case a14 => k_is)
    (case l14 => k_is)
    (case c14 => k_is)
    (case k14 => k_is)
    (case a15 => k_is)
    (case l15 => k_is)
    (case c15 => k_is)
    (case k15 => k_is)
    (case a16 => k_is)
    (case l16 => k_is)
    (case c16 => k_is)
    (case k16 => k_is)
    (case a17 => k_is)
    (case l17 => k_is)
    (case c17 => k_is)
    (case k17 => k_is)
    (case a18 => k_is)
    (case l18 => k_is)
    (case c18 => k_is)
    (case k18 => k_is)
    (case a19 => k_is)
    (case l19 => k_is)
    (case c19 => k_is)
    (case k19 => k_is)
    (case a20 => k_is)
    (case l20 => k_is)
    (case c20 => k_is)
    (case k20 => k_is)
    (case a21 => k_is)
    (case l21 => k_is)
    (case c21 => k_is)
    (case k21 => k_is)
    (case a22 => k_is)
    (case l22 => k_is)
    (case c22 => k_is)
    (case k22 => k_is)
    (case a23 => k_is)
    (case l23 => k_is)
    (case c23 => k_is)
    (case k23 => k_is)
    (case a24 => k_is)
    (case l24 => k_is)
    (case c24 => k_is)
    (case k24 => k_is)
    (case a25 => k_is)
    (case l25 => k_is)
    (case c25 => k_is)
    (case k25 => k_is)
    (case a26 => k_is)
    (case l26 => k_is)
    (case c26 => k_is)
    (case k26 => k_is)
    (case a27 => k_is)
    (case l27 => k_is)
    (case c27 => k_is)
    (case k27 => k_is)
    (case a28 => k_is)
    (case l28 => k_is)
    (case c28 => k_is)
    (case k28 => k_is)
    (case a29 => k_is)
    (case l29 => k_is)
    (case c29 => k_is)
    (case k29 => k_is)
    (case a30 => k_is)
    (case l30 => k_is)
    (case c30 => k_is)
    (case k30 => k_is)
    (case a31 => k_is)
    (case l31 => k_is)
    (case c31 => k_is)
    (case k31 => k_is)
    (case a32 => k_is)
    (case l32 => k_is)
    (case c32 => k_is)
    (case k32 => k_is)
    (case a33 => k_is)
    (case l33 => k_is)
    (case c33 => k_is)
    (case k33 => k_is)
    (case nLAST => k_is)
    (case nMAX_EVENTS => k_is)
    (case nMAX_TALLIES => k_is)
    (case zlen => k_is)
    (case zisinstance => k_is)
    (case zall => k_is)
    (case zmax => k_is)
    (case zmin => k_is)
    (case zsum => k_is)
    (case zsorted => k_is)
    (case zset => k_is)
    (case ztuple => k_is)
    (case zlist => k_is)
    (case zdict => k_is)
    (case zrange => k_is)
    (case zzip => k_is)
    (case zenumerate => k_is)
    (case zint => k_is)
    (case zbool => k_is)
    (case zstr => k_is)

