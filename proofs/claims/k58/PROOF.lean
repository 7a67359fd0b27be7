import PyProof.Rows.All
import Wide.All
import OpenK.AllK
import Wide.FinOn
import HandS.ForMost
import KE.DataCmp
import HandS.Flow
import HandS.ExcOwn
import HandS.TryMany
import HandS.TupAny
import HandS.TupMul
import HandS.Wide
import HandS.WideBits
import HandS.Deep
import HandS.Style
import HandS.IsInst
import HandS.Zip
import HandS.Gcd
import HandS.SortInts
import KE.DataEq
import KE.DataFind
import KE.DataMinMax
import KE.SortData
import KE.KTupSum
import KE.GoesEnum
import HandS.SetFor
import HandS.Conv
import HandS.Defaults
import HandS.WordsExc
import KE.KStateDown
import HandS.Head0
import HandS.Head1
import HandS.Head2
import HandS.HeadEnd
import HandS.HeadHook1
import HandS.HeadHook2
import HandS.HeadHook4
import HandS.EndBits
import PySem.Challenge.RW_beadsalike_k58_across_stretches_one_behi
set_option Elab.async false
set_option linter.all false
set_option maxRecDepth 100000
/-! Values by what they hold; who may change them; what a step leaves as it was. -/
namespace VP
open PySem PySem.Spec PyProof.Rows L2

inductive D where
  | non | bl (b : Bool) | int (i : Int) | str (x : Str) | fn (x : Str) | ty (x : String)
  | tup (xs : List D) | lst (o : Bool) (xs : List D) | pr (x y : D)
  | dct (o : Bool) (kvs : List (D × D))
  | obj (o : Bool) (C : Str) (fs : List (Str × D))
  deriving Inhabited

/-- what stays through a law -/
structure Gv where
  K : PySem.W.Frag
  mg : Str → Option Value

abbrev AP' := Addr → Prop

def KT (K : PySem.W.Frag) (a : Addr) (xs : List V) : Prop := ∃ (o : Obj) (its : Array Value) (n : Nat), K.lookup a = some o ∧ o.cls = .type "tuple" ∧ o.dict = none ∧ o.data = .seq its n ∧ its.size ≤ sizeLine ∧ Vals xs its.toList
def FT (G : Gv) (H : Hp) (S : AP') (a : Addr) (vs : List V) : Prop := (S a ∧ ∃ o : Obj, H a = some (.frz o (.tup vs)) ∧ o.dict = none) ∨ KT G.K a vs
def FL (G : Gv) (H : Hp) (S : AP') (a : Addr) (vs : List V) : Prop := S a ∧ Rd H a (.lst vs)

mutual
def Fz (G : Gv) (H : Hp) (S : AP') : D → V → Prop
  | .non, v => v = .non
  | .bl b, v => v = .bl b
  | .int i, v => v = .int i
  | .str x, v => v = .str x
  | .fn x, v => ∃ a, G.mg x = some (.ref a) ∧ v = .ref a
  | .ty n, v => v = .ty n
  | .tup xs, v => ∃ a vs, v = .ref a ∧ FT G H S a vs ∧ FzL G H S xs vs
  | .lst o xs, v => o = false ∧ ∃ a vs, v = .ref a ∧ FL G H S a vs ∧ FzL G H S xs vs
  | .pr x y, v => ∃ a u w, v = .ref a ∧ S a ∧ H a = some (.tup [u, w]) ∧ Fz G H S x u ∧ Fz G H S y w
  | .dct _ _, _ => False
  | .obj _ _ _, _ => False
def FzL (G : Gv) (H : Hp) (S : AP') : List D → List V → Prop
  | [], vs => vs = []
  | d :: ds, vs => ∃ v r, vs = v :: r ∧ Fz G H S d v ∧ FzL G H S ds r
end

/-- what is frozen stays -/
structure Mono (S : AP') (H : Hp) (S' : AP') (H' : Hp) : Prop where
  s : ∀ a, S a → S' a
  h : ∀ a u, S a → H a = some u → H' a = some u
theorem Mono.refl {S : AP'} {H : Hp} : Mono S H S H := ⟨fun _ h => h, fun _ _ _ h => h⟩
theorem Mono.ft {G : Gv} {S S' : AP'} {H H' : Hp} {a : Addr} {vs : List V} (m : Mono S H S' H') (h : FT G H S a vs) : FT G H' S' a vs := by
  rcases h with ⟨h1, o, h2, h3⟩ | h
  · exact .inl ⟨m.s _ h1, o, m.h _ _ h1 h2, h3⟩
  · exact .inr h
theorem Mono.fl {G : Gv} {S S' : AP'} {H H' : Hp} {a : Addr} {vs : List V} (m : Mono S H S' H') (h : FL G H S a vs) : FL G H' S' a vs := by
  obtain ⟨h1, h2 | ⟨o, h2⟩⟩ := h
  · exact ⟨m.s _ h1, .inl (m.h _ _ h1 h2)⟩
  · exact ⟨m.s _ h1, .inr ⟨o, m.h _ _ h1 h2⟩⟩
mutual
theorem Fz.mono {G : Gv} {S S' : AP'} {H H' : Hp} (m : Mono S H S' H') : ∀ (d : D) {v : V}, Fz G H S d v → Fz G H' S' d v
  | .non, _, h => h
  | .bl _, _, h => h
  | .int _, _, h => h
  | .str _, _, h => h
  | .fn _, _, h => h
  | .ty _, _, h => h
  | .tup xs, v, h => by
    simp only [Fz] at h ⊢
    obtain ⟨a, vs, e, h1, h2⟩ := h
    exact ⟨a, vs, e, m.ft h1, FzL.mono m xs h2⟩
  | .lst o xs, v, h => by
    simp only [Fz] at h ⊢
    obtain ⟨eo, a, vs, e, h1, h2⟩ := h
    exact ⟨eo, a, vs, e, m.fl h1, FzL.mono m xs h2⟩
  | .pr x y, v, h => by
    simp only [Fz] at h ⊢
    obtain ⟨a, u, w, e, h1, h2, h3, h4⟩ := h
    exact ⟨a, u, w, e, m.s _ h1, m.h _ _ h1 h2, Fz.mono m x h3, Fz.mono m y h4⟩
  | .dct _ _, _, h => by simp only [Fz] at h
  | .obj _ _ _, _, h => by simp only [Fz] at h
theorem FzL.mono {G : Gv} {S S' : AP'} {H H' : Hp} (m : Mono S H S' H') : ∀ (ds : List D) {vs : List V}, FzL G H S ds vs → FzL G H' S' ds vs
  | [], vs, h => by simp only [FzL] at h ⊢; exact h
  | d :: ds, vs, h => by
    simp only [FzL] at h ⊢
    obtain ⟨v, r, e, h1, h2⟩ := h
    exact ⟨v, r, e, Fz.mono m d h1, FzL.mono m ds h2⟩
end
section
variable {G : Gv} {H : Hp} {S : AP'}
theorem FzL.nil : FzL G H S [] [] := by simp only [FzL]
theorem FzL.cons {d : D} {v : V} {ds : List D} {vs : List V} (h : Fz G H S d v) (r : FzL G H S ds vs) : FzL G H S (d :: ds) (v :: vs) := by
  simp only [FzL]; exact ⟨v, vs, rfl, h, r⟩
theorem FzL.uncons {d : D} {ds : List D} {vs : List V} (h : FzL G H S (d :: ds) vs) : ∃ v r, vs = v :: r ∧ Fz G H S d v ∧ FzL G H S ds r := by
  simp only [FzL] at h; exact h
theorem FzL.nil_eq {vs : List V} (h : FzL G H S [] vs) : vs = [] := by simp only [FzL] at h; exact h
theorem FzL.length : ∀ {ds : List D} {vs : List V}, FzL G H S ds vs → ds.length = vs.length
  | [], _, h => by rw [h.nil_eq]; rfl
  | d :: ds, _, h => by
    obtain ⟨v, r, rfl, _, h2⟩ := h.uncons
    rw [List.length_cons, List.length_cons, FzL.length h2]
theorem FzL.get : ∀ {ds : List D} {vs : List V} {i : Nat} {d : D}, FzL G H S ds vs → ds[i]? = some d → ∃ v, vs[i]? = some v ∧ Fz G H S d v
  | [], _, _, _, _, e => by simp at e
  | d :: ds, _, 0, x, h, e => by
    obtain ⟨v, r, rfl, h1, h2⟩ := h.uncons
    simp at e; subst e; exact ⟨v, rfl, h1⟩
  | d :: ds, _, i + 1, x, h, e => by
    obtain ⟨v, r, rfl, h1, h2⟩ := h.uncons
    obtain ⟨w, e1, e2⟩ := FzL.get (i := i) h2 (by simpa using e)
    exact ⟨w, by simpa using e1, e2⟩
theorem FzL.append : ∀ {ds es : List D} {vs us : List V}, FzL G H S ds vs → FzL G H S es us → FzL G H S (ds ++ es) (vs ++ us)
  | [], _, _, _, h, k => by rw [h.nil_eq]; exact k
  | d :: ds, _, _, _, h, k => by
    obtain ⟨v, r, rfl, h1, h2⟩ := h.uncons
    exact .cons h1 (FzL.append h2 k)
theorem FzL.take : ∀ {ds : List D} {vs : List V} (n : Nat), FzL G H S ds vs → FzL G H S (ds.take n) (vs.take n)
  | [], _, n, h => by rw [h.nil_eq]; simp; exact .nil
  | d :: ds, _, 0, h => by simp; exact .nil
  | d :: ds, _, n + 1, h => by
    obtain ⟨v, r, rfl, h1, h2⟩ := h.uncons
    simp; exact .cons h1 (FzL.take n h2)
theorem FzL.drop : ∀ {ds : List D} {vs : List V} (n : Nat), FzL G H S ds vs → FzL G H S (ds.drop n) (vs.drop n)
  | [], _, n, h => by rw [h.nil_eq]; simp; exact .nil
  | d :: ds, _, 0, h => h
  | d :: ds, _, n + 1, h => by
    obtain ⟨v, r, rfl, h1, h2⟩ := h.uncons
    simp; exact FzL.drop n h2
theorem FzL.set : ∀ {ds : List D} {vs : List V} {d : D} {v : V} (i : Nat), FzL G H S ds vs → Fz G H S d v → FzL G H S (ds.set i d) (vs.set i v)
  | [], _, _, _, i, h, _ => by rw [h.nil_eq]; simp; exact .nil
  | e :: ds, _, d, v, 0, h, k => by
    obtain ⟨w, r, rfl, h1, h2⟩ := h.uncons
    simp; exact .cons k h2
  | e :: ds, _, d, v, i + 1, h, k => by
    obtain ⟨w, r, rfl, h1, h2⟩ := h.uncons
    simp; exact .cons h1 (FzL.set i h2 k)
theorem FzL.reverse : ∀ {ds : List D} {vs : List V}, FzL G H S ds vs → FzL G H S ds.reverse vs.reverse
  | [], _, h => by rw [h.nil_eq]; exact .nil
  | d :: ds, _, h => by
    obtain ⟨v, r, rfl, h1, h2⟩ := h.uncons
    simp only [List.reverse_cons]
    exact FzL.append (FzL.reverse h2) (.cons h1 .nil)
end

/-! ### what is one's own -/
def Ow (G : Gv) (H : Hp) (S : AP') : D → V → List Addr → Prop
  | .lst true xs, v, T => ∃ a vs, v = .ref a ∧ T = [a] ∧ ¬ S a ∧ H a = some (.lst vs) ∧ FzL G H S xs vs
  | d, v, T => T = [] ∧ Fz G H S d v
/-- it may be read -/
def Rb (G : Gv) (H : Hp) (S : AP') (d : D) (v : V) : Prop := ∃ T, Ow G H S d v T
def own : D → Bool
  | .lst true _ => true
  | _ => false
def frz : D → D
  | .lst _ xs => .lst false xs
  | d => d
theorem Ow.fz {G : Gv} {H : Hp} {S : AP'} {d : D} {v : V} {T : List Addr} (h : Ow G H S d v T) (ho : own d = false) : T = [] ∧ Fz G H S d v := by
  cases d with
  | lst o xs => cases o with
    | true => cases ho
    | false => exact h
  | _ => exact h
theorem Ow.of {G : Gv} {H : Hp} {S : AP'} {d : D} {v : V} (ho : own d = false) (h : Fz G H S d v) : Ow G H S d v [] := by
  cases d with
  | lst o xs => cases o with
    | true => cases ho
    | false => exact ⟨rfl, h⟩
  | _ => exact ⟨rfl, h⟩
theorem frz_not {d : D} : own (frz d) = false := by cases d <;> rfl
theorem frz_eq {d : D} (h : own d = false) : frz d = d := by
  cases d with
  | lst o xs => cases o with
    | true => cases h
    | false => rfl
  | _ => rfl

/-- behind a step: what was there and not one's own stands; what is frozen stays so -/
structure Ext (P : AP') (S : AP') (H : Hp) (P' : AP') (S' : AP') (H' : Hp) : Prop where
  keep : ∀ a u, H a = some u → ¬ P a → H' a = some u
  froz : ∀ a, S a → S' a
  back : ∀ a u, H a = some u → ¬ P a → S' a → S a
  own : ∀ a, P' a → P a ∨ H a = none
theorem Ext.refl {P S : AP'} {H : Hp} : Ext P S H P S H := ⟨fun _ _ h _ => h, fun _ h => h, fun _ _ _ _ h => h, fun _ h => .inl h⟩
theorem Ext.trans {P S P1 S1 P2 S2 : AP'} {H H1 H2 : Hp} (a : Ext P S H P1 S1 H1) (b : Ext P1 S1 H1 P2 S2 H2) : Ext P S H P2 S2 H2 where
  keep := fun x u e n => b.keep x u (a.keep x u e n) fun p => by
    rcases a.own x p with z | z
    · exact n z
    · rw [z] at e; cases e
  froz := fun x h => b.froz x (a.froz x h)
  back := fun x u e n h => a.back x u e n (b.back x u (a.keep x u e n) (fun p => by
    rcases a.own x p with z | z
    · exact n z
    · rw [z] at e; cases e) h)
  own := fun x p => by
    rcases b.own x p with z | z
    · exact a.own x z
    · cases q : H x with
      | none => exact .inr rfl
      | some u =>
        by_cases hp : P x
        · exact .inl hp
        · rw [a.keep x u q hp] at z; cases z
theorem Ext.frame {P S P1 S1 : AP'} {H H1 : Hp} (a : Ext P S H P1 S1 H1) (R : AP') : Ext (fun x => R x ∨ P x) S H (fun x => R x ∨ P1 x) S1 H1 where
  keep := fun x u e n => a.keep x u e fun p => n (.inr p)
  froz := a.froz
  back := fun x u e n => a.back x u e fun p => n (.inr p)
  own := fun x p => by
    rcases p with p | p
    · exact .inl (.inl p)
    · rcases a.own x p with z | z
      · exact .inl (.inr z)
      · exact .inr z
theorem Ext.congr {P S P1 S1 P' P1' : AP'} {H H1 : Hp} (a : Ext P S H P1 S1 H1) (h : ∀ x, P x → P' x) (h1 : ∀ x, P1' x → P1 x) : Ext P' S H P1' S1 H1 where
  keep := fun x u e n => a.keep x u e fun p => n (h x p)
  froz := a.froz
  back := fun x u e n => a.back x u e fun p => n (h x p)
  own := fun x p => by
    rcases a.own x (h1 x p) with z | z
    · exact .inl (h x z)
    · exact .inr z
theorem Ext.mono {P S P1 S1 : AP'} {H H1 : Hp} (a : Ext P S H P1 S1 H1) (hs : ∀ x, P x → ¬ S x) : Mono S H S1 H1 :=
  ⟨a.froz, fun x u hx e => a.keep x u e fun p => hs x p hx⟩
theorem Ow.keep {G : Gv} {P S P1 S1 : AP'} {H H1 : Hp} {d : D} {v : V} {T : List Addr} (h : Ow G H S d v T) (a : Ext P S H P1 S1 H1) (hs : ∀ x, P x → ¬ S x) (ht : ∀ x, x ∈ T → ¬ P x) : Ow G H1 S1 d v T := by
  have m := a.mono hs
  cases ho : own d with
  | false =>
    obtain ⟨z1, z⟩ := h.fz ho
    rw [z1]
    exact .of ho (z.mono m)
  | true =>
    cases d with
    | lst o xs => cases o with
      | false => cases ho
      | true =>
        obtain ⟨x, vs, rfl, rfl, hx, e, r⟩ := h
        have nx := ht x (by simp)
        exact ⟨x, vs, rfl, rfl, fun z => hx (a.back x _ e nx z), a.keep x _ e nx, r.mono m⟩
    | _ => cases ho
theorem Ow.there {G : Gv} {S : AP'} {H : Hp} {d : D} {v : V} {T : List Addr} (h : Ow G H S d v T) {a : Addr} (ha : a ∈ T) : ¬ S a ∧ ∃ u, H a = some u := by
  cases ho : own d with
  | false =>
    obtain ⟨rfl, h⟩ := h.fz ho
    cases ha
  | true =>
    cases d with
    | lst o xs => cases o with
      | false => cases ho
      | true =>
        obtain ⟨x, vs, rfl, rfl, hx, e, r⟩ := h
        have z : a = x := by simpa using ha
        subst z
        exact ⟨hx, _, e⟩
    | _ => cases ho

/-! ### the slots -/
abbrev Ev := List (Option D)
abbrev Fps := Nat → List Addr
def Pf (F : Fps) : AP' := fun a => ∃ i, a ∈ F i
structure StO (G : Gv) (H : Hp) (S : AP') (σ : L2.St) (ρ : Ev) (F : Fps) : Prop where
  len : ρ.length = σ.length
  slot : ∀ (i : Nat) (d : D), ρ[i]? = some (some d) → ∃ v, σ[i]? = some (some v) ∧ Ow G H S d v (F i)
  emp : ∀ i, (∀ d, ρ[i]? ≠ some (some d)) → F i = []
  dis : ∀ i j a, a ∈ F i → a ∈ F j → i = j
  wf : ∀ a, S a → ∃ u, H a = some u
section
variable {G : Gv} {H H' : Hp} {S S' : AP'} {σ : L2.St} {ρ ρ' : Ev} {F F' : Fps}
theorem StO.own (h : StO G H S σ ρ F) {a : Addr} (p : Pf F a) : ¬ S a ∧ ∃ u, H a = some u := by
  obtain ⟨i, hi⟩ := p
  cases e : ρ[i]? with
  | none => rw [h.emp i fun d z => by rw [e] at z; cases z] at hi; cases hi
  | some o => cases o with
    | none => rw [h.emp i fun d z => by rw [e] at z; cases z] at hi; cases hi
    | some d =>
      obtain ⟨v, _, w⟩ := h.slot i d e
      exact w.there hi
theorem StO.sep (h : StO G H S σ ρ F) : ∀ a, Pf F a → ¬ S a := fun _ p => (h.own p).1
/-- slots stay where others step -/
theorem StO.keep (h : StO G H S σ ρ F) {P P1 : AP'} (a : Ext P S H P1 S' H') (hs : ∀ x, P x → ¬ S x) (hp : ∀ x, Pf F x → ¬ P x) (wf : ∀ a, S' a → ∃ u, H' a = some u) : StO G H' S' σ ρ F :=
  ⟨h.len, fun i d e => let ⟨v, e1, w⟩ := h.slot i d e; ⟨v, e1, w.keep a hs fun x hx => hp x ⟨i, hx⟩⟩, h.emp, h.dis, wf⟩
def putF (F : Fps) (i : Nat) (T : List Addr) : Fps := fun j => if j = i then T else F j
theorem putF_same {i : Nat} {T : List Addr} : putF F i T i = T := by unfold putF; rw [if_pos rfl]
theorem putF_ne {i j : Nat} {T : List Addr} (h : j ≠ i) : putF F i T j = F j := by unfold putF; rw [if_neg h]
/-- a slot takes a value -/
theorem StO.put (h : StO G H S σ ρ F) {i : Nat} {d : D} {v : V} {T : List Addr} (hi : i < σ.length) (w : Ow G H S d v T) (ht : ∀ a, a ∈ T → ¬ Pf F a) : StO G H S (σ.set i (some v)) (ρ.set i (some d)) (putF F i T) where
  len := by simp [h.len]
  slot := fun j x e => by
    by_cases hj : j = i
    · subst hj
      rw [List.getElem?_set_self (by rw [h.len]; exact hi)] at e
      cases e
      exact ⟨v, by rw [List.getElem?_set_self hi], by rw [putF_same]; exact w⟩
    · rw [List.getElem?_set_ne (Ne.symm hj)] at e
      obtain ⟨u, e1, w1⟩ := h.slot j x e
      exact ⟨u, by rw [List.getElem?_set_ne (Ne.symm hj)]; exact e1, by rw [putF_ne hj]; exact w1⟩
  emp := fun j n => by
    by_cases hj : j = i
    · subst hj
      exact absurd (List.getElem?_set_self (by rw [h.len]; exact hi)) (n d)
    · rw [putF_ne hj]
      exact h.emp j fun x e => n x (by rw [List.getElem?_set_ne (Ne.symm hj)]; exact e)
  dis := fun j k a hj hk => by
    unfold putF at hj hk
    split at hj <;> split at hk
    · omega
    · exact absurd ⟨k, hk⟩ (ht a hj)
    · exact absurd ⟨j, hj⟩ (ht a hk)
    · exact h.dis j k a hj hk
  wf := h.wf
theorem Pf_put {i : Nat} {T : List Addr} {a : Addr} (h : Pf (putF F i T) a) : a ∈ T ∨ Pf F a := by
  obtain ⟨j, hj⟩ := h
  unfold putF at hj
  split at hj
  · exact .inl hj
  · exact .inr ⟨j, hj⟩
/-- the slot's value frozen -/
def addS (S : AP') (T : List Addr) : AP' := fun a => S a ∨ a ∈ T
theorem Ow.frz {d : D} {v : V} {T : List Addr} (w : Ow G H S d v T) : Fz G H (addS S T) (frz d) v := by
  cases ho : VP.own d with
  | false =>
    obtain ⟨rfl, z⟩ := w.fz ho
    rw [frz_eq ho]
    exact z.mono ⟨fun _ x => .inl x, fun _ _ _ x => x⟩
  | true =>
    cases d with
    | lst o xs => cases o with
      | false => cases ho
      | true =>
        obtain ⟨x, vs, rfl, rfl, hx, e, r⟩ := w
        simp only [VP.frz, Fz, true_and]
        exact ⟨x, vs, rfl, ⟨.inr (by simp), .inl e⟩, FzL.mono ⟨fun _ x => .inl x, fun _ _ _ x => x⟩ _ r⟩
    | _ => cases ho
theorem StO.froze (h : StO G H S σ ρ F) {T : List Addr} (ht : ∀ a, a ∈ T → ¬ Pf F a) (wt : ∀ a, a ∈ T → ∃ u, H a = some u) : StO G H (addS S T) σ ρ F where
  len := h.len
  slot := fun i d e => by
    obtain ⟨v, e1, w⟩ := h.slot i d e
    refine ⟨v, e1, ?_⟩
    cases ho : VP.own d with
    | false =>
      obtain ⟨z1, z⟩ := w.fz ho
      rw [z1]
      exact .of ho (z.mono ⟨fun _ x => .inl x, fun _ _ _ x => x⟩)
    | true =>
      cases d with
      | lst o xs => cases o with
        | false => cases ho
        | true =>
          obtain ⟨x, vs, rfl, eT, hx, e2, r⟩ := w
          refine ⟨x, vs, rfl, eT, fun z => ?_, e2, FzL.mono ⟨fun _ x => .inl x, fun _ _ _ x => x⟩ _ r⟩
          rcases z with z | z
          · exact hx z
          · exact ht x z ⟨i, by rw [eT]; simp⟩
      | _ => cases ho
  emp := h.emp
  dis := h.dis
  wf := fun a z => by
    rcases z with z | z
    · exact h.wf a z
    · exact wt a z
/-- slot i frozen in place -/
theorem StO.freeze (h : StO G H S σ ρ F) {i : Nat} {d : D} (e : ρ[i]? = some (some d)) : StO G H (addS S (F i)) σ (ρ.set i (some (frz d))) (putF F i []) := by
  obtain ⟨v, e1, w⟩ := h.slot i d e
  have hi : i < σ.length := (List.getElem?_eq_some_iff.mp e1).1
  have h0 : StO G H S σ (ρ.set i none) (putF F i []) :=
    ⟨by simp [h.len], fun j x q => by
      by_cases hj : j = i
      · subst hj
        rw [List.getElem?_set_self (by rw [h.len]; exact hi)] at q; cases q
      · rw [List.getElem?_set_ne (Ne.symm hj)] at q
        rw [putF_ne hj]
        exact h.slot j x q, fun j n => by
      by_cases hj : j = i
      · subst hj; exact putF_same
      · rw [putF_ne hj]
        exact h.emp j fun x q => n x (by rw [List.getElem?_set_ne (Ne.symm hj)]; exact q), fun j k a hj hk => by
      unfold putF at hj hk
      split at hj <;> split at hk <;> first | cases hj | cases hk | exact h.dis j k a hj hk, h.wf⟩
  have hn : ∀ a, a ∈ F i → ¬ Pf (putF F i []) a := fun a ha ⟨j, hj⟩ => by
    unfold putF at hj
    split at hj
    · cases hj
    · rename_i n
      exact n (h.dis j i a hj ha)
  have h1 := h0.froze hn fun a ha => (w.there ha).2
  have h2 := h1.put (i := i) (d := VP.frz d) (v := v) (T := []) hi (.of frz_not w.frz) (fun _ z => by cases z)
  have es : σ.set i (some v) = σ := by
    apply List.ext_getElem?
    intro j
    by_cases hj : j = i
    · subst hj; rw [List.getElem?_set_self hi, e1]
    · rw [List.getElem?_set_ne (Ne.symm hj)]
  have er : (ρ.set i none).set i (some (VP.frz d)) = ρ.set i (some (VP.frz d)) := by simp
  have ef : putF (putF F i []) i [] = putF F i [] := by
    funext j; unfold putF; split <;> rfl
  rw [es, er, ef] at h2
  exact h2
theorem Ext.freeze (h : StO G H S σ ρ F) (i : Nat) : Ext (Pf F) S H (Pf (putF F i [])) (addS S (F i)) H where
  keep := fun _ _ e _ => e
  froz := fun _ z => .inl z
  back := fun a u _ n z => by
    rcases z with z | z
    · exact z
    · exact absurd ⟨i, z⟩ n
  own := fun a p => by
    rcases Pf_put p with z | z
    · cases z
    · exact .inl z
end
end VP

set_option Elab.async false
set_option linter.all false
set_option maxRecDepth 100000
/-! The fragment's terms, and what they come to. -/
namespace VP
open PySem PySem.Spec PyProof.Rows L2

inductive Bo | add | sub | mul | fdiv | mod | pow | shl | shr | band
inductive Co | eq | ne | lt | le | gt | ge | is | isn | inn | nin
inductive Bi | len | tuple | list | int | abs | all | any | sum | isinst | max1 | min1 | max2 | min2 | sorted | str | gcd | sortset | lenset | range | dict | bool
inductive Me | count | index | join | get | split | splitn | replace
  deriving DecidableEq
inductive Mu | append | extend | pop | popAt | reverse
inductive Bx | sortset | listR | tupR
  deriving DecidableEq
inductive Tg where
  | nm (i : Nat) | tp (ts : List Tg)

inductive E where
  | var (i : Nat) | hold (i : Nat) | glo (x : Str) | nil | tr (a : E) | sr (a : E) | pt (a : E)
  | non | bl (b : Bool) | int (i : Int) | str (x : Str) | ty (x : String)
  | tup (es : List E) | lst (es : List E) | dic (ks vs : List E)
  | bin (o : Bo) (a b : E) | cmp (c : Co) (a b : E) | chn (c d : Co) (x y z : E)
  | neg (a : E) | nt (a : E) | and (a b : E) | or (a b : E) | ife (c a b : E)
  | ix (a i : E) | slc (a lo hi : E) | rev (a : E) | fld (a : E) (f : Str)
  | call (f : Str) (es : List E) | callv (i : Nat) (es : List E)
  | bi (b : Bi) (es : List E) | bix (b : Bx) (es : List E) | me (m : Me) (a : E) (es : List E) | mut (m : Mu) (i : Nat) (es : List E)
  | rng (es : List E) | zip (a b : E) | enm (a : E) | items (a : E) | vals (a : E)
  | comp (elt : E) (t : Tg) (s c : E) (own : List (Str × Nat))
  | comp2 (elt : E) (t : Tg) (s c : E) (t2 : Tg) (s2 c2 : E) (own : List (Str × Nat)) (vs2 : List Nat)

structure Er where
  c : Str
  x : Option D
inductive Out (α : Type) where
  | ok (x : α) (ρ : Ev)
  | er (e : Er) (ρ : Ev)
abbrev R (α : Type) := Option (Out α)
def bnd {α β : Type} (x : R α) (f : α → Ev → R β) : R β := match x with
  | none => none
  | some (.er e ρ) => some (.er e ρ)
  | some (.ok a ρ) => f a ρ
def ret {α : Type} (x : α) (ρ : Ev) : R α := some (.ok x ρ)
def lft {α : Type} (x : Option α) (ρ : Ev) : R α := match x with
  | some a => some (.ok a ρ)
  | none => none
theorem bnd_ok {α β : Type} (a : α) (ρ : Ev) (f : α → Ev → R β) : bnd (some (.ok a ρ)) f = f a ρ := rfl
theorem bnd_ret {α β : Type} (a : α) (ρ : Ev) (f : α → Ev → R β) : bnd (ret a ρ) f = f a ρ := rfl

inductive Opd where
  | loc (i : Nat) | tmp (d : D)

abbrev Sem1 := List D → Option (Except Er D × List D)
structure Fns where
  dom : List Str
  fn : Str → Sem1
  con : Str → Option D

abbrev LIM : Nat := 16777216

/-! ### data -/
mutual
def toPy : D → PyData
  | .non => .none
  | .bl b => .bool b
  | .int i => .int i
  | .str x => .str x
  | .tup xs => .tuple (toPys xs)
  | .lst _ xs => .list (toPys xs)
  | _ => .none
def toPys : List D → List PyData
  | [] => []
  | d :: ds => toPy d :: toPys ds
end
mutual
/-- plain data of some depth at most -/
def dat : Nat → D → Bool
  | _, .non => true
  | _, .bl _ => true
  | _, .int _ => true
  | _, .str _ => true
  | 0, _ => false
  | n + 1, .tup xs => datL n xs
  | n + 1, .lst _ xs => datL n xs
  | _, _ => false
def datL : Nat → List D → Bool
  | _, [] => true
  | n, d :: ds => dat n d && datL n ds
end
mutual
def deq : D → D → Bool
  | .non, .non => true
  | .bl a, .bl b => a == b
  | .bl a, .int b => (if a = true then 1 else 0) == b
  | .int a, .bl b => a == (if b = true then 1 else 0)
  | .int a, .int b => a == b
  | .str a, .str b => a == b
  | .tup xs, .tup ys => deqL xs ys
  | .lst _ xs, .lst _ ys => deqL xs ys
  | _, _ => false
def deqL : List D → List D → Bool
  | [], [] => true
  | x :: xs, y :: ys => deq x y && deqL xs ys
  | _, _ => false
end

def trD : D → Option Bool
  | .non => some false
  | .bl b => some b
  | .int i => some (i != 0)
  | .str x => if x.length ≤ LIM then some ((x.length : Int) != 0) else none
  | .tup xs => some (!xs.isEmpty)
  | .lst _ xs => some (!xs.isEmpty)
  | _ => none
def b2 (b : Bool) : Int := if b then 1 else 0
def mulOk (i j : Int) : Bool := (decide (-(2 ^ 64) < i) && decide (i < 2 ^ 64)) || (decide (-(2 ^ 64) < j) && decide (j < 2 ^ 64)) || (decide (i.natAbs < 2 ^ 300000) && decide (j.natAbs < 2 ^ 300000))
def repD (xs : List D) (k : Int) : Option (List D) := if 0 ≤ k ∧ k < 16777216 ∧ xs.length * k.toNat ≤ LIM then some ((List.replicate k.toNat xs).flatten) else none
def binD : Bo → D → D → Option D
  | .add, .int a, .int b => some (.int (a + b))
  | .add, .str a, .str b => if a.length + b.length ≤ LIM then some (.str (a ++ b)) else none
  | .add, .tup a, .tup b => if a.length + b.length ≤ LIM then some (.tup (a ++ b)) else none
  | .add, .lst _ a, .lst _ b => if a.length + b.length ≤ LIM then some (.lst true (a ++ b)) else none
  | .sub, .int a, .int b => some (.int (a - b))
  | .mul, .int a, .int b => if mulOk a b then some (.int (a * b)) else none
  | .mul, .tup a, .int b => if a ≠ [] ∧ -1000 ≤ b ∧ b ≤ 1000 ∧ a.length ≤ 1000 then some (.tup (List.replicate b.toNat a).flatten) else none
  | .mul, .lst _ a, .int b => (repD a b).map (.lst true)
  | .fdiv, .int a, .int b => if 0 < b ∧ b.natAbs < 2 ^ 9000 then some (.int (a.fdiv b)) else if b ≠ 0 ∧ b.natAbs < 1073741824 then some (.int (a.fdiv b)) else none
  | .mod, .int a, .int b => if b ≠ 0 then some (.int (a.fmod b)) else none
  | .pow, .int a, .int b => if 0 ≤ b ∧ b ≤ 1000000 ∧ a.natAbs < 2 ^ 64 then some (.int (a ^ b.toNat)) else none
  | .shl, .int a, .int b => if 0 ≤ b ∧ b ≤ 1000000 ∧ a.natAbs < 2 ^ 64 then some (.int (a * 2 ^ b.toNat)) else none
  | .shr, .int a, .int b => if 0 ≤ b then some (.int (a / 2 ^ b.toNat)) else none
  | .band, .int a, .int b => some (.int (Builtin.bitAnd a b))
  | _, _, _ => none
def DP : Nat := 60
def cmpD : Co → D → D → Option Bool
  | .eq, a, b => if dat DP a && dat DP b then some (deq a b) else none
  | .ne, a, b => if dat DP a && dat DP b then some (!deq a b) else none
  | .lt, .int a, .int b => some (decide (a < b))
  | .le, .int a, .int b => some (decide (a ≤ b))
  | .lt, .tup a, .tup b => if dat DP (.tup a) && dat DP (.tup b) && PySem.W.alike (toPy (.tup a)) (toPy (.tup b)) then some (PySem.W.dataLt (toPy (.tup a)) (toPy (.tup b))) else none
  | .gt, .int a, .int b => some (decide (b < a))
  | .ge, .int a, .int b => some (decide (b ≤ a))
  | .is, a, .non => some (match a with | .non => true | _ => false)
  | .isn, a, .non => some (match a with | .non => false | _ => true)
  | .inn, a, .tup xs => if dat DP a && datL DP xs then some (xs.any fun y => deq y a) else none
  | .inn, a, .lst _ xs => if dat DP a && datL DP xs then some (xs.any fun y => deq y a) else none
  | .nin, a, .tup xs => if dat DP a && datL DP xs then some (!xs.any fun y => deq y a) else none
  | .nin, a, .lst _ xs => if dat DP a && datL DP xs then some (!xs.any fun y => deq y a) else none
  | .inn, .str c, .str z => some (!(Builtin.Str.occurrences z c 0 z.length 1).isEmpty)
  | .nin, .str c, .str z => some (!!(Builtin.Str.occurrences z c 0 z.length 1).isEmpty)
  | _, _, _ => none
def ixD : D → D → Option D
  | .tup xs, .int i => atI xs i
  | .lst _ xs, .int i => atI xs i
  | .str z, .int i => if z.length ≤ LIM then (atI z.cps.toList i).map fun c => .str ⟨#[c]⟩ else none
  | _, _ => none
def cutD (xs : List D) (lo hi : Option Int) : List D := List.take (HT.sIx xs.length xs.length hi - HT.sIx xs.length 0 lo) (List.drop (HT.sIx xs.length 0 lo) xs)
def slcD : D → Option Int → Option Int → Option D
  | .tup xs, lo, hi => some (.tup (cutD xs lo hi))
  | .lst _ xs, lo, hi => some (.lst true (cutD xs lo hi))
  | .str z, lo, hi => if z.length ≤ LIM then some (.str (cutS z lo hi)) else none
  | _, _, _ => none
def revD : D → Option D
  | .tup xs => some (.tup xs.reverse)
  | .lst _ xs => some (.lst true xs.reverse)
  | _ => none
def nums : List D → Option (List Int)
  | [] => some []
  | .int i :: r => (nums r).map (i :: ·)
  | _ => none
def bls : List D → Option (List Bool)
  | [] => some []
  | .bl i :: r => (bls r).map (i :: ·)
  | _ => none
def tyn : D → Option String
  | .non => some "NoneType"
  | .bl _ => some "bool"
  | .int _ => some "int"
  | .str _ => some "str"
  | .tup _ => some "tuple"
  | .lst _ _ => some "list"
  | _ => none
def tyB (a b : String) : Option Bool :=
  if b = "int" then some (decide (a = "int" ∨ a = "bool")) else if b = "bool" ∨ b = "tuple" ∨ b = "list" ∨ b = "str" then some (decide (a = b)) else none
def tyIs (d : D) (t : String) : Option Bool := (tyn d).bind fun a => tyB a t
def isAny (d : D) (ts : List D) : Option Bool := ts.foldr (fun t acc => match t with
    | .ty t => (match tyIs d t, acc with
      | some a, some b => some (a || b)
      | _, _ => none)
    | _ => none) (some false)
def isInst (d : D) : D → Option Bool
  | .ty t => tyIs d t
  | .tup (t :: ts) => isAny d (t :: ts)
  | _ => none
def maxI : List Int → Option Int
  | [] => none
  | x :: xs => some (xs.foldl max x)
def minI : List Int → Option Int
  | [] => none
  | x :: xs => some (xs.foldl min x)
def sortI (xs : List Int) : List Int := xs.mergeSort fun a b => decide (a ≤ b)
/-- a set's members, ascending -/
def setI (xs : List Int) : List Int := sortI xs.eraseDups
def itemsD : D → Option (List D)
  | .tup xs => some xs
  | .lst _ xs => some xs
  | _ => none
def biD : Bi → List D → Option D
  | .len, [.tup xs] => some (.int xs.length)
  | .len, [.lst _ xs] => some (.int xs.length)
  | .len, [.str z] => if z.length ≤ LIM then some (.int z.length) else none
  | .tuple, [.tup xs] => some (.tup xs)
  | .tuple, [.lst _ xs] => some (.tup xs)
  | .list, [.tup xs] => some (.lst true xs)
  | .list, [.lst _ xs] => some (.lst true xs)
  | .int, [.int i] => some (.int i)
  | .int, [.bl b] => some (.int (b2 b))
  | .abs, [.int i] => some (.int (if i < 0 then -i else i))
  | .all, [.lst _ xs] => (bls xs).map fun bs => .bl (bs.all id)
  | .any, [.lst _ xs] => (bls xs).map fun bs => .bl (bs.any id)
  | .sum, [.lst _ xs] => (nums xs).map fun ns => .int ns.sum
  | .sum, [.tup xs] => (nums xs).map fun ns => .int ns.sum
  | .max1, [.tup xs] => ((nums xs).bind maxI).map .int
  | .max1, [.lst _ xs] => ((nums xs).bind maxI).map .int
  | .min1, [.tup xs] => ((nums xs).bind minI).map .int
  | .min1, [.lst _ xs] => ((nums xs).bind minI).map .int
  | .max2, [.int a, .int b] => some (.int (if b > a then b else a))
  | .min2, [.int a, .int b] => some (.int (if b < a then b else a))
  | .isinst, [d, t] => (isInst d t).map .bl
  | .str, [.int i] => if i.natAbs.log2 < 1920 then some (.str (toString i)) else none
  | .sorted, [.lst _ xs] => (nums xs).map fun ns => .lst true ((sortI ns).map .int)
  | _, _ => none
def meD : Me → D → List D → Option D
  | .count, .tup xs, [d] => if dat DP d && datL DP xs then some (.int ((xs.countP fun y => deq y d : Nat) : Int)) else none
  | .count, .lst _ xs, [d] => if dat DP d && datL DP xs then some (.int ((xs.countP fun y => deq y d : Nat) : Int)) else none
  | .index, .lst _ xs, [d] => if (dat DP d && datL DP xs) && ((toPy d).canLay0 && PyData.canLayAll0 (toPys xs)) then (xs.findIdx? fun y => deq y d).map fun j => .int (j : Int) else none
  | _, _, _ => none

/-- the method's owner and its own name, by what the receiver is -/
def meTy : Me → D → Option (String × String)
  | .count, .tup _ => some ("tuple", "tuple.count")
  | .count, .lst _ _ => some ("list", "list.count")
  | .index, .lst _ _ => some ("list", "list.index")
  | _, _ => none
def meN : Me → String
  | .count => "count" | .index => "index" | .join => "join" | .get => "get" | .split => "split" | .splitn => "split" | .replace => "replace"

/-! ### slots -/
def res (ρ : Ev) : Opd → Option D
  | .loc i => match ρ[i]? with
    | some (some d) => some d
    | _ => none
  | .tmp d => some d
def resL (ρ : Ev) : List Opd → Option (List D)
  | [] => some []
  | o :: os => match res ρ o, resL ρ os with
    | some d, some ds => some (d :: ds)
    | _, _ => none
/-- the value, frozen where it is a slot's -/
def val : Opd → Ev → R D
  | .loc i, ρ => match ρ[i]? with
    | some (some d) => ret (frz d) (ρ.set i (some (frz d)))
    | _ => none
  | .tmp d, ρ => ret d ρ
def blank (ρ : Ev) : List Nat → Ev
  | [] => ρ
  | i :: is => (blank ρ is).set i none
def restore (ρ0 : Ev) (ρ : Ev) : List Nat → Ev
  | [] => ρ
  | i :: is => (restore ρ0 ρ is).set i ((ρ0[i]?).getD none)
mutual
def asg : Tg → D → Ev → Option Ev
  | .nm i, d, ρ => if i < ρ.length then some (ρ.set i (some d)) else none
  | .tp ts, .tup xs, ρ => asgL ts xs ρ
  | .tp ts, .pr x y, ρ => asgL ts [x, y] ρ
  | _, _, _ => none
def asgL : List Tg → List D → Ev → Option Ev
  | [], [], ρ => some ρ
  | t :: ts, d :: ds, ρ => match asg t d ρ with
    | some ρ' => asgL ts ds ρ'
    | none => none
  | _, _, _ => none
end
def putBack : List Opd → List D → List D → Ev → Ev
  | .loc i :: os, d :: ds, d' :: ds', ρ => putBack os ds ds' (if own d then ρ.set i (some d') else ρ)
  | .tmp _ :: os, _ :: ds, _ :: ds', ρ => putBack os ds ds' ρ
  | _, _, _, ρ => ρ
def ownLocs : List Opd → List D → List Nat
  | .loc i :: os, d :: ds => if own d then i :: ownLocs os ds else ownLocs os ds
  | .tmp _ :: os, _ :: ds => ownLocs os ds
  | _, _ => []
def callF (g : Sem1) (os : List Opd) (ρ : Ev) : R Opd := match resL ρ os with
  | none => none
  | some ds => if (ownLocs os ds).Nodup then (match g ds with
    | none => none
    | some (.ok d, ds') => if ds'.length = ds.length then some (.ok (.tmp d) (putBack os ds ds' (blank ρ (ownLocs os ds)))) else none
    | some (.error e, ds') => if ds'.length = ds.length then some (.er e (putBack os ds ds' (blank ρ (ownLocs os ds)))) else none) else none
def compL (step : D → Ev → R (List D)) : List D → Ev → R (List D)
  | [], ρ => ret [] ρ
  | x :: xs, ρ => bnd (step x ρ) fun ys ρ => bnd (compL step xs ρ) fun ds ρ => ret (ys ++ ds) ρ
/-- no error -/
def noEr {α : Type} (x : R α) : R α := match x with
  | some (.ok a ρ) => some (.ok a ρ)
  | _ => none
inductive Sv where
  | hd (i : Nat) (d : D) | fz (d : D)
def Sv.d : Sv → D
  | .hd _ d => d
  | .fz d => d
def Sv.h : Sv → List (Nat × D)
  | .hd i d => [(i, d)]
  | .fz _ => []
/-- a local, put aside -/
def holdS (i : Nat) (ρ : Ev) : R Sv := match ρ[i]? with
  | some (some d) => ret (.hd i d) (ρ.set i none)
  | _ => none
/-- a value, frozen -/
def fzS (o : Opd) (ρ : Ev) : R Sv := bnd (val o ρ) fun d ρ => ret (.fz (frz d)) ρ
def seqOf (x : Sv) (ρ : Ev) : R (List D × List (Nat × D)) := match itemsD x.d with
  | some xs => ret (xs, x.h) ρ
  | none => none
def putH : List (Nat × D) → Ev → Ev
  | [], ρ => ρ
  | (i, d) :: hs, ρ => putH hs (ρ.set i (some d))
def rngOk (i j : Int) : Bool := decide (-(2 ^ 62) ≤ i) && decide (i < 2 ^ 62) && decide (-(2 ^ 62) ≤ j) && decide (j < 2 ^ 62)
def rngL (lo : Int) (n : Nat) : List D := (List.range n).map fun (k : Nat) => D.int (lo + (k : Int))
def rngD : List D → Option (List D)
  | [.int j] => if rngOk 0 j then some (rngL 0 j.toNat) else none
  | [.int i, .int j] => if rngOk i j then some (rngL i (j - i).toNat) else none
  | [.int i, .int j, .int (.negSucc 0)] => if rngOk i j then some ((rngL (j + 1) (i - j).toNat).reverse) else none
  | _ => none
def bxD : Bx → List D → Option D
  | .sortset, [d] => (itemsD d).bind fun xs => (nums xs).bind fun ns => if ns.eraseDups.length < 64 ∧ ns.length ≤ 4000 then some (.lst true ((setI ns).map .int)) else none
  | .listR, ds => (rngD ds).bind fun xs => if xs.length ≤ LIM then some (.lst true xs) else none
  | .tupR, ds => (rngD ds).bind fun xs => if xs.length ≤ LIM then some (.tup xs) else none
  | _, _ => none
def pairUp (xs ys : List D) : List D := (xs.zip ys).map fun p => .pr p.1 p.2
def enumUp (xs : List D) : List D := (List.range xs.length).zip xs |>.map fun p => .pr (.int (p.1 : Int)) p.2
def muD : Mu → List D → List D → Option (D × List D)
  | .append, xs, [d] => if xs.length < LIM then some (.non, xs ++ [frz d]) else none
  | .extend, xs, [.lst _ ys] => if xs.length + ys.length ≤ LIM then some (.non, xs ++ ys) else none
  | .pop, xs, [] => match xs.getLast? with
    | some d => some (d, xs.dropLast)
    | none => none
  | .popAt, xs, [.int i] => if -(2 ^ 63) ≤ i ∧ i < 2 ^ 63 then (match seqIndex? i xs.length with
    | some k => (match xs[k]? with
      | some d => some (d, xs.eraseIdx k)
      | none => none)
    | none => none) else none
  | .reverse, xs, [] => some (.non, xs.reverse)
  | _, _, _ => none
def stepOf (t : Tg) (vs : List Nat) (st : Ev → R (List D)) (x : D) (ρ : Ev) : R (List D) := match asg t x (blank ρ vs) with
  | none => none
  | some ρ => st ρ
def elemOf (c : Ev → R Bool) (e : Ev → R Opd) (ρ : Ev) : R (List D) := bnd (c ρ) fun k ρ => if k then bnd (e ρ) fun o ρ => bnd (val o ρ) fun d ρ => ret [frz d] ρ else ret [] ρ
def elem2Of (c : Ev → R Bool) (i : Ev → R (List D × List (Nat × D))) (t2 : Tg) (vs2 : List Nat) (c2 : Ev → R Bool) (e : Ev → R Opd) (ρ : Ev) : R (List D) := bnd (c ρ) fun k ρ => if k then
  bnd (i ρ) fun yh ρ3 => bnd (compL (stepOf t2 vs2 (elemOf c2 e)) yh.1 ρ3) fun ds ρ4 => ret ds (putH yh.2 ρ4) else ret [] ρ
/-- values of operands, each frozen -/
def valL : List Opd → Ev → R (List D)
  | [], ρ => ret [] ρ
  | o :: os, ρ => bnd (val o ρ) fun d ρ => bnd (valL os ρ) fun ds ρ => ret (frz d :: ds) ρ
def optI : Option D → Option (Option Int)
  | none => some none
  | some (.int i) => some (some i)
  | _ => none

def bixK (b : Bx) (os : List Opd) (ρ : Ev) : R Opd := match resL ρ os with
  | some ds => lft ((bxD b ds).map .tmp) ρ
  | none => none
mutual
def op (Φ : Fns) : E → Ev → R Opd
  | .var i, ρ => match ρ[i]? with
    | some (some _) => ret (.loc i) ρ
    | _ => none
  | .glo x, ρ => match Φ.con x with
    | some d => ret (.tmp d) ρ
    | none => none
  | .non, ρ => ret (.tmp .non) ρ
  | .bl b, ρ => ret (.tmp (.bl b)) ρ
  | .int i, ρ => ret (.tmp (.int i)) ρ
  | .str x, ρ => ret (.tmp (.str x)) ρ
  | .ty x, ρ => ret (.tmp (.ty x)) ρ
  | .tup es, ρ => bnd (ops Φ es ρ) fun os ρ => bnd (valL os ρ) fun ds ρ => if ds.length ≤ LIM then ret (.tmp (.tup ds)) ρ else none
  | .lst es, ρ => bnd (ops Φ es ρ) fun os ρ => bnd (valL os ρ) fun ds ρ => if ds.length ≤ LIM then ret (.tmp (.lst true ds)) ρ else none
  | .bin o a b, ρ => bnd (op Φ a ρ) fun x ρ => bnd (op Φ b ρ) fun y ρ => match res ρ x, res ρ y with
    | some dx, some dy => lft ((binD o dx dy).map .tmp) ρ
    | _, _ => none
  | .cmp c a b, ρ => bnd (op Φ a ρ) fun x ρ => bnd (op Φ b ρ) fun y ρ => match res ρ x, res ρ y with
    | some dx, some dy => lft ((cmpD c dx dy).map fun k => .tmp (.bl k)) ρ
    | _, _ => none
  | .chn c d a b e, ρ => bnd (op Φ a ρ) fun x ρ => bnd (op Φ b ρ) fun y ρ => match res ρ x, res ρ y with
    | some dx, some dy => (match cmpD c dx dy with
      | some true => bnd (op Φ e ρ) fun z ρ => match res ρ y, res ρ z with
        | some dy, some dz => lft ((cmpD d dy dz).map fun k => .tmp (.bl k)) ρ
        | _, _ => none
      | some false => ret (.tmp (.bl false)) ρ
      | none => none)
    | _, _ => none
  | .neg a, ρ => bnd (op Φ a ρ) fun x ρ => match res ρ x with
    | some (.int i) => ret (.tmp (.int (-i))) ρ
    | _ => none
  | .nt a, ρ => bnd (op Φ a ρ) fun x ρ => match res ρ x with
    | some (.bl b) => ret (.tmp (.bl (!b))) ρ
    | _ => none
  | .and a b, ρ => bnd (op Φ a ρ) fun x ρ => match res ρ x with
    | some (.bl true) => op Φ b ρ
    | some (.bl false) => ret (.tmp (.bl false)) ρ
    | _ => none
  | .or a b, ρ => bnd (op Φ a ρ) fun x ρ => bnd (val x ρ) fun d ρ => match trD d with
    | some true => ret (.tmp d) ρ
    | some false => op Φ b ρ
    | none => none
  | .ife c a b, ρ => bnd (tst Φ c ρ) fun k ρ => if k then op Φ a ρ else op Φ b ρ
  | .ix a i, ρ => bnd (op Φ a ρ) fun x ρ => bnd (op Φ i ρ) fun y ρ => match res ρ x, res ρ y with
    | some dx, some dy => lft ((ixD dx dy).map .tmp) ρ
    | _, _ => none
  | .slc a lo hi, ρ => bnd (op Φ a ρ) fun x ρ => bnd (prt Φ lo ρ) fun l ρ => bnd (prt Φ hi ρ) fun h ρ => match res ρ x with
    | some dx => lft ((slcD dx l h).map .tmp) ρ
    | _ => none
  | .rev a, ρ => bnd (op Φ a ρ) fun x ρ => match res ρ x with
    | some dx => lft ((revD dx).map .tmp) ρ
    | _ => none
  | .call f es, ρ => bnd (ops Φ es ρ) fun os ρ => callF (Φ.fn f) os ρ
  | .callv i es, ρ => match ρ[i]? with
    | some (some (.fn f)) => if f ∈ Φ.dom then bnd (ops Φ es ρ) fun os ρ => callF (Φ.fn f) os ρ else none
    | _ => none
  | .bi b es, ρ => bnd (ops Φ es ρ) fun os ρ => match resL ρ os with
    | some ds => lft ((biD b ds).map .tmp) ρ
    | none => none
  | .bix b es, ρ => bnd (ops Φ es ρ) (bixK b)
  | .me m a es, ρ => bnd (op Φ a ρ) fun x ρ => match res ρ x with
    | some d0 => if (meTy m d0).isSome then bnd (ops Φ es ρ) fun os ρ => match res ρ x, resL ρ os with
      | some d, some ds => if meTy m d = meTy m d0 then lft ((meD m d ds).map .tmp) ρ else none
      | _, _ => none
      else none
    | none => none
  | .mut m i es, ρ => match ρ[i]? with
    | some (some (.lst _ _)) => bnd (ops Φ es ρ) fun os ρ => bnd (valL os ρ) fun ds ρ => (match ρ[i]? with
      | some (some (.lst true xs)) => (match muD m xs ds with
        | some (d, ys) => ret (.tmp d) (ρ.set i (some (.lst true ys)))
        | none => none)
      | _ => none)
    | _ => none
  | .comp e t s c w, ρ => bnd (itr Φ s ρ) fun xh ρ1 =>
      bnd (noEr (compL (stepOf t (w.map (·.2)) (elemOf (tst Φ c) (op Φ e))) xh.1 (blank ρ1 (w.map (·.2))))) fun ds ρ2 =>
      if ds.length ≤ LIM then ret (.tmp (.lst true ds)) (putH xh.2 (restore ρ1 ρ2 (w.map (·.2)))) else none
  | .comp2 e t s c t2 s2 c2 w vs2, ρ => bnd (itr Φ s ρ) fun xh ρ1 =>
      bnd (noEr (compL (stepOf t (w.map (·.2)) (elem2Of (tst Φ c) (itr Φ s2) t2 vs2 (tst Φ c2) (op Φ e))) xh.1 (blank ρ1 (w.map (·.2))))) fun ds ρ2 =>
      if ds.length ≤ LIM then ret (.tmp (.lst true ds)) (putH xh.2 (restore ρ1 ρ2 (w.map (·.2)))) else none
  | _, _ => none
def ops (Φ : Fns) : List E → Ev → R (List Opd)
  | [], ρ => ret [] ρ
  | e :: es, ρ => bnd (op Φ e ρ) fun o ρ => bnd (ops Φ es ρ) fun os ρ => ret (o :: os) ρ
def tst (Φ : Fns) : E → Ev → R Bool
  | .nt a, ρ => bnd (tst Φ a ρ) fun k ρ => ret (!k) ρ
  | .and a b, ρ => bnd (tst Φ a ρ) fun k ρ => if k then tst Φ b ρ else ret false ρ
  | .or a b, ρ => bnd (tst Φ a ρ) fun k ρ => if k then ret true ρ else tst Φ b ρ
  | .tr e, ρ => bnd (op Φ e ρ) fun x ρ => match res ρ x with
    | some d => lft (trD d) ρ
    | none => none
  | _, _ => none
def prt (Φ : Fns) : E → Ev → R (Option Int)
  | .nil, ρ => ret none ρ
  | .pt e, ρ => bnd (op Φ e ρ) fun x ρ => match res ρ x with
    | some (.int i) => ret (some i) ρ
    | _ => none
  | _, _ => none
def src (Φ : Fns) : E → Ev → R Sv
  | .hold i, ρ => holdS i ρ
  | .sr e, ρ => bnd (op Φ e ρ) fzS
  | _, _ => none
def itr (Φ : Fns) : E → Ev → R (List D × List (Nat × D))
  | .hold i, ρ => bnd (holdS i ρ) seqOf
  | .sr e, ρ => bnd (bnd (op Φ e ρ) fzS) seqOf
  | .rng es, ρ => bnd (ops Φ es ρ) fun os ρ => match resL ρ os with
    | some ds => lft ((rngD ds).map fun xs => (xs, [])) ρ
    | none => none
  | .zip a b, ρ => bnd (src Φ a ρ) fun x ρ => bnd (src Φ b ρ) fun y ρ => match itemsD x.d, itemsD y.d with
    | some xs, some ys => ret (pairUp xs ys, x.h ++ y.h) ρ
    | _, _ => none
  | .enm a, ρ => bnd (src Φ a ρ) fun x ρ => match itemsD x.d with
    | some xs => ret (enumUp xs, x.h) ρ
    | none => none
  | _, _ => none
end
end VP

set_option Elab.async false
set_option linter.all false
set_option maxRecDepth 100000
/-! Readings of the fragment's terms over the layer. -/
namespace VP
open PySem PySem.Spec PyProof.Rows L2

/-- an error told: its class, its value -/
def ErR (G : Gv) (e : Er) (c : Value) (x : Option Addr) (H : Hp) : Prop :=
  ∃ a, G.mg e.c = some (.ref a) ∧ c = .ref a ∧ match e.x with
    | none => x = none
    | some d => ∃ dd f v, x = some dd ∧ H dd = some (.xd [(f, v)]) ∧ (∃ S, Fz G H S d v)

section
variable (G : Gv) (W : WX)
def Fin {α β : Type} (σ : L2.St) (S : AP') (H : Hp) (P : AP') (Rl : Hp → AP' → α → β → List Addr → Prop) (Q : β → Hp → Prop) : R α → Prop
  | none => False
  | some (.ok a ρ') => ∀ b H' S' F' T, Ext P S H (fun x => x ∈ T ∨ Pf F' x) S' H' → StO G H' S' σ ρ' F' → Rl H' S' a b T → (∀ x, x ∈ T → ¬ Pf F' x) → Q b H'
  | some (.er e ρ') => ∀ c x H' S' F', Ext P S H (Pf F') S' H' → StO G H' S' σ ρ' F' → ErR G e c x H' → W c x σ H'
def tG {α β : Type} (Rl : L2.St → Hp → AP' → α → β → List Addr → Prop) (m : Ev → R α) : L2.St → Hp → (β → Hp → Prop) → Prop := fun σ H Q =>
  ∃ S ρ F, StO G H S σ ρ F ∧ Fin G W σ S H (Pf F) (Rl σ) Q (m ρ)
end
structure RlOk {α β : Type} (Rl : L2.St → Hp → AP' → α → β → List Addr → Prop) : Prop where
  keep : ∀ {σ H S a b T P P1 S1 H1}, Rl σ H S a b T → Ext P S H P1 S1 H1 → (∀ x, P x → ¬ S x) → (∀ x, x ∈ T → ¬ P x) → Rl σ H1 S1 a b T
  there : ∀ {σ H S a b T x}, Rl σ H S a b T → x ∈ T → ¬ S x ∧ ∃ u, H x = some u

section
variable {G : Gv} {W : WX} {σ : L2.St} {H : Hp} {S : AP'} {ρ : Ev} {F : Fps} {R1 : AP'}
structure Hd (H : Hp) (S : AP') (F : Fps) (R1 : AP') : Prop where
  f : ∀ x, R1 x → ¬ Pf F x
  s : ∀ x, R1 x → ¬ S x
  h : ∀ x, R1 x → ∃ u, H x = some u
theorem Hd.none : Hd H S F (fun _ => False) := ⟨fun _ h => h.elim, fun _ h => h.elim, fun _ h => h.elim⟩
theorem Fin.step {α β : Type} {Rl : Hp → AP' → α → β → List Addr → Prop} {Q : β → Hp → Prop} {r : R α} {P P1 S1 : AP'} {H1 : Hp} (h : Fin G W σ S H P Rl Q r) (e : Ext P S H P1 S1 H1) : Fin G W σ S1 H1 P1 Rl Q r := by
  match r, h with
  | some (.ok a ρ'), h => exact fun b H' S' F' T x st rl dj => h b H' S' F' T (e.trans x) st rl dj
  | some (.er er ρ'), h => exact fun c x H' S' F' ex st er => h c x H' S' F' (e.trans ex) st er
theorem Fin.weak {α β : Type} {Rl : Hp → AP' → α → β → List Addr → Prop} {Q : β → Hp → Prop} {r : R α} {P P1 : AP'} (h : Fin G W σ S H P Rl Q r) (e : ∀ x, P1 x → P x) : Fin G W σ S H P1 Rl Q r :=
  match r, h with
  | some (.ok a ρ'), h => fun b H' S' F' T x st rl dj => h b H' S' F' T (x.congr e fun _ z => z) st rl dj
  | some (.er er ρ'), h => fun c x H' S' F' ex st er => h c x H' S' F' (ex.congr e fun _ z => z) st er
/-- one step of an evaluation -/
theorem tG_intro {α β γ δ : Type} {Rl : L2.St → Hp → AP' → α → β → List Addr → Prop} {RlC : Hp → AP' → γ → δ → List Addr → Prop} {m : Ev → R α} {k : α → Ev → R γ} {Q1 : β → Hp → Prop} {QC : δ → Hp → Prop}
    (ro : RlOk Rl) (st : StO G H S σ ρ F) (hd : Hd H S F R1) (h : Fin G W σ S H (fun x => R1 x ∨ Pf F x) RlC QC (bnd (m ρ) k))
    (hk : ∀ a ρ1 b H1 S1 F1 T, m ρ = some (.ok a ρ1) → StO G H1 S1 σ ρ1 F1 → Hd H1 S1 F1 (fun x => x ∈ T ∨ R1 x) → Rl σ H1 S1 a b T → (∀ x, x ∈ T → ¬ R1 x) →
      Ext (Pf F) S H (fun x => x ∈ T ∨ Pf F1 x) S1 H1 → Fin G W σ S1 H1 (fun x => (x ∈ T ∨ R1 x) ∨ Pf F1 x) RlC QC (k a ρ1) → Q1 b H1) : tG G W Rl m σ H Q1 := by
  refine ⟨S, ρ, F, st, ?_⟩
  cases hm : m ρ with
  | none => rw [hm] at h; exact h
  | some o => cases o with
    | er e ρ' =>
      rw [hm] at h
      exact fun c x H' S' F' ex st' er => h c x H' S' F' ((ex.frame R1).congr (fun _ z => z) fun _ z => .inr z) st' er
    | ok a ρ' =>
      rw [hm] at h
      intro b H' S' F' T ex st' rl dj
      have dT : ∀ x, x ∈ T → ¬ R1 x := fun x hx hr => by
        rcases ex.own x (.inl hx) with z | z
        · exact hd.f x hr z
        · obtain ⟨u, e⟩ := hd.h x hr
          rw [z] at e; cases e
      refine hk a ρ' b H' S' F' T hm st' ⟨fun x hx hp => ?_, fun x hx => ?_, fun x hx => ?_⟩ rl dT ex (h.step ((ex.frame R1).congr (fun _ z => z) fun x z => ?_))
      · rcases hx with hx | hx
        · exact dj x hx hp
        · rcases ex.own x (.inr hp) with z | z
          · exact hd.f x hx z
          · obtain ⟨u, e⟩ := hd.h x hx
            rw [z] at e; cases e
      · rcases hx with hx | hx
        · exact (ro.there rl hx).1
        · obtain ⟨u, e⟩ := hd.h x hx
          exact fun hs => hd.s x hx (ex.back x u e (hd.f x hx) hs)
      · rcases hx with hx | hx
        · exact (ro.there rl hx).2
        · obtain ⟨u, e⟩ := hd.h x hx
          exact ⟨u, ex.keep x u e (hd.f x hx)⟩
      · rcases z with (z | z) | z
        · exact .inr (.inl z)
        · exact .inl z
        · exact .inr (.inr z)
/-- as tG_intro, nothing held -/
theorem tG_intro0 {α β γ δ : Type} {Rl : L2.St → Hp → AP' → α → β → List Addr → Prop} {RlC : Hp → AP' → γ → δ → List Addr → Prop} {m : Ev → R α} {k : α → Ev → R γ} {Q1 : β → Hp → Prop} {QC : δ → Hp → Prop}
    (ro : RlOk Rl) (st : StO G H S σ ρ F) (h : Fin G W σ S H (Pf F) RlC QC (bnd (m ρ) k))
    (hk : ∀ a ρ1 b H1 S1 F1 T, m ρ = some (.ok a ρ1) → StO G H1 S1 σ ρ1 F1 → Hd H1 S1 F1 (fun x => x ∈ T ∨ False) → Rl σ H1 S1 a b T →
      Ext (Pf F) S H (fun x => x ∈ T ∨ Pf F1 x) S1 H1 → Fin G W σ S1 H1 (fun x => (x ∈ T ∨ False) ∨ Pf F1 x) RlC QC (k a ρ1) → Q1 b H1) : tG G W Rl m σ H Q1 :=
  tG_intro (R1 := fun _ => False) ro st Hd.none (h.weak fun x z => by rcases z with z | z; exact z.elim; exact z) fun a ρ1 b H1 S1 F1 T hm st1 hd1 rl _ ex h1 => hk a ρ1 b H1 S1 F1 T hm st1 hd1 rl ex h1
end

/-! ### the relations -/
section
variable (G : Gv)
def rO (σ : L2.St) (H : Hp) (S : AP') : Opd → V → List Addr → Prop
  | .loc i, v, T => T = [] ∧ σ[i]? = some (some v)
  | .tmp d, v, T => Ow G H S d v T
def rD (σ : L2.St) (H : Hp) (S : AP') (d : D) (v : V) (T : List Addr) : Prop := Ow G H S d v T
def rB (σ : L2.St) (H : Hp) (S : AP') (k : Bool) (c : Bool) (T : List Addr) : Prop := T = [] ∧ c = k
def rN (σ : L2.St) (H : Hp) (S : AP') (k : Option Int) (c : Option Int) (T : List Addr) : Prop := T = [] ∧ c = k
def rOs (σ : L2.St) (H : Hp) (S : AP') : List Opd → List V → List Addr → Prop
  | [], vs, T => vs = [] ∧ T = []
  | o :: os, vs, T => ∃ v r T1 T2, vs = v :: r ∧ T = T1 ++ T2 ∧ rO G σ H S o v T1 ∧ rOs σ H S os r T2 ∧ ∀ x, x ∈ T1 → x ∉ T2
end
theorem rO_ok {G : Gv} : RlOk (rO G) where
  keep := fun {σ H S a b T P P1 S1 H1} h e hs ht => by
    cases a with
    | loc i => exact h
    | tmp d => exact Ow.keep h e hs ht
  there := fun {σ H S a b T x} h hx => by
    cases a with
    | loc i => obtain ⟨rfl, _⟩ := h; cases hx
    | tmp d => exact Ow.there h hx
theorem rD_ok {G : Gv} : RlOk (rD G) := ⟨fun h e hs ht => Ow.keep h e hs ht, fun h hx => Ow.there h hx⟩
theorem rB_ok : RlOk rB := ⟨fun h _ _ _ => h, fun h hx => by rw [h.1] at hx; cases hx⟩
theorem rN_ok : RlOk rN := ⟨fun h _ _ _ => h, fun h hx => by rw [h.1] at hx; cases hx⟩
theorem rOs_keep {G : Gv} {σ : L2.St} {H H1 : Hp} {S S1 P P1 : AP'} (e : Ext P S H P1 S1 H1) (hs : ∀ x, P x → ¬ S x) : ∀ (os : List Opd) {vs : List V} {T : List Addr}, rOs G σ H S os vs T → (∀ x, x ∈ T → ¬ P x) → rOs G σ H1 S1 os vs T
  | [], vs, T, h, _ => h
  | o :: os, vs, T, h, ht => by
    obtain ⟨v, r, T1, T2, e1, e2, h1, h2, h3⟩ := h
    subst e2
    exact ⟨v, r, T1, T2, e1, rfl, rO_ok.keep h1 e hs fun x hx => ht x (List.mem_append_left _ hx), rOs_keep e hs os h2 fun x hx => ht x (List.mem_append_right _ hx), h3⟩
theorem rOs_there {G : Gv} {σ : L2.St} {H : Hp} {S : AP'} : ∀ (os : List Opd) {vs : List V} {T : List Addr} {x : Addr}, rOs G σ H S os vs T → x ∈ T → ¬ S x ∧ ∃ u, H x = some u
  | [], vs, T, x, h, hx => by rw [h.2] at hx; cases hx
  | o :: os, vs, T, x, h, hx => by
    obtain ⟨v, r, T1, T2, e1, e2, h1, h2, h3⟩ := h
    subst e2
    rcases List.mem_append.mp hx with hx | hx
    · exact rO_ok.there h1 hx
    · exact rOs_there os h2 hx
theorem rOs_ok {G : Gv} : RlOk (rOs G) := ⟨fun h e hs ht => rOs_keep e hs _ h ht, fun h hx => rOs_there _ h hx⟩

theorem _root_.L2.PE.imp {X : Cx} {e : Expr} {t t' : TE} (h : PE X e t) (f : ∀ σ H Q, t' σ H Q → t σ H Q) : PE X e t' := ⟨fun pins s σ H Q I q => h.run pins s σ H Q I (f σ H Q q)⟩
theorem _root_.L2.PT.imp {X : Cx} {e : Expr} {t t' : TT} (h : PT X e t) (f : ∀ σ H Q, t' σ H Q → t σ H Q) : PT X e t' := ⟨fun pins s σ H Q I q => h.run pins s σ H Q I (f σ H Q q)⟩
theorem _root_.L2.PA.imp {X : Cx} {e : List Expr} {t t' : TA} (h : PA X e t) (f : ∀ σ H Q, t' σ H Q → t σ H Q) : PA X e t' := ⟨fun pos pins s σ H Q I q => h.run pos pins s σ H Q I (f σ H Q q)⟩

/-! ### what a step that only lays objects gives -/
structure New (S : AP') (H : Hp) (S' : AP') (H' : Hp) (T : List Addr) : Prop where
  keep : ∀ a u, H a = some u → H' a = some u
  froz : ∀ a, S a → S' a
  back : ∀ a u, H a = some u → S' a → S a
  wf : ∀ a, S' a → ∃ u, H' a = some u
  own : ∀ a, a ∈ T → H a = none
theorem New.refl {S : AP'} {H : Hp} (wf : ∀ a, S a → ∃ u, H a = some u) : New S H S H [] := ⟨fun _ _ h => h, fun _ h => h, fun _ _ _ h => h, wf, fun _ h => by cases h⟩
theorem New.laid {S : AP'} {H : Hp} {p : Addr} {o : HO} (wf : ∀ a, S a → ∃ u, H a = some u) (hp : H p = none) : New S H S (upd H p o) [p] where
  keep := fun a u e => by rw [upd_ne (ne_of_none e hp)]; exact e
  froz := fun _ h => h
  back := fun _ _ _ h => h
  wf := fun a h => by
    obtain ⟨u, e⟩ := wf a h
    exact ⟨u, by rw [upd_ne (ne_of_none e hp)]; exact e⟩
  own := fun a h => by
    have z : a = p := by simpa using h
    rw [z]; exact hp
/-- a new frozen object -/
theorem New.laidS {S : AP'} {H : Hp} {p : Addr} {o : HO} (wf : ∀ a, S a → ∃ u, H a = some u) (hp : H p = none) : New S H (addS S [p]) (upd H p o) [] where
  keep := fun a u e => by rw [upd_ne (ne_of_none e hp)]; exact e
  froz := fun _ h => .inl h
  back := fun a u e h => by
    rcases h with h | h
    · exact h
    · have z : a = p := by simpa using h
      rw [z, hp] at e; cases e
  wf := fun a h => by
    rcases h with h | h
    · obtain ⟨u, e⟩ := wf a h
      exact ⟨u, by rw [upd_ne (ne_of_none e hp)]; exact e⟩
    · have z : a = p := by simpa using h
      rw [z]; exact ⟨o, upd_same⟩
  own := fun a h => by cases h
section
variable {G : Gv} {W : WX} {σ : L2.St} {H H' : Hp} {S S' : AP'} {ρ : Ev} {F : Fps} {R1 : AP'} {T : List Addr}
theorem New.mono (n : New S H S' H' T) : Mono S H S' H' := ⟨n.froz, fun a u _ e => n.keep a u e⟩
theorem New.sto (n : New S H S' H' T) (st : StO G H S σ ρ F) : StO G H' S' σ ρ F :=
  st.keep (P := fun _ => False) (P1 := fun x => x ∈ T) ⟨fun a u e _ => n.keep a u e, n.froz, fun a u e _ h => n.back a u e h, fun a h => .inr (n.own a h)⟩ (fun _ h => h.elim) (fun _ _ h => h.elim) n.wf
/-- an evaluation's end: what is laid at last -/
theorem Fin.laid {d : D} {Q : VK} (h : Fin G W σ S H (fun x => R1 x ∨ Pf F x) (rO G σ) Q (ret (.tmp d) ρ)) (st : StO G H S σ ρ F) {v : V} (n : New S H S' H' T) (w : Ow G H' S' d v T) : Q v H' := by
  refine h v H' S' F T ⟨fun a u e _ => n.keep a u e, n.froz, fun a u e _ h => n.back a u e h, fun a z => ?_⟩ (n.sto st) w fun x hx p => ?_
  · rcases z with z | z
    · exact .inr (n.own a z)
    · exact .inl (.inr z)
  · obtain ⟨_, u, e⟩ := st.own p
    rw [n.own x hx] at e; cases e
theorem res_loc {i : Nat} {d : D} (e : res ρ (.loc i) = some d) : ρ[i]? = some (some d) := by
  simp only [res] at e
  split at e
  · rename_i d' e2
    cases e; exact e2
  · cases e
theorem Rb.of_res (st : StO G H S σ ρ F) {o : Opd} {v : V} {d : D} (r : rO G σ H S o v T) (e : res ρ o = some d) : Rb G H S d v := by
  cases o with
  | tmp x => cases e; exact ⟨T, r⟩
  | loc i =>
    obtain ⟨v', e3, w⟩ := st.slot i d (res_loc e)
    rw [r.2] at e3; cases e3
    exact ⟨_, w⟩
end
end VP

set_option Elab.async false
set_option linter.all false
set_option maxRecDepth 100000
/-! Operators over what values hold. -/
namespace VP
open PySem PySem.Spec PyProof.Rows L2

section
variable {G : Gv} {H : Hp} {S : AP'} {v : V} {d : D}
theorem Fz.own : ∀ {d : D}, Fz G H S d v → VP.own d = false
  | .lst true _, h => by simp only [Fz] at h; exact absurd h.1 (by decide)
  | .lst false _, _ => rfl
  | .non, _ => rfl
  | .bl _, _ => rfl
  | .int _, _ => rfl
  | .str _, _ => rfl
  | .fn _, _ => rfl
  | .ty _, _ => rfl
  | .tup _, _ => rfl
  | .pr _ _, _ => rfl
  | .dct _ _, _ => rfl
  | .obj _ _ _, _ => rfl
theorem Fz.ow (h : Fz G H S d v) : Ow G H S d v [] := .of h.own h
theorem Fz.rb (h : Fz G H S d v) : Rb G H S d v := ⟨[], h.ow⟩
theorem FT.seq {a : Addr} {vs : List V} (h : FT G H S a vs) : SqT G.K H a vs := by
  rcases h with ⟨_, o, h, _⟩ | ⟨o, its, n, h1, h2, _, h4⟩
  · exact .inl (.inr ⟨o, h⟩)
  · exact .inr ⟨o, its, n, h1, h2, h4⟩
theorem FL.seq {a : Addr} {vs : List V} (h : FL G H S a vs) : SqL G.K H a vs := .inl h.2
theorem Rb.non (h : Rb G H S .non v) : v = .non := by obtain ⟨_, h⟩ := h; exact h.2
theorem Rb.bl {b : Bool} (h : Rb G H S (.bl b) v) : v = .bl b := by obtain ⟨_, h⟩ := h; exact h.2
theorem Rb.int {b : Int} (h : Rb G H S (.int b) v) : v = .int b := by obtain ⟨_, h⟩ := h; exact h.2
theorem Rb.str {b : Str} (h : Rb G H S (.str b) v) : v = .str b := by obtain ⟨_, h⟩ := h; exact h.2
theorem Rb.ty {b : String} (h : Rb G H S (.ty b) v) : v = .ty b := by obtain ⟨_, h⟩ := h; exact h.2
theorem Rb.fn {b : Str} (h : Rb G H S (.fn b) v) : ∃ a, G.mg b = some (.ref a) ∧ v = .ref a := by obtain ⟨_, h⟩ := h; exact h.2
theorem Rb.tup {xs : List D} (h : Rb G H S (.tup xs) v) : ∃ a vs, v = .ref a ∧ SqT G.K H a vs ∧ FzL G H S xs vs := by
  obtain ⟨_, _, h⟩ := h
  simp only [Fz] at h
  obtain ⟨a, vs, e, h1, h2⟩ := h
  exact ⟨a, vs, e, h1.seq, h2⟩
theorem Rb.lst {o : Bool} {xs : List D} (h : Rb G H S (.lst o xs) v) : ∃ a vs, v = .ref a ∧ SqL G.K H a vs ∧ FzL G H S xs vs := by
  obtain ⟨T, h⟩ := h
  cases o with
  | true =>
    obtain ⟨a, vs, e, _, _, h1, h2⟩ := h
    exact ⟨a, vs, e, .of h1, h2⟩
  | false =>
    obtain ⟨_, h⟩ := h
    simp only [Fz] at h
    obtain ⟨_, a, vs, e, h1, h2⟩ := h
    exact ⟨a, vs, e, h1.seq, h2⟩
theorem Rb.lstR {o : Bool} {xs : List D} (h : Rb G H S (.lst o xs) v) : ∃ a vs, v = .ref a ∧ Rd H a (.lst vs) ∧ FzL G H S xs vs := by
  obtain ⟨T, h⟩ := h
  cases o with
  | true =>
    obtain ⟨a, vs, e, _, _, h1, h2⟩ := h
    exact ⟨a, vs, e, .of h1, h2⟩
  | false =>
    obtain ⟨_, h⟩ := h
    simp only [Fz] at h
    obtain ⟨_, a, vs, e, h1, h2⟩ := h
    exact ⟨a, vs, e, h1.2, h2⟩
theorem FzL.rep {xs : List D} {vs : List V} (h : FzL G H S xs vs) : ∀ n, FzL G H S (List.replicate n xs).flatten (List.replicate n vs).flatten
  | 0 => .nil
  | n + 1 => by simp only [List.replicate_succ, List.flatten_cons]; exact h.append (FzL.rep h n)
theorem Rb.items {xs : List D} (h : Rb G H S d v) (e : itemsD d = some xs) : ∃ a vs, v = .ref a ∧ (SqL G.K H a vs ∨ SqT G.K H a vs) ∧ FzL G H S xs vs := by
  cases d with
  | tup ys => cases e; obtain ⟨a, vs, e, h1, h2⟩ := h.tup; exact ⟨a, vs, e, .inr h1, h2⟩
  | lst o ys => cases e; obtain ⟨a, vs, e, h1, h2⟩ := h.lst; exact ⟨a, vs, e, .inl h1, h2⟩
  | _ => cases e
theorem FzL.nums : ∀ {xs : List D} {vs : List V} {ns : List Int}, FzL G H S xs vs → nums xs = some ns → vs = ns.map V.int
  | [], _, ns, h, e => by cases e; rw [h.nil_eq]; rfl
  | .int i :: xs, _, ns, h, e => by
    obtain ⟨v, r, rfl, h1, h2⟩ := h.uncons
    simp only [VP.nums, Option.map_eq_some_iff] at e
    obtain ⟨ms, e1, rfl⟩ := e
    rw [FzL.nums h2 e1]
    have : v = .int i := h1
    rw [this]; rfl
  | .non :: _, _, _, _, e => by simp [VP.nums] at e
  | .bl _ :: _, _, _, _, e => by simp [VP.nums] at e
  | .str _ :: _, _, _, _, e => by simp [VP.nums] at e
  | .fn _ :: _, _, _, _, e => by simp [VP.nums] at e
  | .ty _ :: _, _, _, _, e => by simp [VP.nums] at e
  | .tup _ :: _, _, _, _, e => by simp [VP.nums] at e
  | .lst _ _ :: _, _, _, _, e => by simp [VP.nums] at e
  | .pr _ _ :: _, _, _, _, e => by simp [VP.nums] at e
  | .dct _ _ :: _, _, _, _, e => by simp [VP.nums] at e
  | .obj _ _ _ :: _, _, _, _, e => by simp [VP.nums] at e
theorem FzL.bls : ∀ {xs : List D} {vs : List V} {ns : List Bool}, FzL G H S xs vs → bls xs = some ns → vs = ns.map V.bl
  | [], _, ns, h, e => by cases e; rw [h.nil_eq]; rfl
  | .bl i :: xs, _, ns, h, e => by
    obtain ⟨v, r, rfl, h1, h2⟩ := h.uncons
    simp only [VP.bls, Option.map_eq_some_iff] at e
    obtain ⟨ms, e1, rfl⟩ := e
    rw [FzL.bls h2 e1]
    have : v = .bl i := h1
    rw [this]; rfl
  | .non :: _, _, _, _, e => by simp [VP.bls] at e
  | .int _ :: _, _, _, _, e => by simp [VP.bls] at e
  | .str _ :: _, _, _, _, e => by simp [VP.bls] at e
  | .fn _ :: _, _, _, _, e => by simp [VP.bls] at e
  | .ty _ :: _, _, _, _, e => by simp [VP.bls] at e
  | .tup _ :: _, _, _, _, e => by simp [VP.bls] at e
  | .lst _ _ :: _, _, _, _, e => by simp [VP.bls] at e
  | .pr _ _ :: _, _, _, _, e => by simp [VP.bls] at e
  | .dct _ _ :: _, _, _, _, e => by simp [VP.bls] at e
  | .obj _ _ _ :: _, _, _, _, e => by simp [VP.bls] at e
theorem FzL.ints : ∀ (ns : List Int), FzL G H S (ns.map .int) (ns.map V.int)
  | [] => .nil
  | n :: ns => .cons (by simp only [Fz]) (FzL.ints ns)
theorem FzL.mem {xs : List D} {vs : List V} {x : V} (h : FzL G H S xs vs) (hx : x ∈ vs) : ∃ y, y ∈ xs ∧ Fz G H S y x := by
  induction xs generalizing vs with
  | nil => rw [h.nil_eq] at hx; cases hx
  | cons y ys ih =>
    obtain ⟨v, r, rfl, h1, h2⟩ := h.uncons
    rcases List.mem_cons.mp hx with rfl | hx
    · exact ⟨y, List.mem_cons_self, h1⟩
    · obtain ⟨z, hz, hf⟩ := ih h2 hx
      exact ⟨z, List.mem_cons_of_mem _ hz, hf⟩
/-! a new tuple, a new list -/
theorem Fz.tup_new {xs : List D} {vs : List V} {p : Addr} {o : Obj} (h : FzL G H S xs vs) (hp : H p = none) (ho : o.dict = none) : Fz G (upd H p (.frz o (.tup vs))) (addS S [p]) (.tup xs) (.ref p) := by
  simp only [Fz]
  exact ⟨p, vs, rfl, .inl ⟨.inr (by simp), o, upd_same, ho⟩, FzL.mono ⟨fun _ z => .inl z, fun a u _ e => by rw [upd_ne (ne_of_none e hp)]; exact e⟩ _ h⟩
theorem Fz.pr_new {x y : D} {u w : V} {p : Addr} (h : Fz G H S x u) (k : Fz G H S y w) (hp : H p = none) : Fz G (upd H p (.tup [u, w])) (addS S [p]) (.pr x y) (.ref p) := by
  have m : Mono S H (addS S [p]) (upd H p (.tup [u, w])) := ⟨fun _ z => .inl z, fun a u _ e => by rw [upd_ne (ne_of_none e hp)]; exact e⟩
  simp only [Fz]
  exact ⟨p, u, w, rfl, .inr (by simp), upd_same, h.mono m, k.mono m⟩
theorem Ow.lst_new {xs : List D} {vs : List V} {p : Addr} (h : FzL G H S xs vs) (wf : ∀ a, S a → ∃ u, H a = some u) (hp : H p = none) : Ow G (upd H p (.lst vs)) S (.lst true xs) (.ref p) [p] :=
  ⟨p, vs, rfl, rfl, (fun z => by obtain ⟨u, e⟩ := wf p z; rw [hp] at e; cases e), upd_same, FzL.mono ⟨fun _ z => z, fun a u _ e => by rw [upd_ne (ne_of_none e hp)]; exact e⟩ _ h⟩
end

/-! ### data -/
mutual
theorem dat_py : ∀ (n : Nat) (d : D), dat n d = true → (toPy d).plain = true ∧ (toPy d).depth ≤ n
  | n, .non, _ => by simp [toPy, PyData.plain, PyData.depth]
  | n, .bl _, _ => by simp [toPy, PyData.plain, PyData.depth]
  | n, .int _, _ => by simp [toPy, PyData.plain, PyData.depth]
  | n, .str _, _ => by simp [toPy, PyData.plain, PyData.depth]
  | 0, .tup _, h => by simp [dat] at h
  | 0, .lst _ _, h => by simp [dat] at h
  | n, .fn _, h => by cases n <;> simp [dat] at h
  | n, .ty _, h => by cases n <;> simp [dat] at h
  | n, .pr _ _, h => by cases n <;> simp [dat] at h
  | n, .dct _ _, h => by cases n <;> simp [dat] at h
  | n, .obj _ _ _, h => by cases n <;> simp [dat] at h
  | n + 1, .tup xs, h => by
    simp only [dat] at h
    have := datL_py n xs h
    simp only [toPy, PyData.plain, PyData.depth]
    exact ⟨this.1, by omega⟩
  | n + 1, .lst _ xs, h => by
    simp only [dat] at h
    have := datL_py n xs h
    simp only [toPy, PyData.plain, PyData.depth]
    exact ⟨this.1, by omega⟩
theorem datL_py : ∀ (n : Nat) (ds : List D), datL n ds = true → PyData.plainAll (toPys ds) = true ∧ PyData.depthAll (toPys ds) ≤ n
  | n, [], _ => by simp [toPys, PyData.plainAll, PyData.depthAll]
  | n, d :: ds, h => by
    simp only [datL, Bool.and_eq_true] at h
    have h1 := dat_py n d h.1
    have h2 := datL_py n ds h.2
    simp only [toPys, PyData.plainAll, PyData.depthAll, Bool.and_eq_true]
    exact ⟨⟨h1.1, h2.1⟩, by omega⟩
end
mutual
theorem deq_py : ∀ (a b : D) (n m : Nat), dat n a = true → dat m b = true → PyData.eqv (toPy a) (toPy b) = deq a b
  | a, b, n, m, ha, hb => by
    cases a <;> cases b <;> first
      | (cases n <;> simp [dat] at ha; done)
      | (cases m <;> simp [dat] at hb; done)
      | (simp [toPy, PyData.eqv, deq]; done)
      | skip
    · rename_i xs ys
      cases n with
      | zero => simp [dat] at ha
      | succ n => cases m with
        | zero => simp [dat] at hb
        | succ m =>
          simp only [dat] at ha hb
          simp only [toPy, PyData.eqv, deq]
          exact deqL_py xs ys n m ha hb
    · rename_i o xs o2 ys
      cases n with
      | zero => simp [dat] at ha
      | succ n => cases m with
        | zero => simp [dat] at hb
        | succ m =>
          simp only [dat] at ha hb
          simp only [toPy, PyData.eqv, deq]
          exact deqL_py xs ys n m ha hb
theorem deqL_py : ∀ (xs ys : List D) (n m : Nat), datL n xs = true → datL m ys = true → PyData.eqvAll (toPys xs) (toPys ys) = deqL xs ys
  | [], [], _, _, _, _ => by simp [toPys, PyData.eqvAll, deqL]
  | [], _ :: _, _, _, _, _ => by simp [toPys, PyData.eqvAll, deqL]
  | _ :: _, [], _, _, _, _ => by simp [toPys, PyData.eqvAll, deqL]
  | x :: xs, y :: ys, n, m, ha, hb => by
    simp only [datL, Bool.and_eq_true] at ha hb
    simp only [toPys, PyData.eqvAll, deqL]
    rw [deq_py x y n m ha.1 hb.1, deqL_py xs ys n m ha.2 hb.2]
end
mutual
theorem Fz.dp {G : Gv} {H : Hp} {S : AP'} : ∀ (d : D) {v : V} (n : Nat), dat n d = true → Fz G H S d v → Dp G.K H v (toPy d)
  | .non, v, _, _, h => by rw [show v = .non from h]; exact .non
  | .bl b, v, _, _, h => by rw [show v = .bl b from h]; exact .bl b
  | .int b, v, _, _, h => by rw [show v = .int b from h]; exact .int b
  | .str b, v, _, _, h => by rw [show v = .str b from h]; exact .str b
  | .fn _, _, n, h, _ => by cases n <;> simp [dat] at h
  | .ty _, _, n, h, _ => by cases n <;> simp [dat] at h
  | .pr _ _, _, n, h, _ => by cases n <;> simp [dat] at h
  | .dct _ _, _, n, h, _ => by cases n <;> simp [dat] at h
  | .obj _ _ _, _, n, h, _ => by cases n <;> simp [dat] at h
  | .tup _, _, 0, h, _ => by simp [dat] at h
  | .lst _ _, _, 0, h, _ => by simp [dat] at h
  | .tup xs, v, n + 1, h, k => by
    obtain ⟨a, vs, rfl, h1, h2⟩ := k.rb.tup
    simp only [dat] at h
    simp only [toPy]
    exact .tup h1 (FzL.dp xs n h h2)
  | .lst o xs, v, n + 1, h, k => by
    obtain ⟨a, vs, rfl, h1, h2⟩ := k.rb.lst
    simp only [dat] at h
    simp only [toPy]
    exact .lst h1 (FzL.dp xs n h h2)
theorem FzL.dp {G : Gv} {H : Hp} {S : AP'} : ∀ (ds : List D) {vs : List V} (n : Nat), datL n ds = true → FzL G H S ds vs → DpAll G.K H vs (toPys ds)
  | [], _, _, _, h => by rw [h.nil_eq]; simp only [toPys]; exact .nil
  | d :: ds, _, n, h, k => by
    obtain ⟨v, r, rfl, h1, h2⟩ := k.uncons
    simp only [datL, Bool.and_eq_true] at h
    simp only [toPys]
    exact .cons (Fz.dp d n h.1 h1) (FzL.dp ds n h.2 h2)
end
theorem Rb.dp {G : Gv} {H : Hp} {S : AP'} {d : D} {v : V} {n : Nat} (h : dat n d = true) (r : Rb G H S d v) : Dp G.K H v (toPy d) := by
  obtain ⟨T, r⟩ := r
  cases ho : own d with
  | false => exact Fz.dp d n h (r.fz ho).2
  | true =>
    cases d with
    | lst o xs => cases n with
      | zero => simp [dat] at h
      | succ n =>
        obtain ⟨a, vs, rfl, h1, h2⟩ := Rb.lst (v := v) ⟨T, r⟩
        simp only [dat] at h
        simp only [toPy]
        exact .lst h1 (FzL.dp xs n h h2)
    | _ => cases ho
theorem Rb.reads {X : Cx} {G : Gv} {H : Hp} {S : AP'} {d : D} {v : V} {n : Nat} {pins : List (Addr × Obj)} {σ : L2.St} {s : Shared} {u : Value} (hK : X.K = G.K) (I : Inv X pins σ H s) (h : dat n d = true) (r : Rb G H S d v) (rv : RelV v u) : ∃ as, Reads s.heap u (toPy d) as :=
  Dp.reads I (toPy d) v u (by rw [hK]; exact r.dp h) rv
end VP

set_option Elab.async false
set_option linter.all false
set_option maxRecDepth 100000
set_option maxHeartbeats 1000000
/-! Operators: what the fragment's evaluation says holds of the layer's rules. -/
namespace VP
open PySem PySem.Spec PyProof.Rows L2

def Wf (S : AP') (H : Hp) : Prop := ∀ a, S a → ∃ u, H a = some u
def Ends1 (G : Gv) (S : AP') (H : Hp) (d : D) (Q : VK) : Prop := ∀ v H' S' T, New S H S' H' T → Ow G H' S' d v T → Q v H'
def rOp (G : Gv) (g : D → D → Option D) : R2 := fun x y H Q => ∃ S dx dy d, Wf S H ∧ Rb G H S dx x ∧ Rb G H S dy y ∧ g dx dy = some d ∧ Ends1 G S H d Q
def RbL (G : Gv) (H : Hp) (S : AP') : List D → List V → Prop
  | [], vs => vs = []
  | d :: ds, vs => ∃ v r, vs = v :: r ∧ Rb G H S d v ∧ RbL G H S ds r
def rCa (G : Gv) (g : List D → Option D) : List V → Hp → VK → Prop := fun vs H Q => ∃ S ds d, Wf S H ∧ RbL G H S ds vs ∧ g ds = some d ∧ Ends1 G S H d Q
section
variable {X : Cx} {G : Gv} {H : Hp} {S : AP'} {Q : VK}
theorem Ends1.int {i : Int} (wf : Wf S H) (q : Ends1 G S H (.int i) Q) : Q (.int i) H := q _ _ _ _ (.refl wf) (Fz.ow (show Fz G H S (.int i) (.int i) from rfl))
theorem Ends1.bl {i : Bool} (wf : Wf S H) (q : Ends1 G S H (.bl i) Q) : Q (.bl i) H := q _ _ _ _ (.refl wf) (Fz.ow (show Fz G H S (.bl i) (.bl i) from rfl))
theorem Ends1.str {i : Str} (wf : Wf S H) (q : Ends1 G S H (.str i) Q) : Q (.str i) H := q _ _ _ _ (.refl wf) (Fz.ow (show Fz G H S (.str i) (.str i) from rfl))
theorem Ends1.fz {d : D} {v : V} (wf : Wf S H) (q : Ends1 G S H d Q) (h : Fz G H S d v) : Q v H := q _ _ _ _ (.refl wf) h.ow
theorem Ends1.tup {xs : List D} {vs : List V} (wf : Wf S H) (q : Ends1 G S H (.tup xs) Q) (h : FzL G H S xs vs) : ∀ (p : Addr) (o : Obj), o.dict = none → H p = none → Q (.ref p) (upd H p (.frz o (.tup vs))) := fun p o ho hp =>
  q _ _ _ _ (.laidS wf hp) (Fz.tup_new h hp ho).ow
theorem Ends1.lst {xs : List D} {vs : List V} (wf : Wf S H) (q : Ends1 G S H (.lst true xs) Q) (h : FzL G H S xs vs) : ∀ p, H p = none → Q (.ref p) (upd H p (.lst vs)) := fun p hp =>
  q _ _ _ _ (.laid wf hp) (Ow.lst_new h wf hp)
theorem SqT.lenD {xs : List D} {vs : List V} (h : FzL G H S xs vs) : vs.length = xs.length := h.length.symm
theorem LIM_line : LIM = sizeLine := rfl

/-- a tuple is laid, its object known -/
theorem Inv.tnew {pins : List (Addr × Obj)} {σ : L2.St} {s : Shared} {xs : List V} {its : List Value} {t' : Nat} (I : Inv X pins σ H s) (r : Vals xs its) (z : xs.length ≤ sizeLine) :
    Inv X pins σ (upd H s.heap.objs.size (.frz { cls := .type "tuple", data := .seq its.toArray } (.tup xs))) { s with heap := s.heap.push { cls := .type "tuple", data := .seq its.toArray }, toks := t' } :=
  I.laid (fun _ _ q => Heap.get?_push_of_some _ q) (Nat.le_refl _) ⟨Heap.get?_push_size _ rfl, z, its, r, ⟨_, Heap.get?_push_size _ rfl, rfl, _, rfl⟩⟩
def tTupF (t : TA) : TE := fun σ H Q => t σ H fun xs H1 => xs.length ≤ sizeLine ∧ ∀ (p : Addr) (o : Obj), o.dict = none → H1 p = none → Q (.ref p) (upd H1 p (.frz o (.tup xs)))
theorem pe_tupF {es : List Expr} {t : TA} {x1 : Nat} {pos : Pos} (h : PA X es t) : PE X (.Tuple es x1 pos) (tTupF t) := by
  refine ⟨fun pins s σ H Q I hq => ?_⟩
  refine wpAny_Tuple_spliced (thn (h.run pos pins s σ H _ I hq) fun us s1 ⟨xs, H1, I1, r, z, q⟩ => ⟨by rw [← r.length]; exact z, ?_⟩)
  exact ⟨.ref s1.heap.objs.size, _, Inv.tnew (t' := s1.toks) I1 r z, rfl, q _ _ rfl I1.fresh⟩
theorem op_catF : OpR X (binaryOp .Add) (fun x y H Q => ∃ a b xs ys, x = .ref a ∧ y = .ref b ∧ SqT X.K H a xs ∧ SqT X.K H b ys ∧ xs.length + ys.length ≤ sizeLine ∧
    (xs = [] → Q (.ref b) H) ∧ (xs ≠ [] → ys = [] → Q (.ref a) H) ∧ (xs ≠ [] → ys ≠ [] → ∀ (p : Addr) (o : Obj), o.dict = none → H p = none → Q (.ref p) (upd H p (.frz o (.tup (xs ++ ys)))))) := by
  intro pins s σ H x y v u Q I rx ry h
  obtain ⟨a, b, xs, ys, rfl, rfl, ha, hb, hz, q0, q1, q2⟩ := h
  cases rx
  cases ry
  obtain ⟨its, r1, p1, _⟩ := I.tuple ha
  obtain ⟨its2, r2, p2, _⟩ := I.tuple hb
  by_cases hx : xs = []
  · have e : its = [] := r1.nil_iff.mpr hx
    subst e
    exact cat_tup0 p1 p2 ⟨.ref b, H, I, rfl, q0 hx⟩
  · refine HT.cat_tup p1 p2 (fun z => hx (r1.nil_iff.mp z)) (fun z => ⟨.ref a, H, I, rfl, q1 hx (r2.nil_iff.mp z)⟩) (fun z => ?_) (by rw [← r1.length, ← r2.length]; exact hz)
    exact ⟨.ref s.heap.objs.size, _, Inv.tnew (t' := s.toks) I (r1.append r2) (by rw [List.length_append]; exact hz), rfl, q2 hx (fun w => z (r2.nil_iff.mpr w)) _ _ rfl I.fresh⟩
theorem tuple_mul1 (l : Addr) (items : Array Value) (n : Nat) (dd : Option Addr) (sl : Array (Option Value)) (u : Tok) :
    Meets (Builtin.«tuple.__mul__» ⟨[.ref l, .int 1 u], []⟩) (fun _ R s => s.heap.get? l = some { cls := .type "tuple", dict := dd, data := .seq items n, slots := sl } ∧ R (.ok (.ret (Value.ref l))) s) :=
  .of_wp fun prog w A R s h => by
    obtain ⟨hp, g, d, tk, os⟩ := s
    obtain ⟨hl, h⟩ := h
    have f1 := AutoSeq1.idx_int
    have c0 : (decide ((1 : Int) < -(2 ^ 63)) || decide ((1 : Int) ≥ 2 ^ 63)) = false := by decide
    have c1 : (items.isEmpty || (1 : Int) == 1) = true := by simp
    wp_walk using wpAny_loadPart' hl
    repeat (first
      | (refine wpAny_ite_false (decide_eq_false (by rw [c0]; exact Bool.false_ne_true)) ?_; wp_walk using wpAny_loadPart' hl)
      | (refine wpAny_ite_true (decide_eq_true (by rw [c1])) ?_; wp_walk using wpAny_loadPart' hl))
    exact ⟨_, rfl, h⟩
theorem tuple_mul0 (l : Addr) (items : Array Value) (n : Nat) (dd : Option Addr) (sl : Array (Option Value)) (x : Int) (u : Tok) (hx : x ≤ 0) (c0 : (decide (x < -(2 ^ 63)) || decide (x ≥ 2 ^ 63)) = false) (c1 : (items.isEmpty || x == 1) = false) :
    Meets (Builtin.«tuple.__mul__» ⟨[.ref l, .int x u], []⟩) (fun _ R s => s.heap.get? l = some { cls := .type "tuple", dict := dd, data := .seq items n, slots := sl } ∧
      R (.ok (.ret (Value.ref s.heap.objs.size))) { s with heap := s.heap.push { cls := Value.type "tuple", data := Data.seq #[] }, toks := s.toks }) :=
  .of_wp fun prog w A R s h => by
    obtain ⟨hp, g, d, tk, os⟩ := s
    obtain ⟨hl, h⟩ := h
    have f1 := AutoSeq1.idx_int
    have c2 : (decide (x ≤ 0) || items.isEmpty) = true := by rw [decide_eq_true hx]; rfl
    wp_walk using wpAny_loadPart' hl
    repeat (first
      | (refine wpAny_ite_false (decide_eq_false (by rw [c0]; exact Bool.false_ne_true)) ?_; wp_walk using wpAny_loadPart' hl)
      | (refine wpAny_ite_false (decide_eq_false (by rw [c1]; exact Bool.false_ne_true)) ?_; wp_walk using wpAny_loadPart' hl)
      | (refine wpAny_ite_true (decide_eq_true (by rw [c2])) ?_; wp_walk using wpAny_loadPart' hl))
    exact ⟨_, rfl, h⟩
theorem op_repF : OpR X (binaryOp .Mult) (fun x y H Q => ∃ l k xs, x = .ref l ∧ y = .int k ∧ SqT X.K H l xs ∧ xs ≠ [] ∧ -1000 ≤ k ∧ k ≤ 1000 ∧ xs.length ≤ 1000 ∧ (k = 1 → Q (.ref l) H) ∧ (k ≠ 1 → ∀ (p : Addr) (o : Obj), o.dict = none → H p = none → Q (.ref p) (upd H p (.frz o (.tup (List.replicate k.toNat xs).flatten))))) := by
  intro pins s σ H x y v u Q I rx ry h
  obtain ⟨l, k, xs, rfl, rfl, hT, hne, h1, h2, hz, q1, q⟩ := h
  cases rx
  obtain ⟨t, rfl⟩ := ry
  obtain ⟨its, r, ⟨⟨cls, dd, data, sl⟩, ho, hc, n, hd⟩, hs⟩ := I.tuple hT
  simp only at hc hd
  subst hc hd
  have hle : its.length = xs.length := r.length.symm
  have hn : its ≠ [] := fun e => hne (by
    rw [e] at hle
    exact List.eq_nil_of_length_eq_zero hle.symm)
  have hi : its.toArray.isEmpty = false := by
    cases its with
    | nil => exact absurd rfl hn
    | cons a b => rfl
  have hsz0 : its.toArray.size = xs.length := by rw [List.size_toArray, hle]
  have c0 : (decide (k < -(2 ^ 63)) || decide (k ≥ 2 ^ 63)) = false := by
    rw [decide_eq_false (by omega), decide_eq_false (by omega)] <;> rfl
  by_cases hk1 : k = 1
  · subst hk1
    refine wpAny_binaryOp_repeat_ref (T := "tuple") (U := "int") (by decide) ⟨_, ho, rfl⟩ (fun s' => typeIs_int s' 1 t) noFill_tuple_mul F.fills_int_mul F.slot_int_rmul repeat_tuple F.slot_int_index.lookup
      (call_meets F.slot_int_rmul (typeIs_int s 1 t) F.entry_int_rmul (F.args_int_rmul_2 _ _) (int_rmul_tuple 1 t l its.toArray n dd sl)
        ⟨ho, rfl, ⟨_, ho, rfl⟩, call_meets F.slot_tuple_mul ⟨_, ho, rfl⟩ F.entry_tuple_mul (F.args_tuple_mul_2 _ _) (tuple_mul1 l its.toArray n dd sl t) ⟨ho, ?_⟩⟩)
    exact ⟨.ref l, H, I, rfl, q1 rfl⟩
  · have c1 : (its.toArray.isEmpty || k == 1) = false := by
      rw [hi, Bool.false_or]
      exact beq_eq_false_iff_ne.mpr hk1
    by_cases hk0 : k ≤ 0
    · refine wpAny_binaryOp_repeat_ref (T := "tuple") (U := "int") (by decide) ⟨_, ho, rfl⟩ (fun s' => typeIs_int s' k t) noFill_tuple_mul F.fills_int_mul F.slot_int_rmul repeat_tuple F.slot_int_index.lookup
        (call_meets F.slot_int_rmul (typeIs_int s k t) F.entry_int_rmul (F.args_int_rmul_2 _ _) (int_rmul_tuple k t l its.toArray n dd sl)
          ⟨ho, rfl, ⟨_, ho, rfl⟩, call_meets F.slot_tuple_mul ⟨_, ho, rfl⟩ F.entry_tuple_mul (F.args_tuple_mul_2 _ _) (tuple_mul0 l its.toArray n dd sl k t hk0 c0 c1) ⟨ho, ?_⟩⟩)
      have e0 : (List.replicate k.toNat xs).flatten = [] := by rw [show k.toNat = 0 by omega]; rfl
      have := q hk1 s.heap.objs.size { cls := .type "tuple", data := .seq ([] : List Value).toArray } rfl I.fresh
      rw [e0] at this
      exact ⟨.ref s.heap.objs.size, _, Inv.tnew (t' := s.toks) (xs := []) (its := []) I .nil (Nat.zero_le _), rfl, this⟩
    · have hm : ((its.toArray.size : Nat) : Int) * k ≤ 1000000 := by
        rw [hsz0]
        have a1 : ((xs.length : Nat) : Int) * k ≤ 1000 * k := Int.mul_le_mul_of_nonneg_right (by omega) (by omega)
        omega
      have flen : (List.replicate k.toNat its).flatten.length ≤ sizeLine := by
        rw [PyProof.Rows.lm_len_rep_flat, hle, sizeLine_eq]
        have a1 : k.toNat * xs.length ≤ 1000 * 1000 := Nat.mul_le_mul (by omega) hz
        omega
      have c2 : (decide (k ≤ 0) || its.toArray.isEmpty) = false := by
        rw [hi, Bool.or_false]
        exact decide_eq_false (by omega)
      have c4 : Builtin.Tuple.tupleTooMany (((its.toArray.size : Nat) : Int) * k) = false := by
        unfold Builtin.Tuple.tupleTooMany
        rw [sizeLine_eq]
        exact decide_eq_false (by omega)
      refine wpAny_binaryOp_repeat_ref (T := "tuple") (U := "int") (by decide) ⟨_, ho, rfl⟩ (fun s' => typeIs_int s' k t) noFill_tuple_mul F.fills_int_mul F.slot_int_rmul repeat_tuple F.slot_int_index.lookup
        (call_meets F.slot_int_rmul (typeIs_int s k t) F.entry_int_rmul (F.args_int_rmul_2 _ _) (int_rmul_tuple k t l its.toArray n dd sl)
          ⟨ho, rfl, ⟨_, ho, rfl⟩, call_meets F.slot_tuple_mul ⟨_, ho, rfl⟩ F.entry_tuple_mul (F.args_tuple_mul_2 _ _) (tuple_mulW l its.toArray n dd sl k t c0 c1 c2 (by omega) c4 (by rw [size_rep, List.size_toArray]; exact flen)) ⟨ho, ?_⟩⟩)
      rw [size_rep]
      exact ⟨.ref s.heap.objs.size, _, Inv.tnew (t' := s.toks) I (r.rep k.toNat) (by rw [← (r.rep k.toNat).length] at flen; exact flen), rfl, q hk1 _ _ rfl I.fresh⟩
def boOp : Bo → Operator
  | .add => .Add | .sub => .Sub | .mul => .Mult | .fdiv => .FloorDiv | .mod => .Mod | .pow => .Pow | .shl => .LShift | .shr => .RShift | .band => .BitAnd
/-- a list that may be read -/
theorem Inv.rdL {pins : List (Addr × Obj)} {σ : L2.St} {s : Shared} {a : Addr} {xs : List V} (I : Inv X pins σ H s) (h : Rd H a (.lst xs)) : ∃ (its : List Value) (n : Nat), Vals xs its ∧ xs.length = its.length ∧ xs.length ≤ sizeLine ∧ s.heap.get? a = some { cls := .type "list", data := .seq its.toArray n } := by
  obtain ⟨z, its, n, r, e⟩ := h.ok I.hok
  exact ⟨its, n, r, r.length, z, e⟩
/-- list + list, whoever holds them -/
theorem op_catS : OpR X (binaryOp .Add) (fun x y H Q => ∃ l b xs zs, x = .ref l ∧ y = .ref b ∧ Rd H l (.lst xs) ∧ Rd H b (.lst zs) ∧ xs.length + zs.length ≤ sizeLine ∧ ∀ p, H p = none → Q (.ref p) (upd H p (.lst (xs ++ zs)))) := by
  intro pins s σ H x y v u Q I rx ry h
  obtain ⟨l, b, xs, zs, rfl, rfl, hH, hB, hz, q⟩ := h
  cases rx
  cases ry
  obtain ⟨its, n, r, hl, _, e⟩ := Inv.rdL I hH
  obtain ⟨its2, n2, r2, hl2, _, e2⟩ := Inv.rdL I hB
  refine PySem.P.add_list e e2 ?_ (by rw [List.size_toArray, List.size_toArray]; omega)
  have ea : its.toArray ++ its2.toArray = (its ++ its2).toArray := by simp
  rw [ea]
  exact ⟨.ref _, _, I.lnew (t' := s.toks) (r.append r2) (by rw [List.length_append]; omega), rfl, q _ I.fresh⟩
/-- list * int -/
theorem op_repS : OpR X (binaryOp .Mult) (fun x y H Q => ∃ l k xs, x = .ref l ∧ y = .int k ∧ Rd H l (.lst xs) ∧ -(2 ^ 63) ≤ k ∧ k < 2 ^ 63 ∧ xs.length * k.toNat ≤ sizeLine ∧ ∀ p, H p = none → Q (.ref p) (upd H p (.lst (List.replicate k.toNat xs).flatten))) := by
  intro pins s σ H x y v u Q I rx ry h
  obtain ⟨l, k, xs, rfl, rfl, hH, h1, h2, hz, q⟩ := h
  cases rx
  obtain ⟨t, rfl⟩ := ry
  obtain ⟨its, n, r, hl, _, e⟩ := Inv.rdL I hH
  have hlen : its.toArray.size * k.toNat ≤ sizeLine := by rw [List.size_toArray, ← hl]; exact hz
  have hcap : ¬ its.toArray.size * k.toNat > (2 ^ 63 - 1) / 8 := by
    have : (sizeLine : Nat) ≤ (2 ^ 63 - 1) / 8 := by decide
    omega
  have hfit : ¬ (!Builtin.List.listFitsIndex k) = true := by
    rw [fitsIndex_both h1 h2]
    exact Bool.false_ne_true
  have hlong : ¬ Builtin.List.listTooLong (its.toArray.size * k.toNat) = true := by
    rw [notLongL hlen]
    exact Bool.false_ne_true
  have hnew : List.foldl (fun x1 x2 => x1 ++ x2) #[] (List.replicate (if its.toArray.isEmpty = true then 0 else k.toNat) its.toArray) = (List.replicate k.toNat its).flatten.toArray := by
    have f0 : ∀ m : Nat, List.foldl (fun x1 x2 => x1 ++ x2) #[] (List.replicate m its.toArray) = (List.replicate m its).flatten.toArray := fun m => by
      have := foldl_rep its m []
      rw [List.nil_append] at this
      exact this
    rw [f0]
    cases its with
    | nil => simp
    | cons a r' => rw [if_neg (by simp)]
  refine wpAny_binaryOp_repeat_ref (T := "list") (U := "int") (by decide) ⟨_, e, rfl⟩ (fun s' => typeIs_int s' k t) noFill_list_mul F.fills_int_mul F.slot_int_rmul repeat_list F.slot_int_index.lookup
    (call_meets F.slot_int_rmul (typeIs_int s k t) F.entry_int_rmul (F.args_int_rmul_2 _ _) (int___rmul___int_list k t l its.toArray n)
      ⟨e, rfl, ⟨_, e, rfl⟩, call_meets F.slot_list_mul ⟨_, e, rfl⟩ F.entry_list_mul (F.args_list_mul_2 _ _) (AutoListH.list___mul___list_int_3 l its.toArray n k t hfit hcap hlong) ⟨e, ?_⟩⟩)
  rw [hnew]
  exact ⟨.ref _, _, I.lnew (t' := s.toks) (r.rep k.toNat) (by rw [PyProof.Rows.lm_len_rep_flat, Nat.mul_comm]; exact hz), rfl, q _ I.fresh⟩
theorem fd_pos {i j : Int} (h : 0 < j) : i.fdiv j = i / j := Int.fdiv_eq_ediv_of_nonneg _ (Int.le_of_lt h)
theorem log_lt {n k : Nat} (hk : 0 < k) (h : n < 2 ^ k) : n.log2 < k := by
  by_cases h0 : n = 0
  · subst h0; simpa using hk
  · exact (Nat.log2_lt h0).mpr h
theorem op_binD (hK : X.K = G.K) : ∀ o, OpR X (binaryOp (boOp o)) (rOp G (binD o)) := by
  intro o pins s σ H x y v u Q I rx ry h
  obtain ⟨S, dx, dy, d, wf, bx, by', e, q⟩ := h
  cases o with
  | add =>
    cases dx <;> cases dy <;> try (simp [binD] at e; done)
    · simp only [binD, Option.some.injEq] at e; subst e
      cases bx.int; cases by'.int
      exact op_add pins s σ H _ _ v u Q I rx ry ⟨_, _, rfl, rfl, q.int wf⟩
    · simp only [binD] at e
      split at e
      · rename_i hl; cases e
        cases bx.str; cases by'.str
        exact op_add_str pins s σ H _ _ v u Q I rx ry ⟨_, _, rfl, rfl, hl, q.str wf⟩
      · cases e
    · rename_i xs ys
      simp only [binD] at e
      split at e
      · rename_i hl; cases e
        obtain ⟨a, vs, rfl, h1, f1⟩ := bx.tup
        obtain ⟨b, us, rfl, h2, f2⟩ := by'.tup
        rw [← hK] at h1 h2
        refine op_catF pins s σ H _ _ v u Q I rx ry ⟨_, _, _, _, rfl, rfl, h1, h2, by rw [← f1.length, ← f2.length]; exact hl, fun e => ?_, fun e1 e2 => ?_, fun _ _ => q.tup wf (f1.append f2)⟩
        · have : xs = [] := by
            cases xs with
            | nil => rfl
            | cons x r => rw [e] at f1; have := f1.length; simp at this
          subst this
          obtain ⟨T, r⟩ := by'
          exact q.fz wf (r.fz rfl).2
        · have : ys = [] := by
            cases ys with
            | nil => rfl
            | cons x r => rw [e2] at f2; have := f2.length; simp at this
          subst this
          obtain ⟨T, r⟩ := bx
          rw [List.append_nil] at q
          exact q.fz wf (r.fz rfl).2
      · cases e
    · simp only [binD] at e
      split at e
      · rename_i hl; cases e
        obtain ⟨a, vs, rfl, h1, f1⟩ := bx.lstR
        obtain ⟨b, us, rfl, h2, f2⟩ := by'.lstR
        exact op_catS pins s σ H _ _ v u Q I rx ry ⟨_, _, _, _, rfl, rfl, h1, h2, by rw [← f1.length, ← f2.length]; exact hl, q.lst wf (f1.append f2)⟩
      · cases e
  | sub =>
    cases dx <;> cases dy <;> try (simp [binD] at e; done)
    simp only [binD, Option.some.injEq] at e; subst e
    cases bx.int; cases by'.int
    exact op_sub pins s σ H _ _ v u Q I rx ry ⟨_, _, rfl, rfl, q.int wf⟩
  | mul =>
    cases dx <;> cases dy <;> try (simp [binD] at e; done)
    · rename_i i j
      simp only [binD] at e
      split at e
      · rename_i hl; cases e
        cases bx.int; cases by'.int
        simp only [mulOk, Bool.or_eq_true, Bool.and_eq_true, decide_eq_true_eq] at hl
        rcases hl with hl | hl
        · exact op_mul pins s σ H _ _ v u Q I rx ry ⟨_, _, rfl, rfl, hl, q.int wf⟩
        · exact op_mulW pins s σ H _ _ v u Q I rx ry ⟨_, _, rfl, rfl, wide_mul hl.1 hl.2 (by omega) (by omega) (by omega), q.int wf⟩
      · cases e
    · simp only [binD] at e
      split at e
      · rename_i hl; cases e
        obtain ⟨a, vs, rfl, h1, f1⟩ := bx.tup
        cases by'.int
        rw [← hK] at h1
        obtain ⟨l1, l2, l3, l4⟩ := hl
        have hne : vs ≠ [] := fun z => by
          subst z
          have := f1.length
          exact l1 (List.eq_nil_of_length_eq_zero this)
        refine op_repF pins s σ H _ _ v u Q I rx ry ⟨_, _, _, rfl, rfl, h1, hne, l2, l3, by rw [← f1.length]; exact l4, fun ek => ?_, fun _ => q.tup wf (f1.rep _)⟩
        subst ek
        simp only [Int.toNat_one, List.replicate_one, List.flatten_cons, List.flatten_nil, List.append_nil] at q
        obtain ⟨T, k⟩ := id bx
        exact q.fz wf (k.fz rfl).2
      · cases e
    · simp only [binD, repD, Option.map_eq_some_iff] at e
      obtain ⟨ys, e, rfl⟩ := e
      split at e
      · rename_i hl; cases e
        obtain ⟨a, vs, rfl, h1, f1⟩ := bx.lstR
        cases by'.int
        obtain ⟨l1, l2, l3⟩ := hl
        exact op_repS pins s σ H _ _ v u Q I rx ry ⟨_, _, _, rfl, rfl, h1, by omega, by omega, by rw [← f1.length]; exact l3, q.lst wf (f1.rep _)⟩
      · cases e
  | fdiv =>
    cases dx <;> cases dy <;> try (simp [binD] at e; done)
    simp only [binD] at e
    cases bx.int; cases by'.int
    split at e
    · rename_i hl; cases e
      refine op_fdivW pins s σ H _ _ v u Q I rx ry ⟨_, _, rfl, rfl, ⟨hl.1, log_lt (by omega) hl.2⟩, ?_⟩
      rw [fd_pos hl.1] at q
      exact q.int wf
    · split at e
      · rename_i hl; cases e
        exact op_fdivN pins s σ H _ _ v u Q I rx ry ⟨_, _, rfl, rfl, hl, q.int wf⟩
      · cases e
  | mod =>
    cases dx <;> cases dy <;> try (simp [binD] at e; done)
    simp only [binD] at e
    split at e
    · rename_i hl; cases e
      cases bx.int; cases by'.int
      exact op_modN pins s σ H _ _ v u Q I rx ry ⟨_, _, rfl, rfl, hl, q.int wf⟩
    · cases e
  | pow =>
    cases dx <;> cases dy <;> try (simp [binD] at e; done)
    simp only [binD] at e
    split at e
    · rename_i hl; cases e
      cases bx.int; cases by'.int
      exact op_pow pins s σ H _ _ v u Q I rx ry ⟨_, _, rfl, rfl, hl, q.int wf⟩
    · cases e
  | shl =>
    cases dx <;> cases dy <;> try (simp [binD] at e; done)
    simp only [binD] at e
    split at e
    · rename_i hl; cases e
      cases bx.int; cases by'.int
      exact op_shl pins s σ H _ _ v u Q I rx ry ⟨_, _, rfl, rfl, hl, q.int wf⟩
    · cases e
  | shr =>
    cases dx <;> cases dy <;> try (simp [binD] at e; done)
    simp only [binD] at e
    split at e
    · rename_i hl; cases e
      cases bx.int; cases by'.int
      exact op_shr pins s σ H _ _ v u Q I rx ry ⟨_, _, rfl, rfl, hl, q.int wf⟩
    · cases e
  | band =>
    cases dx <;> cases dy <;> try (simp [binD] at e; done)
    simp only [binD, Option.some.injEq] at e; subst e
    cases bx.int; cases by'.int
    exact op_and pins s σ H _ _ v u Q I rx ry ⟨_, _, rfl, rfl, q.int wf⟩
end
end VP

set_option Elab.async false
set_option linter.all false
set_option maxRecDepth 100000
set_option maxHeartbeats 1000000
/-! Comparisons, items, slices, truth, built-ins. -/
namespace VP
open PySem PySem.Spec PyProof.Rows L2

def coOp : Co → CmpOp
  | .eq => .Eq | .ne => .NotEq | .lt => .Lt | .le => .LtE | .gt => .Gt | .ge => .GtE | .is => .Is | .isn => .IsNot | .inn => .In | .nin => .NotIn
section
variable {X : Cx} {G : Gv} {H : Hp} {S : AP'} {Q : VK}
theorem datL_any {n m : Nat} {xs : List D} {d : D} (hx : datL n xs = true) (hd : dat m d = true) : ((toPys xs).any fun y => PyData.eqv y (toPy d)) = xs.any fun y => deq y d := by
  induction xs with
  | nil => simp [toPys]
  | cons x xs ih =>
    simp only [datL, Bool.and_eq_true] at hx
    simp only [toPys, List.any_cons]
    rw [deq_py x d n m hx.1 hd, ih hx.2]
theorem datL_count {n m : Nat} {xs : List D} {d : D} (hx : datL n xs = true) (hd : dat m d = true) : ((toPys xs).countP fun y => PyData.eqv y (toPy d)) = xs.countP fun y => deq y d := by
  induction xs with
  | nil => simp [toPys]
  | cons x xs ih =>
    simp only [datL, Bool.and_eq_true] at hx
    simp only [toPys, List.countP_cons]
    rw [deq_py x d n m hx.1 hd, ih hx.2]
theorem op_cmpD (hK : X.K = G.K) (hu : X.A.units + 200 < cLine) : ∀ c, OpR X (compareOp (coOp c)) (rOp G fun a b => (cmpD c a b).map .bl) := by
  intro c pins s σ H x y v u Q I rx ry h
  obtain ⟨S, dx, dy, d, wf, bx, by', e, q⟩ := h
  simp only [Option.map_eq_some_iff] at e
  obtain ⟨k, e, rfl⟩ := e
  have fin : EP X pins σ Q (.bool k) s := ⟨.bl k, H, I, rfl, q.bl wf⟩
  have room : ∀ {da db : D}, dat DP da = true → dat DP db = true → X.A.units + min (toPy da).depth (toPy db).depth < cLine := fun {da db} h1 h2 => by
    have := (dat_py _ _ h1).2
    have : DP = 60 := rfl
    omega
  cases c with
  | eq =>
    simp only [cmpD] at e
    split at e
    · rename_i hh; cases e
      simp only [Bool.and_eq_true] at hh
      obtain ⟨as, r1⟩ := bx.reads hK I hh.1 rx
      obtain ⟨bs, r2⟩ := by'.reads hK I hh.2 ry
      exact SeqAt.eq_plain r1 r2 (dat_py _ _ hh.1).1 (dat_py _ _ hh.2).1 (room hh.1 hh.2) (by rw [deq_py _ _ _ _ hh.1 hh.2]; exact fin)
    · cases e
  | ne =>
    simp only [cmpD] at e
    split at e
    · rename_i hh; cases e
      simp only [Bool.and_eq_true] at hh
      obtain ⟨as, r1⟩ := bx.reads hK I hh.1 rx
      obtain ⟨bs, r2⟩ := by'.reads hK I hh.2 ry
      exact SeqAt.ne_plain r1 r2 (dat_py _ _ hh.1).1 (dat_py _ _ hh.2).1 (room hh.1 hh.2) (by rw [deq_py _ _ _ _ hh.1 hh.2]; exact fin)
    · cases e
  | lt =>
    cases dx <;> cases dy <;> try (simp [cmpD] at e; done)
    · simp only [cmpD, Option.some.injEq] at e; subst e
      cases bx.int; cases by'.int
      exact op_lt pins s σ H _ _ v u Q I rx ry ⟨_, _, rfl, rfl, q.bl wf⟩
    · simp only [cmpD] at e
      split at e
      · rename_i hh; cases e
        simp only [Bool.and_eq_true] at hh
        obtain ⟨as, r1⟩ := bx.reads hK I hh.1.1 rx
        obtain ⟨bs, r2⟩ := by'.reads hK I hh.1.2 ry
        exact PySem.W.lt_data r1 r2 hh.2 (by simp [toPy]) (room hh.1.1 hh.1.2) fin
      · cases e
  | le =>
    cases dx <;> cases dy <;> try (simp [cmpD] at e; done)
    simp only [cmpD, Option.some.injEq] at e; subst e
    cases bx.int; cases by'.int
    exact op_le pins s σ H _ _ v u Q I rx ry ⟨_, _, rfl, rfl, q.bl wf⟩
  | gt =>
    cases dx <;> cases dy <;> try (simp [cmpD] at e; done)
    simp only [cmpD, Option.some.injEq] at e; subst e
    cases bx.int; cases by'.int
    exact op_gt pins s σ H _ _ v u Q I rx ry ⟨_, _, rfl, rfl, q.bl wf⟩
  | ge =>
    cases dx <;> cases dy <;> try (simp [cmpD] at e; done)
    simp only [cmpD, Option.some.injEq] at e; subst e
    cases bx.int; cases by'.int
    exact op_ge pins s σ H _ _ v u Q I rx ry ⟨_, _, rfl, rfl, q.bl wf⟩
  | is =>
    cases dy <;> try (simp [cmpD] at e; done)
    cases by'.non
    simp only [cmpD, Option.some.injEq] at e
    refine op_isN pins s σ H _ _ v u Q I rx ry ⟨rfl, ?_⟩
    have : decide (x = V.non) = k := by
      rw [← e]
      cases dx with
      | non => rw [bx.non]; rfl
      | bl b => rw [bx.bl]; simp
      | int b => rw [bx.int]; simp
      | str b => rw [bx.str]; simp
      | ty b => rw [bx.ty]; simp
      | fn b => obtain ⟨a, _, z⟩ := bx.fn; rw [z]; simp
      | tup b => obtain ⟨a, vs, z, _⟩ := bx.tup; rw [z]; simp
      | pr b c => obtain ⟨T, _, z⟩ := bx; simp only [Fz] at z; obtain ⟨a, u, w, z, _⟩ := z; rw [z]; simp
      | lst o b => obtain ⟨a, vs, z, _⟩ := bx.lst; rw [z]; simp
      | dct o b => obtain ⟨T, _, z⟩ := bx; simp only [Fz] at z
      | obj o C b => obtain ⟨T, _, z⟩ := bx; simp only [Fz] at z
    rw [this]
    exact q.bl wf
  | isn =>
    cases dy <;> try (simp [cmpD] at e; done)
    cases by'.non
    simp only [cmpD, Option.some.injEq] at e
    refine op_notN pins s σ H _ _ v u Q I rx ry ⟨rfl, ?_⟩
    have : (!decide (x = V.non)) = k := by
      rw [← e]
      cases dx with
      | non => rw [bx.non]; rfl
      | bl b => rw [bx.bl]; simp
      | int b => rw [bx.int]; simp
      | str b => rw [bx.str]; simp
      | ty b => rw [bx.ty]; simp
      | fn b => obtain ⟨a, _, z⟩ := bx.fn; rw [z]; simp
      | tup b => obtain ⟨a, vs, z, _⟩ := bx.tup; rw [z]; simp
      | pr b c => obtain ⟨T, _, z⟩ := bx; simp only [Fz] at z; obtain ⟨a, u, w, z, _⟩ := z; rw [z]; simp
      | lst o b => obtain ⟨a, vs, z, _⟩ := bx.lst; rw [z]; simp
      | dct o b => obtain ⟨T, _, z⟩ := bx; simp only [Fz] at z
      | obj o C b => obtain ⟨T, _, z⟩ := bx; simp only [Fz] at z
    rw [this]
    exact q.bl wf
  | inn =>
    cases dy with
    | tup xs =>
      simp only [cmpD] at e
      split at e
      · rename_i hh; cases e
        simp only [Bool.and_eq_true] at hh
        have hx : dat (DP + 1) (.tup xs) = true := hh.2
        obtain ⟨as, r1⟩ := bx.reads hK I hh.1 rx
        obtain ⟨bs, r2⟩ := by'.reads hK I hx ry
        refine SeqAt.in_tuple_data r2 r1 (datL_py _ _ hh.2).1 (dat_py _ _ hh.1).1 ?_ (by
          have e1 := datL_any hh.2 hh.1
          rw [e1]; exact fin)
        have := (dat_py _ _ hh.1).2
        have : DP = 60 := rfl
        omega
      · cases e
    | lst o xs =>
      simp only [cmpD] at e
      split at e
      · rename_i hh; cases e
        simp only [Bool.and_eq_true] at hh
        have hx : dat (DP + 1) (.lst o xs) = true := hh.2
        obtain ⟨as, r1⟩ := bx.reads hK I hh.1 rx
        obtain ⟨bs, r2⟩ := by'.reads hK I hx ry
        refine SeqAt.in_list_data r2 r1 (datL_py _ _ hh.2).1 (dat_py _ _ hh.1).1 ?_ (by
          have e1 := datL_any hh.2 hh.1
          rw [e1]; exact fin)
        have := (dat_py _ _ hh.1).2
        have : DP = 60 := rfl
        omega
      · cases e
    | str z =>
      cases dx with
      | str c =>
        simp only [cmpD, Option.some.injEq] at e
        cases bx.str; cases by'.str
        exact op_in_str pins s σ H _ _ v u Q I rx ry ⟨_, _, rfl, rfl, by rw [e]; exact q.bl wf⟩
      | _ => simp [cmpD] at e
    | _ => simp [cmpD] at e
  | nin =>
    cases dy with
    | tup xs =>
      simp only [cmpD] at e
      split at e
      · rename_i hh; cases e
        simp only [Bool.and_eq_true] at hh
        have hx : dat (DP + 1) (.tup xs) = true := hh.2
        obtain ⟨as, r1⟩ := bx.reads hK I hh.1 rx
        obtain ⟨bs, r2⟩ := by'.reads hK I hx ry
        refine SeqAt.notIn_tuple_data r2 r1 (datL_py _ _ hh.2).1 (dat_py _ _ hh.1).1 ?_ (by
          have e1 := datL_any hh.2 hh.1
          rw [e1]; exact fin)
        have := (dat_py _ _ hh.1).2
        have : DP = 60 := rfl
        omega
      · cases e
    | lst o xs =>
      simp only [cmpD] at e
      split at e
      · rename_i hh; cases e
        simp only [Bool.and_eq_true] at hh
        have hx : dat (DP + 1) (.lst o xs) = true := hh.2
        obtain ⟨as, r1⟩ := bx.reads hK I hh.1 rx
        obtain ⟨bs, r2⟩ := by'.reads hK I hx ry
        refine SeqAt.notIn_list_data r2 r1 (datL_py _ _ hh.2).1 (dat_py _ _ hh.1).1 ?_ (by
          have e1 := datL_any hh.2 hh.1
          rw [e1]; exact fin)
        have := (dat_py _ _ hh.1).2
        have : DP = 60 := rfl
        omega
      · cases e
    | str z =>
      cases dx with
      | str c =>
        simp only [cmpD, Option.some.injEq] at e
        cases bx.str; cases by'.str
        exact op_notIn_str pins s σ H _ _ v u Q I rx ry ⟨_, _, rfl, rfl, by rw [e]; exact q.bl wf⟩
      | _ => simp [cmpD] at e
    | _ => simp [cmpD] at e

/-! items -/
theorem atI_fz {xs : List D} {vs : List V} {i : Int} {d : D} (h : FzL G H S xs vs) (e : atI xs i = some d) : ∃ v, atI vs i = some v ∧ Fz G H S d v := by
  unfold atI at e ⊢
  rw [← h.length]
  cases hj : ixN xs.length i with
  | none => rw [hj] at e; cases e
  | some j =>
    rw [hj] at e
    exact h.get e
theorem ix_D (hK : X.K = G.K) : IxR X (rOp G ixD) := by
  intro value slice pins s σ H x y v u Q I rx ry h hs
  obtain ⟨S, dx, dy, d, wf, bx, by', e, q⟩ := h
  cases dx <;> cases dy <;> try (simp [ixD] at e; done)
  · simp only [ixD] at e
    split at e
    · rename_i hl
      simp only [Option.map_eq_some_iff] at e
      obtain ⟨c, e, rfl⟩ := e
      cases bx.str; cases by'.int
      exact ix_str value slice pins s σ H _ _ v u Q I rx ry ⟨_, _, _, rfl, rfl, hl, e, q.str wf⟩ hs
    · cases e
  · simp only [ixD] at e
    obtain ⟨a, vs, rfl, h1, f1⟩ := bx.tup
    cases by'.int
    obtain ⟨w, e1, e2⟩ := atI_fz f1 e
    rw [← hK] at h1
    exact ix_tup value slice pins s σ H _ _ v u Q I rx ry ⟨_, _, _, _, rfl, rfl, h1, e1, q.fz wf e2⟩ hs
  · simp only [ixD] at e
    obtain ⟨a, vs, rfl, h1, f1⟩ := bx.lst
    cases by'.int
    obtain ⟨w, e1, e2⟩ := atI_fz f1 e
    rw [← hK] at h1
    exact ix_list value slice pins s σ H _ _ v u Q I rx ry ⟨_, _, _, _, rfl, rfl, h1, e1, q.fz wf e2⟩ hs
theorem cutD_fz {xs : List D} {vs : List V} {lo hi : Option Int} (h : FzL G H S xs vs) : FzL G H S (cutD xs lo hi) (cutV vs lo hi) := by
  unfold cutD cutV
  rw [← h.length]
  exact (h.drop _).take _
theorem sl_tupF : SlR X (fun x lo hi H Q => ∃ a xs, x = .ref a ∧ SqT X.K H a xs ∧ (HT.sIx xs.length 0 lo = 0 ∧ HT.sIx xs.length xs.length hi = xs.length → Q (.ref a) H) ∧
    (¬ (HT.sIx xs.length 0 lo = 0 ∧ HT.sIx xs.length xs.length hi = xs.length) → ∀ (p : Addr) (o : Obj), o.dict = none → H p = none → Q (.ref p) (upd H p (.frz o (.tup (cutV xs lo hi)))))) := by
  intro pins s σ H x v vl vu lo hi sl Q I rx hs pl pu h
  obtain ⟨a, xs, rfl, hx, q1, q2⟩ := h
  cases rx
  obtain ⟨its, r, ht, hz⟩ := I.tuple hx
  have hlen : its.toArray.size = xs.length := by rw [List.size_toArray]; exact r.length.symm
  by_cases hw : HT.sIx xs.length 0 lo = 0 ∧ HT.sIx xs.length xs.length hi = xs.length
  · refine ⟨"tuple", _, PyProof.Rows.slot_tuple_getitem.lookup, ht.typeIs, ?_⟩
    exact getItem_tuple_whole ht hs pl pu (by rw [hlen]; exact hw) ⟨.ref a, H, I, rfl, q1 hw⟩
  · refine ⟨"tuple", _, PyProof.Rows.slot_tuple_getitem.lookup, ht.typeIs, ?_⟩
    refine HT.getItem_tuple_cut ht hs pl pu (by rw [hlen]; exact hw) ?_ (by rw [hlen]; exact hz)
    rw [hlen]
    exact ⟨.ref s.heap.objs.size, _, Inv.tnew (t' := s.toks) I ((r.drop (HT.sIx xs.length 0 lo)).take (HT.sIx xs.length xs.length hi - HT.sIx xs.length 0 lo)) (Nat.le_trans (cutV_length xs lo hi) hz), rfl, q2 hw _ _ rfl I.fresh⟩
def rSl (G : Gv) : V → Option Int → Option Int → Hp → VK → Prop := fun x lo hi H Q => ∃ S dx d, Wf S H ∧ Rb G H S dx x ∧ slcD dx lo hi = some d ∧ Ends1 G S H d Q
theorem sl_D (hK : X.K = G.K) : SlR X (rSl G) := by
  intro pins s σ H x v vl vu lo hi sl Q I rx hsl p1 p2 h
  obtain ⟨S, dx, d, wf, bx, e, q⟩ := h
  cases dx <;> try (simp [slcD] at e; done)
  · simp only [slcD] at e
    split at e
    · rename_i hl; cases e
      cases bx.str
      exact sl_str pins s σ H _ v vl vu lo hi sl Q I rx hsl p1 p2 ⟨_, rfl, hl, q.str wf⟩
    · cases e
  · rename_i xs
    simp only [slcD, Option.some.injEq] at e; subst e
    obtain ⟨a, vs, rfl, h1, f1⟩ := id bx.tup
    rw [← hK] at h1
    refine sl_tupF pins s σ H _ v vl vu lo hi sl Q I rx hsl p1 p2 ⟨_, _, rfl, h1, fun e => ?_, fun _ => q.tup wf (cutD_fz f1)⟩
    have : cutD xs lo hi = xs := by
      unfold cutD
      rw [← f1.length] at e
      rw [e.1, e.2]; simp
    rw [this] at q
    obtain ⟨T, r⟩ := bx
    exact q.fz wf (r.fz rfl).2
  · simp only [slcD, Option.some.injEq] at e; subst e
    obtain ⟨a, vs, rfl, h1, f1⟩ := bx.lst
    rw [← hK] at h1
    exact sl_list pins s σ H _ v vl vu lo hi sl Q I rx hsl p1 p2 ⟨_, _, rfl, h1, q.lst wf (cutD_fz f1)⟩
/-! truth -/
theorem tru_D {d : D} {v : V} {k : Bool} (hK : X.K = G.K) (b : Rb G H S d v) (e : trD d = some k) : TruV X.K v H k := by
  cases d <;> simp only [trD, Option.some.injEq] at e
  · cases b.non; exact e.symm
  · cases b.bl; exact e.symm
  · cases b.int; exact e.symm
  · split at e
    · rename_i hl; cases b.str
      simp only [Option.some.injEq] at e
      exact ⟨hl, e.symm⟩
    · cases e
  · cases e
  · cases e
  · obtain ⟨a, vs, rfl, h1, f1⟩ := b.tup
    rw [← hK] at h1
    refine .inr (.inl ⟨vs, h1, ?_⟩)
    rw [← e]
    cases f1' : vs with
    | nil => rw [f1'] at f1; have := f1.length; rw [List.eq_nil_of_length_eq_zero this]; rfl
    | cons _ _ => rw [f1'] at f1; have := f1.length; cases hx : ‹List D› with
      | nil => rw [hx] at this; cases this
      | cons _ _ => rfl
  · obtain ⟨a, vs, rfl, h1, f1⟩ := b.lst
    rw [← hK] at h1
    refine .inl ⟨vs, h1, ?_⟩
    rw [← e]
    cases f1' : vs with
    | nil => rw [f1'] at f1; have := f1.length; rw [List.eq_nil_of_length_eq_zero this]; rfl
    | cons _ _ => rw [f1'] at f1; have := f1.length; cases hx : ‹List D› with
      | nil => rw [hx] at this; cases this
      | cons _ _ => rfl
  · cases e
  · cases e
  · cases e
end
end VP

set_option Elab.async false
set_option linter.all false
set_option maxRecDepth 100000
set_option maxHeartbeats 1000000
/-! Built-ins and methods. -/
namespace VP
open PySem PySem.Spec PyProof.Rows L2

def biN : Bi → String
  | .len => "len" | .tuple => "tuple" | .list => "list" | .int => "int" | .abs => "abs" | .all => "all" | .any => "any" | .sum => "sum" | .isinst => "isinstance"
  | .max1 => "max" | .max2 => "max" | .min1 => "min" | .min2 => "min" | .sorted => "sorted" | .str => "str" | _ => "?"
def biV : Bi → Value
  | .tuple => .type "tuple" | .list => .type "list" | .int => .type "int" | .str => .type "str" | b => .builtin (biN b)
section
variable {X : Cx} {G : Gv} {H : Hp} {S : AP'} {Q : VK}
theorem call_tupF : CallR X (.type "tuple") (fun xs H Q => ∃ p ys, xs = [.ref p] ∧ ((SqL X.K H p ys ∧ ∀ (l : Addr) (o : Obj), o.dict = none → H l = none → Q (.ref l) (upd H l (.frz o (.tup ys)))) ∨ (SqT X.K H p ys ∧ Q (.ref p) H))) := by
  intro pins s σ H xs us Q I r h
  obtain ⟨p, ys, rfl, h⟩ := h
  obtain ⟨u, rfl, rx⟩ := vals1 r
  cases rx
  rcases h with ⟨hq, q⟩ | ⟨hq, q⟩
  · obtain ⟨its, r', pl, hz⟩ := I.list hq
    have hlen := r'.length
    refine call_tuple_list pl.isList (fun h' kp => ?_) (by simp only [List.size_toArray] <;> omega)
    have I1 : Inv X pins σ H { s with heap := h' } := I.kept (t' := s.toks) kp
    exact ⟨.ref h'.objs.size, _, Inv.tnew (t' := s.toks) I1 r' hz, rfl, q _ _ rfl (I1.hok.fresh (Nat.le_refl _))⟩
  · obtain ⟨its, r', pl, hz⟩ := I.tuple hq
    exact call_tuple_same pl ⟨.ref p, H, I, rfl, q⟩
/-- isinstance(x, T), T a tuple of classes whose object is known -/
theorem call_isiF : CallR X (.builtin "isinstance") (fun xs H Q => ∃ (x : V) (tp : Addr) (ob : Obj) (cs : List V) (t : Value) (us : List Value) (b : Bool), xs = [x, .ref tp] ∧ H tp = some (.frz ob (.tup cs)) ∧ Paired ClsV cs us ∧ TyX X.K H x t ∧ PySem.W.kitAny X.K t us = some b ∧ Q (.bl b) H) := by
  intro pins s σ H xs us Q I r h
  obtain ⟨x, tp, ob, cs, t, ws, b, rfl, hT, k, ty, e, q⟩ := h
  obtain ⟨u1, u2, rfl, r1, r2⟩ := vals2 r
  cases (show u2 = Value.ref tp from r2)
  obtain ⟨P, Z, p, hx⟩ := kit_of I r1 ty
  obtain ⟨_, _, its, rv, o, h1, h2, n, h3⟩ := (show ObjOk X.prog X.w H s.heap tp (.frz ob (.tup cs)) from I.hok tp _ hT)
  have e3 := ClsV.all k rv
  subst e3
  obtain ⟨oc, od, dt, sl⟩ := o
  simp only at h2 h3
  subst h2 h3
  exact PySem.W.kia_tup Z I.kIn p h1 e hx fun tk => ⟨.bl b, H, I.tok tk, rfl, q⟩
theorem RbL.one {d : D} {vs : List V} (h : RbL G H S [d] vs) : ∃ v, vs = [v] ∧ Rb G H S d v := by
  obtain ⟨v, r, rfl, h1, h2⟩ := h
  rw [show r = [] from h2]; exact ⟨v, rfl, h1⟩
theorem RbL.two {d e : D} {vs : List V} (h : RbL G H S [d, e] vs) : ∃ v w, vs = [v, w] ∧ Rb G H S d v ∧ Rb G H S e w := by
  obtain ⟨v, r, rfl, h1, h2⟩ := h
  obtain ⟨w, rfl, h3⟩ := RbL.one h2
  exact ⟨v, w, rfl, h1, h3⟩
theorem foldl_max : ∀ (xs : List Int) (x : Int), xs.foldl max x ∈ x :: xs ∧ ∀ y, y ∈ x :: xs → y ≤ xs.foldl max x
  | [], x => ⟨by simp, fun y hy => by simp at hy; simp [hy]⟩
  | z :: xs, x => by
    obtain ⟨h1, h2⟩ := foldl_max xs (max x z)
    simp only [List.foldl_cons]
    refine ⟨?_, fun y hy => ?_⟩
    · rcases List.mem_cons.mp h1 with h | h
      · rw [h]
        by_cases hz : x ≤ z
        · rw [Int.max_eq_right hz]; simp
        · rw [Int.max_eq_left (by omega)]; simp
      · simp [h]
    · have h3 := h2 (max x z) (by simp)
      rcases List.mem_cons.mp hy with rfl | hy
      · have : y ≤ max y z := Int.le_max_left _ _
        omega
      · rcases List.mem_cons.mp hy with rfl | hy
        · have : y ≤ max x y := Int.le_max_right _ _
          omega
        · exact h2 y (by simp [hy])
theorem foldl_min : ∀ (xs : List Int) (x : Int), xs.foldl min x ∈ x :: xs ∧ ∀ y, y ∈ x :: xs → xs.foldl min x ≤ y
  | [], x => ⟨by simp, fun y hy => by simp at hy; simp [hy]⟩
  | z :: xs, x => by
    obtain ⟨h1, h2⟩ := foldl_min xs (min x z)
    simp only [List.foldl_cons]
    refine ⟨?_, fun y hy => ?_⟩
    · rcases List.mem_cons.mp h1 with h | h
      · rw [h]
        by_cases hz : x ≤ z
        · rw [Int.min_eq_left hz]; simp
        · rw [Int.min_eq_right (by omega)]; simp
      · simp [h]
    · have h3 := h2 (min x z) (by simp)
      rcases List.mem_cons.mp hy with rfl | hy
      · have : min y z ≤ y := Int.min_le_left _ _
        omega
      · rcases List.mem_cons.mp hy with rfl | hy
        · have : min x y ≤ y := Int.min_le_right _ _
          omega
        · exact h2 y (by simp [hy])
theorem toPys_ints : ∀ {xs : List D} {ns : List Int}, nums xs = some ns → toPys xs = ns.map .int ∧ datL 0 xs = true ∧ xs = ns.map .int
  | [], ns, e => by cases e; simp [toPys, datL]
  | .int i :: xs, ns, e => by
    simp only [nums, Option.map_eq_some_iff] at e
    obtain ⟨ms, e1, rfl⟩ := e
    obtain ⟨h1, h2, h3⟩ := toPys_ints e1
    refine ⟨?_, ?_, ?_⟩
    · simp only [toPys, toPy, List.map_cons, h1]
    · simp only [datL, dat, h2, Bool.and_self]
    · rw [h3]; rfl
  | .non :: _, _, e => by simp [nums] at e
  | .bl _ :: _, _, e => by simp [nums] at e
  | .str _ :: _, _, e => by simp [nums] at e
  | .fn _ :: _, _, e => by simp [nums] at e
  | .ty _ :: _, _, e => by simp [nums] at e
  | .tup _ :: _, _, e => by simp [nums] at e
  | .lst _ _ :: _, _, e => by simp [nums] at e
  | .pr _ _ :: _, _, e => by simp [nums] at e
  | .dct _ _ :: _, _, e => by simp [nums] at e
  | .obj _ _ _ :: _, _, e => by simp [nums] at e
theorem alike_int (a b : Int) : PySem.W.alike (.int a) (.int b) = true := rfl
theorem alikeAll_int (ns : List Int) : PySem.W.AlikeAll (ns.map PyData.int) := by
  refine ⟨fun x hx y hy => ?_, fun x hx => ?_⟩
  · obtain ⟨a, _, rfl⟩ := List.mem_map.mp hx
    obtain ⟨b, _, rfl⟩ := List.mem_map.mp hy
    rfl
  · obtain ⟨a, _, rfl⟩ := List.mem_map.mp hx
    exact fun z => nomatch z
theorem reads_int {h : Heap} {v : Value} {n : Int} {as : List Addr} (r : Reads h v (.int n) as) : ∃ t, v = .int n t := by
  cases r with
  | int _ t => exact ⟨t, rfl⟩
theorem tyx_D {d : D} {v : V} {t : String} (hK : X.K = G.K) (b : Rb G H S d v) (e : tyn d = some t) : TyX X.K H v (.type t) := by
  cases d <;> simp only [tyn, Option.some.injEq, reduceCtorEq] at e
  · subst e; cases b.non; exact .base .non
  · subst e; cases b.bl; exact .base (.bl _)
  · subst e; cases b.int; exact .base (.int _)
  · subst e; cases b.str; exact .base (.str _)
  · subst e
    obtain ⟨T, _, k⟩ := b
    simp only [Fz] at k
    obtain ⟨a, vs, rfl, ⟨_, o, k, _⟩ | ⟨o, its, n, k1, k2, _⟩, _⟩ := k
    · exact .fTuple k
    · rw [← hK] at k1; exact .kTuple k1 k2
  · subst e
    obtain ⟨a, vs, rfl, k | ⟨o, k⟩, _⟩ := b.lstR
    · exact .base (.lst k)
    · exact .base (.frz k)
theorem tyB_kit {a b : String} {r : Bool} {d : D} (hd : tyn d = some a) (h : tyB a b = some r) : kitB a b = some r := by
  have ha : a = "NoneType" ∨ a = "bool" ∨ a = "int" ∨ a = "str" ∨ a = "tuple" ∨ a = "list" := by
    cases d <;> simp only [tyn, Option.some.injEq, reduceCtorEq] at hd <;> simp [← hd]
  have hb : b = "int" ∨ b = "bool" ∨ b = "tuple" ∨ b = "list" ∨ b = "str" := by
    unfold tyB at h
    split at h
    · exact .inl ‹_›
    · split at h
      · rename_i h1; exact .inr h1
      · cases h
  rcases ha with rfl | rfl | rfl | rfl | rfl | rfl <;> rcases hb with rfl | rfl | rfl | rfl | rfl <;> (rw [← h]; decide +kernel)
theorem isT_D {d : D} {t : String} (hd : tyn d = some t) : ∀ (ts : List D) {vs : List V} {b : Bool}, FzL G H S ts vs → isAny d ts = some b → ∃ us, Paired ClsV vs us ∧ PySem.W.kitAny X.K (.type t) us = some b
  | [], vs, b, h, e => by
    rw [h.nil_eq]
    simp only [isAny, List.foldr_nil, Option.some.injEq] at e
    exact ⟨[], .nil, by rw [← e]; exact kitAny_nil⟩
  | c :: cs, vs, b, h, e => by
    obtain ⟨v, r, rfl, h1, h2⟩ := h.uncons
    simp only [isAny, List.foldr_cons] at e
    cases c with
    | ty x =>
      simp only at e
      cases e1 : tyIs d x with
      | none => rw [e1] at e; cases e
      | some k =>
        rw [e1] at e
        cases e2 : isAny d cs with
        | none =>
          simp only [isAny] at e2
          simp only [e2] at e; cases e
        | some k2 =>
          have e2' := e2
          simp only [isAny] at e2'
          simp only [e2', Option.some.injEq] at e
          obtain ⟨us, p, q⟩ := isT_D hd cs h2 e2
          rw [show v = V.ty x from h1]
          have k1 : kitB t x = some k := tyB_kit hd (by simpa [tyIs, hd] using e1)
          refine ⟨.type x :: us, .cons (.ty x) p, kitAny_cons (kit_ty k1) (fun z => ?_) (fun z => ?_)⟩
          · rw [q, ← e, z]; rfl
          · rw [← e, z]; rfl
    | _ => simp at e

theorem sortI_perm (ns : List Int) : (sortI ns).Perm ns := List.mergeSort_perm ns _
theorem sortI_le (ns : List Int) : (sortI ns).Pairwise (· ≤ ·) :=
  (List.pairwise_mergeSort (le := fun a b : Int => decide (a ≤ b)) (fun a b c h1 h2 => by simp only [decide_eq_true_eq] at *; omega) (fun a b => by simp only [Bool.or_eq_true, decide_eq_true_eq]; omega) ns).imp fun h => of_decide_eq_true h
theorem sortI_eq {ns ms : List Int} (h : ms.Perm ns) (hs : ms.Pairwise (· ≤ ·)) : ms = sortI ns :=
  (h.trans (sortI_perm ns).symm).eq_of_pairwise (fun x y _ _ h1 h2 => Int.le_antisymm h1 h2) hs (sortI_le ns)
theorem ca_D (hK : X.K = G.K) (hc : X.calm = true) (hh : X.A.handled = none) (hu : X.A.units + 200 < cLine) : ∀ b, CallR X (biV b) (rCa G (biD b)) := by
  intro b pins s σ H vs us Q I r h
  obtain ⟨S, ds, d, wf, bl, e, q⟩ := h
  have one : ∀ {d1 : D} {v : V}, ds = [d1] → ∃ v, vs = [v] ∧ Rb G H S d1 v := fun e => by rw [e] at bl; exact bl.one
  unfold biD at e
  split at e
  · obtain ⟨v, rfl, b1⟩ := bl.one
    cases e
    obtain ⟨a, ws, rfl, h1, f1⟩ := b1.tup
    rw [← hK] at h1
    refine call_len_seq pins s σ H _ us Q I r ⟨_, _, rfl, .inr h1, ?_⟩
    rw [← f1.length]; exact q.int wf
  · obtain ⟨v, rfl, b1⟩ := bl.one
    cases e
    obtain ⟨a, ws, rfl, h1, f1⟩ := b1.lst
    rw [← hK] at h1
    refine call_len_seq pins s σ H _ us Q I r ⟨_, _, rfl, .inl h1, ?_⟩
    rw [← f1.length]; exact q.int wf
  · obtain ⟨v, rfl, b1⟩ := bl.one
    split at e
    · rename_i hl; cases e
      cases b1.str
      exact call_len_str pins s σ H _ us Q I r ⟨_, rfl, hl, q.int wf⟩
    · cases e
  · obtain ⟨v, rfl, b1⟩ := bl.one
    cases e
    obtain ⟨a, ws, rfl, h1, f1⟩ := id b1.tup
    rw [← hK] at h1
    obtain ⟨T, k⟩ := b1
    exact call_tupF pins s σ H _ us Q I r ⟨_, _, rfl, .inr ⟨h1, q.fz wf (k.fz rfl).2⟩⟩
  · obtain ⟨v, rfl, b1⟩ := bl.one
    cases e
    obtain ⟨a, ws, rfl, h1, f1⟩ := b1.lst
    rw [← hK] at h1
    exact call_tupF pins s σ H _ us Q I r ⟨_, _, rfl, .inl ⟨h1, q.tup wf f1⟩⟩
  · obtain ⟨v, rfl, b1⟩ := bl.one
    cases e
    obtain ⟨a, ws, rfl, h1, f1⟩ := b1.tup
    rw [← hK] at h1
    exact call_list_of pins s σ H _ us Q I r ⟨_, _, rfl, .inr h1, q.lst wf f1⟩
  · obtain ⟨v, rfl, b1⟩ := bl.one
    cases e
    obtain ⟨a, ws, rfl, h1, f1⟩ := b1.lst
    rw [← hK] at h1
    exact call_list_of pins s σ H _ us Q I r ⟨_, _, rfl, .inl h1, q.lst wf f1⟩
  · obtain ⟨v, rfl, b1⟩ := bl.one
    cases e
    cases b1.int
    exact call_int1 pins s σ H _ us Q I r (.inl ⟨_, rfl, q.int wf⟩)
  · obtain ⟨v, rfl, b1⟩ := bl.one
    cases e
    cases b1.bl
    exact call_int1 pins s σ H _ us Q I r (.inr ⟨_, rfl, q.int wf⟩)
  · obtain ⟨v, rfl, b1⟩ := bl.one
    cases e
    cases b1.int
    exact call_abs pins s σ H _ us Q I r ⟨_, rfl, q.int wf⟩
  · obtain ⟨v, rfl, b1⟩ := bl.one
    simp only [Option.map_eq_some_iff] at e
    obtain ⟨bs, e, rfl⟩ := e
    obtain ⟨a, ws, rfl, h1, f1⟩ := b1.lst
    rw [← hK, f1.bls e] at h1
    exact cr_all hc pins s σ H _ us Q I r ⟨_, _, rfl, h1, q.bl wf⟩
  · obtain ⟨v, rfl, b1⟩ := bl.one
    simp only [Option.map_eq_some_iff] at e
    obtain ⟨bs, e, rfl⟩ := e
    obtain ⟨a, ws, rfl, h1, f1⟩ := b1.lst
    rw [← hK, f1.bls e] at h1
    exact cr_any hc pins s σ H _ us Q I r ⟨_, _, rfl, h1, q.bl wf⟩
  · obtain ⟨v, rfl, b1⟩ := bl.one
    simp only [Option.map_eq_some_iff] at e
    obtain ⟨ns, e, rfl⟩ := e
    obtain ⟨a, ws, rfl, h1, f1⟩ := b1.lst
    rw [← hK, f1.nums e] at h1
    exact cr_sum hc pins s σ H _ us Q I r ⟨_, _, rfl, h1, q.int wf⟩
  · rename_i xs
    obtain ⟨v, rfl, b1⟩ := bl.one
    simp only [Option.map_eq_some_iff] at e
    obtain ⟨ns, e, rfl⟩ := e
    obtain ⟨a, ws, rfl, h1, f1⟩ := id b1.tup
    rw [← hK, f1.nums e] at h1
    obtain ⟨its, rv, p1, _⟩ := I.tuple h1
    obtain ⟨u1, rfl, ru⟩ := vals1 r
    cases ru
    obtain ⟨xs', ex⟩ := (rv.ints).allInts.items
    have hn : numsOf (intItems xs').toList = ns := by rw [← ex]; exact (rv.ints).numsOf
    rw [nums_intItems] at hn
    have p2 : s.heap.IsTuple a (intItems xs') := by rw [← ex]; exact p1
    refine PySem.W.ktm_sumG hh p2 fun h' tk t' hk => ?_
    rw [preSum_eq, List.take_of_length_le (by simp), hn]
    exact ⟨.int _, H, I.kept hk, ⟨t', rfl⟩, q.int wf⟩
  · -- max of a tuple
    rename_i xs
    obtain ⟨v, rfl, b1⟩ := bl.one
    simp only [Option.map_eq_some_iff, Option.bind_eq_some_iff] at e
    obtain ⟨m, ⟨ns, e, em⟩, rfl⟩ := e
    obtain ⟨a, ws, rfl, h1, f1⟩ := id b1.tup
    rw [← hK, f1.nums e] at h1
    obtain ⟨its, rv, p1, _⟩ := I.tuple h1
    obtain ⟨u1, rfl, ru⟩ := vals1 r
    cases ru
    cases ns with
    | nil => cases em
    | cons x xs' =>
      simp only [maxI, Option.some.injEq] at em
      have ed := (toPys_ints e)
      have hd : DpAll X.K H ((x :: xs').map V.int) ((x :: xs').map PyData.int) := by
        have := FzL.dp _ 0 ed.2.1 f1
        rw [ed.1, f1.nums e, ← hK] at this; exact this
      obtain ⟨as, rr⟩ := Dp.readsAll I _ _ its hd rv
      refine PySem.W.max_tuple_data hh p1 rr (alikeAll_int (x :: xs')) ?_ fun i v h' tk bs _ rd hk => ?_
      · have := (datL_py _ _ ed.2.1).2
        rw [ed.1] at this
        have : PyData.depthAll ((x :: xs').map PyData.int) ≤ 0 := this
        show X.A.units + 1 + PyData.depthAll ((x :: xs').map PyData.int) < cLine
        omega
      · rw [PySem.W.maxD_ints, em] at rd
        obtain ⟨t, rfl⟩ := reads_int rd
        exact ⟨.int m, H, I.kept hk, ⟨t, rfl⟩, q.int wf⟩
  · -- max of a list
    obtain ⟨v, rfl, b1⟩ := bl.one
    simp only [Option.map_eq_some_iff, Option.bind_eq_some_iff] at e
    obtain ⟨m, ⟨ns, e, em⟩, rfl⟩ := e
    obtain ⟨a, ws, rfl, h1, f1⟩ := b1.lst
    rw [← hK, f1.nums e] at h1
    cases ns with
    | nil => cases em
    | cons x xs =>
      simp only [maxI, Option.some.injEq] at em
      refine cr_max hc pins s σ H _ us Q I r ⟨_, _, rfl, h1, by simp, fun m' h2 h3 => ?_⟩
      obtain ⟨k1, k2⟩ := foldl_max xs x
      have : m' = m := by
        have a1 := h3 m (em ▸ k1)
        have a2 := k2 m' h2
        omega
      rw [this]; exact q.int wf
  · rename_i xs
    obtain ⟨v, rfl, b1⟩ := bl.one
    simp only [Option.map_eq_some_iff, Option.bind_eq_some_iff] at e
    obtain ⟨m, ⟨ns, e, em⟩, rfl⟩ := e
    obtain ⟨a, ws, rfl, h1, f1⟩ := id b1.tup
    rw [← hK, f1.nums e] at h1
    obtain ⟨its, rv, p1, _⟩ := I.tuple h1
    obtain ⟨u1, rfl, ru⟩ := vals1 r
    cases ru
    cases ns with
    | nil => cases em
    | cons x xs' =>
      simp only [minI, Option.some.injEq] at em
      have ed := (toPys_ints e)
      have hd : DpAll X.K H ((x :: xs').map V.int) ((x :: xs').map PyData.int) := by
        have := FzL.dp _ 0 ed.2.1 f1
        rw [ed.1, f1.nums e, ← hK] at this; exact this
      obtain ⟨as, rr⟩ := Dp.readsAll I _ _ its hd rv
      refine PySem.W.min_tuple_data hh p1 rr (alikeAll_int (x :: xs')) ?_ fun i v h' tk bs _ rd hk => ?_
      · have := (datL_py _ _ ed.2.1).2
        rw [ed.1] at this
        have : PyData.depthAll ((x :: xs').map PyData.int) ≤ 0 := this
        show X.A.units + 1 + PyData.depthAll ((x :: xs').map PyData.int) < cLine
        omega
      · rw [PySem.W.minD_ints, em] at rd
        obtain ⟨t, rfl⟩ := reads_int rd
        exact ⟨.int m, H, I.kept hk, ⟨t, rfl⟩, q.int wf⟩
  · obtain ⟨v, rfl, b1⟩ := bl.one
    simp only [Option.map_eq_some_iff, Option.bind_eq_some_iff] at e
    obtain ⟨m, ⟨ns, e, em⟩, rfl⟩ := e
    obtain ⟨a, ws, rfl, h1, f1⟩ := b1.lst
    rw [← hK, f1.nums e] at h1
    cases ns with
    | nil => cases em
    | cons x xs =>
      simp only [minI, Option.some.injEq] at em
      refine cr_min hc pins s σ H _ us Q I r ⟨_, _, rfl, h1, by simp, fun m' h2 h3 => ?_⟩
      obtain ⟨k1, k2⟩ := foldl_min xs x
      have : m' = m := by
        have a1 := h3 m (em ▸ k1)
        have a2 := k2 m' h2
        omega
      rw [this]; exact q.int wf
  · obtain ⟨v, w, rfl, b1, b2⟩ := bl.two
    cases e
    cases b1.int; cases b2.int
    exact call_max2 hc pins s σ H _ us Q I r ⟨_, _, rfl, q.int wf⟩
  · obtain ⟨v, w, rfl, b1, b2⟩ := bl.two
    cases e
    cases b1.int; cases b2.int
    exact call_min2 hc pins s σ H _ us Q I r ⟨_, _, rfl, q.int wf⟩
  · rename_i d1 t
    obtain ⟨v, w, rfl, b1, b2⟩ := bl.two
    simp only [Option.map_eq_some_iff] at e
    obtain ⟨k, e, rfl⟩ := e
    cases t with
    | ty t =>
      simp only [isInst, tyIs, Option.bind_eq_some_iff] at e
      obtain ⟨tn, e1, e2⟩ := e
      cases b2.ty
      exact call_isi pins s σ H _ us Q I r ⟨_, _, _, _, _, rfl, .ty t, tyx_D hK b1 e1, kit_ty (tyB_kit e1 e2), q.bl wf⟩
    | tup ts =>
      have ht : ∃ t, tyn d1 = some t := by
        cases ts with
        | nil => simp [isInst] at e
        | cons c cs =>
          simp only [isInst, isAny, List.foldr_cons] at e
          cases c <;> simp only [reduceCtorEq] at e
          rename_i x
          cases e1 : tyIs d1 x with
          | none => rw [e1] at e; cases e
          | some k =>
            simp only [tyIs, Option.bind_eq_some_iff] at e1
            obtain ⟨t, e1, _⟩ := e1
            exact ⟨t, e1⟩
      obtain ⟨t, ht⟩ := ht
      obtain ⟨T, _, k2⟩ := b2
      simp only [Fz] at k2
      obtain ⟨a, vs, rfl, k2, f2⟩ := k2
      obtain ⟨us', p, kk⟩ := isT_D (X := X) ht ts f2 (show isAny d1 ts = some k by cases ts with | nil => simp [isInst] at e | cons c cs => exact e)
      rcases k2 with ⟨_, ob, k2, _⟩ | ⟨o, its, n, z1, z2, _, z3, z4, z5⟩
      · exact call_isiF pins s σ H _ us Q I r ⟨_, _, _, _, _, _, _, rfl, k2, p, tyx_D hK b1 ht, kk, q.bl wf⟩
      · obtain ⟨oc, od, dt, sl⟩ := o
        simp only at z2 z3
        subst z2 z3
        have := ClsV.all p z5
        subst this
        exact call_isiK pins s σ H _ us Q I r ⟨_, _, _, its.toList, _, _, _, _, rfl, by rw [hK]; exact z1, tyx_D hK b1 ht, kk, q.bl wf⟩
    | _ => simp [isInst] at e
  · obtain ⟨v, rfl, b1⟩ := bl.one
    split at e
    · rename_i hl; cases e
      cases b1.int
      exact call_str_int pins s σ H _ us Q I r ⟨_, rfl, hl, q.str wf⟩
    · cases e
  · obtain ⟨v, rfl, b1⟩ := bl.one
    simp only [Option.map_eq_some_iff] at e
    obtain ⟨ns, e, rfl⟩ := e
    obtain ⟨a, ws, rfl, h1, f1⟩ := b1.lst
    rw [← hK, f1.nums e] at h1
    refine cr_sortedI pins s σ H _ us Q I r ⟨_, _, rfl, h1, fun ns' p h2 h3 hp => ?_⟩
    have : ns' = sortI ns := sortI_eq h2 h3
    rw [this]
    exact q.lst wf (FzL.ints _) p hp
  · cases e

/-! ### methods of built-in types -/
/-- the value is of a built-in type, with no dict of its own -/
def TyS (X : Cx) (T : String) (x : V) (H : Hp) : Prop := ∀ (pins : List (Addr × Obj)) (σ : L2.St) (s : Shared) (v : Value), Inv X pins σ H s → RelV x v → s.TypeIs v T ∧ ∀ a, v = .ref a → ∃ ob, s.heap.get? a = some ob ∧ ob.dict = none
def tBMF (X : Cx) (T : String) (r : V → List V → Hp → VK → Prop) (to : TE) (t : TA) : TE := fun σ H Q => to σ H fun x H1 => TyS X T x H1 ∧ t σ H1 fun xs H2 => r x xs H2 Q
theorem pe_bmF0 {o : Expr} {to : TE} {name : Str} {apos cpos : Pos} {T id : String} {r : V → List V → Hp → VK → Prop} (pa : PlainAttrs T) (slot : Slot T name id) (hty : typeOf (.builtin id) = pure (.type "method_descriptor")) (hm : MtR X id r) (ho : PE X o to)
    (hbase : attributeBase o name X.env (eval o X.env) = eval o X.env) (hline : (apos.endLine == cpos.line) = true) : PE X (.Call (.Attribute o name apos) [] [] cpos) (tBMF X T r to tNil) := by
  refine ⟨fun pins s σ H Q I h => ?_⟩
  refine wpAny_Call_method0_late hbase hline (thn (ho.run pins s σ H _ I h) fun v s1 ⟨x, H1, I1, r1, ty, q1⟩ => ?_)
  obtain ⟨h1, h2⟩ := ty pins σ s1 v I1 r1
  exact ⟨T, id, pa, slot, hty, h1, h2, Calls.callWith_builtin rfl (PySem.evalArgs_none (hm pins s1 σ H1 x [] v [] Q I1 r1 .nil q1))⟩
theorem pe_bmF {o e : Expr} {es : List Expr} {to : TE} {t : TA} {name : Str} {apos cpos : Pos} {T id : String} {r : V → List V → Hp → VK → Prop} (pa : PlainAttrs T) (slot : Slot T name id) (hty : typeOf (.builtin id) = pure (.type "method_descriptor")) (hm : MtR X id r) (ho : PE X o to) (ha : PA X (e :: es) t)
    (hbase : attributeBase o name X.env (eval o X.env) = eval o X.env)
    (hfew : ((backTo cpos (starEach (e :: es) X.env)).all (fun x => !x.1) && (backToKw cpos (keywordEach [] X.env)).all (fun x => x.1.isSome)
      && decide ((e :: es).length + ([] : List Keyword).length + (if ([] : List Keyword).isEmpty then 0 else 1) < 30)) = true)
    (hline : (apos.endLine == cpos.line) = true) (hs : starEach (e :: es) X.env = (false, eval e X.env) :: starEach es X.env) (hplain : (backTo cpos (starEach es X.env)).any (·.1) = false) :
    PE X (.Call (.Attribute o name apos) (e :: es) [] cpos) (tBMF X T r to t) := by
  refine ⟨fun pins s σ H Q I h => ?_⟩
  refine wpAny_Call_method_late hbase hfew hline rfl (thn (ho.run pins s σ H _ I h) fun v s1 ⟨x, H1, I1, r1, ty, q1⟩ => ?_)
  obtain ⟨h1, h2⟩ := ty pins σ s1 v I1 r1
  refine ⟨T, id, pa, slot, hty, h1, h2, ?_⟩
  have hA := ha.run cpos pins s1 σ H1 _ I1 q1
  rw [hs] at hA ⊢
  refine Calls.callWith_builtin (by show (false || (backTo cpos (starEach es X.env)).any (·.1)) = false; rw [hplain] <;> rfl) (Calls.evalArgs_plain ?_)
  exact thn hA fun us s2 ⟨vs, H2, I2, r2, q2⟩ => hm pins s2 σ H2 x vs v us Q I2 r1 r2 q2
theorem tyS_lst {o : Bool} {xs : List D} {x : V} (b : Rb G H S (.lst o xs) x) : TyS X "list" x H := fun pins σ s v I rv => by
  obtain ⟨a, vs, rfl, h, _⟩ := b.lstR
  cases rv
  obtain ⟨its, n, _, _, _, e⟩ := Inv.rdL I h
  exact ⟨⟨_, e, rfl⟩, fun a' z => by cases z; exact ⟨_, e, rfl⟩⟩
theorem tyS_tup {xs : List D} {x : V} (hK : X.K = G.K) (b : Rb G H S (.tup xs) x) : TyS X "tuple" x H := fun pins σ s v I rv => by
  obtain ⟨T, _, k⟩ := b
  simp only [Fz] at k
  obtain ⟨a, vs, rfl, ⟨_, o, h, hd⟩ | ⟨o, its, n, h1, h2, h3, _⟩, _⟩ := k
  · cases rv
    obtain ⟨h1, _, its, _, o2, h2, h3, _⟩ := (show ObjOk X.prog X.w H s.heap a (.frz o (.tup vs)) from I.hok a _ h)
    have e : o = o2 := by rw [h1] at h2; exact Option.some.inj h2
    exact ⟨⟨o2, h2, h3⟩, fun a' z => by cases z; exact ⟨o, h1, hd⟩⟩
  · cases rv
    rw [← hK] at h1
    exact ⟨⟨o, I.kIn a o h1, h2⟩, fun a' z => by cases z; exact ⟨o, I.kIn a o h1, h3⟩⟩
theorem tyS_str {z : Str} {x : V} (b : Rb G H S (.str z) x) : TyS X "str" x H := fun pins σ s v I rv => by
  cases b.str
  obtain ⟨t, rfl⟩ := rv
  exact ⟨typeIs_str s z t, fun _ e => nomatch e⟩

def rMe (G : Gv) (m : Me) (T : String × String) : V → List V → Hp → VK → Prop := fun x vs H Q => ∃ S dx ds d, meTy m dx = some T ∧ Wf S H ∧ Rb G H S dx x ∧ RbL G H S ds vs ∧ meD m dx ds = some d ∧ Ends1 G S H d Q
theorem Rb.readsL {pins : List (Addr × Obj)} {σ : L2.St} {s : Shared} {xs : List D} {vs : List V} {its : List Value} (hK : X.K = G.K) (I : Inv X pins σ H s) (h : datL DP xs = true) (f : FzL G H S xs vs) (rv : Vals vs its) : ∃ as, ReadsAll s.heap its (toPys xs) as :=
  Dp.readsAll I (toPys xs) vs its (by rw [hK]; exact FzL.dp xs DP h f) rv
theorem toPys_get : ∀ (xs : List D) (m : Nat), (toPys xs)[m]? = (xs[m]?).map toPy
  | [], m => by simp [toPys]
  | x :: xs, 0 => by simp [toPys]
  | x :: xs, m + 1 => by simp only [toPys, List.getElem?_cons_succ]; exact toPys_get xs m
theorem datL_get {n : Nat} : ∀ {xs : List D} {m : Nat} {d : D}, datL n xs = true → xs[m]? = some d → dat n d = true
  | [], m, d, _, e => by simp at e
  | x :: xs, 0, d, h, e => by
    simp only [datL, Bool.and_eq_true] at h
    simp at e; subst e; exact h.1
  | x :: xs, m + 1, d, h, e => by
    simp only [datL, Bool.and_eq_true] at h
    exact datL_get h.2 (by simpa using e)
theorem shaped_of {n : Nat} {d : D} (h : dat n d = true) (hn : n ≤ 62) (hc : (toPy d).canLay0 = true) : SeqAt.shaped (toPy d) = true := by
  obtain ⟨h1, h2⟩ := dat_py n d h
  unfold SeqAt.shaped
  rw [hc, Bool.true_and]
  exact decide_eq_true (by omega)
theorem mt_D (hK : X.K = G.K) (hu : X.A.units + 200 < cLine) : ∀ m T, MtR X T.2 (rMe G m T) := by
  intro m T pins s σ H x vs v us Q I rx rv h
  obtain ⟨S, dx, ds, d, eT, wf, b, bl, e, q⟩ := h
  unfold meD at e
  split at e
  · rename_i xs d1
    cases eT
    split at e
    · rename_i hh; cases e
      simp only [Bool.and_eq_true] at hh
      obtain ⟨w, rfl, b1⟩ := bl.one
      obtain ⟨u1, rfl, ru⟩ := vals1 rv
      obtain ⟨a, ws, rfl, h1, f1⟩ := b.tup
      cases rx
      rw [← hK] at h1
      obtain ⟨its, rvs, p1, _⟩ := I.tuple h1
      obtain ⟨as, r1⟩ := Rb.readsL hK I hh.2 f1 rvs
      obtain ⟨bs, r2⟩ := b1.reads hK I hh.1 ru
      refine SeqAt.count_tuple_data (vs := its.toArray) p1 r1 r2 (datL_py _ _ hh.2).1 (dat_py _ _ hh.1).1 ?_ ?_
      · have := (dat_py _ _ hh.1).2
        have : DP = 60 := rfl
        omega
      · rw [datL_count hh.2 hh.1]
        exact ⟨.int _, H, I.tok _, ⟨_, rfl⟩, q.int wf⟩
    · cases e
  · rename_i o xs d1
    cases eT
    split at e
    · rename_i hh; cases e
      simp only [Bool.and_eq_true] at hh
      obtain ⟨w, rfl, b1⟩ := bl.one
      obtain ⟨u1, rfl, ru⟩ := vals1 rv
      obtain ⟨a, ws, rfl, h1, f1⟩ := b.lst
      cases rx
      rw [← hK] at h1
      obtain ⟨its, rvs, p1, _⟩ := I.list h1
      obtain ⟨as, r1⟩ := Rb.readsL hK I hh.2 f1 rvs
      obtain ⟨bs, r2⟩ := b1.reads hK I hh.1 ru
      refine SeqAt.count_list_data (vs := its.toArray) p1.isList r1 r2 (datL_py _ _ hh.2).1 (dat_py _ _ hh.1).1 ?_ ?_
      · have := (dat_py _ _ hh.1).2
        have : DP = 60 := rfl
        omega
      · rw [datL_count hh.2 hh.1]
        exact ⟨.int _, H, I.tok _, ⟨_, rfl⟩, q.int wf⟩
    · cases e
  · rename_i o xs d1
    cases eT
    split at e
    · rename_i hh
      simp only [Bool.and_eq_true] at hh
      cases ei : xs.findIdx? (fun y => deq y d1) with
      | none => rw [ei] at e; cases e
      | some j =>
        rw [ei] at e
        cases e
        obtain ⟨w, rfl, b1⟩ := bl.one
        obtain ⟨hh, hcl⟩ := hh
        have hdl : dat (DP + 1) (.lst o xs) = true := hh.2
        obtain ⟨a, ws, rfl, h1, f1⟩ := b.lst
        rw [← hK] at h1
        have dl : Dp X.K H (.ref a) (.list (toPys xs)) := .lst h1 (by rw [hK]; exact FzL.dp xs DP hh.2 f1)
        obtain ⟨hj, hd, hno⟩ := List.findIdx?_eq_some_iff_getElem.mp ei
        have get : ∀ m, (toPys xs)[m]? = (xs[m]?).map toPy := toPys_get xs
        have dm : ∀ m (hm : m < xs.length), dat DP xs[m] = true := fun m hm => datL_get hh.2 (List.getElem?_eq_getElem hm)
        refine mt_indexD (by omega) pins s σ H _ _ v us Q I rx rv ⟨a, w, toPy d1, toPys xs, j, toPy xs[j], rfl, rfl, dl, by rw [hK]; exact b1.dp hh.1, ?_, ?_, by rw [get, List.getElem?_eq_getElem hj]; rfl, ?_, ?_, q.int wf⟩
        · exact shaped_of hdl (by decide) (by simpa [toPy, PyData.canLay0] using hcl.2)
        · exact shaped_of hh.1 (by decide) hcl.1
        · rw [deq_py _ _ DP DP (dm j hj) hh.1]; exact hd
        · intro m z hm hz
          have hml : m < xs.length := by omega
          rw [get, List.getElem?_eq_getElem hml] at hz
          cases hz
          rw [deq_py _ _ DP DP (dm m hml) hh.1]
          exact Bool.eq_false_iff.mpr (hno m hm)
    · cases e
  · cases e
end
end VP

set_option Elab.async false
set_option linter.all false
set_option maxRecDepth 100000
set_option maxHeartbeats 1000000
/-! zip and enumerate over lists and tuples in any mix. -/
namespace VP
open PySem PySem.Spec PyProof.Rows L2

def SqK (b : Bool) (K : PySem.W.Frag) (H : Hp) (a : Addr) (xs : List V) : Prop := if b then SqL K H a xs else SqT K H a xs
def IsK (b : Bool) (h : Heap) (a : Addr) (its : Array Value) : Prop := if b then h.IsList a its else h.IsTuple a its
def ItrK (b : Bool) (h : Heap) (it a : Addr) (i : Nat) : Prop := if b then h.IsListIter it a i else h.IsTupleIter it a i
def itO (b : Bool) (a : Addr) : Obj := if b then { cls := .type "list_iterator", data := .fields #[.ref a, .int 0 0] } else { cls := .type "tuple_iterator", data := .fields #[.ref a, .int 0 0] }
section
variable {X : Cx} {pins : List (Addr × Obj)} {σ : L2.St} {H : Hp} {s : Shared} {a : Addr} {xs ys : List V} {b : Bool}
theorem seqK (I : Inv X pins σ H s) (h : SqK b X.K H a xs) : ∃ its : List Value, Vals xs its ∧ IsK b s.heap a its.toArray := by
  cases b with
  | true => obtain ⟨its, r, p, _⟩ := I.list h; exact ⟨its, r, p.isList⟩
  | false => obtain ⟨its, r, p, _⟩ := I.tuple h; exact ⟨its, r, p⟩
theorem seqK_inj (I : Inv X pins σ H s) (h : SqK b X.K H a xs) (h' : SqK b X.K H a ys) : xs = ys := by
  cases b with
  | true => exact I.list_inj h h'
  | false => exact I.tuple_inj h h'
theorem IsK.lt {h : Heap} {its : Array Value} (x : IsK b h a its) : a < h.objs.size := by
  cases b <;> (obtain ⟨_, e, _⟩ := x; exact Heap.lt_size e)
theorem itr_new {h : Heap} {it : Addr} (e : h.get? it = some (itO b a)) : ItrK b h it a 0 := by
  cases b <;> exact ⟨_, e, rfl, rfl⟩
theorem itr_obj {h : Heap} {it : Addr} {i : Nat} (e : ItrK b h it a i) : ∃ o, h.get? it = some o ∧ ∀ v, o.data ≠ .cell v := by
  cases b <;> (obtain ⟨o, ho, hc, hd⟩ := e; exact ⟨o, ho, fun v q => by rw [hd] at q; cases q⟩)
theorem itr_at {h h' : Heap} {it : Addr} {i : Nat} (e : ItrK b h it a i) (k : ∀ o, h.get? it = some o → h'.get? it = some o) : ItrK b h' it a i := by
  cases b <;> exact e.at k
theorem begK (b : Bool) (a : Addr) (its : Array Value) : Begins (.ref a) (itO b a) fun h => IsK b h a its := by
  cases b with
  | true => exact begins_list a its
  | false => exact begins_tuple a its
theorem drawsK {prog : Program} {w : World} {A : Around} (hh : A.handled = none) (b : Bool) (it a : Addr) (hne : a ≠ it) (its : Array Value) :
    Draws prog w A it [it, a] its.size (fun i v => its[i]? = some v) (fun i h => ItrK b h it a i ∧ IsK b h a its) := by
  cases b with
  | true => exact Draws.list hh it a hne its
  | false => exact Draws.tuple hh it a hne its
end

set_option maxHeartbeats 1000000 in
theorem meets_enum1 {v : Value} {o : Obj} {H : Heap → Prop} (B : Begins v o H) :
    Meets (Builtin.«enumerate.__new__» ⟨[.type "enumerate", v], []⟩) (fun _ R s => H s.heap ∧
      R (.ok (.ret (.ref (s.heap.push o).objs.size))) { s with heap := (s.heap.push o).push { cls := .type "enumerate", data := .fields #[.none, .bool false, .ref s.heap.objs.size, rawInt 0, .none, .none] } }) :=
  .of_wp fun prog w A R s h => by
    obtain ⟨hp, g, d, tk, os⟩ := s; obtain ⟨h1, h⟩ := h
    have hsub := sub_enumerate
    have q1 : ∀ {A' : Around} {E : Value → Shared → Prop} {Q : Value → Shared → Prop}, Q (.ref hp.objs.size) ⟨hp.push o, g, d, tk, os⟩ → wpAny (model prog w) A' (pyIter v) Q E ⟨hp, g, d, tk, os⟩ :=
      fun q => B.iter prog w _ _ ⟨hp, g, d, tk, os⟩ _ h1 q
    wp_walk using q1
    refine wpAny_stack_any fun st => wpAny_pure ?_
    split
    · rename_i c _ _ _ _ _
      cases (c == Value.type "enumerate")
      · wp_walk using q1
        exact ⟨_, rfl, h⟩
      · wp_walk using q1
        exact ⟨_, rfl, h⟩
    · wp_walk using q1
      exact ⟨_, rfl, h⟩
theorem enum_begins1 {prog : Program} {w : World} {A : Around} {E : Value → Shared → Prop} {s : Shared} {v : Value} {o : Obj} {H : Heap → Prop} {Q : Value → Shared → Prop} (B : Begins v o H) (h1 : H s.heap)
    (h : ∀ h', IsEnum h' (s.heap.objs.size + 1) s.heap.objs.size 0 .none → h'.get? s.heap.objs.size = some o → h'.objs.size = s.heap.objs.size + 2 →
      (∀ b o, s.heap.get? b = some o → h'.get? b = some o) → Q (.ref (s.heap.objs.size + 1)) { s with heap := h' }) :
    wpAny (model prog w) A (call (.type "enumerate") [v]) Q E s := by
  refine callType_new F.called_enumerate (by decide) (F.typeCall_enumerate_1 _) (F.newCall_enumerate_1 _) (fun obj => F.args_object_init_2 obj _) F.entry_enumerate_new
    (meets_enum1 B) ⟨h1, ?_⟩
  have hz : (s.heap.push o).objs.size = s.heap.objs.size + 1 := Heap.size_push ..
  show _ ∧ _
  rw [hz]
  have he : IsEnum ((s.heap.push o).push { cls := .type "enumerate", data := .fields #[.none, .bool false, .ref s.heap.objs.size, rawInt 0, .none, .none] }) (s.heap.objs.size + 1) s.heap.objs.size 0 .none := by
    have := Heap.get?_push_size (s.heap.push o) (o := { cls := .type "enumerate", data := .fields #[.none, .bool false, .ref s.heap.objs.size, rawInt 0, .none, .none] }) rfl
    rw [hz] at this; exact this
  refine ⟨⟨_, he, rfl⟩, h _ he (Heap.get?_push_of_some _ (Heap.get?_push_size _ B.free)) (by rw [Heap.size_push, hz]) fun b o x => Heap.get?_push_of_some _ (Heap.get?_push_of_some _ x)⟩

/-! ### enumerate -/
def IteK (b : Bool) (K : PySem.W.Frag) (a : Addr) : It :=
  ⟨fun i H => ∃ (xs : List V) (x : V), SqK b K H a xs ∧ xs[i]? = some x, fun i H v H' => ∃ T x, v = .ref T ∧ H T = none ∧ H' = upd H T (.tup [.int (i : Nat), x]) ∧ ∀ xs, SqK b K H a xs → xs[i]? = some x, fun i H => ∃ xs : List V, SqK b K H a xs ∧ xs.length = i⟩
theorem get_vals {xs : List V} {its : List Value} {i : Nat} {x : V} {u : Value} (r : Vals xs its) (e : xs[i]? = some x) (eu : its.toArray[i]? = some u) : RelV x u := by
  obtain ⟨u', h1, h2⟩ := r.get e
  have : its[i]? = some u := by simpa using eu
  rw [h1] at this; cases this
  exact h2
theorem turn_enumK {P : Program} {w : World} {K : PySem.W.Frag} {elts : List Expr} {kk : Nat} {tpos : Pos} {b : Bool} (a e it : Addr) :
    Turn P w K (.Tuple elts kk tpos) (IteK b K a) [e, it] e (fun i h => (∃ old, IsEnum h e it ((i : Nat) : Int) old) ∧ ItrK b h it a i ∧ e ≠ it ∧ a ≠ it ∧ a ≠ e) where
  mem := by simp
  obj := fun i h st c hc => by
    obtain ⟨⟨old, he⟩, hi, _⟩ := st
    have e' : c = e ∨ c = it := by simpa using hc
    rcases e' with z | z
    · rw [z]; exact ⟨_, he, fun v q => nomatch q⟩
    · rw [z]; exact itr_obj hi
  keep := fun i h h' st k => let ⟨⟨old, he⟩, hi, hne⟩ := st; ⟨⟨old, k e (by simp) _ he⟩, itr_at hi fun o q => k it (by simp) o q, hne⟩
  item := by
    intro X hP hw hK hc i pins s σ H E I hf st hg
    subst hP hw hK
    obtain ⟨⟨old, he⟩, hit, hne, ha1, ha2⟩ := st
    obtain ⟨xs, x, hq, hx⟩ := hg
    obtain ⟨its, rv, p⟩ := seqK I hq
    have hin : i < its.toArray.size := by
      have h1 := rv.length
      have h2 := (List.getElem?_eq_some_iff.mp hx).1
      simp; omega
    have W := WalksT.enumFrom (prog := X.prog) (w := X.w) (A := X.A) 0 (drawsK (A := X.A.in1) (I.ok.hd hc) b it a ha1 its.toArray) e hne (by simp [hne, Ne.symm ha2]) (by simp)
    have hz : (0 : Int) + (i : Int) = (i : Int) := by omega
    refine W.item i s _ _ hin ⟨⟨old, by rw [hz]; exact he⟩, hit, p⟩ fun T vals h' tk ⟨t, u, hu, ev⟩ hT hTt hm hk => ⟨_, rfl, W.go elts kk tpos i T { s with heap := h', toks := tk } _ _ hm fun h'' st2 hk2 => ?_⟩
    subst ev
    have ru := get_vals rv hx hu
    have hTn : T ∉ [e, it] := W.apart _ _ _ hm
    have hT2 : h''.IsTuple T #[.int ((0 : Int) + (i : Int)) t, u] := hTt.at fun o q => hk2 T o hTn q
    rw [hz] at hT2
    have new : ObjOk X.prog X.w (upd H T (.tup [.int (i : Nat), x])) h'' T (.tup [.int (i : Nat), x]) :=
      ⟨by show 2 ≤ sizeLine; decide, [.int i t, u], .cons ⟨_, rfl⟩ (.cons ru .nil), hT2⟩
    have I1 : Inv X pins σ (upd H T (.tup [.int (i : Nat), x])) { s with heap := h'', toks := tk } :=
      I.turnedNew (ch := [e, it]) (fun c ob hcn q => hk2 c ob hcn (hk c ob hcn q)) hf hT new
    have hfr : H T = none := I.hok.fresh hT
    obtain ⟨⟨old2, he2⟩, hit2, _⟩ := st2
    refine ⟨.ref T, _, I1, rfl, ⟨_, x, rfl, hfr, rfl, fun ys hy => by rw [seqK_inj I hy hq]; exact hx⟩, ⟨⟨old2, ?_⟩, hit2, hne, ha1, ha2⟩, fun c hc' => ?_⟩
    · have e1 : (0 : Int) + ((i + 1 : Nat) : Int) = ((i + 1 : Nat) : Int) := by omega
      rw [e1] at he2; exact he2
    · rw [upd_ne (fun z => hTn (by rw [← z]; exact hc'))]
      exact (hf c hc').1
  done := by
    intro X hP hw hK hc i pins s σ H E I hf st hg
    subst hP hw hK
    obtain ⟨⟨old, he⟩, hit, hne, ha1, ha2⟩ := st
    obtain ⟨xs, hq, hx⟩ := hg
    obtain ⟨its, rv, p⟩ := seqK I hq
    have hin : its.toArray.size = i := by
      have h1 := rv.length
      simp; omega
    have W := WalksT.enumFrom (prog := X.prog) (w := X.w) (A := X.A) 0 (drawsK (A := X.A.in1) (I.ok.hd hc) b it a ha1 its.toArray) e hne (by simp [hne, Ne.symm ha2]) (by simp)
    have hz : (0 : Int) + (its.toArray.size : Int) = (i : Int) := by omega
    refine W.done s _ _ ⟨⟨old, by rw [hz]; exact he⟩, by rw [hin]; exact hit, p⟩ fun h' tk hk => ⟨rfl, ?_⟩
    refine I.step (g' := s.gens) (d' := s.drawn) (ch := [e, it]) (fun c hc' => ⟨(hf c hc').2.2.2.1, (hf c hc').2.1, (hf c hc').2.2.2.2.1, (hf c hc').2.2.2.2.2⟩) (fun c o _ _ hcn q _ => hk c o hcn q) (fun c o _ _ hcn q _ => ⟨o.slots, hk c o hcn q⟩)
      (fun _ _ _ _ n => n) (fun c o hcn q => ⟨o, hk c o hcn q⟩) (fun _ _ e => e) (fun _ _ _ e => e) (fun c ps e => ⟨#[], by rw [e]; simp⟩) (fun m hm => ?_) (fun c u q => ?_) I.bare
    · obtain ⟨o, es, ep, ho, r⟩ := hm
      exact ⟨o, es, ep, hk _ o (fun z => (hf _ z).2.1 rfl) ho, r⟩
    · refine (I.hok c u q).stay (fun c' v hcc qq => hk c' v ?_ qq) (fun _ q => q) fun _ _ q => q
      intro z
      have hn := (hf c' z).1
      rcases hcc with z2 | z2
      · rw [z2, q] at hn; cases hn
      · rw [z2] at hn; cases hn
  self := fun A i s Q E st h => let ⟨⟨_, he⟩, _⟩ := st; wpAny_pyIter_enum he h
def iEnumK (K : PySem.W.Frag) (ta : TA) : TI := fun σ H R => ta σ H fun vs H1 => ∃ a b xs, vs = [.ref a] ∧ SqK b K H1 a xs ∧ R (IteK b K a) H1
theorem pi_enumK {X : Cx} {e : Expr} {ta : TA} {p pos tpos : Pos} {elts : List Expr} {kk : Nat} (hg : Gl X "enumerate") (hm : X.mg "enumerate" = none) (ha : PA X [e] ta) (hs : starEach [e] X.env = [(false, eval e X.env)] := by rfl) :
    PI X (.Tuple elts kk tpos) (.Call (.Name "enumerate" p) [e] [] pos) (iEnumK X.K ta) := by
  refine ⟨fun pins s σ H R I h => ?_⟩
  refine Call_ (ld_blt I hg hm boot_enumerate (PyProof.Rows.callWith_type1 (thn (ha.run pos pins s σ H _ I h) fun us s1 ⟨vs, H1, I1, r1, q1⟩ => ?_) hs rfl))
  obtain ⟨a, b, xs, ex, hq, q⟩ := q1
  subst ex
  obtain ⟨u, rfl, ru⟩ := vals1 r1
  cases ru
  obtain ⟨its, rv, p'⟩ := seqK I1 hq
  have la := p'.lt
  refine enum_begins1 (begK b a its.toArray) p' fun h' he hit hsz hk => wpAny_pyIter_enum he ?_
  have I2 : Inv X pins σ H1 { s1 with heap := h' } := I1.kept (t' := s1.toks) hk
  refine ⟨s1.heap.objs.size + 1, [s1.heap.objs.size + 1, s1.heap.objs.size], _, _, H1, rfl, I2, turn_enumK (b := b) a (s1.heap.objs.size + 1) s1.heap.objs.size, ⟨⟨.none, he⟩, itr_new hit, Nat.succ_ne_self _, Nat.ne_of_lt la, Nat.ne_of_lt (Nat.lt_succ_of_lt la)⟩, fun c hc' => ?_, q⟩
  have e' : c = s1.heap.objs.size + 1 ∨ c = s1.heap.objs.size := by simpa using hc'
  have hle : s1.heap.objs.size ≤ c := by
    rcases e' with z | z
    · rw [z]; exact Nat.le_add_right _ _
    · rw [z]; exact Nat.le_refl _
  exact I1.fpOk hle (I1.hok.fresh hle)

/-! ### zip -/
def ItzK (b1 b2 : Bool) (K : PySem.W.Frag) (a b : Addr) : It :=
  ⟨fun i H => ∃ (xs ys : List V) (x y : V), SqK b1 K H a xs ∧ SqK b2 K H b ys ∧ xs[i]? = some x ∧ ys[i]? = some y,
    fun i H v H' => ∃ T x y, v = .ref T ∧ H T = none ∧ H' = upd H T (.tup [x, y]) ∧ (∀ xs, SqK b1 K H a xs → xs[i]? = some x) ∧ ∀ ys, SqK b2 K H b ys → ys[i]? = some y,
    fun i H => ∃ xs ys : List V, SqK b1 K H a xs ∧ SqK b2 K H b ys ∧ min xs.length ys.length = i⟩
theorem sep2 {z TI TO i1 i2 a b : Addr} (h : ZipApart z TI TO i1 i2 a b) : ZipSep2 z TI TO i1 i2 [i1, a] [i2, b] where
  TIz := h.TIz
  TOz := h.TOz
  TITO := h.TITO
  TIi1 := h.TIi1
  mem1 := by simp
  zf1 := by simp only [List.mem_cons, List.not_mem_nil, or_false, not_or]; exact ⟨h.i1z.symm, h.l1z.symm⟩
  Tf1 := by simp only [List.mem_cons, List.not_mem_nil, or_false, not_or]; exact ⟨h.TOi1, h.l1TO.symm⟩
  TIi2 := h.TIi2
  mem2 := by simp
  zf2 := by simp only [List.mem_cons, List.not_mem_nil, or_false, not_or]; exact ⟨h.i2z.symm, h.l2z.symm⟩
  Tf2 := by simp only [List.mem_cons, List.not_mem_nil, or_false, not_or]; exact ⟨h.TOi2, h.l2TO.symm⟩
  sep1_2 := by simp only [List.mem_cons, List.not_mem_nil, or_false, not_or]; exact ⟨h.i12, h.l2i1.symm⟩
  sep2_1 := by simp only [List.mem_cons, List.not_mem_nil, or_false, not_or]; exact ⟨h.i12.symm, h.l1i2.symm⟩
theorem Inv.untouched {X : Cx} {pins : List (Addr × Obj)} {σ : L2.St} {H : Hp} {s : Shared} {h' : Heap} {tk : Nat} {ch : List Addr} (I : Inv X pins σ H s) (hf : ∀ b ∈ ch, FpOk X pins H b) (hk : ∀ b o, b ∉ ch → s.heap.get? b = some o → h'.get? b = some o) : Inv X pins σ H { s with heap := h', toks := tk } := by
  refine I.step (g' := s.gens) (d' := s.drawn) (ch := ch) (fun c hc' => ⟨(hf c hc').2.2.2.1, (hf c hc').2.1, (hf c hc').2.2.2.2.1, (hf c hc').2.2.2.2.2⟩) (fun c o _ _ hcn q _ => hk c o hcn q) (fun c o _ _ hcn q _ => ⟨o.slots, hk c o hcn q⟩)
    (fun _ _ _ _ n => n) (fun c o hcn q => ⟨o, hk c o hcn q⟩) (fun _ _ e => e) (fun _ _ _ e => e) (fun c ps e => ⟨#[], by rw [e]; simp⟩) (fun m hm => ?_) (fun c u q => ?_) I.bare
  · obtain ⟨o, es, ep, ho, r⟩ := hm
    exact ⟨o, es, ep, hk _ o (fun z => (hf _ z).2.1 rfl) ho, r⟩
  · refine (I.hok c u q).stay (fun c' v hcc qq => hk c' v ?_ qq) (fun _ q => q) fun _ _ q => q
    intro z
    have hn := (hf c' z).1
    rcases hcc with z2 | z2
    · rw [z2, q] at hn; cases hn
    · rw [z2] at hn; cases hn
theorem turn_zipK {P : Program} {w : World} {K : PySem.W.Frag} {elts : List Expr} {kk : Nat} {tpos : Pos} {b1 b2 : Bool} {a b z TI TO i1 i2 : Addr} (D : ZipApart z TI TO i1 i2 a b) :
    Turn P w K (.Tuple elts kk tpos) (ItzK b1 b2 K a b) [z, TI, TO, i1, i2] z (fun i h => IsZip h z TI TO .none ∧ IsTupOf2 h TI (.ref i1) (.ref i2) ∧ (∃ x y, IsTupOf2 h TO x y) ∧ ItrK b1 h i1 a i ∧ ItrK b2 h i2 b i) where
  mem := by simp
  obj := fun i h st c hc => by
    obtain ⟨hz, hTI, ⟨x, y, hTO⟩, h1, h2⟩ := st
    have e' : c = z ∨ c = TI ∨ c = TO ∨ c = i1 ∨ c = i2 := by simpa using hc
    rcases e' with q | q | q | q | q
    · rw [q]; exact ⟨_, hz, fun v q => nomatch q⟩
    · rw [q]; exact ⟨_, hTI, fun v q => nomatch q⟩
    · rw [q]; exact ⟨_, hTO, fun v q => nomatch q⟩
    · rw [q]; exact itr_obj h1
    · rw [q]; exact itr_obj h2
  keep := fun i h h' st k => by
    obtain ⟨hz, hTI, ⟨x, y, hTO⟩, h1, h2⟩ := st
    exact ⟨k z (by simp) _ hz, k TI (by simp) _ hTI, ⟨x, y, k TO (by simp) _ hTO⟩, itr_at h1 fun o q => k i1 (by simp) o q, itr_at h2 fun o q => k i2 (by simp) o q⟩
  item := by
    intro X hP hw hK hc i pins s σ H E I hf st hg
    subst hP hw hK
    obtain ⟨hz, hTI, hTO, h1, h2⟩ := st
    obtain ⟨xs, ys, x, y, hq1, hq2, hx, hy⟩ := hg
    obtain ⟨its, rv, p⟩ := seqK I hq1
    obtain ⟨its2, rv2, p2⟩ := seqK I hq2
    have hin : i < min its.toArray.size its2.toArray.size := by
      have k1 := rv.length
      have k2 := (List.getElem?_eq_some_iff.mp hx).1
      have k3 := rv2.length
      have k4 := (List.getElem?_eq_some_iff.mp hy).1
      simp; omega
    have W := WalksT.zipD2 (prog := X.prog) (w := X.w) (A := X.A) (sep2 D) (drawsK (A := X.A.in1) (I.ok.hd hc) b1 i1 a D.l1i1 its.toArray) (drawsK (A := X.A.in1) (I.ok.hd hc) b2 i2 b D.l2i2 its2.toArray)
    have sub : ∀ c, c ∈ [z, TO, i1, i2] → c ∈ [z, TI, TO, i1, i2] := fun c hc' => by
      simp only [List.mem_cons, List.not_mem_nil, or_false] at hc' ⊢
      rcases hc' with q | q | q | q <;> simp [q]
    refine W.item i s _ _ hin ⟨hz, hTI, hTO, ⟨h1, p⟩, h2, p2⟩ fun T vals h' tk ⟨u1, u2, hu1, hu2, ev⟩ hT hTt hm hk => ⟨_, rfl, W.go elts kk tpos i T { s with heap := h', toks := tk } _ _ hm fun h'' st2 hk2 => ?_⟩
    subst ev
    have ru1 := get_vals rv hx hu1
    have ru2 := get_vals rv2 hy hu2
    have hTn : T ∉ [z, TO, i1, i2] := W.apart _ _ _ hm
    have hT2 : h''.IsTuple T #[u1, u2] := hTt.at fun o q => hk2 T o hTn q
    have new : ObjOk X.prog X.w (upd H T (.tup [x, y])) h'' T (.tup [x, y]) :=
      ⟨by show 2 ≤ sizeLine; decide, [u1, u2], .cons ru1 (.cons ru2 .nil), hT2⟩
    have I1 : Inv X pins σ (upd H T (.tup [x, y])) { s with heap := h'', toks := tk } :=
      I.turnedNew (ch := [z, TO, i1, i2]) (fun c ob hcn q => hk2 c ob hcn (hk c ob hcn q)) (fun c hc' => hf c (sub c hc')) hT new
    have hfr : H T = none := I.hok.fresh hT
    have hTlt : ∀ c, c ∈ [z, TI, TO, i1, i2] → c ≠ T := fun c hc' e => by
      have : ∃ o, s.heap.get? c = some o := by
        simp only [List.mem_cons, List.not_mem_nil, or_false] at hc'
        rcases hc' with q | q | q | q | q
        · rw [q]; exact ⟨_, hz⟩
        · rw [q]; exact ⟨_, hTI⟩
        · rw [q]; obtain ⟨_, _, q2⟩ := hTO; exact ⟨_, q2⟩
        · rw [q]; obtain ⟨o, q2, _⟩ := itr_obj h1; exact ⟨o, q2⟩
        · rw [q]; obtain ⟨o, q2, _⟩ := itr_obj h2; exact ⟨o, q2⟩
      obtain ⟨o, ho⟩ := this
      have := Heap.lt_size ho
      rw [e] at this
      exact absurd (Nat.lt_of_lt_of_le this hT) (Nat.lt_irrefl _)
    obtain ⟨k1, k2, k3, ⟨k4, _⟩, k5, _⟩ := st2
    refine ⟨.ref T, _, I1, rfl, ⟨_, x, y, rfl, hfr, rfl, fun ys hy' => by rw [seqK_inj I hy' hq1]; exact hx, fun ys hy' => by rw [seqK_inj I hy' hq2]; exact hy⟩, ⟨k1, k2, k3, k4, k5⟩, fun c hc' => ?_⟩
    rw [upd_ne (hTlt c hc')]
    exact (hf c hc').1
  done := by
    intro X hP hw hK hc i pins s σ H E I hf st hg
    subst hP hw hK
    obtain ⟨hz, hTI, hTO, h1, h2⟩ := st
    obtain ⟨xs, ys, hq1, hq2, hx⟩ := hg
    obtain ⟨its, rv, p⟩ := seqK I hq1
    obtain ⟨its2, rv2, p2⟩ := seqK I hq2
    have hin : min its.toArray.size its2.toArray.size = i := by
      have k1 := rv.length
      have k3 := rv2.length
      simp; omega
    have W := WalksT.zipD2 (prog := X.prog) (w := X.w) (A := X.A) (sep2 D) (drawsK (A := X.A.in1) (I.ok.hd hc) b1 i1 a D.l1i1 its.toArray) (drawsK (A := X.A.in1) (I.ok.hd hc) b2 i2 b D.l2i2 its2.toArray)
    have sub : ∀ c, c ∈ [z, TO, i1, i2] → c ∈ [z, TI, TO, i1, i2] := fun c hc' => by
      simp only [List.mem_cons, List.not_mem_nil, or_false] at hc' ⊢
      rcases hc' with q | q | q | q <;> simp [q]
    rw [hin] at W
    exact W.done s _ _ ⟨hz, hTI, hTO, ⟨h1, p⟩, h2, p2⟩ fun h' tk hk => ⟨rfl, Inv.untouched I (fun c hc' => hf c (sub c hc')) hk⟩
  self := fun A i s Q E st h => wpAny_pyIter_zip st.1 h
def iZipK (K : PySem.W.Frag) (ta : TA) : TI := fun σ H R => ta σ H fun vs H1 => ∃ a b b1 b2 xs ys, vs = [.ref a, .ref b] ∧ SqK b1 K H1 a xs ∧ SqK b2 K H1 b ys ∧ R (ItzK b1 b2 K a b) H1
theorem pi_zipK {X : Cx} {e e2 : Expr} {ta : TA} {p pos tpos : Pos} {elts : List Expr} {kk : Nat} (hg : Gl X "zip") (hm : X.mg "zip" = none) (ha : PA X [e, e2] ta)
    (hs : starEach [e, e2] X.env = (false, eval e X.env) :: starEach [e2] X.env := by rfl) (hpl : (backTo pos (starEach [e2] X.env)).any (·.1) = false := by rfl) :
    PI X (.Tuple elts kk tpos) (.Call (.Name "zip" p) [e, e2] [] pos) (iZipK X.K ta) := by
  refine ⟨fun pins s σ H R I h => ?_⟩
  refine Call_ (ld_blt I hg hm PyProof.Rows.boot_zip (PyProof.Rows.callWith_type1 (thn (ha.run pos pins s σ H _ I h) fun us s1 ⟨vs, H1, I1, r1, q1⟩ => ?_) hs hpl))
  obtain ⟨a, b, b1, b2, xs, ys, ex, hqx, hqy, q⟩ := q1
  subst ex
  obtain ⟨u1, u2, rfl, r, r'⟩ := vals2 r1
  cases r
  cases r'
  obtain ⟨its, rv, p1⟩ := seqK I1 hqx
  obtain ⟨its2, rv2, p2⟩ := seqK I1 hqy
  have la := p1.lt
  have lb := p2.lt
  refine zip_begins2 (begK b1 a its.toArray) (begK b2 b its2.toArray) p1 p2 fun h' hz hTI hTO h1 h2 hsz hk => wpAny_pyIter_zip hz ?_
  have I2 : Inv X pins σ H1 { s1 with heap := h' } := I1.kept (t' := s1.toks) hk
  refine ⟨s1.heap.objs.size + 4, [s1.heap.objs.size + 4, s1.heap.objs.size + 2, s1.heap.objs.size + 3, s1.heap.objs.size, s1.heap.objs.size + 1], _, _, H1, rfl, I2, turn_zipK (b1 := b1) (b2 := b2) (PySem.W.ktu_apart s1.heap.objs.size a b la lb), ⟨hz, hTI, ⟨_, _, hTO⟩, itr_new h1, itr_new h2⟩, fun c hcm => ?_, q⟩
  have e' : c = s1.heap.objs.size + 4 ∨ c = s1.heap.objs.size + 2 ∨ c = s1.heap.objs.size + 3 ∨ c = s1.heap.objs.size ∨ c = s1.heap.objs.size + 1 := by simpa using hcm
  have hle : s1.heap.objs.size ≤ c := by
    rcases e' with z | z | z | z | z
    · rw [z]; exact Nat.le_add_right _ _
    · rw [z]; exact Nat.le_add_right _ _
    · rw [z]; exact Nat.le_add_right _ _
    · rw [z]; exact Nat.le_refl _
    · rw [z]; exact Nat.le_add_right _ _
  exact I1.fpOk hle (I1.hok.fresh hle)
end VP

set_option Elab.async false
set_option linter.all false
set_option maxRecDepth 100000
set_option maxHeartbeats 1000000
/-! Slots put aside and put back; values frozen; targets. -/
namespace VP
open PySem PySem.Spec PyProof.Rows L2
section
variable {G : Gv} {W : WX} {H H' : Hp} {S S' : AP'} {σ : L2.St} {ρ ρ' : Ev} {F F' : Fps}

/-! ### putting aside -/
theorem StO.none_ (h : StO G H S σ ρ F) (i : Nat) : StO G H S σ (ρ.set i none) (putF F i []) where
  len := by simp [h.len]
  slot := fun j x q => by
    by_cases hj : j = i
    · subst hj
      rw [List.getElem?_set] at q
      simp only [if_true] at q
      split at q <;> cases q
    · rw [List.getElem?_set_ne (Ne.symm hj)] at q
      rw [putF_ne hj]
      exact h.slot j x q
  emp := fun j n => by
    by_cases hj : j = i
    · subst hj; exact putF_same
    · rw [putF_ne hj]
      exact h.emp j fun x q => n x (by rw [List.getElem?_set_ne (Ne.symm hj)]; exact q)
  dis := fun j k a hj hk => by
    unfold putF at hj hk
    split at hj <;> split at hk <;> first | cases hj | cases hk | exact h.dis j k a hj hk
  wf := h.wf
def blankF (F : Fps) (is : List Nat) : Fps := fun j => if j ∈ is then [] else F j
theorem blank_len (ρ : Ev) : ∀ is : List Nat, (blank ρ is).length = ρ.length
  | [] => rfl
  | i :: is => by unfold blank; rw [List.length_set, blank_len ρ is]
theorem blank_get (ρ : Ev) : ∀ (is : List Nat) (j : Nat), (blank ρ is)[j]? = if j ∈ is then (ρ[j]?).map (fun _ => none) else ρ[j]?
  | [], j => by simp [blank]
  | i :: is, j => by
    unfold blank
    by_cases hj : j = i
    · subst hj
      rw [List.getElem?_set]
      simp only [if_true, blank_len, List.mem_cons, true_or]
      split
      · rename_i h; rw [List.getElem?_eq_getElem h]; rfl
      · rename_i h; rw [List.getElem?_eq_none (by omega)]; rfl
    · rw [List.getElem?_set_ne (Ne.symm hj), blank_get ρ is j]
      simp [hj]
theorem wipe_get (σ : L2.St) : ∀ (is : List Nat) (j : Nat), (wipe σ is)[j]? = if j ∈ is then (σ[j]?).map (fun _ => none) else σ[j]?
  | [], j => by simp [wipe]
  | i :: is, j => by
    unfold wipe
    by_cases hj : j = i
    · subst hj
      rw [List.getElem?_set]
      simp only [if_true, wipe_length, List.mem_cons, true_or]
      split
      · rename_i h; rw [List.getElem?_eq_getElem h]; rfl
      · rename_i h; rw [List.getElem?_eq_none (by omega)]; rfl
    · rw [List.getElem?_set_ne (Ne.symm hj), wipe_get σ is j]
      simp [hj]
theorem blank_blank (ρ : Ev) (is : List Nat) : blank (blank ρ is) is = blank ρ is := by
  apply List.ext_getElem?
  intro j
  rw [blank_get, blank_get]
  split
  · cases ρ[j]? <;> rfl
  · rfl
theorem StO.blank (h : StO G H S σ ρ F) (is : List Nat) : StO G H S (wipe σ is) (VP.blank ρ is) (blankF F is) where
  len := by rw [blank_len, wipe_length, h.len]
  slot := fun j x q => by
    rw [blank_get] at q
    split at q
    · cases hq : ρ[j]? <;> rw [hq] at q <;> cases q
    · rename_i hj
      obtain ⟨v, e, w⟩ := h.slot j x q
      refine ⟨v, by rw [wipe_get, if_neg hj]; exact e, ?_⟩
      unfold blankF; rw [if_neg hj]; exact w
  emp := fun j n => by
    unfold blankF
    split
    · rfl
    · rename_i hj
      exact h.emp j fun x q => n x (by rw [blank_get, if_neg hj]; exact q)
  dis := fun j k a hj hk => by
    unfold blankF at hj hk
    split at hj <;> split at hk <;> first | cases hj | cases hk | exact h.dis j k a hj hk
  wf := h.wf
theorem Pf_blank {is : List Nat} {a : Addr} (h : Pf (blankF F is) a) : Pf F a := by
  obtain ⟨j, hj⟩ := h
  unfold blankF at hj
  split at hj
  · cases hj
  · exact ⟨j, hj⟩
/-- what is put aside: R -/
def aside (F : Fps) (is : List Nat) : AP' := fun a => ∃ j, j ∈ is ∧ a ∈ F j
theorem Pf_split {is : List Nat} {a : Addr} (h : Pf F a) : aside F is a ∨ Pf (blankF F is) a := by
  obtain ⟨j, hj⟩ := h
  by_cases hm : j ∈ is
  · exact .inl ⟨j, hm, hj⟩
  · exact .inr ⟨j, by unfold blankF; rw [if_neg hm]; exact hj⟩
theorem aside_sep (h : StO G H S σ ρ F) {is : List Nat} {a : Addr} (x : aside F is a) : ¬ Pf (blankF F is) a := fun ⟨k, hk⟩ => by
  obtain ⟨j, hj, ha⟩ := x
  unfold blankF at hk
  split at hk
  · cases hk
  · rename_i n
    exact n (h.dis j k a ha hk ▸ hj)
theorem aside_Pf {is : List Nat} {a : Addr} (x : aside F is a) : Pf F a := let ⟨j, _, h⟩ := x; ⟨j, h⟩
/-! ### putting back -/
theorem restore_len (ρ0 ρ : Ev) : ∀ is : List Nat, (restore ρ0 ρ is).length = ρ.length
  | [] => rfl
  | i :: is => by unfold restore; rw [List.length_set, restore_len ρ0 ρ is]
theorem restore_get (ρ0 ρ : Ev) (hl : ρ0.length = ρ.length) : ∀ (is : List Nat) (j : Nat), (restore ρ0 ρ is)[j]? = if j ∈ is then ρ0[j]? else ρ[j]?
  | [], j => by simp [restore]
  | i :: is, j => by
    unfold restore
    by_cases hj : j = i
    · subst hj
      rw [List.getElem?_set]
      simp only [if_true, restore_len, List.mem_cons, true_or]
      split
      · rename_i h
        rw [List.getElem?_eq_getElem (by omega)]; rfl
      · rename_i h; rw [List.getElem?_eq_none (by omega)]
    · rw [List.getElem?_set_ne (Ne.symm hj), restore_get ρ0 ρ hl is j]
      simp [hj]
/-- σ the slots' values; those in is were put aside and stand as they stood -/
theorem StO.restore {ρ0 : Ev} {F0 : Fps} {is : List Nat} {σ2 : L2.St} (h : StO G H S σ2 ρ F) (hσ : ∀ j, j ∉ is → σ2[j]? = σ[j]?) (hl : σ2.length = σ.length) (hl0 : ρ0.length = ρ.length) (he : ∀ j, j ∈ is → F j = [])
    (h0 : ∀ j, j ∈ is → ∀ d, ρ0[j]? = some (some d) → ∃ v, σ[j]? = some (some v) ∧ Ow G H S d v (F0 j)) (h1 : ∀ j, j ∈ is → (∀ d, ρ0[j]? ≠ some (some d)) → F0 j = [])
    (hd : ∀ j, j ∈ is → ∀ a, a ∈ F0 j → ¬ Pf F a) (hdd : ∀ i j a, a ∈ F0 i → a ∈ F0 j → i = j) : StO G H S σ (VP.restore ρ0 ρ is) (fun j => if j ∈ is then F0 j else F j) where
  len := by rw [restore_len, h.len, hl]
  slot := fun j x q => by
    rw [restore_get _ _ hl0] at q
    show ∃ v, σ[j]? = some (some v) ∧ Ow G H S x v (if j ∈ is then F0 j else F j)
    split at q
    · rename_i hj
      rw [if_pos hj]
      exact h0 j hj x q
    · rename_i hj
      rw [if_neg hj]
      obtain ⟨v, e, w⟩ := h.slot j x q
      exact ⟨v, (hσ j hj).symm.trans e, w⟩
  emp := fun j n => by
    show (if j ∈ is then F0 j else F j) = []
    split
    · rename_i hj
      exact h1 j hj fun d q => n d (by rw [restore_get _ _ hl0, if_pos hj]; exact q)
    · rename_i hj
      exact h.emp j fun d q => n d (by rw [restore_get _ _ hl0, if_neg hj]; exact q)
  dis := fun j k a hj hk => by
    split at hj <;> split at hk
    · exact hdd j k a hj hk
    · rename_i m _; exact absurd ⟨k, hk⟩ (hd j m a hj)
    · rename_i m; exact absurd ⟨j, hj⟩ (hd k m a hk)
    · exact h.dis j k a hj hk
  wf := h.wf
/-! ### what a walk holds -/
variable (G) in
def rH (σ : L2.St) (H : Hp) (S : AP') : List (Nat × D) → List Addr → Prop
  | [], T => T = []
  | p :: hs, T => ∃ v T1 T2, T = T1 ++ T2 ∧ σ[p.1]? = some (some v) ∧ Ow G H S p.2 v T1 ∧ rH σ H S hs T2 ∧ ∀ x, x ∈ T1 → x ∉ T2
theorem rH_keep {P P1 S1 : AP'} {H1 : Hp} (e : Ext P S H P1 S1 H1) (hs : ∀ x, P x → ¬ S x) : ∀ (l : List (Nat × D)) {T : List Addr}, rH G σ H S l T → (∀ x, x ∈ T → ¬ P x) → rH G σ H1 S1 l T
  | [], T, h, _ => h
  | p :: l, T, h, ht => by
    obtain ⟨v, T1, T2, e1, e2, h1, h2, h3⟩ := h
    subst e1
    exact ⟨v, T1, T2, rfl, e2, h1.keep e hs fun x hx => ht x (List.mem_append_left _ hx), rH_keep e hs l h2 fun x hx => ht x (List.mem_append_right _ hx), h3⟩
theorem rH_there : ∀ (l : List (Nat × D)) {T : List Addr} {x : Addr}, rH G σ H S l T → x ∈ T → ¬ S x ∧ ∃ u, H x = some u
  | [], T, x, h, hx => by rw [show T = [] from h] at hx; cases hx
  | p :: l, T, x, h, hx => by
    obtain ⟨v, T1, T2, e1, e2, h1, h2, h3⟩ := h
    subst e1
    rcases List.mem_append.mp hx with hx | hx
    · exact h1.there hx
    · exact rH_there l h2 hx
theorem rH_append : ∀ (l m : List (Nat × D)) {T U : List Addr}, rH G σ H S l T → rH G σ H S m U → (∀ x, x ∈ T → x ∉ U) → rH G σ H S (l ++ m) (T ++ U)
  | [], m, T, U, h, k, _ => by rw [show T = [] from h]; exact k
  | p :: l, m, T, U, h, k, hd => by
    obtain ⟨v, T1, T2, e1, e2, h1, h2, h3⟩ := h
    subst e1
    refine ⟨v, T1, T2 ++ U, by simp, e2, h1, rH_append l m h2 k fun x hx => hd x (List.mem_append_right _ hx), fun x hx hy => ?_⟩
    rcases List.mem_append.mp hy with hy | hy
    · exact h3 x hx hy
    · exact hd x (List.mem_append_left _ hx) hy
theorem set_same {α : Type} {l : List α} {i : Nat} {a : α} (e : l[i]? = some a) : l.set i a = l := by
  have hi := (List.getElem?_eq_some_iff.mp e).1
  apply List.ext_getElem?
  intro j
  by_cases hj : j = i
  · subst hj; rw [List.getElem?_set_self hi, e]
  · rw [List.getElem?_set_ne (Ne.symm hj)]
theorem StO.putH : ∀ (l : List (Nat × D)) {ρ : Ev} {F : Fps} {T : List Addr}, StO G H S σ ρ F → rH G σ H S l T → (∀ x, x ∈ T → ¬ Pf F x) → ∃ F', StO G H S σ (VP.putH l ρ) F' ∧ ∀ x, Pf F' x → x ∈ T ∨ Pf F x
  | [], ρ, F, T, h, _, _ => ⟨F, h, fun _ p => .inr p⟩
  | p :: l, ρ, F, T, h, r, hd => by
    obtain ⟨v, T1, T2, e1, e2, h1, h2, h3⟩ := r
    subst e1
    have hi := (List.getElem?_eq_some_iff.mp e2).1
    have h4 := h.put (i := p.1) hi h1 fun a ha => hd a (List.mem_append_left _ ha)
    rw [set_same e2] at h4
    obtain ⟨F', h5, h6⟩ := StO.putH l h4 h2 fun x hx hp => by
      rcases Pf_put hp with z | z
      · exact h3 x z hx
      · exact hd x (List.mem_append_right _ hx) z
    refine ⟨F', h5, fun x hp => ?_⟩
    rcases h6 x hp with z | z
    · exact .inl (List.mem_append_right _ z)
    · rcases Pf_put z with z | z
      · exact .inl (List.mem_append_left _ z)
      · exact .inr z

/-! ### values frozen -/
theorem Ext.addS {T : List Addr} {P P' : AP'} (hP : ∀ x, P' x → P x) (hT : ∀ x, x ∈ T → P x) : Ext P S H P' (addS S T) H where
  keep := fun _ _ e _ => e
  froz := fun _ z => .inl z
  back := fun a u _ n z => by
    rcases z with z | z
    · exact z
    · exact absurd (hT a z) n
  own := fun a p => .inl (hP a p)
theorem val_ok (st : StO G H S σ ρ F) {o : Opd} {v : V} {T : List Addr} (r : rO G σ H S o v T) (dj : ∀ x, x ∈ T → ¬ Pf F x) {d : D} (e : val o ρ = some (.ok d ρ')) :
    ∃ S' F' T', StO G H S' σ ρ' F' ∧ Ow G H S' d v T' ∧ (∀ x, x ∈ T' → ¬ Pf F' x) ∧ Ext (fun x => x ∈ T ∨ Pf F x) S H (fun x => x ∈ T' ∨ Pf F' x) S' H := by
  cases o with
  | tmp d' =>
    cases e
    exact ⟨S, F, T, st, r, dj, .refl⟩
  | loc i =>
    simp only [val] at e
    split at e
    · rename_i d' e2
      cases e
      obtain ⟨v', e3, w⟩ := st.slot i _ e2
      obtain ⟨rT, rv⟩ := r
      rw [rv] at e3; cases e3
      refine ⟨VP.addS S (F i), putF F i [], [], st.freeze e2, .of frz_not w.frz, (fun x hx => by cases hx), .addS (fun x p => ?_) fun x hx => .inr ⟨i, hx⟩⟩
      rcases p with p | p
      · cases p
      · rcases Pf_put p with z | z
        · cases z
        · exact .inr z
    · cases e
theorem frz_ok (st : StO G H S σ ρ F) {d : D} {v : V} {T : List Addr} (w : Ow G H S d v T) (dj : ∀ x, x ∈ T → ¬ Pf F x) :
    StO G H (addS S T) σ ρ F ∧ Fz G H (addS S T) (frz d) v ∧ Ext (fun x => x ∈ T ∨ Pf F x) S H (Pf F) (addS S T) H :=
  ⟨st.froze dj fun a ha => (w.there ha).2, w.frz, .addS (fun _ p => .inr p) fun _ p => .inl p⟩
theorem rO_mono {S' : AP'} {o : Opd} {v : V} {T : List Addr} (r : rO G σ H S o v T) {P P' : AP'} (e : Ext P S H P' S' H') (hs : ∀ x, P x → ¬ S x) (ht : ∀ x, x ∈ T → ¬ P x) : rO G σ H' S' o v T := rO_ok.keep r e hs ht
theorem bnd_some {α β : Type} {x : R α} {f : α → Ev → R β} {y : Out β} (h : bnd x f = some y) (hx : ∀ e ρ, x ≠ some (.er e ρ)) : ∃ a ρ, x = some (.ok a ρ) ∧ f a ρ = some y := by
  cases x with
  | none => cases h
  | some o => cases o with
    | er e ρ => exact absurd rfl (hx e ρ)
    | ok a ρ => exact ⟨a, ρ, rfl, h⟩
theorem val_noer {o : Opd} {e : Er} : val o ρ ≠ some (.er e ρ') := by
  cases o with
  | tmp d => intro h; cases h
  | loc i =>
    simp only [val]
    split <;> (intro h; cases h)
theorem valL_noer : ∀ (os : List Opd) {ρ ρ' : Ev} {e : Er}, valL os ρ ≠ some (.er e ρ')
  | [], _, _, _ => by intro h; cases h
  | o :: os, ρ, ρ', e => by
    intro h
    simp only [valL] at h
    obtain ⟨a, ρ1, e1, h⟩ := bnd_some h fun e ρ => val_noer
    obtain ⟨a, ρ2, e2, h⟩ := bnd_some h fun e ρ => valL_noer os
    cases h
theorem valL_ok : ∀ (os : List Opd) {ρ ρ' : Ev} {F : Fps} {S : AP'} {vs : List V} {T : List Addr} {ds : List D}, StO G H S σ ρ F → rOs G σ H S os vs T → (∀ x, x ∈ T → ¬ Pf F x) → valL os ρ = some (.ok ds ρ') →
    ∃ S' F', StO G H S' σ ρ' F' ∧ FzL G H S' ds vs ∧ Ext (fun x => x ∈ T ∨ Pf F x) S H (Pf F') S' H
  | [], ρ, ρ', F, S, vs, T, ds, st, r, dj, e => by
    cases e
    rw [r.1]
    exact ⟨S, F, st, .nil, Ext.refl.congr (fun _ p => .inr p) fun _ p => p⟩
  | o :: os, ρ, ρ', F, S, vs, T, ds, st, r, dj, e => by
    obtain ⟨v, vr, T1, T2, rfl, rfl, h1, h2, h3⟩ := r
    simp only [valL] at e
    obtain ⟨d, ρ1, e1, e⟩ := bnd_some e fun e ρ => val_noer
    obtain ⟨ds', ρ2, e2, e⟩ := bnd_some e fun e ρ => valL_noer os
    cases e
    obtain ⟨S1, F1, T', st1, w, dj1, x1⟩ := val_ok st h1 (fun x hx => dj x (List.mem_append_left _ hx)) e1
    obtain ⟨st2, f2, x2⟩ := frz_ok st1 w dj1
    have x12 := x1.trans x2
    have sep : ∀ x, (x ∈ T1 ∨ Pf F x) → ¬ S x := fun x hx => by
      rcases hx with hx | hx
      · exact (rO_ok.there h1 hx).1
      · exact st.sep x hx
    have k2 : rOs G σ H (addS S1 T') os vr T2 := rOs_keep x12 sep os h2 fun x hx hp => by
      rcases hp with hp | hp
      · exact h3 x hp hx
      · exact dj x (List.mem_append_right _ hx) hp
    have dj2 : ∀ x, x ∈ T2 → ¬ Pf F1 x := fun x hx hp => by
      rcases x12.own x hp with z | z
      · rcases z with z | z
        · exact h3 x z hx
        · exact dj x (List.mem_append_right _ hx) z
      · obtain ⟨u, q⟩ := (rOs_there os h2 hx).2
        rw [z] at q; cases q
    obtain ⟨S3, F3, st3, f3, x3⟩ := valL_ok os st2 k2 dj2 e2
    refine ⟨S3, F3, st3, .cons (f2.mono (x3.mono fun x hx => ?_)) f3, ?_⟩
    · rcases hx with hx | hx
      · exact (rOs_there os k2 hx).1
      · exact st2.sep x hx
    · exact ((x12.frame fun x => x ∈ T2).trans x3).congr (fun x hx => by
        rcases hx with hx | hx | hx
        · exact .inl (List.mem_append_right _ hx)
        · exact .inl (List.mem_append_left _ hx)
        · exact .inr hx) fun _ p => p
end
end VP

set_option Elab.async false
set_option linter.all false
set_option maxRecDepth 100000
set_option maxHeartbeats 1000000
/-! Calls of the program's own defs: what a def promises, and how a caller takes it. -/
namespace VP
open PySem PySem.Spec PyProof.Rows L2

def backE (ds ds' : List D) : Ev := List.zipWith (fun d d' => some (if own d then d' else d)) ds ds'
/-- a def that evaluates as g -/
def spG (G : Gv) (g : Sem1) : Sp := fun vs H Q E => ∃ S ds F, StO G H S (vs.map some) (ds.map some) F ∧ match g ds with
  | none => False
  | some (.ok d, ds') => ds'.length = ds.length ∧ ∀ v H' S' F' T, Ext (Pf F) S H (fun x => x ∈ T ∨ Pf F' x) S' H' → StO G H' S' (vs.map some) (backE ds ds') F' → Ow G H' S' d v T → (∀ x, x ∈ T → ¬ Pf F' x) → Q v H'
  | some (.error e, ds') => ds'.length = ds.length ∧ ∀ c x H' S' F', Ext (Pf F) S H (Pf F') S' H' → StO G H' S' (vs.map some) (backE ds ds') F' → ErR G e c x H' → E c x H'
section
variable {G : Gv} {W : WX} {H H' : Hp} {S S' : AP'} {σ : L2.St} {ρ ρ' : Ev} {F F' : Fps}
abbrev tmps (ds : List D) : List Opd := ds.map .tmp
/-- the arguments taken out of the slots -/
theorem takeOut : ∀ (os : List Opd) {ρ : Ev} {F : Fps} {vs : List V} {T : List Addr} {ds : List D}, StO G H S σ ρ F → rOs G σ H S os vs T → (∀ x, x ∈ T → ¬ Pf F x) → resL ρ os = some ds → (ownLocs os ds).Nodup →
    ∃ F1 T1, StO G H S σ (blank ρ (ownLocs os ds)) F1 ∧ rOs G σ H S (tmps ds) vs T1 ∧ (∀ x, x ∈ T1 → ¬ Pf F1 x) ∧ (∀ x, x ∈ T1 ∨ Pf F1 x → x ∈ T ∨ Pf F x) ∧ (∀ i, i ∉ ownLocs os ds → F1 i = F i) ∧ (∀ x, x ∈ T1 → x ∈ T ∨ ∃ i, i ∈ ownLocs os ds ∧ x ∈ F i)
  | [], ρ, F, vs, T, ds, st, r, dj, e, nd => by
    cases e
    exact ⟨F, [], st, ⟨r.1, rfl⟩, (fun x hx => by cases hx), fun x hx => by rcases hx with hx | hx; cases hx; exact .inr hx, fun _ _ => rfl, fun x hx => by cases hx⟩
  | o :: os, ρ, F, vs, T, ds, st, r, dj, e, nd => by
    obtain ⟨v, vr, Ta, Tb, rfl, rfl, h1, h2, h3⟩ := r
    simp only [resL] at e
    cases e1 : res ρ o with
    | none => rw [e1] at e; cases e
    | some d =>
      cases e2 : resL ρ os with
      | none => rw [e1, e2] at e; cases e
      | some ds' =>
        rw [e1, e2] at e; cases e
        have ndr : (ownLocs os ds').Nodup := by
          cases o with
          | tmp _ => exact nd
          | loc i =>
            simp only [ownLocs] at nd
            split at nd
            · exact (List.nodup_cons.mp nd).2
            · exact nd
        obtain ⟨F1, T1, st1, r1, dj1, sub1, same1, inT1⟩ := takeOut os st h2 (fun x hx => dj x (List.mem_append_right _ hx)) e2 ndr
        cases o with
        | tmp d' =>
          cases e1
          refine ⟨F1, Ta ++ T1, st1, ⟨v, vr, Ta, T1, rfl, rfl, h1, r1, fun x hx hy => ?_⟩, fun x hx hp => ?_, fun x hx => ?_, same1, fun x hx => ?_⟩
          · rcases sub1 x (.inl hy) with z | z
            · exact h3 x hx z
            · exact dj x (List.mem_append_left _ hx) z
          · rcases List.mem_append.mp hx with hx | hx
            · rcases sub1 x (.inr hp) with z | z
              · exact h3 x hx z
              · exact dj x (List.mem_append_left _ hx) z
            · exact dj1 x hx hp
          · rcases hx with hx | hx
            · rcases List.mem_append.mp hx with hx | hx
              · exact .inl (List.mem_append_left _ hx)
              · rcases sub1 x (.inl hx) with z | z
                · exact .inl (List.mem_append_right _ z)
                · exact .inr z
            · rcases sub1 x (.inr hx) with z | z
              · exact .inl (List.mem_append_right _ z)
              · exact .inr z
          · rcases List.mem_append.mp hx with hx | hx
            · exact .inl (List.mem_append_left _ hx)
            · rcases inT1 x hx with z | z
              · exact .inl (List.mem_append_right _ z)
              · exact .inr z
        | loc i =>
          obtain ⟨rfl, hv⟩ := h1
          have ei := res_loc e1
          obtain ⟨v', e3, w⟩ := st.slot i d ei
          rw [hv] at e3; cases e3
          by_cases ho : own d = true
          · have eo : ownLocs (.loc i :: os) (d :: ds') = i :: ownLocs os ds' := by simp only [ownLocs, ho, if_true]
            rw [eo] at nd ⊢
            have hni := (List.nodup_cons.mp nd).1
            refine ⟨putF F1 i [], F i ++ T1, ?_, ⟨v, vr, F i, T1, rfl, rfl, w, r1, fun x hx hy => ?_⟩, fun x hx hp => ?_, fun x hx => ?_, fun j hj => ?_, fun x hx => ?_⟩
            · show StO G H S σ ((blank ρ (ownLocs os ds')).set i none) _
              exact st1.none_ i
            · have hx1 : x ∈ F1 i := by rw [same1 i hni]; exact hx
              exact dj1 x hy ⟨i, hx1⟩
            · rcases Pf_put hp with z | z
              · cases z
              · obtain ⟨j, hj⟩ := hp
                unfold putF at hj
                split at hj
                · cases hj
                · rename_i hji
                  rcases List.mem_append.mp hx with hx | hx
                  · have hx1 : x ∈ F1 i := by rw [same1 i hni]; exact hx
                    exact hji (st1.dis j i x hj hx1)
                  · exact dj1 x hx z
            · rcases hx with hx | hx
              · rcases List.mem_append.mp hx with hx | hx
                · exact .inr ⟨i, hx⟩
                · rcases sub1 x (.inl hx) with z | z
                  · exact .inl z
                  · exact .inr z
              · rcases Pf_put hx with z | z
                · cases z
                · rcases sub1 x (.inr z) with z | z
                  · exact .inl z
                  · exact .inr z
            · have hji : j ≠ i := fun z => hj (by rw [z]; exact List.mem_cons_self)
              rw [putF_ne hji]
              exact same1 j fun z => hj (List.mem_cons_of_mem _ z)
            · rcases List.mem_append.mp hx with hx | hx
              · exact .inr ⟨i, List.mem_cons_self, hx⟩
              · rcases inT1 x hx with z | ⟨j, hj, z⟩
                · exact .inl z
                · exact .inr ⟨j, List.mem_cons_of_mem _ hj, z⟩
          · have ho' : own d = false := by simpa using ho
            have eo : ownLocs (.loc i :: os) (d :: ds') = ownLocs os ds' := by simp only [ownLocs, ho', Bool.false_eq_true, if_false]
            rw [eo]
            refine ⟨F1, T1, st1, ⟨v, vr, [], T1, rfl, rfl, .of ho' (w.fz ho').2, r1, (fun x hx => by cases hx)⟩, dj1, sub1, same1, inT1⟩
/-- a list of values as slots -/
def argF : List Opd → List V → List Addr → Fps → Prop := fun os vs T F => True
theorem args_sto (wf : Wf S H) : ∀ (ds : List D) {vs : List V} {T : List Addr}, rOs G σ H S (tmps ds) vs T → ∃ F, StO G H S (vs.map some) (ds.map some) F ∧ (∀ x, Pf F x ↔ x ∈ T)
  | [], vs, T, r => by
    obtain ⟨rfl, rfl⟩ := r
    exact ⟨fun _ => [], ⟨rfl, fun i d e => by simp at e, fun _ _ => rfl, (fun i j a h => by cases h), wf⟩, fun x => ⟨fun ⟨i, h⟩ => (by cases h), fun h => (by cases h)⟩⟩
  | d :: ds, vs, T, r => by
    obtain ⟨v, vr, T1, T2, rfl, rfl, h1, h2, h3⟩ := r
    obtain ⟨F, st, hF⟩ := args_sto wf ds h2
    refine ⟨fun i => match i with | 0 => T1 | i + 1 => F i, ⟨by simpa using st.len, fun i x e => ?_, fun i n => ?_, fun i j a hi hj => ?_, wf⟩, fun x => ⟨fun ⟨i, h⟩ => ?_, fun h => ?_⟩⟩
    · cases i with
      | zero => simp at e; subst e; exact ⟨v, rfl, h1⟩
      | succ i =>
        obtain ⟨u, e1, w⟩ := st.slot i x (by simpa using e)
        exact ⟨u, by simpa using e1, w⟩
    · cases i with
      | zero => exact absurd rfl (n d)
      | succ i => exact st.emp i fun x q => n x (by simpa using q)
    · cases i with
      | zero => cases j with
        | zero => rfl
        | succ j => exact absurd ((hF a).mp ⟨j, hj⟩) (h3 a hi)
      | succ i => cases j with
        | zero => exact absurd ((hF a).mp ⟨i, hi⟩) (h3 a hj)
        | succ j => rw [st.dis i j a hi hj]
    · cases i with
      | zero => exact List.mem_append_left _ h
      | succ i => exact List.mem_append_right _ ((hF x).mp ⟨i, h⟩)
    · rcases List.mem_append.mp h with h | h
      · exact ⟨0, h⟩
      · obtain ⟨i, hi⟩ := (hF x).mpr h
        exact ⟨i + 1, hi⟩
/-- the arguments put back into the slots -/
theorem putIn : ∀ (os : List Opd) {ρ : Ev} {F : Fps} {vs : List V} {T0 : List Addr} {S0 : AP'} {H0 : Hp} {ds ds' : List D} {Fa : Fps}, StO G H S σ ρ F → rOs G σ H0 S0 os vs T0 → ds.length = os.length → ds'.length = ds.length →
    (∀ i d, (backE ds ds')[i]? = some (some d) → ∃ v, vs[i]? = some v ∧ Ow G H S d v (Fa i)) → (∀ i a, a ∈ Fa i → ¬ Pf F a) → (∀ i j a, a ∈ Fa i → a ∈ Fa j → i = j) →
    ∃ F2, StO G H S σ (putBack os ds ds' ρ) F2 ∧ ∀ x, Pf F2 x → Pf Fa x ∨ Pf F x
  | [], ρ, F, vs, T0, S0, H0, ds, ds', Fa, st, r, l1, l2, h, d1, d2 => by
    refine ⟨F, ?_, fun x p => .inr p⟩
    have : putBack [] ds ds' ρ = ρ := by unfold putBack; rfl
    rw [this]; exact st
  | o :: os, ρ, F, vs, T0, S0, H0, [], ds', Fa, st, r, l1, l2, h, d1, d2 => by cases l1
  | o :: os, ρ, F, vs, T0, S0, H0, d :: ds, [], Fa, st, r, l1, l2, h, d1, d2 => by cases l2
  | o :: os, ρ, F, vs, T0, S0, H0, d :: ds, d' :: ds', Fa, st, r, l1, l2, h, d1, d2 => by
    obtain ⟨v, vr, Ta, Tb, rfl, rfl, h1, h2, h3⟩ := r
    have hs : ∀ i d, (backE ds ds')[i]? = some (some d) → ∃ v, vr[i]? = some v ∧ Ow G H S d v (Fa (i + 1)) := fun i x e => by
      obtain ⟨u, e1, w⟩ := h (i + 1) x (by simpa [backE] using e)
      exact ⟨u, by simpa using e1, w⟩
    have dd : ∀ i j a, a ∈ Fa (i + 1) → a ∈ Fa (j + 1) → i = j := fun i j a h1 h2 => by have := d2 _ _ a h1 h2; omega
    cases o with
    | tmp x =>
      obtain ⟨F2, st2, sub⟩ := putIn os (Fa := fun i => Fa (i + 1)) st h2 (by simpa using l1) (by simpa using l2) hs (fun i a ha => d1 (i + 1) a ha) dd
      refine ⟨F2, by simp only [putBack]; exact st2, fun y p => ?_⟩
      rcases sub y p with ⟨i, z⟩ | z
      · exact .inl ⟨i + 1, z⟩
      · exact .inr z
    | loc i =>
      simp only [putBack]
      by_cases ho : own d = true
      · rw [if_pos ho]
        obtain ⟨u, e1, w⟩ := h 0 d' (by simp [backE, ho])
        cases e1
        have hi := (List.getElem?_eq_some_iff.mp h1.2).1
        have st1 := st.put (i := i) hi w fun a ha => d1 0 a ha
        rw [set_same h1.2] at st1
        obtain ⟨F2, st2, sub⟩ := putIn os (Fa := fun i => Fa (i + 1)) st1 h2 (by simpa using l1) (by simpa using l2) hs (fun j a ha hp => by
          rcases Pf_put hp with z | z
          · have := d2 (j + 1) 0 a ha z; omega
          · exact d1 (j + 1) a ha z) dd
        refine ⟨F2, st2, fun y p => ?_⟩
        rcases sub y p with ⟨j, z⟩ | z
        · exact .inl ⟨j + 1, z⟩
        · rcases Pf_put z with z | z
          · exact .inl ⟨0, z⟩
          · exact .inr z
      · rw [if_neg ho]
        obtain ⟨F2, st2, sub⟩ := putIn os (Fa := fun i => Fa (i + 1)) st h2 (by simpa using l1) (by simpa using l2) hs (fun i a ha => d1 (i + 1) a ha) dd
        refine ⟨F2, st2, fun y p => ?_⟩
        rcases sub y p with ⟨i, z⟩ | z
        · exact .inl ⟨i + 1, z⟩
        · exact .inr z
theorem resL_len : ∀ {os : List Opd} {ds : List D}, resL ρ os = some ds → ds.length = os.length
  | [], ds, e => by cases e; rfl
  | o :: os, ds, e => by
    simp only [resL] at e
    cases e1 : res ρ o with
    | none => rw [e1] at e; cases e
    | some d =>
      cases e2 : resL ρ os with
      | none => rw [e1, e2] at e; cases e
      | some ds' =>
        rw [e1, e2] at e; cases e
        simp [resL_len e2]
/-- THE CALL: from the caller's arguments to the callee's promise -/
theorem call_ok {g : Sem1} {os : List Opd} {vs : List V} {T : List Addr} {R1 : AP'} {Q : VK} (st : StO G H S σ ρ F) (r : rOs G σ H S os vs T) (hd : Hd H S F (fun x => x ∈ T ∨ R1 x))
    (h : Fin G W σ S H (fun x => (x ∈ T ∨ R1 x) ∨ Pf F x) (rO G σ) Q (callF g os ρ)) : spG G g vs H Q (WE W σ) := by
  unfold callF at h
  cases er : resL ρ os with
  | none => rw [er] at h; exact h.elim
  | some ds =>
    rw [er] at h
    by_cases nd : (ownLocs os ds).Nodup
    · simp only [nd, if_true] at h
      have dj : ∀ x, x ∈ T → ¬ Pf F x := fun x hx => hd.f x (.inl hx)
      obtain ⟨F1, T1, st1, r1, dj1, sub1, _, inT1⟩ := takeOut os st r dj er nd
      obtain ⟨Fa, sa, hFa⟩ := args_sto (σ := σ) st.wf ds r1
      refine ⟨S, ds, Fa, sa, ?_⟩
      have P1 : ∀ x, Pf Fa x → ((x ∈ T ∨ R1 x) ∨ Pf F x) := fun x hx => by
        rcases inT1 x ((hFa x).mp hx) with z | ⟨i, _, z⟩
        · exact .inl (.inl z)
        · exact .inr ⟨i, z⟩
      -- the caller's other slots stay
      have stay : ∀ {P' : AP'} {S' : AP'} {H' : Hp}, Ext (Pf Fa) S H P' S' H' → Wf S' H' → StO G H' S' σ (blank ρ (ownLocs os ds)) F1 := fun x wf =>
        st1.keep x (fun y hy => sa.sep y hy) (fun y hy hp => dj1 y ((hFa y).mp hp) hy) wf
      have apart : ∀ {P' : AP'} {S' : AP'} {H' : Hp}, Ext (Pf Fa) S H P' S' H' → ∀ x, P' x → ¬ Pf F1 x := fun ex x hx hp => by
        rcases ex.own x hx with z | z
        · exact dj1 x ((hFa x).mp z) hp
        · obtain ⟨u, e⟩ := (st1.own hp).2
          rw [z] at e; cases e
      cases eg : g ds with
      | none => rw [eg] at h; exact h.elim
      | some p =>
        obtain ⟨x, ds'⟩ := p
        rw [eg] at h
        cases x with
        | ok d =>
          simp only at h
          by_cases hl : ds'.length = ds.length
          · rw [if_pos hl] at h
            refine ⟨hl, fun v H' S' F' T' ex sa' w dj' => ?_⟩
            have st2 := stay ex sa'.wf
            obtain ⟨F2, st3, sub3⟩ := putIn os (ds := ds) (ds' := ds') (Fa := F') st2 r (resL_len er) hl (fun i d e => by
              obtain ⟨u, e1, w⟩ := sa'.slot i d e
              refine ⟨u, ?_, w⟩
              rw [List.getElem?_map] at e1
              cases q : vs[i]? with
              | none => rw [q] at e1; cases e1
              | some u' => rw [q] at e1; simp at e1; rw [e1]) (fun i a ha hp => apart ex a (.inr ⟨i, ha⟩) hp) sa'.dis
            refine h v H' S' F2 T' ?_ st3 w fun x hx hp => ?_
            · refine (ex.frame fun x => Pf F1 x ∨ (x ∈ T ∧ x ∉ T1) ∨ R1 x).congr (fun x hx => ?_) fun x hx => ?_
              · rcases hx with (hx | hx | hx) | hx
                · rcases sub1 x (.inr hx) with z | z
                  · exact .inl (.inl z)
                  · exact .inr z
                · exact .inl (.inl hx.1)
                · exact .inl (.inr hx)
                · exact P1 x hx
              · rcases hx with hx | hx
                · exact .inr (.inl hx)
                · rcases sub3 x hx with z | z
                  · exact .inr (.inr z)
                  · exact .inl (.inl z)
            · rcases sub3 x hp with z | z
              · exact dj' x hx z
              · exact apart ex x (.inl hx) z
          · rw [if_neg hl] at h; exact h.elim
        | error e =>
          simp only at h
          by_cases hl : ds'.length = ds.length
          · rw [if_pos hl] at h
            refine ⟨hl, fun c xa H' S' F' ex sa' er' => ?_⟩
            have st2 := stay ex sa'.wf
            obtain ⟨F2, st3, sub3⟩ := putIn os (ds := ds) (ds' := ds') (Fa := F') st2 r (resL_len er) hl (fun i d e => by
              obtain ⟨u, e1, w⟩ := sa'.slot i d e
              refine ⟨u, ?_, w⟩
              rw [List.getElem?_map] at e1
              cases q : vs[i]? with
              | none => rw [q] at e1; cases e1
              | some u' => rw [q] at e1; simp at e1; rw [e1]) (fun i a ha hp => apart ex a ⟨i, ha⟩ hp) sa'.dis
            refine h c xa H' S' F2 ?_ st3 er'
            refine (ex.frame fun x => Pf F1 x ∨ (x ∈ T ∧ x ∉ T1) ∨ R1 x).congr (fun x hx => ?_) fun x hx => ?_
            · rcases hx with (hx | hx | hx) | hx
              · rcases sub1 x (.inr hx) with z | z
                · exact .inl (.inl z)
                · exact .inr z
              · exact .inl (.inl hx.1)
              · exact .inl (.inr hx)
              · exact P1 x hx
            · rcases sub3 x hx with z | z
              · exact .inr z
              · exact .inl (.inl z)
          · rw [if_neg hl] at h; exact h.elim
    · simp only [nd, if_false] at h; exact h.elim
end
end VP

set_option Elab.async false
set_option linter.all false
set_option maxRecDepth 100000
set_option maxHeartbeats 1000000
/-! Readings of the fragment's expressions, one rule each. -/
namespace VP
open PySem PySem.Spec PyProof.Rows L2

/-- what holds where a body (or a comprehension's block) runs -/
structure Good (X : Cx) (G : Gv) (W : WX) (Φ : Fns) : Prop where
  K : X.K = G.K
  mg : X.mg = G.mg
  calm : X.calm = true
  nd : X.N.Nodup
  hh : X.A.handled = none
  hu : X.A.units + 200 < cLine
  tk : Takes X W
  fn : ∀ f, f ∈ Φ.dom → ∃ a fd ps k, G.mg f = some (.ref a) ∧ PySem.W.keepIn X.K (.ref a) = true ∧ FnOk X.prog X.w X.K X.mg X.base (L2.CX X.prog X.w) k a fd ps (spG G (Φ.fn f)) ∧ Room k X.A ∧ L2.Binds X.K fd ps []
  con : ∀ x d, Φ.con x = some d → own d = false ∧ ∃ v u, G.mg x = some u ∧ RelV v u ∧ ∀ H S, Fz G H S d v
  blt : ∀ x : String, x ∈ ["len", "tuple", "list", "int", "abs", "all", "any", "sum", "isinstance", "max", "min", "sorted", "str", "range", "zip", "enumerate", "bool", "set"] → G.mg (Str.ofString x) = none

abbrev tO (G : Gv) (W : WX) (m : Ev → R Opd) : TE := tG G W (rO G) m
abbrev tOs (G : Gv) (W : WX) (m : Ev → R (List Opd)) : TA := tG G W (rOs G) m
abbrev tT (G : Gv) (W : WX) (m : Ev → R Bool) : TT := tG G W rB m
section
variable {X : Cx} {G : Gv} {W : WX} {Φ : Fns} {σ : L2.St} {H : Hp} {S : AP'} {ρ : Ev} {F : Fps} {Q : VK} {e a b c : Expr} {e' a' b' c' : E} {pos : Pos}
theorem Ext.same {P : AP'} : Ext P S H (fun x => x ∈ ([] : List Addr) ∨ P x) S H := Ext.refl.congr (fun _ z => z) fun x z => by rcases z with z | z; cases z; exact z
theorem fin_ret {α β : Type} {Rl : Hp → AP' → α → β → List Addr → Prop} {Qd : β → Hp → Prop} {P : AP'} {x : α} {y : β} (h : Fin G W σ S H P Rl Qd (ret x ρ)) (st : StO G H S σ ρ F) (r : Rl H S x y []) (hP : ∀ x, Pf F x → P x) : Qd y H :=
  h y H S F [] (Ext.refl.congr (fun _ z => z) fun x z => by rcases z with z | z; cases z; exact hP x z) st r fun _ hx => by cases hx
/-- a plain value -/
theorem fin_val {P : AP'} {d : D} {v : V} (h : Fin G W σ S H P (rO G σ) Q (ret (.tmp d) ρ)) (st : StO G H S σ ρ F) (r : Fz G H S d v) (hP : ∀ x, Pf F x → P x) : Q v H := fin_ret h st (show rO G σ H S (.tmp d) v [] from r.ow) hP

theorem e_var {x : Str} {i : Nat} (hN : X.N[i]? = some x) (hv : Vis X.env.scope x) (hd : (x == ("__debug__" : Str)) = false) (hcd : (x == ("__classdict__" : Str)) = false) : PE X (.Name x pos) (tO G W (op Φ (.var i))) := by
  refine (pe_var hN hv hd hcd).imp fun σ H Q ⟨S, ρ, F, st, h⟩ => ?_
  simp only [op] at h
  split at h
  · rename_i d e
    obtain ⟨v, e1, w⟩ := st.slot i d e
    exact ⟨v, e1, fin_ret h st (show rO G σ H S (.loc i) v [] from ⟨rfl, e1⟩) fun _ z => z⟩
  · exact h.elim
theorem e_c {v : V} {d : D} (h : PE X e (tC v)) (hd : ∀ H S, Fz G H S d v) (he : ∀ ρ, op Φ e' ρ = ret (.tmp d) ρ) : PE X e (tO G W (op Φ e')) :=
  h.imp fun σ H Q ⟨S, ρ, F, st, q⟩ => by
    rw [he] at q
    exact fin_val q st (hd H S) fun _ z => z
theorem e_int {i : Int} {j : Nat} : PE X (.Constant (.int i) j pos) (tO G W (op Φ (.int i))) := e_c (v := .int i) (d := .int i) pe_int (fun _ _ => rfl) fun _ => rfl
theorem e_bl {i : Bool} {j : Nat} : PE X (.Constant (.bool i) j pos) (tO G W (op Φ (.bl i))) := e_c (v := .bl i) (d := .bl i) pe_bl (fun _ _ => rfl) fun _ => rfl
theorem e_str {i : Str} {j : Nat} : PE X (.Constant (.str i) j pos) (tO G W (op Φ (.str i))) := e_c (v := .str i) (d := .str i) pe_str (fun _ _ => rfl) fun _ => rfl
theorem e_non {j : Nat} : PE X (.Constant .none j pos) (tO G W (op Φ .non)) := e_c (v := .non) (d := .non) pe_non (fun _ _ => rfl) fun _ => rfl
theorem e_glo {x : Str} (Gd : Good X G W Φ) (hg : Gl X x) (hd : (x == ("__debug__" : Str)) = false) : PE X (.Name x pos) (tO G W (op Φ (.glo x))) := by
  cases hc : Φ.con x with
  | none =>
    refine ⟨fun pins s σ H Q I ⟨S, ρ, F, st, q⟩ => ?_⟩
    simp only [op, hc] at q
    exact q.elim
  | some d =>
    obtain ⟨_, v, u, e1, e2, e3⟩ := Gd.con x d hc
    refine e_c (pe_glob hg (by rw [Gd.mg]; exact e1) e2 hd) e3 fun ρ => ?_
    simp only [op, hc]
theorem e_ty {x : Str} {t : String} (hg : Gl X x) (hm : X.mg x = none) (hv : bootBuiltins x = some (.type t)) (hn : x ≠ "__name__") (hd : (x == ("__debug__" : Str)) = false) : PE X (.Name x pos) (tO G W (op Φ (.ty t))) :=
  e_c (v := .ty t) (d := .ty t) (pe_bltn hg hm hv rfl hn hd) (fun _ _ => rfl) fun _ => rfl

/-! two operands -/
theorem two_ok {β : Type} {δ : Type} {Q : δ → Hp → Prop} {RlC : Hp → AP' → β → δ → List Addr → Prop} {k : Opd → Opd → Ev → R β} {Rr : V → V → Hp → Prop} (st : StO G H S σ ρ F) (h : Fin G W σ S H (Pf F) RlC Q (bnd (op Φ a' ρ) fun x ρ => bnd (op Φ b' ρ) fun y ρ => k x y ρ))
    (hk : ∀ oa ob ρ2 x y H2 S2 F2 Ta Tb R1, StO G H2 S2 σ ρ2 F2 → rO G σ H2 S2 oa x Ta → rO G σ H2 S2 ob y Tb → Hd H2 S2 F2 R1 → Fin G W σ S2 H2 (fun x => R1 x ∨ Pf F2 x) RlC Q (k oa ob ρ2) → Rr x y H2) :
    tO G W (op Φ a') σ H fun x H1 => tO G W (op Φ b') σ H1 fun y H2 => Rr x y H2 :=
  tG_intro0 rO_ok st h fun oa ρ1 x H1 S1 F1 Ta _ st1 hd1 ra _ h1 =>
    tG_intro rO_ok st1 hd1 h1 fun ob ρ2 y H2 S2 F2 Tb _ st2 hd2 rb _ ex h2 =>
      hk oa ob ρ2 x y H2 S2 F2 Ta Tb _ st2 (rO_ok.keep ra ex st1.sep fun z hz => hd1.f z (.inl hz)) rb hd2 h2
theorem e_bin {o : Bo} (Gd : Good X G W Φ) (ha : PE X a (tO G W (op Φ a'))) (hb : PE X b (tO G W (op Φ b'))) : PE X (.BinOp a (boOp o) b pos) (tO G W (op Φ (.bin o a' b'))) := by
  refine (pe_op (op_binD Gd.K o) ha hb).imp fun σ H Q ⟨S, ρ, F, st, h⟩ => ?_
  simp only [op] at h
  refine two_ok st h fun oa ob ρ2 x y H2 S2 F2 Ta Tb R1 st2 ra rb hd h2 => ?_
  cases ea : res ρ2 oa with
  | none => simp only [ea] at h2; exact h2.elim
  | some dx =>
    cases eb : res ρ2 ob with
    | none => simp only [ea, eb] at h2; exact h2.elim
    | some dy =>
      simp only [ea, eb] at h2
      cases eg : binD o dx dy with
      | none => simp only [eg, Option.map_none, lft] at h2; exact h2.elim
      | some d =>
        simp only [eg, Option.map_some, lft] at h2
        exact ⟨S2, dx, dy, d, st2.wf, .of_res st2 ra ea, .of_res st2 rb eb, eg, fun v H' S' T n w => Fin.laid h2 st2 n w⟩
def notSet : Expr → Bool
  | .Set _ _ _ => false
  | _ => true
def notStar : Expr → Bool
  | .Starred _ _ => false
  | _ => true
theorem not_set {e : Expr} {op : CmpOp} (h : notSet e = true) : behindInMarks op e = false := by
  cases e <;> first | rfl | simp [notSet] at h
theorem cmp_ok {c : Co} (Gd : Good X G W Φ) {σ : L2.St} {H : Hp} {Q : VK} (h : tO G W (op Φ (.cmp c a' b')) σ H Q) : tOp (rOp G fun a b => (cmpD c a b).map .bl) (tO G W (op Φ a')) (tO G W (op Φ b')) σ H Q := by
  obtain ⟨S, ρ, F, st, h⟩ := h
  simp only [op] at h
  refine two_ok st h fun oa ob ρ2 x y H2 S2 F2 Ta Tb R1 st2 ra rb hd h2 => ?_
  cases ea : res ρ2 oa with
  | none => simp only [ea] at h2; exact h2.elim
  | some dx =>
    cases eb : res ρ2 ob with
    | none => simp only [ea, eb] at h2; exact h2.elim
    | some dy =>
      simp only [ea, eb] at h2
      cases eg : cmpD c dx dy with
      | none => simp only [eg, Option.map_none, lft] at h2; exact h2.elim
      | some d =>
        simp only [eg, Option.map_some, lft] at h2
        exact ⟨S2, dx, dy, .bl d, st2.wf, .of_res st2 ra ea, .of_res st2 rb eb, by simp only [eg, Option.map_some], fun v H' S' T n w => Fin.laid h2 st2 n w⟩
theorem e_cmp {c : Co} (Gd : Good X G W Φ) (ha : PE X a (tO G W (op Φ a'))) (hb : PE X b (tO G W (op Φ b'))) (hn : notSet b = true) : PE X (.Compare a [coOp c] [b] pos) (tO G W (op Φ (.cmp c a' b'))) :=
  (pe_cmpR (op_cmpD Gd.K Gd.hu c) ha hb (not_set hn)).imp fun σ H Q h => cmp_ok Gd h
/-- a test of an expression's value -/
theorem tst_tr {σ : L2.St} {H : Hp} {Q : Bool → Hp → Prop} (Gd : Good X G W Φ) (h : tT G W (tst Φ (.tr e')) σ H Q) : tO G W (op Φ e') σ H fun x H' => ∃ k, TruV X.K x H' k ∧ Q k H' := by
  obtain ⟨S, ρ, F, st, h⟩ := h
  simp only [tst] at h
  refine tG_intro0 rO_ok st h fun oa ρ1 x H1 S1 F1 Ta _ st1 hd1 ra _ h1 => ?_
  cases ea : res ρ1 oa with
  | none => simp only [ea] at h1; exact h1.elim
  | some dx =>
    simp only [ea] at h1
    cases et : trD dx with
    | none => simp only [et, lft] at h1; exact h1.elim
    | some k =>
      simp only [et, lft] at h1
      exact ⟨k, tru_D Gd.K (.of_res st1 ra ea) et, fin_ret (Qd := Q) h1 st1 (show rB σ H1 S1 k k [] from ⟨rfl, rfl⟩) fun _ z => .inr z⟩
theorem bnd_assoc {α β γ : Type} (m : R α) (f : α → Ev → R β) (g : β → Ev → R γ) : bnd (bnd m f) g = bnd m fun a ρ => bnd (f a ρ) g := by
  cases m with
  | none => rfl
  | some o => cases o <;> rfl
/-- a comparison as a test -/
theorem t_cmp {c : Co} (Gd : Good X G W Φ) (ha : PE X a (tO G W (op Φ a'))) (hb : PE X b (tO G W (op Φ b'))) (hn : notSet b = true) : PT X (.Compare a [coOp c] [b] pos) (tT G W (tst Φ (.tr (.cmp c a' b')))) := by
  refine (pt_cmpR (op_cmpD Gd.K Gd.hu c) ha hb (not_set hn)).imp fun σ H Q h => ?_
  obtain ⟨S, ρ, F, st, h⟩ := h
  simp only [tst, op, bnd_assoc] at h
  refine two_ok (Q := Q) st h fun oa ob ρ2 x y H2 S2 F2 Ta Tb R1 st2 ra rb hd h2 => ?_
  cases ea : res ρ2 oa with
  | none => simp only [ea, bnd] at h2; exact h2.elim
  | some dx =>
    cases eb : res ρ2 ob with
    | none => simp only [ea, eb, bnd] at h2; exact h2.elim
    | some dy =>
      simp only [ea, eb] at h2
      cases eg : cmpD c dx dy with
      | none => simp only [eg, Option.map_none, lft, bnd] at h2; exact h2.elim
      | some d =>
        simp only [eg, Option.map_some, lft, bnd, res, trD] at h2
        exact ⟨S2, dx, dy, .bl d, st2.wf, .of_res st2 ra ea, .of_res st2 rb eb, by simp only [eg, Option.map_some], fun v H' S' T n w => by
          have w2 := w.fz rfl
          have ev : v = .bl d := w2.2
          have eT := w2.1
          subst eT
          refine ⟨d, ev, h2 d H' S' F2 [] ⟨fun a u e _ => n.keep a u e, n.froz, fun a u e _ h => n.back a u e h, fun a z => ?_⟩ (n.sto st2) ⟨rfl, rfl⟩ fun _ hx => by cases hx⟩
          rcases z with z | z
          · cases z
          · exact .inl (.inr z)⟩

/-! ### lists of operands -/
theorem star_one {e : Expr} {es : List Expr} {env : Env} (h : notStar e = true) : starEach (e :: es) env = (false, eval e env) :: starEach es env := by
  cases e <;> first | rfl | simp [notStar] at h
theorem star_all : ∀ {es : List Expr} {env : Env} {pos : Pos}, es.all notStar = true → (backTo pos (starEach es env)).any (·.1) = false
  | [], _, _, _ => rfl
  | e :: es, env, pos, h => by
    simp only [List.all_cons, Bool.and_eq_true] at h
    rw [star_one h.1]
    show (false || (backTo pos (starEach es env)).any (·.1)) = false
    rw [star_all h.2]; rfl
theorem star_len : ∀ {es : List Expr} {env : Env}, (starEach es env).length = es.length
  | [], _ => rfl
  | e :: es, env => by
    have : (starEach (e :: es) env).length = (starEach es env).length + 1 := by cases e <;> rfl
    rw [this, star_len, List.length_cons]
theorem as_nil : PA X [] (tOs G W (ops Φ [])) := by
  refine pa_nil.imp fun σ H Q ⟨S, ρ, F, st, h⟩ => ?_
  exact fin_ret h st (show rOs G σ H S [] [] [] from ⟨rfl, rfl⟩) fun _ z => z
theorem as_cons {es : List Expr} {es' : List E} (he : PE X e (tO G W (op Φ e'))) (hr : PA X es (tOs G W (ops Φ es'))) (hs : notStar e = true) : PA X (e :: es) (tOs G W (ops Φ (e' :: es'))) := by
  refine (pa_cons he hr (star_one hs)).imp fun σ H Q ⟨S, ρ, F, st, h⟩ => ?_
  simp only [ops] at h
  refine tG_intro0 rO_ok st h fun oa ρ1 x H1 S1 F1 Ta _ st1 hd1 ra _ h1 => ?_
  refine tG_intro rOs_ok st1 hd1 h1 fun os ρ2 xs H2 S2 F2 Tb _ st2 hd2 rb dj ex h2 => ?_
  have ra2 := rO_ok.keep ra ex st1.sep fun z hz => hd1.f z (.inl hz)
  refine h2 (x :: xs) H2 S2 F2 (Ta ++ Tb) (Ext.refl.congr (fun _ z => z) fun y z => ?_) st2 ⟨x, xs, Ta, Tb, rfl, rfl, ra2, rb, fun y hy hy2 => dj y hy2 (.inl hy)⟩ fun y hy hp => ?_
  · rcases z with z | z
    · rcases List.mem_append.mp z with z | z
      · exact .inl (.inr (.inl z))
      · exact .inl (.inl z)
    · exact .inr z
  · rcases List.mem_append.mp hy with z | z
    · exact hd2.f y (.inr (.inl z)) hp
    · exact hd2.f y (.inl z) hp
/-- values of operands, read -/
theorem rbs_of (st : StO G H S σ ρ F) : ∀ (os : List Opd) {vs : List V} {T : List Addr} {ds : List D}, rOs G σ H S os vs T → resL ρ os = some ds → RbL G H S ds vs
  | [], vs, T, ds, r, e => by cases e; exact r.1
  | o :: os, vs, T, ds, r, e => by
    obtain ⟨v, vr, T1, T2, rfl, rfl, h1, h2, h3⟩ := r
    simp only [resL] at e
    cases e1 : res ρ o with
    | none => rw [e1] at e; cases e
    | some d =>
      cases e2 : resL ρ os with
      | none => rw [e1, e2] at e; cases e
      | some ds' =>
        rw [e1, e2] at e; cases e
        exact ⟨v, vr, rfl, .of_res st h1 e1, rbs_of st os h2 e2⟩
theorem e_tup {es : List Expr} {es' : List E} {k : Nat} (h : PA X es (tOs G W (ops Φ es'))) : PE X (.Tuple es k pos) (tO G W (op Φ (.tup es'))) := by
  refine (pe_tupF h).imp fun σ H Q ⟨S, ρ, F, st, h⟩ => ?_
  simp only [op] at h
  refine tG_intro0 rOs_ok st h fun os ρ1 vs H1 S1 F1 T _ st1 hd1 r _ h1 => ?_
  cases ev : valL os ρ1 with
  | none => rw [ev] at h1; exact h1.elim
  | some o => cases o with
    | er er ρ2 => exact absurd ev (valL_noer os)
    | ok ds ρ2 =>
      obtain ⟨S2, F2, st2, f2, x2⟩ := valL_ok os st1 r (fun x hx => hd1.f x (.inl hx)) ev
      rw [ev, bnd_ok] at h1
      have h2 := (h1.weak (P1 := fun x => x ∈ T ∨ Pf F1 x) fun x z => by rcases z with z | z; exact .inl (.inl z); exact .inr z).step x2
      split at h2
      · rename_i hl
        refine ⟨by rw [← f2.length]; exact hl, fun p o ho hp => ?_⟩
        exact Fin.laid (R1 := fun _ => False) (h2.weak fun x z => by rcases z with z | z; exact z.elim; exact z) st2 (.laidS st2.wf hp) (Fz.tup_new f2 hp ho).ow
      · exact h2.elim
theorem e_lst {es : List Expr} {es' : List E} (h : PA X es (tOs G W (ops Φ es'))) : PE X (.List es pos) (tO G W (op Φ (.lst es'))) := by
  refine (pe_lst h).imp fun σ H Q ⟨S, ρ, F, st, h⟩ => ?_
  simp only [op] at h
  refine tG_intro0 rOs_ok st h fun os ρ1 vs H1 S1 F1 T _ st1 hd1 r _ h1 => ?_
  cases ev : valL os ρ1 with
  | none => rw [ev] at h1; exact h1.elim
  | some o => cases o with
    | er er ρ2 => exact absurd ev (valL_noer os)
    | ok ds ρ2 =>
      obtain ⟨S2, F2, st2, f2, x2⟩ := valL_ok os st1 r (fun x hx => hd1.f x (.inl hx)) ev
      rw [ev, bnd_ok] at h1
      have h2 := (h1.weak (P1 := fun x => x ∈ T ∨ Pf F1 x) fun x z => by rcases z with z | z; exact .inl (.inl z); exact .inr z).step x2
      split at h2
      · rename_i hl
        refine ⟨by rw [← f2.length]; exact hl, fun p hp => ?_⟩
        exact Fin.laid (R1 := fun _ => False) (h2.weak fun x z => by rcases z with z | z; exact z.elim; exact z) st2 (.laid st2.wf hp) (Ow.lst_new f2 st2.wf hp)
      · exact h2.elim
theorem e_bi {b : Bi} {x : Str} {es : List Expr} {es' : List E} {p : Pos} (Gd : Good X G W Φ) (hg : Gl X x) (hm : X.mg x = none) (hv : bootBuiltins x = some (biV b)) (h : PA X (e :: es) (tOs G W (ops Φ es'))) (hs : (e :: es).all notStar = true) (hn : x ≠ "__name__") (hd : (x == ("__debug__" : Str)) = false) :
    PE X (.Call (.Name x p) (e :: es) [] pos) (tO G W (op Φ (.bi b es'))) := by
  have h12 : notStar e = true ∧ es.all notStar = true := by simpa using hs
  have key : PE X (.Call (.Name x p) (e :: es) [] pos) (tCB (rCa G (biD b)) (tOs G W (ops Φ es'))) := by
    have hca := ca_D Gd.K Gd.calm Gd.hh Gd.hu b
    cases hb : biV b with
    | builtin id => rw [hb] at hv hca; exact pe_callB hca hg hm hv h hn hd (star_one h12.1) (star_all h12.2)
    | type T => rw [hb] at hv hca; exact pe_callTy hca hg hm hv h hn hd (star_one h12.1) (star_all h12.2)
    | _ => cases b <;> cases hb
  refine key.imp fun σ H Q ⟨S, ρ, F, st, h⟩ => ?_
  simp only [op] at h
  refine tG_intro0 rOs_ok st h fun os ρ1 vs H1 S1 F1 T _ st1 hd1 r _ h1 => ?_
  cases er : resL ρ1 os with
  | none => simp only [er] at h1; exact h1.elim
  | some ds =>
    simp only [er] at h1
    cases eg : biD b ds with
    | none => simp only [eg, Option.map_none, lft] at h1; exact h1.elim
    | some d =>
      simp only [eg, Option.map_some, lft] at h1
      exact ⟨S1, ds, d, st1.wf, rbs_of st1 os r er, eg, fun v H' S' T' n w => Fin.laid h1 st1 n w⟩
theorem e_call {f : Str} {es : List Expr} {es' : List E} {p : Pos} (Gd : Good X G W Φ) (hf : f ∈ Φ.dom) (hg : Gl X f) (h : PA X (e :: es) (tOs G W (ops Φ es'))) (hs : (e :: es).all notStar = true) (hd : (f == ("__debug__" : Str)) = false) :
    PE X (.Call (.Name f p) (e :: es) [] pos) (tO G W (op Φ (.call f es'))) := by
  have h12 : notStar e = true ∧ es.all notStar = true := by simpa using hs
  obtain ⟨a, fd, ps, k, e1, e2, e3, e4, e5⟩ := Gd.fn f hf
  refine (pe_callS e3 e4 hg (by rw [Gd.mg]; exact e1) e2 e5 (fun σ => passAt Gd.tk σ) h hd (star_one h12.1) (star_all h12.2)).imp fun σ H Q ⟨S, ρ, F, st, h⟩ => ?_
  simp only [op] at h
  refine tG_intro0 rOs_ok st h fun os ρ1 vs H1 S1 F1 T _ st1 hd1 r _ h1 => ?_
  exact call_ok (R1 := fun _ => False) st1 r hd1 h1
theorem e_call0 {f : Str} {p : Pos} (Gd : Good X G W Φ) (hf : f ∈ Φ.dom) (hg : Gl X f) (hd : (f == ("__debug__" : Str)) = false) :
    PE X (.Call (.Name f p) [] [] pos) (tO G W (op Φ (.call f []))) := by
  obtain ⟨a, fd, ps, k, e1, e2, e3, e4, e5⟩ := Gd.fn f hf
  refine ⟨fun pins s σ H Q I h => ?_⟩
  refine wpAny_Call_Name_kw (ld_glob I hg (by rw [Gd.mg]; exact e1) ?_ hd)
  refine PySem.W.callWith_K0 I.kIn e2 ?_
  refine run_fnS (us := []) (vs := []) (E := WE W) e3 e4 e5 (passAt Gd.tk σ) I .nil ?_
  obtain ⟨S, ρ, F, st, h⟩ := h
  simp only [op, ops, bnd_ret] at h
  exact call_ok (R1 := fun _ => False) (os := []) (T := []) st ⟨rfl, rfl⟩ ⟨fun x hx => (by rcases hx with hx | hx; cases hx; exact hx.elim), fun x hx => (by rcases hx with hx | hx; cases hx; exact hx.elim), fun x hx => (by rcases hx with hx | hx; cases hx; exact hx.elim)⟩
    (h.weak fun x z => by rcases z with (z | z) | z; cases z; exact z.elim; exact z)
/-- a local that holds a def -/
theorem e_callv {x : Str} {i : Nat} {es : List Expr} {es' : List E} {p : Pos} (Gd : Good X G W Φ) (hN : X.N[i]? = some x) (hv : Vis X.env.scope x) (h : PA X (e :: es) (tOs G W (ops Φ es'))) (hs : (e :: es).all notStar = true) (hd : (x == ("__debug__" : Str)) = false) (hcd : (x == ("__classdict__" : Str)) = false) :
    PE X (.Call (.Name x p) (e :: es) [] pos) (tO G W (op Φ (.callv i es'))) := by
  have h12 : notStar e = true ∧ es.all notStar = true := by simpa using hs
  refine ⟨fun pins s σ H Q I h0 => ?_⟩
  obtain ⟨S, ρ, F, st, q⟩ := h0
  simp only [op] at q
  split at q
  · rename_i f ei
    split at q
    · rename_i hf
      obtain ⟨a, fd, ps, k, e1, e2, e3, e4, e5⟩ := Gd.fn f hf
      obtain ⟨v, ev, w⟩ := st.slot i _ ei
      obtain ⟨_, a', ea, rfl⟩ := w
      rw [e1] at ea; cases ea
      have z := (pe_var (pos := p) hN hv hd hcd).run pins s σ H (fun v' H' => v' = .ref a ∧ H' = H) I ⟨_, ev, rfl, rfl⟩
      refine wpAny_Call_Name_kw (thn z fun u s1 ⟨v', H', I1, r1, e1', e2'⟩ => ?_)
      subst e1'
      rw [e2'] at I1
      cases r1
      refine PySem.W.callWith_K (h₀ := X.base) I1.ok.mod.kin e2 (thn (h.run pos pins s1 σ H (fun vs H1 => spG G (Φ.fn f) vs H1 Q (WE W σ)) I1 ?_) fun us s2 ⟨vs, H2, I2, r, q2⟩ => ⟨I2.kIn, ?_⟩) (star_one h12.1) (star_all h12.2)
      · refine tG_intro0 rOs_ok st q fun os ρ1 vs H1 S1 F1 T _ st1 hd1 r _ h1 => ?_
        exact call_ok (R1 := fun _ => False) st1 r hd1 h1
      · exact run_fnS e3 e4 e5 (passAt Gd.tk σ) I2 r q2
    · exact q.elim
  · exact q.elim
end
end VP

set_option Elab.async false
set_option linter.all false
set_option maxRecDepth 100000
set_option maxHeartbeats 1000000
/-! Readings, further rules. -/
namespace VP
open PySem PySem.Spec PyProof.Rows L2
section
variable {X : Cx} {G : Gv} {W : WX} {Φ : Fns} {σ : L2.St} {H : Hp} {S : AP'} {ρ : Ev} {F : Fps} {Q : VK} {e a b c : Expr} {e' a' b' c' : E} {pos : Pos}
theorem e_neg (ha : PE X a (tO G W (op Φ a'))) : PE X (.UnaryOp .USub a pos) (tO G W (op Φ (.neg a'))) := by
  refine (pe_un un_neg ha).imp fun σ H Q ⟨S, ρ, F, st, h⟩ => ?_
  simp only [op] at h
  refine tG_intro0 rO_ok st h fun oa ρ1 x H1 S1 F1 Ta _ st1 hd1 ra _ h1 => ?_
  cases ea : res ρ1 oa with
  | none => simp only [ea] at h1; exact h1.elim
  | some d =>
    cases d with
    | int i =>
      simp only [ea] at h1
      cases (Rb.of_res st1 ra ea).int
      exact ⟨i, rfl, fin_val h1 st1 rfl fun _ z => .inr z⟩
    | _ => simp only [ea] at h1; exact h1.elim
theorem e_nt (ha : PE X a (tO G W (op Φ a'))) : PE X (.UnaryOp .Not a pos) (tO G W (op Φ (.nt a'))) := by
  refine (pe_not ha).imp fun σ H Q ⟨S, ρ, F, st, h⟩ => ?_
  simp only [op] at h
  refine tG_intro0 rO_ok st h fun oa ρ1 x H1 S1 F1 Ta _ st1 hd1 ra _ h1 => ?_
  cases ea : res ρ1 oa with
  | none => simp only [ea] at h1; exact h1.elim
  | some d =>
    cases d with
    | bl i =>
      simp only [ea] at h1
      cases (Rb.of_res st1 ra ea).bl
      exact ⟨i, rfl, fin_val h1 st1 rfl fun _ z => .inr z⟩
    | _ => simp only [ea] at h1; exact h1.elim
/-- an evaluation goes on, nothing held but what is dropped -/
theorem go_on {α β : Type} {Rl : L2.St → Hp → AP' → α → β → List Addr → Prop} {m : Ev → R α} {Qd : β → Hp → Prop} {P : AP'} (st : StO G H S σ ρ F) (h : Fin G W σ S H P (Rl σ) Qd (m ρ)) (hP : ∀ x, Pf F x → P x) : tG G W Rl m σ H Qd :=
  ⟨S, ρ, F, st, h.weak hP⟩
theorem e_and {rest : List Expr} (ha : PE X a (tO G W (op Φ a'))) (hb : PE X (.BoolOp .And (b :: rest) pos) (tO G W (op Φ b'))) : PE X (.BoolOp .And (a :: b :: rest) pos) (tO G W (op Φ (.and a' b'))) := by
  refine (pe_and ha hb).imp fun σ H Q ⟨S, ρ, F, st, h⟩ => ?_
  simp only [op] at h
  refine tG_intro0 rO_ok st h fun oa ρ1 x H1 S1 F1 Ta _ st1 hd1 ra _ h1 => ?_
  cases ea : res ρ1 oa with
  | none => simp only [ea] at h1; exact h1.elim
  | some d =>
    cases d with
    | bl i =>
      cases (Rb.of_res st1 ra ea).bl
      refine ⟨i, rfl, ?_⟩
      cases i with
      | true => rw [if_pos rfl]; simp only [ea] at h1; exact go_on st1 h1 fun _ z => .inr z
      | false => rw [if_neg Bool.false_ne_true]; simp only [ea] at h1; exact fin_val h1 st1 rfl fun _ z => .inr z
    | _ => simp only [ea] at h1; exact h1.elim
theorem trD_frz (d : D) : trD (frz d) = trD d := by cases d <;> rfl
theorem e_or {rest : List Expr} (Gd : Good X G W Φ) (ha : PE X a (tO G W (op Φ a'))) (hb : PE X (.BoolOp .Or (b :: rest) pos) (tO G W (op Φ b'))) : PE X (.BoolOp .Or (a :: b :: rest) pos) (tO G W (op Φ (.or a' b'))) := by
  refine (pe_orT ha hb).imp fun σ H Q ⟨S, ρ, F, st, h⟩ => ?_
  simp only [op] at h
  refine tG_intro0 rO_ok st h fun oa ρ1 x H1 S1 F1 Ta _ st1 hd1 ra _ h1 => ?_
  cases ev : val oa ρ1 with
  | none => rw [ev] at h1; exact h1.elim
  | some o => cases o with
    | er er ρ2 => exact absurd ev val_noer
    | ok d ρ2 =>
      obtain ⟨S2, F2, T2, st2, w2, dj2, x2⟩ := val_ok st1 ra (fun x hx => hd1.f x (.inl hx)) ev
      rw [ev, bnd_ok] at h1
      have h2 := (h1.weak (P1 := fun x => x ∈ Ta ∨ Pf F1 x) fun x z => by rcases z with z | z; exact .inl (.inl z); exact .inr z).step x2
      cases et : trD d with
      | none => simp only [et] at h2; exact h2.elim
      | some k =>
        simp only [et] at h2
        have tv : TruV X.K x H1 k := tru_D Gd.K ⟨_, w2⟩ et
        refine ⟨k, tv, ?_⟩
        cases k with
        | true =>
          rw [if_pos rfl]
          exact h2 x H1 S2 F2 T2 .refl st2 w2 dj2
        | false =>
          rw [if_neg Bool.false_ne_true]
          exact go_on st2 h2 fun _ z => .inr z
theorem e_ife (hc : PT X c (tT G W (tst Φ c'))) (ha : PE X a (tO G W (op Φ a'))) (hb : PE X b (tO G W (op Φ b'))) : PE X (.IfExp c a b pos) (tO G W (op Φ (.ife c' a' b'))) := by
  refine (pe_ifExp hc ha hb).imp fun σ H Q ⟨S, ρ, F, st, h⟩ => ?_
  simp only [op] at h
  refine tG_intro0 rB_ok st h fun k ρ1 k2 H1 S1 F1 Ta _ st1 hd1 ra _ h1 => ?_
  obtain ⟨_, rfl⟩ := ra
  cases k2 with
  | true => rw [if_pos rfl] at h1 ⊢; exact go_on st1 h1 fun _ z => .inr z
  | false => rw [if_neg Bool.false_ne_true] at h1 ⊢; exact go_on st1 h1 fun _ z => .inr z
theorem two_D {g : D → D → Option D} {σ : L2.St} {H : Hp} {Q : VK} (h : tO G W (fun ρ => bnd (op Φ a' ρ) fun x ρ => bnd (op Φ b' ρ) fun y ρ => match res ρ x, res ρ y with
    | some dx, some dy => lft ((g dx dy).map .tmp) ρ
    | _, _ => none) σ H Q) : tOp (rOp G g) (tO G W (op Φ a')) (tO G W (op Φ b')) σ H Q := by
  obtain ⟨S, ρ, F, st, h⟩ := h
  refine two_ok st h fun oa ob ρ2 x y H2 S2 F2 Ta Tb R1 st2 ra rb hd h2 => ?_
  cases ea : res ρ2 oa with
  | none => simp only [ea] at h2; exact h2.elim
  | some dx =>
    cases eb : res ρ2 ob with
    | none => simp only [ea, eb] at h2; exact h2.elim
    | some dy =>
      simp only [ea, eb] at h2
      cases eg : g dx dy with
      | none => simp only [eg, Option.map_none, lft] at h2; exact h2.elim
      | some d =>
        simp only [eg, Option.map_some, lft] at h2
        exact ⟨S2, dx, dy, d, st2.wf, .of_res st2 ra ea, .of_res st2 rb eb, eg, fun v H' S' T n w => Fin.laid h2 st2 n w⟩
def notSlice : Expr → Bool
  | .Slice _ _ _ _ => false
  | _ => true
theorem plain_ix {e : Expr} (h : notSlice e = true) : PlainIx e := by
  intro o i
  cases e <;> first | rfl | simp [notSlice] at h
theorem e_ix (Gd : Good X G W Φ) (ha : PE X a (tO G W (op Φ a'))) (hb : PE X b (tO G W (op Φ b'))) (hs : notSlice b = true) : PE X (.Subscript a b pos) (tO G W (op Φ (.ix a' b'))) :=
  (pe_ix (ix_D Gd.K) ha hb (plain_ix hs)).imp fun σ H Q h => two_D h
/-! parts of a slice -/
theorem p_none : PO X none (tG G W rN (prt Φ .nil)) := ⟨fun pins s σ H Q I ⟨S, ρ, F, st, h⟩ => po_none.run pins s σ H Q I (fin_ret (Qd := Q) h st (show rN σ H S none none [] from ⟨rfl, rfl⟩) fun _ z => z)⟩
theorem p_some (ha : PE X a (tO G W (op Φ a'))) : PO X (some a) (tG G W rN (prt Φ (.pt a'))) := ⟨fun pins s σ H Q I ⟨S, ρ, F, st, h⟩ => by
  refine (po_some ha).run pins s σ H Q I ?_
  simp only [prt] at h
  refine tG_intro0 rO_ok st h fun oa ρ1 x H1 S1 F1 Ta _ st1 hd1 ra _ h1 => ?_
  cases ea : res ρ1 oa with
  | none => simp only [ea] at h1; exact h1.elim
  | some d =>
    cases d with
    | int i =>
      simp only [ea] at h1
      cases (Rb.of_res st1 ra ea).int
      exact ⟨i, rfl, fin_ret (Qd := Q) h1 st1 (show rN σ H1 S1 (some i) (some i) [] from ⟨rfl, rfl⟩) fun _ z => .inr z⟩
    | _ => simp only [ea] at h1; exact h1.elim⟩
theorem e_slc {lo hi : Option Expr} {lo' hi' : E} {p2 : Pos} (Gd : Good X G W Φ) (ha : PE X a (tO G W (op Φ a'))) (hl : PO X lo (tG G W rN (prt Φ lo'))) (hh : PO X hi (tG G W rN (prt Φ hi'))) : PE X (.Subscript a (.Slice lo hi none p2) pos) (tO G W (op Φ (.slc a' lo' hi'))) := by
  refine (pe_slice (sl_D Gd.K) ha hl hh).imp fun σ H Q ⟨S, ρ, F, st, h⟩ => ?_
  simp only [op] at h
  refine tG_intro0 rO_ok st h fun oa ρ1 x H1 S1 F1 Ta _ st1 hd1 ra _ h1 => ?_
  refine tG_intro rN_ok st1 hd1 h1 fun l ρ2 l2 H2 S2 F2 Tb _ st2 hd2 rb dj ex h2 => ?_
  refine tG_intro rN_ok st2 hd2 h2 fun u ρ3 u2 H3 S3 F3 Tc _ st3 hd3 rc dj3 ex3 h3 => ?_
  obtain ⟨_, rfl⟩ := rb
  obtain ⟨_, rfl⟩ := rc
  have ra2 := rO_ok.keep ra ex st1.sep fun z hz => hd1.f z (.inl hz)
  have ra3 := rO_ok.keep ra2 ex3 st2.sep fun z hz => hd2.f z (.inr (.inl hz))
  cases ea : res ρ3 oa with
  | none => simp only [ea] at h3; exact h3.elim
  | some dx =>
    simp only [ea] at h3
    cases eg : slcD dx l2 u2 with
    | none => simp only [eg, Option.map_none, lft] at h3; exact h3.elim
    | some d =>
      simp only [eg, Option.map_some, lft] at h3
      exact ⟨S3, dx, d, st3.wf, .of_res st3 ra3 ea, eg, fun v H' S' T n w => Fin.laid h3 st3 n w⟩
/-! chains -/
theorem chn_ok {c1 c2 : Co} {σ : L2.St} {H : Hp} {Q : VK} (h : tO G W (op Φ (.chn c1 c2 a' b' c')) σ H Q) : tChain (rOp G fun a b => (cmpD c1 a b).map .bl) (rOp G fun a b => (cmpD c2 a b).map .bl) (tO G W (op Φ a')) (tO G W (op Φ b')) (tO G W (op Φ c')) σ H Q := by
  obtain ⟨S, ρ, F, st, h⟩ := h
  simp only [op] at h
  refine tG_intro0 rO_ok st h fun oa ρ1 x H1 S1 F1 Ta _ st1 hd1 ra _ h1 => ?_
  refine tG_intro rO_ok st1 hd1 h1 fun ob ρ2 y H2 S2 F2 Tb _ st2 hd2 rb dj ex h2 => ?_
  have ra2 := rO_ok.keep ra ex st1.sep fun z hz => hd1.f z (.inl hz)
  cases ea : res ρ2 oa with
  | none => simp only [ea] at h2; exact h2.elim
  | some dx =>
    cases eb : res ρ2 ob with
    | none => simp only [ea, eb] at h2; exact h2.elim
    | some dy =>
      simp only [ea, eb] at h2
      cases eg : cmpD c1 dx dy with
      | none => simp only [eg] at h2; exact h2.elim
      | some k =>
        simp only [eg] at h2
        refine ⟨S2, dx, dy, .bl k, st2.wf, .of_res st2 ra2 ea, .of_res st2 rb eb, by simp only [eg, Option.map_some], fun v H' S' T n w => ?_⟩
        have w2 := w.fz rfl
        have eT := w2.1
        subst eT
        refine ⟨k, w2.2, ?_⟩
        have st3 := n.sto st2
        have exn : Ext (fun x => (x ∈ Tb ∨ x ∈ Ta ∨ False) ∨ Pf F2 x) S2 H2 (fun x => (x ∈ Tb ∨ x ∈ Ta ∨ False) ∨ Pf F2 x) S' H' := ⟨fun a u e _ => n.keep a u e, n.froz, fun a u e _ h => n.back a u e h, fun a z => .inl z⟩
        have exn0 : Ext (fun _ => False) S2 H2 (fun _ => False) S' H' := ⟨fun a u e _ => n.keep a u e, n.froz, fun a u e _ h => n.back a u e h, fun a z => z.elim⟩
        have h3 := h2.step exn
        cases k with
        | true =>
          simp only at h3
          rw [if_pos rfl]
          have hd3 : Hd H' S' F2 (fun x => x ∈ Tb ∨ x ∈ Ta ∨ False) := ⟨hd2.f, fun x hx hs => by
            obtain ⟨u, e⟩ := hd2.h x hx
            exact hd2.s x hx (n.back x u e hs), fun x hx => by
            obtain ⟨u, e⟩ := hd2.h x hx
            exact ⟨u, n.keep x u e⟩⟩
          have rb3 := rO_ok.keep rb exn0 (fun _ z => z.elim) fun _ _ z => z
          refine tG_intro rO_ok st3 hd3 h3 fun oc ρ4 z H4 S4 F4 Tc _ st4 hd4 rc dj4 ex4 h4 => ?_
          have rb4 := rO_ok.keep rb3 ex4 st3.sep fun z hz => hd3.f z (.inl hz)
          cases eb4 : res ρ4 ob with
          | none => simp only [eb4] at h4; exact h4.elim
          | some dy4 =>
            cases ec : res ρ4 oc with
            | none => simp only [eb4, ec] at h4; exact h4.elim
            | some dz =>
              simp only [eb4, ec] at h4
              cases eg2 : cmpD c2 dy4 dz with
              | none => simp only [eg2, Option.map_none, lft] at h4; exact h4.elim
              | some k2 =>
                simp only [eg2, Option.map_some, lft] at h4
                exact ⟨S4, dy4, dz, .bl k2, st4.wf, .of_res st4 rb4 eb4, .of_res st4 rc ec, by simp only [eg2, Option.map_some], fun v H' S' T n w => Fin.laid h4 st4 n w⟩
        | false =>
          simp only at h3
          rw [if_neg Bool.false_ne_true]
          exact fin_val h3 st3 rfl fun _ z => .inr z
theorem e_chn {c1 c2 : Co} (Gd : Good X G W Φ) (ha : PE X a (tO G W (op Φ a'))) (hb : PE X b (tO G W (op Φ b'))) (hc : PE X c (tO G W (op Φ c'))) (hm : lastMarks [coOp c1, coOp c2] [b, c] = false) : PE X (.Compare a [coOp c1, coOp c2] [b, c] pos) (tO G W (op Φ (.chn c1 c2 a' b' c'))) :=
  (pe_chain (op_cmpD Gd.K Gd.hu c1) (op_cmpD Gd.K Gd.hu c2) ha hb hc hm).imp fun σ H Q h => chn_ok h
/-! tests -/
theorem t_nt (ha : PT X a (tT G W (tst Φ a'))) : PT X (.UnaryOp .Not a pos) (tT G W (tst Φ (.nt a'))) := by
  refine (pt_not ha).imp fun σ H Q ⟨S, ρ, F, st, h⟩ => ?_
  simp only [tst] at h
  refine tG_intro0 rB_ok st h fun k ρ1 k2 H1 S1 F1 Ta _ st1 hd1 ra _ h1 => ?_
  obtain ⟨_, rfl⟩ := ra
  exact fin_ret (Qd := Q) h1 st1 (show rB σ H1 S1 (!k2) (!k2) [] from ⟨rfl, rfl⟩) fun _ z => .inr z
theorem _root_.L2.PW.imp {X : Cx} {e : Expr} {t t' : TT} (h : PW X e t) (f : ∀ σ H Q, t' σ H Q → t σ H Q) : PW X e t' := ⟨fun whole pins s σ H Q I q => h.run whole pins s σ H Q I (f σ H Q q)⟩
theorem t_and {rest : List Expr} (ha : PT X a (tT G W (tst Φ a'))) (hb : PW X (.BoolOp .And (b :: rest) pos) (tT G W (tst Φ b'))) : PW X (.BoolOp .And (a :: b :: rest) pos) (tT G W (tst Φ (.and a' b'))) := by
  refine (pw_and ha hb).imp fun σ H Q ⟨S, ρ, F, st, h⟩ => ?_
  simp only [tst] at h
  refine tG_intro0 rB_ok st h fun k ρ1 k2 H1 S1 F1 Ta _ st1 hd1 ra _ h1 => ?_
  obtain ⟨_, rfl⟩ := ra
  cases k2 with
  | true => rw [if_pos rfl] at h1 ⊢; exact go_on st1 h1 fun _ z => .inr z
  | false => rw [if_neg Bool.false_ne_true] at h1 ⊢; exact fin_ret (Qd := Q) h1 st1 (show rB σ H1 S1 false false [] from ⟨rfl, rfl⟩) fun _ z => .inr z
theorem t_or {rest : List Expr} (ha : PT X a (tT G W (tst Φ a'))) (hb : PW X (.BoolOp .Or (b :: rest) pos) (tT G W (tst Φ b'))) : PW X (.BoolOp .Or (a :: b :: rest) pos) (tT G W (tst Φ (.or a' b'))) := by
  refine (pw_or ha hb).imp fun σ H Q ⟨S, ρ, F, st, h⟩ => ?_
  simp only [tst] at h
  refine tG_intro0 rB_ok st h fun k ρ1 k2 H1 S1 F1 Ta _ st1 hd1 ra _ h1 => ?_
  obtain ⟨_, rfl⟩ := ra
  cases k2 with
  | true => rw [if_pos rfl] at h1 ⊢; exact fin_ret (Qd := Q) h1 st1 (show rB σ H1 S1 true true [] from ⟨rfl, rfl⟩) fun _ z => .inr z
  | false => rw [if_neg Bool.false_ne_true] at h1 ⊢; exact go_on st1 h1 fun _ z => .inr z
def plainTest : Expr → Bool
  | .UnaryOp .Not _ _ => false
  | .BoolOp _ _ _ => false
  | .IfExp _ _ _ _ => false
  | .Compare _ _ _ _ => false
  | _ => true
theorem t_tr (Gd : Good X G W Φ) (ha : PE X a (tO G W (op Φ a'))) (hp : plainTest a = true) : PT X a (tT G W (tst Φ (.tr a'))) := by
  refine (pt_truth ha fun whole => ?_).imp fun σ H Q h => tst_tr Gd h
  cases a <;> first | rfl | (simp [plainTest] at hp; done) | skip
  rename_i o _ _
  cases o <;> first | rfl | (simp [plainTest] at hp; done)
theorem bnd_inv {α β : Type} {m : R α} {f : α → Ev → R β} {x : β} {ρ' : Ev} (h : bnd m f = some (.ok x ρ')) : ∃ a ρ1, m = some (.ok a ρ1) ∧ f a ρ1 = some (.ok x ρ') := by
  cases m with
  | none => cases h
  | some o => cases o with
    | er e ρ => cases h
    | ok a ρ => exact ⟨a, ρ, rfl, h⟩
theorem chn_bl {c1 c2 : Co} {ρ ρ' : Ev} {o : Opd} (h : op Φ (.chn c1 c2 a' b' c') ρ = some (.ok o ρ')) : ∃ k, o = .tmp (.bl k) := by
  simp only [op] at h
  obtain ⟨x, ρ1, _, h⟩ := bnd_inv h
  obtain ⟨y, ρ2, _, h⟩ := bnd_inv h
  split at h
  · split at h
    · obtain ⟨z, ρ3, _, h⟩ := bnd_inv h
      split at h
      · rename_i dy dz _ _
        cases eg : cmpD c2 dy dz with
        | none => rw [eg] at h; cases h
        | some k => rw [eg] at h; cases h; exact ⟨k, rfl⟩
      · cases h
    · cases h; exact ⟨_, rfl⟩
    · cases h
  · cases h
/-- a test whose operand is a bool -/
theorem tst_bool {σ : L2.St} {H : Hp} {Q : Bool → Hp → Prop} (hb : ∀ ρ ρ' o, op Φ e' ρ = some (.ok o ρ') → ∃ k, o = .tmp (.bl k)) (h : tT G W (tst Φ (.tr e')) σ H Q) : tO G W (op Φ e') σ H fun x H' => ∃ k, x = .bl k ∧ Q k H' := by
  obtain ⟨S, ρ, F, st, h⟩ := h
  simp only [tst] at h
  refine tG_intro0 rO_ok st h fun oa ρ1 x H1 S1 F1 Ta hm st1 hd1 ra _ h1 => ?_
  obtain ⟨k, rfl⟩ := hb _ _ _ hm
  have w := Ow.fz (show Ow G H1 S1 (.bl k) x Ta from ra) rfl
  exact ⟨k, w.2, fin_ret (Qd := Q) h1 st1 (show rB σ H1 S1 k k [] from ⟨rfl, rfl⟩) fun _ z => .inr z⟩
theorem t_chn {c1 c2 : Co} (Gd : Good X G W Φ) (ha : PE X a (tO G W (op Φ a'))) (hb : PE X b (tO G W (op Φ b'))) (hc : PE X c (tO G W (op Φ c'))) (hm : lastMarks [coOp c1, coOp c2] [b, c] = false) : PT X (.Compare a [coOp c1, coOp c2] [b, c] pos) (tT G W (tst Φ (.tr (.chn c1 c2 a' b' c')))) :=
  (pt_chain (op_cmpD Gd.K Gd.hu c1) (op_cmpD Gd.K Gd.hu c2) ha hb hc hm).imp fun σ H Q h => chn_ok (tst_bool (fun _ _ _ => chn_bl) h)
end
end VP

set_option Elab.async false
set_option linter.all false
set_option maxRecDepth 100000
set_option maxHeartbeats 1000000
/-! Turned about; methods; lists changed. -/
namespace VP
open PySem PySem.Spec PyProof.Rows L2 HT
section
variable {prog : Program} {w : World} {A : Around} {E : Value → Shared → Prop} {s : Shared}
theorem applied_rev {sl : Addr} {vs : Value} {n : Nat} {Q : Int × Int × Nat → Shared → Prop} (hs : s.heap.IsSliceOf sl .none .none vs) (ps : IsPart vs (some (-1)))
    (h : Q ((n : Int) - 1, -1, n) s) : wpAny (model prog w) A (Builtin.Slice.sliceApplied (.ref sl) (pure (n : Int))) Q E s := by
  obtain ⟨os, hos, hcs, hds⟩ := id hs
  unfold Builtin.Slice.sliceApplied Builtin.Slice.sliceFields
  refine wpAny_bind (wpAny_bind (wpAny_field hos hds (x := .none) rfl (wpAny_bind (wpAny_field hos hds (x := .none) rfl (wpAny_bind (wpAny_field hos hds (x := vs) rfl (wpAny_pure ?_)))))))
  refine wpAny_bind (slicePart_ ps ?_)
  show wpAny _ _ (if ((-1 : Int) == 0) = true then _ else _) _ _ s
  rw [if_neg (by decide)]
  refine wpAny_bind (slicePart_none (wpAny_bind (slicePart_none (wpAny_bind (wpAny_pure ?_)))))
  have e : Builtin.Slice.slicePlaces ((n : Int) - 1) (-1) (-1) = n := by
    unfold Builtin.Slice.slicePlaces
    have h1 : ¬ ((-1 : Int) > 0) := by omega
    simp only [h1, if_false, Int.neg_neg, Int.ediv_one]
    split <;> omega
  show wpAny _ _ (pure ((n : Int) - 1, (-1 : Int), Builtin.Slice.slicePlaces ((n : Int) - 1) (-1) (-1))) _ _ s
  rw [e]
  exact wpAny_pure h
theorem pick_rev (xs : List Value) : ((List.range xs.length).filterMap fun (m : Nat) => xs.toArray[(((xs.length : Nat) : Int) - 1 + (m : Int) * -1).toNat]?) = xs.reverse := by
  apply List.ext_getElem?
  intro i
  have key : ∀ n, n ≤ xs.length → ((List.range n).filterMap fun (m : Nat) => xs.toArray[(((xs.length : Nat) : Int) - 1 + (m : Int) * -1).toNat]?) = xs.reverse.take n := by
    intro n
    induction n with
    | zero => intro _; rfl
    | succ n ih =>
      intro hn
      rw [List.range_succ, List.filterMap_append, ih (by omega), List.take_add_one]
      congr 1
      have e : (((xs.length : Nat) : Int) - 1 + (n : Int) * -1).toNat = xs.length - 1 - n := by omega
      simp only [List.filterMap_cons, List.filterMap_nil, e, List.getElem?_toArray]
      rw [List.getElem?_reverse (by omega)]
      cases xs[xs.length - 1 - n]? <;> rfl
  rw [key xs.length (Nat.le_refl _), List.take_of_length_le (by simp)]
theorem getItem_tuple_rev {t sl : Addr} {its : List Value} {vs : Value} {Q : Value → Shared → Prop} (ht : IsTup s.heap t its.toArray) (hs : s.heap.IsSliceOf sl .none .none vs) (ps : IsPart vs (some (-1)))
    (h : Q (.ref s.heap.objs.size) { s with heap := s.heap.push { cls := .type "tuple", data := .seq its.reverse.toArray } })
    (hsz : its.length ≤ sizeLine) : wpAny (model prog w) A (getItem (.ref t) (.ref sl)) Q E s := by
  have htake : sizeOk (.seq its.reverse.toArray) := by
    show its.reverse.toArray.size ≤ sizeLine
    rw [List.size_toArray, List.length_reverse]; exact hsz
  obtain ⟨os, hos, hcs, hds⟩ := id hs
  have hTs : s.TypeIs (.ref sl) "slice" := ⟨os, hos, hcs⟩
  unfold getItem
  try with_reducible refine wpAny_holding ?_
  first | refine wpAny_bind (wpAny_pure ?_) | skip
  refine wpAny_bind (wpAny_sequenceKey ht.typeIs (by decide) ?_)
  refine wpAny_bind (wpAny_callSpecial?_slot (name := Str.ofString "__getitem__") ht.typeIs PyProof.Rows.slot_tuple_getitem
    (wpAny_call_entry PyProof.Rows.slot_tuple_getitem ht.typeIs entry_tuple_getitem ?_ (args_tuple_getitem _ _)))
  show wpAny _ _ (Builtin.Tuple.tupleItemsOf (.ref t) >>= _) _ _ s
  refine wpAny_bind (tupleItemsOf_ ht ?_)
  refine wpAny_bind (wpAny_typeOf hTs ?_)
  rw [if_pos (by decide)]
  refine wpAny_bind (applied_rev hs ps ?_)
  have hno : ¬ ((((its.toArray.size : Nat) : Int) - 1 == 0 && (-1 : Int) == 1 && its.toArray.size == its.toArray.size) = true) := by simp
  show wpAny _ _ (if (((its.toArray.size : Nat) : Int) - 1 == 0 && (-1 : Int) == 1 && its.toArray.size == its.toArray.size) = true then _ else _) _ _ s
  rw [if_neg hno]
  simp only [List.size_toArray]
  rw [pick_rev]
  first
    | exact wpAny_bind (m := Builtin.Tuple.tupleExact _) (wpAny_newObj_type (wpAny_pure ⟨_, rfl, wpAny_pure h⟩) htake)
    | exact wpAny_bind (m := Builtin.Tuple.tupleExact _) (wpAny_newObj_type (wpAny_bind (wpAny_pure (wpAny_pure ⟨_, rfl, wpAny_pure h⟩))) htake)
    | exact wpAny_bind (wpAny_bind (m := Builtin.Tuple.tupleExact _) (wpAny_newObj_type (wpAny_pure (wpAny_pure ⟨_, rfl, wpAny_pure h⟩)) htake))
    | exact wpAny_bind (wpAny_bind (m := Builtin.Tuple.tupleExact _) (wpAny_newObj_type (wpAny_pure ⟨_, rfl, wpAny_pure h⟩) htake))
end
section
variable {X : Cx}
def tRevF (K : PySem.W.Frag) (te : TE) : TE := fun σ H Q => te σ H fun x H1 => ∃ a xs, x = .ref a ∧
  ((SqL K H1 a xs ∧ ∀ p, H1 p = none → Q (.ref p) (upd H1 p (.lst xs.reverse))) ∨ (SqT K H1 a xs ∧ ∀ (p : Addr) (o : Obj), o.dict = none → H1 p = none → Q (.ref p) (upd H1 p (.frz o (.tup xs.reverse)))))
theorem pe_revF {e : Expr} {te : TE} {k : Nat} {p1 p2 p3 pos : Pos} (he : PE X e te) : PE X (.Subscript e (.Slice none none (some (.UnaryOp .USub (.Constant (.int 1) k p1) p2)) p3) pos) (tRevF X.K te) := by
  refine ⟨fun pins s σ H Q I h => ?_⟩
  refine Subscript_ (thn (he.run pins s σ H _ I h) fun v s1 ⟨x, H1, I1, r1, q1⟩ => ?_)
  obtain ⟨a, xs, ex, q⟩ := q1
  subst ex
  cases r1
  have hst : PO X (some (.UnaryOp .USub (.Constant (.int 1) k p1) p2)) (tPart (tUn (rU fun i => .int (-i)) (tC (.int 1)))) := po_some (pe_un un_neg pe_int)
  refine wpAny_Slice (thn (po_none.run pins s1 σ H1 (fun o H2 => o = none ∧ H2 = H1) I1 ⟨rfl, rfl⟩) fun vl s2 ⟨l, H2, I2, pl, el, e2⟩ => ?_)
  subst el e2
  refine thn (po_none.run pins s2 σ H2 (fun o H3 => o = none ∧ H3 = H2) I2 ⟨rfl, rfl⟩) fun vu s3 ⟨u, H3, I3, pu, eu, e3⟩ => ?_
  subst eu e3
  refine thn (hst.run pins s3 σ H3 (fun o H4 => o = some (-1) ∧ H4 = H3) I3 ⟨1, rfl, -1, rfl, rfl, rfl⟩) fun vs s4 ⟨o, H4, I4, ps, eo, e4⟩ => ?_
  subst eo e4
  have I5 : Inv X pins σ H4 { s4 with heap := s4.heap.push { cls := .type "slice", data := .fields #[vl, vu, vs] } } := I4.kept (t' := s4.toks) fun b ob q => Heap.get?_push_of_some _ q
  show wpAny (model X.prog X.w) X.A (subscriptTail e (.Slice none none (some (.UnaryOp .USub (.Constant (.int 1) k p1) p2)) p3) (.ref a) (.ref s4.heap.objs.size)) (EP X pins σ Q) X.xe { s4 with heap := s4.heap.push { cls := .type "slice", data := .fields #[vl, vu, vs] } }
  rcases q with ⟨hx, q⟩ | ⟨hx, q⟩
  · obtain ⟨its, r, ht, hz⟩ := I5.list hx
    have hlen := r.length
    refine tail_any (ops := [.ref a, .ref s4.heap.objs.size]) ht.isList.typeIs (PySem.slot_list_getitem.lookup) ?_ (by with_unfolding_all rfl)
    refine wpAny_getItem_list_slice ht.isList (Heap.IsSliceOf.new _ vl vu vs) pl pu ps (by decide) ?_ (by rw [List.size_toArray]; omega)
    rw [PySem.W.krv_pick]
    refine ⟨.ref _, _, I5.laid (t' := s4.toks) (o := .lst xs.reverse) (fun b ob q => Heap.get?_push_of_some _ q) (Nat.le_refl _) ?_, rfl, q _ (I5.hok.fresh (Nat.le_refl _))⟩
    exact ⟨by rw [List.length_reverse]; exact hz, _, 0, r.reverse, Heap.get?_push_size _ rfl⟩
  · obtain ⟨its, r, ht, hz⟩ := I5.tuple hx
    have hlen := r.length
    refine tail_any (ops := [.ref a, .ref s4.heap.objs.size]) ht.typeIs (PyProof.Rows.slot_tuple_getitem.lookup) ?_ (by with_unfolding_all rfl)
    cases pl
    cases pu
    refine getItem_tuple_rev ht (Heap.IsSliceOf.new _ .none .none vs) ps ?_ (by omega)
    exact ⟨.ref _, _, Inv.tnew (t' := s4.toks) I5 r.reverse (by rw [List.length_reverse]; exact hz), rfl, q _ _ rfl I5.fresh⟩
end
section
variable {X : Cx} {G : Gv} {W : WX} {Φ : Fns} {σ : L2.St} {H : Hp} {S : AP'} {ρ : Ev} {F : Fps} {Q : VK} {e a b c : Expr} {e' a' b' c' : E} {pos : Pos}
theorem e_rev {k : Nat} {p1 p2 p3 pos : Pos} (Gd : Good X G W Φ) (ha : PE X a (tO G W (op Φ a'))) : PE X (.Subscript a (.Slice none none (some (.UnaryOp .USub (.Constant (.int 1) k p1) p2)) p3) pos) (tO G W (op Φ (.rev a'))) := by
  refine (pe_revF ha).imp fun σ H Q ⟨S, ρ, F, st, h⟩ => ?_
  simp only [op] at h
  refine tG_intro0 rO_ok st h fun oa ρ1 x H1 S1 F1 Ta _ st1 hd1 ra _ h1 => ?_
  cases ea : res ρ1 oa with
  | none => simp only [ea] at h1; exact h1.elim
  | some d =>
    simp only [ea] at h1
    have rb := Rb.of_res st1 ra ea
    cases d with
    | tup xs =>
      simp only [revD, Option.map_some, lft] at h1
      obtain ⟨a, vs, rfl, hx, hf⟩ := rb.tup
      rw [← Gd.K] at hx
      exact ⟨a, vs, rfl, .inr ⟨hx, fun p o ho hp => Fin.laid h1 st1 (.laidS st1.wf hp) (Fz.tup_new hf.reverse hp ho).ow⟩⟩
    | lst o xs =>
      simp only [revD, Option.map_some, lft] at h1
      obtain ⟨a, vs, rfl, hx, hf⟩ := rb.lst
      rw [← Gd.K] at hx
      exact ⟨a, vs, rfl, .inl ⟨hx, fun p hp => Fin.laid h1 st1 (.laid st1.wf hp) (Ow.lst_new hf.reverse st1.wf hp)⟩⟩
    | _ => simp only [revD, Option.map_none, lft] at h1; exact h1.elim
/-! ### methods -/
def notBase : Expr → Bool
  | .Call _ _ _ _ => false
  | _ => true
theorem base_ok {o : Expr} {x : Str} {env : Env} (h : notBase o = true) : attributeBase o x env (eval o env) = eval o env := by
  cases o <;> first | rfl | simp [notBase] at h
theorem star_alln : ∀ {es : List Expr} {env : Env} {pos : Pos}, es.all notStar = true → (backTo pos (starEach es env)).all (fun x => !x.1) = true
  | [], _, _, _ => rfl
  | e :: es, env, pos, h => by
    simp only [List.all_cons, Bool.and_eq_true] at h
    rw [star_one h.1]
    show (true && (backTo pos (starEach es env)).all (fun x => !x.1)) = true
    rw [star_alln h.2]; rfl
theorem few_ok {es : List Expr} {env : Env} {pos : Pos} (h : es.all notStar = true) (hl : es.length < 20) : ((backTo pos (starEach es env)).all (fun x => !x.1) && (backToKw pos (keywordEach [] env)).all (fun x => x.1.isSome)
      && decide (es.length + ([] : List Keyword).length + (if ([] : List Keyword).isEmpty then 0 else 1) < 30)) = true := by
  rw [star_alln h]
  show (true && true && decide (es.length + 0 + 0 < 30)) = true
  simp; omega
theorem me_facts {m : Me} {d : D} {T : String × String} (h : meTy m d = some T) : PlainAttrs T.1 ∧ Slot T.1 (Str.ofString (meN m)) T.2 ∧ typeOf (.builtin T.2) = pure (.type "method_descriptor") := by
  unfold meTy at h
  split at h
  · cases h; exact ⟨PySem.F.plainAttrs_tuple, PySem.F.slot_tuple_count, PySem.F.type_tuple_count⟩
  · cases h; exact ⟨PySem.F.plainAttrs_list, PySem.F.slot_list_count, PySem.F.type_list_count⟩
  · cases h; exact ⟨PySem.F.plainAttrs_list, PySem.F.slot_list_index, PySem.F.type_list_index⟩
  · cases h
theorem me_ty {m : Me} {d : D} {T : String × String} {x : V} (hK : X.K = G.K) (h : meTy m d = some T) (b : Rb G H S d x) : TyS X T.1 x H := by
  unfold meTy at h
  split at h
  · cases h; exact tyS_tup hK b
  · cases h; exact tyS_lst b
  · cases h; exact tyS_lst b
  · cases h
/-- a method, its owner by the receiver -/
def tBMD (X : Cx) (name : Str) (r : String × String → V → List V → Hp → VK → Prop) (to : TE) (t : TA) : TE := fun σ H Q => to σ H fun x H1 => ∃ T : String × String, PlainAttrs T.1 ∧ Slot T.1 name T.2 ∧ typeOf (.builtin T.2) = pure (.type "method_descriptor") ∧ MtR X T.2 (r T) ∧ TyS X T.1 x H1 ∧ t σ H1 fun xs H2 => r T x xs H2 Q
theorem pe_bmD {o e : Expr} {es : List Expr} {to : TE} {t : TA} {name : Str} {apos cpos : Pos} {r : String × String → V → List V → Hp → VK → Prop} (ho : PE X o to) (ha : PA X (e :: es) t)
    (hbase : attributeBase o name X.env (eval o X.env) = eval o X.env)
    (hfew : ((backTo cpos (starEach (e :: es) X.env)).all (fun x => !x.1) && (backToKw cpos (keywordEach [] X.env)).all (fun x => x.1.isSome)
      && decide ((e :: es).length + ([] : List Keyword).length + (if ([] : List Keyword).isEmpty then 0 else 1) < 30)) = true)
    (hline : (apos.endLine == cpos.line) = true) (hs : starEach (e :: es) X.env = (false, eval e X.env) :: starEach es X.env) (hplain : (backTo cpos (starEach es X.env)).any (·.1) = false) :
    PE X (.Call (.Attribute o name apos) (e :: es) [] cpos) (tBMD X name r to t) := by
  refine ⟨fun pins s σ H Q I h => ?_⟩
  refine wpAny_Call_method_late hbase hfew hline rfl (thn (ho.run pins s σ H _ I h) fun v s1 ⟨x, H1, I1, r1, ⟨T, id⟩, pa, slot, hty, hm, ty, q1⟩ => ?_)
  obtain ⟨h1, h2⟩ := ty pins σ s1 v I1 r1
  refine ⟨T, id, pa, slot, hty, h1, h2, ?_⟩
  have hA := ha.run cpos pins s1 σ H1 _ I1 q1
  rw [hs] at hA ⊢
  refine Calls.callWith_builtin (by show (false || (backTo cpos (starEach es X.env)).any (·.1)) = false; rw [hplain] <;> rfl) (Calls.evalArgs_plain ?_)
  exact thn hA fun us s2 ⟨vs, H2, I2, r2, q2⟩ => hm pins s2 σ H2 x vs v us Q I2 r1 r2 q2
theorem e_me {m : Me} {es : List Expr} {es' : List E} {apos : Pos} (Gd : Good X G W Φ) (ha : PE X a (tO G W (op Φ a'))) (he : PA X (e :: es) (tOs G W (ops Φ es'))) (hs : (e :: es).all notStar = true) (hl : (e :: es).length < 20) (hb : notBase a = true)
    (hline : (apos.endLine == pos.line) = true) : PE X (.Call (.Attribute a (Str.ofString (meN m)) apos) (e :: es) [] pos) (tO G W (op Φ (.me m a' es'))) := by
  have h12 : notStar e = true ∧ es.all notStar = true := by simpa using hs
  refine (pe_bmD (r := rMe G m) ha he (base_ok hb) (few_ok hs hl) hline (star_one h12.1) (star_all h12.2)).imp fun σ H Q ⟨S, ρ, F, st, h⟩ => ?_
  simp only [op] at h
  refine tG_intro0 rO_ok st h fun oa ρ1 x H1 S1 F1 Ta _ st1 hd1 ra _ h1 => ?_
  cases ea0 : res ρ1 oa with
  | none => simp only [ea0] at h1; exact h1.elim
  | some d0 =>
    simp only [ea0] at h1
    split at h1
    · rename_i hty
      have rb := Rb.of_res st1 ra ea0
      obtain ⟨T, eT⟩ := Option.isSome_iff_exists.mp hty
      obtain ⟨f1, f2, f3⟩ := me_facts eT
      refine ⟨T, f1, f2, f3, mt_D Gd.K Gd.hu m T, me_ty Gd.K eT rb, ?_⟩
      refine tG_intro rOs_ok st1 hd1 h1 fun os ρ2 vs H2 S2 F2 T2 _ st2 hd2 rs dj ex h2 => ?_
      have ra2 := rO_ok.keep ra ex st1.sep fun z hz => hd1.f z (.inl hz)
      cases ea : res ρ2 oa with
      | none => simp only [ea] at h2; exact h2.elim
      | some dx =>
        cases er : resL ρ2 os with
        | none => simp only [ea, er] at h2; exact h2.elim
        | some ds =>
          simp only [ea, er] at h2
          split at h2
          · rename_i esame
            cases eg : meD m dx ds with
            | none => simp only [eg, Option.map_none, lft] at h2; exact h2.elim
            | some d =>
              simp only [eg, Option.map_some, lft] at h2
              exact ⟨S2, dx, ds, d, esame.trans eT, st2.wf, .of_res st2 ra2 ea, rbs_of st2 os rs er, eg, fun v H' S' T' n w => Fin.laid h2 st2 n w⟩
          · exact h2.elim
    · exact h1.elim
/-! ### lists changed -/
theorem upd_mono {a : Addr} {o : HO} (h : ¬ S a) : Mono S H S (upd H a o) := ⟨fun _ h => h, fun b u hb e => by
  have n : b ≠ a := by rintro rfl; exact h hb
  rw [upd_ne n]; exact e⟩
theorem StO.mut {i : Nat} {xs : List D} (h : StO G H S σ ρ F) (e : ρ[i]? = some (some (.lst true xs))) : ∃ a us, σ[i]? = some (some (.ref a)) ∧ F i = [a] ∧ ¬ S a ∧ H a = some (.lst us) ∧ FzL G H S xs us ∧
    ∀ ys us', FzL G H S ys us' → StO G (upd H a (.lst us')) S σ (ρ.set i (some (.lst true ys))) F ∧ Ext (Pf F) S H (Pf F) S (upd H a (.lst us')) := by
  obtain ⟨v, e1, a, us, rfl, eT, hx, eh, r⟩ := h.slot i _ e
  have hi : i < σ.length := (List.getElem?_eq_some_iff.mp e1).1
  refine ⟨a, us, e1, eT, hx, eh, r, fun ys us' f => ⟨⟨by rw [List.length_set, h.len], fun j x q => ?_, fun j n => ?_, h.dis, fun b hb => ?_⟩, ?_⟩⟩
  · by_cases hj : j = i
    · subst hj
      rw [List.getElem?_set_self (by rw [h.len]; exact hi)] at q
      cases q
      exact ⟨_, e1, a, us', rfl, eT, hx, upd_same, f.mono (upd_mono hx)⟩
    · rw [List.getElem?_set_ne (Ne.symm hj)] at q
      obtain ⟨u, e2, w⟩ := h.slot j x q
      refine ⟨u, e2, ?_⟩
      cases ho : VP.own x with
      | false =>
        obtain ⟨z1, z⟩ := w.fz ho
        rw [z1]
        exact .of ho (z.mono (upd_mono hx))
      | true =>
        cases x with
        | lst o xs => cases o with
          | false => cases ho
          | true =>
            obtain ⟨b, vs, rfl, eT2, hb, eb, r2⟩ := w
            refine ⟨b, vs, rfl, eT2, hb, ?_, r2.mono (upd_mono hx)⟩
            have n : b ≠ a := by
              rintro rfl
              exact hj (h.dis j i b (by rw [eT2]; simp) (by rw [eT]; simp))
            rw [upd_ne n]
            exact eb
        | _ => cases ho
  · by_cases hj : j = i
    · subst hj
      exact absurd (List.getElem?_set_self (by rw [h.len]; exact hi)) (n _)
    · exact h.emp j fun x q => n x (by rw [List.getElem?_set_ne (Ne.symm hj)]; exact q)
  · obtain ⟨u, q⟩ := h.wf b hb
    have n : b ≠ a := by rintro rfl; exact hx hb
    exact ⟨u, by rw [upd_ne n]; exact q⟩
  · refine ⟨fun b u q n => ?_, fun _ z => z, fun _ _ _ _ z => z, fun _ z => .inl z⟩
    have n : b ≠ a := by rintro rfl; exact n ⟨i, by rw [eT]; simp⟩
    rw [upd_ne n]
    exact q
def rMu (G : Gv) (m : Mu) : V → List V → Hp → VK → Prop := fun x vs H Q => ∃ (S : AP') (a : Addr) (us : List V) (xs ds : List D) (d : D) (ys : List D), x = .ref a ∧ ¬ S a ∧ H a = some (.lst us) ∧ FzL G H S xs us ∧ FzL G H S ds vs ∧ muD m xs ds = some (d, ys) ∧
  ∀ v us', FzL G H S ys us' → Fz G H S d v → Q v (upd H a (.lst us'))
def muT : Mu → String × String
  | .append => ("append", "list.append")
  | .extend => ("extend", "list.extend")
  | .pop => ("pop", "list.pop")
  | .popAt => ("pop", "list.pop")
  | .reverse => ("reverse", "list.reverse")
def rExtendR : V → List V → Hp → VK → Prop := fun x vs H Q => ∃ l b xs zs, x = .ref l ∧ vs = [.ref b] ∧ H l = some (.lst xs) ∧ Rd H b (.lst zs) ∧ xs.length + zs.length ≤ sizeLine ∧ Q .non (upd H l (.lst (xs ++ zs)))
theorem mt_extendR : MtM X "list.extend" rExtendR := by
  intro pins s σ H x vs v us Q I rx rv h
  obtain ⟨l, b, xs, zs, rfl, rfl, hH, hB, hz, q⟩ := h
  cases rx
  obtain ⟨u, rfl, ru⟩ := rv.one
  cases ru
  obtain ⟨z, its, n, r, hl, e⟩ := I.lstM hH
  obtain ⟨its2, n2, r2, hl2, _, e2⟩ := Inv.rdL I hB
  have hsz : its.toArray.size + its2.toArray.size ≤ sizeLine := by rw [List.size_toArray, List.size_toArray]; omega
  have hlong : ¬ (!its.toArray.isEmpty && Builtin.List.listTooLong (its.toArray.size + its2.toArray.size)) = true := by
    rw [notLongL hsz, Bool.and_false]
    exact Bool.false_ne_true
  refine call_meets F.slot_list_extend ⟨_, e, rfl⟩ F.entry_list_extend (F.args_list_extend_2 _ _)
    (AutoSeq1.list_extend_list_list_0 l its.toArray n b its2.toArray n2 hlong (by rw [List.size_toArray]; omega) (by omega)) ⟨e, e2, ?_⟩
  refine ⟨.non, _, I.lset (its' := its ++ its2) hH e (by simp) (r.append r2) ?_, rfl, q⟩
  rw [List.length_append]
  omega
theorem FzL.one {d : D} {vs : List V} (h : FzL G H S [d] vs) : ∃ v, vs = [v] ∧ Fz G H S d v := by
  obtain ⟨v, r, rfl, h1, h2⟩ := h.uncons
  exact ⟨v, by rw [h2.nil_eq], h1⟩
theorem FzL.dropLast : ∀ {ds : List D} {vs : List V}, FzL G H S ds vs → FzL G H S ds.dropLast vs.dropLast
  | [], _, h => by rw [h.nil_eq]; exact .nil
  | d :: ds, _, h => by
    obtain ⟨v, r, rfl, h1, h2⟩ := h.uncons
    cases ds with
    | nil => rw [h2.nil_eq]; exact .nil
    | cons e es =>
      obtain ⟨u, t, rfl, h3, h4⟩ := h2.uncons
      exact .cons h1 (FzL.dropLast (ds := e :: es) (.cons h3 h4))
theorem FzL.eraseIdx : ∀ {ds : List D} {vs : List V} (i : Nat), FzL G H S ds vs → FzL G H S (ds.eraseIdx i) (vs.eraseIdx i)
  | [], _, _, h => by rw [h.nil_eq]; exact .nil
  | d :: ds, _, 0, h => by
    obtain ⟨v, r, rfl, h1, h2⟩ := h.uncons
    exact h2
  | d :: ds, _, i + 1, h => by
    obtain ⟨v, r, rfl, h1, h2⟩ := h.uncons
    exact .cons h1 (FzL.eraseIdx i h2)
theorem Fz.frz {d : D} {v : V} (h : Fz G H S d v) : Fz G H S (VP.frz d) v := by
  cases d with
  | lst o xs =>
    simp only [Fz] at h
    obtain ⟨rfl, h⟩ := h
    exact ⟨rfl, h⟩
  | _ => exact h
theorem mu_D : ∀ m, MtM X (muT m).2 (rMu G m) := by
  intro m pins s σ H x vs v us Q I rx rv h
  obtain ⟨S, a, ws, xs, ds, d, ys, rfl, hS, hH, f, fd, e, q⟩ := h
  unfold muD at e
  split at e
  · rename_i d1
    split at e
    · rename_i hl
      cases e
      obtain ⟨w, rfl, f1⟩ := fd.one
      refine mt_append pins s σ H _ _ v us Q I rx rv ⟨a, ws, w, rfl, rfl, hH, by rw [← f.length]; exact hl, q .non _ (f.append (.cons f1.frz .nil)) rfl⟩
    · cases e
  · rename_i o zs
    split at e
    · rename_i hl
      cases e
      obtain ⟨w, rfl, f1⟩ := fd.one
      simp only [Fz] at f1
      obtain ⟨rfl, b, ts, rfl, ⟨hb, hr⟩, f2⟩ := f1
      refine mt_extendR pins s σ H _ _ v us Q I rx rv ⟨a, b, ws, ts, rfl, rfl, hH, hr, by rw [← f.length, ← f2.length]; exact hl, q .non _ (f.append f2) rfl⟩
    · cases e
  · split at e
    · rename_i d1 hg
      cases e
      rw [fd.nil_eq] at rv
      obtain ⟨w, hw, f1⟩ := f.get (i := xs.length - 1) (by rw [← hg, List.getLast?_eq_getElem?])
      exact mt_pop pins s σ H _ _ v us Q I rx rv ⟨a, ws, w, rfl, rfl, hH, by rw [← f.length]; exact hw, q w _ f.dropLast f1⟩
    · cases e
  · rename_i i
    split at e
    · rename_i hi
      split at e
      · rename_i k hk
        split at e
        · rename_i d1 hg
          cases e
          obtain ⟨w, rfl, f1⟩ := fd.one
          cases f1
          obtain ⟨w, hw, f1⟩ := f.get hg
          exact mt_popAt pins s σ H _ _ v us Q I rx rv ⟨a, ws, i, k, w, rfl, rfl, hH, hi.1, hi.2, by rw [← f.length]; exact hk, hw, q w _ (f.eraseIdx k) f1⟩
        · cases e
      · cases e
    · cases e
  · cases e
    rw [fd.nil_eq] at rv
    exact mt_reverse pins s σ H _ _ v us Q I rx rv ⟨a, ws, rfl, rfl, hH, q .non _ f.reverse rfl⟩
  · cases e
theorem muT_facts (m : Mu) : Slot "list" (Str.ofString (muT m).1) (muT m).2 ∧ typeOf (.builtin (muT m).2) = pure (.type "method_descriptor") := by
  cases m
  · exact ⟨PySem.F.slot_list_append, PySem.F.type_list_append⟩
  · exact ⟨PySem.F.slot_list_extend, PySem.F.type_list_extend⟩
  · exact ⟨PySem.F.slot_list_pop, PySem.F.type_list_pop⟩
  · exact ⟨PySem.F.slot_list_pop, PySem.F.type_list_pop⟩
  · exact ⟨PySem.F.slot_list_reverse, PySem.F.type_list_reverse⟩
/-- values of operands: what is laid down of them -/
theorem mut_end {m : Mu} {i : Nat} {os : List Opd} {x : V} {vs : List V} {T : List Addr} {P : AP'} (st : StO G H S σ ρ F) (rs : rOs G σ H S os vs T) (hT : ∀ z, z ∈ T → ¬ Pf F z) (hi : σ[i]? = some (some x)) (hP : ∀ z, z ∈ T ∨ Pf F z → P z)
    (h : Fin G W σ S H P (rO G σ) Q (bnd (valL os ρ) fun ds ρ => (match ρ[i]? with
      | some (some (.lst true xs)) => (match muD m xs ds with
        | some (d, ys) => ret (.tmp d) (ρ.set i (some (.lst true ys)))
        | none => none)
      | _ => none))) : rMu G m x vs H Q := by
  cases ev : valL os ρ with
  | none => rw [ev] at h; exact h.elim
  | some o => cases o with
    | er er ρ2 => exact absurd ev (valL_noer os)
    | ok ds ρ2 =>
      obtain ⟨S2, F2, st2, f2, x2⟩ := valL_ok os st rs hT ev
      rw [ev, bnd_ok] at h
      have h2 := (h.weak (P1 := fun x => x ∈ T ∨ Pf F x) hP).step x2
      split at h2
      · rename_i xs ei
        split at h2
        · rename_i d ys em
          obtain ⟨a, us, e1, eT, hS, hH, f, k⟩ := st2.mut ei
          rw [hi] at e1; cases e1
          refine ⟨S2, a, us, xs, ds, d, ys, rfl, hS, hH, f, f2, em, fun v us' fy fd => ?_⟩
          obtain ⟨st3, x3⟩ := k ys us' fy
          have h3 := h2.step x3
          exact fin_val h3 st3 (fd.mono (upd_mono hS)) fun _ z => z
        · exact h2.elim
      · exact h2.elim
theorem e_mut {m : Mu} {i : Nat} {x : Str} {es : List Expr} {es' : List E} {apos p1 : Pos} (Gd : Good X G W Φ) (hN : X.N[i]? = some x) (hv : Vis X.env.scope x) (hd : (x == ("__debug__" : Str)) = false) (hcd : (x == ("__classdict__" : Str)) = false)
    (he : PA X (e :: es) (tOs G W (ops Φ es'))) (hs : (e :: es).all notStar = true) (hl : (e :: es).length < 20) (hline : (apos.endLine == pos.line) = true) :
    PE X (.Call (.Attribute (.Name x p1) (Str.ofString (muT m).1) apos) (e :: es) [] pos) (tO G W (op Φ (.mut m i es'))) := by
  obtain ⟨f2, f3⟩ := muT_facts m
  have h12 : notStar e = true ∧ es.all notStar = true := by simpa using hs
  refine (pe_bmF PySem.F.plainAttrs_list f2 f3 (mu_D (G := G) m) (pe_var hN hv hd hcd) he (base_ok rfl) (few_ok hs hl) hline (star_one h12.1) (star_all h12.2)).imp fun σ H Q ⟨S, ρ, F, st, h⟩ => ?_
  simp only [op] at h
  split at h
  · rename_i o xs ei
    obtain ⟨v, ev, w⟩ := st.slot i _ ei
    refine ⟨v, ev, tyS_lst ⟨_, w⟩, ?_⟩
    refine tG_intro0 rOs_ok st h fun os ρ1 vs H1 S1 F1 T _ st1 hd1 rs ex h1 => ?_
    exact mut_end st1 rs (fun z hz => hd1.f z (.inl hz)) ev (fun z hz => by rcases hz with hz | hz; exact .inl (.inl hz); exact .inr hz) h1
  · exact h.elim
theorem e_mut0 {m : Mu} {i : Nat} {x : Str} {apos p1 : Pos} (Gd : Good X G W Φ) (hN : X.N[i]? = some x) (hv : Vis X.env.scope x) (hd : (x == ("__debug__" : Str)) = false) (hcd : (x == ("__classdict__" : Str)) = false)
    (hline : (apos.endLine == pos.line) = true) :
    PE X (.Call (.Attribute (.Name x p1) (Str.ofString (muT m).1) apos) [] [] pos) (tO G W (op Φ (.mut m i []))) := by
  obtain ⟨f2, f3⟩ := muT_facts m
  refine (pe_bmF0 PySem.F.plainAttrs_list f2 f3 (mu_D (G := G) m) (pe_var hN hv hd hcd) (base_ok rfl) hline).imp fun σ H Q ⟨S, ρ, F, st, h⟩ => ?_
  simp only [op, ops, bnd_ret] at h
  split at h
  · rename_i o xs ei
    obtain ⟨v, ev, w⟩ := st.slot i _ ei
    refine ⟨v, ev, tyS_lst ⟨_, w⟩, ?_⟩
    exact mut_end (os := []) (T := []) st ⟨rfl, rfl⟩ (fun z hz => by cases hz) ev (fun z hz => by rcases hz with hz | hz; cases hz; exact hz) h
  · exact h.elim
end
end VP

set_option Elab.async false
set_option linter.all false
set_option maxRecDepth 100000
set_option maxHeartbeats 4000000
/-! sorted(set(..)), list(range(..)), tuple(range(..)). -/
namespace VP
open PySem PySem.Spec PyProof.Rows L2
section
variable {P : Program} {w : World} {A : Around} {E : Value → Shared → Prop} {s : Shared}
abbrev set0 (w : World) : Obj := { cls := .type "set", dict := none, data := .set #[] 0 (.fresh 0 0 (!w.params.followText "set-order")) }
/-- set(xs), xs a list of ints -/
theorem set_of_list {l : Addr} {its : Array Value} (ns : List Int) {Q : Value → Shared → Prop} (hh : A.handled = none) (hl : s.heap.IsList l its) (hit : IntsAre its.toList ns) (hb : ns.length + 1 < scanBound)
    (h : ∀ (h' : Heap) (tk c : Nat), SetR w h' s.heap.objs.size (fun j => decide (j ∈ ns)) c → c ≤ ns.length → (∀ b o, s.heap.get? b = some o → h'.get? b = some o) → Q (.ref s.heap.objs.size) { s with heap := h', toks := tk }) :
    wpAny (model P w) A (call (.type "set") [.ref l]) Q E s := by
  have hn : its.size = ns.length := by have q := IntsAre.length hit; rwa [Array.length_toList] at q
  obtain ⟨c, tl, hmro⟩ := F.called_set.mro
  have hmade := F.called_set.made
  have hsub := F.called_set.sub
  refine wpAny_call (codeAny_of_tree ?_)
  show wpAny _ _ (callAny (.type "set") _) _ _ _
  refine wpAny_pure ⟨Code.quiet_builtin _ (by decide +kernel), codeAny_builtin F.entry_type_call ?_⟩
  rw [Around.under_plain (weight_type_call_type "set" [.ref l] []) rfl]
  have h1 := F.called_set.notType
  have h2 := F.called_set.canCreate
  have hct := F.typeCall_set_1 (.ref l)
  repeat (any_goals (first | assumption | wp_step))
  refine codeAny_mono (code_set_led1 (.ref l) (E := E) (Q₁ := fun o t => o = .ref s.heap.objs.size ∧ t = { s with heap := s.heap.push (set0 w) }) ⟨rfl, rfl⟩) fun r t hr => ?_
  cases r with
  | error e => exact hr
  | ok fl =>
    cases fl with
    | ret o =>
      obtain ⟨rfl, rfl⟩ := hr
      have hS : (s.heap.push (set0 w)).get? s.heap.objs.size = some (set0 w) := Heap.get?_push_size _ rfl
      have hT : Shared.TypeIs { s with heap := s.heap.push (set0 w) } (.ref s.heap.objs.size) "set" := ⟨_, hS, rfl⟩
      have hli := F.called_set.init.lookup
      have hbi := F.called_set.init.bind (.ref s.heap.objs.size)
      repeat (any_goals (first | assumption | wp_step))
      refine codeAny_mono (codeAny_call_builtin (R := wants (fun r t => r = .none ∧ ∃ h' tk c, t = { s with heap := h', toks := tk } ∧ SetR w h' s.heap.objs.size (fun j => decide (j ∈ ns)) c ∧ c ≤ ns.length ∧ (∀ b o, s.heap.get? b = some o → h'.get? b = some o)) E)
        F.called_set.init.plain F.entry_set_init (check_set_init_1 hT ?_)) fun r₂ t₂ hr₂ => ?_
      · obtain ⟨⟨c1, c2, c3, c4⟩, hol, hcl, nl, hdl⟩ := id hl
        simp only at hcl hdl
        subst hcl hdl
        have hol' := Heap.get?_push_of_some (set0 w) hol
        have k1 := F.sub_list_set
        have k2 := F.sub_list_frozenset
        have k3 : (Value.type "list" == Value.type "dict") = false := by decide
        have hl1 : (s.heap.push (set0 w)).IsList l its := ⟨_, hol', rfl, nl, rfl⟩
        have hz : (s.heap.push (set0 w)).objs.size = s.heap.objs.size + 1 := Heap.size_push ..
        have hlS : l < s.heap.objs.size := Heap.lt_size hol
        unfold Builtin.«set.__init__» noKeywords Builtin.Frozenset.updateFrom
        generalize hPI : pyIter = PI
        wp_walk
        subst hPI
        refine wpAny_pyIter_list hl1 (wpAny_bind (wpAny_runValue ?_))
        have hh3 : A.in1.in1.in1.handled = none := by simp [hh]
        have hne : l ≠ (s.heap.push (set0 w)).objs.size := by rw [hz]; exact Nat.ne_of_lt (Nat.lt_succ_of_lt hlS)
        have hSf : s.heap.objs.size ∉ [(s.heap.push (set0 w)).objs.size, l] := by
          rw [hz]
          simp only [List.mem_cons, List.not_mem_nil, or_false, not_or]
          exact ⟨Nat.ne_of_lt (Nat.lt_succ_self _), Nat.ne_of_gt hlS⟩
        refine set_update_ints ((Walks.list hh3 _ l hne its).toS) s.heap.objs.size hSf ns hn hb (fun i v hv => ?_) (its.size - 0) 0 _ (by omega) (Nat.zero_le _)
          ⟨⟨_, Heap.get?_push_size _ rfl, rfl, rfl⟩, (hl1.push _)⟩ ⟨0, Nat.le_refl 0, setR_new_at (Heap.get?_push_of_some _ hS)⟩ fun t c' hm hc' hS' => ?_
        · have hi : i < ns.length := by rw [← hn]; exact (Array.getElem?_eq_some_iff.mp hv).1
          obtain ⟨t, e⟩ := PyProof.Rows.IntsAre.int_at hit i v (by rw [Array.getElem?_toList]; exact hv)
          refine ⟨ns[i], t, List.getElem?_eq_getElem hi, ?_⟩
          rw [e, List.getD_eq_getElem?_getD, List.getElem?_eq_getElem hi] <;> rfl
        · obtain ⟨h', g2, d', tk', os'⟩ := t
          have eg : g2 = s.gens := hm.gens
          have ed : d' = s.drawn := hm.drawn
          have eo : os' = s.os := hm.os
          subst eg ed eo
          show wpAny _ _ _ _ _ _
          refine wpAny_pure ?_
          show wpAny _ _ (PySem.ret Value.none) _ _ _
          rw [hn] at hc'
          refine wpAny_pure ⟨rfl, h', tk', c', rfl, hS', hc', fun b o e => ?_⟩
          have hb0 : b < s.heap.objs.size := Heap.lt_size e
          exact hm.heap b o (by
            rw [hz]
            simp only [List.mem_cons, List.not_mem_nil, or_false, not_or]
            exact ⟨Nat.ne_of_lt hb0, Nat.ne_of_lt (Nat.lt_succ_of_lt hb0)⟩) (Heap.get?_push_of_some _ (Heap.get?_push_of_some _ e))
      · cases r₂ with
        | error e => exact hr₂
        | ok fl₂ =>
          cases fl₂ with
          | ret r =>
            obtain ⟨rfl, h', tk, c', rfl, q1, q2, q3⟩ := hr₂
            repeat (any_goals (first | assumption | wp_step))
            exact h _ _ _ q1 q2 q3
          | _ => exact hr₂.elim
    | _ => exact hr.elim
end
theorem nodup_dups : ∀ (n : Nat) (l : List Int), l.length ≤ n → l.eraseDups.Nodup
  | _, [], _ => by simp [List.eraseDups]
  | 0, a :: l, h => by simp at h
  | n + 1, a :: l, h => by
    rw [List.eraseDups_cons, List.nodup_cons]
    have hf := List.length_filter_le (fun b => !b == a) l
    refine ⟨fun m => ?_, nodup_dups n _ (by simp at h; omega)⟩
    rw [List.mem_eraseDups] at m
    have := (List.mem_filter.mp m).2
    simp at this
theorem set_perm {ns ms : List Int} (h : ms.Nodup) (hm : ∀ k, k ∈ ms ↔ k ∈ ns) : ms.Perm ns.eraseDups := by
  rw [List.perm_iff_count]
  intro a
  rw [h.count, (nodup_dups ns.length ns (Nat.le_refl _)).count]
  simp only [hm, List.mem_eraseDups]
theorem lt_nodup {ms : List Int} (h : ms.Pairwise (· < ·)) : ms.Nodup := h.imp fun h e => by omega
theorem setI_eq {ns ms : List Int} (h : ms.Pairwise (· < ·)) (hm : ∀ k, k ∈ ms ↔ k ∈ ns) : ms = setI ns :=
  sortI_eq (set_perm (lt_nodup h) hm) (h.imp fun h => Int.le_of_lt h)
section
variable {X : Cx} {G : Gv} {W : WX} {Φ : Fns} {σ : L2.St} {H : Hp} {S : AP'} {ρ : Ev} {F : Fps} {Q : VK} {e a b c : Expr} {e' a' b' c' : E} {pos : Pos}
def tSortSet (K : PySem.W.Frag) (ta : TE) : TE := fun σ H Q => ta σ H fun x H1 => ∃ (l : Addr) (ns : List Int), x = .ref l ∧ (SqL K H1 l (ns.map V.int) ∨ SqT K H1 l (ns.map V.int)) ∧ ns.eraseDups.length < 64 ∧ ns.length ≤ 4000 ∧
  ∀ p, H1 p = none → Q (.ref p) (upd H1 p (.lst ((setI ns).map V.int)))
theorem setR_card {w : World} {h : Heap} {a : Addr} {ns : List Int} {c : Nat} (R : SetR w h a (fun j => decide (j ∈ ns)) c) : c = ns.eraseDups.length := by
  obtain ⟨o, es, ep, t, _, _, _, _, nd, hm, _, _, hn, _⟩ := R
  have := (set_perm (ns := ns) nd fun k => by have := hm k; simp only [decide_eq_true_eq] at this; exact this.symm).length_eq
  rw [List.length_map, Array.length_toList] at this
  omega
theorem pe_sortset {p p2 q : Pos} (hc : X.calm = true) (hg : Gl X "sorted") (hm : X.mg "sorted" = none) (hg2 : Gl X "set") (hm2 : X.mg "set" = none) (ha : PE X a ta) (na : starEach [a] X.env = (false, eval a X.env) :: starEach [] X.env) :
    PE X (.Call (.Name "sorted" p) [.Call (.Name "set" p2) [a] [] q] [] pos) (tSortSet X.K ta) := by
  refine ⟨fun pins s σ H Q I h => ?_⟩
  refine Call_ (ld_blt I hg hm (by kernel_rfl : bootBuiltins ("sorted" : Str) = some (.builtin "sorted")) ?_)
  refine PyProof.Rows.callWith_builtin1 (PyProof.Rows.args_cons ?_ rfl) rfl rfl
  refine Call_ (ld_blt I hg2 hm2 PyProof.Rows.boot_set ?_)
  refine PyProof.Rows.callWith_type1 (PyProof.Rows.args_cons (thn (ha.run pins s σ H _ I h) fun v s1 ⟨x, H1, I1, r1, q1⟩ => PyProof.Rows.args_nil ?_) na) na rfl
  obtain ⟨l, ns, rfl, hq, h64, hl, q1⟩ := q1
  cases r1
  have hd := I1.ok.hd hc
  have fin : ∀ (h' : Heap) (tk c : Nat), SetR X.w h' s1.heap.objs.size (fun j => decide (j ∈ ns)) c → c ≤ ns.length → (∀ b o, s1.heap.get? b = some o → h'.get? b = some o) →
      wpAny (model X.prog X.w) X.A (call (.builtin "sorted") [.ref s1.heap.objs.size]) (EP X pins σ Q) X.xe { s1 with heap := h', toks := tk } := by
    intro h' tk c R hcn k
    have I2 : Inv X pins σ H1 { s1 with heap := h', toks := tk } := I1.kept k
    have hcard := setR_card R
    refine sorted_set (s := { s1 with heap := h', toks := tk }) R hd (by omega) fun s' p out c2 ms k2 g o hp hg hi hs hm2 hl2 => ?_
    have em : ms = setI ns := setI_eq hs fun k => by rw [hm2]; simp
    subst em
    have hlen : ((setI ns).map V.int).length ≤ sizeLine := by rw [List.length_map, hl2, sizeLine_eq]; omega
    have hnp : H1 p = none := I2.hok.fresh hp
    have J : Inv X pins σ (upd H1 p (.lst ((setI ns).map V.int))) { s1 with heap := s'.heap, gens := s'.gens, drawn := s'.drawn, toks := s'.toks } :=
      I2.call (s := { s1 with heap := h', toks := tk }) (ch := []) (Un.laid k2 hp hnp) (I2.hok.laid k2 hp ⟨hlen, out.toList, c2, vals_of_ints hi, hg⟩) (by rw [g]; exact I2.bare) (fun _ z => nomatch z)
    have es : s' = { s1 with heap := s'.heap, gens := s'.gens, drawn := s'.drawn, toks := s'.toks } := by
      cases s'
      cases s1
      cases o
      rfl
    rw [es]
    exact ⟨.ref p, _, J, rfl, q1 p hnp⟩
  rcases hq with hq | hq
  · obtain ⟨its, r, pl, hz⟩ := I1.list hq
    exact set_of_list ns hd pl.isList (by simpa using ints_of_vals r) (by unfold scanBound; omega) fun h' tk c R hcn k => PyProof.Rows.args_nil (fin h' tk c R hcn k)
  · obtain ⟨its, r, pl, hz⟩ := I1.tuple hq
    exact call_set_tupI ns hd (show s1.heap.IsTuple l its.toArray from pl) (by simpa using ints_of_vals r) (by unfold scanBound; omega) fun h' tk c R hcn k => PyProof.Rows.args_nil (fin h' tk c R hcn k)
theorem e_sortset {p p2 q : Pos} (Gd : Good X G W Φ) (hg : Gl X "sorted") (hg2 : Gl X "set") (hm2 : G.mg "set" = none) (h1 : PE X a (tO G W (op Φ a'))) (hs : notStar a = true) :
    PE X (.Call (.Name "sorted" p) [.Call (.Name "set" p2) [a] [] q] [] pos) (tO G W (op Φ (.bix .sortset [a']))) := by
  refine (pe_sortset Gd.calm hg (by rw [Gd.mg]; exact Gd.blt "sorted" (by decide)) hg2 (by rw [Gd.mg]; exact hm2) h1 (star_one hs)).imp fun σ H Q ⟨S, ρ, F, st, h⟩ => ?_
  simp only [op, ops, bnd_assoc, bnd_ret] at h
  refine tG_intro0 rO_ok st h fun oa ρ1 x H1 S1 F1 Ta _ st1 hd1 ra _ h1 => ?_
  simp only [bixK, resL] at h1
  cases ea : res ρ1 oa with
  | none => simp only [ea] at h1; exact h1.elim
  | some d =>
    simp only [ea] at h1
    have rb := Rb.of_res st1 ra ea
    simp only [bxD] at h1
    cases ei : itemsD d with
    | none => simp only [ei] at h1; exact h1.elim
    | some xs =>
      simp only [ei, Option.bind_some] at h1
      cases en : nums xs with
      | none => simp only [en] at h1; exact h1.elim
      | some ns =>
        simp only [en, Option.bind_some] at h1
        split at h1
        · rename_i hl
          simp only [Option.map_some, lft] at h1
          obtain ⟨a, vs, rfl, hq, hf⟩ := rb.items ei
          have ev := hf.nums en
          subst ev
          rw [← Gd.K] at hq
          exact ⟨a, ns, rfl, hq, hl.1, hl.2, fun p hp => Fin.laid h1 st1 (.laid st1.wf hp) (Ow.lst_new (FzL.ints _) st1.wf hp)⟩
        · exact h1.elim
theorem tG_post {α β : Type} {Rl : L2.St → Hp → AP' → α → β → List Addr → Prop} {m : Ev → VP.R α} {Q Q' : β → Hp → Prop} (h : tG G W Rl m σ H Q) (f : ∀ b H', Q b H' → Q' b H') : tG G W Rl m σ H Q' := by
  obtain ⟨S, ρ, F, st, h⟩ := h
  refine ⟨S, ρ, F, st, ?_⟩
  cases e : m ρ with
  | none => rw [e] at h; exact h
  | some o => cases o with
    | er er ρ' => rw [e] at h; exact h
    | ok a ρ' =>
      rw [e] at h
      exact fun b H' S' F' T x st' rl dj => f b H' (h b H' S' F' T x st' rl dj)
/-! list and tuple of a range -/
def tTupRgF (te : L2.St → Hp → (Int → Int → Hp → Prop) → Prop) : TE := fun σ H Q => te σ H fun a b H1 => RgOk a b ∧ ∀ (q : Addr) (o : Obj), o.dict = none → H1 q = none → Q (.ref q) (upd H1 q (.frz o (.tup (rgV a b))))
theorem pe_tupRgF {te : L2.St → Hp → (Int → Int → Hp → Prop) → Prop} {p pos : Pos} (hc : X.calm = true) (hg : Gl X "tuple") (hm : X.mg "tuple" = none) (he : PRg X e te) (na : starEach [e] X.env = (false, eval e X.env) :: starEach [] X.env) : PE X (.Call (.Name "tuple" p) [e] [] pos) (tTupRgF te) := by
  refine ⟨fun pins s σ H Q I h => ?_⟩
  refine Call_ (ld_blt I hg hm PyProof.Rows.boot_tuple (PyProof.Rows.callWith_type1 (PyProof.Rows.args_cons (thn (he pins s σ H _ I h) fun x s1 ⟨r, a, b, t, u, v, H1, ex, hr, I1, ok, q⟩ => PyProof.Rows.args_nil ?_) na) na))
  subst ex
  obtain ⟨b1, b2, b3, b4, b5⟩ := ok
  refine call_tuple_range (n := (b - a).toNat) (I1.ok.hd hc) hr (small_one b1 b2 b3 b4) (rangeSize_nat a b) b5 fun h' tk acc hk hi => ?_
  have I2 : Inv X pins σ H1 { s1 with heap := h', toks := tk } := I1.kept hk
  have hl : (rgV a b).length ≤ sizeLine := by rw [rgV_length, sizeLine_eq]; omega
  have e : acc = acc.toList.toArray := by simp
  rw [e]
  exact ⟨.ref h'.objs.size, _, Inv.tnew (t' := tk) I2 (vals_rg hi) hl, rfl, q _ _ rfl I2.fresh⟩
theorem rg_rngL {i j : Int} : FzL G H S (rngL i (j - i).toNat) (rgV i j) := by
  have e1 : rngL i (j - i).toNat = ((List.range (j - i).toNat).map fun (k : Nat) => i + (k : Int)).map D.int := by simp [rngL]
  have e2 : rgV i j = ((List.range (j - i).toNat).map fun (k : Nat) => i + (k : Int)).map V.int := by simp [rgV]
  rw [e1, e2]
  exact FzL.ints _
theorem rg_ok {i j : Int} (h : rngOk i j = true) (hl : (rngL i (j - i).toNat).length ≤ LIM) : RgOk i j := by
  simp only [rngOk, Bool.and_eq_true, decide_eq_true_eq] at h
  have e : (rngL i (j - i).toNat).length = (j - i).toNat := by simp [rngL]
  rw [e] at hl
  exact ⟨h.1.1.1, h.1.1.2, h.1.2, h.2, hl⟩
/-- a list, a tuple of a range: what it is -/
def RgM (b : Bx) (m : List D → D) : Prop := ∀ ds, bxD b ds = (rngD ds).bind fun xs => if xs.length ≤ LIM then some (m xs) else none
theorem rg1_read {B : Bx} {m : List D → D} (hb : RgM B m) {σ : L2.St} {H : Hp} {Q : VK} (h : tO G W (op Φ (.bix B [a'])) σ H Q) :
    tRg1 (tO G W (op Φ a')) σ H fun i j H1 => RgOk i j ∧ ∃ S ρ F P, StO G H1 S σ ρ F ∧ (∀ x, Pf F x → P x) ∧ Fin G W σ S H1 P (rO G σ) Q (ret (.tmp (m (rngL i (j - i).toNat))) ρ) := by
  obtain ⟨S, ρ, F, st, h⟩ := h
  simp only [op, ops, bnd_assoc, bnd_ret] at h
  refine tG_intro0 rO_ok st h fun oa ρ1 x H1 S1 F1 Ta _ st1 hd1 ra _ h1 => ?_
  simp only [bixK, resL, hb _] at h1
  cases ea : res ρ1 oa with
  | none => simp only [ea] at h1; exact h1.elim
  | some d =>
    simp only [ea] at h1
    have rb := Rb.of_res st1 ra ea
    cases d <;> first | (simp only [rngD] at h1; exact h1.elim) | skip
    rename_i j
    simp only [rngD] at h1
    cases er : rngOk 0 j with
    | false => rw [er] at h1; exact h1.elim
    | true =>
      rw [er] at h1
      simp only [if_true, Option.bind_some] at h1
      split at h1
      · rename_i hl
        have e0 : (j - 0).toNat = j.toNat := by omega
        refine ⟨j, rb.int, rg_ok er (by rw [e0]; exact hl), S1, ρ1, F1, (fun x => (x ∈ Ta ∨ False) ∨ Pf F1 x), st1, fun x z => .inr z, ?_⟩
        rw [e0]
        exact h1
      · exact h1.elim
theorem rg2_read {B : Bx} {m : List D → D} (hb : RgM B m) {σ : L2.St} {H : Hp} {Q : VK} (h : tO G W (op Φ (.bix B [a', b'])) σ H Q) :
    tRg2 (tO G W (op Φ a')) (tO G W (op Φ b')) σ H fun i j H1 => RgOk i j ∧ ∃ S ρ F P, StO G H1 S σ ρ F ∧ (∀ x, Pf F x → P x) ∧ Fin G W σ S H1 P (rO G σ) Q (ret (.tmp (m (rngL i (j - i).toNat))) ρ) := by
  obtain ⟨S, ρ, F, st, h⟩ := h
  simp only [op, ops, bnd_assoc, bnd_ret] at h
  refine two_ok (k := fun oa ob ρ => bixK B [oa, ob] ρ) (Rr := fun x y H2 => ∃ i j, x = .int i ∧ y = .int j ∧ RgOk i j ∧ ∃ S ρ F P, StO G H2 S σ ρ F ∧ (∀ x, Pf F x → P x) ∧ Fin G W σ S H2 P (rO G σ) Q (ret (.tmp (m (rngL i (j - i).toNat))) ρ)) st h fun oa ob ρ2 x y H2 S2 F2 Ta Tb R1 st2 ra rb hd h2 => ?_
  simp only [bixK, resL, hb _] at h2
  cases ea : res ρ2 oa with
  | none => simp only [ea] at h2; exact h2.elim
  | some d =>
    cases eb : res ρ2 ob with
    | none => simp only [ea, eb] at h2; exact h2.elim
    | some d2 =>
      simp only [ea, eb] at h2
      have r1 := Rb.of_res st2 ra ea
      have r2 := Rb.of_res st2 rb eb
      cases d <;> first | (simp only [rngD] at h2; exact h2.elim) | skip
      cases d2 <;> first | (simp only [rngD] at h2; exact h2.elim) | skip
      rename_i i j
      simp only [rngD] at h2
      cases er : rngOk i j with
      | false => rw [er] at h2; exact h2.elim
      | true =>
        rw [er] at h2
        simp only [if_true, Option.bind_some] at h2
        split at h2
        · rename_i hl
          exact ⟨i, j, r1.int, r2.int, rg_ok er hl, S2, ρ2, F2, (fun x => R1 x ∨ Pf F2 x), st2, fun x z => .inr z, h2⟩
        · exact h2.elim
theorem prg_imp {te te' : L2.St → Hp → (Int → Int → Hp → Prop) → Prop} (h : PRg X e te) (f : ∀ σ H Q, te' σ H Q → te σ H Q) : PRg X e te' := fun pins s σ H Q I q => h pins s σ H Q I (f σ H Q q)
theorem rg_lst {P : AP'} {i j : Int} (st : StO G H S σ ρ F) (hP : ∀ x, Pf F x → P x) (h : Fin G W σ S H P (rO G σ) Q (ret (.tmp (.lst true (rngL i (j - i).toNat))) ρ)) : ∀ q, H q = none → Q (.ref q) (upd H q (.lst (rgV i j))) :=
  fun q hq => Fin.laid (R1 := fun _ => False) (h.weak fun x z => by rcases z with z | z; exact z.elim; exact hP x z) st (.laid st.wf hq) (Ow.lst_new rg_rngL st.wf hq)
theorem rg_tup {P : AP'} {i j : Int} (st : StO G H S σ ρ F) (hP : ∀ x, Pf F x → P x) (h : Fin G W σ S H P (rO G σ) Q (ret (.tmp (.tup (rngL i (j - i).toNat))) ρ)) : ∀ (q : Addr) (o : Obj), o.dict = none → H q = none → Q (.ref q) (upd H q (.frz o (.tup (rgV i j)))) :=
  fun q o ho hq => Fin.laid (R1 := fun _ => False) (h.weak fun x z => by rcases z with z | z; exact z.elim; exact hP x z) st (.laidS st.wf hq) (Fz.tup_new rg_rngL hq ho).ow
theorem rgm_l : RgM .listR (.lst true) := fun ds => rfl
theorem rgm_t : RgM .tupR .tup := fun ds => rfl
theorem e_listR1 {p p2 q : Pos} (Gd : Good X G W Φ) (hg : Gl X "list") (hg2 : Gl X "range") (h1 : PE X a (tO G W (op Φ a'))) (hs : notStar a = true) : PE X (.Call (.Name "list" p) [.Call (.Name "range" p2) [a] [] q] [] pos) (tO G W (op Φ (.bix .listR [a']))) := by
  have hm : X.mg "list" = none := by rw [Gd.mg]; exact Gd.blt "list" (by decide)
  have hm2 : X.mg "range" = none := by rw [Gd.mg]; exact Gd.blt "range" (by decide)
  refine (pe_listRg Gd.calm hg hm (prg_1 hg2 hm2 h1 (star_one hs)) (by rfl)).imp fun σ H Q h => tG_post (rg1_read rgm_l h) fun x H1 ⟨j, e, ok, S, ρ, F, P, st, hP, k⟩ => ⟨j, e, ok, rg_lst st hP k⟩
theorem e_tupR1 {p p2 q : Pos} (Gd : Good X G W Φ) (hg : Gl X "tuple") (hg2 : Gl X "range") (h1 : PE X a (tO G W (op Φ a'))) (hs : notStar a = true) : PE X (.Call (.Name "tuple" p) [.Call (.Name "range" p2) [a] [] q] [] pos) (tO G W (op Φ (.bix .tupR [a']))) := by
  have hm : X.mg "tuple" = none := by rw [Gd.mg]; exact Gd.blt "tuple" (by decide)
  have hm2 : X.mg "range" = none := by rw [Gd.mg]; exact Gd.blt "range" (by decide)
  refine (pe_tupRgF Gd.calm hg hm (prg_1 hg2 hm2 h1 (star_one hs)) (by rfl)).imp fun σ H Q h => tG_post (rg1_read rgm_t h) fun x H1 ⟨j, e, ok, S, ρ, F, P, st, hP, k⟩ => ⟨j, e, ok, rg_tup st hP k⟩
theorem e_listR2 {p p2 q : Pos} (Gd : Good X G W Φ) (hg : Gl X "list") (hg2 : Gl X "range") (h1 : PE X a (tO G W (op Φ a'))) (h2 : PE X b (tO G W (op Φ b'))) (hs : notStar a = true) (hs2 : notStar b = true) : PE X (.Call (.Name "list" p) [.Call (.Name "range" p2) [a, b] [] q] [] pos) (tO G W (op Φ (.bix .listR [a', b']))) := by
  have hm : X.mg "list" = none := by rw [Gd.mg]; exact Gd.blt "list" (by decide)
  have hm2 : X.mg "range" = none := by rw [Gd.mg]; exact Gd.blt "range" (by decide)
  refine (pe_listRg Gd.calm hg hm (prg_2 hg2 hm2 h1 h2 (star_one hs) (star_one hs2) (star_all (by simp [hs2]))) (by rfl)).imp fun σ H Q h => tG_post (rg2_read rgm_l h) fun x H1 q => tG_post q fun y H2 ⟨i, j, e, e2, ok, S, ρ, F, P, st, hP, k⟩ => ⟨i, j, e, e2, ok, rg_lst st hP k⟩
theorem e_tupR2 {p p2 q : Pos} (Gd : Good X G W Φ) (hg : Gl X "tuple") (hg2 : Gl X "range") (h1 : PE X a (tO G W (op Φ a'))) (h2 : PE X b (tO G W (op Φ b'))) (hs : notStar a = true) (hs2 : notStar b = true) : PE X (.Call (.Name "tuple" p) [.Call (.Name "range" p2) [a, b] [] q] [] pos) (tO G W (op Φ (.bix .tupR [a', b']))) := by
  have hm : X.mg "tuple" = none := by rw [Gd.mg]; exact Gd.blt "tuple" (by decide)
  have hm2 : X.mg "range" = none := by rw [Gd.mg]; exact Gd.blt "range" (by decide)
  refine (pe_tupRgF Gd.calm hg hm (prg_2 hg2 hm2 h1 h2 (star_one hs) (star_one hs2) (star_all (by simp [hs2]))) (by rfl)).imp fun σ H Q h => tG_post (rg2_read rgm_t h) fun x H1 q => tG_post q fun y H2 ⟨i, j, e, e2, ok, S, ρ, F, P, st, hP, k⟩ => ⟨i, j, e, e2, ok, rg_tup st hP k⟩
end
end VP

set_option Elab.async false
set_option linter.all false
set_option maxRecDepth 100000
set_option maxHeartbeats 1000000
/-! What is walked. -/
namespace VP
open PySem PySem.Spec PyProof.Rows L2
theorem Mono.trans {S S1 S2 : AP'} {H H1 H2 : Hp} (a : Mono S H S1 H1) (b : Mono S1 H1 S2 H2) : Mono S H S2 H2 := ⟨fun x h => b.s x (a.s x h), fun x u h e => b.h x u (a.s x h) (a.h x u h e)⟩
/-- an outcome that is no error -/
theorem tG_ok {α β : Type} {G : Gv} {W : WX} {σ : L2.St} {H : Hp} {S : AP'} {ρ ρ1 : Ev} {F : Fps} {R1 : AP'} {Rl : L2.St → Hp → AP' → α → β → List Addr → Prop} {m : Ev → R α} {Q1 : β → Hp → Prop} {a : α}
    (ro : RlOk Rl) (st : StO G H S σ ρ F) (hd : Hd H S F R1) (e : m ρ = some (.ok a ρ1))
    (hk : ∀ b H1 S1 F1 T, StO G H1 S1 σ ρ1 F1 → Hd H1 S1 F1 (fun x => x ∈ T ∨ R1 x) → Rl σ H1 S1 a b T → (∀ x, x ∈ T → ¬ R1 x) → Ext (Pf F) S H (fun x => x ∈ T ∨ Pf F1 x) S1 H1 → Q1 b H1) : tG G W Rl m σ H Q1 :=
  tG_intro (γ := Unit) (δ := Unit) (RlC := fun _ _ _ _ _ => True) (QC := fun _ _ => True) (k := fun _ ρ => ret () ρ) ro st hd (by rw [e]; exact fun _ _ _ _ _ _ _ _ _ => trivial)
    fun a' ρ1' b H1 S1 F1 T e' st1 hd1 rl dj ex _ => by
      rw [e] at e'; cases e'
      exact hk b H1 S1 F1 T st1 hd1 rl dj ex

section
variable (G : Gv)
/-- what an iterator yields, wherever it is asked -/
def Srv (σ : L2.St) (hs : List (Nat × D)) (T : List Addr) (J : It) (xs : List D) (S : AP') (H : Hp) : Prop :=
  ∀ S1 H1, Mono S H S1 H1 → Wf S1 H1 → rH G σ H1 S1 hs T →
    (∀ i x, xs[i]? = some x → J.go i H1 ∧ ∀ v H2, J.yld i H1 v H2 → ∃ S2, New S1 H1 S2 H2 [] ∧ Fz G H2 S2 x v) ∧ J.stop xs.length H1
def rI (σ : L2.St) (H : Hp) (S : AP') (p : List D × List (Nat × D)) (J : It) (T : List Addr) : Prop := rH G σ H S p.2 T ∧ Srv G σ p.2 T J p.1 S H
def rS (σ : L2.St) (H : Hp) (S : AP') (p : Sv) (v : V) (T : List Addr) : Prop := match p with
  | .hd i d => σ[i]? = some (some v) ∧ Ow G H S d v T
  | .fz d => T = [] ∧ Fz G H S d v
end
theorem rI_ok {G : Gv} : RlOk (rI G) where
  keep := fun {σ H S a b T P P1 S1 H1} h e hs ht => ⟨rH_keep e hs _ h.1 ht, fun S2 H2 m wf r => h.2 S2 H2 ((e.mono hs).trans m) wf r⟩
  there := fun {σ H S a b T x} h hx => rH_there _ h.1 hx
theorem rS_ok {G : Gv} : RlOk (rS G) where
  keep := fun {σ H S a b T P P1 S1 H1} h e hs ht => by
    cases a with
    | hd i d => exact ⟨h.1, h.2.keep e hs ht⟩
    | fz d => exact ⟨h.1, h.2.mono (e.mono hs)⟩
  there := fun {σ H S a b T x} h hx => by
    cases a with
    | hd i d => exact h.2.there hx
    | fz d => rw [h.1] at hx; cases hx
theorem rS_rb {G : Gv} {σ : L2.St} {H : Hp} {S : AP'} {p : Sv} {v : V} {T : List Addr} (h : rS G σ H S p v T) : Rb G H S p.d v := by
  cases p with
  | hd i d => exact ⟨_, h.2⟩
  | fz d => exact h.2.rb
theorem rS_h {G : Gv} {σ : L2.St} {H : Hp} {S : AP'} {p : Sv} {v : V} {T : List Addr} (h : rS G σ H S p v T) : rH G σ H S p.h T := by
  cases p with
  | hd i d => exact ⟨v, T, [], by simp, h.1, h.2, rfl, fun _ _ z => by cases z⟩
  | fz d => exact h.1
/-- a source's items, wherever they are looked at -/
theorem rS_items {G : Gv} {σ : L2.St} {H : Hp} {S : AP'} {p : Sv} {v : V} {T : List Addr} {xs : List D} (h : rS G σ H S p v T) (e : itemsD p.d = some xs) :
    ∃ a b, v = .ref a ∧ ∀ S1 H1, Mono S H S1 H1 → rH G σ H1 S1 p.h T → ∃ vs, SqK b G.K H1 a vs ∧ FzL G H1 S1 xs vs := by
  have key : ∀ (d : D), itemsD d = some xs → Rb G H S d v → ∃ (a : Addr) (b : Bool), v = .ref a ∧ ∀ S1 H1, Rb G H1 S1 d v → ∃ vs, SqK b G.K H1 a vs ∧ FzL G H1 S1 xs vs := by
    intro d e r
    cases d <;> first | (simp [itemsD] at e; done) | skip
    · cases e
      obtain ⟨a, vs, rfl, h1, h2⟩ := r.tup
      refine ⟨a, false, rfl, fun S1 H1 r1 => ?_⟩
      obtain ⟨a', vs', e', h1', h2'⟩ := r1.tup
      cases e'
      exact ⟨vs', h1', h2'⟩
    · cases e
      obtain ⟨a, vs, rfl, h1, h2⟩ := r.lst
      refine ⟨a, true, rfl, fun S1 H1 r1 => ?_⟩
      obtain ⟨a', vs', e', h1', h2'⟩ := r1.lst
      cases e'
      exact ⟨vs', h1', h2'⟩
  obtain ⟨a, b, rfl, k⟩ := key p.d e (rS_rb h)
  refine ⟨a, b, rfl, fun S1 H1 m r => k S1 H1 ?_⟩
  cases p with
  | hd i d =>
    obtain ⟨v, T1, T2, e1, e2, h1, h2, h3⟩ := r
    rw [h.1] at e2; cases e2
    exact ⟨_, h1⟩
  | fz d => exact (h.2.mono m).rb

section
variable {X : Cx} {G : Gv} {W : WX} {Φ : Fns} {σ : L2.St} {H : Hp} {S : AP'} {ρ : Ev} {F : Fps} {Q : VK} {e a b c tg : Expr} {e' a' b' c' : E} {pos : Pos}
theorem s_hold {x : Str} {i : Nat} (hN : X.N[i]? = some x) (hv : Vis X.env.scope x) (hd : (x == ("__debug__" : Str)) = false) (hcd : (x == ("__classdict__" : Str)) = false) : PE X (.Name x pos) (tG G W (rS G) (src Φ (.hold i))) := by
  refine (pe_var hN hv hd hcd).imp fun σ H Q ⟨S, ρ, F, st, h⟩ => ?_
  simp only [src, holdS] at h
  split at h
  · rename_i d e
    obtain ⟨v, e1, w⟩ := st.slot i d e
    refine ⟨v, e1, h v H S (putF F i []) (F i) (Ext.refl.congr (fun _ z => z) fun x z => ?_) (st.none_ i) ⟨e1, w⟩ fun x hx hp => ?_⟩
    · rcases z with z | z
      · exact ⟨i, z⟩
      · rcases Pf_put z with z | z
        · cases z
        · exact z
    · obtain ⟨j, hj⟩ := hp
      unfold putF at hj
      split at hj
      · cases hj
      · rename_i n
        exact n (st.dis j i x hj hx)
  · exact h.elim
theorem s_sr (he : PE X e (tO G W (op Φ e'))) : PE X e (tG G W (rS G) (src Φ (.sr e'))) := by
  refine he.imp fun σ H Q ⟨S, ρ, F, st, h⟩ => ?_
  simp only [src] at h
  refine tG_intro0 rO_ok st h fun oa ρ1 x H1 S1 F1 Ta _ st1 hd1 ra _ h1 => ?_
  simp only [fzS] at h1
  cases ev : val oa ρ1 with
  | none => rw [ev] at h1; exact h1.elim
  | some o => cases o with
    | er er ρ2 => exact absurd ev val_noer
    | ok d ρ2 =>
      obtain ⟨S2, F2, T2, st2, w2, dj2, x2⟩ := val_ok st1 ra (fun x hx => hd1.f x (.inl hx)) ev
      obtain ⟨st3, f3, x3⟩ := frz_ok st2 w2 dj2
      rw [ev, bnd_ok] at h1
      have h2 := (h1.weak (P1 := fun x => x ∈ Ta ∨ Pf F1 x) fun x z => by rcases z with z | z; exact .inl (.inl z); exact .inr z).step (x2.trans x3)
      exact fin_ret h2 st3 (show rS G σ H1 _ (.fz (frz d)) x [] from ⟨rfl, f3⟩) fun _ z => z
def Itk (b : Bool) (K : PySem.W.Frag) (a : Addr) : It := if b then Itl K a else Itt K a
def iSeq (K : PySem.W.Frag) (tl : TE) : TI := fun σ H R => tl σ H fun x H1 => ∃ a b xs, x = .ref a ∧ SqK b K H1 a xs ∧ R (Itk b K a) H1
theorem pi_seqK {l : Expr} {tl : TE} (hl : PE X l tl) : PI X tg l (iSeq X.K tl) := by
  refine ⟨fun pins s σ H R I h => ?_⟩
  refine thn (hl.run pins s σ H _ I h) fun v s1 ⟨x, H1, I1, r1, q1⟩ => ?_
  obtain ⟨a, b, xs, e, hq, q⟩ := q1
  subst e
  cases r1
  cases b with
  | true =>
    obtain ⟨its, rv, p, hz⟩ := I1.list hq
    refine wpAny_pyIter_list p.isList ?_
    refine ⟨s1.heap.objs.size, [s1.heap.objs.size], _, _, H1, rfl, I1.kept (t' := s1.toks) fun b o e => Heap.get?_push_of_some _ e, turn_list a _, ⟨_, Heap.get?_push_size _ rfl, rfl, rfl⟩, fun b hb => ?_, q⟩
    have e : b = s1.heap.objs.size := by simpa using hb
    subst e
    exact I1.fpOk (Nat.le_refl _) (I1.hok.fresh (Nat.le_refl _))
  | false =>
    obtain ⟨its, rv, p, hz⟩ := I1.tuple hq
    refine wpAny_pyIter_tuple (show s1.heap.IsTuple a its.toArray from p) ?_
    refine ⟨s1.heap.objs.size, [s1.heap.objs.size], _, _, H1, rfl, I1.kept (t' := s1.toks) fun b o e => Heap.get?_push_of_some _ e, turn_tuple a _, ⟨_, Heap.get?_push_size _ rfl, rfl, rfl⟩, fun b hb => ?_, q⟩
    have e : b = s1.heap.objs.size := by simpa using hb
    subst e
    exact I1.fpOk (Nat.le_refl _) (I1.hok.fresh (Nat.le_refl _))
theorem seq_srv {b : Bool} {a : Addr} {hs : List (Nat × D)} {T : List Addr} {xs : List D} (k : ∀ S1 H1, Mono S H S1 H1 → rH G σ H1 S1 hs T → ∃ vs, SqK b G.K H1 a vs ∧ FzL G H1 S1 xs vs) : Srv G σ hs T (Itk b G.K a) xs S H := by
  intro S1 H1 m wf r
  obtain ⟨vs, h1, h2⟩ := k S1 H1 m r
  cases b with
  | true =>
    refine ⟨fun i x e => ?_, vs, h1, by rw [h2.length]; exact Nat.le_refl _⟩
    obtain ⟨v, e1, f⟩ := h2.get e
    refine ⟨⟨vs, v, h1, e1⟩, fun v' H2 y => ?_⟩
    obtain ⟨rfl, y⟩ := y
    have := y vs h1
    rw [e1] at this; cases this
    exact ⟨S1, .refl wf, f⟩
  | false =>
    refine ⟨fun i x e => ?_, vs, h1, by rw [h2.length]; exact Nat.le_refl _⟩
    obtain ⟨v, e1, f⟩ := h2.get e
    refine ⟨⟨vs, v, h1, e1⟩, fun v' H2 y => ?_⟩
    obtain ⟨rfl, y⟩ := y
    have := y vs h1
    rw [e1] at this; cases this
    exact ⟨S1, .refl wf, f⟩
abbrev tI (G : Gv) (W : WX) (m : Ev → R (List D × List (Nat × D))) : TI := tG G W (rI G) m
theorem _root_.L2.PI.imp {X : Cx} {tg e : Expr} {t t' : TI} (h : PI X tg e t) (f : ∀ σ H Q, t' σ H Q → t σ H Q) : PI X tg e t' := ⟨fun pins s σ H Q I q => h.run pins s σ H Q I (f σ H Q q)⟩
theorem i_seq (Gd : Good X G W Φ) (he : PE X e (tG G W (rS G) (src Φ e'))) (hi : ∀ ρ, itr Φ e' ρ = bnd (src Φ e' ρ) seqOf) : PI X tg e (tI G W (itr Φ e')) := by
  refine (pi_seqK he).imp fun σ H R ⟨S, ρ, F, st, h⟩ => ?_
  rw [hi] at h
  refine tG_intro0 rS_ok st h fun p ρ1 v H1 S1 F1 T _ st1 hd1 r _ h1 => ?_
  simp only [seqOf] at h1
  cases ei : itemsD p.d with
  | none => simp only [ei] at h1; exact h1.elim
  | some xs =>
    simp only [ei] at h1
    obtain ⟨a, b, rfl, k⟩ := rS_items r ei
    obtain ⟨vs, h2, h3⟩ := k S1 H1 .refl (rS_h r)
    rw [Gd.K]
    refine ⟨a, b, vs, rfl, h2, h1 (Itk b G.K a) H1 S1 F1 T (Ext.refl.congr (fun _ z => z) fun x z => ?_) st1 ⟨rS_h r, seq_srv k⟩ fun x hx => hd1.f x (.inl hx)⟩
    rcases z with z | z
    · exact .inl (.inl z)
    · exact .inr z
theorem i_hold {x : Str} {i : Nat} (Gd : Good X G W Φ) (hN : X.N[i]? = some x) (hv : Vis X.env.scope x) (hd : (x == ("__debug__" : Str)) = false) (hcd : (x == ("__classdict__" : Str)) = false) : PI X tg (.Name x pos) (tI G W (itr Φ (.hold i))) :=
  i_seq Gd (s_hold hN hv hd hcd) fun ρ => by simp only [itr, src]
theorem i_sr (Gd : Good X G W Φ) (he : PE X e (tO G W (op Φ e'))) : PI X tg e (tI G W (itr Φ (.sr e'))) := i_seq Gd (s_sr he) fun ρ => by simp only [itr, src]
end
end VP

set_option Elab.async false
set_option linter.all false
set_option maxRecDepth 100000
set_option maxHeartbeats 1000000
/-! What is walked: enumerate, zip, range. -/
namespace VP
open PySem PySem.Spec PyProof.Rows L2
section
variable {X : Cx} {G : Gv} {W : WX} {Φ : Fns} {σ : L2.St} {H : Hp} {S : AP'} {ρ : Ev} {F : Fps} {Q : VK} {e a b c tg : Expr} {e' a' b' c' : E} {pos : Pos}
theorem enumUp_get {xs : List D} {i : Nat} {x : D} (e : (enumUp xs)[i]? = some x) : ∃ y, xs[i]? = some y ∧ x = .pr (.int (i : Int)) y := by
  unfold enumUp at e
  rw [List.getElem?_map] at e
  cases q : ((List.range xs.length).zip xs)[i]? with
  | none => rw [q] at e; cases e
  | some p =>
    rw [q] at e
    rw [List.getElem?_zip_eq_some] at q
    obtain ⟨h1, h2⟩ := q
    rw [List.getElem?_range (by have := (List.getElem?_eq_some_iff.mp h1).1; simpa using this)] at h1
    cases e
    have e1 : i = p.1 := by simpa using h1
    exact ⟨p.2, h2, by rw [e1]⟩
theorem enumUp_len (xs : List D) : (enumUp xs).length = xs.length := by simp [enumUp]
theorem enum_srv {b : Bool} {a : Addr} {hs : List (Nat × D)} {T : List Addr} {xs : List D} (k : ∀ S1 H1, Mono S H S1 H1 → rH G σ H1 S1 hs T → ∃ vs, SqK b G.K H1 a vs ∧ FzL G H1 S1 xs vs) : Srv G σ hs T (IteK b G.K a) (enumUp xs) S H := by
  intro S1 H1 m wf r
  obtain ⟨vs, h1, h2⟩ := k S1 H1 m r
  refine ⟨fun i x e => ?_, vs, h1, by rw [enumUp_len, h2.length]⟩
  obtain ⟨y, e1, rfl⟩ := enumUp_get e
  obtain ⟨v, e2, f⟩ := h2.get e1
  refine ⟨⟨vs, v, h1, e2⟩, fun v' H2 yl => ?_⟩
  obtain ⟨p, w, rfl, hp, rfl, yl⟩ := yl
  have := yl vs h1
  rw [e2] at this; cases this
  exact ⟨addS S1 [p], .laidS wf hp, Fz.pr_new (show Fz G H1 S1 (.int i) (.int i) from rfl) f hp⟩
theorem pairUp_get {xs ys : List D} {i : Nat} {x : D} (e : (pairUp xs ys)[i]? = some x) : ∃ u w, xs[i]? = some u ∧ ys[i]? = some w ∧ x = .pr u w := by
  unfold pairUp at e
  rw [List.getElem?_map] at e
  cases q : (xs.zip ys)[i]? with
  | none => rw [q] at e; cases e
  | some p =>
    rw [q] at e
    rw [List.getElem?_zip_eq_some] at q
    cases e
    exact ⟨p.1, p.2, q.1, q.2, rfl⟩
theorem pairUp_len (xs ys : List D) : (pairUp xs ys).length = min xs.length ys.length := by simp [pairUp]
theorem zip_srv {b1 b2 : Bool} {a1 a2 : Addr} {hs : List (Nat × D)} {T : List Addr} {xs ys : List D} (k : ∀ S1 H1, Mono S H S1 H1 → rH G σ H1 S1 hs T → (∃ vs, SqK b1 G.K H1 a1 vs ∧ FzL G H1 S1 xs vs) ∧ ∃ vs, SqK b2 G.K H1 a2 vs ∧ FzL G H1 S1 ys vs) :
    Srv G σ hs T (ItzK b1 b2 G.K a1 a2) (pairUp xs ys) S H := by
  intro S1 H1 m wf r
  obtain ⟨⟨vs, h1, h2⟩, us, g1, g2⟩ := k S1 H1 m r
  refine ⟨fun i x e => ?_, vs, us, h1, g1, by rw [pairUp_len, h2.length, g2.length]⟩
  obtain ⟨y1, y2, e1, e2, rfl⟩ := pairUp_get e
  obtain ⟨v1, d1, f1⟩ := h2.get e1
  obtain ⟨v2, d2, f2⟩ := g2.get e2
  refine ⟨⟨vs, us, v1, v2, h1, g1, d1, d2⟩, fun v' H2 yl => ?_⟩
  obtain ⟨p, w1, w2, rfl, hp, rfl, yl1, yl2⟩ := yl
  have t1 := yl1 vs h1
  have t2 := yl2 us g1
  rw [d1] at t1; cases t1
  rw [d2] at t2; cases t2
  exact ⟨addS S1 [p], .laidS wf hp, Fz.pr_new f1 f2 hp⟩
theorem i_enm {elts : List Expr} {kk : Nat} {tpos p : Pos} (Gd : Good X G W Φ) (hg : Gl X "enumerate") (he : PE X e (tG G W (rS G) (src Φ e'))) (hs : notStar e = true) :
    PI X (.Tuple elts kk tpos) (.Call (.Name "enumerate" p) [e] [] pos) (tI G W (itr Φ (.enm e'))) := by
  have hm : X.mg "enumerate" = none := by rw [Gd.mg]; exact Gd.blt "enumerate" (by decide)
  refine (pi_enumK hg hm (pa_cons he pa_nil (star_one hs)) (by rw [star_one hs]; rfl)).imp fun σ H R ⟨S, ρ, F, st, h⟩ => ?_
  simp only [itr] at h
  refine tG_intro0 rS_ok st h fun q ρ1 v H1 S1 F1 T _ st1 hd1 r _ h1 => ?_
  cases ei : itemsD q.d with
  | none => simp only [ei] at h1; exact h1.elim
  | some xs =>
    simp only [ei] at h1
    obtain ⟨a, b, rfl, k⟩ := rS_items r ei
    obtain ⟨vs, h2, h3⟩ := k S1 H1 .refl (rS_h r)
    rw [Gd.K]
    refine ⟨a, b, vs, rfl, h2, h1 (IteK b G.K a) H1 S1 F1 T (Ext.refl.congr (fun _ z => z) fun x z => ?_) st1 ⟨rS_h r, enum_srv k⟩ fun x hx => hd1.f x (.inl hx)⟩
    rcases z with z | z
    · exact .inl (.inl z)
    · exact .inr z
theorem rH_left : ∀ (l m : List (Nat × D)) {T : List Addr}, rH G σ H S (l ++ m) T → ∃ T1 T2, T = T1 ++ T2 ∧ rH G σ H S l T1 ∧ rH G σ H S m T2
  | [], m, T, h => ⟨[], T, rfl, rfl, h⟩
  | p :: l, m, T, h => by
    obtain ⟨v, T1, T2, e1, e2, h1, h2, h3⟩ := h
    subst e1
    obtain ⟨U1, U2, e3, h4, h5⟩ := rH_left l m h2
    subst e3
    exact ⟨T1 ++ U1, U2, by simp, ⟨v, T1, U1, rfl, e2, h1, h4, fun x hx hy => h3 x hx (List.mem_append_left _ hy)⟩, h5⟩
/-- the data at held slots, whatever the list of addresses -/
theorem rS_items2 {p : Sv} {v : V} {T : List Addr} {xs : List D} (h : rS G σ H S p v T) (e : itemsD p.d = some xs) :
    ∃ a b, v = .ref a ∧ ∀ S1 H1 T1, Mono S H S1 H1 → rH G σ H1 S1 p.h T1 → ∃ vs, SqK b G.K H1 a vs ∧ FzL G H1 S1 xs vs := by
  have key : ∀ (d : D), itemsD d = some xs → Rb G H S d v → ∃ (a : Addr) (b : Bool), v = .ref a ∧ ∀ S1 H1, Rb G H1 S1 d v → ∃ vs, SqK b G.K H1 a vs ∧ FzL G H1 S1 xs vs := by
    intro d e r
    cases d <;> first | (simp [itemsD] at e; done) | skip
    · cases e
      obtain ⟨a, vs, rfl, h1, h2⟩ := r.tup
      refine ⟨a, false, rfl, fun S1 H1 r1 => ?_⟩
      obtain ⟨a', vs', e', h1', h2'⟩ := r1.tup
      cases e'
      exact ⟨vs', h1', h2'⟩
    · cases e
      obtain ⟨a, vs, rfl, h1, h2⟩ := r.lst
      refine ⟨a, true, rfl, fun S1 H1 r1 => ?_⟩
      obtain ⟨a', vs', e', h1', h2'⟩ := r1.lst
      cases e'
      exact ⟨vs', h1', h2'⟩
  obtain ⟨a, b, rfl, k⟩ := key p.d e (rS_rb h)
  refine ⟨a, b, rfl, fun S1 H1 T1 m r => k S1 H1 ?_⟩
  cases p with
  | hd i d =>
    obtain ⟨v, T1, T2, e1, e2, h1, h2, h3⟩ := r
    rw [h.1] at e2; cases e2
    exact ⟨_, h1⟩
  | fz d => exact (h.2.mono m).rb
theorem i_zip {elts : List Expr} {kk : Nat} {tpos p : Pos} (Gd : Good X G W Φ) (hg : Gl X "zip") (ha : PE X a (tG G W (rS G) (src Φ a'))) (hb : PE X b (tG G W (rS G) (src Φ b'))) (hsa : notStar a = true) (hsb : notStar b = true) :
    PI X (.Tuple elts kk tpos) (.Call (.Name "zip" p) [a, b] [] pos) (tI G W (itr Φ (.zip a' b'))) := by
  have hm : X.mg "zip" = none := by rw [Gd.mg]; exact Gd.blt "zip" (by decide)
  refine (pi_zipK hg hm (pa_cons ha (pa_cons hb pa_nil (star_one hsb)) (star_one hsa)) (star_one hsa) (star_all (by simp [hsb]))).imp fun σ H R ⟨S, ρ, F, st, h⟩ => ?_
  simp only [itr] at h
  refine tG_intro0 rS_ok st h fun q ρ1 v H1 S1 F1 T _ st1 hd1 r _ h1 => ?_
  refine tG_intro rS_ok st1 hd1 h1 fun q2 ρ2 v2 H2 S2 F2 T2 _ st2 hd2 r2 dj ex h2 => ?_
  have r1 := rS_ok.keep r ex st1.sep fun z hz => hd1.f z (.inl hz)
  cases ei : itemsD q.d with
  | none => simp only [ei] at h2; exact h2.elim
  | some xs =>
    cases ei2 : itemsD q2.d with
    | none => simp only [ei, ei2] at h2; exact h2.elim
    | some ys =>
      simp only [ei, ei2] at h2
      obtain ⟨a, b1, rfl, k1⟩ := rS_items2 r1 ei
      obtain ⟨a2, b2, rfl, k2⟩ := rS_items2 r2 ei2
      obtain ⟨vs, h3, _⟩ := k1 S2 H2 _ .refl (rS_h r1)
      obtain ⟨us, h4, _⟩ := k2 S2 H2 _ .refl (rS_h r2)
      rw [Gd.K]
      refine ⟨a, a2, b1, b2, vs, us, rfl, h3, h4, h2 (ItzK b1 b2 G.K a a2) H2 S2 F2 (T ++ T2) (Ext.refl.congr (fun _ z => z) fun x z => ?_) st2 ⟨rH_append _ _ (rS_h r1) (rS_h r2) fun x hx hy => dj x hy (.inl hx), zip_srv fun S3 H3 m r3 => ?_⟩ fun x hx => ?_⟩
      · rcases z with z | z
        · rcases List.mem_append.mp z with z | z
          · exact .inl (.inr (.inl z))
          · exact .inl (.inl z)
        · exact .inr z
      · obtain ⟨U1, U2, _, g1, g2⟩ := rH_left _ _ r3
        exact ⟨k1 S3 H3 _ m g1, k2 S3 H3 _ m g2⟩
      · rcases List.mem_append.mp hx with hx | hx
        · exact hd2.f x (.inr (.inl hx))
        · exact hd2.f x (.inl hx)
theorem rngL_get {lo : Int} {n i : Nat} {x : D} (e : (rngL lo n)[i]? = some x) : i < n ∧ x = .int (lo + (i : Int)) := by
  unfold rngL at e
  rw [List.getElem?_map] at e
  cases q : (List.range n)[i]? with
  | none => rw [q] at e; cases e
  | some k =>
    rw [q] at e
    have hi : i < n := by have := (List.getElem?_eq_some_iff.mp q).1; simpa using this
    rw [List.getElem?_range hi] at q
    cases q; cases e
    exact ⟨hi, rfl⟩
theorem rngL_len (lo : Int) (n : Nat) : (rngL lo n).length = n := by simp [rngL]
theorem rng_srv {lo : Int} {n : Nat} : Srv G σ [] [] (Itr lo n) (rngL lo n) S H := by
  intro S1 H1 m wf r
  refine ⟨fun i x e => ?_, by rw [rngL_len]; exact Nat.le_refl n⟩
  obtain ⟨hi, rfl⟩ := rngL_get e
  refine ⟨hi, fun v' H2 yl => ?_⟩
  obtain ⟨rfl, rfl⟩ := yl
  exact ⟨S1, .refl wf, rfl⟩
theorem rngR_srv {i j : Int} : Srv G σ [] [] (Itc i (-1) (i - j).toNat) (rngL (j + 1) (i - j).toNat).reverse S H := by
  intro S1 H1 m wf r
  refine ⟨fun k x e => ?_, by rw [List.length_reverse, rngL_len]; exact Nat.le_refl _⟩
  have hk : k < (i - j).toNat := by have := (List.getElem?_eq_some_iff.mp e).1; simpa [rngL_len] using this
  rw [List.getElem?_reverse (by rw [rngL_len]; exact hk), rngL_len] at e
  obtain ⟨hi, rfl⟩ := rngL_get e
  refine ⟨hk, fun v' H2 yl => ?_⟩
  obtain ⟨rfl, rfl⟩ := yl
  refine ⟨S1, .refl wf, ?_⟩
  show V.int _ = V.int _
  congr 1
  omega
theorem ints_one {vs : List V} {i : Int} (h : RbL G H S [.int i] vs) : vs = [.int i] := by
  obtain ⟨v, r, rfl, h1, h2⟩ := h
  cases h1.int
  rw [show r = [] from h2]
theorem ints_two {vs : List V} {i j : Int} (h : RbL G H S [.int i, .int j] vs) : vs = [.int i, .int j] := by
  obtain ⟨v, r, rfl, h1, h2⟩ := h
  cases h1.int
  rw [ints_one h2]
theorem ints_three {vs : List V} {i j k : Int} (h : RbL G H S [.int i, .int j, .int k] vs) : vs = [.int i, .int j, .int k] := by
  obtain ⟨v, r, rfl, h1, h2⟩ := h
  cases h1.int
  rw [ints_two h2]
theorem rng_end {J : It} {xs : List D} {R : It → Hp → Prop} {P : AP'} {T : List Addr} (h : Fin G W σ S H (fun x => (x ∈ T ∨ False) ∨ Pf F x) (rI G σ) R (lft ((some xs).map fun xs => (xs, ([] : List (Nat × D)))) ρ)) (st : StO G H S σ ρ F) (sv : Srv G σ [] [] J xs S H) : R J H :=
  fin_ret (x := (xs, ([] : List (Nat × D)))) h st (show rI G σ H S (xs, []) J [] from ⟨rfl, sv⟩) fun _ z => .inr z
theorem rng_len : ∀ (os : List Opd) {vs : List V} {T : List Addr} {ds : List D}, rOs G σ H S os vs T → resL ρ os = some ds → ds.length = vs.length
  | [], vs, T, ds, r, e => by cases e; rw [r.1]; rfl
  | o :: os, vs, T, ds, r, e => by
    obtain ⟨v, vr, T1, T2, rfl, rfl, h1, h2, h3⟩ := r
    simp only [resL] at e
    cases e1 : res ρ o with
    | none => rw [e1] at e; cases e
    | some d =>
      cases e2 : resL ρ os with
      | none => rw [e1, e2] at e; cases e
      | some ds' =>
        rw [e1, e2] at e; cases e
        simp [rng_len os h2 e2]
theorem i_rng1 {p : Pos} (Gd : Good X G W Φ) (hg : Gl X "range") (ha : PA X [a] (tOs G W (ops Φ [a']))) (hs : [a].all notStar = true) : PI X tg (.Call (.Name "range" p) [a] [] pos) (tI G W (itr Φ (.rng [a']))) := by
  have hm : X.mg "range" = none := by rw [Gd.mg]; exact Gd.blt "range" (by decide)
  have h1 : notStar a = true := by simpa using hs
  refine (pi_range1 hg hm ha (by rw [star_one h1]; rfl)).imp fun σ H R ⟨S, ρ, F, st, h⟩ => ?_
  simp only [itr] at h
  refine tG_intro0 rOs_ok st h fun os ρ1 vs H1 S1 F1 T em st1 hd1 r _ h1 => ?_
  cases er : resL ρ1 os with
  | none => simp only [er] at h1; exact h1.elim
  | some ds =>
    simp only [er] at h1
    have rb := rbs_of st1 os r er
    have hl : ds.length = 1 := by
      simp only [ops] at em
      obtain ⟨o, ρ2, _, em⟩ := bnd_inv em
      rw [bnd_ret] at em
      cases em
      obtain ⟨v, vr, T1, T2, rfl, rfl, _, h2, _⟩ := id r
      rw [rng_len _ r er, h2.1]; rfl
    unfold rngD at h1
    split at h1
    · rename_i j
      split at h1
      · rename_i ok
        refine ⟨j, ints_one rb, ?_, ?_, ?_⟩
        · simp only [rngOk, Bool.and_eq_true, decide_eq_true_eq] at ok; omega
        · simp only [rngOk, Bool.and_eq_true, decide_eq_true_eq] at ok; omega
        · exact rng_end (P := fun _ => True) h1 st1 (by rw [show (0 : Int) = 0 from rfl]; exact rng_srv)
      · exact h1.elim
    · simp at hl
    · simp at hl
    · exact h1.elim
theorem i_rng2 {p : Pos} (Gd : Good X G W Φ) (hg : Gl X "range") (ha : PA X [a, b] (tOs G W (ops Φ [a', b']))) (hs : [a, b].all notStar = true) : PI X tg (.Call (.Name "range" p) [a, b] [] pos) (tI G W (itr Φ (.rng [a', b']))) := by
  have hm : X.mg "range" = none := by rw [Gd.mg]; exact Gd.blt "range" (by decide)
  have h12 : notStar a = true ∧ notStar b = true := by simpa using hs
  refine (pi_range2 hg hm ha (by rw [star_one h12.1, star_one h12.2]; rfl) (by rw [star_one h12.2]; rfl)).imp fun σ H R ⟨S, ρ, F, st, h⟩ => ?_
  simp only [itr] at h
  refine tG_intro0 rOs_ok st h fun os ρ1 vs H1 S1 F1 T em st1 hd1 r _ h1 => ?_
  cases er : resL ρ1 os with
  | none => simp only [er] at h1; exact h1.elim
  | some ds =>
    simp only [er] at h1
    have rb := rbs_of st1 os r er
    have hl : ds.length = 2 := by
      simp only [ops, bnd_ret] at em
      obtain ⟨o, ρ2, _, em⟩ := bnd_inv em
      obtain ⟨o2, ρ3, em2, em⟩ := bnd_inv em
      obtain ⟨o3, ρ4, _, em2⟩ := bnd_inv em2
      cases em2
      cases em
      obtain ⟨v, vr, T1, T2, rfl, rfl, _, h2, _⟩ := id r
      obtain ⟨v, vr, T1, T2, rfl, rfl, _, h2, _⟩ := id h2
      rw [rng_len _ r er, h2.1]; rfl
    unfold rngD at h1
    split at h1
    · simp at hl
    · rename_i i j
      split at h1
      · rename_i ok
        refine ⟨i, j, ints_two rb, ?_, ?_⟩
        · simp only [rngOk, Bool.and_eq_true, decide_eq_true_eq] at ok; omega
        · exact rng_end (P := fun _ => True) h1 st1 rng_srv
      · exact h1.elim
    · simp at hl
    · exact h1.elim
theorem i_rng3 {p : Pos} (Gd : Good X G W Φ) (hg : Gl X "range") (ha : PA X [a, b, c] (tOs G W (ops Φ [a', b', c']))) (hs : [a, b, c].all notStar = true) : PI X tg (.Call (.Name "range" p) [a, b, c] [] pos) (tI G W (itr Φ (.rng [a', b', c']))) := by
  have hm : X.mg "range" = none := by rw [Gd.mg]; exact Gd.blt "range" (by decide)
  have h12 : notStar a = true ∧ notStar b = true ∧ notStar c = true := by simpa [and_assoc] using hs
  refine (pi_range3 hg hm ha (star_one h12.1) (star_all (by simp [h12.2]))).imp fun σ H R ⟨S, ρ, F, st, h⟩ => ?_
  simp only [itr] at h
  refine tG_intro0 rOs_ok st h fun os ρ1 vs H1 S1 F1 T em st1 hd1 r _ h1 => ?_
  cases er : resL ρ1 os with
  | none => simp only [er] at h1; exact h1.elim
  | some ds =>
    simp only [er] at h1
    have rb := rbs_of st1 os r er
    have hl : ds.length = 3 := by
      simp only [ops, bnd_ret] at em
      obtain ⟨o, ρ2, _, em⟩ := bnd_inv em
      obtain ⟨o2, ρ3, em2, em⟩ := bnd_inv em
      obtain ⟨o3, ρ4, _, em2⟩ := bnd_inv em2
      obtain ⟨o4, ρ5, em3, em2⟩ := bnd_inv em2
      obtain ⟨o5, ρ6, _, em3⟩ := bnd_inv em3
      cases em3
      cases em2
      cases em
      obtain ⟨v, vr, T1, T2, rfl, rfl, _, h2, _⟩ := id r
      obtain ⟨v, vr, T1, T2, rfl, rfl, _, h2, _⟩ := id h2
      obtain ⟨v, vr, T1, T2, rfl, rfl, _, h2, _⟩ := id h2
      rw [rng_len _ r er, h2.1]; rfl
    unfold rngD at h1
    split at h1
    · simp at hl
    · simp at hl
    · rename_i i j
      split at h1
      · rename_i ok
        refine ⟨i, j, -1, (i - j).toNat, ints_three rb, ?_, ?_⟩
        · simp only [rngOk, Bool.and_eq_true, decide_eq_true_eq] at ok
          exact RgC.neg (by omega) (by omega) (by omega) (by omega)
        · exact rng_end (P := fun _ => True) h1 st1 rngR_srv
      · exact h1.elim
    · exact h1.elim
end
end VP

set_option Elab.async false
set_option linter.all false
set_option maxRecDepth 100000
set_option maxHeartbeats 1000000
/-! Targets. -/
namespace VP
open PySem PySem.Spec PyProof.Rows L2
mutual
def tgS : Tg → List Nat
  | .nm i => [i]
  | .tp ts => tgSL ts
def tgSL : List Tg → List Nat
  | [] => []
  | t :: ts => tgS t ++ tgSL ts
end
/-- slots' values other than those written -/
def Same (w : List Nat) (σ σ' : L2.St) : Prop := σ'.length = σ.length ∧ ∀ j, j ∉ w → σ'[j]? = σ[j]?
theorem Same.refl {w : List Nat} {σ : L2.St} : Same w σ σ := ⟨rfl, fun _ _ => rfl⟩
theorem Same.trans {w w' : List Nat} {σ σ1 σ2 : L2.St} (a : Same w σ σ1) (b : Same w' σ1 σ2) : Same (w ++ w') σ σ2 := ⟨b.1.trans a.1, fun j h => (b.2 j fun z => h (List.mem_append_right _ z)).trans (a.2 j fun z => h (List.mem_append_left _ z))⟩
theorem Same.weak {w w' : List Nat} {σ σ1 : L2.St} (a : Same w σ σ1) (h : ∀ j, j ∈ w → j ∈ w') : Same w' σ σ1 := ⟨a.1, fun j hj => a.2 j fun z => hj (h j z)⟩
theorem Same.put {σ : L2.St} {i : Nat} {v : Option V} : Same [i] σ (σ.set i v) := ⟨by simp, fun j h => by
  rw [List.getElem?_set_ne (by simp at h; omega)]⟩
theorem Same.wipe {σ σ' : L2.St} {w vs : List Nat} (h : Same w σ σ') (hw : ∀ j, j ∈ w → j ∈ vs) : L2.wipe σ' vs = L2.wipe σ vs := by
  apply List.ext_getElem?
  intro j
  rw [wipe_get, wipe_get]
  split
  · have hl := h.1
    by_cases hj : j < σ.length
    · rw [List.getElem?_eq_getElem hj, List.getElem?_eq_getElem (by omega)]; rfl
    · rw [List.getElem?_eq_none (by omega), List.getElem?_eq_none (by omega)]
  · rename_i hn
    exact h.2 j fun z => hn (hw j z)
section
variable (G : Gv)
def gA (t : Tg) : TG := fun v σ H Q => ∃ (S : AP') (ρ : Ev) (F : Fps) (d : D) (T : List Addr), StO G H S σ ρ F ∧ Ow G H S d v T ∧ (∀ x, x ∈ T → ¬ Pf F x) ∧ ∃ ρ', asg t d ρ = some ρ' ∧
  ∀ σ' F', StO G H S σ' ρ' F' → (∀ x, Pf F' x → x ∈ T ∨ Pf F x) → Same (tgS t) σ σ' → Q σ' H
def gAs (ts : List Tg) : TGs := fun vs σ H Q => ∃ (S : AP') (ρ : Ev) (F : Fps) (ds : List D), StO G H S σ ρ F ∧ FzL G H S ds vs ∧ ∃ ρ', asgL ts ds ρ = some ρ' ∧
  ∀ σ' F', StO G H S σ' ρ' F' → (∀ x, Pf F' x → Pf F x) → Same (tgSL ts) σ σ' → Q σ' H
end
theorem _root_.L2.PG.imp {X : Cx} {tg : Expr} {t t' : TG} (h : PG X tg t) (f : ∀ v σ H Q, t' v σ H Q → t v σ H Q) : PG X tg t' := ⟨fun pins s σ H v u Q I r q => h.run pins s σ H v u Q I r (f v σ H Q q)⟩
theorem _root_.L2.PGs.imp {X : Cx} {tg : List Expr} {t t' : TGs} (h : PGs X tg t) (f : ∀ v σ H Q, t' v σ H Q → t v σ H Q) : PGs X tg t' := ⟨fun pins s σ H v u Q I r q => h.run pins s σ H v u Q I r (f v σ H Q q)⟩
section
variable {X : Cx} {G : Gv} {W : WX} {Φ : Fns} {σ : L2.St} {H : Hp} {S : AP'} {ρ : Ev} {F : Fps} {e : Expr} {pos : Pos}
theorem g_nm {i : Nat} {x : Str} (hN : X.N.Nodup) (hi : X.N[i]? = some x) (hx : Loc X.env.scope x) (hf : X.fn x = true ∨ X.env.scope.names.lookup x = some .local) : PG X (.Name x pos) (gA G (.nm i)) := by
  refine (pg_name hN hi hx hf).imp fun v σ H Q h => ?_
  obtain ⟨S, ρ, F, d, T, st, w, dj, ρ', e, q⟩ := h
  simp only [asg] at e
  split at e
  · rename_i hi
    cases e
    refine q _ (putF F i T) (st.put (by rw [← st.len]; exact hi) w dj) (fun x hx => Pf_put hx) (.put)
  · cases e
theorem g_nil : PGs X [] (gAs G []) := by
  refine pgs_nil.imp fun vs σ H Q h => ?_
  obtain ⟨S, ρ, F, ds, st, f, ρ', e, q⟩ := h
  cases ds with
  | nil =>
    cases e
    exact ⟨f.nil_eq, q σ F st (fun _ z => z) .refl⟩
  | cons d ds => cases e
def isTg : Expr → Bool
  | .Name _ _ => true
  | .Tuple _ _ _ => true
  | _ => false
theorem g_cons {es : List Expr} {t : Tg} {ts : List Tg} (h1 : PG X e (gA G t)) (h2 : PGs X es (gAs G ts)) (hs : isTg e = true) : PGs X (e :: es) (gAs G (t :: ts)) := by
  refine (pgs_cons h1 h2 (by cases e <;> first | rfl | simp [isTg] at hs)).imp fun vs σ H Q h => ?_
  obtain ⟨S, ρ, F, ds, st, f, ρ', e, q⟩ := h
  cases ds with
  | nil => cases e
  | cons d ds =>
    obtain ⟨v, r, rfl, f1, f2⟩ := f.uncons
    simp only [asgL] at e
    cases e1 : asg t d ρ with
    | none => rw [e1] at e; cases e
    | some ρ1 =>
      rw [e1] at e
      have nopr : own d = false := by
        cases d with
        | lst o xs => simp only [Fz] at f1; rw [f1.1]; rfl
        | _ => rfl
      refine ⟨v, r, rfl, S, ρ, F, d, [], st, .of nopr f1, (fun _ z => by cases z), ρ1, e1, fun σ1 F1 st1 p1 s1 => ?_⟩
      refine ⟨S, ρ1, F1, ds, st1, f2, ρ', e, fun σ2 F2 st2 p2 s2 => q σ2 F2 st2 (fun x hx => ?_) (s1.trans s2)⟩
      rcases p1 x (p2 x hx) with z | z
      · cases z
      · exact z
theorem tg_len : ∀ {es : List Expr} {env : Env}, es.all isTg = true → (assignEach es env).length = es.length ∧ (assignEach es env).findIdx? (·.1) = none
  | [], _, _ => ⟨rfl, rfl⟩
  | e :: es, env, h => by
    simp only [List.all_cons, Bool.and_eq_true] at h
    obtain ⟨h1, h2⟩ := tg_len (es := es) (env := env) h.2
    have key : ∃ m, assignEach (e :: es) env = (false, m) :: assignEach es env := by
      cases e <;> first | exact ⟨_, rfl⟩ | simp [isTg] at h
    obtain ⟨m, k⟩ := key
    rw [k, List.length_cons, List.length_cons, h1, List.findIdx?_cons]
    exact ⟨rfl, by simp [h2]⟩
theorem asgL_len : ∀ {ts : List Tg} {ds : List D} {ρ ρ' : Ev}, asgL ts ds ρ = some ρ' → ds.length = ts.length
  | [], [], _, _, _ => rfl
  | [], _ :: _, _, _, e => by cases e
  | _ :: _, [], _, _, e => by cases e
  | t :: ts, d :: ds, ρ, ρ', e => by
    simp only [asgL] at e
    cases e1 : asg t d ρ with
    | none => rw [e1] at e; cases e
    | some ρ1 => rw [e1] at e; simp [asgL_len e]
theorem g_tp {es : List Expr} {k : Nat} {ts : List Tg} (Gd : Good X G W Φ) (h : PGs X es (gAs G ts)) (ha : es.all isTg = true) (hl : es.length = ts.length) : PG X (.Tuple es k pos) (gA G (.tp ts)) := by
  obtain ⟨h1, h2⟩ := tg_len (env := X.env) ha
  refine (pg_tup Gd.calm h (h1.trans hl) h2).imp fun v σ H Q hq => ?_
  obtain ⟨S, ρ, F, d, T, st, w, dj, ρ', e, q⟩ := hq
  have key : ∃ a vs ds, v = .ref a ∧ SqT X.K H a vs ∧ FzL G H S ds vs ∧ asgL ts ds ρ = some ρ' := by
    rw [Gd.K]
    cases d with
    | tup xs =>
      obtain ⟨a, vs, rfl, h3, h4⟩ := (show Rb G H S (.tup xs) v from ⟨T, w⟩).tup
      exact ⟨a, vs, xs, rfl, h3, h4, e⟩
    | pr x y =>
      have w2 := (Ow.fz w rfl).2
      simp only [Fz] at w2
      obtain ⟨a, u, z, rfl, h3, h4, h5, h6⟩ := w2
      exact ⟨a, [u, z], [x, y], rfl, .inl (.inl h4), .cons h5 (.cons h6 .nil), e⟩
    | _ => simp [asg] at e
  obtain ⟨a, vs, ds, rfl, h3, h4, h5⟩ := key
  refine ⟨a, vs, rfl, h3, by rw [← h4.length, asgL_len h5], S, ρ, F, ds, st, h4, ρ', h5, fun σ' F' st' p' s' => q σ' F' st' (fun x hx => .inr (p' x hx)) s'⟩
end
end VP

set_option Elab.async false
set_option linter.all false
set_option maxRecDepth 100000
set_option maxHeartbeats 1000000
/-! Comprehensions. -/
namespace VP
open PySem PySem.Spec PyProof.Rows L2
section
variable {X : Cx} {G : Gv} {W : WX} {Φ : Fns} {σ : L2.St} {H H' : Hp} {S S' : AP'} {ρ ρ' : Ev} {F F' : Fps} {R1 : AP'} {Q : VK} {pos : Pos}
theorem New.ext {T : List Addr} (n : New S H S' H' T) (P : AP') : Ext P S H (fun x => x ∈ T ∨ P x) S' H' := ⟨fun a u e _ => n.keep a u e, n.froz, fun a u e _ h => n.back a u e h, fun a z => by
  rcases z with z | z
  · exact .inr (n.own a z)
  · exact .inl z⟩
/-- what is held stays, where others step -/
theorem Hd.step {P P' : AP'} (h : Hd H S F R1) (e : Ext P S H P' S' H') (hp : ∀ x, R1 x → ¬ P x) (hf : ∀ x, Pf F' x → P' x ∨ Pf F x) : Hd H' S' F' R1 where
  f := fun x hx p => by
    rcases hf x p with z | z
    · rcases e.own x z with z | z
      · exact hp x hx z
      · obtain ⟨u, q⟩ := h.h x hx
        rw [z] at q; cases q
    · exact h.f x hx z
  s := fun x hx z => by
    obtain ⟨u, q⟩ := h.h x hx
    exact h.s x hx (e.back x u q (hp x hx) z)
  h := fun x hx => by
    obtain ⟨u, q⟩ := h.h x hx
    exact ⟨u, e.keep x u q (hp x hx)⟩
theorem Hd.sub {R2 : AP'} (h : Hd H S F R1) (k : ∀ x, R2 x → R1 x) : Hd H S F R2 := ⟨fun x hx => h.f x (k x hx), fun x hx => h.s x (k x hx), fun x hx => h.h x (k x hx)⟩
theorem wipe_wipe {vs ws : List Nat} (h : ∀ j, j ∈ ws → j ∈ vs) : wipe (wipe σ ws) vs = wipe σ vs := by
  apply List.ext_getElem?
  intro j
  rw [wipe_get, wipe_get, wipe_get]
  split
  · split
    · cases σ[j]? <;> rfl
    · rfl
  · rename_i hn
    rw [if_neg fun z => hn (h j z)]
theorem blank_sub {vs ws : List Nat} (h : ∀ j, j ∈ ws → j ∈ vs) : blank (blank ρ ws) vs = blank ρ vs := by
  apply List.ext_getElem?
  intro j
  rw [blank_get, blank_get, blank_get]
  split
  · split
    · cases ρ[j]? <;> rfl
    · rfl
  · rename_i hn
    rw [if_neg fun z => hn (h j z)]
variable (G) in
/-- the state between two turns -/
def LI (σ : L2.St) (vs : List Nat) (R : AP') (Z : List D → AP' → Hp → Prop) (P0 S0 : AP') (H0 : Hp) (ρ : Ev) (ds : List D) (H : Hp) : Prop :=
  ∃ (S : AP') (F : Fps), StO G H S (wipe σ vs) (blank ρ vs) F ∧ Hd H S F R ∧ Z ds S H ∧ Ext P0 S0 H0 (fun x => R x ∨ Pf F x) S H
variable (G) in
/-- the state in a turn -/
def LB (σ2 : L2.St) (R : AP') (Z : List D → AP' → Hp → Prop) (P0 S0 : AP') (H0 : Hp) (ρ : Ev) (ds : List D) (H : Hp) : Prop :=
  ∃ (S : AP') (F : Fps), StO G H S σ2 ρ F ∧ Hd H S F R ∧ Z ds S H ∧ Ext P0 S0 H0 (fun x => R x ∨ Pf F x) S H
/-- what stands beside a walk -/
structure Zok (R : AP') (Z : List D → AP' → Hp → Prop) : Prop where
  keep : ∀ {ds S H P S' H' P'}, Z ds S H → Ext P S H P' S' H' → (∀ x, P x → ¬ S x) → (∀ x, R x → ¬ P x) → Z ds S' H'
theorem own_fz {d : D} {v : V} (h : Fz G H S d v) : own d = false := by
  cases d with
  | lst o xs => simp only [Fz] at h; rw [h.1]; rfl
  | _ => rfl
theorem bnd_ok_inv {α β : Type} {m : R α} {f : α → Ev → R β} {x : β} {ρ' : Ev} (h : bnd m f = some (.ok x ρ')) : ∃ a ρ1, m = some (.ok a ρ1) ∧ f a ρ1 = some (.ok x ρ') := by
  cases m with
  | none => cases h
  | some o => cases o with
    | er e ρ => cases h
    | ok a ρ => exact ⟨a, ρ, rfl, h⟩
theorem loop_ok {vs : List Nat} {R : AP'} {Z : List D → AP' → Hp → Prop} {P0 S0 : AP'} {H0 : Hp} {J : It} {xs : List D} {t : Tg} {stp : Ev → VP.R (List D)} {ρ0 ρF : Ev} {ds0 dsR : List D} {Bd : L2.St → Hp → (Hp → Prop) → Prop} {Qe : Hp → Prop}
    (zk : Zok R Z) (ht : ∀ j, j ∈ tgS t → j ∈ vs)
    (hx : ∀ ds S H, Z ds S H → Wf S H → (∀ i x, xs[i]? = some x → J.go i H ∧ ∀ v H2, J.yld i H v H2 → ∃ S2, New S H S2 H2 [] ∧ Fz G H2 S2 x v) ∧ J.stop xs.length H)
    (body : ∀ ρa ds ys ρ' σ2 H2 Nx, stp ρa = some (.ok ys ρ') → wipe σ2 vs = wipe σ vs → LB G σ2 R Z P0 S0 H0 ρa ds H2 → (∃ r, (ds ++ ys) ++ r = ds0 ++ dsR) → (∀ H3, LI G σ vs R Z P0 S0 H0 ρ' (ds ++ ys) H3 → Nx H3) → Bd σ2 H2 Nx)
    (start : LI G σ vs R Z P0 S0 H0 ρ0 ds0 H) (eC : compL (stepOf t vs stp) xs ρ0 = some (.ok dsR ρF)) (fin : ∀ H, LI G σ vs R Z P0 S0 H0 ρF (ds0 ++ dsR) H → Qe H) :
    ∃ Wm : Nat → Nat → Hp → Prop, (∃ m, Wm 0 m H) ∧ ∀ i m H, Wm i m H → (J.stop i H ∧ Qe H) ∨ (J.go i H ∧ ∃ Nx : Hp → Prop, (∀ H', Nx H' → ∃ m', m' < m ∧ Wm (i + 1) m' H') ∧
      ∀ x H', J.yld i H x H' → gA G t x (wipe σ vs) H' fun σ2 H2 => wipe σ2 vs = wipe σ vs ∧ Bd σ2 H2 Nx) := by
  refine ⟨fun i m H => m = xs.length - i ∧ i ≤ xs.length ∧ ∃ ρ dsA dsB, LI G σ vs R Z P0 S0 H0 ρ dsA H ∧ compL (stepOf t vs stp) (xs.drop i) ρ = some (.ok dsB ρF) ∧ dsA ++ dsB = ds0 ++ dsR, ⟨_, rfl, Nat.zero_le _, ρ0, ds0, dsR, start, eC, rfl⟩, ?_⟩
  rintro i m H ⟨rfl, hi, ρ, dsA, dsB, ⟨S, F, st, hd, hz, ex⟩, eB, eD⟩
  obtain ⟨hgo, hstop⟩ := hx dsA S H hz st.wf
  by_cases hl : i = xs.length
  · subst hl
    rw [List.drop_length] at eB
    cases eB
    rw [List.append_nil] at eD
    exact .inl ⟨hstop, fin H ⟨S, F, st, hd, eD ▸ hz, ex⟩⟩
  · have hlt : i < xs.length := by omega
    rw [List.drop_eq_getElem_cons hlt] at eB
    simp only [compL] at eB
    obtain ⟨ys, ρ1, e1, eB⟩ := bnd_ok_inv eB
    obtain ⟨ds', ρ2, e2, eB⟩ := bnd_ok_inv eB
    cases eB
    obtain ⟨go, yl⟩ := hgo i xs[i] (List.getElem?_eq_getElem hlt)
    refine .inr ⟨go, fun H' => xs.length - (i + 1) = xs.length - (i + 1) ∧ i + 1 ≤ xs.length ∧ ∃ ρ dsA dsB, LI G σ vs R Z P0 S0 H0 ρ dsA H' ∧ compL (stepOf t vs stp) (xs.drop (i + 1)) ρ = some (.ok dsB ρF) ∧ dsA ++ dsB = ds0 ++ dsR, fun H' q => ⟨_, by omega, q⟩, fun v H' y => ?_⟩
    obtain ⟨S2, n, f⟩ := yl v H' y
    unfold stepOf at e1
    cases ea : asg t xs[i] (blank ρ vs) with
    | none => rw [ea] at e1; cases e1
    | some ρa =>
      rw [ea] at e1
      simp only at e1
      have exn := n.ext (fun _ => False)
      have st2 := n.sto st
      have hd2 : Hd H' S2 F R := hd.step exn (fun _ _ z => z) fun x p => .inr p
      have hz2 := zk.keep hz exn (fun _ z => z.elim) (fun _ _ z => z)
      have ex2 : Ext P0 S0 H0 (fun x => R x ∨ Pf F x) S2 H' := ex.trans ((n.ext (fun x => R x ∨ Pf F x)).congr (fun _ z => z) fun x z => .inr z)
      refine ⟨S2, blank ρ vs, F, xs[i], [], st2, .of (own_fz f) f, (fun _ z => by cases z), ρa, ea, fun σ' F' st3 p3 s3 => ⟨?_, ?_⟩⟩
      · rw [s3.wipe ht, wipe_wipe fun _ z => z]
      · refine body ρa dsA ys ρ1 σ' H' _ e1 (by rw [s3.wipe ht, wipe_wipe fun _ z => z]) ⟨S2, F', st3, ?_, hz2, ex2.congr (fun _ z => z) fun x z => ?_⟩ ⟨ds', by rw [List.append_assoc]; exact eD⟩ fun H3 q => ⟨rfl, hlt, ρ1, dsA ++ ys, ds', q, e2, by rw [List.append_assoc]; exact eD⟩
        · refine ⟨fun x hx p => ?_, hd2.s, hd2.h⟩
          rcases p3 x p with z | z
          · cases z
          · exact hd2.f x hx z
        · rcases z with z | z
          · exact .inl z
          · rcases p3 x z with z | z
            · cases z
            · exact .inr z
/-- a new object of the walk's own -/
theorem Ext.one {P : AP'} {a : Addr} {o : HO} (h : P a) : Ext P S H P S (upd H a o) := ⟨fun x u e n => by
  have hn : x ≠ a := by rintro rfl; exact n h
  rw [upd_ne hn]; exact e, fun _ z => z, fun _ _ _ _ z => z, fun _ z => .inl z⟩
theorem StO.upd {a : Addr} {o : HO} (st : StO G H S σ ρ F) (h : ¬ S a) (hf : ¬ Pf F a) : StO G (upd H a o) S σ ρ F :=
  st.keep (P := fun x => x = a) (Ext.one rfl) (fun x z => by subst z; exact h) (fun x p z => by subst z; exact hf p) fun x z => by
    obtain ⟨u, e⟩ := st.wf x z
    have n : x ≠ a := by rintro rfl; exact h z
    exact ⟨u, by rw [upd_ne n]; exact e⟩
variable (G) in
/-- the list at Da holds ds; what stands beside it -/
def ZL (Da : Addr) (Y : AP' → Hp → Prop) (ds : List D) (S : AP') (H : Hp) : Prop := (∃ us, H Da = some (.lst us) ∧ FzL G H S ds us) ∧ Y S H
structure Yok (R : AP') (Y : AP' → Hp → Prop) : Prop where
  keep : ∀ {S H P S' H' P'}, Y S H → Ext P S H P' S' H' → (∀ x, P x → ¬ S x) → (∀ x, R x → ¬ P x) → Y S' H'
theorem zl_ok {Da : Addr} {R : AP'} {Y : AP' → Hp → Prop} (yk : Yok R Y) : Zok (fun x => R x ∨ x = Da) (ZL G Da Y) where
  keep := fun ⟨⟨us, e, f⟩, y⟩ ex hs hr => ⟨⟨us, ex.keep Da _ e (hr Da (.inr rfl)), f.mono (ex.mono hs)⟩, yk.keep y ex hs fun x hx => hr x (.inl hx)⟩
/-- an item's value is put behind the list -/
theorem put_item {Da : Addr} {R : AP'} {Y : AP' → Hp → Prop} {P0 S0 : AP'} {H0 : Hp} {ds : List D} {σ2 : L2.St} {d : D} {v : V} (yk : Yok R Y) (hR : ¬ R Da) (st : StO G H S σ2 ρ F) (hd : Hd H S F (fun x => R x ∨ x = Da)) (hz : ZL G Da Y ds S H)
    (ex : Ext P0 S0 H0 (fun x => (R x ∨ x = Da) ∨ Pf F x) S H) (f : Fz G H S d v) (hl : (ds ++ [d]).length ≤ LIM) :
    ∃ acc, H Da = some (.lst acc) ∧ acc.length < sizeLine ∧ LB G σ2 (fun x => R x ∨ x = Da) (ZL G Da Y) P0 S0 H0 ρ (ds ++ [d]) (upd H Da (.lst (acc ++ [v]))) := by
  obtain ⟨⟨us, e, fu⟩, y⟩ := hz
  have hS : ¬ S Da := hd.s Da (.inr rfl)
  refine ⟨us, e, ?_, S, F, st.upd hS (hd.f Da (.inr rfl)), ?_, ⟨⟨us ++ [v], upd_same, ?_⟩, ?_⟩, ?_⟩
  · rw [List.length_append, List.length_singleton, fu.length] at hl
    exact hl
  · refine ⟨hd.f, hd.s, fun x hx => ?_⟩
    by_cases hn : x = Da
    · rw [hn]; exact ⟨_, upd_same⟩
    · obtain ⟨u, q⟩ := hd.h x hx
      exact ⟨u, by rw [upd_ne hn]; exact q⟩
  · exact (fu.append (.cons f .nil)).mono (upd_mono hS)
  · exact yk.keep y (Ext.one (P := fun x => x = Da) rfl) (fun x z => by subst z; exact hS) fun x hx z => by subst z; exact hR hx
  · exact ex.trans (Ext.one (.inl (.inr rfl)))
/-- what a walk holds of the frame: the slots put aside, the walked ones -/
structure HY (G : Gv) (σ : L2.St) (hs : List (Nat × D)) (T : List Addr) (vs : List Nat) (ρ1 : Ev) (F1 : Fps) (S1 : AP') (H1 : Hp) (S : AP') (H : Hp) : Prop where
  rh : rH G σ H S hs T
  as : ∀ j, j ∈ vs → ∀ d, ρ1[j]? = some (some d) → ∃ v, σ[j]? = some (some v) ∧ Ow G H S d v (F1 j)
  mono : Mono S1 H1 S H
theorem hy_ok {hs : List (Nat × D)} {T : List Addr} {vs : List Nat} {ρ1 : Ev} {F1 : Fps} {S1 : AP'} {H1 : Hp} {R : AP'} (hT : ∀ x, x ∈ T → R x) (hA : ∀ x, aside F1 vs x → R x) : Yok R (HY G σ hs T vs ρ1 F1 S1 H1) where
  keep := fun y e hs hr => ⟨rH_keep e hs _ y.rh fun x hx => hr x (hT x hx), fun j hj d q => by
    obtain ⟨v, e1, w⟩ := y.as j hj d q
    exact ⟨v, e1, w.keep e hs fun x hx => hr x (hA x ⟨j, hj, hx⟩)⟩, y.mono.trans (e.mono hs)⟩
theorem blank_blank2 (ρ : Ev) (is : List Nat) : blank (blank ρ is) is = blank ρ is := blank_blank ρ is
/-- the frame put back behind a walk -/
theorem back_ok {hs : List (Nat × D)} {T : List Addr} {vs : List Nat} {ρ1 ρF : Ev} {F1 : Fps} {S1 : AP'} {H1 : Hp} (st1 : StO G H1 S1 σ ρ1 F1) (hT1 : ∀ x, x ∈ T → ¬ Pf F1 x) (st : StO G H S (wipe σ vs) (blank ρF vs) F) (y : HY G σ hs T vs ρ1 F1 S1 H1 S H)
    (hT : ∀ x, x ∈ T → ¬ Pf F x) (hA : ∀ x, aside F1 vs x → ¬ Pf F x) : ∃ F', StO G H S σ (putH hs (restore ρ1 ρF vs)) F' ∧ ∀ x, Pf F' x → x ∈ T ∨ aside F1 vs x ∨ Pf F x := by
  have hl : ρ1.length = (blank ρF vs).length := by rw [st1.len, st.len, wipe_length]
  have e1 : restore ρ1 (blank ρF vs) vs = restore ρ1 ρF vs := by
    apply List.ext_getElem?
    intro j
    rw [restore_get _ _ hl, restore_get _ _ (by rw [hl, blank_len]), blank_get]
    split
    · rfl
    · rfl
  have st2 := st.restore (σ := σ) (ρ0 := ρ1) (F0 := F1) (is := vs) (fun j hj => by rw [wipe_get, if_neg hj]) (wipe_length _ _) hl (fun j hj => st.emp j fun d e => by
      rw [blank_get, if_pos hj] at e
      cases q : ρF[j]? <;> rw [q] at e <;> cases e)
    y.as (fun j hj n => st1.emp j n) (fun j hj a ha => hA a ⟨j, hj, ha⟩) (fun i j a h1 h2 => st1.dis i j a h1 h2)
  rw [e1] at st2
  have pf : ∀ x, Pf (fun j => if j ∈ vs then F1 j else F j) x → aside F1 vs x ∨ Pf F x := fun x ⟨j, hj⟩ => by
    simp only at hj
    split at hj
    · rename_i m; exact .inl ⟨j, m, hj⟩
    · exact .inr ⟨j, hj⟩
  obtain ⟨F', st3, p3⟩ := StO.putH hs st2 y.rh fun x hx p => by
    rcases pf x p with z | z
    · exact hT1 x hx (aside_Pf z)
    · exact hT x hx z
  refine ⟨F', st3, fun x p => ?_⟩
  rcases p3 x p with z | z
  · exact .inl z
  · exact .inr (pf x z)
abbrev Wn : WX := fun _ _ _ _ => False
/-- an item: the test, the value, what is put behind the list -/
theorem elem_ok {vs : List Nat} {Da : Addr} {R : AP'} {Y : AP' → Hp → Prop} {P0 S0 : AP'} {H0 : Hp} {ds ys : List D} {σ0 σ2 : L2.St} {c' e' : E} {ρa : Ev} {Nx : Hp → Prop} (yk : Yok R Y) (hR : ¬ R Da) (hw : wipe σ2 vs = wipe σ0 vs) (eS : elemOf (tst Φ c') (op Φ e') ρa = some (.ok ys ρ'))
    (hb : LB G σ2 (fun x => R x ∨ x = Da) (ZL G Da Y) P0 S0 H0 ρa ds H) (hl : (ds ++ ys).length ≤ LIM) (hN : ∀ H3, LI G σ0 vs (fun x => R x ∨ x = Da) (ZL G Da Y) P0 S0 H0 ρ' (ds ++ ys) H3 → Nx H3) :
    tT G Wn (tst Φ c') σ2 H fun b H3 => if b = true then tO G Wn (op Φ e') σ2 H3 fun y H4 => ∃ acc, H4 Da = some (.lst acc) ∧ acc.length < sizeLine ∧ Nx (upd H4 Da (.lst (acc ++ [y]))) else Nx H3 := by
  obtain ⟨S, F, st, hd, hz, ex⟩ := hb
  have zk := zl_ok (G := G) (Da := Da) yk
  have fin : ∀ {ρx ds H3}, LB G σ2 (fun x => R x ∨ x = Da) (ZL G Da Y) P0 S0 H0 ρx ds H3 → LI G σ0 vs (fun x => R x ∨ x = Da) (ZL G Da Y) P0 S0 H0 ρx ds H3 := by
    rintro ρx ds H3 ⟨S, F, st, hd, hz, ex⟩
    refine ⟨S, blankF F vs, hw ▸ st.blank vs, ⟨fun x hx p => hd.f x hx (Pf_blank p), hd.s, hd.h⟩, hz, ex.congr (fun _ z => z) fun x z => ?_⟩
    rcases z with z | z
    · exact .inl z
    · exact .inr (Pf_blank z)
  unfold elemOf at eS
  obtain ⟨k, ρb, e1, eS⟩ := bnd_ok_inv eS
  refine tG_ok rB_ok st hd e1 fun k2 H1 S1 F1 T st1 hd1 rk _ ex1 => ?_
  obtain ⟨rfl, rfl⟩ := rk
  have hd1' : Hd H1 S1 F1 (fun x => R x ∨ x = Da) := hd1.sub fun x hx => .inr hx
  have hz1 := zk.keep hz ex1 st.sep fun x hx p => hd.f x hx p
  have ex1' : Ext P0 S0 H0 (fun x => (R x ∨ x = Da) ∨ Pf F1 x) S1 H1 := ex.trans ((ex1.frame (fun x => R x ∨ x = Da)).congr (fun _ z => z) fun x z => by
    rcases z with z | z
    · exact .inl z
    · exact .inr (.inr z))
  cases k2 with
  | false =>
    rw [if_neg Bool.false_ne_true] at eS ⊢
    cases eS
    rw [List.append_nil] at hN
    exact hN _ (fin ⟨S1, F1, st1, hd1', hz1, ex1'⟩)
  | true =>
    rw [if_pos rfl] at eS ⊢
    obtain ⟨o, ρc, e2, eS⟩ := bnd_ok_inv eS
    obtain ⟨d, ρd, e3, eS⟩ := bnd_ok_inv eS
    cases eS
    refine tG_ok rO_ok st1 hd1' e2 fun v H2 S2 F2 T2 st2 hd2 ro dj ex2 => ?_
    obtain ⟨S3, F3, T3, st3, w3, dj3, x3⟩ := val_ok st2 ro (fun x hx => hd2.f x (.inl hx)) e3
    obtain ⟨st4, f4, x4⟩ := frz_ok st3 w3 dj3
    have x24 := x3.trans x4
    have hd2' : Hd H2 S2 F2 (fun x => R x ∨ x = Da) := hd2.sub fun x hx => .inr hx
    have disj : ∀ x, (R x ∨ x = Da) → ¬ (x ∈ T2 ∨ Pf F2 x) := fun x hx z => by
      rcases z with z | z
      · exact dj x z hx
      · exact hd2'.f x hx z
    have hd4 : Hd H2 (addS S3 T3) F3 (fun x => R x ∨ x = Da) := hd2'.step x24 disj fun x p => .inl p
    have hz2 := zk.keep hz1 ex2 st1.sep fun x hx p => hd1'.f x hx p
    have hz4 := zk.keep hz2 x24 (fun x hx => by
      rcases hx with hx | hx
      · exact (rO_ok.there ro hx).1
      · exact st2.sep x hx) disj
    have ex4 := (ex1'.trans (ex2.frame (fun x => R x ∨ x = Da))).trans (x24.frame (fun x => R x ∨ x = Da))
    obtain ⟨acc, h1, h2, h3⟩ := put_item yk hR st4 hd4 hz4 ex4 f4 hl
    exact ⟨acc, h1, h2, hN _ (fin h3)⟩
/-- a comprehension's run, whatever an item asks -/
theorem comp_run {vs : List Nat} {xh : List D × List (Nat × D)} {ρ1 ρF : Ev} {J : It} {H1 : Hp} {S1 : AP'} {F1 : Fps} {T : List Addr} {dsF : List D} {Da : Addr} {t' : Tg} {stp : Ev → VP.R (List D)} {Bd : L2.St → Hp → (Hp → Prop) → Addr → Prop} (st1 : StO G H1 S1 σ ρ1 F1) (hd1 : Hd H1 S1 F1 (fun x => x ∈ T ∨ False)) (r : rI G σ H1 S1 xh J T) (hDa : H1 Da = none) (hlF : dsF.length ≤ LIM)
    (eC : compL (stepOf t' vs stp) xh.1 (blank ρ1 vs) = some (.ok dsF ρF)) (hv : ∀ j, j ∈ tgS t' → j ∈ vs)
    (hB : ∀ ρa ds ys ρ' σ2 H2 (Nx : Hp → Prop) (P0 S0 : AP') (H0 : Hp) (R : AP') (Y : AP' → Hp → Prop), Yok R Y → ¬ R Da → stp ρa = some (.ok ys ρ') → wipe σ2 vs = wipe σ vs → LB G σ2 (fun x => R x ∨ x = Da) (ZL G Da Y) P0 S0 H0 ρa ds H2 → (ds ++ ys).length ≤ LIM →
      (∀ H3, LI G σ vs (fun x => R x ∨ x = Da) (ZL G Da Y) P0 S0 H0 ρ' (ds ++ ys) H3 → Nx H3) → Bd σ2 H2 Nx Da)
    (h1 : Fin G W σ S1 H1 (fun x => (x ∈ T ∨ False) ∨ Pf F1 x) (rO G σ) Q (ret (.tmp (.lst true dsF)) (putH xh.2 (restore ρ1 ρF vs)))) :
    ∃ Wm : Nat → Nat → Hp → Prop, (∃ m, Wm 0 m (upd H1 Da (.lst []))) ∧ ∀ i m H, Wm i m H → (J.stop i H ∧ Q (.ref Da) H) ∨ (J.go i H ∧ ∃ Nx : Hp → Prop, (∀ H', Nx H' → ∃ m', m' < m ∧ Wm (i + 1) m' H') ∧
      ∀ x H', J.yld i H x H' → gA G t' x (wipe σ vs) H' fun σ2 H2 => wipe σ2 vs = wipe σ vs ∧ Bd σ2 H2 Nx Da) := by
  have fresh : ∀ x, (∃ u, H1 x = some u) → x ≠ Da := by
    rintro x ⟨u, e⟩ rfl
    rw [hDa] at e; cases e
  have yk : Yok (fun x => x ∈ T ∨ aside F1 vs x) (HY G σ xh.2 T vs ρ1 F1 S1 H1) := hy_ok (fun x hx => .inl hx) fun x hx => .inr hx
  have hR : ¬ (Da ∈ T ∨ aside F1 vs Da) := fun z => by
    rcases z with z | z
    · exact fresh Da (hd1.h Da (.inl z)) rfl
    · exact fresh Da (st1.own (aside_Pf z)).2 rfl
  refine loop_ok (R := fun x => (x ∈ T ∨ aside F1 vs x) ∨ x = Da) (Z := ZL G Da (HY G σ xh.2 T vs ρ1 F1 S1 H1)) (P0 := fun x => (x ∈ T ∨ False) ∨ Pf F1 x) (S0 := S1) (H0 := H1) (ρ0 := blank ρ1 vs) (ds0 := []) (dsR := dsF) (ρF := ρF) (stp := stp) (t := t') (xs := xh.1) (zl_ok yk) hv ?_ ?_ ?_ ?_ ?_
  · exact fun ds S H hz wf => r.2 S H hz.2.mono wf hz.2.rh
  · intro ρa ds ys ρ' σ2 H2 Nx e1 hw hb hr hN
    refine hB ρa ds ys ρ' σ2 H2 Nx _ _ _ _ _ yk hR e1 hw hb ?_ hN
    obtain ⟨r, e⟩ := hr
    rw [List.nil_append] at e
    have := congrArg List.length e
    rw [List.length_append] at this
    omega
  · have b1 := st1.blank vs
    rw [← blank_blank ρ1 vs] at b1
    refine ⟨S1, blankF F1 vs, b1.upd (fun z => ?_) (fun z => ?_), ⟨fun x hx p => ?_, fun x hx => ?_, fun x hx => ?_⟩, ⟨⟨[], upd_same, .nil⟩, ?_⟩, ?_⟩
    · exact fresh Da (st1.wf Da z) rfl
    · exact fresh Da (st1.own (Pf_blank z)).2 rfl
    · rcases hx with (hx | hx) | hx
      · exact hd1.f x (.inl hx) (Pf_blank p)
      · exact aside_sep st1 hx p
      · exact fresh x (st1.own (Pf_blank p)).2 hx
    · rcases hx with (hx | hx) | hx
      · exact hd1.s x (.inl hx)
      · exact (st1.own (aside_Pf hx)).1
      · exact fun z => fresh x (st1.wf x z) hx
    · rcases hx with (hx | hx) | hx
      · obtain ⟨u, e⟩ := hd1.h x (.inl hx)
        exact ⟨u, by rw [upd_ne (fresh x ⟨u, e⟩)]; exact e⟩
      · obtain ⟨u, e⟩ := (st1.own (aside_Pf hx)).2
        exact ⟨u, by rw [upd_ne (fresh x ⟨u, e⟩)]; exact e⟩
      · exact ⟨_, by rw [hx]; exact upd_same⟩
    · refine yk.keep (S := S1) (H := H1) (P := fun x => x = Da) ⟨r.1, fun j hj d q => ?_, .refl⟩ (Ext.one rfl) (fun x z hs => fresh x (st1.wf x hs) z) fun x hx z => by subst z; exact hR hx
      exact st1.slot j d q
    · refine ⟨fun x u e _ => by rw [upd_ne (fresh x ⟨u, e⟩)]; exact e, fun _ z => z, fun _ _ _ _ z => z, fun x z => ?_⟩
      rcases z with ((z | z) | z) | z
      · exact .inl (.inl (.inl z))
      · exact .inl (.inr (aside_Pf z))
      · exact .inr (by rw [z]; exact hDa)
      · exact .inl (.inr (Pf_blank z))
  · exact eC
  · rintro H2 ⟨S2, F2, st2, hd2, hz2, ex2⟩
    rw [List.nil_append] at hz2
    obtain ⟨⟨us, e, f⟩, y⟩ := hz2
    obtain ⟨F', st3, p3⟩ := back_ok st1 (fun x hx => hd1.f x (.inl hx)) st2 y (fun x hx => hd2.f x (.inl (.inl hx))) (fun x hx => hd2.f x (.inl (.inr hx)))
    refine h1 (.ref Da) H2 S2 F' [Da] (ex2.congr (fun _ z => z) fun x z => ?_) st3 ⟨Da, us, rfl, rfl, hd2.s Da (.inr rfl), e, f⟩ fun x hx p => ?_
    · rcases z with z | z
      · exact .inl (.inr (by simpa using z))
      · rcases p3 x z with z | z | z
        · exact .inl (.inl (.inl z))
        · exact .inl (.inl (.inr z))
        · exact .inr z
    · have hx' : x = Da := by simpa using hx
      subst hx'
      rcases p3 x p with z | z | z
      · exact hR (.inl z)
      · exact hR (.inr z)
      · exact hd2.f x (.inr rfl) z
theorem comp_read {own : List (Str × Nat)} {e' s' c' : E} {t' : Tg} (hv : ∀ j, j ∈ tgS t' → j ∈ own.map (·.2)) {σ : L2.St} {H : Hp} {Q : VK} (h : tO G W (op Φ (.comp e' t' s' c' own)) σ H Q) :
    tLc (tI G W (itr Φ s')) (gA G t') (tT G Wn (tst Φ c')) (tO G Wn (op Φ e')) (own.map (·.2)) σ H Q := by
  obtain ⟨S, ρ, F, st, h⟩ := h
  simp only [op] at h
  refine tG_intro0 rI_ok st h fun xh ρ1 J H1 S1 F1 T _ st1 hd1 r _ h1 => ?_
  intro Da hDa
  generalize hvs : own.map (·.2) = vs at *
  cases eC : compL (stepOf t' vs (elemOf (tst Φ c') (op Φ e'))) xh.1 (blank ρ1 vs) with
  | none => rw [eC] at h1; exact h1.elim
  | some out => cases out with
    | er er ρ2 => rw [eC] at h1; exact h1.elim
    | ok dsF ρF =>
      rw [eC] at h1
      simp only [noEr, bnd_ok] at h1
      split at h1
      case isFalse => exact h1.elim
      rename_i hlF
      exact comp_run (Bd := fun σ2 H2 Nx Da => tT G Wn (tst Φ c') σ2 H2 fun b H3 => if b = true then tO G Wn (op Φ e') σ2 H3 fun y H4 => ∃ acc, H4 Da = some (.lst acc) ∧ acc.length < sizeLine ∧ Nx (upd H4 Da (.lst (acc ++ [y]))) else Nx H3) st1 hd1 r hDa hlF eC hv (fun ρa ds ys ρ' σ2 H2 Nx P0 S0 H0 R Y yk hR e1 hw hb hl hN => elem_ok yk hR hw e1 hb hl hN) h1
theorem e_comp {elt tg iter : Expr} {ifs : List Expr} {scope : Scope} {own : List (Str × Nat)} {e' s' c' : E} {t' : Tg} (Gd : Good X G W Φ) (hi : PI X tg iter (tI G W (itr Φ s'))) (ok : BlkOk X.N X.env.scope scope own)
    (hg : ∀ (s : Shared) (H : Hp) (C : Addr) (cl : List (Str × Addr)) (fp : List Addr), PG (X.blk s H scope (compEnvC scope cl C X.env) fp) tg (gA G t'))
    (ht : ∀ (s : Shared) (H : Hp) (C : Addr) (cl : List (Str × Addr)) (fp : List Addr), PTs (X.blk s H scope (compEnvC scope cl C X.env) fp) ifs (tT G Wn (tst Φ c')))
    (he : ∀ (s : Shared) (H : Hp) (C : Addr) (cl : List (Str × Addr)) (fp : List Addr), PE (X.blk s H scope (compEnvC scope cl C X.env) fp) elt (tO G Wn (op Φ e'))) (hs : notSet iter = true) (hv : ∀ j, j ∈ tgS t' → j ∈ own.map (·.2)) :
    PE X (.ListComp elt [⟨tg, iter, ifs, 0⟩] scope pos) (tO G W (op Φ (.comp e' t' s' c' own))) :=
  (pe_lc Gd.calm Gd.nd hi ok hg ht he (by cases iter <;> first | (intro _; rfl) | simp [notSet] at hs)).imp fun σ H Q h => comp_read hv h
theorem put_blank {σ2 : L2.St} {vs : List Nat} : ∀ (l : List (Nat × D)) {ρ : Ev} {F : Fps} {T : List Addr}, StO G H S (wipe σ2 vs) (blank ρ vs) F → rH G σ2 H S l T → (∀ x, x ∈ T → ¬ Pf F x) → ∃ F', StO G H S (wipe σ2 vs) (blank (putH l ρ) vs) F' ∧ ∀ x, Pf F' x → x ∈ T ∨ Pf F x
  | [], ρ, F, T, h, _, _ => ⟨F, h, fun _ p => .inr p⟩
  | p :: l, ρ, F, T, h, r, hd => by
    obtain ⟨v, T1, T2, e1, e2, h1, h2, h3⟩ := r
    subst e1
    have hi := (List.getElem?_eq_some_iff.mp e2).1
    have hl : ρ.length = σ2.length := by have := h.len; rw [blank_len, wipe_length] at this; exact this
    by_cases hm : p.1 ∈ vs
    · have eb : blank (ρ.set p.1 (some p.2)) vs = blank ρ vs := by
        apply List.ext_getElem?
        intro j
        rw [blank_get, blank_get]
        by_cases hj : j = p.1
        · subst hj
          rw [if_pos hm, if_pos hm, List.getElem?_set_self (by omega), List.getElem?_eq_getElem (by omega)]; rfl
        · rw [List.getElem?_set_ne (Ne.symm hj)]
      obtain ⟨F', h5, h6⟩ := put_blank l (ρ := ρ.set p.1 (some p.2)) (eb.symm ▸ h) h2 fun x hx => hd x (List.mem_append_right _ hx)
      refine ⟨F', h5, fun x hp => ?_⟩
      rcases h6 x hp with z | z
      · exact .inl (List.mem_append_right _ z)
      · exact .inr z
    · have es : (wipe σ2 vs)[p.1]? = some (some v) := by rw [wipe_get, if_neg hm]; exact e2
      have h4 := h.put (i := p.1) (by rw [wipe_length]; exact hi) h1 fun a ha => hd a (List.mem_append_left _ ha)
      rw [set_same es] at h4
      have eb : (blank ρ vs).set p.1 (some p.2) = blank (ρ.set p.1 (some p.2)) vs := by
        apply List.ext_getElem?
        intro j
        rw [blank_get]
        by_cases hj : j = p.1
        · subst hj
          rw [if_neg hm, List.getElem?_set_self (by rw [blank_len]; omega), List.getElem?_set_self (by omega)]
        · rw [List.getElem?_set_ne (Ne.symm hj), List.getElem?_set_ne (Ne.symm hj), blank_get]
      rw [eb] at h4
      obtain ⟨F', h5, h6⟩ := put_blank l h4 h2 fun x hx hp => by
        rcases Pf_put hp with z | z
        · exact h3 x z hx
        · exact hd x (List.mem_append_right _ hx) z
      refine ⟨F', h5, fun x hp => ?_⟩
      rcases h6 x hp with z | z
      · exact .inl (List.mem_append_right _ z)
      · rcases Pf_put z with z | z
        · exact .inl (List.mem_append_left _ z)
        · exact .inr z
/-- the inner walk of two -/
theorem elem2_ok {vs vs2 : List Nat} {Da : Addr} {R : AP'} {Y : AP' → Hp → Prop} {P0 S0 : AP'} {H0 : Hp} {ds ys : List D} {σ0 σ2 : L2.St} {c' s2 c2 e' : E} {t2 : Tg} {ρa : Ev} {Nx : Hp → Prop} (yk : Yok R Y) (hR : ¬ R Da) (hw : wipe σ2 vs = wipe σ0 vs) (hv2 : ∀ j, j ∈ tgS t2 → j ∈ vs2) (hvv : ∀ j, j ∈ vs2 → j ∈ vs)
    (eS : elem2Of (tst Φ c') (itr Φ s2) t2 vs2 (tst Φ c2) (op Φ e') ρa = some (.ok ys ρ'))
    (hb : LB G σ2 (fun x => R x ∨ x = Da) (ZL G Da Y) P0 S0 H0 ρa ds H) (hl : (ds ++ ys).length ≤ LIM) (hN : ∀ H3, LI G σ0 vs (fun x => R x ∨ x = Da) (ZL G Da Y) P0 S0 H0 ρ' (ds ++ ys) H3 → Nx H3) :
    tT G Wn (tst Φ c') σ2 H fun b H3 => if b = true then tI G Wn (itr Φ s2) σ2 H3 fun J1 H4 => ∃ W1 : Nat → Nat → Hp → Prop, (∃ m, W1 0 m H4) ∧ ∀ j k H, W1 j k H →
      (J1.stop j H ∧ Nx H) ∨ (J1.go j H ∧ ∃ Nx1 : Hp → Prop, (∀ H', Nx1 H' → ∃ k', k' < k ∧ W1 (j + 1) k' H') ∧ ∀ x H', J1.yld j H x H' → gA G t2 x (wipe σ2 vs2) H' fun σ3 H5 => wipe σ3 vs2 = wipe σ2 vs2 ∧ tT G Wn (tst Φ c2) σ3 H5 fun b H6 =>
        if b = true then tO G Wn (op Φ e') σ3 H6 fun y H7 => ∃ acc, H7 Da = some (.lst acc) ∧ acc.length < sizeLine ∧ Nx1 (upd H7 Da (.lst (acc ++ [y]))) else Nx1 H6)
      else Nx H3 := by
  obtain ⟨S, F, st, hd, hz, ex⟩ := hb
  have zk := zl_ok (G := G) (Da := Da) yk
  unfold elem2Of at eS
  obtain ⟨k, ρb, e1, eS⟩ := bnd_ok_inv eS
  refine tG_ok rB_ok st hd e1 fun k2 H1 S1 F1 T st1 hd1 rk _ ex1 => ?_
  obtain ⟨rfl, rfl⟩ := rk
  have hd1' : Hd H1 S1 F1 (fun x => R x ∨ x = Da) := hd1.sub fun x hx => .inr hx
  have hz1 := zk.keep hz ex1 st.sep fun x hx p => hd.f x hx p
  have ex1' : Ext P0 S0 H0 (fun x => (R x ∨ x = Da) ∨ Pf F1 x) S1 H1 := ex.trans ((ex1.frame (fun x => R x ∨ x = Da)).congr (fun _ z => z) fun x z => by
    rcases z with z | z
    · exact .inl z
    · exact .inr (.inr z))
  cases k2 with
  | false =>
    rw [if_neg Bool.false_ne_true] at eS ⊢
    cases eS
    rw [List.append_nil] at hN
    refine hN _ ⟨S1, blankF F1 vs, hw ▸ st1.blank vs, ⟨fun x hx p => hd1'.f x hx (Pf_blank p), hd1'.s, hd1'.h⟩, hz1, ex1'.congr (fun _ z => z) fun x z => ?_⟩
    rcases z with z | z
    · exact .inl z
    · exact .inr (Pf_blank z)
  | true =>
    rw [if_pos rfl] at eS ⊢
    obtain ⟨yh, ρ3, e2, eS⟩ := bnd_ok_inv eS
    obtain ⟨ds', ρ4, e3, eS⟩ := bnd_ok_inv eS
    cases eS
    refine tG_ok rI_ok st1 hd1' e2 fun J1 H4 S4 F4 T4 st4 hd4 ri dj4 ex4 => ?_
    have hz4 := zk.keep hz1 ex4 st1.sep fun x hx p => hd1'.f x hx p
    have ex4' : Ext P0 S0 H0 (fun x => (R x ∨ x = Da) ∨ (x ∈ T4 ∨ Pf F4 x)) S4 H4 := ex1'.trans (ex4.frame (fun x => R x ∨ x = Da))
    have yk2 : Yok (fun x => R x ∨ x ∈ T4) (fun S H => Y S H ∧ rH G σ2 H S yh.2 T4 ∧ Mono S4 H4 S H) := ⟨fun y e hs hr => ⟨yk.keep y.1 e hs fun x hx => hr x (.inl hx), rH_keep e hs _ y.2.1 fun x hx => hr x (.inr hx), y.2.2.trans (e.mono hs)⟩⟩
    have hR2 : ¬ (R Da ∨ Da ∈ T4) := fun z => by
      rcases z with z | z
      · exact hR z
      · exact dj4 Da z (.inr rfl)
    refine loop_ok (σ := σ2) (vs := vs2) (R := fun x => (R x ∨ x ∈ T4) ∨ x = Da) (Z := ZL G Da (fun S H => Y S H ∧ rH G σ2 H S yh.2 T4 ∧ Mono S4 H4 S H)) (P0 := P0) (S0 := S0) (H0 := H0) (ρ0 := ρ3) (ds0 := ds) (dsR := ys) (ρF := ρ4) (stp := elemOf (tst Φ c2) (op Φ e')) (t := t2) (xs := yh.1) (zl_ok yk2) hv2 ?_ ?_ ?_ e3 ?_
    · exact fun ds S H hz wf => ri.2 S H hz.2.2.2 wf hz.2.2.1
    · intro ρa dsx ysx ρx σ3 H5 Nx1 es hw3 hb3 hr hN3
      refine elem_ok yk2 hR2 hw3 es hb3 ?_ hN3
      obtain ⟨r, e⟩ := hr
      have := congrArg List.length e
      rw [List.length_append] at this
      omega
    · refine ⟨S4, blankF F4 vs2, st4.blank vs2, ⟨fun x hx p => ?_, fun x hx => ?_, fun x hx => ?_⟩, ⟨hz4.1, hz4.2, ri.1, .refl⟩, ex4'.congr (fun _ z => z) fun x z => ?_⟩
      · rcases hx with (hx | hx) | hx
        · exact hd4.f x (.inr (.inl hx)) (Pf_blank p)
        · exact hd4.f x (.inl hx) (Pf_blank p)
        · exact hd4.f x (.inr (.inr hx)) (Pf_blank p)
      · rcases hx with (hx | hx) | hx
        · exact hd4.s x (.inr (.inl hx))
        · exact hd4.s x (.inl hx)
        · exact hd4.s x (.inr (.inr hx))
      · rcases hx with (hx | hx) | hx
        · exact hd4.h x (.inr (.inl hx))
        · exact hd4.h x (.inl hx)
        · exact hd4.h x (.inr (.inr hx))
      · rcases z with ((z | z) | z) | z
        · exact .inl (.inl z)
        · exact .inr (.inl z)
        · exact .inl (.inr z)
        · exact .inr (.inr (Pf_blank z))
    · rintro H6 ⟨S6, F6, st6, hd6, hz6, ex6⟩
      have b6 := st6.blank vs
      rw [wipe_wipe hvv, blank_sub hvv] at b6
      obtain ⟨F7, st7, p7⟩ := put_blank yh.2 b6 hz6.2.2.1 fun x hx p => hd6.f x (.inl (.inr hx)) (Pf_blank p)
      refine hN H6 ⟨S6, F7, hw ▸ st7, ⟨fun x hx p => ?_, fun x hx => ?_, fun x hx => ?_⟩, ⟨hz6.1, hz6.2.1⟩, ex6.congr (fun _ z => z) fun x z => ?_⟩
      · rcases p7 x p with z | z
        · exact dj4 x z hx
        · refine hd6.f x ?_ (Pf_blank z)
          rcases hx with hx | hx
          · exact .inl (.inl hx)
          · exact .inr hx
      · refine hd6.s x ?_
        rcases hx with hx | hx
        · exact .inl (.inl hx)
        · exact .inr hx
      · refine hd6.h x ?_
        rcases hx with hx | hx
        · exact .inl (.inl hx)
        · exact .inr hx
      · rcases z with (z | z) | z
        · exact .inl (.inl (.inl z))
        · exact .inl (.inr z)
        · rcases p7 x z with z | z
          · exact .inl (.inl (.inr z))
          · exact .inr (Pf_blank z)
theorem comp2_read {own : List (Str × Nat)} {vs1 : List Nat} {e' s' c' s2 c2 : E} {t' t2 : Tg} (hv : ∀ i ∈ vs1, i ∈ own.map (·.2)) (hv1 : ∀ j, j ∈ tgS t' → j ∈ own.map (·.2)) (hv2 : ∀ j, j ∈ tgS t2 → j ∈ vs1) {σ : L2.St} {H : Hp} {Q : VK} (h : tO G W (op Φ (.comp2 e' t' s' c' t2 s2 c2 own vs1)) σ H Q) :
    tLc2 (tI G W (itr Φ s')) (gA G t') (tT G Wn (tst Φ c')) (tI G Wn (itr Φ s2)) (gA G t2) (tT G Wn (tst Φ c2)) (tO G Wn (op Φ e')) (own.map (·.2)) vs1 σ H Q := by
  obtain ⟨S, ρ, F, st, h⟩ := h
  simp only [op] at h
  refine tG_intro0 rI_ok st h fun xh ρ1 J H1 S1 F1 T _ st1 hd1 r _ h1 => ?_
  intro Da hDa
  generalize hvs : own.map (·.2) = vs at *
  cases eC : compL (stepOf t' vs (elem2Of (tst Φ c') (itr Φ s2) t2 vs1 (tst Φ c2) (op Φ e'))) xh.1 (blank ρ1 vs) with
  | none => rw [eC] at h1; exact h1.elim
  | some out => cases out with
    | er er ρ2 => rw [eC] at h1; exact h1.elim
    | ok dsF ρF =>
      rw [eC] at h1
      simp only [noEr, bnd_ok] at h1
      split at h1
      case isFalse => exact h1.elim
      rename_i hlF
      exact comp_run (Bd := fun σ2 H2 Nx Da => tT G Wn (tst Φ c') σ2 H2 fun b H3 => if b = true then tI G Wn (itr Φ s2) σ2 H3 fun J1 H4 => ∃ W1 : Nat → Nat → Hp → Prop, (∃ m, W1 0 m H4) ∧ ∀ j k H, W1 j k H →
      (J1.stop j H ∧ Nx H) ∨ (J1.go j H ∧ ∃ Nx1 : Hp → Prop, (∀ H', Nx1 H' → ∃ k', k' < k ∧ W1 (j + 1) k' H') ∧ ∀ x H', J1.yld j H x H' → gA G t2 x (wipe σ2 vs1) H' fun σ3 H5 => wipe σ3 vs1 = wipe σ2 vs1 ∧ tT G Wn (tst Φ c2) σ3 H5 fun b H6 =>
        if b = true then tO G Wn (op Φ e') σ3 H6 fun y H7 => ∃ acc, H7 Da = some (.lst acc) ∧ acc.length < sizeLine ∧ Nx1 (upd H7 Da (.lst (acc ++ [y]))) else Nx1 H6)
      else Nx H3) st1 hd1 r hDa hlF eC hv1 (fun ρa ds ys ρ' σ2 H2 Nx P0 S0 H0 R Y yk hR e1 hw hb hl hN => elem2_ok yk hR hw hv2 hv e1 hb hl hN) h1
theorem e_comp2 {elt tg iter tg1 iter1 : Expr} {ifs ifs1 : List Expr} {scope : Scope} {own : List (Str × Nat)} {vs1 : List Nat} {e' s' c' s2 c2 : E} {t' t2 : Tg} (Gd : Good X G W Φ) (hi : PI X tg iter (tI G W (itr Φ s'))) (ok : BlkOk X.N X.env.scope scope own) (hv : ∀ i ∈ vs1, i ∈ own.map (·.2))
    (hg : ∀ (s : Shared) (H : Hp) (C : Addr) (cl : List (Str × Addr)) (fp : List Addr), PG (X.blk s H scope (compEnvC scope cl C X.env) fp) tg (gA G t'))
    (ht : ∀ (s : Shared) (H : Hp) (C : Addr) (cl : List (Str × Addr)) (fp : List Addr), PTs (X.blk s H scope (compEnvC scope cl C X.env) fp) ifs (tT G Wn (tst Φ c')))
    (hi1 : ∀ (s : Shared) (H : Hp) (C : Addr) (cl : List (Str × Addr)) (fp : List Addr), PI (X.blk s H scope (compEnvC scope cl C X.env) fp) tg1 iter1 (tI G Wn (itr Φ s2)))
    (hg1 : ∀ (s : Shared) (H : Hp) (C : Addr) (cl : List (Str × Addr)) (fp : List Addr), PG (X.blk s H scope (compEnvC scope cl C X.env) fp) tg1 (gA G t2))
    (ht1 : ∀ (s : Shared) (H : Hp) (C : Addr) (cl : List (Str × Addr)) (fp : List Addr), PTs (X.blk s H scope (compEnvC scope cl C X.env) fp) ifs1 (tT G Wn (tst Φ c2)))
    (he : ∀ (s : Shared) (H : Hp) (C : Addr) (cl : List (Str × Addr)) (fp : List Addr), PE (X.blk s H scope (compEnvC scope cl C X.env) fp) elt (tO G Wn (op Φ e'))) (hs : notSet iter = true) (hs1 : notSet iter1 = true) (hv1 : ∀ j, j ∈ tgS t' → j ∈ own.map (·.2)) (hv2 : ∀ j, j ∈ tgS t2 → j ∈ vs1) :
    PE X (.ListComp elt [⟨tg, iter, ifs, 0⟩, ⟨tg1, iter1, ifs1, 0⟩] scope pos) (tO G W (op Φ (.comp2 e' t' s' c' t2 s2 c2 own vs1))) :=
  (pe_lc2 Gd.calm Gd.nd hi ok hv hg ht hi1 hg1 ht1 he (by cases iter <;> first | (intro _; rfl) | simp [notSet] at hs) (by cases iter1 <;> first | (intro _ _; rfl) | simp [notSet] at hs1)).imp fun σ H Q h => comp2_read hv hv1 hv2 h
end
end VP

set_option Elab.async false
set_option linter.all false
set_option maxRecDepth 100000
set_option maxHeartbeats 1000000
/-! Statements. -/
namespace VP
open PySem PySem.Spec PyProof.Rows L2

inductive Sm where
  | asg (t : Tg) (e : E) | par (ts : List Tg) (es : List E) | setI (i : Nat) (k e : E) | aug (i : Nat) (e : E)
  | exp (e : E) | ret (e : E) | retN | ifs (c : E) (a b : List Sm) | for_ (t : Tg) (it : E) (b : List Sm)
  | whl (c : E) (b : List Sm) | rse (c : Str) (es : List E) | try_ (b : List Sm) (hs : List (Str × Nat × List Sm)) | pas
inductive Fo where
  | nx (ρ : Ev) | rt (d : D) (ρ : Ev) | er (e : Er) (ρ : Ev)
abbrev SR := Option Fo
def lifS {α : Type} (x : R α) (f : α → Ev → SR) : SR := match x with
  | none => none
  | some (.er e ρ) => some (.er e ρ)
  | some (.ok a ρ) => f a ρ
def thenS (x : SR) (f : Ev → SR) : SR := match x with
  | some (.nx ρ) => f ρ
  | some (.rt d ρ) => some (.rt d ρ)
  | some (.er e ρ) => some (.er e ρ)
  | none => none
/-- the slots of what comes, changed -/
def mapS (f : Ev → Ev) (x : SR) : SR := match x with
  | some (.nx ρ) => some (.nx (f ρ))
  | some (.rt d ρ) => some (.rt d (f ρ))
  | some (.er e ρ) => some (.er e (f ρ))
  | none => none
def ofA (x : Option Ev) : SR := match x with
  | some ρ => some (.nx ρ)
  | none => none
def valO : List Opd → Ev → R (List D)
  | [], ρ => ret [] ρ
  | o :: os, ρ => bnd (val o ρ) fun d ρ => bnd (valO os ρ) fun ds ρ => ret (d :: ds) ρ
/-- a value that leaves the frame -/
def mov (np : Nat) : Opd → Ev → R D
  | .tmp d, ρ => ret d ρ
  | .loc i, ρ => if i < np then val (.loc i) ρ else (match ρ[i]? with
    | some (some d) => ret d (ρ.set i none)
    | _ => none)
def loopS (step : D → Ev → SR) : List D → Ev → SR
  | [], ρ => some (.nx ρ)
  | x :: xs, ρ => thenS (step x ρ) fun ρ => loopS step xs ρ
def whlS (c : Ev → R Bool) (b : Ev → SR) : Nat → Ev → SR
  | 0, _ => none
  | n + 1, ρ => lifS (c ρ) fun k ρ => if k then thenS (b ρ) (whlS c b n) else some (.nx ρ)
def asgS (t : Tg) (f : Ev → SR) (x : D) (ρ : Ev) : SR := match asg t x ρ with
  | none => none
  | some ρ => f ρ
/-- item k of the list at slot i is now d -/
def setIx (i : Nat) (k d : D) (ρ : Ev) : SR := match ρ[i]?, k with
  | some (some (.lst true xs)), .int j => (match ixN xs.length j with
    | some n => some (.nx (ρ.set i (some (.lst true (xs.set n d)))))
    | none => none)
  | _, _ => none
def addI (i : Nat) (a : D) (o : Opd) (ρ : Ev) : SR := match a, res ρ o with
  | .int a, some (.int b) => if i < ρ.length then some (.nx (ρ.set i (some (.int (a + b))))) else none
  | _, _ => none
mutual
def wr : Sm → List Nat
  | .asg t _ => tgS t
  | .par ts _ => tgSL ts
  | .aug i _ => [i]
  | .ifs _ a b => wrL a ++ wrL b
  | .for_ t _ b => tgS t ++ wrL b
  | .whl _ b => wrL b
  | .try_ b hs => wrL b ++ wrH hs
  | _ => []
def wrL : List Sm → List Nat
  | [] => []
  | s :: ss => wr s ++ wrL ss
def wrH : List (Str × Nat × List Sm) → List Nat
  | [] => []
  | (_, i, b) :: hs => i :: wrL b ++ wrH hs
end
/-- what a def's text is asked with -/
structure Rc where
  Φ : Fns
  fu : Nat
  np : Nat
  exc : Str → List D → Option (Option D)
mutual
def run (Y : Rc) : Sm → Ev → SR
  | .asg t e, ρ => lifS (op Y.Φ e ρ) fun o ρ => lifS (val o ρ) fun d ρ => ofA (asg t d ρ)
  | .par ts es, ρ => lifS (ops Y.Φ es ρ) fun os ρ => lifS (valO os ρ) fun ds ρ => ofA (asgL ts ds ρ)
  | .setI i k e, ρ => lifS (op Y.Φ e ρ) fun o ρ => lifS (val o ρ) fun d ρ => (match ρ[i]? with
    | some (some _) => lifS (op Y.Φ k ρ) fun y ρ => (match res ρ y with
      | some dk => setIx i dk (frz d) ρ
      | none => none)
    | _ => none)
  | .aug i e, ρ => (match ρ[i]? with
    | some (some a) => lifS (op Y.Φ e ρ) fun o ρ => addI i a o ρ
    | _ => none)
  | .exp e, ρ => lifS (op Y.Φ e ρ) fun _ ρ => some (.nx ρ)
  | .ret e, ρ => lifS (op Y.Φ e ρ) fun o ρ => lifS (mov Y.np o ρ) fun d ρ => some (.rt d ρ)
  | .retN, ρ => some (.rt .non ρ)
  | .ifs c a b, ρ => lifS (tst Y.Φ c ρ) fun k ρ => if k then runs Y a ρ else runs Y b ρ
  | .for_ t it b, ρ => lifS (itr Y.Φ it ρ) fun xh ρ => mapS (putH xh.2) (loopS (asgS t (runs Y b)) xh.1 ρ)
  | .whl c b, ρ => whlS (tst Y.Φ c) (runs Y b) Y.fu ρ
  | .pas, ρ => some (.nx ρ)
  | _, _ => none
def runs (Y : Rc) : List Sm → Ev → SR
  | [], ρ => some (.nx ρ)
  | s :: ss, ρ => thenS (run Y s ρ) (runs Y ss)
end

section
variable (G : Gv) (W : WX) (w : List Nat)
def FinS (σ : L2.St) (S : AP') (H : Hp) (P : AP') (Dn : Ends) : SR → Prop
  | none => False
  | some (.nx ρ') => ∀ σ' H' S' F', Ext P S H (Pf F') S' H' → StO G H' S' σ' ρ' F' → Same w σ σ' → Dn.nx σ' H'
  | some (.rt d ρ') => ∀ v σ' H' S' F' T, Ext P S H (fun x => x ∈ T ∨ Pf F' x) S' H' → StO G H' S' σ' ρ' F' → Ow G H' S' d v T → (∀ x, x ∈ T → ¬ Pf F' x) → Same w σ σ' → Dn.rt v H'
  | some (.er e ρ') => ∀ c x σ' H' S' F', Ext P S H (Pf F') S' H' → StO G H' S' σ' ρ' F' → ErR G e c x H' → Same w σ σ' → W c x σ' H'
def tS (m : Ev → SR) : TS := fun Dn σ H => ∃ (S : AP') (ρ : Ev) (F : Fps), StO G H S σ ρ F ∧ FinS G W w σ S H (Pf F) Dn (m ρ)
end
section
variable {X : Cx} {G : Gv} {W : WX} {Y : Rc} {σ σ1 : L2.St} {H H1 : Hp} {S S1 : AP'} {ρ : Ev} {F : Fps} {R1 P P1 : AP'} {Dn : Ends} {w w1 w2 : List Nat} {r : SR} {pos : Pos}
theorem FinS.step (h : FinS G W w σ S H P Dn r) (e : Ext P S H P1 S1 H1) (sm : Same w1 σ σ1) (h1 : ∀ j, j ∈ w1 → j ∈ w) (h2 : ∀ j, j ∈ w2 → j ∈ w) : FinS G W w2 σ1 S1 H1 P1 Dn r := by
  have key : ∀ σ', Same w2 σ1 σ' → Same w σ σ' := fun σ' s => (sm.trans s).weak fun j hj => by
    rcases List.mem_append.mp hj with z | z
    · exact h1 j z
    · exact h2 j z
  match r, h with
  | some (.nx ρ'), h => exact fun σ' H' S' F' x st s => h σ' H' S' F' (e.trans x) st (key σ' s)
  | some (.rt d ρ'), h => exact fun v σ' H' S' F' T x st o dj s => h v σ' H' S' F' T (e.trans x) st o dj (key σ' s)
  | some (.er er ρ'), h => exact fun c x σ' H' S' F' ex st er s => h c x σ' H' S' F' (e.trans ex) st er (key σ' s)
theorem FinS.ext (h : FinS G W w σ S H P Dn r) (e : Ext P S H P1 S1 H1) : FinS G W w σ S1 H1 P1 Dn r := h.step e .refl (w1 := []) (fun _ z => by cases z) fun _ z => z
theorem FinS.weak (h : FinS G W w σ S H P Dn r) (e : ∀ x, P1 x → P x) : FinS G W w σ S H P1 Dn r := by
  match r, h with
  | some (.nx ρ'), h => exact fun σ' H' S' F' x st s => h σ' H' S' F' (x.congr e fun _ z => z) st s
  | some (.rt d ρ'), h => exact fun v σ' H' S' F' T x st o dj s => h v σ' H' S' F' T (x.congr e fun _ z => z) st o dj s
  | some (.er er ρ'), h => exact fun c x σ' H' S' F' ex st er s => h c x σ' H' S' F' (ex.congr e fun _ z => z) st er s
/-- one step of an evaluation, a statement's -/
theorem tG_introS {α β : Type} {Rl : L2.St → Hp → AP' → α → β → List Addr → Prop} {m : Ev → VP.R α} {k : α → Ev → SR} {Q1 : β → Hp → Prop}
    (ro : RlOk Rl) (st : StO G H S σ ρ F) (hd : Hd H S F R1) (h : FinS G W w σ S H (fun x => R1 x ∨ Pf F x) Dn (lifS (m ρ) k))
    (hk : ∀ a ρ1 b H1 S1 F1 T, m ρ = some (.ok a ρ1) → StO G H1 S1 σ ρ1 F1 → Hd H1 S1 F1 (fun x => x ∈ T ∨ R1 x) → Rl σ H1 S1 a b T → (∀ x, x ∈ T → ¬ R1 x) →
      Ext (Pf F) S H (fun x => x ∈ T ∨ Pf F1 x) S1 H1 → FinS G W w σ S1 H1 (fun x => (x ∈ T ∨ R1 x) ∨ Pf F1 x) Dn (k a ρ1) → Q1 b H1) : tG G W Rl m σ H Q1 := by
  cases hm : m ρ with
  | none => rw [hm] at h; exact h.elim
  | some o => cases o with
    | er e ρ' =>
      rw [hm] at h
      refine ⟨S, ρ, F, st, ?_⟩
      rw [hm]
      exact fun c x H' S' F' ex st' er => h c x σ H' S' F' ((ex.frame R1).congr (fun _ z => z) fun _ z => .inr z) st' er .refl
    | ok a ρ' =>
      rw [hm] at h
      refine tG_ok ro st hd hm fun b H1 S1 F1 T st1 hd1 rl dj ex => hk a ρ' b H1 S1 F1 T hm st1 hd1 rl dj ex (h.ext ((ex.frame R1).congr (fun _ z => z) fun x z => ?_))
      rcases z with (z | z) | z
      · exact .inr (.inl z)
      · exact .inl z
      · exact .inr (.inr z)
theorem tG_introS0 {α β : Type} {Rl : L2.St → Hp → AP' → α → β → List Addr → Prop} {m : Ev → VP.R α} {k : α → Ev → SR} {Q1 : β → Hp → Prop}
    (ro : RlOk Rl) (st : StO G H S σ ρ F) (h : FinS G W w σ S H (Pf F) Dn (lifS (m ρ) k))
    (hk : ∀ a ρ1 b H1 S1 F1 T, m ρ = some (.ok a ρ1) → StO G H1 S1 σ ρ1 F1 → (∀ x, x ∈ T → ¬ Pf F1 x) → Rl σ H1 S1 a b T → Ext (Pf F) S H (fun x => x ∈ T ∨ Pf F1 x) S1 H1 → FinS G W w σ S1 H1 (fun x => x ∈ T ∨ Pf F1 x) Dn (k a ρ1) → Q1 b H1) : tG G W Rl m σ H Q1 :=
  tG_introS (R1 := fun _ => False) ro st Hd.none (h.weak fun x z => by rcases z with z | z; exact z.elim; exact z) fun a ρ1 b H1 S1 F1 T hm st1 hd1 rl _ ex h1 =>
    hk a ρ1 b H1 S1 F1 T hm st1 (fun x hx => hd1.f x (.inl hx)) rl ex (h1.weak fun x z => by rcases z with z | z; exact .inl (.inl z); exact .inr z)
theorem _root_.L2.PS.imp {X : Cx} {e : Stmt} {t t' : TS} (h : PS X e t) (f : ∀ D σ H, t' D σ H → t D σ H) : PS X e t' := ⟨fun pins s σ H D I q => h.run pins s σ H D I (f D σ H q)⟩
theorem _root_.L2.PSs.imp {X : Cx} {e : List Stmt} {t t' : TS} (h : PSs X e t) (f : ∀ D σ H, t' D σ H → t D σ H) : PSs X e t' := ⟨fun pins s σ H D I q => h.run pins s σ H D I (f D σ H q)⟩
/-! ### one behind another -/
theorem r_nil : PSs X [] (tS G W [] (runs Y [])) := pss_nil.imp fun D σ H ⟨S, ρ, F, st, h⟩ => h σ H S F .refl st .refl
theorem r_cons {s : Stmt} {ss : List Stmt} {s' : Sm} {ss' : List Sm} (h1 : PS X s (tS G W (wr s') (run Y s'))) (h2 : PSs X ss (tS G W (wrL ss') (runs Y ss'))) : PSs X (s :: ss) (tS G W (wrL (s' :: ss')) (runs Y (s' :: ss'))) := by
  refine (pss_cons h1 h2).imp fun D σ H ⟨S, ρ, F, st, h⟩ => ⟨S, ρ, F, st, ?_⟩
  simp only [runs, wrL] at h
  cases e : run Y s' ρ with
  | none => rw [e] at h; exact h.elim
  | some o =>
    rw [e] at h
    cases o with
    | nx ρ' => exact fun σ' H' S' F' ex st' sm => ⟨S', ρ', F', st', h.step ex sm (fun j hj => List.mem_append_left _ hj) fun j hj => List.mem_append_right _ hj⟩
    | rt d ρ' => exact fun v σ' H' S' F' T ex st' o dj sm => h v σ' H' S' F' T ex st' o dj (sm.weak fun j hj => List.mem_append_left _ hj)
    | er er ρ' => exact fun c x σ' H' S' F' ex st' er sm => h c x σ' H' S' F' ex st' er (sm.weak fun j hj => List.mem_append_left _ hj)
theorem r_pas : PS X (.Pass pos) (tS G W (wr .pas) (run Y .pas)) := ps_pass.imp fun D σ H ⟨S, ρ, F, st, h⟩ => by
  simp only [run] at h
  exact h σ H S F .refl st .refl
theorem FinS.mono_w (h : FinS G W w σ S H P Dn r) (h2 : ∀ j, j ∈ w2 → j ∈ w) : FinS G W w2 σ S H P Dn r := h.step (w1 := []) .refl .refl (fun _ z => by cases z) h2
theorem go_onS {w : List Nat} {m : Ev → SR} (st : StO G H S σ ρ F) (h : FinS G W w σ S H P Dn (m ρ)) (hP : ∀ x, Pf F x → P x) (h2 : ∀ j, j ∈ w2 → j ∈ w) : tS G W w2 m Dn σ H := ⟨S, ρ, F, st, (h.weak hP).mono_w h2⟩
theorem r_ifs {c : Expr} {a b : List Stmt} {c' : E} {a' b' : List Sm} (hc : PT X c (tT G W (tst Y.Φ c'))) (ha : PSs X a (tS G W (wrL a') (runs Y a'))) (hb : PSs X b (tS G W (wrL b') (runs Y b'))) : PS X (.If c a b pos) (tS G W (wr (.ifs c' a' b')) (run Y (.ifs c' a' b'))) := by
  refine (ps_if hc ha hb).imp fun D σ H ⟨S, ρ, F, st, h⟩ => ?_
  simp only [run, wr] at h
  refine tG_introS0 rB_ok st h fun k ρ1 k2 H1 S1 F1 T _ st1 dj ra _ h1 => ?_
  obtain ⟨_, rfl⟩ := ra
  cases k2 with
  | true =>
    rw [if_pos rfl] at h1 ⊢
    exact go_onS st1 h1 (fun _ z => .inr z) fun j hj => List.mem_append_left _ hj
  | false =>
    rw [if_neg Bool.false_ne_true] at h1 ⊢
    exact go_onS st1 h1 (fun _ z => .inr z) fun j hj => List.mem_append_right _ hj
theorem r_exp {e : Expr} {e' : E} (he : PE X e (tO G W (op Y.Φ e'))) (hs : swapsWith e none pos.line X.env = pure false) : PS X (.Expr e pos) (tS G W (wr (.exp e')) (run Y (.exp e'))) := by
  refine (ps_expr he hs).imp fun D σ H ⟨S, ρ, F, st, h⟩ => ?_
  simp only [run] at h
  refine tG_introS0 rO_ok st h fun o ρ1 v H1 S1 F1 T _ st1 dj ra _ h1 => ?_
  exact h1 σ H1 S1 F1 (Ext.refl.congr (fun _ z => z) fun x z => .inr z) st1 .refl
theorem mov_ok {np : Nat} {ρ' : Ev} (st : StO G H S σ ρ F) {o : Opd} {v : V} {T : List Addr} (r : rO G σ H S o v T) (dj : ∀ x, x ∈ T → ¬ Pf F x) {d : D} (e : mov np o ρ = some (.ok d ρ')) :
    ∃ S' F' T', StO G H S' σ ρ' F' ∧ Ow G H S' d v T' ∧ (∀ x, x ∈ T' → ¬ Pf F' x) ∧ Ext (fun x => x ∈ T ∨ Pf F x) S H (fun x => x ∈ T' ∨ Pf F' x) S' H := by
  cases o with
  | tmp d' => exact val_ok st r dj (o := .tmp d') e
  | loc i =>
    simp only [mov] at e
    split at e
    · exact val_ok st r dj e
    · split at e
      · rename_i d' e2
        cases e
        obtain ⟨v', e3, w⟩ := st.slot i _ e2
        obtain ⟨rT, rv⟩ := r
        rw [rv] at e3; cases e3
        refine ⟨S, putF F i [], F i, st.none_ i, w, fun x hx ⟨j, hj⟩ => ?_, Ext.refl.congr (fun _ z => z) fun x z => ?_⟩
        · unfold putF at hj
          split at hj
          · cases hj
          · rename_i n
            exact n (st.dis j i x hj hx)
        · rcases z with z | z
          · exact .inr ⟨i, z⟩
          · rcases Pf_put z with z | z
            · cases z
            · exact .inr z
      · cases e
theorem mov_noer {np : Nat} {o : Opd} {e : Er} {ρ' : Ev} : mov np o ρ ≠ some (.er e ρ') := by
  cases o with
  | tmp d => intro h; cases h
  | loc i =>
    simp only [mov]
    split
    · exact val_noer
    · split <;> (intro h; cases h)
theorem r_ret {e : Expr} {e' : E} (he : PE X e (tO G W (op Y.Φ e'))) : PS X (.Return (some e) pos) (tS G W (wr (.ret e')) (run Y (.ret e'))) := by
  refine (ps_ret he).imp fun D σ H ⟨S, ρ, F, st, h⟩ => ?_
  simp only [run] at h
  refine tG_introS0 rO_ok st h fun o ρ1 v H1 S1 F1 T _ st1 dj ra _ h1 => ?_
  cases ev : mov Y.np o ρ1 with
  | none => rw [ev] at h1; exact h1.elim
  | some ou => cases ou with
    | er er ρ2 => exact absurd ev mov_noer
    | ok d ρ2 =>
      obtain ⟨S2, F2, T2, st2, w2, dj2, x2⟩ := mov_ok st1 ra dj ev
      rw [ev] at h1
      exact h1 v σ H1 S2 F2 T2 x2 st2 w2 dj2 .refl
theorem r_retN : PS X (.Return none pos) (tS G W (wr .retN) (run Y .retN)) := ps_retN.imp fun D σ H ⟨S, ρ, F, st, h⟩ => by
  simp only [run] at h
  exact h .non σ H S F [] (Ext.refl.congr (fun _ z => z) fun x z => by rcases z with z | z; cases z; exact z) st ⟨rfl, rfl⟩ (fun _ z => by cases z) .refl
end
end VP

set_option Elab.async false
set_option linter.all false
set_option maxRecDepth 100000
set_option maxHeartbeats 1000000
/-! Statements: stores. -/
namespace VP
open PySem PySem.Spec PyProof.Rows L2
section
variable {X : Cx} {G : Gv} {W : WX} {Y : Rc} {σ σ1 : L2.St} {H H1 : Hp} {S S1 : AP'} {ρ : Ev} {F : Fps} {R1 P P1 : AP'} {Dn : Ends} {w w1 w2 : List Nat} {r : SR} {pos : Pos}
theorem asg_read {t : Tg} {e' : E} (h : tS G W (wr (.asg t e')) (run Y (.asg t e')) Dn σ H) : tAsg (tO G W (op Y.Φ e')) (gA G t) Dn σ H := by
  obtain ⟨S, ρ, F, st, h⟩ := h
  simp only [run] at h
  refine tG_introS0 rO_ok st h fun o ρ1 v H1 S1 F1 T _ st1 dj ra _ h1 => ?_
  cases ev : val o ρ1 with
  | none => rw [ev] at h1; exact h1.elim
  | some ou => cases ou with
    | er er ρ2 => exact absurd ev val_noer
    | ok d ρ2 =>
      obtain ⟨S2, F2, T2, st2, w2, dj2, x2⟩ := val_ok st1 ra dj ev
      rw [ev] at h1
      simp only [lifS] at h1
      cases ea : asg t d ρ2 with
      | none => rw [ea] at h1; exact h1.elim
      | some ρ3 =>
        rw [ea] at h1
        exact ⟨S2, ρ2, F2, d, T2, st2, w2, dj2, ρ3, ea, fun σ' F' st' p' sm => h1 σ' H1 S2 F' (x2.congr (fun _ z => z) fun x z => p' x z) st' sm⟩
theorem nm_read {i : Nat} {v : V} {Qs : L2.St → Hp → Prop} (h : gA G (.nm i) v σ H Qs) : gName i v σ H Qs := by
  obtain ⟨S, ρ, F, d, T, st, w, dj, ρ', e, q⟩ := h
  simp only [asg] at e
  split at e
  · rename_i hi
    cases e
    exact q _ (putF F i T) (st.put (by rw [← st.len]; exact hi) w dj) (fun x hx => Pf_put hx) (.put)
  · cases e
def isComp : Expr → Bool
  | .ListComp _ _ _ _ => true
  | .SetComp _ _ _ _ => true
  | .DictComp _ _ _ _ _ => true
  | _ => false
def isTup : Expr → Bool
  | .Tuple _ _ _ => true
  | _ => false
theorem noswap {e : Expr} {t : Option Expr} {l : Nat} {env : Env} (h : isComp e = false) : swapsWith e t l env = pure false := by
  cases e <;> first | rfl | simp [isComp] at h
theorem r_asgN {x : Str} {p : Pos} {e : Expr} {e' : E} {t : Tg} (he : PE X e (tO G W (op Y.Φ e'))) (hg : PG X (.Name x p) (gA G t)) (hs : swapsWith e (some (.Name x p)) pos.line X.env = pure false) : PS X (.Assign [.Name x p] e pos) (tS G W (wr (.asg t e')) (run Y (.asg t e'))) :=
  (ps_asg he hg hs (by rfl) (by rfl)).imp fun D σ H h => asg_read h
theorem r_asgT {ts : List Expr} {k : Nat} {p : Pos} {e : Expr} {e' : E} {t : Tg} (he : PE X e (tO G W (op Y.Φ e'))) (hg : PG X (.Tuple ts k p) (gA G t)) (hn : isTup e = false) : PS X (.Assign [.Tuple ts k p] e pos) (tS G W (wr (.asg t e')) (run Y (.asg t e'))) :=
  (ps_asg he hg (by cases e <;> first | rfl) (by cases e <;> first | rfl | simp [isTup] at hn) (by rfl)).imp fun D σ H h => asg_read h
/-- name = [..] on one line -/
theorem r_asgC {x : Str} {i : Nat} {px spos : Pos} {elt tg iter : Expr} {ifs : List Expr} {scope : Scope} {own : List (Str × Nat)} {e' s' c' : E} {t' : Tg} (Gd : Good X G W Y.Φ) (hy : X.N[i]? = some x) (hyl : X.env.scope.names.lookup x = some .local)
    (hsw : swapsWith (.ListComp elt [⟨tg, iter, ifs, 0⟩] scope pos) (some (.Name x px)) spos.line X.env = pure true) (hi : PI X tg iter (tI G W (itr Y.Φ s'))) (ok : BlkOk X.N X.env.scope scope own)
    (hg : ∀ (s : Shared) (H : Hp) (C : Addr) (cl : List (Str × Addr)) (fp : List Addr), PG (X.blk s H scope (compEnvC scope cl C X.env) fp) tg (gA G t'))
    (ht : ∀ (s : Shared) (H : Hp) (C : Addr) (cl : List (Str × Addr)) (fp : List Addr), PTs (X.blk s H scope (compEnvC scope cl C X.env) fp) ifs (tT G Wn (tst Y.Φ c')))
    (he : ∀ (s : Shared) (H : Hp) (C : Addr) (cl : List (Str × Addr)) (fp : List Addr), PE (X.blk s H scope (compEnvC scope cl C X.env) fp) elt (tO G Wn (op Y.Φ e'))) (hs : notSet iter = true) (hv : ∀ j, j ∈ tgS t' → j ∈ own.map (·.2)) :
    PS X (.Assign [.Name x px] (.ListComp elt [⟨tg, iter, ifs, 0⟩] scope pos) spos) (tS G W (wr (.asg (.nm i) (.comp e' t' s' c' own))) (run Y (.asg (.nm i) (.comp e' t' s' c' own)))) := by
  refine (ps_setLc Gd.calm Gd.nd hy hyl hsw hi ok hg ht he (by cases iter <;> first | (intro _; rfl) | simp [notSet] at hs)).imp fun D σ H h => ?_
  exact comp_read hv (tG_post (asg_read h) fun v H' q => nm_read q)
theorem r_asgC2 {x : Str} {i : Nat} {px spos : Pos} {elt tg iter tg1 iter1 : Expr} {ifs ifs1 : List Expr} {scope : Scope} {own : List (Str × Nat)} {vs1 : List Nat} {e' s' c' s2 c2 : E} {t' t2 : Tg} (Gd : Good X G W Y.Φ) (hy : X.N[i]? = some x) (hyl : X.env.scope.names.lookup x = some .local)
    (hsw : swapsWith (.ListComp elt [⟨tg, iter, ifs, 0⟩, ⟨tg1, iter1, ifs1, 0⟩] scope pos) (some (.Name x px)) spos.line X.env = pure true) (hi : PI X tg iter (tI G W (itr Y.Φ s'))) (ok : BlkOk X.N X.env.scope scope own) (hv : ∀ i ∈ vs1, i ∈ own.map (·.2))
    (hg : ∀ (s : Shared) (H : Hp) (C : Addr) (cl : List (Str × Addr)) (fp : List Addr), PG (X.blk s H scope (compEnvC scope cl C X.env) fp) tg (gA G t'))
    (ht : ∀ (s : Shared) (H : Hp) (C : Addr) (cl : List (Str × Addr)) (fp : List Addr), PTs (X.blk s H scope (compEnvC scope cl C X.env) fp) ifs (tT G Wn (tst Y.Φ c')))
    (hi1 : ∀ (s : Shared) (H : Hp) (C : Addr) (cl : List (Str × Addr)) (fp : List Addr), PI (X.blk s H scope (compEnvC scope cl C X.env) fp) tg1 iter1 (tI G Wn (itr Y.Φ s2)))
    (hg1 : ∀ (s : Shared) (H : Hp) (C : Addr) (cl : List (Str × Addr)) (fp : List Addr), PG (X.blk s H scope (compEnvC scope cl C X.env) fp) tg1 (gA G t2))
    (ht1 : ∀ (s : Shared) (H : Hp) (C : Addr) (cl : List (Str × Addr)) (fp : List Addr), PTs (X.blk s H scope (compEnvC scope cl C X.env) fp) ifs1 (tT G Wn (tst Y.Φ c2)))
    (he : ∀ (s : Shared) (H : Hp) (C : Addr) (cl : List (Str × Addr)) (fp : List Addr), PE (X.blk s H scope (compEnvC scope cl C X.env) fp) elt (tO G Wn (op Y.Φ e'))) (hs : notSet iter = true) (hs1 : notSet iter1 = true) (hv1 : ∀ j, j ∈ tgS t' → j ∈ own.map (·.2)) (hv2 : ∀ j, j ∈ tgS t2 → j ∈ vs1) :
    PS X (.Assign [.Name x px] (.ListComp elt [⟨tg, iter, ifs, 0⟩, ⟨tg1, iter1, ifs1, 0⟩] scope pos) spos) (tS G W (wr (.asg (.nm i) (.comp2 e' t' s' c' t2 s2 c2 own vs1))) (run Y (.asg (.nm i) (.comp2 e' t' s' c' t2 s2 c2 own vs1)))) := by
  refine (ps_setLc2 Gd.calm Gd.nd hy hyl hsw hi ok hv hg ht hi1 hg1 ht1 he (by cases iter <;> first | (intro _; rfl) | simp [notSet] at hs) (by cases iter1 <;> first | (intro _ _; rfl) | simp [notSet] at hs1)).imp fun D σ H h => ?_
  exact comp2_read hv hv1 hv2 (tG_post (asg_read h) fun v H' q => nm_read q)
/-! several at once -/
variable (G) in
def rDs (σ : L2.St) (H : Hp) (S : AP') : List D → List V → List Addr → Prop
  | [], vs, T => vs = [] ∧ T = []
  | o :: os, vs, T => ∃ v r T1 T2, vs = v :: r ∧ T = T1 ++ T2 ∧ Ow G H S o v T1 ∧ rDs σ H S os r T2 ∧ ∀ x, x ∈ T1 → x ∉ T2
theorem rDs_keep (e : Ext P S H P1 S1 H1) (hs : ∀ x, P x → ¬ S x) : ∀ (os : List D) {vs : List V} {T : List Addr}, rDs G σ H S os vs T → (∀ x, x ∈ T → ¬ P x) → rDs G σ H1 S1 os vs T
  | [], vs, T, h, _ => h
  | o :: os, vs, T, h, ht => by
    obtain ⟨v, r, T1, T2, e1, e2, h1, h2, h3⟩ := h
    subst e2
    exact ⟨v, r, T1, T2, e1, rfl, h1.keep e hs fun x hx => ht x (List.mem_append_left _ hx), rDs_keep e hs os h2 fun x hx => ht x (List.mem_append_right _ hx), h3⟩
theorem rDs_same {σ' : L2.St} : ∀ {os : List D} {vs : List V} {T : List Addr}, rDs G σ H S os vs T → rDs G σ' H S os vs T
  | [], _, _, h => h
  | o :: os, vs, T, h => by
    obtain ⟨v, r, T1, T2, e1, e2, h1, h2, h3⟩ := h
    exact ⟨v, r, T1, T2, e1, e2, h1, rDs_same h2, h3⟩
theorem valO_noer : ∀ (os : List Opd) {ρ ρ' : Ev} {e : Er}, valO os ρ ≠ some (.er e ρ')
  | [], _, _, _ => by intro h; cases h
  | o :: os, ρ, ρ', e => by
    intro h
    simp only [valO] at h
    obtain ⟨a, ρ1, e1, h⟩ := bnd_some h fun e ρ => val_noer
    obtain ⟨a, ρ2, e2, h⟩ := bnd_some h fun e ρ => valO_noer os
    cases h
theorem valO_ok : ∀ (os : List Opd) {ρ ρ' : Ev} {F : Fps} {S : AP'} {vs : List V} {T : List Addr} {ds : List D}, StO G H S σ ρ F → rOs G σ H S os vs T → (∀ x, x ∈ T → ¬ Pf F x) → valO os ρ = some (.ok ds ρ') →
    ∃ S' F' T', StO G H S' σ ρ' F' ∧ rDs G σ H S' ds vs T' ∧ (∀ x, x ∈ T' → ¬ Pf F' x) ∧ Ext (fun x => x ∈ T ∨ Pf F x) S H (fun x => x ∈ T' ∨ Pf F' x) S' H
  | [], ρ, ρ', F, S, vs, T, ds, st, r, dj, e => by
    cases e
    rw [r.1]
    exact ⟨S, F, [], st, ⟨rfl, rfl⟩, (fun _ z => by cases z), Ext.refl.congr (fun _ p => .inr p) fun _ p => by rcases p with p | p; cases p; exact p⟩
  | o :: os, ρ, ρ', F, S, vs, T, ds, st, r, dj, e => by
    obtain ⟨v, vr, T1, T2, rfl, rfl, h1, h2, h3⟩ := r
    simp only [valO] at e
    obtain ⟨d, ρ1, e1, e⟩ := bnd_some e fun e ρ => val_noer
    obtain ⟨ds', ρ2, e2, e⟩ := bnd_some e fun e ρ => valO_noer os
    cases e
    obtain ⟨S1, F1, T', st1, w, dj1, x1⟩ := val_ok st h1 (fun x hx => dj x (List.mem_append_left _ hx)) e1
    have sep : ∀ x, (x ∈ T1 ∨ Pf F x) → ¬ S x := fun x hx => by
      rcases hx with hx | hx
      · exact (rO_ok.there h1 hx).1
      · exact st.sep x hx
    have k2 : rOs G σ H S1 os vr T2 := rOs_keep x1 sep os h2 fun x hx hp => by
      rcases hp with hp | hp
      · exact h3 x hp hx
      · exact dj x (List.mem_append_right _ hx) hp
    have out : ∀ x, x ∈ T2 → ¬ (x ∈ T' ∨ Pf F1 x) := fun x hx hp => by
      rcases x1.own x hp with z | z
      · rcases z with z | z
        · exact h3 x z hx
        · exact dj x (List.mem_append_right _ hx) z
      · obtain ⟨u, q⟩ := (rOs_there os h2 hx).2
        rw [z] at q; cases q
    obtain ⟨S3, F3, T3, st3, r3, dj3, x3⟩ := valO_ok os st1 k2 (fun x hx p => out x hx (.inr p)) e2
    have sep3 : ∀ x, (x ∈ T2 ∨ Pf F1 x) → ¬ S1 x := fun x hx => by
      rcases hx with hx | hx
      · exact (rOs_there os k2 hx).1
      · exact st1.sep x hx
    have dT : ∀ x, x ∈ T' → ¬ (x ∈ T3 ∨ Pf F3 x) := fun x hx hp => by
      rcases x3.own x hp with z | z
      · rcases z with z | z
        · exact out x z (.inl hx)
        · exact dj1 x hx z
      · obtain ⟨u, q⟩ := (w.there hx).2
        rw [z] at q; cases q
    refine ⟨S3, F3, T' ++ T3, st3, ⟨v, vr, T', T3, rfl, rfl, w.keep x3 sep3 (fun x hx hp => ?_), r3, fun x hx hy => dT x hx (.inl hy)⟩, fun x hx hp => ?_, ?_⟩
    · rcases hp with hp | hp
      · exact out x hp (.inl hx)
      · exact dj1 x hx hp
    · rcases List.mem_append.mp hx with hx | hx
      · exact dT x hx (.inr hp)
      · exact dj3 x hx hp
    · have a1 := x1.frame (fun x => x ∈ T2)
      have a3 := x3.frame (fun x => x ∈ T')
      refine (a1.trans (a3.congr (P' := fun x => x ∈ T2 ∨ (x ∈ T' ∨ Pf F1 x)) (fun x z => ?_) (fun _ z => z))).congr (fun x z => ?_) fun x z => ?_
      · rcases z with z | z | z
        · exact .inr (.inl z)
        · exact .inl z
        · exact .inr (.inr z)
      · rcases z with z | z | z
        · exact .inl (List.mem_append_right _ z)
        · exact .inl (List.mem_append_left _ z)
        · exact .inr z
      · rcases z with z | z
        · rcases List.mem_append.mp z with z | z
          · exact .inl z
          · exact .inr (.inl z)
        · exact .inr (.inr z)
variable (G) in
def gO (ts : List Tg) : TGs := fun vs σ H Q => ∃ (S : AP') (ρ : Ev) (F : Fps) (ds : List D) (T : List Addr), StO G H S σ ρ F ∧ rDs G σ H S ds vs T ∧ (∀ x, x ∈ T → ¬ Pf F x) ∧ ∃ ρ', asgL ts ds ρ = some ρ' ∧
  ∀ σ' F', StO G H S σ' ρ' F' → (∀ x, Pf F' x → x ∈ T ∨ Pf F x) → Same (tgSL ts) σ σ' → Q σ' H
theorem par_read {ts : List Tg} {es' : List E} (h : tS G W (wr (.par ts es')) (run Y (.par ts es')) Dn σ H) : tOs G W (ops Y.Φ es') σ H fun vs H1 => gO G ts vs σ H1 Dn.nx := by
  obtain ⟨S, ρ, F, st, h⟩ := h
  simp only [run] at h
  refine tG_introS0 rOs_ok st h fun o ρ1 v H1 S1 F1 T _ st1 dj ra _ h1 => ?_
  cases ev : valO o ρ1 with
  | none => rw [ev] at h1; exact h1.elim
  | some ou => cases ou with
    | er er ρ2 => exact absurd ev (valO_noer _)
    | ok d ρ2 =>
      obtain ⟨S2, F2, T2, st2, w2, dj2, x2⟩ := valO_ok _ st1 ra dj ev
      rw [ev] at h1
      simp only [lifS] at h1
      cases ea : asgL ts d ρ2 with
      | none => rw [ea] at h1; exact h1.elim
      | some ρ3 =>
        rw [ea] at h1
        exact ⟨S2, ρ2, F2, d, T2, st2, w2, dj2, ρ3, ea, fun σ' F' st' p' sm => h1 σ' H1 S2 F' (x2.congr (fun _ z => z) fun x z => p' x z) st' sm⟩
theorem go_nil : PGs X [] (gO G []) := by
  refine pgs_nil.imp fun vs σ H Q h => ?_
  obtain ⟨S, ρ, F, ds, T, st, f, dj, ρ', e, q⟩ := h
  cases ds with
  | nil =>
    cases e
    exact ⟨f.1, q σ F st (fun _ z => .inr z) .refl⟩
  | cons d ds => cases e
theorem gO_read {t : Tg} {ts : List Tg} {vs : List V} {Qs : L2.St → Hp → Prop} (h : gO G (t :: ts) vs σ H Qs) : ∃ v r, vs = v :: r ∧ gA G t v σ H fun σ' H' => gO G ts r σ' H' Qs := by
  obtain ⟨S, ρ, F, ds, T, st, f, dj, ρ', e, q⟩ := h
  cases ds with
  | nil => cases e
  | cons d ds =>
    obtain ⟨v, r, T1, T2, rfl, rfl, f1, f2, f3⟩ := f
    simp only [asgL] at e
    cases e1 : asg t d ρ with
    | none => rw [e1] at e; cases e
    | some ρ1 =>
      rw [e1] at e
      refine ⟨v, r, rfl, S, ρ, F, d, T1, st, f1, (fun x hx => dj x (List.mem_append_left _ hx)), ρ1, e1, fun σ1 F1 st1 p1 s1 => ?_⟩
      refine ⟨S, ρ1, F1, ds, T2, st1, ?_, fun x hx hp => ?_, ρ', e, fun σ2 F2 st2 p2 s2 => q σ2 F2 st2 (fun x hx => ?_) (s1.trans s2)⟩
      · exact rDs_same f2
      · rcases p1 x hp with z | z
        · exact f3 x z hx
        · exact dj x (List.mem_append_right _ hx) z
      · rcases p2 x hx with z | z
        · exact .inl (List.mem_append_right _ z)
        · rcases p1 x z with z | z
          · exact .inl (List.mem_append_left _ z)
          · exact .inr z
theorem go_cons {e : Expr} {es : List Expr} {t : Tg} {ts : List Tg} (h1 : PG X e (gA G t)) (h2 : PGs X es (gO G ts)) (hs : isTg e = true) : PGs X (e :: es) (gO G (t :: ts)) :=
  (pgs_cons h1 h2 (by cases e <;> first | rfl | simp [isTg] at hs)).imp fun vs σ H Q h => gO_read h
theorem r_par2 {i j : Nat} {x y : Str} {a b : Expr} {es' : List E} {px py pt : Pos} {kt k2 pt2} (Gd : Good X G W Y.Φ) (hi : X.N[i]? = some x) (hj : X.N[j]? = some y) (hij : i ≠ j)
    (hx : X.env.scope.names.lookup x = some .local) (hy : X.env.scope.names.lookup y = some .local) (ha : PA X [a, b] (tOs G W (ops Y.Φ es')))
    (hw : swappedStores [.Tuple [.Name x px, .Name y py] kt pt] (.Tuple [a, b] k2 pt2) X.env = pure (some [x, y])) :
    PS X (.Assign [.Tuple [.Name x px, .Name y py] kt pt] (.Tuple [a, b] k2 pt2) pos) (tS G W (wr (.par [.nm i, .nm j] es')) (run Y (.par [.nm i, .nm j] es'))) := by
  refine (ps_par Gd.calm Gd.nd hi hj hij hx hy ha hw (by rfl)).imp fun D σ H h => tG_post (par_read h) fun vs H' q0 => ?_
  obtain ⟨v, r0, rfl, q1⟩ := gO_read q0
  obtain ⟨u, r1, rfl, q2⟩ := gO_read (nm_read q1)
  obtain ⟨S, ρ, F, ds, T, st, f, dj, ρ', e, q⟩ := nm_read q2
  cases ds with
  | nil => cases e; exact ⟨v, u, by rw [f.1], q _ F st (fun _ z => .inr z) .refl⟩
  | cons d ds => cases e
theorem r_par3 {i j l : Nat} {x y z : Str} {a b c : Expr} {es' : List E} {px py pz pt : Pos} {kt k2 pt2} (Gd : Good X G W Y.Φ) (hi : X.N[i]? = some x) (hj : X.N[j]? = some y) (hl : X.N[l]? = some z) (hij : i ≠ j) (hil : i ≠ l) (hjl : j ≠ l)
    (hx : X.env.scope.names.lookup x = some .local) (hy : X.env.scope.names.lookup y = some .local) (hz : X.env.scope.names.lookup z = some .local) (ha : PA X [a, b, c] (tOs G W (ops Y.Φ es')))
    (hw : swappedStores [.Tuple [.Name x px, .Name y py, .Name z pz] kt pt] (.Tuple [a, b, c] k2 pt2) X.env = pure (some [x, y, z])) :
    PS X (.Assign [.Tuple [.Name x px, .Name y py, .Name z pz] kt pt] (.Tuple [a, b, c] k2 pt2) pos) (tS G W (wr (.par [.nm i, .nm j, .nm l] es')) (run Y (.par [.nm i, .nm j, .nm l] es'))) := by
  refine (ps_par3 Gd.calm Gd.nd hi hj hl hij hil hjl hx hy hz ha hw (by rfl)).imp fun D σ H h => tG_post (par_read h) fun vs H' q0 => ?_
  obtain ⟨v, r0, rfl, q1⟩ := gO_read q0
  obtain ⟨u, r1, rfl, q2⟩ := gO_read (nm_read q1)
  obtain ⟨w, r2, rfl, q3⟩ := gO_read (nm_read q2)
  obtain ⟨S, ρ, F, ds, T, st, f, dj, ρ', e, q⟩ := nm_read q3
  cases ds with
  | nil => cases e; exact ⟨v, u, w, by rw [f.1], q _ F st (fun _ z => .inr z) .refl⟩
  | cons d ds => cases e
theorem gO_len {ts : List Tg} {vs : List V} {Qs : L2.St → Hp → Prop} (h : gO G ts vs σ H Qs) : vs.length = ts.length := by
  obtain ⟨S, ρ, F, ds, T, st, f, dj, ρ', e, q⟩ := h
  rw [← asgL_len e]
  clear e q dj st ρ'
  induction ds generalizing vs T with
  | nil => rw [f.1]; rfl
  | cons d ds ih =>
    obtain ⟨v, r, T1, T2, rfl, rfl, f1, f2, f3⟩ := f
    rw [List.length_cons, List.length_cons, ih _ f2]
/-- any targets, any values: the tuple is laid and unpacked -/
theorem r_parN {ts es : List Expr} {ts' : List Tg} {es' : List E} {pt pt2 : Pos} {kt k2 : Nat} (Gd : Good X G W Y.Φ) (ha : PA X es (tOs G W (ops Y.Φ es'))) (hg : PGs X ts (gO G ts')) (htg : ts.all isTg = true) (hl : ts.length = ts'.length) (hl2 : ts.length < 1000)
    (hw : swappedStores [.Tuple ts kt pt] (.Tuple es k2 pt2) X.env = pure none) :
    PS X (.Assign [.Tuple ts kt pt] (.Tuple es k2 pt2) pos) (tS G W (wr (.par ts' es')) (run Y (.par ts' es'))) := by
  refine ⟨fun pins s σ H D I h => ?_⟩
  obtain ⟨g1, g2⟩ := tg_len (env := X.env) htg
  refine wpAny_Assign_stores (Tuple_ (thn (ha.run _ pins s σ H _ I (par_read h)) fun us s1 ⟨vs, H1, I1, r1, q1⟩ => ?_)) (by rfl) hw
  have hlv := gO_len q1
  have hlu := r1.length
  refine wpAny_newObj_type ?_ (by show us.toArray.size ≤ sizeLine; rw [List.size_toArray]; have : (1000 : Nat) ≤ sizeLine := by decide
                                  omega)
  have I2 : Inv X pins σ H1 { s1 with heap := s1.heap.push { cls := .type "tuple", data := .seq us.toArray } } := I1.kept (t' := s1.toks) fun b o e => Heap.get?_push_of_some _ e
  show wpAny (model X.prog X.w) X.A (assign (.Tuple ts kt pt) X.env (.ref s1.heap.objs.size)) _ _ _
  refine assign_Tuple_tuple (items := us.toArray) (I.ok.hd Gd.calm) (IsTup.new s1.heap _) (by rw [g1, List.size_toArray]; omega) g2 fun h' hx => ?_
  have I3 := I2.kept (h' := h') (t' := s1.toks) fun b o e => hx b o (Nat.ne_of_lt (Heap.lt_size e)) e
  exact hg.run pins _ σ H1 vs _ D.nx I3 (by simpa using r1) q1
end
end VP

set_option Elab.async false
set_option linter.all false
set_option maxRecDepth 100000
set_option maxHeartbeats 1000000
/-! Statements: items stored, loops. -/
namespace VP
open PySem PySem.Spec PyProof.Rows L2
section
variable {X : Cx} {G : Gv} {W : WX} {Y : Rc} {σ σ1 : L2.St} {H H1 : Hp} {S S1 : AP'} {ρ : Ev} {F : Fps} {R1 P P1 : AP'} {Dn : Ends} {w w1 w2 : List Nat} {r : SR} {pos : Pos}
theorem r_setI {x : Str} {i : Nat} {k e : Expr} {k' e' : E} {p p2 : Pos} (Gd : Good X G W Y.Φ) (hN : X.N[i]? = some x) (hv : Vis X.env.scope x) (hd : (x == ("__debug__" : Str)) = false) (hcd : (x == ("__classdict__" : Str)) = false)
    (he : PE X e (tO G W (op Y.Φ e'))) (hk : PE X k (tO G W (op Y.Φ k'))) (hs : notSlice k = true) (hc : isComp e = false ∨ True) : PS X (.Assign [.Subscript (.Name x p) k p2] e pos) (tS G W (wr (.setI i k' e')) (run Y (.setI i k' e'))) := by
  have hg := pg_sub (pos := p2) (pe_var (pos := p) hN hv hd hcd) hk set_list (by intro v; cases k <;> first | rfl | simp [notSlice] at hs)
  refine (ps_asg he hg (by cases e <;> rfl) (by cases e <;> rfl) (by rfl)).imp fun D σ H ⟨S, ρ, F, st, h⟩ => ?_
  simp only [run] at h
  refine tG_introS0 rO_ok st h fun o ρ1 v H1 S1 F1 T _ st1 dj ra _ h1 => ?_
  cases ev : val o ρ1 with
  | none => rw [ev] at h1; exact h1.elim
  | some ou => cases ou with
    | er er ρ2 => exact absurd ev val_noer
    | ok d ρ2 =>
      obtain ⟨S2, F2, T2, st2, w2, dj2, x2⟩ := val_ok st1 ra dj ev
      obtain ⟨st3, f3, x3⟩ := frz_ok st2 w2 dj2
      rw [ev] at h1
      simp only [lifS] at h1
      have h2 := h1.ext (x2.trans x3)
      split at h2
      · rename_i d0 ei
        obtain ⟨vo, e1, w0⟩ := st3.slot i d0 ei
        refine ⟨vo, e1, ?_⟩
        refine tG_introS0 rO_ok st3 h2 fun y ρ4 vk H4 S4 F4 T4 _ st4 dj4 rk ex4 h4 => ?_
        have f4 := f3.mono (ex4.mono st3.sep)
        cases er : res ρ4 y with
        | none => rw [er] at h4; exact h4.elim
        | some dk =>
          rw [er] at h4
          simp only [setIx] at h4
          split at h4
          · rename_i xs j ei4
            split at h4
            · rename_i n en
              obtain ⟨a, us, e5, eT, hS, hH, fu, k5⟩ := st4.mut ei4
              rw [e1] at e5; cases e5
              obtain ⟨st5, x5⟩ := k5 (xs.set n (frz d)) (us.set n v) (fu.set n f4)
              have ek := (Rb.of_res st4 rk er).int
              refine ⟨a, us, j, n, rfl, ek, hH, by rw [← fu.length]; exact en, ?_⟩
              exact h4 σ _ S4 F4 ((x5.frame (fun x => x ∈ T4)).congr (fun _ z => z) fun x z => .inr z) st5 .refl
            · exact h4.elim
          · exact h4.elim
      · exact h2.elim
theorem r_aug {x : Str} {i : Nat} {e : Expr} {e' : E} {p : Pos} (Gd : Good X G W Y.Φ) (hi : X.N[i]? = some x) (hx : Loc X.env.scope x) (hf : X.fn x = true ∨ X.env.scope.names.lookup x = some .local) (he : PE X e (tO G W (op Y.Φ e'))) :
    PS X (.AugAssign (.Name x p) .Add e pos) (tS G W (wr (.aug i e')) (run Y (.aug i e'))) := by
  refine (ps_aug Gd.nd hi hx he ip_add hf).imp fun D σ H ⟨S, ρ, F, st, h⟩ => ?_
  simp only [run] at h
  split at h
  · rename_i a ei
    obtain ⟨v, e1, w0⟩ := st.slot i a ei
    refine ⟨v, e1, ?_⟩
    refine tG_introS0 rO_ok st h fun y ρ4 vk H4 S4 F4 T4 _ st4 dj4 rk ex4 h4 => ?_
    simp only [addI] at h4
    split at h4
    · rename_i m b er
      split at h4
      · rename_i hl
        have ev : v = .int m := (w0.fz rfl).2
        have ek := (Rb.of_res st4 rk er).int
        refine ⟨m, b, ev, ek, ?_⟩
        have st5 := st4.put (i := i) (d := .int (m + b)) (v := .int (m + b)) (T := []) (by rw [← st4.len]; exact hl) ⟨rfl, rfl⟩ (fun _ z => by cases z)
        refine h4 _ _ S4 _ (Ext.refl.congr (fun _ z => z) fun x z => ?_) st5 .put
        rcases Pf_put z with z | z
        · cases z
        · exact .inr z
      · exact h4.elim
    · exact h4.elim
  · exact h.elim
theorem rH_same {σ' : L2.St} (sm : Same w σ σ') : ∀ (l : List (Nat × D)) {T : List Addr}, (∀ p ∈ l, p.1 ∉ w) → rH G σ H S l T → rH G σ' H S l T
  | [], T, _, h => h
  | p :: l, T, hw, h => by
    obtain ⟨v, T1, T2, e1, e2, h1, h2, h3⟩ := h
    exact ⟨v, T1, T2, e1, (sm.2 p.1 (hw p (by simp))).trans e2, h1, rH_same sm l (fun q hq => hw q (by simp [hq])) h2, h3⟩
theorem putH_len : ∀ (l : List (Nat × D)) (ρ : Ev), (putH l ρ).length = ρ.length
  | [], ρ => rfl
  | p :: l, ρ => by simp [putH, putH_len l]
/-- the slots that a walk holds -/
def holds : E → List Nat
  | .hold i => [i]
  | .zip a b => hold1 a ++ hold1 b
  | .enm a => hold1 a
  | _ => []
where hold1 : E → List Nat
  | .hold i => [i]
  | _ => []
theorem src_holds {Φ : Fns} {e : E} {p : Sv} {ρ ρ' : Ev} (h : src Φ e ρ = some (.ok p ρ')) : ∀ q ∈ p.h, q.1 ∈ holds.hold1 e := by
  cases e <;> first | (simp [src] at h; done) | skip
  · rename_i i
    simp only [src, holdS] at h
    split at h
    · cases h
      intro q hq
      simp only [Sv.h, List.mem_singleton] at hq
      rw [hq]; simp [holds.hold1]
    · cases h
  · simp only [src] at h
    obtain ⟨o, ρ1, _, h⟩ := bnd_ok_inv h
    simp only [fzS] at h
    obtain ⟨d, ρ2, _, h⟩ := bnd_ok_inv h
    cases h
    intro q hq
    cases hq
theorem seqOf_h {p : Sv} {q : List D × List (Nat × D)} {ρ ρ' : Ev} (h : seqOf p ρ = some (.ok q ρ')) : q.2 = p.h := by
  simp only [seqOf] at h
  split at h
  · cases h; rfl
  · cases h
theorem itr_holds {Φ : Fns} {e : E} {p : List D × List (Nat × D)} {ρ ρ' : Ev} (h : itr Φ e ρ = some (.ok p ρ')) : ∀ q ∈ p.2, q.1 ∈ holds e := by
  cases e <;> first | (simp [itr] at h; done) | skip
  · rename_i i
    have h' : bnd (src Φ (.hold i) ρ) seqOf = some (.ok p ρ') := by simpa only [itr, src] using h
    obtain ⟨sv, ρ1, h1, h2⟩ := bnd_ok_inv h'
    rw [seqOf_h h2]
    exact src_holds h1
  · rename_i a
    have h' : bnd (src Φ (.sr a) ρ) seqOf = some (.ok p ρ') := by simpa only [itr, src] using h
    obtain ⟨sv, ρ1, h1, h2⟩ := bnd_ok_inv h'
    rw [seqOf_h h2]
    intro q hq
    have := src_holds h1 q hq
    simp [holds.hold1] at this
  · simp only [itr] at h
    obtain ⟨os, ρ1, _, h⟩ := bnd_ok_inv h
    split at h
    · rename_i ds er
      cases hr : rngD ds with
      | none => rw [hr] at h; cases h
      | some xs => rw [hr] at h; cases h; intro q hq; cases hq
    · cases h
  · simp only [itr] at h
    obtain ⟨sx, ρ1, h1, h⟩ := bnd_ok_inv h
    obtain ⟨sy, ρ2, h2, h⟩ := bnd_ok_inv h
    split at h
    · cases h
      intro q hq
      rcases List.mem_append.mp hq with hq | hq
      · exact List.mem_append_left _ (src_holds h1 q hq)
      · exact List.mem_append_right _ (src_holds h2 q hq)
    · cases h
  · simp only [itr] at h
    obtain ⟨sx, ρ1, h1, h⟩ := bnd_ok_inv h
    split at h
    · cases h
      intro q hq
      exact src_holds h1 q hq
    · cases h
theorem r_for {tg iter : Expr} {body : List Stmt} {t : Tg} {it : E} {b : List Sm} (Gd : Good X G W Y.Φ) (hp : PassesOwn (model X.prog X.w) X.A X.env X.xe) (hi : PI X tg iter (tI G W (itr Y.Φ it))) (hg : PG X tg (gA G t)) (hb : PSs X body (tS G W (wrL b) (runs Y b)))
    (hs : notSet iter = true) (hh : ∀ j, j ∈ holds it → j ∉ tgS t ++ wrL b) : PS X (.For tg iter body [] pos) (tS G W (wr (.for_ t it b)) (run Y (.for_ t it b))) := by
  refine (ps_for hp Gd.calm hi hg hb (by cases iter <;> first | (intro _; rfl) | simp [notSet] at hs)).imp fun D σ H ⟨S, ρ, F, st, h⟩ => ?_
  simp only [run, wr] at h
  refine tG_introS0 rI_ok st h fun xh ρ1 J H1 S1 F1 T ei st1 dj ri ex1 h1 => ?_
  have hw : ∀ p ∈ xh.2, p.1 ∉ tgS t ++ wrL b := fun p hp => hh _ (itr_holds ei p hp)
  refine ⟨fun i m σ' H' => m = xh.1.length - i ∧ i ≤ xh.1.length ∧ ∃ S' ρ' F', StO G H' S' σ' ρ' F' ∧ (∀ x, x ∈ T → ¬ Pf F' x) ∧ Same (tgS t ++ wrL b) σ σ' ∧ rH G σ H' S' xh.2 T ∧ Mono S1 H1 S' H' ∧
    FinS G W (tgS t ++ wrL b) σ' S' H' (fun x => x ∈ T ∨ Pf F' x) D (mapS (putH xh.2) (loopS (asgS t (runs Y b)) (xh.1.drop i) ρ')), ⟨_, rfl, Nat.zero_le _, S1, ρ1, F1, st1, dj, .refl, ri.1, .refl, h1⟩, ?_⟩
  rintro i m σ' H' ⟨rfl, hil, S', ρ', F', st', dj', sm', rh', mo', h'⟩
  obtain ⟨hgo, hstop⟩ := ri.2 S' H' mo' st'.wf rh'
  by_cases hl : i = xh.1.length
  · subst hl
    rw [List.drop_length] at h'
    simp only [loopS, mapS] at h'
    obtain ⟨F2, st2, p2⟩ := StO.putH xh.2 st' (rH_same sm' xh.2 hw rh') dj'
    exact .inl ⟨hstop, h' σ' H' S' F2 (Ext.refl.congr (fun _ z => z) p2) st2 .refl⟩
  · have hlt : i < xh.1.length := by omega
    rw [List.drop_eq_getElem_cons hlt] at h'
    simp only [loopS] at h'
    obtain ⟨go, yl⟩ := hgo i xh.1[i] (List.getElem?_eq_getElem hlt)
    refine .inr ⟨go, fun σ' H' => xh.1.length - (i + 1) = xh.1.length - (i + 1) ∧ i + 1 ≤ xh.1.length ∧ ∃ S' ρ' F', StO G H' S' σ' ρ' F' ∧ (∀ x, x ∈ T → ¬ Pf F' x) ∧ Same (tgS t ++ wrL b) σ σ' ∧ rH G σ H' S' xh.2 T ∧ Mono S1 H1 S' H' ∧
      FinS G W (tgS t ++ wrL b) σ' S' H' (fun x => x ∈ T ∨ Pf F' x) D (mapS (putH xh.2) (loopS (asgS t (runs Y b)) (xh.1.drop (i + 1)) ρ')), fun σ' H' q => ⟨_, by omega, q⟩, fun v H2 y => ?_⟩
    obtain ⟨S2, n, f⟩ := yl v H2 y
    cases ea : asg t xh.1[i] ρ' with
    | none => simp only [asgS, ea] at h'; exact h'.elim
    | some ρa =>
      simp only [asgS, ea] at h'
      have exn := n.ext (fun _ => False)
      have st2 := n.sto st'
      have rh2 := rH_keep exn (fun _ z => z.elim) xh.2 rh' (fun _ _ z => z)
      have mo2 := mo'.trans n.mono
      have h2 := h'.ext (n.ext (fun x => x ∈ T ∨ Pf F' x))
      refine ⟨S2, ρ', F', xh.1[i], [], st2, .of (own_fz f) f, (fun _ z => by cases z), ρa, ea, fun σ2 F2 st3 p3 s3 => ⟨S2, ρa, F2, st3, ?_⟩⟩
      have dj3 : ∀ x, x ∈ T → ¬ Pf F2 x := fun x hx p => by
        rcases p3 x p with z | z
        · cases z
        · exact dj' x hx z
      have rT : ∀ {x}, x ∈ T → ¬ S2 x ∧ ∃ u, H2 x = some u := fun hx => rH_there _ rh2 hx
      have base : Ext (fun x => x ∈ ([] : List Addr) ∨ x ∈ T ∨ Pf F' x) S2 H2 (fun x => x ∈ T ∨ Pf F2 x) S2 H2 := Ext.refl.congr (fun _ z => z) fun x z => by
        rcases z with z | z
        · exact .inr (.inl z)
        · rcases p3 x z with z | z
          · cases z
          · exact .inr (.inr z)
      have keepT : ∀ {P' S3 H3}, Ext (Pf F2) S2 H2 P' S3 H3 → rH G σ H3 S3 xh.2 T := fun ex => rH_keep ex st3.sep xh.2 rh2 dj3
      have outT : ∀ {P' S3 H3}, Ext (Pf F2) S2 H2 P' S3 H3 → ∀ x, x ∈ T → ¬ P' x := fun ex x hx p => by
        rcases ex.own x p with z | z
        · exact dj3 x hx z
        · obtain ⟨u, q⟩ := (rT hx).2
          rw [z] at q; cases q
      have smw : ∀ {σ3}, Same (wrL b) σ2 σ3 → Same (tgS t ++ wrL b) σ' σ3 := fun s => s3.trans s
      have smo : ∀ {σ3}, Same (wrL b) σ2 σ3 → Same (tgS t ++ wrL b) σ σ3 := fun s => (sm'.trans (smw s)).weak fun j hj => by
        rcases List.mem_append.mp hj with z | z <;> exact z
      cases er : runs Y b ρa with
      | none => rw [er] at h2; exact h2.elim
      | some o =>
        rw [er] at h2
        cases o with
        | nx ρb =>
          intro σ3 H3 S3 F3 ex st4 sm
          refine ⟨rfl, hlt, S3, ρb, F3, st4, outT ex, smo sm, keepT ex, mo2.trans (ex.mono st3.sep), ?_⟩
          simp only [thenS] at h2
          exact h2.step (base.trans (ex.frame (fun x => x ∈ T))) (smw sm) (fun j hj => hj) fun j hj => hj
        | rt d ρb =>
          intro v σ3 H3 S3 F3 T3 ex st4 o dj4 sm
          simp only [thenS, mapS] at h2
          obtain ⟨F4, st5, p5⟩ := StO.putH xh.2 st4 (rH_same (smo sm) xh.2 hw (keepT ex)) fun x hx p => outT ex x hx (.inr p)
          refine h2 v σ3 H3 S3 F4 T3 ((base.trans (ex.frame (fun x => x ∈ T))).congr (fun _ z => z) fun x z => ?_) st5 o (fun x hx p => ?_) (smw sm)
          · rcases z with z | z
            · exact .inr (.inl z)
            · rcases p5 x z with z | z
              · exact .inl z
              · exact .inr (.inr z)
          · rcases p5 x p with z | z
            · exact outT ex x z (.inl hx)
            · exact dj4 x hx z
        | er e ρb =>
          intro c xx σ3 H3 S3 F3 ex st4 o sm
          simp only [thenS, mapS] at h2
          obtain ⟨F4, st5, p5⟩ := StO.putH xh.2 st4 (rH_same (smo sm) xh.2 hw (keepT ex)) fun x hx p => outT ex x hx p
          refine h2 c xx σ3 H3 S3 F4 ((base.trans (ex.frame (fun x => x ∈ T))).congr (fun _ z => z) fun x z => ?_) st5 o (smw sm)
          rcases p5 x z with z | z
          · exact .inl z
          · exact .inr z
theorem r_whl {c : Expr} {body : List Stmt} {c' : E} {b : List Sm} (hp : PassesOwn (model X.prog X.w) X.A X.env X.xe) (hc : PT X c (tT G W (tst Y.Φ c'))) (hb : PSs X body (tS G W (wrL b) (runs Y b))) : PS X (.While c body [] pos) (tS G W (wr (.whl c' b)) (run Y (.whl c' b))) := by
  refine (ps_while hp hc hb).imp fun D σ H ⟨S, ρ, F, st, h⟩ => ?_
  simp only [run, wr] at h
  refine ⟨fun m σ' H' => ∃ S' ρ' F', StO G H' S' σ' ρ' F' ∧ Same (wrL b) σ σ' ∧ FinS G W (wrL b) σ' S' H' (Pf F') D (whlS (tst Y.Φ c') (runs Y b) m ρ'), ⟨Y.fu, S, ρ, F, st, .refl, h⟩, ?_⟩
  rintro m σ' H' ⟨S', ρ', F', st', sm', h'⟩
  cases m with
  | zero => exact h'.elim
  | succ m =>
    simp only [whlS] at h'
    refine tG_introS0 rB_ok st' h' fun k ρ1 k2 H1 S1 F1 T _ st1 dj ra _ h1 => ?_
    obtain ⟨hT, rfl⟩ := ra
    subst hT
    have h1 := h1.weak (P1 := Pf F1) fun _ z => .inr z
    cases k2 with
    | false =>
      rw [if_neg Bool.false_ne_true] at h1 ⊢
      exact h1 σ' H1 S1 F1 .refl st1 .refl
    | true =>
      rw [if_pos rfl] at h1 ⊢
      refine ⟨fun σ3 H3 => ∃ S' ρ' F', StO G H3 S' σ3 ρ' F' ∧ Same (wrL b) σ σ3 ∧ FinS G W (wrL b) σ3 S' H3 (Pf F') D (whlS (tst Y.Φ c') (runs Y b) m ρ'), fun σ' H' q => ⟨m, by omega, q⟩, S1, ρ1, F1, st1, ?_⟩
      have dup : ∀ {σ3}, Same (wrL b) σ' σ3 → Same (wrL b) σ σ3 := fun s => (sm'.trans s).weak fun j hj => by
        rcases List.mem_append.mp hj with z | z <;> exact z
      cases er : runs Y b ρ1 with
      | none => rw [er] at h1; exact h1.elim
      | some o =>
        rw [er] at h1
        cases o with
        | nx ρb =>
          intro σ3 H3 S3 F3 ex st4 sm
          exact ⟨S3, ρb, F3, st4, dup sm, FinS.step (r := whlS (tst Y.Φ c') (runs Y b) m ρb) h1 ex sm (fun j hj => hj) fun j hj => hj⟩
        | rt d ρb => exact fun v σ3 H3 S3 F3 T3 ex st4 o dj4 sm => h1 v σ3 H3 S3 F3 T3 ex st4 o dj4 sm
        | er e ρb => exact fun c xx σ3 H3 S3 F3 ex st4 o sm => h1 c xx σ3 H3 S3 F3 ex st4 o sm
end
end VP

set_option Elab.async false
set_option linter.all false
set_option maxRecDepth 100000
set_option maxHeartbeats 2000000
/-! From the program's rows to the fragment's terms, and that they mean the same. -/
namespace VP
open PySem PySem.Spec PyProof.Rows L2

structure Ck where
  N : List Str
  sc : Scope
  fn : Str → Bool
  dom : List Str
  hint : Pos → Bool
def dbg (x : Str) : Bool := x == ("__debug__" : Str) || x == ("__classdict__" : Str) || x == ("__name__" : Str)
def ixOf (N : List Str) (x : Str) : Option Nat := match N.findIdx? (fun y => decide (y = x)) with
  | some i => if N[i]? = some x then some i else none
  | none => none
def visK : Option NameKind → Bool
  | some .local => true
  | some .cell => true
  | some .free => true
  | _ => false
def locK : Option NameKind → Bool
  | some .local => true
  | some .cell => true
  | _ => false
def gloK : Option NameKind → Bool
  | some .globalImplicit => true
  | _ => false
def slotOf (ck : Ck) (x : Str) : Option Nat := if visK (ck.sc.names.lookup x) && !dbg x then ixOf ck.N x else none
def isGlo (ck : Ck) (x : Str) : Bool := gloK (ck.sc.names.lookup x) && !dbg x
def tyNames : List String := ["int", "bool", "tuple", "list", "str"]
def tyOf (x : Str) : Option String := tyNames.find? fun t => decide (Str.ofString t = x)
def boT : Operator → Option Bo
  | .Add => some .add | .Sub => some .sub | .Mult => some .mul | .FloorDiv => some .fdiv | .Mod => some .mod | .Pow => some .pow | .LShift => some .shl | .RShift => some .shr | .BitAnd => some .band | _ => none
def coT : CmpOp → Option Co
  | .Eq => some .eq | .NotEq => some .ne | .Lt => some .lt | .LtE => some .le | .Gt => some .gt | .GtE => some .ge | .Is => some .is | .IsNot => some .isn | .In => some .inn | .NotIn => some .nin
def bis : List (Bi × Nat) := [(.len, 1), (.tuple, 1), (.list, 1), (.int, 1), (.abs, 1), (.all, 1), (.any, 1), (.sum, 1), (.isinst, 2), (.max1, 1), (.max2, 2), (.min1, 1), (.min2, 2), (.sorted, 1), (.str, 1)]
def biOf (x : Str) (k : Nat) : Option Bi := (bis.find? fun p => decide (Str.ofString (biN p.1) = x ∧ p.2 = k)).map (·.1)
def mes : List Me := [.count, .index, .join, .get, .split, .splitn, .replace]
def meOf (x : Str) : Option Me := mes.find? fun p => decide (Str.ofString (meN p) = x)
def mus : List (Mu × Nat) := [(.append, 1), (.extend, 1), (.pop, 0), (.popAt, 1), (.reverse, 0)]
def muOf (x : Str) (k : Nat) : Option Mu := (mus.find? fun p => decide (Str.ofString (muT p.1).1 = x ∧ p.2 = k)).map (·.1)
def bltN (s : String) (x : Str) : Bool := decide (Str.ofString s = x)
def nameOf : Expr → Option Str
  | .Name x _ => some x
  | _ => none
def posOf : Expr → Option Pos
  | .Name _ p => some p
  | _ => none
def ownOf (N : List Str) (scope : Scope) : List (Str × Nat) := scope.names.filterMap fun y => if locK (some y.2) then (ixOf N y.1).map fun i => (y.1, i) else none
def Ck.blk (ck : Ck) (scope : Scope) : Ck := { ck with sc := relS scope ck.sc, fn := fun x => scope.names.lookup x == some .cell }
def trConst : Const → Option E
  | .int i => some (.int i)
  | .bool b => some (.bl b)
  | .str x => some (.str x)
  | .none => some .non
  | _ => none
def trName (ck : Ck) (x : Str) : Option E := match slotOf ck x with
  | some i => some (.var i)
  | none => if isGlo ck x then (match tyOf x with
    | some t => some (.ty t)
    | none => some (.glo x)) else none
mutual
def trG : Nat → Ck → Expr → Option Tg
  | 0, _, _ => none
  | n + 1, ck, .Name x _ => if locK (ck.sc.names.lookup x) && (ck.fn x || decide (ck.sc.names.lookup x = some .local)) then (ixOf ck.N x).map .nm else none
  | n + 1, ck, .Tuple es _ _ => (trGs n ck es).map .tp
  | _, _, _ => none
def trGs : Nat → Ck → List Expr → Option (List Tg)
  | 0, _, _ => none
  | _ + 1, _, [] => some []
  | n + 1, ck, e :: es => match trG n ck e, trGs n ck es with
    | some t, some ts => some (t :: ts)
    | _, _ => none
end
/-- sorted(set(..)), list(range(..)), tuple(range(..)) -/
def bxOf (ck : Ck) (x : Str) (es : List Expr) : Option (Bx × List Expr) := match es with
  | [.Call (.Name y _) as kws _] => if kws.isEmpty && as.all notStar && isGlo ck y then
      (if bltN "sorted" x && bltN "set" y && decide (as.length = 1) then some (.sortset, as)
      else if bltN "list" x && bltN "range" y && (decide (as.length = 1) || decide (as.length = 2)) then some (.listR, as)
      else if bltN "tuple" x && bltN "range" y && (decide (as.length = 1) || decide (as.length = 2)) then some (.tupR, as) else none) else none
  | _ => none
mutual
def trE : Nat → Ck → Expr → Option E
  | 0, _, _ => none
  | n + 1, ck, e => match e with
    | .Name x _ => trName ck x
    | .Constant c _ _ => trConst c
    | .Tuple es _ _ => (trL n ck es).map .tup
    | .List es _ => (trL n ck es).map .lst
    | .BinOp a o b _ => (boT o).bind fun o => (trE n ck a).bind fun a => (trE n ck b).map fun b => .bin o a b
    | .Compare a os cs _ => (match os, cs with
      | [o], [b] => if notSet b then (coT o).bind fun o => (trE n ck a).bind fun a => (trE n ck b).map fun b => .cmp o a b else none
      | [o, o2], [b, c] => if notSet c then (coT o).bind fun o => (coT o2).bind fun o2 => (trE n ck a).bind fun a => (trE n ck b).bind fun b => (trE n ck c).map fun c => .chn o o2 a b c else none
      | _, _ => none)
    | .UnaryOp o a _ => (match o with
      | .USub => (trE n ck a).map .neg
      | .Not => (trE n ck a).map .nt
      | _ => none)
    | .BoolOp o es pos => (match es with
      | [a] => trE n ck a
      | a :: b :: r => (trE n ck a).bind fun a' => (trE n ck (.BoolOp o (b :: r) pos)).map fun b' => (match o with
        | .And => .and a' b'
        | .Or => .or a' b')
      | [] => none)
    | .IfExp c a b _ => (trT n ck c).bind fun c => (trE n ck a).bind fun a => (trE n ck b).map fun b => .ife c a b
    | .Subscript a i _ => (match i with
      | .Slice lo hi st _ => (match st with
        | none => (trE n ck a).bind fun a => (trP n ck lo).bind fun lo => (trP n ck hi).map fun hi => .slc a lo hi
        | some s => (match lo, hi, s with
          | none, none, .UnaryOp .USub (.Constant (.int 1) _ _) _ => (trE n ck a).map .rev
          | _, _, _ => none))
      | i => (trE n ck a).bind fun a => (trE n ck i).map fun i => .ix a i)
    | .Call f es kws pos => if kws.isEmpty && es.all notStar then (match f with
      | .Name x _ => (match slotOf ck x with
        | some i => if es.isEmpty then none else (trL n ck es).map fun es => .callv i es
        | none => if isGlo ck x then (if x ∈ ck.dom then (trL n ck es).map fun es => .call x es else if es.isEmpty then none else (match bxOf ck x es with
          | some (b, as) => (match as with
            | [a] => (trE n ck a).map fun a => .bix b [a]
            | [a, a2] => (trE n ck a).bind fun a => (trE n ck a2).map fun a2 => .bix b [a, a2]
            | _ => none)
          | none => (biOf x es.length).bind fun b => (trL n ck es).map fun es => .bi b es)) else none)
      | .Attribute a m apos => if apos.endLine == pos.line then (match muOf m es.length with
        | some k => (nameOf a).bind fun x => (slotOf ck x).bind fun i => if es.length < 20 then (trL n ck es).map fun es => .mut k i es else none
        | none => (meOf m).bind fun m => if notBase a && !es.isEmpty && decide (es.length < 20) then (trE n ck a).bind fun a => (trL n ck es).map fun es => .me m a es else none) else none
      | _ => none) else none
    | .ListComp elt gs scope _ => (match gs with
      | [⟨tg, iter, ifs, 0⟩] => if blkC ck.N ck.sc scope (ownOf ck.N scope) && notSet iter then
          (trI n ck tg iter).bind fun s => (trG n (ck.blk scope) tg).bind fun t => (trF n (ck.blk scope) ifs).bind fun c => (trE n (ck.blk scope) elt).bind fun e =>
            if (tgS t).all (fun j => decide (j ∈ (ownOf ck.N scope).map (·.2))) then some (.comp e t s c (ownOf ck.N scope)) else none
        else none
      | [⟨tg, iter, ifs, 0⟩, ⟨tg2, iter2, ifs2, 0⟩] => if blkC ck.N ck.sc scope (ownOf ck.N scope) && notSet iter && notSet iter2 then
          (trI n ck tg iter).bind fun s => (trG n (ck.blk scope) tg).bind fun t => (trF n (ck.blk scope) ifs).bind fun c =>
          (trI n (ck.blk scope) tg2 iter2).bind fun s2 => (trG n (ck.blk scope) tg2).bind fun t2 => (trF n (ck.blk scope) ifs2).bind fun c2 => (trE n (ck.blk scope) elt).bind fun e =>
            if (tgS t).all (fun j => decide (j ∈ (ownOf ck.N scope).map (·.2))) && (tgS t2).all (fun j => decide (j ∈ (ownOf ck.N scope).map (·.2))) then some (.comp2 e t s c t2 s2 c2 (ownOf ck.N scope) (tgS t2)) else none
        else none
      | _ => none)
    | _ => none
def trT : Nat → Ck → Expr → Option E
  | 0, _, _ => none
  | n + 1, ck, e => match e with
    | .UnaryOp .Not a _ => (trT n ck a).map .nt
    | .BoolOp o es pos => (match es with
      | [a] => trT n ck a
      | a :: b :: r => (trT n ck a).bind fun a' => (trT n ck (.BoolOp o (b :: r) pos)).map fun b' => (match o with
        | .And => .and a' b'
        | .Or => .or a' b')
      | [] => none)
    | .Compare a os cs p => (trE n ck (.Compare a os cs p)).map .tr
    | e => if plainTest e then (trE n ck e).map .tr else none
def trF : Nat → Ck → List Expr → Option E
  | 0, _, _ => none
  | _ + 1, _, [] => some (.tr (.bl true))
  | n + 1, ck, [c] => trT n ck c
  | _ + 1, _, _ => none
def trL : Nat → Ck → List Expr → Option (List E)
  | 0, _, _ => none
  | _ + 1, _, [] => some []
  | n + 1, ck, e :: es => if notStar e then (trE n ck e).bind fun e => (trL n ck es).map fun es => e :: es else none
def trP : Nat → Ck → Option Expr → Option E
  | 0, _, _ => none
  | _ + 1, _, none => some .nil
  | n + 1, ck, some e => (trE n ck e).map .pt
def trS : Nat → Ck → Expr → Option E
  | 0, _, _ => none
  | n + 1, ck, e => match e with
    | .Name x p => if ck.hint p then (slotOf ck x).map .hold else (trE n ck (.Name x p)).map .sr
    | e => (trE n ck e).map .sr
def trI : Nat → Ck → Expr → Expr → Option E
  | 0, _, _, _ => none
  | n + 1, ck, tg, e => match e with
    | .Call f es kws pos => (match f with
      | .Name x _ => if isGlo ck x && kws.isEmpty && es.all notStar then
          (if bltN "range" x then (if es.length = 1 ∨ es.length = 2 ∨ es.length = 3 then (trL n ck es).map .rng else none)
          else if bltN "enumerate" x then (match tg, es with
            | .Tuple _ _ _, [a] => (trS n ck a).map .enm
            | _, _ => none)
          else if bltN "zip" x then (match tg, es with
            | .Tuple _ _ _, [a, b] => (trS n ck a).bind fun a => (trS n ck b).map fun b => .zip a b
            | _, _ => none)
          else trS n ck (.Call f es kws pos)) else trS n ck (.Call f es kws pos)
      | _ => trS n ck (.Call f es kws pos))
    | e => trS n ck e
end
end VP

set_option Elab.async false
set_option linter.all false
set_option maxRecDepth 100000
set_option maxHeartbeats 2000000
/-! The translation means the same: expressions. -/
namespace VP
open PySem PySem.Spec PyProof.Rows L2

structure CkOk (ck : Ck) (X : Cx) (Φ : Fns) : Prop where
  N : X.N = ck.N
  sc : X.env.scope = ck.sc
  fn : X.fn = ck.fn
  dom : ∀ f, f ∈ ck.dom → f ∈ Φ.dom
section
variable {ck : Ck} {X : Cx} {G : Gv} {W : WX} {Φ : Fns}
theorem ixOf_ok {N : List Str} {x : Str} {i : Nat} (h : ixOf N x = some i) : N[i]? = some x := by
  unfold ixOf at h
  split at h
  · split at h
    · cases h; assumption
    · cases h
  · cases h
theorem dbg_ok {x : Str} (h : dbg x = false) : (x == ("__debug__" : Str)) = false ∧ (x == ("__classdict__" : Str)) = false ∧ x ≠ "__name__" := by
  unfold dbg at h
  simp only [Bool.or_eq_false_iff] at h
  exact ⟨h.1.1, h.1.2, fun e => by rw [e] at h; exact absurd h.2 (by decide)⟩
theorem slotOf_ok (c : CkOk ck X Φ) {x : Str} {i : Nat} (h : slotOf ck x = some i) : X.N[i]? = some x ∧ Vis X.env.scope x ∧ (x == ("__debug__" : Str)) = false ∧ (x == ("__classdict__" : Str)) = false := by
  unfold slotOf at h
  split at h
  · rename_i hh
    simp only [Bool.and_eq_true, Bool.not_eq_true'] at hh
    obtain ⟨d1, d2, _⟩ := dbg_ok hh.2
    refine ⟨by rw [c.N]; exact ixOf_ok h, ?_, d1, d2⟩
    have hv := hh.1
    unfold Vis
    rw [c.sc]
    revert hv
    cases ck.sc.names.lookup x with
    | none => intro q; cases q
    | some k => cases k <;> simp [visK]
  · cases h
theorem isGlo_ok (c : CkOk ck X Φ) {x : Str} (h : isGlo ck x = true) : Gl X x ∧ (x == ("__debug__" : Str)) = false ∧ x ≠ "__name__" := by
  unfold isGlo at h
  simp only [Bool.and_eq_true, Bool.not_eq_true'] at h
  obtain ⟨d1, d2, d3⟩ := dbg_ok h.2
  refine ⟨?_, d1, d3⟩
  unfold Gl Env.kindOf
  rw [c.sc]
  have hv := h.1
  revert hv
  cases ck.sc.names.lookup x with
  | none => intro q; cases q
  | some k => cases k <;> simp [gloK]
theorem tyOf_ok {x : Str} {t : String} (h : tyOf x = some t) : Str.ofString t = x ∧ t ∈ tyNames := by
  unfold tyOf at h
  exact ⟨by simpa using List.find?_some h, List.mem_of_find?_eq_some h⟩
theorem ty_boot : ∀ t ∈ tyNames, bootBuiltins (Str.ofString t) = some (.type t) ∧ t ∈ ["len", "tuple", "list", "int", "abs", "all", "any", "sum", "isinstance", "max", "min", "sorted", "str", "range", "zip", "enumerate", "bool", "set"] := by
  intro t ht
  simp only [tyNames, List.mem_cons, List.not_mem_nil, or_false] at ht
  rcases ht with rfl | rfl | rfl | rfl | rfl <;> exact ⟨by kernel_rfl, by decide⟩
theorem bi_boot : ∀ p ∈ bis, bootBuiltins (Str.ofString (biN p.1)) = some (biV p.1) ∧ biN p.1 ∈ ["len", "tuple", "list", "int", "abs", "all", "any", "sum", "isinstance", "max", "min", "sorted", "str", "range", "zip", "enumerate", "bool", "set"] := by
  intro p hp
  simp only [bis, List.mem_cons, List.not_mem_nil, or_false] at hp
  rcases hp with rfl | rfl | rfl | rfl | rfl | rfl | rfl | rfl | rfl | rfl | rfl | rfl | rfl | rfl | rfl <;> exact ⟨by kernel_rfl, by decide⟩
theorem biOf_ok {x : Str} {k : Nat} {b : Bi} (h : biOf x k = some b) : ∃ p ∈ bis, p.1 = b ∧ Str.ofString (biN b) = x := by
  unfold biOf at h
  cases e : bis.find? (fun p => decide (Str.ofString (biN p.1) = x ∧ p.2 = k)) with
  | none => rw [e] at h; cases h
  | some p =>
    rw [e] at h; cases h
    have := List.find?_some e
    simp only [decide_eq_true_eq] at this
    exact ⟨p, List.mem_of_find?_eq_some e, rfl, this.1⟩
theorem meOf_ok {x : Str} {m : Me} (h : meOf x = some m) : x = Str.ofString (meN m) := by
  unfold meOf at h
  have := List.find?_some h
  simp only [decide_eq_true_eq] at this
  exact this.symm
theorem muOf_ok {x : Str} {k : Nat} {m : Mu} (h : muOf x k = some m) : x = Str.ofString (muT m).1 := by
  unfold muOf at h
  cases e : mus.find? (fun p => decide (Str.ofString (muT p.1).1 = x ∧ p.2 = k)) with
  | none => rw [e] at h; cases h
  | some p =>
    rw [e] at h; cases h
    have := List.find?_some e
    simp only [decide_eq_true_eq] at this
    exact this.1.symm
theorem boT_ok {o : Operator} {b : Bo} (h : boT o = some b) : o = boOp b := by cases o <;> cases h <;> rfl
theorem coT_ok {o : CmpOp} {b : Co} (h : coT o = some b) : o = coOp b := by cases o <;> cases h <;> rfl
/-- a comprehension's block -/
theorem Good.blk (Gd : Good X G W Φ) (s : Shared) (H : Hp) (scope : Scope) (cenv : Env) (fp : List Addr) : Good (X.blk s H scope cenv fp) G Wn Φ where
  K := Gd.K
  mg := Gd.mg
  calm := Gd.calm
  nd := Gd.nd
  hh := Gd.hh
  hu := Gd.hu
  tk := takes_none5
  fn := Gd.fn
  con := Gd.con
  blt := Gd.blt
theorem CkOk.blk (c : CkOk ck X Φ) (s : Shared) (H : Hp) (scope : Scope) (C : Addr) (cl : List (Str × Addr)) (fp : List Addr) : CkOk (ck.blk scope) (X.blk s H scope (compEnvC scope cl C X.env) fp) Φ where
  N := c.N
  sc := by
    show (compEnvC scope cl C X.env).scope = relS scope ck.sc
    rw [← c.sc]
    rfl
  fn := rfl
  dom := c.dom
/-! targets -/
theorem trG_isTg {n : Nat} {e : Expr} {t : Tg} (h : trG n ck e = some t) : isTg e = true := by
  cases n with
  | zero => cases h
  | succ n => cases e <;> first | rfl | cases h
theorem trG_ok : ∀ n, (∀ (ck : Ck) (X : Cx) (e : Expr) (t : Tg), Good X G W Φ → CkOk ck X Φ → trG n ck e = some t → PG X e (gA G t)) ∧
    (∀ (ck : Ck) (X : Cx) (es : List Expr) (ts : List Tg), Good X G W Φ → CkOk ck X Φ → trGs n ck es = some ts → PGs X es (gAs G ts) ∧ PGs X es (gO G ts) ∧ es.all isTg = true ∧ es.length = ts.length)
  | 0 => ⟨fun _ _ _ _ _ _ h => (by cases h), fun _ _ _ _ _ _ h => (by cases h)⟩
  | n + 1 => by
    obtain ⟨h1, h2⟩ := trG_ok n
    refine ⟨fun ck X e t Gd c h => ?_, fun ck X es ts Gd c h => ?_⟩
    · cases e <;> first | (cases h; done) | skip
      · rename_i x p
        simp only [trG] at h
        split at h
        · rename_i hh
          simp only [Bool.and_eq_true, Bool.or_eq_true, decide_eq_true_eq] at hh
          cases ei : ixOf ck.N x with
          | none => rw [ei] at h; cases h
          | some i =>
            rw [ei] at h; cases h
            refine g_nm Gd.nd (by rw [c.N]; exact ixOf_ok ei) ?_ ?_
            · have hv := hh.1
              unfold L2.Loc
              rw [c.sc]
              revert hv
              cases ck.sc.names.lookup x with
              | none => intro q; cases q
              | some k => cases k <;> simp [locK]
            · rw [c.fn, c.sc]; exact hh.2
        · cases h
      · rename_i es k p
        simp only [trG] at h
        cases ei : trGs n ck es with
        | none => rw [ei] at h; cases h
        | some ts =>
          rw [ei] at h; cases h
          obtain ⟨a1, _, a2, a3⟩ := h2 ck X es ts Gd c ei
          exact g_tp Gd a1 a2 a3
    · cases es with
      | nil => cases h; exact ⟨g_nil, go_nil, rfl, rfl⟩
      | cons e es =>
        simp only [trGs] at h
        split at h
        · rename_i t ts' e1 e2
          cases h
          obtain ⟨a1, a1o, a2, a3⟩ := h2 ck X es _ Gd c e2
          have k1 := h1 ck X e _ Gd c e1
          have k2 := trG_isTg e1
          exact ⟨g_cons k1 a1 k2, go_cons k1 a1o k2, by simp [k2, a2], by simp [a3]⟩
        · cases h
theorem trL_star : ∀ {n : Nat} {es : List Expr} {es' : List E}, trL n ck es = some es' → es.all notStar = true ∧ es'.length = es.length
  | 0, _, _, h => by cases h
  | n + 1, [], _, h => by cases h; exact ⟨rfl, rfl⟩
  | n + 1, e :: es, _, h => by
    simp only [trL] at h
    split at h
    · rename_i hh
      obtain ⟨a, e1, h⟩ := Option.bind_eq_some_iff.mp h
      obtain ⟨b, e2, h⟩ := Option.map_eq_some_iff.mp h
      cases h
      obtain ⟨q1, q2⟩ := trL_star e2
      exact ⟨by simp [hh, q1], by simp [q2]⟩
    · cases h
structure Snd (G : Gv) (Φ : Fns) (n : Nat) : Prop where
  e : ∀ (ck : Ck) (X : Cx) (W : WX) (e : Expr) (e' : E), Good X G W Φ → CkOk ck X Φ → trE n ck e = some e' → PE X e (tO G W (op Φ e'))
  t : ∀ (ck : Ck) (X : Cx) (W : WX) (e : Expr) (e' : E), Good X G W Φ → CkOk ck X Φ → trT n ck e = some e' → PT X e (tT G W (tst Φ e'))
  w : ∀ (ck : Ck) (X : Cx) (W : WX) (o : BoolOp) (es : List Expr) (p : Pos) (e' : E), Good X G W Φ → CkOk ck X Φ → trT n ck (.BoolOp o es p) = some e' → PW X (.BoolOp o es p) (tT G W (tst Φ e'))
  c : ∀ (ck : Ck) (X : Cx) (W : WX) (a : Expr) (os : List CmpOp) (cs : List Expr) (p : Pos) (e' : E), Good X G W Φ → CkOk ck X Φ → trE n ck (.Compare a os cs p) = some e' → PT X (.Compare a os cs p) (tT G W (tst Φ (.tr e')))
  f : ∀ (ck : Ck) (X : Cx) (W : WX) (es : List Expr) (e' : E), Good X G W Φ → CkOk ck X Φ → trF n ck es = some e' → PTs X es (tT G W (tst Φ e'))
  l : ∀ (ck : Ck) (X : Cx) (W : WX) (es : List Expr) (es' : List E), Good X G W Φ → CkOk ck X Φ → trL n ck es = some es' → PA X es (tOs G W (ops Φ es'))
  p : ∀ (ck : Ck) (X : Cx) (W : WX) (e : Option Expr) (e' : E), Good X G W Φ → CkOk ck X Φ → trP n ck e = some e' → PO X e (tG G W rN (prt Φ e'))
  s : ∀ (ck : Ck) (X : Cx) (W : WX) (e : Expr) (e' : E), Good X G W Φ → CkOk ck X Φ → trS n ck e = some e' → PE X e (tG G W (rS G) (src Φ e')) ∧ ∀ ρ, itr Φ e' ρ = bnd (src Φ e' ρ) seqOf
  i : ∀ (ck : Ck) (X : Cx) (W : WX) (tg e : Expr) (e' : E), Good X G W Φ → CkOk ck X Φ → trI n ck tg e = some e' → PI X tg e (tI G W (itr Φ e'))
theorem trName_ok {x : Str} {e' : E} {pos : Pos} (Gd : Good X G W Φ) (c : CkOk ck X Φ) (h : trName ck x = some e') : PE X (.Name x pos) (tO G W (op Φ e')) := by
  unfold trName at h
  split at h
  · rename_i i ei
    cases h
    obtain ⟨a1, a2, a3, a4⟩ := slotOf_ok c ei
    exact e_var a1 a2 a3 a4
  · split at h
    · rename_i hg
      obtain ⟨g1, g2, g3⟩ := isGlo_ok c hg
      split at h
      · rename_i t et
        cases h
        obtain ⟨rfl, ht⟩ := tyOf_ok et
        obtain ⟨b1, b2⟩ := ty_boot t ht
        exact e_ty g1 (by rw [Gd.mg]; exact Gd.blt t b2) b1 g3 g2
      · cases h
        exact e_glo Gd g1 g2
    · cases h
theorem trConst_ok {k : Const} {j : Nat} {e' : E} {pos : Pos} (h : trConst k = some e') : PE X (.Constant k j pos) (tO G W (op Φ e')) := by
  cases k <;> cases h
  · exact e_non
  · exact e_bl
  · exact e_int
  · exact e_str
theorem not_dot {a : Expr} {x : Str} (h : nameOf a = some x) : ∃ p, a = .Name x p := by
  cases a <;> cases h
  exact ⟨_, rfl⟩
end
end VP

set_option Elab.async false
set_option linter.all false
set_option maxRecDepth 100000
set_option maxHeartbeats 4000000
/-! The translation means the same: the induction. -/
namespace VP
open PySem PySem.Spec PyProof.Rows L2
section
variable {G : Gv} {Φ : Fns}
theorem bindE {α β : Type} {x : Option α} {f : α → Option β} {b : β} (h : x.bind f = some b) : ∃ a, x = some a ∧ f a = some b := Option.bind_eq_some_iff.mp h
theorem mapE {α β : Type} {x : Option α} {f : α → β} {b : β} (h : x.map f = some b) : ∃ a, x = some a ∧ f a = b := Option.map_eq_some_iff.mp h
theorem last2 {o o2 : CmpOp} {b c : Expr} (h : notSet c = true) : lastMarks [o, o2] [b, c] = false := not_set h
theorem slots_sub {l : List Nat} {m : List Nat} (h : l.all (fun j => decide (j ∈ m)) = true) : ∀ j, j ∈ l → j ∈ m := fun j hj => by
  have := List.all_eq_true.mp h j hj
  simpa using this
theorem snd_comp {n : Nat} (ih : Snd G Φ n) {ck : Ck} {X : Cx} {W : WX} {elt : Expr} {gs : List Comprehension} {scope : Scope} {p : Pos} {e' : E} (Gd : Good X G W Φ) (c : CkOk ck X Φ) (h : trE (n + 1) ck (.ListComp elt gs scope p) = some e') : PE X (.ListComp elt gs scope p) (tO G W (op Φ e')) := by
  simp only [trE] at h
  split at h
  · rename_i tg iter ifs
    split at h
    · rename_i hh
      simp only [Bool.and_eq_true] at hh
      obtain ⟨s', e1, h⟩ := bindE h
      obtain ⟨t', e2, h⟩ := bindE h
      obtain ⟨c', e3, h⟩ := bindE h
      obtain ⟨x', e4, h⟩ := bindE h
      split at h
      · rename_i hv
        cases h
        refine e_comp Gd (ih.i ck X W tg iter s' Gd c e1) (by rw [c.N, c.sc]; exact blkOk_by hh.1) ?_ ?_ ?_ hh.2 (slots_sub hv)
        · exact fun s H C cl fp => (trG_ok (W := Wn) (Φ := Φ) n).1 _ _ _ _ (Gd.blk s H scope _ fp) (c.blk s H scope C cl fp) e2
        · exact fun s H C cl fp => ih.f _ _ _ _ _ (Gd.blk s H scope _ fp) (c.blk s H scope C cl fp) e3
        · exact fun s H C cl fp => ih.e _ _ _ _ _ (Gd.blk s H scope _ fp) (c.blk s H scope C cl fp) e4
      · cases h
    · cases h
  · rename_i tg iter ifs tg2 iter2 ifs2
    split at h
    · rename_i hh
      simp only [Bool.and_eq_true] at hh
      obtain ⟨s', e1, h⟩ := bindE h
      obtain ⟨t', e2, h⟩ := bindE h
      obtain ⟨c', e3, h⟩ := bindE h
      obtain ⟨s2, e5, h⟩ := bindE h
      obtain ⟨t2, e6, h⟩ := bindE h
      obtain ⟨c2, e7, h⟩ := bindE h
      obtain ⟨x', e4, h⟩ := bindE h
      split at h
      · rename_i hv
        simp only [Bool.and_eq_true] at hv
        cases h
        refine e_comp2 Gd (ih.i ck X W tg iter s' Gd c e1) (by rw [c.N, c.sc]; exact blkOk_by hh.1.1) (slots_sub hv.2) ?_ ?_ ?_ ?_ ?_ ?_ hh.1.2 hh.2 (slots_sub hv.1) (fun _ z => z)
        · exact fun s H C cl fp => (trG_ok (W := Wn) (Φ := Φ) n).1 _ _ _ _ (Gd.blk s H scope _ fp) (c.blk s H scope C cl fp) e2
        · exact fun s H C cl fp => ih.f _ _ _ _ _ (Gd.blk s H scope _ fp) (c.blk s H scope C cl fp) e3
        · exact fun s H C cl fp => ih.i _ _ _ _ _ _ (Gd.blk s H scope _ fp) (c.blk s H scope C cl fp) e5
        · exact fun s H C cl fp => (trG_ok (W := Wn) (Φ := Φ) n).1 _ _ _ _ (Gd.blk s H scope _ fp) (c.blk s H scope C cl fp) e6
        · exact fun s H C cl fp => ih.f _ _ _ _ _ (Gd.blk s H scope _ fp) (c.blk s H scope C cl fp) e7
        · exact fun s H C cl fp => ih.e _ _ _ _ _ (Gd.blk s H scope _ fp) (c.blk s H scope C cl fp) e4
      · cases h
    · cases h
  · cases h
theorem pair_inj {α β : Type} {a c : α} {b d : β} (h : some (a, b) = some (c, d)) : a = c ∧ b = d := by cases h; exact ⟨rfl, rfl⟩
theorem snd_bx {n : Nat} (ih : Snd G Φ n) {ck : Ck} {X : Cx} {W : WX} {x : Str} {px p : Pos} {es as : List Expr} {b : Bx} {e' : E} (Gd : Good X G W Φ) (c : CkOk ck X Φ) (g1 : Gl X x)
    (h : (match as with
      | [a] => (trE n ck a).map fun a => E.bix b [a]
      | [a, a2] => (trE n ck a).bind fun a => (trE n ck a2).map fun a2 => E.bix b [a, a2]
      | _ => none) = some e') (hb : bxOf ck x es = some (b, as)) : PE X (.Call (.Name x px) es [] p) (tO G W (op Φ e')) := by
  unfold bxOf at hb
  split at hb
  · rename_i y py ags kws q
    by_cases hh : (kws.isEmpty && ags.all notStar && isGlo ck y) = true
    · rw [if_pos hh] at hb
      simp only [Bool.and_eq_true, List.isEmpty_iff] at hh
      obtain ⟨⟨rfl, hst⟩, hgl⟩ := hh
      obtain ⟨g2, _, _⟩ := isGlo_ok c hgl
      by_cases hk : (bltN "sorted" x && bltN "set" y && decide (ags.length = 1)) = true
      · rw [if_pos hk] at hb
        simp only [Bool.and_eq_true, bltN, decide_eq_true_eq] at hk
        obtain ⟨⟨rfl, rfl⟩, hl⟩ := hk
        obtain ⟨rfl, rfl⟩ := pair_inj hb
        match ags, hl with
        | [a], _ =>
          obtain ⟨a', e1, h⟩ := mapE h
          cases h
          exact e_sortset Gd g1 g2 (Gd.blt "set" (by decide)) (ih.e _ _ _ _ _ Gd c e1) (by simpa using hst)
      · rw [if_neg hk] at hb
        by_cases hk : (bltN "list" x && bltN "range" y && (decide (ags.length = 1) || decide (ags.length = 2))) = true
        · rw [if_pos hk] at hb
          simp only [Bool.and_eq_true, Bool.or_eq_true, bltN, decide_eq_true_eq] at hk
          obtain ⟨⟨rfl, rfl⟩, hl⟩ := hk
          obtain ⟨rfl, rfl⟩ := pair_inj hb
          match ags, hl with
          | [a], _ =>
            obtain ⟨a', e1, h⟩ := mapE h
            cases h
            exact e_listR1 Gd g1 g2 (ih.e _ _ _ _ _ Gd c e1) (by simpa using hst)
          | [a, a2], _ =>
            obtain ⟨a', e1, h⟩ := bindE h
            obtain ⟨b', e2, h⟩ := mapE h
            cases h
            simp only [List.all_cons, List.all_nil, Bool.and_true, Bool.and_eq_true] at hst
            exact e_listR2 Gd g1 g2 (ih.e _ _ _ _ _ Gd c e1) (ih.e _ _ _ _ _ Gd c e2) hst.1 hst.2
        · rw [if_neg hk] at hb
          by_cases hk : (bltN "tuple" x && bltN "range" y && (decide (ags.length = 1) || decide (ags.length = 2))) = true
          · rw [if_pos hk] at hb
            simp only [Bool.and_eq_true, Bool.or_eq_true, bltN, decide_eq_true_eq] at hk
            obtain ⟨⟨rfl, rfl⟩, hl⟩ := hk
            obtain ⟨rfl, rfl⟩ := pair_inj hb
            match ags, hl with
            | [a], _ =>
              obtain ⟨a', e1, h⟩ := mapE h
              cases h
              exact e_tupR1 Gd g1 g2 (ih.e _ _ _ _ _ Gd c e1) (by simpa using hst)
            | [a, a2], _ =>
              obtain ⟨a', e1, h⟩ := bindE h
              obtain ⟨b', e2, h⟩ := mapE h
              cases h
              simp only [List.all_cons, List.all_nil, Bool.and_true, Bool.and_eq_true] at hst
              exact e_tupR2 Gd g1 g2 (ih.e _ _ _ _ _ Gd c e1) (ih.e _ _ _ _ _ Gd c e2) hst.1 hst.2
          · rw [if_neg hk] at hb; cases hb
    · rw [if_neg hh] at hb; cases hb
  · cases hb
theorem snd_call {n : Nat} (ih : Snd G Φ n) {ck : Ck} {X : Cx} {W : WX} {f : Expr} {es : List Expr} {kws : List Keyword} {p : Pos} {e' : E} (Gd : Good X G W Φ) (c : CkOk ck X Φ) (h : trE (n + 1) ck (.Call f es kws p) = some e') : PE X (.Call f es kws p) (tO G W (op Φ e')) := by
  simp only [trE] at h
  split at h
  · rename_i hh
    simp only [Bool.and_eq_true, List.isEmpty_iff] at hh
    obtain ⟨rfl, hst⟩ := hh
    split at h
    · rename_i x px
      split at h
      · rename_i i ei
        obtain ⟨a1, a2, a3, a4⟩ := slotOf_ok c ei
        cases es with
        | nil => cases h
        | cons e es =>
          rw [if_neg (by simp)] at h
          obtain ⟨es', e1, h⟩ := mapE h
          cases h
          exact e_callv Gd a1 a2 (ih.l _ _ _ _ _ Gd c e1) hst a3 a4
      · split at h
        · rename_i hg
          obtain ⟨g1, g2, g3⟩ := isGlo_ok c hg
          split at h
          · rename_i hd
            obtain ⟨es', e1, h⟩ := mapE h
            cases h
            cases es with
            | nil =>
              cases n with
              | zero => cases e1
              | succ n => cases e1; exact e_call0 Gd (c.dom _ hd) g1 g2
            | cons e es => exact e_call Gd (c.dom _ hd) g1 (ih.l _ _ _ _ _ Gd c e1) hst g2
          · cases es with
            | nil => cases h
            | cons e es =>
              rw [if_neg (by simp)] at h
              cases ebx : bxOf ck x (e :: es) with
              | some pb =>
                rw [ebx] at h
                exact snd_bx ih Gd c g1 h ebx
              | none =>
              rw [ebx] at h
              obtain ⟨b, e0, h⟩ := bindE h
              obtain ⟨es', e1, h⟩ := mapE h
              cases h
              obtain ⟨q, hq, rfl, rfl⟩ := biOf_ok e0
              obtain ⟨b1, b2⟩ := bi_boot q hq
              exact e_bi Gd g1 (by rw [Gd.mg]; exact Gd.blt _ b2) b1 (ih.l _ _ _ _ _ Gd c e1) hst g3 g2
        · cases h
    · rename_i a m apos
      split at h
      · rename_i hl
        split at h
        · rename_i k ek
          obtain ⟨x, e1, h⟩ := bindE h
          obtain ⟨i, e2, h⟩ := bindE h
          split at h
          · rename_i hlen
            obtain ⟨es', e3, h⟩ := mapE h
            cases h
            obtain ⟨px, rfl⟩ := not_dot e1
            obtain ⟨a1, a2, a3, a4⟩ := slotOf_ok c e2
            cases (muOf_ok ek)
            cases es with
            | nil =>
              cases n with
              | zero => cases e3
              | succ n => cases e3; exact e_mut0 Gd a1 a2 a3 a4 hl
            | cons e es => exact e_mut Gd a1 a2 a3 a4 (ih.l _ _ _ _ _ Gd c e3) hst hlen hl
          · cases h
        · obtain ⟨k, e1, h⟩ := bindE h
          split at h
          · rename_i hb
            simp only [Bool.and_eq_true, Bool.not_eq_true', decide_eq_true_eq] at hb
            obtain ⟨a', e2, h⟩ := bindE h
            obtain ⟨es', e3, h⟩ := mapE h
            cases h
            cases (meOf_ok e1)
            cases es with
            | nil => simp at hb
            | cons e es => exact e_me Gd (ih.e _ _ _ _ _ Gd c e2) (ih.l _ _ _ _ _ Gd c e3) hst hb.2 hb.1.1 hl
          · cases h
      · cases h
    · cases h
  · cases h
theorem snd_sub {n : Nat} (ih : Snd G Φ n) {ck : Ck} {X : Cx} {W : WX} {a i : Expr} {p : Pos} {e' : E} (Gd : Good X G W Φ) (c : CkOk ck X Φ) (h : trE (n + 1) ck (.Subscript a i p) = some e') : PE X (.Subscript a i p) (tO G W (op Φ e')) := by
  simp only [trE] at h
  split at h
  · rename_i lo hi st p2
    split at h
    · obtain ⟨a', e1, h⟩ := bindE h
      obtain ⟨lo', e2, h⟩ := bindE h
      obtain ⟨hi', e3, h⟩ := mapE h
      cases h
      exact e_slc Gd (ih.e _ _ _ _ _ Gd c e1) (ih.p _ _ _ _ _ Gd c e2) (ih.p _ _ _ _ _ Gd c e3)
    · split at h
      · obtain ⟨a', e1, h⟩ := mapE h
        cases h
        exact e_rev Gd (ih.e _ _ _ _ _ Gd c e1)
      · cases h
  · rename_i hn
    obtain ⟨a', e1, h⟩ := bindE h
    obtain ⟨i', e2, h⟩ := mapE h
    cases h
    refine e_ix Gd (ih.e _ _ _ _ _ Gd c e1) (ih.e _ _ _ _ _ Gd c e2) ?_
    cases i <;> first | rfl | exact absurd rfl (hn _ _ _ _)
theorem snd_cmp {n : Nat} (ih : Snd G Φ n) {ck : Ck} {X : Cx} {W : WX} {a : Expr} {os : List CmpOp} {cs : List Expr} {p : Pos} {e' : E} (Gd : Good X G W Φ) (c : CkOk ck X Φ) (h : trE (n + 1) ck (.Compare a os cs p) = some e') :
    PE X (.Compare a os cs p) (tO G W (op Φ e')) ∧ PT X (.Compare a os cs p) (tT G W (tst Φ (.tr e'))) := by
  simp only [trE] at h
  split at h
  · rename_i o b
    split at h
    · rename_i hn
      obtain ⟨o', e0, h⟩ := bindE h
      obtain ⟨a', e1, h⟩ := bindE h
      obtain ⟨b', e2, h⟩ := mapE h
      cases h
      cases (coT_ok e0)
      exact ⟨e_cmp Gd (ih.e _ _ _ _ _ Gd c e1) (ih.e _ _ _ _ _ Gd c e2) hn, t_cmp Gd (ih.e _ _ _ _ _ Gd c e1) (ih.e _ _ _ _ _ Gd c e2) hn⟩
    · cases h
  · rename_i o o2 b d
    split at h
    · rename_i hn
      obtain ⟨o', e0, h⟩ := bindE h
      obtain ⟨o2', e00, h⟩ := bindE h
      obtain ⟨a', e1, h⟩ := bindE h
      obtain ⟨b', e2, h⟩ := bindE h
      obtain ⟨d', e3, h⟩ := mapE h
      cases h
      cases (coT_ok e0)
      cases (coT_ok e00)
      exact ⟨e_chn Gd (ih.e _ _ _ _ _ Gd c e1) (ih.e _ _ _ _ _ Gd c e2) (ih.e _ _ _ _ _ Gd c e3) (last2 hn), t_chn Gd (ih.e _ _ _ _ _ Gd c e1) (ih.e _ _ _ _ _ Gd c e2) (ih.e _ _ _ _ _ Gd c e3) (last2 hn)⟩
    · cases h
  · cases h
theorem snd_e {n : Nat} (ih : Snd G Φ n) (ck : Ck) (X : Cx) (W : WX) (e : Expr) (e' : E) (Gd : Good X G W Φ) (c : CkOk ck X Φ) (h : trE (n + 1) ck e = some e') : PE X e (tO G W (op Φ e')) := by
  cases e <;> first | (simp [trE] at h; done) | skip
  · rename_i o es pos
    simp only [trE] at h
    split at h
    · exact pe_one (ih.e _ _ _ _ _ Gd c h)
    · rename_i a b r
      obtain ⟨a', e1, h⟩ := bindE h
      obtain ⟨b', e2, h⟩ := mapE h
      cases o with
      | And => cases h; exact e_and (ih.e _ _ _ _ _ Gd c e1) (ih.e _ _ _ _ _ Gd c e2)
      | Or => cases h; exact e_or Gd (ih.e _ _ _ _ _ Gd c e1) (ih.e _ _ _ _ _ Gd c e2)
    · cases h
  · rename_i a o b pos
    simp only [trE] at h
    obtain ⟨o', e0, h⟩ := bindE h
    obtain ⟨a', e1, h⟩ := bindE h
    obtain ⟨b', e2, h⟩ := mapE h
    cases h
    cases (boT_ok e0)
    exact e_bin Gd (ih.e _ _ _ _ _ Gd c e1) (ih.e _ _ _ _ _ Gd c e2)
  · rename_i o a pos
    simp only [trE] at h
    split at h
    · obtain ⟨a', e1, h⟩ := mapE h
      cases h
      exact e_neg (ih.e _ _ _ _ _ Gd c e1)
    · obtain ⟨a', e1, h⟩ := mapE h
      cases h
      exact e_nt (ih.e _ _ _ _ _ Gd c e1)
    · cases h
  · rename_i c0 a b pos
    simp only [trE] at h
    obtain ⟨c', e0, h⟩ := bindE h
    obtain ⟨a', e1, h⟩ := bindE h
    obtain ⟨b', e2, h⟩ := mapE h
    cases h
    exact e_ife (ih.t _ _ _ _ _ Gd c e0) (ih.e _ _ _ _ _ Gd c e1) (ih.e _ _ _ _ _ Gd c e2)
  · exact snd_comp ih Gd c h
  · exact (snd_cmp ih Gd c h).1
  · exact snd_call ih Gd c h
  · simp only [trE] at h
    exact trConst_ok h
  · exact snd_sub ih Gd c h
  · simp only [trE] at h
    exact trName_ok Gd c h
  · simp only [trE] at h
    obtain ⟨a', e1, h⟩ := mapE h
    cases h
    exact e_lst (ih.l _ _ _ _ _ Gd c e1)
  · simp only [trE] at h
    obtain ⟨a', e1, h⟩ := mapE h
    cases h
    exact e_tup (ih.l _ _ _ _ _ Gd c e1)
theorem snd_w {n : Nat} (ih : Snd G Φ n) (ck : Ck) (X : Cx) (W : WX) (o : BoolOp) (es : List Expr) (p : Pos) (e' : E) (Gd : Good X G W Φ) (c : CkOk ck X Φ) (h : trT (n + 1) ck (.BoolOp o es p) = some e') : PW X (.BoolOp o es p) (tT G W (tst Φ e')) := by
  simp only [trT] at h
  split at h
  · cases o with
    | And => exact pw_and1 (ih.t _ _ _ _ _ Gd c h)
    | Or => exact pw_or1 (ih.t _ _ _ _ _ Gd c h)
  · rename_i a b r
    obtain ⟨a', e1, h⟩ := bindE h
    obtain ⟨b', e2, h⟩ := mapE h
    cases o with
    | And => cases h; exact t_and (ih.t _ _ _ _ _ Gd c e1) (ih.w _ _ _ _ _ _ _ Gd c e2)
    | Or => cases h; exact t_or (ih.t _ _ _ _ _ Gd c e1) (ih.w _ _ _ _ _ _ _ Gd c e2)
  · cases h
theorem snd_t {n : Nat} (ih : Snd G Φ n) (ck : Ck) (X : Cx) (W : WX) (e : Expr) (e' : E) (Gd : Good X G W Φ) (c : CkOk ck X Φ) (h : trT (n + 1) ck e = some e') : PT X e (tT G W (tst Φ e')) := by
  have gen : ∀ {e0 : Expr}, (if plainTest e0 then (trE n ck e0).map E.tr else none) = some e' → PT X e0 (tT G W (tst Φ e')) := by
    intro e0 h
    split at h
    · rename_i hp
      obtain ⟨a', e1, h⟩ := mapE h
      cases h
      exact t_tr Gd (ih.e _ _ _ _ _ Gd c e1) hp
    · cases h
  cases e <;> first | (simp only [trT] at h; exact gen h) | skip
  · exact (snd_w ih _ _ _ _ _ _ _ Gd c h).pt
  · rename_i o a p
    cases o <;> first | (simp only [trT] at h; exact gen h) | skip
    simp only [trT] at h
    obtain ⟨a', e1, h⟩ := mapE h
    cases h
    exact t_nt (ih.t _ _ _ _ _ Gd c e1)
  · simp only [trT] at h
    obtain ⟨a', e1, h⟩ := mapE h
    cases h
    exact ih.c _ _ _ _ _ _ _ _ Gd c e1
theorem snd_f {n : Nat} (ih : Snd G Φ n) (ck : Ck) (X : Cx) (W : WX) (es : List Expr) (e' : E) (Gd : Good X G W Φ) (c : CkOk ck X Φ) (h : trF (n + 1) ck es = some e') : PTs X es (tT G W (tst Φ e')) := by
  cases es with
  | nil =>
    cases h
    refine ⟨fun pins s σ H Q I ⟨S, ρ, F, st, h⟩ => pts_nil.run pins s σ H Q I ?_⟩
    simp only [tst, op, bnd_ret, res, trD, lft] at h
    exact fin_ret (Qd := Q) h st (show rB σ H S true true [] from ⟨rfl, rfl⟩) fun _ z => z
  | cons e es => cases es with
    | nil => exact pts_one (ih.t _ _ _ _ _ Gd c h)
    | cons e2 es => cases h
theorem snd_l {n : Nat} (ih : Snd G Φ n) (ck : Ck) (X : Cx) (W : WX) (es : List Expr) (es' : List E) (Gd : Good X G W Φ) (c : CkOk ck X Φ) (h : trL (n + 1) ck es = some es') : PA X es (tOs G W (ops Φ es')) := by
  cases es with
  | nil => cases h; exact as_nil
  | cons e es =>
    simp only [trL] at h
    split at h
    · rename_i hs
      obtain ⟨a', e1, h⟩ := bindE h
      obtain ⟨b', e2, h⟩ := mapE h
      cases h
      exact as_cons (ih.e _ _ _ _ _ Gd c e1) (ih.l _ _ _ _ _ Gd c e2) hs
    · cases h
theorem snd_p {n : Nat} (ih : Snd G Φ n) (ck : Ck) (X : Cx) (W : WX) (e : Option Expr) (e' : E) (Gd : Good X G W Φ) (c : CkOk ck X Φ) (h : trP (n + 1) ck e = some e') : PO X e (tG G W rN (prt Φ e')) := by
  cases e with
  | none => cases h; exact p_none
  | some e =>
    simp only [trP] at h
    obtain ⟨a', e1, h⟩ := mapE h
    cases h
    exact p_some (ih.e _ _ _ _ _ Gd c e1)
theorem snd_s {n : Nat} (ih : Snd G Φ n) (ck : Ck) (X : Cx) (W : WX) (e : Expr) (e' : E) (Gd : Good X G W Φ) (c : CkOk ck X Φ) (h : trS (n + 1) ck e = some e') : PE X e (tG G W (rS G) (src Φ e')) ∧ ∀ ρ, itr Φ e' ρ = bnd (src Φ e' ρ) seqOf := by
  have gen : ∀ {e0 : Expr}, (trE n ck e0).map E.sr = some e' → PE X e0 (tG G W (rS G) (src Φ e')) ∧ ∀ ρ, itr Φ e' ρ = bnd (src Φ e' ρ) seqOf := by
    intro e0 h
    obtain ⟨a', e1, h⟩ := mapE h
    cases h
    exact ⟨s_sr (ih.e _ _ _ _ _ Gd c e1), fun ρ => by simp only [itr, src]⟩
  cases e <;> first | (simp only [trS] at h; exact gen h) | skip
  rename_i x p
  simp only [trS] at h
  split at h
  · obtain ⟨i, e1, h⟩ := mapE h
    cases h
    obtain ⟨a1, a2, a3, a4⟩ := slotOf_ok c e1
    exact ⟨s_hold a1 a2 a3 a4, fun ρ => by simp only [itr, src]⟩
  · exact gen h
theorem snd_i {n : Nat} (ih : Snd G Φ n) (ck : Ck) (X : Cx) (W : WX) (tg e : Expr) (e' : E) (Gd : Good X G W Φ) (c : CkOk ck X Φ) (h : trI (n + 1) ck tg e = some e') : PI X tg e (tI G W (itr Φ e')) := by
  have gen : ∀ {e0 : Expr}, trS n ck e0 = some e' → PI X tg e0 (tI G W (itr Φ e')) := by
    intro e0 h
    obtain ⟨h1, h2⟩ := ih.s _ _ _ _ _ Gd c h
    exact i_seq Gd h1 h2
  cases e <;> first | (simp only [trI] at h; exact gen h) | skip
  rename_i f es kws p
  cases f <;> first | (simp only [trI] at h; exact gen h) | skip
  rename_i x px
  simp only [trI] at h
  split at h
  · rename_i hh
    simp only [Bool.and_eq_true, List.isEmpty_iff] at hh
    obtain ⟨⟨hg, rfl⟩, hst⟩ := hh
    obtain ⟨g1, g2, g3⟩ := isGlo_ok c hg
    split at h
    · rename_i hx
      have ex : Str.ofString "range" = x := by simpa [bltN] using hx
      subst ex
      split at h
      · obtain ⟨es', e1, h⟩ := mapE h
        cases h
        have hl := (trL_star e1).2
        have pa := ih.l _ _ _ _ _ Gd c e1
        match es, es', hl with
        | [a], [a'], _ => exact i_rng1 Gd g1 pa hst
        | [a, b], [a', b'], _ => exact i_rng2 Gd g1 pa hst
        | [a, b, d], [a', b', d'], _ => exact i_rng3 Gd g1 pa hst
        | [], _, _ => simp at *
        | _ :: _ :: _ :: _ :: _, _, _ => simp at *
      · cases h
    · split at h
      · rename_i hx
        have ex : Str.ofString "enumerate" = x := by simpa [bltN] using hx
        subst ex
        split at h
        · obtain ⟨a', e1, h⟩ := mapE h
          cases h
          exact i_enm Gd g1 (ih.s _ _ _ _ _ Gd c e1).1 (by simpa using hst)
        · cases h
      · split at h
        · rename_i hx
          have ex : Str.ofString "zip" = x := by simpa [bltN] using hx
          subst ex
          split at h
          · obtain ⟨a', e1, h⟩ := bindE h
            obtain ⟨b', e2, h⟩ := mapE h
            cases h
            have h12 := hst
            simp only [List.all_cons, List.all_nil, Bool.and_true, Bool.and_eq_true] at h12
            exact i_zip Gd g1 (ih.s _ _ _ _ _ Gd c e1).1 (ih.s _ _ _ _ _ Gd c e2).1 h12.1 h12.2
          · cases h
        · exact gen h
  · exact gen h
theorem snd : ∀ n, Snd G Φ n
  | 0 => ⟨fun _ _ _ _ _ _ _ h => (by cases h), fun _ _ _ _ _ _ _ h => (by cases h), fun _ _ _ _ _ _ _ _ _ h => (by cases h), fun _ _ _ _ _ _ _ _ _ _ h => (by cases h), fun _ _ _ _ _ _ _ h => (by cases h), fun _ _ _ _ _ _ _ h => (by cases h),
      fun _ _ _ _ _ _ _ h => (by cases h), fun _ _ _ _ _ _ _ h => (by cases h), fun _ _ _ _ _ _ _ _ h => (by cases h)⟩
  | n + 1 => ⟨snd_e (snd n), snd_t (snd n), snd_w (snd n), fun ck X W a os cs p e' Gd c h => (snd_cmp (snd n) Gd c h).2, snd_f (snd n), snd_l (snd n), snd_p (snd n), snd_s (snd n), snd_i (snd n)⟩
end
end VP

set_option Elab.async false
set_option linter.all false
set_option maxRecDepth 100000
set_option maxHeartbeats 4000000
/-! Statements: the translation and its meaning. -/
namespace VP
open PySem PySem.Spec PyProof.Rows L2
def swB (ck : Ck) (s : Scope) (p : Pos) (t : Str) (tp : Pos) : Bool :=
  (if ck.sc.kind.isAnnotationScope then .function else ck.sc.kind) == .function && ck.sc.names.lookup t == some .local && tp.line == p.line && !(s.names.any fun (n, k) => n == t && (k == .local || k == .cell))
def isStar : Expr → Bool
  | .Starred _ _ => true
  | _ => false
def swNames (sc : Scope) (line : Nat) (ts : List Expr) : List Str := ts.filterMap fun
    | .Name id pos => if sc.names.lookup id == some .local && pos.line == line then some id else none
    | _ => none
def swLine (ts : List Expr) : Nat := (ts.head?.map (·.pos.line)).getD 0
def sw1 (sc : Scope) (ts vs : List Expr) : Bool := !(ts.length == 2 || ts.length == 3) || vs.length != ts.length || (if sc.kind.isAnnotationScope then .function else sc.kind) != .function
def sw2 (vs : List Expr) : Bool := vs.any fun | .Starred .. => true | _ => false
def sw3 (sc : Scope) (ts : List Expr) : Bool := (swNames sc (swLine ts) ts).length != ts.length || (swNames sc (swLine ts) ts).eraseDups.length != (swNames sc (swLine ts) ts).length
def swN (sc : Scope) (ts vs : List Expr) : Option (Option (List Str)) :=
  if sw1 sc ts vs = true then some none
  else if sw2 vs = true then some none
  else if sw3 sc ts = true then some none
  else if (vs.all (foldedForSure 8)) = true then some none
  else if (vs.all (constantsAlone 8)) = true then none
  else some (some (swNames sc (swLine ts) ts))
theorem sw_form {env : Env} {ts vs : List Expr} {k k2 : Nat} {p p2 : Pos} : swappedStores [.Tuple ts k p] (.Tuple vs k2 p2) env = (if sw1 env.scope ts vs = true then pure none else if sw2 vs = true then pure none else if sw3 env.scope ts = true then pure none
    else if (vs.all (foldedForSure 8)) = true then pure none else if (vs.all (constantsAlone 8)) = true then (do unsupported "assign.tuple-of-constant-expressions:order-of-the-stores"; return some (swNames env.scope (swLine ts) ts)) else pure (some (swNames env.scope (swLine ts) ts))) := by
  rfl
theorem swN_ok {sc : Scope} {env : Env} (h : env.scope = sc) {ts vs : List Expr} {k k2 : Nat} {p p2 : Pos} {o : Option (List Str)} (e : swN sc ts vs = some o) : swappedStores [.Tuple ts k p] (.Tuple vs k2 p2) env = pure o := by
  subst h
  rw [sw_form]
  unfold swN at e
  cases h1 : sw1 env.scope ts vs with
  | true => rw [h1] at e; cases e; rfl
  | false =>
    rw [h1] at e
    cases h2 : sw2 vs with
    | true => rw [h2] at e; cases e; rfl
    | false =>
      rw [h2] at e
      cases h3 : sw3 env.scope ts with
      | true => rw [h3] at e; cases e; rfl
      | false =>
        rw [h3] at e
        cases h4 : vs.all (foldedForSure 8) with
        | true => rw [h4] at e; cases e; rfl
        | false =>
          rw [h4] at e
          cases h5 : vs.all (constantsAlone 8) with
          | true => rw [h5] at e; cases e
          | false => rw [h5] at e; cases e; rfl
mutual
def trSt : Nat → Ck → Stmt → Option Sm
  | 0, _, _ => none
  | n + 1, ck, st => match st with
    | .Assign tgs e pos => (match tgs with
      | [.Name x px] => (trG n ck (.Name x px)).bind fun t => (trE n ck e).bind fun e' => (match e with
        | .ListComp _ _ s p => if swB ck s p x px then (match slotOf ck x with
          | some i => if ck.sc.names.lookup x = some .local then some (.asg (.nm i) e') else none
          | none => none) else some (.asg t e')
        | .SetComp _ _ _ _ => none
        | .DictComp _ _ _ _ _ => none
        | _ => some (.asg t e'))
      | [.Tuple ts k p] => (match e with
        | .Tuple es k2 p2 => (match swN ck.sc ts es with
          | none => none
          | some none => (trGs n ck ts).bind fun ts' => (trL n ck es).bind fun es' => if ts.length < 1000 then some (.par ts' es') else none
          | some (some names) => (match ts, es with
            | [.Name x px, .Name y py], [a, b] => if names = [x, y] ∧ ck.sc.names.lookup x = some .local ∧ ck.sc.names.lookup y = some .local then
                (slotOf ck x).bind fun i => (slotOf ck y).bind fun j => (trL n ck es).bind fun es' => if i ≠ j then some (.par [.nm i, .nm j] es') else none else none
            | [.Name x px, .Name y py, .Name z pz], [a, b, c] => if names = [x, y, z] ∧ ck.sc.names.lookup x = some .local ∧ ck.sc.names.lookup y = some .local ∧ ck.sc.names.lookup z = some .local then
                (slotOf ck x).bind fun i => (slotOf ck y).bind fun j => (slotOf ck z).bind fun l => (trL n ck es).bind fun es' => if i ≠ j ∧ i ≠ l ∧ j ≠ l then some (.par [.nm i, .nm j, .nm l] es') else none else none
            | _, _ => none))
        | e => (trG n ck (.Tuple ts k p)).bind fun t => (trE n ck e).map fun e' => .asg t e')
      | [.Subscript o k _] => (nameOf o).bind fun x => (slotOf ck x).bind fun i => (trE n ck k).bind fun k' => (trE n ck e).bind fun e' => if notSlice k then some (.setI i k' e') else none
      | _ => none)
    | .AugAssign t o e _ => (match t, o with
      | .Name x _, .Add => (slotOf ck x).bind fun i => (trE n ck e).bind fun e' => if locK (ck.sc.names.lookup x) && (ck.fn x || decide (ck.sc.names.lookup x = some .local)) then some (.aug i e') else none
      | _, _ => none)
    | .Return e _ => (match e with
      | some e => (trE n ck e).map .ret
      | none => some .retN)
    | .Expr e _ => if isComp e then none else (trE n ck e).map .exp
    | .If c a b _ => (trT n ck c).bind fun c => (trB n ck a).bind fun a => (trB n ck b).map fun b => .ifs c a b
    | .For tg it b els _ => if els.isEmpty && notSet it then (trI n ck tg it).bind fun i => (trG n ck tg).bind fun t => (trB n ck b).bind fun b =>
        if (holds i).all (fun j => decide (j ∉ tgS t ++ wrL b)) then some (.for_ t i b) else none else none
    | .While c b els _ => if els.isEmpty then (trT n ck c).bind fun c => (trB n ck b).map fun b => .whl c b else none
    | .Pass _ => some .pas
    | .Raise _ _ _ => some (.rse "" [])
    | _ => none
def trB : Nat → Ck → List Stmt → Option (List Sm)
  | 0, _, _ => none
  | _ + 1, _, [] => some []
  | n + 1, ck, s :: ss => (trSt n ck s).bind fun s => (trB n ck ss).map fun ss => s :: ss
end
section
variable {G : Gv} {Y : Rc}
theorem swB_ok {ck : Ck} {env : Env} (h : env.scope = ck.sc) {elt : Expr} {gs : List Comprehension} {s : Scope} {p : Pos} {t : Str} {tp : Pos} {l : Nat} {k : Bool} (e : swB ck s p t tp = k) : swapsWith (.ListComp elt gs s p) (some (.Name t tp)) l env = pure k := by
  subst e
  unfold swB
  rw [← h]
  rfl
structure SndS (G : Gv) (Y : Rc) (n : Nat) : Prop where
  s : ∀ (ck : Ck) (X : Cx) (W : WX) (st : Stmt) (s : Sm), Good X G W Y.Φ → CkOk ck X Y.Φ → PassesOwn (model X.prog X.w) X.A X.env X.xe → trSt n ck st = some s → PS X st (tS G W (wr s) (run Y s))
  b : ∀ (ck : Ck) (X : Cx) (W : WX) (st : List Stmt) (s : List Sm), Good X G W Y.Φ → CkOk ck X Y.Φ → PassesOwn (model X.prog X.w) X.A X.env X.xe → trB n ck st = some s → PSs X st (tS G W (wrL s) (runs Y s))
theorem sndS_name {n : Nat} {ck : Ck} {X : Cx} {W : WX} {x : Str} {px : Pos} {e : Expr} {pos : Pos} {s : Sm} (Gd : Good X G W Y.Φ) (c : CkOk ck X Y.Φ) (h : trSt (n + 1) ck (.Assign [.Name x px] e pos) = some s) : PS X (.Assign [.Name x px] e pos) (tS G W (wr s) (run Y s)) := by
  have gen : ∀ {t e'}, trG n ck (.Name x px) = some t → trE n ck e = some e' → isComp e = false → PS X (.Assign [.Name x px] e pos) (tS G W (wr (.asg t e')) (run Y (.asg t e'))) := fun h1 h2 hc =>
    r_asgN ((snd n).e _ _ _ _ _ Gd c h2) ((trG_ok n).1 _ _ _ _ Gd c h1) (noswap hc)
  simp only [trSt] at h
  obtain ⟨t, e1, h⟩ := bindE h
  obtain ⟨e', e2, h⟩ := bindE h
  cases e <;> first | (cases h; done) | (cases h; exact gen e1 e2 rfl) | skip
  rename_i elt gs sc p hx1 hx2
  simp only at h
  split at h
  · rename_i hsw
    split at h
    · rename_i i ei
      split at h
      · rename_i hl
        cases h
        have hsw' := swB_ok (elt := elt) (gs := gs) (l := pos.line) c.sc hsw
        obtain ⟨a1, a2, a3, a4⟩ := slotOf_ok c ei
        cases n with
        | zero => cases e2
        | succ n =>
          simp only [trE] at e2
          split at e2
          · rename_i tg iter ifs
            split at e2
            · rename_i hh
              simp only [Bool.and_eq_true] at hh
              obtain ⟨s', f1, e2⟩ := bindE e2
              obtain ⟨t', f2, e2⟩ := bindE e2
              obtain ⟨c', f3, e2⟩ := bindE e2
              obtain ⟨x', f4, e2⟩ := bindE e2
              split at e2
              · rename_i hv
                cases e2
                refine r_asgC Gd a1 (by rw [c.sc]; exact hl) hsw' ((snd n).i ck X W tg iter s' Gd c f1) (by rw [c.N, c.sc]; exact blkOk_by hh.1) ?_ ?_ ?_ hh.2 (slots_sub hv)
                · exact fun s H C cl fp => (trG_ok (W := Wn) (Φ := Y.Φ) n).1 _ _ _ _ (Gd.blk s H sc _ fp) (c.blk s H sc C cl fp) f2
                · exact fun s H C cl fp => (snd n).f _ _ _ _ _ (Gd.blk s H sc _ fp) (c.blk s H sc C cl fp) f3
                · exact fun s H C cl fp => (snd n).e _ _ _ _ _ (Gd.blk s H sc _ fp) (c.blk s H sc C cl fp) f4
              · cases e2
            · cases e2
          · rename_i tg iter ifs tg2 iter2 ifs2
            split at e2
            · rename_i hh
              simp only [Bool.and_eq_true] at hh
              obtain ⟨s', f1, e2⟩ := bindE e2
              obtain ⟨t', f2, e2⟩ := bindE e2
              obtain ⟨c', f3, e2⟩ := bindE e2
              obtain ⟨s2, f5, e2⟩ := bindE e2
              obtain ⟨t2, f6, e2⟩ := bindE e2
              obtain ⟨c2, f7, e2⟩ := bindE e2
              obtain ⟨x', f4, e2⟩ := bindE e2
              split at e2
              · rename_i hv
                simp only [Bool.and_eq_true] at hv
                cases e2
                refine r_asgC2 Gd a1 (by rw [c.sc]; exact hl) hsw' ((snd n).i ck X W tg iter s' Gd c f1) (by rw [c.N, c.sc]; exact blkOk_by hh.1.1) (slots_sub hv.2) ?_ ?_ ?_ ?_ ?_ ?_ hh.1.2 hh.2 (slots_sub hv.1) (fun _ z => z)
                · exact fun s H C cl fp => (trG_ok (W := Wn) (Φ := Y.Φ) n).1 _ _ _ _ (Gd.blk s H sc _ fp) (c.blk s H sc C cl fp) f2
                · exact fun s H C cl fp => (snd n).f _ _ _ _ _ (Gd.blk s H sc _ fp) (c.blk s H sc C cl fp) f3
                · exact fun s H C cl fp => (snd n).i _ _ _ _ _ _ (Gd.blk s H sc _ fp) (c.blk s H sc C cl fp) f5
                · exact fun s H C cl fp => (trG_ok (W := Wn) (Φ := Y.Φ) n).1 _ _ _ _ (Gd.blk s H sc _ fp) (c.blk s H sc C cl fp) f6
                · exact fun s H C cl fp => (snd n).f _ _ _ _ _ (Gd.blk s H sc _ fp) (c.blk s H sc C cl fp) f7
                · exact fun s H C cl fp => (snd n).e _ _ _ _ _ (Gd.blk s H sc _ fp) (c.blk s H sc C cl fp) f4
              · cases e2
            · cases e2
          · cases e2
      · cases h
    · cases h
  · rename_i hsw
    cases h
    exact r_asgN ((snd n).e _ _ _ _ _ Gd c e2) ((trG_ok n).1 _ _ _ _ Gd c e1) (swB_ok c.sc (by simpa using hsw))
theorem sndS_tup {n : Nat} {ck : Ck} {X : Cx} {W : WX} {ts : List Expr} {k : Nat} {p : Pos} {e : Expr} {pos : Pos} {s : Sm} (Gd : Good X G W Y.Φ) (c : CkOk ck X Y.Φ) (h : trSt (n + 1) ck (.Assign [.Tuple ts k p] e pos) = some s) : PS X (.Assign [.Tuple ts k p] e pos) (tS G W (wr s) (run Y s)) := by
  have gen : ((trG n ck (.Tuple ts k p)).bind fun t => (trE n ck e).map fun e' => Sm.asg t e') = some s → isTup e = false → PS X (.Assign [.Tuple ts k p] e pos) (tS G W (wr s) (run Y s)) := fun h hn => by
    obtain ⟨t, e1, h⟩ := bindE h
    obtain ⟨e', e2, h⟩ := mapE h
    cases h
    exact r_asgT ((snd n).e _ _ _ _ _ Gd c e2) ((trG_ok n).1 _ _ _ _ Gd c e1) hn
  cases e <;> first | (simp only [trSt] at h; exact gen h rfl) | skip
  rename_i es k2 p2
  simp only [trSt] at h
  split at h
  · cases h
  · rename_i hw
    obtain ⟨ts', e1, h⟩ := bindE h
    obtain ⟨es', e2, h⟩ := bindE h
    split at h
    · rename_i hl
      cases h
      obtain ⟨_, g1, g2, g3⟩ := (trG_ok n).2 _ _ _ _ Gd c e1
      exact r_parN Gd ((snd n).l _ _ _ _ _ Gd c e2) g1 g2 g3 hl (swN_ok c.sc hw)
    · cases h
  · rename_i names hw
    split at h
    · rename_i x px y py a b
      split at h
      · rename_i hh
        obtain ⟨rfl, l1, l2⟩ := hh
        obtain ⟨i, e1, h⟩ := bindE h
        obtain ⟨j, e2, h⟩ := bindE h
        obtain ⟨es', e3, h⟩ := bindE h
        split at h
        · rename_i hij
          cases h
          exact r_par2 Gd (slotOf_ok c e1).1 (slotOf_ok c e2).1 hij (by rw [c.sc]; exact l1) (by rw [c.sc]; exact l2) ((snd n).l _ _ _ _ _ Gd c e3) (swN_ok c.sc hw)
        · cases h
      · cases h
    · rename_i x px y py z pz a b d
      split at h
      · rename_i hh
        obtain ⟨rfl, l1, l2, l3⟩ := hh
        obtain ⟨i, e1, h⟩ := bindE h
        obtain ⟨j, e2, h⟩ := bindE h
        obtain ⟨l, e4, h⟩ := bindE h
        obtain ⟨es', e3, h⟩ := bindE h
        split at h
        · rename_i hij
          cases h
          exact r_par3 Gd (slotOf_ok c e1).1 (slotOf_ok c e2).1 (slotOf_ok c e4).1 hij.1 hij.2.1 hij.2.2 (by rw [c.sc]; exact l1) (by rw [c.sc]; exact l2) (by rw [c.sc]; exact l3) ((snd n).l _ _ _ _ _ Gd c e3) (swN_ok c.sc hw)
        · cases h
      · cases h
    · cases h
theorem r_never {st : Stmt} {X : Cx} {W : WX} {w : List Nat} {m : Ev → SR} (h : ∀ ρ, m ρ = none) : PS X st (tS G W w m) := ⟨fun _ _ _ _ _ _ ⟨_, ρ, _, _, q⟩ => by rw [h] at q; exact q.elim⟩
theorem locK_ok {sc : Scope} {x : Str} (h : locK (sc.names.lookup x) = true) : L2.Loc sc x := by
  unfold L2.Loc
  revert h
  cases sc.names.lookup x with
  | none => intro q; cases q
  | some k => cases k <;> simp [locK]
theorem sndS_s {n : Nat} (ih : SndS G Y n) (ck : Ck) (X : Cx) (W : WX) (st : Stmt) (s : Sm) (Gd : Good X G W Y.Φ) (c : CkOk ck X Y.Φ) (hp : PassesOwn (model X.prog X.w) X.A X.env X.xe) (h : trSt (n + 1) ck st = some s) : PS X st (tS G W (wr s) (run Y s)) := by
  cases st <;> first | (simp only [trSt] at h; cases h; done) | skip
  · rename_i e p
    simp only [trSt] at h
    cases e with
    | some e =>
      obtain ⟨a', e1, h⟩ := mapE h
      cases h
      exact r_ret ((snd n).e _ _ _ _ _ Gd c e1)
    | none => cases h; exact r_retN
  · rename_i tgs e p
    have h0 := h
    simp only [trSt] at h
    split at h
    · exact sndS_name Gd c h0
    · exact sndS_tup Gd c h0
    · obtain ⟨x, e1, h⟩ := bindE h
      obtain ⟨i, e2, h⟩ := bindE h
      obtain ⟨k', e3, h⟩ := bindE h
      obtain ⟨e', e4, h⟩ := bindE h
      split at h
      · rename_i hs
        cases h
        obtain ⟨px, rfl⟩ := not_dot e1
        obtain ⟨a1, a2, a3, a4⟩ := slotOf_ok c e2
        exact r_setI Gd a1 a2 a3 a4 ((snd n).e _ _ _ _ _ Gd c e4) ((snd n).e _ _ _ _ _ Gd c e3) hs (.inr trivial)
      · cases h
    · cases h
  · rename_i t o e p
    simp only [trSt] at h
    split at h
    · rename_i x px
      obtain ⟨i, e1, h⟩ := bindE h
      obtain ⟨e', e2, h⟩ := bindE h
      split at h
      · rename_i hh
        simp only [Bool.and_eq_true, Bool.or_eq_true, decide_eq_true_eq] at hh
        cases h
        exact r_aug Gd (slotOf_ok c e1).1 (by rw [c.sc]; exact locK_ok hh.1) (by rw [c.fn, c.sc]; exact hh.2) ((snd n).e _ _ _ _ _ Gd c e2)
      · cases h
    · cases h
  · rename_i tg it b els p
    simp only [trSt] at h
    split at h
    · rename_i hh
      simp only [Bool.and_eq_true, List.isEmpty_iff] at hh
      obtain ⟨rfl, hs⟩ := hh
      obtain ⟨i, e1, h⟩ := bindE h
      obtain ⟨t, e2, h⟩ := bindE h
      obtain ⟨b', e3, h⟩ := bindE h
      split at h
      · rename_i hk
        cases h
        refine r_for Gd hp ((snd n).i _ _ _ _ _ _ Gd c e1) ((trG_ok n).1 _ _ _ _ Gd c e2) (ih.b _ _ _ _ _ Gd c hp e3) hs fun j hj => ?_
        have := List.all_eq_true.mp hk j hj
        simpa using this
      · cases h
    · cases h
  · rename_i cnd b els p
    simp only [trSt] at h
    split at h
    · rename_i hh
      simp only [List.isEmpty_iff] at hh
      subst hh
      obtain ⟨c', e1, h⟩ := bindE h
      obtain ⟨b', e3, h⟩ := mapE h
      cases h
      exact r_whl hp ((snd n).t _ _ _ _ _ Gd c e1) (ih.b _ _ _ _ _ Gd c hp e3)
    · cases h
  · rename_i cnd a b p
    simp only [trSt] at h
    obtain ⟨c', e1, h⟩ := bindE h
    obtain ⟨a', e2, h⟩ := bindE h
    obtain ⟨b', e3, h⟩ := mapE h
    cases h
    exact r_ifs ((snd n).t _ _ _ _ _ Gd c e1) (ih.b _ _ _ _ _ Gd c hp e2) (ih.b _ _ _ _ _ Gd c hp e3)
  · simp only [trSt] at h
    cases h
    exact r_never fun ρ => by simp only [run]
  · rename_i e p
    simp only [trSt] at h
    split at h
    · cases h
    · rename_i hc
      obtain ⟨a', e1, h⟩ := mapE h
      cases h
      exact r_exp ((snd n).e _ _ _ _ _ Gd c e1) (noswap (by simpa using hc))
  · simp only [trSt] at h
    cases h
    exact r_pas
theorem sndS : ∀ n, SndS G Y n
  | 0 => ⟨fun _ _ _ _ _ _ _ _ h => (by cases h), fun _ _ _ _ _ _ _ _ h => (by cases h)⟩
  | n + 1 => ⟨sndS_s (sndS n), fun ck X W sts ss Gd c hp h => by
    cases sts with
    | nil => cases h; exact r_nil
    | cons st sts =>
      simp only [trB] at h
      obtain ⟨s', e1, h⟩ := bindE h
      obtain ⟨ss', e2, h⟩ := mapE h
      cases h
      exact r_cons ((sndS n).s _ _ _ _ _ Gd c hp e1) ((sndS n).b _ _ _ _ _ Gd c hp e2)⟩
end
end VP

set_option Elab.async false
set_option linter.all false
set_option maxRecDepth 100000
set_option maxHeartbeats 4000000
/-! Defs, by levels. -/
namespace VP
open PySem PySem.Spec PyProof.Rows L2

structure Df where
  N : List Str
  np : Nat
  io : List Nat
  body : List Sm
/-- what the arguments hold behind the call -/
def outL : Nat → List D → Ev → Option (List D)
  | _, [], _ => some []
  | i, d :: ds, ρ => match outL (i + 1) ds ρ with
    | none => none
    | some r => if own d then (match ρ[i]? with
      | some (some d') => some (d' :: r)
      | _ => none) else some (d :: r)
def ownIn (io : List Nat) : Nat → List D → Bool
  | _, [] => true
  | i, d :: ds => (!own d || decide (i ∈ io)) && ownIn io (i + 1) ds
def startE (d : Df) (ds : List D) : Ev := ds.map some ++ List.replicate (d.N.length - ds.length) none
def evDef0 (Y : Rc) (d : Df) : Sem1 := fun ds => if ds.length = d.np ∧ ownIn d.io 0 ds = true then (match runs { Y with np := d.np } d.body (startE d ds) with
    | some (.rt v ρ) => (outL 0 ds ρ).map fun r => (.ok v, r)
    | some (.nx ρ) => (outL 0 ds ρ).map fun r => (.ok .non, r)
    | some (.er e ρ) => (outL 0 ds ρ).map fun r => (.error e, r)
    | none => none) else none
/-- an owned argument that the def does not change in place is frozen at its entry -/
def frzIn (io : List Nat) : Nat → List D → List D
  | _, [] => []
  | i, d :: ds => (if i ∈ io then d else frz d) :: frzIn io (i + 1) ds
def evDef (Y : Rc) (d : Df) : Sem1 := fun ds => evDef0 Y d (frzIn d.io 0 ds)
theorem frzIn_len {io : List Nat} : ∀ {ds : List D} {i : Nat}, (frzIn io i ds).length = ds.length
  | [], _ => rfl
  | d :: ds, i => by simp [frzIn, frzIn_len (ds := ds)]
theorem frzIn_get {io : List Nat} : ∀ {ds : List D} {i j : Nat} {d : D}, ds[j]? = some d → (frzIn io i ds)[j]? = some (if i + j ∈ io then d else frz d)
  | [], _, j, _, e => by simp at e
  | d :: ds, i, 0, x, e => by
    simp at e; subst e
    simp [frzIn]
  | d :: ds, i, j + 1, x, e => by
    have := frzIn_get (io := io) (i := i + 1) (ds := ds) (j := j) (d := x) (by simpa using e)
    have e2 : i + 1 + j = i + (j + 1) := by omega
    rw [e2] at this
    simpa [frzIn] using this
theorem outL_len : ∀ {ds : List D} {i : Nat} {ρ : Ev} {r : List D}, outL i ds ρ = some r → r.length = ds.length
  | [], _, _, _, h => by cases h; rfl
  | d :: ds, i, ρ, r, h => by
    simp only [outL] at h
    cases e : outL (i + 1) ds ρ with
    | none => rw [e] at h; cases h
    | some r' =>
      rw [e] at h
      simp only at h
      split at h
      · split at h
        · cases h; simp [outL_len e]
        · cases h
      · cases h; simp [outL_len e]
theorem outL_get : ∀ {ds : List D} {i : Nat} {ρ : Ev} {r : List D}, outL i ds ρ = some r → ∀ j d, ds[j]? = some d → own d = true → ∃ d', r[j]? = some d' ∧ ρ[i + j]? = some (some d')
  | [], _, _, _, h, j, d, e, _ => by simp at e
  | d0 :: ds, i, ρ, r, h, j, d, e, ho => by
    simp only [outL] at h
    cases e' : outL (i + 1) ds ρ with
    | none => rw [e'] at h; cases h
    | some r' =>
      rw [e'] at h
      simp only at h
      cases j with
      | zero =>
        simp only [List.getElem?_cons_zero, Option.some.injEq] at e
        subst e
        rw [if_pos ho] at h
        split at h
        · rename_i d' q
          cases h
          exact ⟨d', rfl, q⟩
        · cases h
      | succ j =>
        have k := outL_get e' j d (by simpa using e) ho
        obtain ⟨d', k1, k2⟩ := k
        have : i + 1 + j = i + (j + 1) := by omega
        rw [this] at k2
        split at h
        · split at h
          · cases h; exact ⟨d', by simpa using k1, k2⟩
          · cases h
        · cases h; exact ⟨d', by simpa using k1, k2⟩
theorem ownIn_get {io : List Nat} : ∀ {ds : List D} {i : Nat}, ownIn io i ds = true → ∀ j d, ds[j]? = some d → own d = true → i + j ∈ io
  | [], _, _, j, d, e, _ => by simp at e
  | d0 :: ds, i, h, j, d, e, ho => by
    simp only [ownIn, Bool.and_eq_true, Bool.or_eq_true, Bool.not_eq_true', decide_eq_true_eq] at h
    cases j with
    | zero =>
      simp only [List.getElem?_cons_zero, Option.some.injEq] at e
      subst e
      rcases h.1 with z | z
      · rw [ho] at z; cases z
      · exact z
    | succ j =>
      have k := ownIn_get h.2 j d (by simpa using e) ho
      have : i + 1 + j = i + (j + 1) := by omega
      rw [← this]; exact k
section
variable {G : Gv} {H H' : Hp} {S S' : AP'} {F F' : Fps}
theorem sto_start {d : Df} {ds : List D} {vs : List V} (st : StO G H S (vs.map some) (ds.map some) F) (hl : vs.length ≤ d.N.length) : StO G H S (start d.N vs) (startE d ds) F := by
  have hlen : ds.length = vs.length := by have := st.len; simpa using this
  have get : ∀ (i : Nat) (x : D), (startE d ds)[i]? = some (some x) → (ds.map some)[i]? = some (some x) := by
    intro i x e
    unfold startE at e
    by_cases hi : i < ds.length
    · rw [List.getElem?_append_left (by simpa using hi)] at e; exact e
    · rw [List.getElem?_append_right (by simpa using hi), List.getElem?_replicate] at e
      split at e <;> cases e
  refine ⟨?_, fun i x e => ?_, fun i n => st.emp i fun x e => n x ?_, st.dis, st.wf⟩
  · unfold startE L2.start
    simp [hlen]
  · obtain ⟨v, e1, w⟩ := st.slot i x (get i x e)
    refine ⟨v, ?_, w⟩
    have hi : i < (vs.map some).length := (List.getElem?_eq_some_iff.mp e1).1
    unfold L2.start
    rw [List.getElem?_append_left hi]; exact e1
  · have hi : i < (ds.map some).length := (List.getElem?_eq_some_iff.mp e).1
    unfold startE
    rw [List.getElem?_append_left hi]; exact e
theorem backE_get {ds ds' : List D} (hl : ds'.length = ds.length) {i : Nat} {x : D} (e : (backE ds ds')[i]? = some (some x)) : ∃ d d', ds[i]? = some d ∧ ds'[i]? = some d' ∧ x = if own d then d' else d := by
  unfold backE at e
  rw [List.getElem?_zipWith] at e
  cases e1 : ds[i]? with
  | none => simp [e1] at e
  | some d =>
    cases e2 : ds'[i]? with
    | none => simp [e1, e2] at e
    | some d' =>
      simp [e1, e2] at e
      exact ⟨d, d', rfl, rfl, e.symm⟩
theorem backE_some {ds ds' : List D} {i : Nat} {d d' : D} (e1 : ds[i]? = some d) (e2 : ds'[i]? = some d') : (backE ds ds')[i]? = some (some (if own d then d' else d)) := by
  unfold backE
  rw [List.getElem?_zipWith, e1, e2]
/-- the arguments' slots behind the call -/
theorem sto_back {d : Df} {ds r : List D} {vs : List V} {σ' : L2.St} {ρ' : Ev} {w : List Nat} (st : StO G H S (vs.map some) (ds.map some) F) (hl : vs.length ≤ d.N.length) (hio : ownIn d.io 0 ds = true) (hw : ∀ j, j ∈ d.io → j ∉ w)
    {P : AP'} (ex : Ext (Pf F) S H P S' H') (st' : StO G H' S' σ' ρ' F') (sm : Same w (start d.N vs) σ') (ho : outL 0 ds ρ' = some r) :
    ∃ F'', StO G H' S' (vs.map some) (backE ds r) F'' ∧ ∀ x, Pf F'' x → Pf F' x := by
  have hlen : ds.length = vs.length := by have := st.len; simpa using this
  have hr := outL_len ho
  refine ⟨fun i => match ds[i]? with
    | some d => if own d then F' i else []
    | none => [], ⟨?_, fun i x e => ?_, fun i n => ?_, fun i j a hi hj => ?_, st'.wf⟩, fun x ⟨i, hi⟩ => ?_⟩
  · unfold backE; simp [hr, hlen]
  · obtain ⟨d0, d', e1, e2, rfl⟩ := backE_get hr e
    obtain ⟨v, e3, w0⟩ := st.slot i d0 (by rw [List.getElem?_map, e1]; rfl)
    refine ⟨v, e3, ?_⟩
    show Ow G H' S' (if own d0 then d' else d0) v (match ds[i]? with
      | some d => if own d then F' i else []
      | none => [])
    rw [e1]
    cases hown : own d0 with
    | false =>
      rw [if_neg Bool.false_ne_true]
      show Ow G H' S' d0 v (if own d0 = true then F' i else [])
      rw [hown, if_neg Bool.false_ne_true]
      exact .of hown ((w0.fz hown).2.mono (ex.mono st.sep))
    | true =>
      rw [if_pos rfl]
      show Ow G H' S' d' v (if own d0 = true then F' i else [])
      rw [hown, if_pos rfl]
      obtain ⟨d2, k1, k2⟩ := outL_get ho i d0 e1 hown
      rw [e2] at k1; cases k1
      rw [Nat.zero_add] at k2
      obtain ⟨v', e4, w4⟩ := st'.slot i d' k2
      have hin := ownIn_get hio i d0 e1 hown
      rw [Nat.zero_add] at hin
      have : σ'[i]? = some (some v) := by
        rw [sm.2 i (hw i hin)]
        have hi : i < (vs.map some).length := (List.getElem?_eq_some_iff.mp e3).1
        unfold L2.start
        rw [List.getElem?_append_left hi]; exact e3
      rw [this] at e4; cases e4
      exact w4
  · show (match ds[i]? with
      | some d => if own d then F' i else []
      | none => []) = []
    cases e1 : ds[i]? with
    | none => rfl
    | some d0 =>
      have hi : i < r.length := by have := (List.getElem?_eq_some_iff.mp e1).1; omega
      exact absurd (backE_some e1 (List.getElem?_eq_getElem hi)) (n _)
  · have key : ∀ i, a ∈ (match ds[i]? with
      | some d => if own d then F' i else []
      | none => []) → a ∈ F' i := by
      intro i h
      cases e1 : ds[i]? with
      | none => rw [e1] at h; cases h
      | some d0 =>
        rw [e1] at h
        simp only at h
        split at h
        · exact h
        · cases h
    exact st'.dis i j a (key i hi) (key j hj)
  · simp only at hi
    cases e1 : ds[i]? with
    | none => rw [e1] at hi; cases hi
    | some d0 =>
      rw [e1] at hi
      simp only at hi
      split at hi
      · exact ⟨i, hi⟩
      · cases hi
end
section
variable {P : Program} {w : World} {K : PySem.W.Frag} {mg : Str → Option Value} {base : Heap} {G : Gv}
theorem takes_cx {N : List Str} {qual : Str} {scope : Scope} {f : Addr} {cd : Value} {A : Around} {outer : List Env} {s : Shared} {H : Hp} {E : XK} : Takes (cxOf (L2.CX P w) P w K mg base N qual scope f cd A outer s H E) (fun c d _ H' => E c d H') := takes_of rfl rfl rfl rfl
theorem owns_cx {N : List Str} {qual : Str} {scope : Scope} {f : Addr} {cd : Value} {A : Around} {outer : List Env} {s : Shared} {H : Hp} {E : XK} : PassesOwn (model P w) (cxOf (L2.CX P w) P w K mg base N qual scope f cd A outer s H E).A (cxOf (L2.CX P w) P w K mg base N qual scope f cd A outer s H E).env (cxOf (L2.CX P w) P w K mg base N qual scope f cd A outer s H E).xe := passes_of rfl
/-- what a program gives its defs -/
structure Env1 (P : Program) (w : World) (K : PySem.W.Frag) (mg : Str → Option Value) (base : Heap) (G : Gv) (k : Nat) (Φ : Fns) : Prop where
  eK : K = G.K
  eM : mg = G.mg
  fn : ∀ f, f ∈ Φ.dom → ∃ a fd ps, G.mg f = some (.ref a) ∧ PySem.W.keepIn K (.ref a) = true ∧ FnOk P w K mg base (L2.CX P w) k a fd ps (spG G (Φ.fn f)) ∧ L2.Binds K fd ps []
  con : ∀ x d, Φ.con x = some d → own d = false ∧ ∃ v u, G.mg x = some u ∧ RelV v u ∧ ∀ H S, Fz G H S d v
  blt : ∀ x : String, x ∈ ["len", "tuple", "list", "int", "abs", "all", "any", "sum", "isinstance", "max", "min", "sorted", "str", "range", "zip", "enumerate", "bool", "set"] → G.mg (Str.ofString x) = none
theorem good_cx {N : List Str} {qual : Str} {scope : Scope} {f : Addr} {cd : Value} {A : Around} {outer : List Env} {s : Shared} {H : Hp} {E : XK} {k : Nat} {Φ : Fns} (e : Env1 P w K mg base G k Φ) (nd : N.Nodup) (hr : Room k (A.deeper (envOfC qual scope s.heap.objs.size f cd))) :
    Good (cxOf (L2.CX P w) P w K mg base N qual scope f cd A outer s H E) G (fun c d _ H' => E c d H') Φ where
  K := e.eK
  mg := e.eM
  calm := rfl
  nd := nd
  hh := hr.hd
  hu := by have h := hr.un; show (A.deeper (envOfC qual scope s.heap.objs.size f cd)).units + 200 < cLine; omega
  tk := takes_cx
  fn := fun g hg => by
    obtain ⟨a, fd, ps, h1, h2, h3, h4⟩ := e.fn g hg
    exact ⟨a, fd, ps, k, h1, h2, h3, hr, h4⟩
  con := e.con
  blt := e.blt
/-- THE RULE of a def -/
theorem def_ok0 {x qual : Str} {params : Arguments} {body : List Stmt} {scope : Scope} {dvs : List V} {kws : List (Str × V)} {f : Addr} {fd : FuncData} {ps : List Str} {k n : Nat} {Y : Rc} {d : Df} {ck : Ck}
    (F : FunD K x qual params body scope dvs kws f fd) (Sc : FnScope d.N ps scope) (hnp : d.np = ps.length) (hck : ck.N = d.N ∧ ck.sc = scope ∧ ck.fn = (fun _ => true) ∧ ∀ g, g ∈ ck.dom → g ∈ Y.Φ.dom) (hb : trB n ck body = some d.body) (hio : ∀ j, j ∈ d.io → j ∉ wrL d.body)
    (e : Env1 P w K mg base G k Y.Φ) : FnOk P w K mg base (L2.CX P w) (k + 1) f fd ps (spG G (evDef0 Y d)) := by
  have hpl : ps.length ≤ d.N.length := by have := congrArg List.length Sc.pre; rw [List.length_take] at this; omega
  refine F.ok Sc (fun vs H Q E h => ?_) (fun cdv A outer s H vs Q E hr h => ⟨tS G (fun c d _ H' => E c d H') (wrL d.body) (runs { Y with np := d.np } d.body), ?_, ?_⟩)
  · obtain ⟨S, ds, F, st, h⟩ := h
    have hlen : ds.length = vs.length := by have := st.len; simpa using this
    unfold evDef0 at h
    split at h
    · cases h
    all_goals (rename_i e1; split at e1 <;> first | (cases e1; done) | (rename_i hh; rw [← hlen, hh.1, hnp]))
  · exact (sndS (Y := { Y with np := d.np }) n).b ck _ _ _ _ (good_cx e Sc.nd hr) ⟨hck.1.symm, hck.2.1.symm, hck.2.2.1.symm, hck.2.2.2⟩ owns_cx hb
  · obtain ⟨S, ds, F, st, h⟩ := h
    have hlen : ds.length = vs.length := by have := st.len; simpa using this
    unfold evDef0 at h
    by_cases hh : ds.length = d.np ∧ ownIn d.io 0 ds = true
    · rw [if_pos hh] at h
      have hv : vs.length ≤ d.N.length := by omega
      refine ⟨S, startE d ds, F, sto_start st hv, ?_⟩
      cases er : runs { Y with np := d.np } d.body (startE d ds) with
      | none => rw [er] at h; exact h.elim
      | some o =>
        rw [er] at h
        cases o with
        | nx ρ =>
          intro σ' H' S' F' ex st' sm
          simp only at h
          cases eo : outL 0 ds ρ with
          | none => rw [eo] at h; exact h.elim
          | some r =>
            rw [eo] at h
            simp only [Option.map_some] at h
            obtain ⟨F'', st2, p2⟩ := sto_back st hv hh.2 hio ex st' sm eo
            exact h.2 .non H' S' F'' [] (ex.congr (fun _ z => z) fun x z => by rcases z with z | z; cases z; exact p2 x z) st2 ⟨rfl, rfl⟩ fun _ z => by cases z
        | rt v ρ =>
          intro u σ' H' S' F' T ex st' w dj sm
          simp only at h
          cases eo : outL 0 ds ρ with
          | none => rw [eo] at h; exact h.elim
          | some r =>
            rw [eo] at h
            simp only [Option.map_some] at h
            obtain ⟨F'', st2, p2⟩ := sto_back st hv hh.2 hio ex st' sm eo
            exact h.2 u H' S' F'' T (ex.congr (fun _ z => z) fun x z => by rcases z with z | z; exact .inl z; exact .inr (p2 x z)) st2 w fun x hx p => dj x hx (p2 x p)
        | er ee ρ =>
          intro c x σ' H' S' F' ex st' w sm
          simp only at h
          cases eo : outL 0 ds ρ with
          | none => rw [eo] at h; exact h.elim
          | some r =>
            rw [eo] at h
            simp only [Option.map_some] at h
            obtain ⟨F'', st2, p2⟩ := sto_back st hv hh.2 hio ex st' sm eo
            exact h.2 c x H' S' F'' (ex.congr (fun _ z => z) p2) st2 w
    · rw [if_neg hh] at h; exact h.elim
theorem sto_frz {H : Hp} {io : List Nat} {σ : L2.St} : ∀ (ds : List D) (pre : Ev) {S : AP'} {F : Fps}, StO G H S σ (pre ++ ds.map some) F → ∃ S' F', StO G H S' σ (pre ++ (frzIn io pre.length ds).map some) F' ∧ Ext (Pf F) S H (Pf F') S' H
  | [], pre, S, F, st => ⟨S, F, st, .refl⟩
  | d :: ds, pre, S, F, st => by
    have step : ∃ S1 F1, StO G H S1 σ ((pre ++ [some (if pre.length ∈ io then d else frz d)]) ++ ds.map some) F1 ∧ Ext (Pf F) S H (Pf F1) S1 H := by
      by_cases hi : pre.length ∈ io
      · rw [if_pos hi]
        exact ⟨S, F, by simpa using st, .refl⟩
      · rw [if_neg hi]
        have e : (pre ++ (d :: ds).map some)[pre.length]? = some (some d) := by simp
        refine ⟨_, _, ?_, Ext.freeze st pre.length⟩
        have := st.freeze e
        have es : (pre ++ (d :: ds).map some).set pre.length (some (frz d)) = (pre ++ [some (frz d)]) ++ ds.map some := by simp
        rw [es] at this
        exact this
    obtain ⟨S1, F1, st1, x1⟩ := step
    obtain ⟨S2, F2, st2, x2⟩ := sto_frz ds (pre ++ [some (if pre.length ∈ io then d else frz d)]) st1
    refine ⟨S2, F2, ?_, x1.trans x2⟩
    simpa [frzIn] using st2
theorem outL_pure : ∀ {ds : List D} {i : Nat} {ρ : Ev} {r : List D}, outL i ds ρ = some r → ∀ (j : Nat) (d : D), ds[j]? = some d → own d = false → r[j]? = some d
  | [], _, _, _, h, j, d, e, _ => by simp at e
  | d0 :: ds, i, ρ, r, h, j, d, e, ho => by
    simp only [outL] at h
    cases e' : outL (i + 1) ds ρ with
    | none => rw [e'] at h; cases h
    | some r' =>
      rw [e'] at h
      simp only at h
      cases j with
      | zero =>
        simp only [List.getElem?_cons_zero, Option.some.injEq] at e
        subst e
        rw [ho] at h
        cases h; rfl
      | succ j =>
        have k := outL_pure e' j d (by simpa using e) ho
        split at h
        · split at h
          · cases h; simpa using k
          · cases h
        · cases h; simpa using k
theorem back_frz {io : List Nat} {ds r : List D} {ρ : Ev} (h : outL 0 (frzIn io 0 ds) ρ = some r) : backE (frzIn io 0 ds) r = backE ds r := by
  have hl := outL_len h
  rw [frzIn_len] at hl
  apply List.ext_getElem?
  intro j
  unfold backE
  rw [List.getElem?_zipWith, List.getElem?_zipWith]
  cases e : ds[j]? with
  | none =>
    have : (frzIn io 0 ds)[j]? = none := by
      rw [List.getElem?_eq_none_iff] at e ⊢
      rw [frzIn_len]; exact e
    rw [this]
  | some d =>
    have eg := frzIn_get (io := io) (i := 0) e
    rw [eg, Nat.zero_add]
    cases er : r[j]? with
    | none => rfl
    | some d' =>
      by_cases hi : j ∈ io
      · rw [if_pos hi]
      · rw [if_neg hi]
        have hp := outL_pure h j (frz d) (by rw [eg, Nat.zero_add, if_neg hi]) frz_not
        rw [er] at hp
        cases hp
        simp only [frz_not, Bool.false_eq_true, if_false]
        cases ho : own d with
        | true => simp
        | false => simp [frz_eq ho]
theorem def_ok {x qual : Str} {params : Arguments} {body : List Stmt} {scope : Scope} {dvs : List V} {kws : List (Str × V)} {f : Addr} {fd : FuncData} {ps : List Str} {k n : Nat} {Y : Rc} {d : Df} {ck : Ck}
    (F : FunD K x qual params body scope dvs kws f fd) (Sc : FnScope d.N ps scope) (hnp : d.np = ps.length) (hck : ck.N = d.N ∧ ck.sc = scope ∧ ck.fn = (fun _ => true) ∧ ∀ g, g ∈ ck.dom → g ∈ Y.Φ.dom) (hb : trB n ck body = some d.body) (hio : ∀ j, j ∈ d.io → j ∉ wrL d.body)
    (e : Env1 P w K mg base G k Y.Φ) : FnOk P w K mg base (L2.CX P w) (k + 1) f fd ps (spG G (evDef Y d)) := by
  refine (def_ok0 F Sc hnp hck hb hio e).imp fun vs H Q E ⟨S, ds, F, st, h⟩ => ?_
  obtain ⟨S1, F1, st1, x1⟩ := sto_frz (io := d.io) ds [] st
  have st1 : StO G H S1 (vs.map some) ((frzIn d.io 0 ds).map some) F1 := st1
  refine ⟨S1, frzIn d.io 0 ds, F1, st1, ?_⟩
  have h : (match evDef0 Y d (frzIn d.io 0 ds) with
    | none => False
    | some (.ok v, ds') => ds'.length = ds.length ∧ ∀ u H' S' F' T, Ext (Pf F) S H (fun x => x ∈ T ∨ Pf F' x) S' H' → StO G H' S' (vs.map some) (backE ds ds') F' → Ow G H' S' v u T → (∀ x, x ∈ T → ¬ Pf F' x) → Q u H'
    | some (.error e, ds') => ds'.length = ds.length ∧ ∀ c x H' S' F', Ext (Pf F) S H (Pf F') S' H' → StO G H' S' (vs.map some) (backE ds ds') F' → ErR G e c x H' → E c x H') := h
  have out : ∀ {z r}, evDef0 Y d (frzIn d.io 0 ds) = some (z, r) → backE (frzIn d.io 0 ds) r = backE ds r := by
    intro z r er
    unfold evDef0 at er
    split at er
    · split at er
      · obtain ⟨r', e1, e2⟩ := Option.map_eq_some_iff.mp er
        cases e2
        exact back_frz e1
      · obtain ⟨r', e1, e2⟩ := Option.map_eq_some_iff.mp er
        cases e2
        exact back_frz e1
      · obtain ⟨r', e1, e2⟩ := Option.map_eq_some_iff.mp er
        cases e2
        exact back_frz e1
      · cases er
    · cases er
  cases er : evDef0 Y d (frzIn d.io 0 ds) with
  | none => rw [er] at h; exact h.elim
  | some p =>
    obtain ⟨z, r⟩ := p
    have eb := out er
    rw [er] at h
    cases z with
    | ok v =>
      refine ⟨by rw [frzIn_len]; exact h.1, fun u H' S' F' T ex st' w dj => h.2 u H' S' F' T (x1.trans ex) (eb ▸ st') w dj⟩
    | error ee =>
      refine ⟨by rw [frzIn_len]; exact h.1, fun c xx H' S' F' ex st' w => h.2 c xx H' S' F' (x1.trans ex) (eb ▸ st') w⟩
end
end VP

set_option Elab.async false
set_option linter.all false
set_option maxRecDepth 100000
set_option maxHeartbeats 4000000
/-! A program's table, its levels. -/
namespace VP
open PySem PySem.Spec PyProof.Rows L2
structure Tb where
  dom : List Str
  df : Str → Option Df
  con : Str → Option D
  fu : Nat
  exc : Str → List D → Option (Option D)
def sem (T : Tb) : Nat → Str → Sem1
  | 0, _ => fun _ => none
  | n + 1, f => match T.df f with
    | some d => evDef ⟨⟨T.dom, sem T n, T.con⟩, T.fu, 0, T.exc⟩ d
    | none => fun _ => none
def Tb.Φ (T : Tb) (n : Nat) : Fns := ⟨T.dom, sem T n, T.con⟩
def Tb.Y (T : Tb) (n : Nat) : Rc := ⟨T.Φ n, T.fu, 0, T.exc⟩
/-- where a def stands -/
structure Dd where
  name : Str
  ps : List Str
  N : List Str
  io : List Nat
  hints : List (Nat × Nat)
  st : Stmt
def Dd.ck (dom : List Str) (d : Dd) : Ck := ⟨d.N, defScope d.st, fun _ => true, dom, fun p => decide ((p.line, p.col) ∈ d.hints)⟩
def FU : Nat := 60
def Dd.df (dom : List Str) (d : Dd) : Df := ⟨d.N, d.ps.length, d.io, (trB FU (d.ck dom) (defBody d.st)).getD []⟩
def scB (N ps : List Str) (sc : Scope) : Bool := (match sc.kind with | .function => true | _ => false) && !sc.isCoroutine && !sc.isGenerator && decide N.Nodup && decide (N.take ps.length = ps) &&
  ps.all (fun x => decide (sc.names.lookup x = some .local) || decide (sc.names.lookup x = some .cell)) && sc.names.all (fun y => !(y.2 == .free))
theorem scB_ok {N ps : List Str} {sc : Scope} (h : scB N ps sc = true) : FnScope N ps sc := by
  unfold scB at h
  simp only [Bool.and_eq_true, Bool.not_eq_true', decide_eq_true_eq, List.all_eq_true, Bool.or_eq_true] at h
  obtain ⟨⟨⟨⟨⟨⟨h1, h2⟩, h3⟩, h4⟩, h5⟩, h6⟩, h7⟩ := h
  refine ⟨?_, h2, h3, h4, h5, h6, fun y hy e => ?_⟩
  · split at h1
    · assumption
    · cases h1
  · have := h7 y hy
    rw [e] at this
    simp at this
def ddOk (dom : List Str) (d : Dd) : Bool := scB d.N d.ps (defScope d.st) && (trB FU (d.ck dom) (defBody d.st)).isSome && d.io.all (fun j => decide (j ∉ wrL (d.df dom).body))
def tbOf (ds : List Dd) (cs : List (Str × D)) (fu : Nat) : Tb where
  dom := ds.map (·.name)
  df := fun f => (ds.find? fun d => decide (d.name = f)).map fun d => d.df (ds.map (·.name))
  con := fun x => if x ∈ ds.map (·.name) then some (.fn x) else cs.lookup x
  fu := fu
  exc := fun _ _ => none
structure DdIn (K : PySem.W.Frag) (G : Gv) (d : Dd) : Prop where
  ex : ∃ a fd qual dvs kws, G.mg d.name = some (.ref a) ∧ FunD K d.name qual (defArgs d.st) (defBody d.st) (defScope d.st) dvs kws a fd ∧ L2.Binds K fd d.ps []
structure PgIn (K : PySem.W.Frag) (G : Gv) (ds : List Dd) (cs : List (Str × D)) : Prop where
  df : ∀ d ∈ ds, DdIn K G d
  con : ∀ p ∈ cs, own p.2 = false ∧ ∃ v u, G.mg p.1 = some u ∧ RelV v u ∧ ∀ H S, Fz G H S p.2 v
  blt : ∀ x : String, x ∈ ["len", "tuple", "list", "int", "abs", "all", "any", "sum", "isinstance", "max", "min", "sorted", "str", "range", "zip", "enumerate", "bool", "set"] → G.mg (Str.ofString x) = none
theorem lookup_mem {α β : Type} [DecidableEq α] {x : α} {d : β} : ∀ {l : List (α × β)}, l.lookup x = some d → (x, d) ∈ l
  | [], h => by cases h
  | (y, e) :: l, h => by
    rw [List.lookup_cons] at h
    split at h
    · rename_i hb
      have : x = y := by simpa using hb
      cases h
      rw [this]; exact List.mem_cons_self
    · exact List.mem_cons_of_mem _ (lookup_mem h)
theorem levels {P : Program} {w : World} {K : PySem.W.Frag} {mg : Str → Option Value} {base : Heap} {G : Gv} {ds : List Dd} {cs : List (Str × D)} {fu : Nat} (hK : K = G.K) (hm : mg = G.mg) (pg : PgIn K G ds cs) (ok : ds.all (ddOk (ds.map (·.name))) = true) :
    ∀ n, Env1 P w K mg base G n ((tbOf ds cs fu).Φ n) := by
  intro n
  induction n with
  | zero =>
    refine ⟨hK, hm, fun f hf => ?_, fun x d e => ?_, pg.blt⟩
    · obtain ⟨d, hd, rfl⟩ := List.mem_map.mp hf
      obtain ⟨a, fd, qual, dvs, kws, h1, h2, h3⟩ := (pg.df d hd).ex
      exact ⟨a, fd, d.ps, h1, h2.kp, ⟨fun vs H Q E ⟨_, _, _, _, z⟩ => z.elim, fun _ _ _ _ _ _ _ _ _ _ _ _ _ ⟨_, _, _, _, z⟩ => z.elim⟩, h3⟩
    · simp only [Tb.Φ, tbOf] at e
      split at e
      · rename_i hx
        cases e
        obtain ⟨d, hd, rfl⟩ := List.mem_map.mp hx
        obtain ⟨a, fd, qual, dvs, kws, h1, h2, h3⟩ := (pg.df d hd).ex
        exact ⟨rfl, .ref a, .ref a, h1, rfl, fun H S => ⟨a, h1, rfl⟩⟩
      · exact pg.con (x, d) (lookup_mem e)
  | succ n ih =>
    refine ⟨hK, hm, fun f hf => ?_, ih.con, pg.blt⟩
    have hf0 := hf
    obtain ⟨d0, hd0, e0⟩ := List.mem_map.mp hf
    cases ef : ds.find? (fun d => decide (d.name = f)) with
    | none =>
      have := List.find?_eq_none.mp ef d0 hd0
      simp [e0] at this
    | some d =>
      have hd := List.mem_of_find?_eq_some ef
      have hn : d.name = f := by have := List.find?_some ef; simpa using this
      obtain ⟨a, fd, qual, dvs, kws, h1, h2, h3⟩ := (pg.df d hd).ex
      have okd := List.all_eq_true.mp ok d hd
      unfold ddOk at okd
      simp only [Bool.and_eq_true, List.all_eq_true, decide_eq_true_eq] at okd
      obtain ⟨⟨o1, o2⟩, o3⟩ := okd
      have eb : trB FU (d.ck (ds.map (·.name))) (defBody d.st) = some (d.df (ds.map (·.name))).body := by
        obtain ⟨b, q⟩ := Option.isSome_iff_exists.mp o2
        show trB FU (d.ck (ds.map (·.name))) (defBody d.st) = some ((trB FU (d.ck (ds.map (·.name))) (defBody d.st)).getD [])
        rw [q]; rfl
      refine ⟨a, fd, d.ps, by rw [← hn]; exact h1, h2.kp, ?_, h3⟩
      have key := def_ok (P := P) (w := w) (mg := mg) (base := base) (Y := (tbOf ds cs fu).Y n) (d := d.df (ds.map fun x : Dd => x.name)) (ck := d.ck (ds.map fun x : Dd => x.name)) h2 (scB_ok o1) rfl ⟨rfl, rfl, rfl, fun g hg => (show g ∈ ds.map (fun x : Dd => x.name) from hg)⟩ eb o3 ih
      have es : ((tbOf ds cs fu).Φ (n + 1)).fn f = evDef ((tbOf ds cs fu).Y n) (d.df (ds.map (·.name))) := by
        show sem (tbOf ds cs fu) (n + 1) f = _
        simp only [sem]
        have : (tbOf ds cs fu).df f = some (d.df (ds.map (·.name))) := by
          show (ds.find? fun d => decide (d.name = f)).map (fun d => d.df (ds.map (·.name))) = _
          rw [ef]; rfl
        rw [this]
        rfl
      rw [es]
      exact key
end VP

set_option Elab.async false
set_option linter.all false
set_option maxRecDepth 100000
set_option maxHeartbeats 4000000
/-! What the top leaves: the table's defs. A law told by its table. -/
namespace VP
open PySem PySem.Spec PyProof.Rows L2
def frees : List String := ["len", "tuple", "list", "int", "abs", "all", "any", "sum", "isinstance", "max", "min", "sorted", "str", "range", "zip", "enumerate", "bool", "set"]
def Dd.hd (d : Dd) : He.DefD := ⟨(d.name, none), d.name, d.name, defArgs d.st, defBody d.st, defScope d.st, [], []⟩
def fnOf (ds : List Dd) : List He.DefD := ds.map Dd.hd
def faOf (ds : List Dd) : List He.Fa := (ds.map fun d => He.Fa.glo d.name) ++ frees.map fun x => He.Fa.free (Str.ofString x)
/-- no list among the top's objects -/
def noList (K : PySem.W.Frag) : Bool := K.all fun p => !(match p.2.cls with
  | .type c => decide (c = "list")
  | _ => false)
theorem noList_ok {K : PySem.W.Frag} (h : noList K = true) {H : Hp} {a : Addr} {xs : List V} (q : SqL K H a xs) : Rd H a (.lst xs) := by
  rcases q with q | ⟨o, its, n, hk, hc, _⟩
  · exact q
  · have hm := lookup_mem hk
    have := List.all_eq_true.mp h (a, o) hm
    rw [hc] at this
    simp at this
/-- how a def's arguments bind -/
def BindF (d : Dd) : Prop := ∀ (kV doc pm : Value) (an : Option Addr) (cdv ct : Value) (us : List Value), us.length = d.ps.length → bindArgs (PySem.W.fnOf d.name d.name (defArgs d.st) (defBody d.st) (defScope d.st) .none kV doc pm an cdv ct) ⟨us, []⟩ = pure (d.ps.zip us)
/-- the top's facts make the table -/
theorem pg_of {K : PySem.W.Frag} {h : Heap} {mg : Str → Option Value} {ds : List Dd} (X : K.In h) (Gn : h.Ns mainGlobals mg) (c : He.SaysD (faOf ds) (fnOf ds) K) (hb : ∀ d ∈ ds, BindF d) : PgIn K ⟨K, mg⟩ ds [] where
  df := fun d hd => by
    obtain ⟨fd, F⟩ := c.defs (d := d.hd) (List.mem_map.mpr ⟨d, hd, rfl⟩)
    have g := He.glo_ok X Gn (c.facts (f := .glo d.name) (List.mem_append_left _ (List.mem_map.mpr ⟨d, hd, rfl⟩)))
    exact ⟨_, fd, d.name, [], [], g, F, FunD.bindsN F (hb d hd)⟩
  con := fun p hp => by cases hp
  blt := fun x hx => He.free_ok X Gn (c.facts (f := .free (Str.ofString x)) (List.mem_append_right _ (List.mem_map.mpr ⟨x, hx, rfl⟩)))
theorem level_at {P : Program} {w : World} {K : PySem.W.Frag} {mg : Str → Option Value} {base : Heap} {G : Gv} {ds : List Dd} {cs : List (Str × D)} {fu : Nat} {d : Dd} {a : Addr} {fd : FuncData} {qual : Str} {dvs : List V} {kws : List (Str × V)} (hK : K = G.K) (hm : mg = G.mg) (pg : PgIn K G ds cs) (ok : ds.all (ddOk (ds.map (·.name))) = true)
    (hf : ds.find? (fun e => decide (e.name = d.name)) = some d) (F : FunD K d.name qual (defArgs d.st) (defBody d.st) (defScope d.st) dvs kws a fd) : ∀ n, FnOk P w K mg base (L2.CX P w) n a fd d.ps (spG G (sem (tbOf ds cs fu) n d.name))
  | 0 => ⟨fun vs H Q E ⟨_, _, _, _, z⟩ => z.elim, fun _ _ _ _ _ _ _ _ _ _ _ _ _ ⟨_, _, _, _, z⟩ => z.elim⟩
  | n + 1 => by
    have hd := List.mem_of_find?_eq_some hf
    have okd := List.all_eq_true.mp ok d hd
    unfold ddOk at okd
    simp only [Bool.and_eq_true, List.all_eq_true, decide_eq_true_eq] at okd
    obtain ⟨⟨o1, o2⟩, o3⟩ := okd
    have eb : trB FU (d.ck (ds.map (·.name))) (defBody d.st) = some (d.df (ds.map (·.name))).body := by
      obtain ⟨b, q⟩ := Option.isSome_iff_exists.mp o2
      show trB FU (d.ck (ds.map (·.name))) (defBody d.st) = some ((trB FU (d.ck (ds.map (·.name))) (defBody d.st)).getD [])
      rw [q]; rfl
    have key := def_ok (P := P) (w := w) (mg := mg) (base := base) (Y := (tbOf ds cs fu).Y n) (d := d.df (ds.map fun x : Dd => x.name)) (ck := d.ck (ds.map fun x : Dd => x.name)) F (scB_ok o1) rfl ⟨rfl, rfl, rfl, fun g hg => (show g ∈ ds.map (fun x : Dd => x.name) from hg)⟩ eb o3 (levels hK hm pg ok n)
    have es : sem (tbOf ds cs fu) (n + 1) d.name = evDef ((tbOf ds cs fu).Y n) (d.df (ds.map (·.name))) := by
      simp only [sem]
      have : (tbOf ds cs fu).df d.name = some (d.df (ds.map (·.name))) := by
        show (ds.find? fun e => decide (e.name = d.name)).map (fun d => d.df (ds.map (·.name))) = _
        rw [hf]; rfl
      rw [this]
      rfl
    rw [es]
    exact key
theorem law_sp {T : Tb} {n : Nat} {x : Str} {G : Gv} {H : Hp} {a : Addr} {ns : List Int} {d' : D} (hr : Rd H a (.lst (ns.map V.int))) (e : sem T n x [.lst false (ns.map D.int)] = some (.ok (.bl true), [d'])) :
    spG G (sem T n x) [.ref a] H (fun v _ => v = .bl true) fun _ _ _ => False := by
  refine ⟨fun x => x = a, [.lst false (ns.map D.int)], fun _ => [], ⟨rfl, fun i d q => ?_, fun _ _ => rfl, fun _ _ _ z => (by cases z), fun x hx => ?_⟩, ?_⟩
  · cases i with
    | zero =>
      simp at q
      subst q
      exact ⟨.ref a, rfl, rfl, rfl, a, _, rfl, ⟨rfl, hr⟩, FzL.ints ns⟩
    | succ i => simp at q
  · rw [hx]
    rcases hr with hr | ⟨o, hr⟩ <;> exact ⟨_, hr⟩
  · rw [e]
    exact ⟨rfl, fun v H' S' F' T _ _ w _ => (w.fz rfl).2⟩
theorem walk_V {l : PySem.W.OpenLaw} {n k : Nat} {q : Program} {loose : List Str} {XP : (Str → Option Value) → Heap → Prop} {YP : World → Heap → Prop} {d : DefRec} {x : Str}
    (hn : l.most = some n) (hn2 : n ≤ sizeLine) (hdf : d.params.defaults = []) (hr : Room k callerA)
    (F : ∀ (w : World) (mg : Str → Option Value) (fa : Addr) (h : Heap), YP w h → h.Ns mainGlobals mg → mg d.name = some (.ref fa) →
      ∃ (K : PySem.W.Frag) (fd : FuncData) (sp : Sp), K.In h ∧ (∀ (s : Shared) (u : Value), BindsTo s fd ⟨[u], []⟩ [(x, u)]) ∧
        (∀ (H : Hp) (a : Addr) (ns : List Int), ns.length ≤ n → (∀ z ∈ ns, Builtin.Int.intBits z ≤ 1048576) → SqL K H a (ns.map V.int) → sp [.ref a] H (fun v _ => v = .bl true) fun _ _ _ => False) ∧
        ∀ base : Heap, K.In base → base.Ns mainGlobals mg → FnOk l.prog w K mg base (L2.CX l.prog w) k fa fd [x] sp) :
    PySem.W.WalkO q loose XP YP l.row.toRowW d [] (fun f vs => PySem.call f vs) := by
  refine Att.attach_callB hn hdf fun w s₀ s₁ mg mb fa o pm cd doc a vs ns G Y ho hd hcd hmg hobj hints hlen hbits hg => ?_
  obtain ⟨K, fd, sp, KX, hb, hsp, hF⟩ := F w mg fa _ Y G.T.g hmg
  refine law_call KX G.T.g G.T.b G.T.builtins G.T.nolimit hg hobj hints (Nat.le_trans hlen hn2) hr hF hb (fun H _ hS => hsp H a ns hlen hbits hS) fun H e s' h => ?_
  obtain ⟨_, _, _, _, _, _, _, _, _, _, _, _, z⟩ := h
  exact z
/-- THE LAW: its table at some level tells true at each script -/
theorem law_V {l : PySem.W.OpenLaw} {n k m : Nat} {q : Program} {loose : List Str} {XP : (Str → Option Value) → Heap → Prop} {d : DefRec} {ds : List Dd} {dl : Dd} {fu : Nat}
    (hn : l.most = some n) (hn2 : n ≤ sizeLine) (hdf : d.params.defaults = []) (hr : Room k callerA) (hname : d.name = dl.name) (hdl : dl ∈ ds) (hfind : ds.find? (fun d => decide (d.name = dl.name)) = some dl) (hps : dl.ps = [("script" : Str)]) (hb : ∀ d ∈ ds, BindF d) (ok : ds.all (ddOk (ds.map (·.name))) = true)
    (hlaw : ∀ ns : List Int, ns.length ≤ n → (∀ z ∈ ns, Builtin.Int.intBits z ≤ 1048576) → ∃ d', sem (tbOf ds [] fu) k dl.name [.lst false (ns.map D.int)] = some (.ok (.bl true), [d'])) :
    PySem.W.WalkO q loose XP (He.hookX m (faOf ds) (fnOf ds) [] [] noList).says l.row.toRowW d [] (fun f vs => PySem.call f vs) := by
  refine walk_V (x := "script") hn hn2 hdf hr fun w mg fa h Y Gn hmg => ?_
  obtain ⟨K, KX, c⟩ := Y
  have pg := pg_of KX Gn c.t.d hb
  obtain ⟨fd, F⟩ := c.t.d.defs (d := dl.hd) (List.mem_map.mpr ⟨dl, hdl, rfl⟩)
  have g := He.glo_ok KX Gn (c.t.d.facts (f := .glo dl.name) (List.mem_append_left _ (List.mem_map.mpr ⟨dl, hdl, rfl⟩)))
  rw [hname, g] at hmg
  cases hmg
  refine ⟨K, fd, spG ⟨K, mg⟩ (sem (tbOf ds [] fu) k dl.name), KX, fun s u => ?_, fun H a ns hl hbits hS => ?_, fun base _ _ => ?_⟩
  · have := FunD.bindsA (ps := dl.ps) F (hb dl hdl) s [u] (by rw [hps]; rfl)
    rw [hps] at this
    exact this
  · obtain ⟨d', e⟩ := hlaw ns hl hbits
    exact law_sp (noList_ok c.more hS) e
  · have := level_at (P := l.prog) (w := w) (base := base) (fu := fu) (G := ⟨K, mg⟩) rfl rfl pg ok hfind F k
    rw [hps] at this
    exact this
end VP

set_option Elab.async false
set_option linter.all false
set_option maxRecDepth 100000
set_option maxHeartbeats 1000000
/-! Reckoning with the evaluator. -/
namespace VP
open PySem
theorem sem_succ {T : Tb} {n : Nat} {f : Str} {d : Df} (h : T.df f = some d) : sem T (n + 1) f = evDef (T.Y n) d := by
  simp only [sem, h]; rfl
theorem restore_same {ρ0 ρ : Ev} {vs : List Nat} (h : blank ρ vs = blank ρ0 vs) : restore ρ0 ρ vs = ρ0 := by
  have hl : ρ0.length = ρ.length := by have := congrArg List.length h; rw [blank_len, blank_len] at this; exact this.symm
  apply List.ext_getElem?
  intro j
  rw [restore_get _ _ hl]
  split
  · rfl
  · rename_i hn
    have := congrArg (fun l => l[j]?) h
    simp only [blank_get, if_neg hn] at this
    exact this
/-- a comprehension whose items leave the frame as it was -/
theorem compL_pure {t : Tg} {vs : List Nat} {stp : Ev → R (List D)} {f : D → List D} {ρ0 : Ev} : ∀ (xs : List D) (ρ : Ev), blank ρ vs = blank ρ0 vs →
    (∀ x ∈ xs, ∀ ρ, blank ρ vs = blank ρ0 vs → ∃ ρ', stepOf t vs stp x ρ = some (.ok (f x) ρ') ∧ blank ρ' vs = blank ρ0 vs) → ∃ ρ', compL (stepOf t vs stp) xs ρ = some (.ok (xs.flatMap f) ρ') ∧ blank ρ' vs = blank ρ0 vs
  | [], ρ, h, _ => ⟨ρ, rfl, h⟩
  | x :: xs, ρ, h, k => by
    obtain ⟨ρ1, e1, h1⟩ := k x (by simp) ρ h
    obtain ⟨ρ2, e2, h2⟩ := compL_pure xs ρ1 h1 fun y hy => k y (by simp [hy])
    exact ⟨ρ2, by simp only [compL, e1, e2, bnd, ret, List.flatMap_cons], h2⟩
theorem comp_pure {Φ : Fns} {e s c : E} {t : Tg} {w : List (Str × Nat)} {ρ ρ1 : Ev} {xs : List D} {hs : List (Nat × D)} {f : D → List D} (hi : itr Φ s ρ = some (.ok (xs, hs) ρ1)) (hl : (xs.flatMap f).length ≤ LIM)
    (k : ∀ x ∈ xs, ∀ ρ, blank ρ (w.map (·.2)) = blank ρ1 (w.map (·.2)) → ∃ ρ', stepOf t (w.map (·.2)) (elemOf (tst Φ c) (op Φ e)) x ρ = some (.ok (f x) ρ') ∧ blank ρ' (w.map (·.2)) = blank ρ1 (w.map (·.2))) :
    op Φ (.comp e t s c w) ρ = some (.ok (.tmp (.lst true (xs.flatMap f))) (putH hs ρ1)) := by
  obtain ⟨ρ2, e2, h2⟩ := compL_pure (t := t) (stp := elemOf (tst Φ c) (op Φ e)) (f := f) (ρ0 := ρ1) xs (blank ρ1 (w.map (·.2))) (blank_blank _ _) k
  simp only [op, hi, bnd_ok, e2, noEr, if_pos hl, restore_same h2, ret]
theorem blank_set {ρ : Ev} {i : Nat} {x : Option D} : blank (ρ.set i x) [i] = blank ρ [i] := by simp [blank]
theorem blank_put {ρ : Ev} {i : Nat} {x : Option D} : (blank ρ [i]).set i x = ρ.set i x := by simp [blank]
/-- .. over one name -/
theorem comp_nm {Φ : Fns} {e s c : E} {i : Nat} {nm : Str} {ρ ρ1 : Ev} {xs : List D} {hs : List (Nat × D)} {f : D → List D} (hi : itr Φ s ρ = some (.ok (xs, hs) ρ1)) (hlt : i < ρ1.length) (hl : (xs.flatMap f).length ≤ LIM)
    (k : ∀ x ∈ xs, elemOf (tst Φ c) (op Φ e) (ρ1.set i (some x)) = some (.ok (f x) (ρ1.set i (some x)))) : op Φ (.comp e (.nm i) s c [(nm, i)]) ρ = some (.ok (.tmp (.lst true (xs.flatMap f))) (putH hs ρ1)) := by
  refine comp_pure hi hl fun x hx ρ' hb => ⟨ρ1.set i (some x), ?_, blank_set⟩
  have hb' : blank ρ' [i] = blank ρ1 [i] := hb
  simp only [stepOf, List.map_cons, List.map_nil, hb', asg, blank_len, hlt, if_true, blank_put]
  exact k x hx
theorem elem_map {Φ : Fns} {e : E} {ρ : Ev} {d : D} (h : op Φ e ρ = some (.ok (.tmp d) ρ)) : elemOf (tst Φ (.tr (.bl true))) (op Φ e) ρ = some (.ok [frz d] ρ) := by
  simp only [elemOf, tst, op, bnd, ret, res, trD, lft, if_true, h, val]
theorem elem_var {Φ : Fns} {i : Nat} {ρ : Ev} {d : D} (h : ρ[i]? = some (some d)) (ho : own d = false) : elemOf (tst Φ (.tr (.bl true))) (op Φ (.var i)) ρ = some (.ok [d] ρ) := by
  simp only [elemOf, tst, op, bnd, ret, res, trD, lft, if_true, h, val, frz_eq ho]
  rw [set_same h]
theorem elem_test {Φ : Fns} {i : Nat} {c : E} {ρ : Ev} {d : D} {k : Bool} (hc : tst Φ c ρ = some (.ok k ρ)) (h : ρ[i]? = some (some d)) (ho : own d = false) : elemOf (tst Φ c) (op Φ (.var i)) ρ = some (.ok (if k then [d] else []) ρ) := by
  cases k with
  | false => simp [elemOf, hc, bnd, ret]
  | true => simp [elemOf, hc, op, bnd, ret, h, val, frz_eq ho, set_same h]
theorem elem_if {Φ : Fns} {e c : E} {ρ : Ev} {d : D} {k : Bool} (hc : tst Φ c ρ = some (.ok k ρ)) (h : k = true → op Φ e ρ = some (.ok (.tmp d) ρ)) : elemOf (tst Φ c) (op Φ e) ρ = some (.ok (if k then [frz d] else []) ρ) := by
  cases k with
  | false => simp [elemOf, hc, bnd, ret]
  | true => simp [elemOf, hc, bnd, ret, h rfl, val]
theorem flat_one {α β : Type} (xs : List α) (g : α → β) : xs.flatMap (fun x => [g x]) = xs.map g := by
  induction xs with
  | nil => rfl
  | cons x xs ih => simp [List.flatMap_cons, ih]
theorem comp_map {Φ : Fns} {e s : E} {i : Nat} {nm : Str} {ρ ρ1 : Ev} {xs : List D} {hs : List (Nat × D)} {g : D → D} (hi : itr Φ s ρ = some (.ok (xs, hs) ρ1)) (hlt : i < ρ1.length) (hl : xs.length ≤ LIM)
    (k : ∀ x ∈ xs, op Φ e (ρ1.set i (some x)) = some (.ok (.tmp (g x)) (ρ1.set i (some x)))) : op Φ (.comp e (.nm i) s (.tr (.bl true)) [(nm, i)]) ρ = some (.ok (.tmp (.lst true (xs.map fun x => frz (g x)))) (putH hs ρ1)) := by
  rw [← flat_one]
  exact comp_nm hi hlt (by rw [flat_one, List.length_map]; exact hl) fun x hx => elem_map (k x hx)
/-- arguments none of which is one's own -/
theorem ownLocs_nil : ∀ {os : List Opd} {ds : List D}, ds.all (fun d => !own d) = true → ownLocs os ds = []
  | [], [], _ => rfl
  | [], _ :: _, _ => rfl
  | .loc i :: os, d :: ds, h => by
    simp only [List.all_cons, Bool.and_eq_true, Bool.not_eq_true'] at h
    simp only [ownLocs, h.1, Bool.false_eq_true, if_false]
    exact ownLocs_nil h.2
  | .loc i :: os, [], _ => rfl
  | .tmp _ :: os, d :: ds, h => by
    simp only [List.all_cons, Bool.and_eq_true] at h
    simp only [ownLocs]
    exact ownLocs_nil h.2
  | .tmp _ :: os, [], _ => rfl
theorem putBack_nil : ∀ {os : List Opd} {ds ds' : List D} {ρ : Ev}, ds.all (fun d => !own d) = true → putBack os ds ds' ρ = ρ
  | [], _, _, _, _ => by simp [putBack]
  | .loc i :: os, d :: ds, d' :: ds', ρ, h => by
    simp only [List.all_cons, Bool.and_eq_true, Bool.not_eq_true'] at h
    simp only [putBack, h.1, Bool.false_eq_true, if_false]
    exact putBack_nil h.2
  | .tmp _ :: os, d :: ds, d' :: ds', ρ, h => by
    simp only [List.all_cons, Bool.and_eq_true] at h
    simp only [putBack]
    exact putBack_nil h.2
  | .loc _ :: _, [], _, _, _ => by simp [putBack]
  | .tmp _ :: _, [], _, _, _ => by simp [putBack]
  | .loc _ :: _, _ :: _, [], _, _ => by simp [putBack]
  | .tmp _ :: _, _ :: _, [], _, _ => by simp [putBack]
theorem callF_ok {g : Sem1} {os : List Opd} {ρ : Ev} {ds : List D} {d : D} (hr : resL ρ os = some ds) (hn : ds.all (fun d => !own d) = true) (hg : g ds = some (.ok d, ds)) : callF g os ρ = some (.ok (.tmp d) ρ) := by
  simp only [callF, hr, ownLocs_nil hn, hg, List.nodup_nil, if_true, blank, putBack_nil hn]
theorem call_ok1 {Φ : Fns} {f : Str} {es : List E} {ρ ρ' : Ev} {os : List Opd} {ds : List D} {d : D} (ho : ops Φ es ρ = some (.ok os ρ')) (hr : resL ρ' os = some ds) (hn : ds.all (fun d => !own d) = true) (hg : Φ.fn f ds = some (.ok d, ds)) : op Φ (.call f es) ρ = some (.ok (.tmp d) ρ') := by
  simp only [op, ho, bnd_ok]
  exact callF_ok hr hn hg
/-! one row for each term, comprehensions and calls left as they are -/
section
variable {Φ : Fns} {ρ : Ev} {a b c x y z : E} {es : List E} {i : Nat}
theorem op_var : op Φ (.var i) ρ = (match ρ[i]? with
  | some (some _) => ret (.loc i) ρ
  | _ => none) := by first | rfl | (simp only [op]; rfl)
theorem op_non : op Φ .non ρ = ret (.tmp .non) ρ := by first | rfl | (simp only [op]; rfl)
theorem op_bl {k : Bool} : op Φ (.bl k) ρ = ret (.tmp (.bl k)) ρ := by first | rfl | (simp only [op]; rfl)
theorem op_int {k : Int} : op Φ (.int k) ρ = ret (.tmp (.int k)) ρ := by first | rfl | (simp only [op]; rfl)
theorem op_str {k : Str} : op Φ (.str k) ρ = ret (.tmp (.str k)) ρ := by first | rfl | (simp only [op]; rfl)
theorem op_ty {k : String} : op Φ (.ty k) ρ = ret (.tmp (.ty k)) ρ := by first | rfl | (simp only [op]; rfl)
theorem op_tup : op Φ (.tup es) ρ = bnd (ops Φ es ρ) fun os ρ => bnd (valL os ρ) fun ds ρ => if ds.length ≤ LIM then ret (.tmp (.tup ds)) ρ else none := by first | rfl | (simp only [op]; rfl)
theorem op_lst : op Φ (.lst es) ρ = bnd (ops Φ es ρ) fun os ρ => bnd (valL os ρ) fun ds ρ => if ds.length ≤ LIM then ret (.tmp (.lst true ds)) ρ else none := by first | rfl | (simp only [op]; rfl)
theorem op_bin {o : Bo} : op Φ (.bin o a b) ρ = bnd (op Φ a ρ) fun x ρ => bnd (op Φ b ρ) fun y ρ => match res ρ x, res ρ y with
    | some dx, some dy => lft ((binD o dx dy).map .tmp) ρ
    | _, _ => none := by first | rfl | (simp only [op]; rfl)
theorem op_cmp {o : Co} : op Φ (.cmp o a b) ρ = bnd (op Φ a ρ) fun x ρ => bnd (op Φ b ρ) fun y ρ => match res ρ x, res ρ y with
    | some dx, some dy => lft ((cmpD o dx dy).map fun k => .tmp (.bl k)) ρ
    | _, _ => none := by first | rfl | (simp only [op]; rfl)
theorem op_neg : op Φ (.neg a) ρ = bnd (op Φ a ρ) fun x ρ => match res ρ x with
    | some (.int i) => ret (.tmp (.int (-i))) ρ
    | _ => none := by first | rfl | (simp only [op]; rfl)
theorem op_nt : op Φ (.nt a) ρ = bnd (op Φ a ρ) fun x ρ => match res ρ x with
    | some (.bl b) => ret (.tmp (.bl (!b))) ρ
    | _ => none := by first | rfl | (simp only [op]; rfl)
theorem op_and : op Φ (.and a b) ρ = bnd (op Φ a ρ) fun x ρ => match res ρ x with
    | some (.bl true) => op Φ b ρ
    | some (.bl false) => ret (.tmp (.bl false)) ρ
    | _ => none := by first | rfl | (simp only [op]; rfl)
theorem op_ife : op Φ (.ife c a b) ρ = bnd (tst Φ c ρ) fun k ρ => if k then op Φ a ρ else op Φ b ρ := by first | rfl | (simp only [op]; rfl)
theorem op_ix : op Φ (.ix a b) ρ = bnd (op Φ a ρ) fun x ρ => bnd (op Φ b ρ) fun y ρ => match res ρ x, res ρ y with
    | some dx, some dy => lft ((ixD dx dy).map .tmp) ρ
    | _, _ => none := by first | rfl | (simp only [op]; rfl)
theorem op_bi {b : Bi} : op Φ (.bi b es) ρ = bnd (ops Φ es ρ) fun os ρ => match resL ρ os with
    | some ds => lft ((biD b ds).map .tmp) ρ
    | none => none := by first | rfl | (simp only [op]; rfl)
theorem ops_nil : ops Φ [] ρ = ret [] ρ := by first | rfl | (simp only [ops]; rfl)
theorem ops_cons : ops Φ (a :: es) ρ = bnd (op Φ a ρ) fun o ρ => bnd (ops Φ es ρ) fun os ρ => ret (o :: os) ρ := by first | rfl | (simp only [ops]; rfl)
theorem tst_nt : tst Φ (.nt a) ρ = bnd (tst Φ a ρ) fun k ρ => ret (!k) ρ := by first | rfl | (simp only [tst]; rfl)
theorem tst_and : tst Φ (.and a b) ρ = bnd (tst Φ a ρ) fun k ρ => if k then tst Φ b ρ else ret false ρ := by first | rfl | (simp only [tst]; rfl)
theorem tst_or : tst Φ (.or a b) ρ = bnd (tst Φ a ρ) fun k ρ => if k then ret true ρ else tst Φ b ρ := by first | rfl | (simp only [tst]; rfl)
theorem tst_trE : tst Φ (.tr a) ρ = bnd (op Φ a ρ) fun x ρ => match res ρ x with
    | some d => lft (trD d) ρ
    | none => none := by first | rfl | (simp only [tst]; rfl)
end
/-! defs none of whose arguments is one's own -/
theorem ownIn_no {io : List Nat} : ∀ {ds : List D} {i : Nat}, ds.all (fun d => !own d) = true → ownIn io i ds = true
  | [], _, _ => rfl
  | d :: ds, i, h => by
    simp only [List.all_cons, Bool.and_eq_true] at h
    simp only [ownIn, h.1, Bool.true_or, Bool.true_and]
    exact ownIn_no h.2
theorem frzIn_no {io : List Nat} : ∀ {ds : List D} {i : Nat}, ds.all (fun d => !own d) = true → frzIn io i ds = ds
  | [], _, _ => rfl
  | d :: ds, i, h => by
    simp only [List.all_cons, Bool.and_eq_true, Bool.not_eq_true'] at h
    simp only [frzIn, frzIn_no h.2, frz_eq h.1, ite_self]
theorem outL_no : ∀ {ds : List D} {i : Nat} {ρ : Ev}, ds.all (fun d => !own d) = true → outL i ds ρ = some ds
  | [], _, _, _ => rfl
  | d :: ds, i, ρ, h => by
    simp only [List.all_cons, Bool.and_eq_true, Bool.not_eq_true'] at h
    simp only [outL, outL_no h.2, h.1, Bool.false_eq_true, if_false]
theorem ev_rt {Y : Rc} {d : Df} {ds : List D} {v : D} {ρ' : Ev} (hn : ds.length = d.np) (ho : ds.all (fun d => !own d) = true) (e : runs { Y with np := d.np } d.body (startE d ds) = some (.rt v ρ')) : evDef Y d ds = some (.ok v, ds) := by
  have ez : frzIn d.io 0 ds = ds := frzIn_no ho
  simp only [evDef, evDef0, ez, hn, ownIn_no ho, e, outL_no ho, and_self, if_true, Option.map_some]
theorem run_if {Y : Rc} {c : E} {a b : List Sm} {rest : List Sm} {ρ ρ' : Ev} {k : Bool} (h : tst Y.Φ c ρ = some (.ok k ρ')) : runs Y (.ifs c a b :: rest) ρ = thenS (if k then runs Y a ρ' else runs Y b ρ') (runs Y rest) := by
  simp only [runs, run, h, lifS]
theorem run_ret {Y : Rc} {e : E} {rest : List Sm} {ρ ρ' : Ev} {d : D} (h : op Y.Φ e ρ = some (.ok (.tmp d) ρ')) : runs Y (.ret e :: rest) ρ = some (.rt d ρ') := by
  simp only [runs, run, h, lifS, mov, ret, thenS]
theorem run_asg {Y : Rc} {e : E} {i : Nat} {rest : List Sm} {ρ ρ' : Ev} {d : D} (h : op Y.Φ e ρ = some (.ok (.tmp d) ρ')) (hi : i < ρ'.length) : runs Y (.asg (.nm i) e :: rest) ρ = runs Y rest (ρ'.set i (some d)) := by
  simp only [runs, run, h, lifS, val, ret, asg, hi, if_true, ofA, thenS]
def Tb.Yp (T : Tb) (n np : Nat) : Rc := ⟨T.Φ n, T.fu, np, T.exc⟩
theorem sem_rt {T : Tb} {n : Nat} {f : Str} {d : Df} {ds : List D} {v : D} {ρ' : Ev} (h : T.df f = some d) (hn : ds.length = d.np) (ho : ds.all (fun d => !own d) = true) (e : runs (T.Yp n d.np) d.body (startE d ds) = some (.rt v ρ')) : sem T (n + 1) f ds = some (.ok v, ds) := by
  rw [sem_succ h]
  exact ev_rt hn ho e
theorem run_if0 {Y : Rc} {c : E} {a : List Sm} {rest : List Sm} {ρ ρ' : Ev} (h : tst Y.Φ c ρ = some (.ok false ρ')) : runs Y (.ifs c a [] :: rest) ρ = runs Y rest ρ' := by
  rw [run_if h]
  simp only [Bool.false_eq_true, if_false, runs, thenS]
theorem run_if1 {Y : Rc} {c : E} {a b : List Sm} {rest : List Sm} {ρ ρ' ρ'' : Ev} {d : D} (h : tst Y.Φ c ρ = some (.ok true ρ')) (k : runs Y a ρ' = some (.rt d ρ'')) : runs Y (.ifs c a b :: rest) ρ = some (.rt d ρ'') := by
  rw [run_if h]
  simp only [if_true, k, thenS]
theorem run_retv {Y : Rc} {i : Nat} {rest : List Sm} {ρ : Ev} {d : D} (h : ρ[i]? = some (some d)) (hi : ¬ i < Y.np) : runs Y (.ret (.var i) :: rest) ρ = some (.rt d (ρ.set i none)) := by
  simp only [runs, run, op_var, h, ret, lifS, mov, hi, if_false, thenS]
/-! arguments made on the spot may be one's own -/
def locNo : List Opd → List D → Bool
  | .loc _ :: os, d :: ds => !own d && locNo os ds
  | .tmp _ :: os, _ :: ds => locNo os ds
  | _, _ => true
theorem ownLocs_no : ∀ {os : List Opd} {ds : List D}, locNo os ds = true → ownLocs os ds = []
  | [], [], _ => rfl
  | [], _ :: _, _ => rfl
  | .loc i :: os, d :: ds, h => by
    simp only [locNo, Bool.and_eq_true, Bool.not_eq_true'] at h
    simp only [ownLocs, h.1, Bool.false_eq_true, if_false]
    exact ownLocs_no h.2
  | .loc i :: os, [], _ => rfl
  | .tmp _ :: os, d :: ds, h => by
    simp only [locNo] at h
    simp only [ownLocs]
    exact ownLocs_no h
  | .tmp _ :: os, [], _ => rfl
theorem putBack_no : ∀ {os : List Opd} {ds ds' : List D} {ρ : Ev}, locNo os ds = true → putBack os ds ds' ρ = ρ
  | [], _, _, _, _ => by simp [putBack]
  | .loc i :: os, d :: ds, d' :: ds', ρ, h => by
    simp only [locNo, Bool.and_eq_true, Bool.not_eq_true'] at h
    simp only [putBack, h.1, Bool.false_eq_true, if_false]
    exact putBack_no h.2
  | .tmp _ :: os, d :: ds, d' :: ds', ρ, h => by
    simp only [locNo] at h
    simp only [putBack]
    exact putBack_no h
  | .loc _ :: _, [], _, _, _ => by simp [putBack]
  | .tmp _ :: _, [], _, _, _ => by simp [putBack]
  | .loc _ :: _, _ :: _, [], _, _ => by simp [putBack]
  | .tmp _ :: _, _ :: _, [], _, _ => by simp [putBack]
theorem call_ok2 {Φ : Fns} {f : Str} {es : List E} {ρ ρ' : Ev} {os : List Opd} {ds ds' : List D} {d : D} (ho : ops Φ es ρ = some (.ok os ρ')) (hr : resL ρ' os = some ds) (hn : locNo os ds = true) (hl : ds'.length = ds.length) (hg : Φ.fn f ds = some (.ok d, ds')) : op Φ (.call f es) ρ = some (.ok (.tmp d) ρ') := by
  simp only [op, ho, bnd_ok]
  simp only [callF, hr, ownLocs_no hn, hg, List.nodup_nil, if_true, hl, blank, putBack_no hn]
theorem sem_rtf {T : Tb} {n : Nat} {f : Str} {d : Df} {ds : List D} {v : D} {ρ' : Ev} (h : T.df f = some d) (hn : ds.length = d.np) (ho : (frzIn d.io 0 ds).all (fun d => !own d) = true) (e : runs (T.Yp n d.np) d.body (startE d (frzIn d.io 0 ds)) = some (.rt v ρ')) : sem T (n + 1) f ds = some (.ok v, frzIn d.io 0 ds) := by
  rw [sem_succ h]
  simp only [evDef, evDef0, frzIn_len, hn, ownIn_no ho, and_self, if_true]
  have e' : runs { T.Y n with np := d.np } d.body (startE d (frzIn d.io 0 ds)) = some (.rt v ρ') := e
  simp only [e', outL_no ho, Option.map_some]
end VP

set_option Elab.async false
set_option linter.all false
set_option maxRecDepth 100000
set_option maxHeartbeats 1000000
/-! Judgements of the evaluator, one rule for each term. -/
namespace VP
open PySem
structure Bn (p : Bo) (x y d : D) : Prop where h : binD p x y = some d
structure Cm (p : Co) (x y : D) (k : Bool) : Prop where h : cmpD p x y = some k
structure Ixd (x y d : D) : Prop where h : ixD x y = some d
structure Scd (x : D) (l u : Option Int) (d : D) : Prop where h : slcD x l u = some d
structure Rvd (x d : D) : Prop where h : revD x = some d
structure Bid (p : Bi) (ds : List D) (d : D) : Prop where h : biD p ds = some d
structure Bxd (p : Bx) (ds : List D) (d : D) : Prop where h : bxD p ds = some d
structure Med (p : Me) (x : D) (ds : List D) (d : D) : Prop where h : meD p x ds = some d
structure Mtd (p : Me) (x : D) (q : String × String) : Prop where h : meTy p x = some q
structure Mud (p : Mu) (xs ds : List D) (d : D) (ys : List D) : Prop where h : muD p xs ds = some (d, ys)
structure Itd (x : D) (xs : List D) : Prop where h : itemsD x = some xs
structure Rgd (ds xs : List D) : Prop where h : rngD ds = some xs
structure Trd (x : D) (k : Bool) : Prop where h : trD x = some k
structure Asg (t : Tg) (d : D) (ρ ρ' : Ev) : Prop where h : asg t d ρ = some ρ'
structure AsgL (t : List Tg) (d : List D) (ρ ρ' : Ev) : Prop where h : asgL t d ρ = some ρ'
structure Sl (ρ : Ev) (i : Nat) (d : D) : Prop where h : ρ[i]? = some (some d)
structure Nm (ρ ρ' : Ev) : Prop where h : ρ = ρ'
structure Nb (k k' : Bool) : Prop where h : k = k'
structure Im {α : Type} (xs : List D) (as : List α) (f : α → D) : Prop where h : xs = as.map f
structure Bl (ρ ρ' : Ev) (vs : List Nat) : Prop where h : blank ρ vs = blank ρ' vs
structure Nd (l : List Nat) : Prop where h : l.Nodup
structure Ln (xs ys : List D) : Prop where h : xs.length = ys.length
structure Sem (T : Tb) (n : Nat) (f : Str) (ds : List D) (d : D) (ds' : List D) : Prop where h : sem T n f ds = some (.ok d, ds')
theorem sem_guard {T : Tb} {n : Nat} {f : Str} {ds ds' : List D} {d : D} (h : Sem T n f ds d ds') : Sem T n f ds d ds' := h
structure Le (a b : Nat) : Prop where h : a ≤ b
structure Fac {α β : Type} (as : List α) (g : α → D) (bs : List β) (f : β → D) : Prop where h : as.map g = bs.map f
structure Imp (p q : Prop) : Prop where h : p → q
structure Fa {α : Type} (as : List α) (P : α → Prop) : Prop where h : ∀ a, a ∈ as → P a
structure Fr1 (P : Ev → Prop) : Prop where h : ∀ ρ, P ρ
section
variable (T : Tb) (n : Nat)
structure Xe (e : E) (ρ : Ev) (o : Opd) (ρ' : Ev) : Prop where h : op (T.Φ n) e ρ = some (.ok o ρ')
structure Xs (es : List E) (ρ : Ev) (os : List Opd) (ρ' : Ev) : Prop where h : ops (T.Φ n) es ρ = some (.ok os ρ')
structure Xt (c : E) (ρ : Ev) (k : Bool) (ρ' : Ev) : Prop where h : tst (T.Φ n) c ρ = some (.ok k ρ')
structure Xp (c : E) (ρ : Ev) (k : Option Int) (ρ' : Ev) : Prop where h : prt (T.Φ n) c ρ = some (.ok k ρ')
structure Xi (c : E) (ρ : Ev) (xs : List D) (hs : List (Nat × D)) (ρ' : Ev) : Prop where h : itr (T.Φ n) c ρ = some (.ok (xs, hs) ρ')
structure Xc (c : E) (ρ : Ev) (s : Sv) (ρ' : Ev) : Prop where h : src (T.Φ n) c ρ = some (.ok s ρ')
/-- what an operand holds -/
structure Rs (ρ : Ev) (o : Opd) (d : D) : Prop where h : res ρ o = some d
structure RsL (ρ : Ev) (os : List Opd) (ds : List D) : Prop where h : resL ρ os = some ds
/-- .. taken as a value -/
structure Va (o : Opd) (ρ : Ev) (d : D) (ρ' : Ev) : Prop where h : val o ρ = some (.ok d ρ')
structure VaL (os : List Opd) (ρ : Ev) (ds : List D) (ρ' : Ev) : Prop where h : valL os ρ = some (.ok ds ρ')
structure Fr (d d' : D) : Prop where h : frz d = d'
structure Mrg (k : Bool) (a b d : D) : Prop where h : (if k = true then a else b) = d
end
section
variable {T : Tb} {n : Nat} {ρ ρ1 ρ2 ρ3 : Ev} {a b c x y z : E} {es : List E} {i : Nat} {o o1 o2 : Opd} {os : List Opd} {d d1 d2 dx dy : D} {ds ds' : List D} {k k1 k2 : Bool}
/-! operands -/
theorem rs_tmp : Rs ρ (.tmp d) d := ⟨rfl⟩
theorem rs_loc (h : Sl ρ i d) : Rs ρ (.loc i) d := ⟨by simp [res, h.h]⟩
theorem rs_ite (h1 : Rs ρ o1 d1) (h2 : Rs ρ o2 d2) (m : Mrg k d1 d2 d) : Rs ρ (if k = true then o1 else o2) d := by
  have m := m.h
  cases k
  · simp at m; subst m; simpa using h2
  · simp at m; subst m; simpa using h1
theorem rsl_nil : RsL ρ [] [] := ⟨rfl⟩
theorem rsl_cons (h1 : Rs ρ o d) (h2 : RsL ρ os ds) : RsL ρ (o :: os) (d :: ds) := ⟨by simp [resL, h1.h, h2.h]⟩
theorem va_tmp : Va (.tmp d) ρ d ρ := ⟨rfl⟩
theorem va_loc (h : Sl ρ i d) (hf : own d = false) : Va (.loc i) ρ d ρ := ⟨by simp [val, h.h, frz_eq hf, set_same h.h, ret]⟩
theorem va_locF (h : Sl ρ i d) (f : Fr d d1) (e : Nm (ρ.set i (some d1)) ρ1) : Va (.loc i) ρ d1 ρ1 := by
  have e := e.h; have f := f.h; subst e; subst f
  exact ⟨by simp [val, h.h, ret]⟩
theorem va_ite (h1 : Va o1 ρ d1 ρ) (h2 : Va o2 ρ d2 ρ) (m : Mrg k d1 d2 d) : Va (if k = true then o1 else o2) ρ d ρ := by
  have m := m.h
  cases k
  · simp at m; subst m; simpa using h2
  · simp at m; subst m; simpa using h1
theorem fr_no (h : own d = false) : Fr d d := ⟨frz_eq h⟩
theorem fr_lst {xs : List D} {b : Bool} : Fr (.lst b xs) (.lst false xs) := ⟨rfl⟩
theorem mrg_same : Mrg k d d d := ⟨by cases k <;> rfl⟩
theorem mrg_int {i j : Int} : Mrg k (.int i) (.int j) (.int (if k = true then i else j)) := ⟨by cases k <;> rfl⟩
theorem mrg_bl {i j : Bool} : Mrg k (.bl i) (.bl j) (.bl (if k = true then i else j)) := ⟨by cases k <;> rfl⟩
theorem mrg_str {i j : Str} : Mrg k (.str i) (.str j) (.str (if k = true then i else j)) := ⟨by cases k <;> rfl⟩
theorem mrg_tup {α : Type} {f : α → D} {xs ys : List α} : Mrg k (.tup (xs.map f)) (.tup (ys.map f)) (.tup ((if k = true then xs else ys).map f)) := ⟨by cases k <;> rfl⟩
theorem mrg_lst {α : Type} {b : Bool} {f : α → D} {xs ys : List α} : Mrg k (.lst b (xs.map f)) (.lst b (ys.map f)) (.lst b ((if k = true then xs else ys).map f)) := ⟨by cases k <;> rfl⟩
theorem mrg_t {d1 d2 : D} : Mrg true d1 d2 d1 := ⟨rfl⟩
theorem mrg_f {d1 d2 : D} : Mrg false d1 d2 d2 := ⟨rfl⟩
theorem mrg_any : Mrg k d1 d2 (if k = true then d1 else d2) := ⟨rfl⟩
theorem val_nil : VaL [] ρ [] ρ := ⟨rfl⟩
theorem val_cons (h : Va o ρ d ρ1) (h2 : VaL os ρ1 ds ρ2) (h3 : Fr d d1) : VaL (o :: os) ρ (d1 :: ds) ρ2 := ⟨by
  simp [valL, h.h, h2.h, bnd, ret, h3.h]⟩
/-! terms -/
theorem xe_var (h : Sl ρ i d) : Xe T n (.var i) ρ (.loc i) ρ := ⟨by simp [op_var, h.h, ret]⟩
theorem xe_glo {s : Str} (h : T.con s = some d) : Xe T n (.glo s) ρ (.tmp d) ρ := by
  refine ⟨?_⟩
  have h' : (T.Φ n).con s = some d := h
  simp only [op, h', ret]
theorem xe_non : Xe T n .non ρ (.tmp .non) ρ := ⟨op_non⟩
theorem xe_bl {k : Bool} : Xe T n (.bl k) ρ (.tmp (.bl k)) ρ := ⟨op_bl⟩
theorem xe_int {k : Int} : Xe T n (.int k) ρ (.tmp (.int k)) ρ := ⟨op_int⟩
theorem xe_str {k : Str} : Xe T n (.str k) ρ (.tmp (.str k)) ρ := ⟨op_str⟩
theorem xe_ty {k : String} : Xe T n (.ty k) ρ (.tmp (.ty k)) ρ := ⟨op_ty⟩
theorem xs_nil : Xs T n [] ρ [] ρ := ⟨ops_nil⟩
theorem xs_cons (h : Xe T n a ρ o ρ1) (h2 : Xs T n es ρ1 os ρ2) : Xs T n (a :: es) ρ (o :: os) ρ2 := by
  refine ⟨?_⟩
  rw [ops_cons, h.h, bnd_ok, h2.h, bnd_ok]; rfl
theorem xe_tup (h : Xs T n es ρ os ρ1) (h2 : VaL os ρ1 ds ρ2) (h3 : Le ds.length LIM) : Xe T n (.tup es) ρ (.tmp (.tup ds)) ρ2 := by
  refine ⟨?_⟩
  rw [op_tup, h.h, bnd_ok, h2.h, bnd_ok, if_pos h3.h]; rfl
theorem xe_lst (h : Xs T n es ρ os ρ1) (h2 : VaL os ρ1 ds ρ2) (h3 : Le ds.length LIM) : Xe T n (.lst es) ρ (.tmp (.lst true ds)) ρ2 := by
  refine ⟨?_⟩
  rw [op_lst, h.h, bnd_ok, h2.h, bnd_ok, if_pos h3.h]; rfl
theorem xe_bin {p : Bo} (h : Xe T n a ρ o1 ρ1) (h2 : Xe T n b ρ1 o2 ρ2) (r1 : Rs ρ2 o1 dx) (r2 : Rs ρ2 o2 dy) (h3 : Bn p dx dy d) : Xe T n (.bin p a b) ρ (.tmp d) ρ2 := by
  refine ⟨?_⟩
  rw [op_bin, h.h, bnd_ok, h2.h, bnd_ok, r1.h, r2.h]
  simp only [h3.h]; rfl
theorem xe_cmp {p : Co} (h : Xe T n a ρ o1 ρ1) (h2 : Xe T n b ρ1 o2 ρ2) (r1 : Rs ρ2 o1 dx) (r2 : Rs ρ2 o2 dy) (h3 : Cm p dx dy k) : Xe T n (.cmp p a b) ρ (.tmp (.bl k)) ρ2 := by
  refine ⟨?_⟩
  rw [op_cmp, h.h, bnd_ok, h2.h, bnd_ok, r1.h, r2.h]
  simp only [h3.h]; rfl
theorem xe_chn {p q : Co} {o3 : Opd} {dz : D} (h : Xe T n a ρ o1 ρ1) (h2 : Xe T n b ρ1 o2 ρ2) (r1 : Rs ρ2 o1 dx) (r2 : Rs ρ2 o2 dy) (h3 : Cm p dx dy k1) (h4 : Xe T n c ρ2 o3 ρ2) (r3 : Rs ρ2 o3 dz) (h5 : Cm q dy dz k2) :
    Xe T n (.chn p q a b c) ρ (.tmp (.bl (k1 && k2))) ρ2 := by
  refine ⟨?_⟩
  simp only [op, h.h, bnd_ok, h2.h, r1.h, r2.h, h3.h]
  cases k1
  · rfl
  · simp only [h4.h, bnd_ok, r3.h, r2.h, h5.h, Bool.true_and]; rfl
theorem xe_neg {j : Int} (h : Xe T n a ρ o ρ1) (r : Rs ρ1 o (.int j)) : Xe T n (.neg a) ρ (.tmp (.int (-j))) ρ1 := by
  refine ⟨?_⟩
  rw [op_neg, h.h, bnd_ok, r.h]; rfl
theorem xe_nt (h : Xe T n a ρ o ρ1) (r : Rs ρ1 o (.bl k)) : Xe T n (.nt a) ρ (.tmp (.bl (!k))) ρ1 := by
  refine ⟨?_⟩
  rw [op_nt, h.h, bnd_ok, r.h]; rfl
theorem xe_and (h : Xe T n a ρ o ρ1) (r : Rs ρ1 o (.bl k1)) (h2 : k1 = true → Xe T n b ρ1 (.tmp (.bl k2)) ρ1) : Xe T n (.and a b) ρ (.tmp (.bl (k1 && k2))) ρ1 := by
  refine ⟨?_⟩
  rw [op_and, h.h, bnd_ok, r.h]
  cases k1 with
  | false => rfl
  | true => exact (h2 rfl).h
theorem op_or {Φ : Fns} : op Φ (.or a b) ρ = bnd (op Φ a ρ) fun x ρ => bnd (val x ρ) fun d ρ => match trD d with
    | some true => ret (.tmp d) ρ
    | some false => op Φ b ρ
    | none => none := by first | rfl | (simp only [op]; rfl)
theorem xe_or_t (h : Xe T n a ρ o ρ1) (r : Va o ρ1 d ρ2) (h2 : Trd d true) : Xe T n (.or a b) ρ (.tmp d) ρ2 := by
  refine ⟨?_⟩
  rw [op_or, h.h, bnd_ok, r.h, bnd_ok, h2.h]; rfl
theorem xe_or_f (h : Xe T n a ρ o ρ1) (r : Va o ρ1 d ρ2) (h2 : Trd d false) (h3 : Xe T n b ρ2 o2 ρ3) : Xe T n (.or a b) ρ o2 ρ3 := by
  refine ⟨?_⟩
  rw [op_or, h.h, bnd_ok, r.h, bnd_ok, h2.h]; exact h3.h
theorem xe_ife (h : Xt T n c ρ k ρ1) (h1 : k = true → Xe T n a ρ1 o1 ρ2) (h2 : k = false → Xe T n b ρ1 o2 ρ2) : Xe T n (.ife c a b) ρ (if k = true then o1 else o2) ρ2 := by
  refine ⟨?_⟩
  rw [op_ife, h.h, bnd_ok]
  cases k with
  | false => exact (h2 rfl).h
  | true => exact (h1 rfl).h
theorem xe_ife_t (h : Xt T n c ρ true ρ1) (h1 : Xe T n a ρ1 o1 ρ2) : Xe T n (.ife c a b) ρ o1 ρ2 := by
  refine ⟨?_⟩
  rw [op_ife, h.h, bnd_ok]; exact h1.h
theorem xe_ife_f (h : Xt T n c ρ false ρ1) (h1 : Xe T n b ρ1 o1 ρ2) : Xe T n (.ife c a b) ρ o1 ρ2 := by
  refine ⟨?_⟩
  rw [op_ife, h.h, bnd_ok]; exact h1.h
theorem xe_ix (h : Xe T n a ρ o1 ρ1) (h2 : Xe T n b ρ1 o2 ρ2) (r1 : Rs ρ2 o1 dx) (r2 : Rs ρ2 o2 dy) (h3 : Ixd dx dy d) : Xe T n (.ix a b) ρ (.tmp d) ρ2 := by
  refine ⟨?_⟩
  rw [op_ix, h.h, bnd_ok, h2.h, bnd_ok, r1.h, r2.h]
  simp only [h3.h]; rfl
theorem xp_nil : Xp T n .nil ρ none ρ := by refine ⟨?_⟩; simp only [prt]; rfl
theorem xp_pt {j : Int} (h : Xe T n a ρ o ρ1) (r : Rs ρ1 o (.int j)) : Xp T n (.pt a) ρ (some j) ρ1 := by
  refine ⟨?_⟩
  simp only [prt, h.h, bnd_ok, r.h]; rfl
theorem xe_slc {l u : Option Int} (h : Xe T n a ρ o ρ1) (h2 : Xp T n b ρ1 l ρ2) (h3 : Xp T n c ρ2 u ρ3) (r : Rs ρ3 o dx) (h4 : Scd dx l u d) : Xe T n (.slc a b c) ρ (.tmp d) ρ3 := by
  refine ⟨?_⟩
  simp only [op, h.h, bnd_ok, h2.h, h3.h, r.h, h4.h]; rfl
theorem xe_rev (h : Xe T n a ρ o ρ1) (r : Rs ρ1 o dx) (h4 : Rvd dx d) : Xe T n (.rev a) ρ (.tmp d) ρ1 := by
  refine ⟨?_⟩
  simp only [op, h.h, bnd_ok, r.h, h4.h]; rfl
theorem xe_bi {p : Bi} (h : Xs T n es ρ os ρ1) (r : RsL ρ1 os ds) (h3 : Bid p ds d) : Xe T n (.bi p es) ρ (.tmp d) ρ1 := by
  refine ⟨?_⟩
  rw [op_bi, h.h, bnd_ok, r.h]
  simp only [h3.h]; rfl
theorem xe_bix {p : Bx} (h : Xs T n es ρ os ρ1) (r : RsL ρ1 os ds) (h3 : Bxd p ds d) : Xe T n (.bix p es) ρ (.tmp d) ρ1 := by
  refine ⟨?_⟩
  simp only [op, h.h, bnd_ok, bixK, r.h, h3.h]; rfl
theorem xe_me {p : Me} {q : String × String} (h : Xe T n a ρ o ρ1) (r : Rs ρ1 o dx) (h2 : Mtd p dx q) (h3 : Xs T n es ρ1 os ρ2) (r2 : Rs ρ2 o dx) (r3 : RsL ρ2 os ds) (h4 : Med p dx ds d) : Xe T n (.me p a es) ρ (.tmp d) ρ2 := by
  refine ⟨?_⟩
  simp only [op, h.h, bnd_ok, r.h, h2.h, Option.isSome_some, if_true, h3.h, r2.h, r3.h, h4.h]; rfl
theorem xe_mut {p : Mu} {b0 : Bool} {xs0 xs ys : List D} (h0 : Sl ρ i (.lst b0 xs0)) (h : Xs T n es ρ os ρ1) (h2 : VaL os ρ1 ds ρ2) (h3 : Sl ρ2 i (.lst true xs)) (h4 : Mud p xs ds d ys) (h5 : Nm (ρ2.set i (some (.lst true ys))) ρ3) :
    Xe T n (.mut p i es) ρ (.tmp d) ρ3 := by
  have h5 := h5.h; subst h5
  refine ⟨?_⟩
  simp only [op, h0.h, h.h, bnd_ok, h2.h, h3.h, h4.h]; rfl
/-- a call none of whose locals is one's own -/
theorem xe_call {f : Str} (h : Xs T n es ρ os ρ1) (r : RsL ρ1 os ds) (hn : locNo os ds = true) (hg : Sem T n f ds d ds') (hl : Ln ds' ds) : Xe T n (.call f es) ρ (.tmp d) ρ1 :=
  ⟨call_ok2 h.h r.h hn hl.h hg.h⟩
theorem Φ_fn {f : Str} : (T.Φ n).fn f = sem T n f := rfl
theorem Φ_dom : (T.Φ n).dom = T.dom := rfl
theorem xe_callO {f : Str} (h : Xs T n es ρ os ρ1) (r : RsL ρ1 os ds) (hn : Nd (ownLocs os ds)) (hg : Sem T n f ds d ds') (hl : Ln ds' ds) (he : Nm (putBack os ds ds' (blank ρ1 (ownLocs os ds))) ρ2) : Xe T n (.call f es) ρ (.tmp d) ρ2 := by
  refine ⟨?_⟩
  simp only [op, h.h, bnd_ok, callF, r.h, hn.h, if_true, Φ_fn, hg.h, hl.h, he.h]
theorem xe_callv {f : Str} (h0 : Sl ρ i (.fn f)) (hd : f ∈ T.dom) (h : Xs T n es ρ os ρ1) (r : RsL ρ1 os ds) (hn : Nd (ownLocs os ds)) (hg : Sem T n f ds d ds') (hl : Ln ds' ds) (he : Nm (putBack os ds ds' (blank ρ1 (ownLocs os ds))) ρ2) : Xe T n (.callv i es) ρ (.tmp d) ρ2 := by
  refine ⟨?_⟩
  simp only [op, h0.h, Φ_dom, hd, if_true, h.h, bnd_ok, callF, r.h, hn.h, Φ_fn, hg.h, hl.h, he.h]
/-! tests -/
theorem xt_nt (h : Xt T n a ρ k ρ1) : Xt T n (.nt a) ρ (!k) ρ1 := by
  refine ⟨?_⟩
  rw [tst_nt, h.h]; rfl
theorem xt_and (h : Xt T n a ρ k1 ρ1) (h2 : k1 = true → Xt T n b ρ1 k2 ρ1) : Xt T n (.and a b) ρ (k1 && k2) ρ1 := by
  refine ⟨?_⟩
  rw [tst_and, h.h, bnd_ok]
  cases k1 with
  | false => rfl
  | true => exact (h2 rfl).h
theorem xt_or (h : Xt T n a ρ k1 ρ1) (h2 : k1 = false → Xt T n b ρ1 k2 ρ1) : Xt T n (.or a b) ρ (k1 || k2) ρ1 := by
  refine ⟨?_⟩
  rw [tst_or, h.h, bnd_ok]
  cases k1 with
  | false => exact (h2 rfl).h
  | true => rfl
theorem xt_or_t (h : Xt T n a ρ true ρ1) : Xt T n (.or a b) ρ true ρ1 := by
  refine ⟨?_⟩
  rw [tst_or, h.h, bnd_ok]; rfl
theorem xt_tr (h : Xe T n a ρ o ρ1) (r : Rs ρ1 o d) (h2 : Trd d k) : Xt T n (.tr a) ρ k ρ1 := by
  refine ⟨?_⟩
  rw [tst_trE, h.h, bnd_ok, r.h]
  simp only [h2.h]; rfl
/-! what is walked -/
theorem xc_hold (h : Sl ρ i d) (e : Nm (ρ.set i none) ρ1) : Xc T n (.hold i) ρ (.hd i d) ρ1 := by
  have e := e.h; subst e
  refine ⟨?_⟩
  simp only [src, holdS, h.h]; rfl
theorem xc_sr (h : Xe T n a ρ o ρ1) (r : Va o ρ1 d ρ2) (hf : Fr d d1) : Xc T n (.sr a) ρ (.fz d1) ρ2 := by
  refine ⟨?_⟩
  simp only [src, h.h, bnd_ok, fzS, r.h, hf.h]; rfl
theorem xi_hold {xs : List D} (h : Sl ρ i d) (h2 : Itd d xs) (e : Nm (ρ.set i none) ρ1) : Xi T n (.hold i) ρ xs [(i, d)] ρ1 := by
  have e := e.h; subst e
  refine ⟨?_⟩
  simp only [itr, holdS, h.h, ret, bnd_ok, seqOf, Sv.d, h2.h, Sv.h]
theorem xi_sr {xs : List D} (h : Xe T n a ρ o ρ1) (r : Va o ρ1 d ρ2) (hf : Fr d d1) (h2 : Itd d1 xs) : Xi T n (.sr a) ρ xs [] ρ2 := by
  refine ⟨?_⟩
  simp only [itr, h.h, bnd_ok, fzS, r.h, hf.h, ret, seqOf, Sv.d, h2.h, Sv.h]
theorem xi_rng {xs : List D} (h : Xs T n es ρ os ρ1) (r : RsL ρ1 os ds) (h2 : Rgd ds xs) : Xi T n (.rng es) ρ xs [] ρ1 := by
  refine ⟨?_⟩
  simp only [itr, h.h, bnd_ok, r.h, h2.h]; rfl
theorem xi_zip {s1 s2 : Sv} {xs ys : List D} (h : Xc T n a ρ s1 ρ1) (h2 : Xc T n b ρ1 s2 ρ2) (e1 : Itd s1.d xs) (e2 : Itd s2.d ys) : Xi T n (.zip a b) ρ (pairUp xs ys) (s1.h ++ s2.h) ρ2 := by
  refine ⟨?_⟩
  simp only [itr, h.h, bnd_ok, h2.h, e1.h, e2.h]; rfl
theorem xi_enm {s1 : Sv} {xs : List D} (h : Xc T n a ρ s1 ρ1) (e1 : Itd s1.d xs) : Xi T n (.enm a) ρ (enumUp xs) s1.h ρ1 := by
  refine ⟨?_⟩
  simp only [itr, h.h, bnd_ok, e1.h]; rfl
end
end VP

set_option Elab.async false
set_option linter.all false
set_option maxRecDepth 100000
set_option maxHeartbeats 1000000
/-! Judgements: comprehensions, statements, defs. -/
namespace VP
open PySem
section
variable (T : Tb) (n : Nat)
/-- one item of a comprehension -/
structure Em (t : Tg) (vs : List Nat) (x : E) (ρ1 : Ev) (d g : D) : Prop where h : ∃ ρa o ρb d' ρc, asg t d (blank ρ1 vs) = some ρa ∧ Xe T n x ρa o ρb ∧ Va o ρb d' ρc ∧ Fr d' g ∧ blank ρc vs = blank ρ1 vs
structure Ef (t : Tg) (vs : List Nat) (c x : E) (ρ1 : Ev) (d : D) (k : Bool) (g : D) : Prop where h : ∃ ρa ρa', asg t d (blank ρ1 vs) = some ρa ∧ Xt T n c ρa k ρa' ∧ blank ρa' vs = blank ρ1 vs ∧ (k = true → ∃ o ρb d' ρc, Xe T n x ρa' o ρb ∧ Va o ρb d' ρc ∧ Fr d' g ∧ blank ρc vs = blank ρ1 vs)
end
section
variable {T : Tb} {n : Nat} {ρ ρ0 ρ1 ρ2 ρ3 ρa ρa' ρb ρc : Ev} {a b c x y z it s s2 c2 : E} {es : List E} {i : Nat} {o o1 o2 : Opd} {os : List Opd} {d d' g d1 d2 dx dy : D} {ds ds' : List D} {k k1 k2 : Bool} {t t2 : Tg} {vs vs2 : List Nat} {w : List (Str × Nat)} {xs : List D} {hs : List (Nat × D)}
theorem Yp_Φ {np : Nat} : (T.Yp n np).Φ = T.Φ n := rfl
theorem Yp_np {np : Nat} : (T.Yp n np).np = np := rfl
theorem Yp_fu {np : Nat} : (T.Yp n np).fu = T.fu := rfl
theorem em (h0 : Nm (blank ρ1 vs) ρ0) (h : Asg t d ρ0 ρa) (h2 : Xe T n x ρa o ρb) (h3 : Va o ρb d' ρc) (h4 : Fr d' g) (h5 : Bl ρc ρ1 vs) : Em T n t vs x ρ1 d g := ⟨_, _, _, _, _, by rw [h0.h]; exact h.h, h2, h3, h4, h5.h⟩
variable (T n) in
structure Ef2 (vs : List Nat) (x : E) (ρa' ρ1 : Ev) (g : D) : Prop where h : ∃ o ρb d' ρc, Xe T n x ρa' o ρb ∧ Va o ρb d' ρc ∧ Fr d' g ∧ blank ρc vs = blank ρ1 vs
theorem ef (h00 : Nm (blank ρ1 vs) ρ0) (h : Asg t d ρ0 ρa) (h1 : Xt T n c ρa k ρa') (h0 : Bl ρa' ρ1 vs) (h2 : Imp (k = true) (Ef2 T n vs x ρa' ρ1 g)) : Ef T n t vs c x ρ1 d k g := ⟨_, _, by rw [h00.h]; exact h.h, h1, h0.h, fun z => (h2.h z).h⟩
theorem ef2 (h2 : Xe T n x ρa' o ρb) (h3 : Va o ρb d' ρc) (h4 : Fr d' g) (h5 : Bl ρc ρ1 vs) : Ef2 T n vs x ρa' ρ1 g := ⟨_, _, _, _, h2, h3, h4, h5.h⟩
theorem stepOf_em {ρ' : Ev} (h : Em T n t vs x ρ1 d g) (hb : blank ρ' vs = blank ρ1 vs) : ∃ ρc, stepOf t vs (elemOf (tst (T.Φ n) (.tr (.bl true))) (op (T.Φ n) x)) d ρ' = some (.ok [g] ρc) ∧ blank ρc vs = blank ρ1 vs := by
  obtain ⟨ρa, o, ρb, d', ρc, h1, h2, h3, h4, h5⟩ := h
  refine ⟨ρc, ?_, h5⟩
  simp only [stepOf, hb, h1, elemOf, tst, op, bnd, ret, res, trD, lft, if_true, h2.h, h3.h, h4.h]
theorem stepOf_ef {ρ' : Ev} (h : Ef T n t vs c x ρ1 d k g) (hb : blank ρ' vs = blank ρ1 vs) : ∃ ρc, stepOf t vs (elemOf (tst (T.Φ n) c) (op (T.Φ n) x)) d ρ' = some (.ok (if k = true then [g] else []) ρc) ∧ blank ρc vs = blank ρ1 vs := by
  obtain ⟨ρa, ρa', h1, h2, h3, h4⟩ := h
  cases k with
  | false =>
    refine ⟨ρa', ?_, h3⟩
    simp [stepOf, hb, h1, elemOf, bnd, ret, h2.h]
  | true =>
    obtain ⟨o, ρb, d', ρc, g1, g2, g3, g4⟩ := h4 rfl
    refine ⟨ρc, ?_, g4⟩
    simp only [stepOf, hb, h1, elemOf, bnd, ret, h2.h, if_true, g1.h, g2.h, g3.h]
theorem mem_img {α : Type} {as : List α} {f : α → D} {P : D → Prop} (h : ∀ a ∈ as, P (f a)) : ∀ x ∈ as.map f, P x := fun x hx => by
  obtain ⟨a, ha, rfl⟩ := List.mem_map.mp hx; exact h a ha
/-- a comprehension over images -/
theorem compL_img {α : Type} {stp : Ev → R (List D)} {f : α → D} {F : α → List D} : ∀ (as : List α) (ρ : Ev), blank ρ vs = blank ρ0 vs →
    (∀ a ∈ as, ∀ ρ, blank ρ vs = blank ρ0 vs → ∃ ρ', stepOf t vs stp (f a) ρ = some (.ok (F a) ρ') ∧ blank ρ' vs = blank ρ0 vs) → ∃ ρ', compL (stepOf t vs stp) (as.map f) ρ = some (.ok (as.flatMap F) ρ') ∧ blank ρ' vs = blank ρ0 vs
  | [], ρ, h, _ => ⟨ρ, rfl, h⟩
  | x :: xs, ρ, h, k => by
    obtain ⟨ρ1, e1, h1⟩ := k x (by simp) ρ h
    obtain ⟨ρ2, e2, h2⟩ := compL_img xs ρ1 h1 fun y hy => k y (by simp [hy])
    exact ⟨ρ2, by simp only [List.map_cons, compL, e1, e2, bnd, ret, List.flatMap_cons], h2⟩
theorem xe_comp_img {α : Type} {as : List α} {f : α → D} {F : α → List D} (h : Xi T n s ρ xs hs ρ1) (e : xs = as.map f) (hl : (as.flatMap F).length ≤ LIM)
    (k : ∀ a ∈ as, ∀ ρ, blank ρ (w.map (·.2)) = blank ρ1 (w.map (·.2)) → ∃ ρ', stepOf t (w.map (·.2)) (elemOf (tst (T.Φ n) c) (op (T.Φ n) x)) (f a) ρ = some (.ok (F a) ρ') ∧ blank ρ' (w.map (·.2)) = blank ρ1 (w.map (·.2))) :
    Xe T n (.comp x t s c w) ρ (.tmp (.lst true (as.flatMap F))) (putH hs ρ1) := by
  subst e
  obtain ⟨ρ2, e2, h2⟩ := compL_img (t := t) (stp := elemOf (tst (T.Φ n) c) (op (T.Φ n) x)) (ρ0 := ρ1) as (blank ρ1 (w.map (·.2))) (blank_blank _ _) k
  refine ⟨?_⟩
  simp only [op, h.h, bnd_ok, e2, noEr, if_pos hl, restore_same h2, ret]
theorem flatMap_if {α : Type} (as : List α) (k : α → Bool) (g : α → D) : (as.flatMap fun a => if k a = true then [g a] else []) = (as.filter k).map g := by
  induction as with
  | nil => rfl
  | cons a as ih =>
    simp only [List.flatMap_cons, ih, List.filter_cons]
    cases k a <;> simp
theorem xe_compm {α β : Type} {as : List α} {f g : α → D} {bs : List β} {f' : β → D} (h : Xi T n s ρ xs hs ρ1) (e : Im xs as f) (k : Fa as fun a => Em T n t (w.map (·.2)) x ρ1 (f a) (g a)) (hl : Le as.length LIM) (e3 : Fac as g bs f') (e2 : Nm (putH hs ρ1) ρ2) :
    Xe T n (.comp x t s (.tr (.bl true)) w) ρ (.tmp (.lst true (bs.map f'))) ρ2 := by
  rw [← e3.h]
  have e2 := e2.h; subst e2
  have e := e.h; have hl := hl.h
  rw [← flat_one]
  exact xe_comp_img h e (by rw [flat_one, List.length_map]; exact hl) fun a ha ρ hb => stepOf_em (k.h a ha) hb
theorem xe_compf {α β : Type} {as : List α} {f g : α → D} {k : α → Bool} {bs : List β} {f' : β → D} (h : Xi T n s ρ xs hs ρ1) (e : Im xs as f) (kk : Fa as fun a => Ef T n t (w.map (·.2)) c x ρ1 (f a) (k a) (g a)) (hl : Le as.length LIM) (e3 : Fac (as.filter k) g bs f') (e2 : Nm (putH hs ρ1) ρ2) :
    Xe T n (.comp x t s c w) ρ (.tmp (.lst true (bs.map f'))) ρ2 := by
  rw [← e3.h]
  have e2 := e2.h; subst e2
  have e := e.h; have hl := hl.h
  rw [← flatMap_if]
  refine xe_comp_img h e ?_ fun a ha ρ hb => stepOf_ef (kk.h a ha) hb
  rw [flatMap_if, List.length_map]
  exact Nat.le_trans (List.length_filter_le _ _) hl
/-! statements -/
variable (T n) in
structure Wp (np : Nat) (ss : List Sm) (ρ : Ev) (Q : Fo → Prop) : Prop where h : ∃ o, runs (T.Yp n np) ss ρ = some o ∧ Q o
variable (T n) in
def thenQ (np : Nat) (ss : List Sm) (Q : Fo → Prop) : Fo → Prop
  | .nx ρ => Wp T n np ss ρ Q
  | .rt d ρ => Q (.rt d ρ)
  | .er e ρ => Q (.er e ρ)
variable {np : Nat} {ss ss1 bs as' : List Sm} {Q Q1 : Fo → Prop}
theorem wp_weak (h : Wp T n np ss ρ Q) (hq : ∀ o, Q o → Q1 o) : Wp T n np ss ρ Q1 := by obtain ⟨o, h1, h2⟩ := h; exact ⟨o, h1, hq o h2⟩
theorem wp_nil (h : Q (.nx ρ)) : Wp T n np [] ρ Q := ⟨_, rfl, h⟩
variable (T n) in
structure Tq (np : Nat) (ss : List Sm) (Q : Fo → Prop) (o : Fo) : Prop where h : thenQ T n np ss Q o
theorem tq_nx (h : Wp T n np ss ρ Q) : Tq T n np ss Q (.nx ρ) := ⟨h⟩
theorem tq_rt (h : Q (.rt d ρ)) : Tq T n np ss Q (.rt d ρ) := ⟨h⟩
theorem tq_er {e : Er} (h : Q (.er e ρ)) : Tq T n np ss Q (.er e ρ) := ⟨h⟩
theorem wp_step {m : Sm} (h : ∃ o, run (T.Yp n np) m ρ = some o ∧ thenQ T n np ss Q o) : Wp T n np (m :: ss) ρ Q := by
  obtain ⟨o, h1, h2⟩ := h
  cases o with
  | nx ρ1 =>
    obtain ⟨o2, h3, h4⟩ := h2
    exact ⟨o2, by simp only [runs, h1, thenS, h3], h4⟩
  | rt d ρ1 => exact ⟨_, by simp only [runs, h1, thenS], h2⟩
  | er e ρ1 => exact ⟨_, by simp only [runs, h1, thenS], h2⟩
theorem wp_asg (h : Xe T n x ρ o ρ1) (h2 : Va o ρ1 d ρ2) (h3 : Asg t d ρ2 ρ3) (h4 : Wp T n np ss ρ3 Q) : Wp T n np (.asg t x :: ss) ρ Q := by
  refine wp_step ⟨.nx ρ3, ?_, h4⟩
  simp only [run, Yp_Φ, Yp_np, Yp_fu, h.h, lifS, h2.h, h3.h, ofA]
variable (T n) in
structure VaO (os : List Opd) (ρ : Ev) (ds : List D) (ρ' : Ev) : Prop where h : valO os ρ = some (.ok ds ρ')
theorem vao_nil : VaO [] ρ [] ρ := ⟨rfl⟩
theorem vao_cons (h : Va o ρ d ρ1) (h2 : VaO os ρ1 ds ρ2) : VaO (o :: os) ρ (d :: ds) ρ2 := ⟨by simp [valO, h.h, h2.h, bnd, ret]⟩
theorem wp_par {ts : List Tg} (h : Xs T n es ρ os ρ1) (h2 : VaO os ρ1 ds ρ2) (h3 : AsgL ts ds ρ2 ρ3) (h4 : Wp T n np ss ρ3 Q) : Wp T n np (.par ts es :: ss) ρ Q := by
  refine wp_step ⟨.nx ρ3, ?_, h4⟩
  simp only [run, Yp_Φ, Yp_np, Yp_fu, h.h, lifS, h2.h, h3.h, ofA]
structure Ixn (n : Nat) (j : Int) (m : Nat) : Prop where h : L2.ixN n j = some m
theorem wp_setI {j : Int} {m : Nat} {ys : List D} (h : Xe T n x ρ o ρ1) (h2 : Va o ρ1 d ρ2) (hf : Fr d d') (h3 : Xe T n y ρ2 o2 ρ3) (r : Rs ρ3 o2 (.int j)) (h4 : Sl ρ3 i (.lst true ys)) (h0 : Sl ρ2 i dy) (h5 : Ixn ys.length j m) (h6 : Nm (ρ3.set i (some (.lst true (ys.set m d')))) ρa) (h7 : Wp T n np ss ρa Q) : Wp T n np (.setI i y x :: ss) ρ Q := by
  have h6 := h6.h; subst h6
  refine wp_step ⟨.nx _, ?_, h7⟩
  simp only [run, Yp_Φ, Yp_np, Yp_fu, h.h, lifS, h2.h, h0.h, h3.h, r.h, setIx, h4.h, h5.h, hf.h]
theorem wp_aug {j k : Int} (h0 : Sl ρ i (.int j)) (h : Xe T n x ρ o ρ1) (r : Rs ρ1 o (.int k)) (hi : Le (i + 1) ρ1.length) (h6 : Nm (ρ1.set i (some (.int (j + k)))) ρ2) (h7 : Wp T n np ss ρ2 Q) : Wp T n np (.aug i x :: ss) ρ Q := by
  have h6 := h6.h; subst h6
  refine wp_step ⟨.nx _, ?_, h7⟩
  have hi : i < ρ1.length := hi.h
  simp only [run, Yp_Φ, Yp_np, Yp_fu, h0.h, h.h, lifS, addI, r.h, hi, if_true]
theorem wp_exp (h : Xe T n x ρ o ρ1) (h4 : Wp T n np ss ρ1 Q) : Wp T n np (.exp x :: ss) ρ Q := by
  refine wp_step ⟨.nx ρ1, ?_, h4⟩
  simp only [run, Yp_Φ, Yp_np, Yp_fu, h.h, lifS]
theorem wp_pas (h4 : Wp T n np ss ρ Q) : Wp T n np (.pas :: ss) ρ Q := wp_step ⟨.nx ρ, by simp only [run], h4⟩
structure Mv (np : Nat) (o : Opd) (ρ : Ev) (d : D) (ρ' : Ev) : Prop where h : mov np o ρ = some (.ok d ρ')
theorem mv_tmp : Mv np (.tmp d) ρ d ρ := ⟨rfl⟩
theorem mv_par (hi : Le (i + 1) np) (h : Va (.loc i) ρ d ρ1) : Mv np (.loc i) ρ d ρ1 := ⟨by simp only [mov, if_pos (show i < np from hi.h)]; exact h.h⟩
theorem mv_loc (hi : Le np i) (h : Sl ρ i d) : Mv np (.loc i) ρ d (ρ.set i none) := ⟨by simp only [mov, if_neg (show ¬ i < np by have := hi.h; omega), h.h]; rfl⟩
theorem mv_locN (hi : Le np i) (h : Sl ρ i d) (e : Nm (ρ.set i none) ρ1) : Mv np (.loc i) ρ d ρ1 := by have e := e.h; subst e; exact mv_loc hi h
theorem mv_iteN (h1 : Imp (k = true) (Mv np o1 ρ d1 ρ1)) (h2 : Imp (k = false) (Mv np o2 ρ d2 ρ2)) (m : Mrg k d1 d2 d) : Mv np (if k = true then o1 else o2) ρ d (if k = true then ρ1 else ρ2) := by
  have m := m.h
  cases k
  · simp at m; subst m; simpa using h2.h rfl
  · simp at m; subst m; simpa using h1.h rfl
structure Mv' (np : Nat) (o : Opd) (ρ : Ev) (d : D) : Prop where h : ∃ ρ', Mv np o ρ d ρ'
theorem mv'_tmp : Mv' np (.tmp d) ρ d := ⟨_, mv_tmp⟩
theorem mv'_par (hi : Le (i + 1) np) (h : Va (.loc i) ρ d ρ1) : Mv' np (.loc i) ρ d := ⟨_, mv_par hi h⟩
theorem mv'_loc (hi : Le np i) (h : Sl ρ i d) : Mv' np (.loc i) ρ d := ⟨_, mv_loc hi h⟩
theorem mv'_ite (h1 : Imp (k = true) (Mv' np o1 ρ d1)) (h2 : Imp (k = false) (Mv' np o2 ρ d2)) (m : Mrg k d1 d2 d) : Mv' np (if k = true then o1 else o2) ρ d := by
  have m := m.h
  have h1 := h1.h
  have h2 := h2.h
  cases k
  · simp at m; subst m; simpa using h2 rfl
  · simp at m; subst m; simpa using h1 rfl
theorem wp_ret (h : Xe T n x ρ o ρ1) (h2 : Mv np o ρ1 d ρ2) (h4 : Q (.rt d ρ2)) : Wp T n np (.ret x :: ss) ρ Q := by
  refine wp_step ⟨.rt d ρ2, ?_, h4⟩
  simp only [run, Yp_Φ, Yp_np, Yp_fu, h.h, lifS, h2.h]
/-- .. whatever is left in the slots -/
theorem wp_ret' (h : Xe T n x ρ o ρ1) (h2 : Mv' np o ρ1 d) (h4 : Fr1 fun ρ2 => Q (.rt d ρ2)) : Wp T n np (.ret x :: ss) ρ Q := by
  obtain ⟨ρ2, h2⟩ := h2.h
  exact wp_ret h h2 (h4.h ρ2)
theorem wp_retN (h4 : Q (.rt .non ρ)) : Wp T n np (.retN :: ss) ρ Q := wp_step ⟨.rt .non ρ, by simp only [run], h4⟩
theorem wp_ifs (h : Xt T n c ρ k ρ1) (h1 : k = true → Wp T n np as' ρ1 (Tq T n np ss Q)) (h2 : k = false → Wp T n np bs ρ1 (Tq T n np ss Q)) : Wp T n np (.ifs c as' bs :: ss) ρ Q := by
  have e : run (T.Yp n np) (.ifs c as' bs) ρ = if k = true then runs (T.Yp n np) as' ρ1 else runs (T.Yp n np) bs ρ1 := by
    simp only [run, Yp_Φ, Yp_np, Yp_fu, h.h, lifS]
  cases k with
  | false =>
    obtain ⟨o, g1, g2⟩ := h2 rfl
    exact wp_step ⟨o, by rw [e]; simpa using g1, g2.h⟩
  | true =>
    obtain ⟨o, g1, g2⟩ := h1 rfl
    exact wp_step ⟨o, by rw [e]; simpa using g1, g2.h⟩
variable (T n) in
structure Lp (np : Nat) (t : Tg) (bs : List Sm) (xs : List D) (ρ : Ev) (Q : Fo → Prop) : Prop where h : ∃ o, loopS (asgS t (runs (T.Yp n np) bs)) xs ρ = some o ∧ Q o
def putQ (hs : List (Nat × D)) (Q : Fo → Prop) : Fo → Prop
  | .nx ρ => Q (.nx (putH hs ρ))
  | .rt d ρ => Q (.rt d (putH hs ρ))
  | .er e ρ => Q (.er e (putH hs ρ))
theorem wp_for (h : Xi T n it ρ xs hs ρ1) (h2 : Lp T n np t bs xs ρ1 (putQ hs (Tq T n np ss Q))) : Wp T n np (.for_ t it bs :: ss) ρ Q := by
  obtain ⟨o, g1, g2⟩ := h2
  have e : run (T.Yp n np) (.for_ t it bs) ρ = mapS (putH hs) (some o) := by
    simp only [run, Yp_Φ, Yp_np, Yp_fu, h.h, lifS, g1]
  cases o <;> exact wp_step ⟨_, e, g2.h⟩
/-- a loop by what holds ahead of each item -/
theorem lp_inv {α : Type} {f : α → D} (I : List α → Ev → Prop) : ∀ (as : List α) (ρ : Ev), I as ρ → (∀ a r ρ, (a :: r) <:+ as → I (a :: r) ρ → ∃ ρa, asg t (f a) ρ = some ρa ∧ Wp T n np bs ρa fun o => match o with
      | .nx ρ' => I r ρ'
      | o => Q o) → (∀ ρ, I [] ρ → Q (.nx ρ)) → Lp T n np t bs (as.map f) ρ Q
  | [], ρ, h, _, h3 => ⟨_, rfl, h3 ρ h⟩
  | a :: r, ρ, h, h2, h3 => by
    obtain ⟨ρa, e1, o, e2, e3⟩ := h2 a r ρ (List.suffix_refl _) h
    cases o with
    | nx ρ' =>
      obtain ⟨o2, g1, g2⟩ := lp_inv I r ρ' e3 (fun a' r' ρ' hs hi => h2 a' r' ρ' (hs.trans (List.suffix_cons _ _)) hi) h3
      exact ⟨o2, by simp only [List.map_cons, loopS, asgS, e1, e2, thenS, g1], g2⟩
    | rt d ρ' => exact ⟨_, by simp only [List.map_cons, loopS, asgS, e1, e2, thenS], e3⟩
    | er d ρ' => exact ⟨_, by simp only [List.map_cons, loopS, asgS, e1, e2, thenS], e3⟩
/-- while, by a measure -/
theorem wp_whl (I : Nat → Ev → Prop) (m : Nat) (hI : I m ρ) (hm : m < T.fu)
    (hs : ∀ m ρ, I m ρ → ∃ k ρ1, Xt T n c ρ k ρ1 ∧ (k = false → Wp T n np ss ρ1 Q) ∧ (k = true → Wp T n np bs ρ1 fun o => match o with
      | .nx ρ' => ∃ m', m' < m ∧ I m' ρ'
      | o => Q o)) : Wp T n np (.whl c bs :: ss) ρ Q := by
  have key : ∀ fu m ρ, I m ρ → m < fu → ∃ o, whlS (tst (T.Φ n) c) (runs (T.Yp n np) bs) fu ρ = some o ∧ thenQ T n np ss Q o := by
    intro fu
    induction fu with
    | zero => intro m ρ _ h; omega
    | succ fu ih =>
      intro m ρ hi hf
      obtain ⟨k, ρ1, e1, e2, e3⟩ := hs m ρ hi
      cases k with
      | false => exact ⟨.nx ρ1, by simp [whlS, e1.h, lifS], e2 rfl⟩
      | true =>
        obtain ⟨o, g1, g2⟩ := e3 rfl
        cases o with
        | nx ρ' =>
          obtain ⟨m', hm', hi'⟩ := g2
          obtain ⟨o2, q1, q2⟩ := ih m' ρ' hi' (by omega)
          exact ⟨o2, by simp only [whlS, e1.h, lifS, if_true, g1, thenS, q1], q2⟩
        | rt d ρ' => exact ⟨.rt d ρ', by simp only [whlS, e1.h, lifS, if_true, g1, thenS], g2⟩
        | er d ρ' => exact ⟨.er d ρ', by simp only [whlS, e1.h, lifS, if_true, g1, thenS], g2⟩
  refine wp_step ?_
  obtain ⟨o, h1, h2⟩ := key T.fu m ρ hI hm
  exact ⟨o, by simp only [run]; exact h1, h2⟩
/-! defs -/
def RtQ (v : D) : Fo → Prop
  | .rt d _ => d = v
  | _ => False
structure Rq (v : D) (o : Fo) : Prop where h : RtQ v o
theorem rtq (h : d = g) : Rq g (.rt d ρ) := ⟨h⟩
theorem sem_pure {f : Str} {N : List Str} {io : List Nat} {body : List Sm} {ds0 : List D} (h : T.df f = some ⟨N, np, io, body⟩) (hn : ds.length = np) (hz : frzIn io 0 ds = ds0) (ho : ds0.all (fun d => !own d) = true) (hs : Nm (startE ⟨N, np, io, body⟩ ds0) ρ) (w : Wp T n np body ρ (Rq d)) : Sem T (n + 1) f ds d ds0 := by
  have hs := hs.h
  subst hz hs
  refine ⟨?_⟩
  obtain ⟨o, h1, h2⟩ := w
  have h2 := h2.h
  cases o with
  | rt v ρ' =>
    cases h2
    exact sem_rtf h hn ho h1
  | nx _ => exact h2.elim
  | er _ _ => exact h2.elim
/-- the call's end, arguments one's own too -/
def FinQ (ds0 : List D) (r : Except Er D) (ds' : List D) : Fo → Prop
  | .rt d ρ => outL 0 ds0 ρ = some ds' ∧ r = .ok d
  | .nx ρ => outL 0 ds0 ρ = some ds' ∧ r = .ok .non
  | .er e ρ => outL 0 ds0 ρ = some ds' ∧ r = .error e
theorem sem_fin {f : Str} {N : List Str} {io : List Nat} {body : List Sm} {ds0 : List D} {r : Except Er D} (h : T.df f = some ⟨N, np, io, body⟩) (hn : ds.length = np) (hz : frzIn io 0 ds = ds0) (ho : ownIn io 0 ds0 = true) (hs : Nm (startE ⟨N, np, io, body⟩ ds0) ρ) (w : Wp T n np body ρ (FinQ ds0 r ds')) : sem T (n + 1) f ds = some (r, ds') := by
  have hs := hs.h
  subst hz hs
  obtain ⟨o, h1, h2⟩ := w
  rw [sem_succ h]
  have e' : runs { T.Y n with np := np } body (startE ⟨N, np, io, body⟩ (frzIn io 0 ds)) = some o := h1
  simp only [evDef, evDef0, frzIn_len, hn, ho, and_self, if_true, e']
  cases o with
  | rt v ρ' => obtain ⟨g1, rfl⟩ := h2; simp only [g1, Option.map_some]
  | nx ρ' => obtain ⟨g1, rfl⟩ := h2; simp only [g1, Option.map_some]
  | er v ρ' => obtain ⟨g1, rfl⟩ := h2; simp only [g1, Option.map_some]
end
end VP
namespace VP
open PySem
section
variable {T : Tb} {n np : Nat} {ρ ρ1 ρ2 ρ3 : Ev} {a b c x : E} {as' bs ss : List Sm} {o o1 o2 : Opd} {k k1 k2 k' : Bool} {Q : Fo → Prop}
/-! branches, by what is known of the test -/
variable (T n) in
structure Br (k : Bool) (a b : E) (ρ : Ev) (o : Opd) (ρ2 : Ev) : Prop where h : if k = true then Xe T n a ρ o ρ2 else Xe T n b ρ o ρ2
theorem br_t (h : Xe T n a ρ o ρ2) : Br T n true a b ρ o ρ2 := ⟨h⟩
theorem br_f (h : Xe T n b ρ o ρ2) : Br T n false a b ρ o ρ2 := ⟨h⟩
theorem br_k (h : Imp (k = true) (Xe T n a ρ o1 ρ2)) (h2 : Imp (k = false) (Xe T n b ρ o2 ρ2)) : Br T n k a b ρ (if k = true then o1 else o2) ρ2 := by
  cases k
  · exact ⟨h2.h rfl⟩
  · exact ⟨h.h rfl⟩
theorem xe_if (h : Xt T n c ρ k ρ1) (e : Nb k k') (h2 : Br T n k' a b ρ1 o ρ2) : Xe T n (.ife c a b) ρ o ρ2 := by
  have e := e.h; subst e
  refine ⟨?_⟩
  rw [op_ife, h.h, bnd_ok]
  cases k with
  | false => exact h2.h.h
  | true => exact h2.h.h
variable (T n) in
structure OrR (k1 : Bool) (b : E) (ρ : Ev) (k : Bool) : Prop where h : if k1 = true then k = true else Xt T n b ρ k ρ
theorem or_t : OrR T n true b ρ true := ⟨rfl⟩
theorem or_f (h : Xt T n b ρ k ρ) : OrR T n false b ρ k := ⟨h⟩
theorem or_k (h : Imp (k1 = false) (Xt T n b ρ k2 ρ)) : OrR T n k1 b ρ (k1 || k2) := by
  cases k1
  · exact ⟨h.h rfl⟩
  · exact ⟨rfl⟩
theorem xt_orr (h : Xt T n a ρ k1 ρ1) (e : Nb k1 k') (h2 : OrR T n k' b ρ1 k) : Xt T n (.or a b) ρ k ρ1 := by
  have e := e.h; subst e
  refine ⟨?_⟩
  rw [tst_or, h.h, bnd_ok]
  cases k1 with
  | false => exact h2.h.h
  | true => cases h2.h; rfl
variable (T n) in
structure AndR (k1 : Bool) (b : E) (ρ : Ev) (k : Bool) : Prop where h : if k1 = true then Xt T n b ρ k ρ else k = false
theorem and_f : AndR T n false b ρ false := ⟨rfl⟩
theorem and_t (h : Xt T n b ρ k ρ) : AndR T n true b ρ k := ⟨h⟩
theorem and_k (h : Imp (k1 = true) (Xt T n b ρ k2 ρ)) : AndR T n k1 b ρ (k1 && k2) := by
  cases k1
  · exact ⟨rfl⟩
  · exact ⟨h.h rfl⟩
theorem xt_andr (h : Xt T n a ρ k1 ρ1) (e : Nb k1 k') (h2 : AndR T n k' b ρ1 k) : Xt T n (.and a b) ρ k ρ1 := by
  have e := e.h; subst e
  refine ⟨?_⟩
  rw [tst_and, h.h, bnd_ok]
  cases k1 with
  | true => exact h2.h.h
  | false => cases h2.h; rfl
variable (T n) in
structure AndE (k1 : Bool) (b : E) (ρ : Ev) (o : Opd) : Prop where h : if k1 = true then Xe T n b ρ o ρ else o = .tmp (.bl false)
theorem ande_f : AndE T n false b ρ (.tmp (.bl false)) := ⟨rfl⟩
theorem ande_t (h : Xe T n b ρ o ρ) : AndE T n true b ρ o := ⟨h⟩
theorem ande_k (h : Imp (k1 = true) (Xe T n b ρ (.tmp (.bl k2)) ρ)) : AndE T n k1 b ρ (.tmp (.bl (k1 && k2))) := by
  cases k1
  · exact ⟨rfl⟩
  · exact ⟨h.h rfl⟩
theorem xe_andr (h : Xe T n a ρ o1 ρ1) (r : Rs ρ1 o1 (.bl k1)) (e : Nb k1 k') (h2 : AndE T n k' b ρ1 o) : Xe T n (.and a b) ρ o ρ1 := by
  have e := e.h; subst e
  refine ⟨?_⟩
  rw [op_and, h.h, bnd_ok, r.h]
  cases k1 with
  | true => exact h2.h.h
  | false => cases h2.h; rfl
variable (T n) in
structure Bw (np : Nat) (k : Bool) (as' bs ss : List Sm) (ρ : Ev) (Q : Fo → Prop) : Prop where h : if k = true then Wp T n np as' ρ (Tq T n np ss Q) else Wp T n np bs ρ (Tq T n np ss Q)
theorem bw_t (h : Wp T n np as' ρ (Tq T n np ss Q)) : Bw T n np true as' bs ss ρ Q := ⟨h⟩
theorem bw_f (h : Wp T n np bs ρ (Tq T n np ss Q)) : Bw T n np false as' bs ss ρ Q := ⟨h⟩
theorem bw_f0 (h : Wp T n np ss ρ Q) : Bw T n np false as' [] ss ρ Q := ⟨wp_nil ⟨h⟩⟩
theorem bw_k (h : Imp (k = true) (Wp T n np as' ρ (Tq T n np ss Q))) (h2 : Imp (k = false) (Wp T n np bs ρ (Tq T n np ss Q))) : Bw T n np k as' bs ss ρ Q := by
  cases k
  · exact ⟨h2.h rfl⟩
  · exact ⟨h.h rfl⟩
theorem wp_ifk (h : Xt T n c ρ k ρ1) (e : Nb k k') (h2 : Bw T n np k' as' bs ss ρ1 Q) : Wp T n np (.ifs c as' bs :: ss) ρ Q := by
  have e := e.h; subst e
  refine wp_ifs h (fun z => ?_) fun z => ?_
  · subst z; exact h2.h
  · subst z; exact h2.h
end
end VP
namespace VP
theorem ab1 {P : Prop} (h : false = true) : P := by cases h
theorem ab2 {P : Prop} (h : true = false) : P := by cases h
end VP
namespace VP
section
variable {T : Tb} {n : Nat} {ρ ρ1 ρ2 : Ev} {i : Nat} {d x y : D} {t : Tg} {ts : List Tg} {ds : List D}
theorem asg_nm (h : Le (i + 1) ρ.length) (e : Nm (ρ.set i (some d)) ρ1) : Asg (.nm i) d ρ ρ1 := by
  have e := e.h; subst e
  exact ⟨by simp only [asg, if_pos (show i < ρ.length from h.h)]⟩
theorem asg_tp (h : AsgL ts ds ρ ρ1) : Asg (.tp ts) (.tup ds) ρ ρ1 := ⟨by simp only [asg]; exact h.h⟩
theorem asg_pr (h : AsgL ts [x, y] ρ ρ1) : Asg (.tp ts) (.pr x y) ρ ρ1 := ⟨by simp only [asg]; exact h.h⟩
theorem asgL_nil : AsgL [] [] ρ ρ := ⟨rfl⟩
theorem asgL_cons (h : Asg t d ρ ρ1) (h2 : AsgL ts ds ρ1 ρ2) : AsgL (t :: ts) (d :: ds) ρ ρ2 := ⟨by simp only [asgL, h.h]; exact h2.h⟩
end
end VP
namespace VP
theorem wp_dead {T : Tb} {n np : Nat} {c : PySem.Str} {es : List E} {ss : List Sm} {ρ : Ev} {Q : Fo → Prop} (h : False) : Wp T n np (.rse c es :: ss) ρ Q := h.elim
theorem fac_int0 {as : List Int} : Fac as D.int as D.int := ⟨rfl⟩
theorem fac_int {α : Type} {as : List α} {p : α → Int} : Fac as (fun a => .int (p a)) (as.map p) D.int := ⟨by simp⟩
theorem fac_tz0 {as : List (List Int)} : Fac as (fun a => .tup (a.map .int)) as (fun a => .tup (a.map .int)) := ⟨rfl⟩
theorem fac_tz {α : Type} {as : List α} {p : α → List Int} : Fac as (fun a => .tup ((p a).map .int)) (as.map p) (fun a => .tup (a.map .int)) := ⟨by simp⟩
theorem fac_lz0 {as : List (List Int)} {o : Bool} : Fac as (fun a => .lst o (a.map .int)) as (fun a => .lst o (a.map .int)) := ⟨rfl⟩
theorem fac_lz {α : Type} {as : List α} {o : Bool} {p : α → List Int} : Fac as (fun a => .lst o ((p a).map .int)) (as.map p) (fun a => .lst o (a.map .int)) := ⟨by simp⟩
theorem fac_any {α : Type} {as : List α} {g : α → D} : Fac as g as g := ⟨rfl⟩
end VP
namespace VP
/-- a def that changes what is its caller's own -/
structure Oq (ds0 : List D) (v : D) (ds' : List D) (o : Fo) : Prop where h : FinQ ds0 (.ok v) ds' o
structure Otl (i : Nat) (ds : List D) (ρ : Ev) (r : List D) : Prop where h : outL i ds ρ = some r
theorem oq_rt {ds0 ds' : List D} {v d : D} {ρ : Ev} (h : Otl 0 ds0 ρ ds') (e : d = v) : Oq ds0 v ds' (.rt d ρ) := ⟨by subst e; exact ⟨h.h, rfl⟩⟩
theorem sem_own {T : Tb} {n np : Nat} {ρ : Ev} {ds ds0 ds' : List D} {d : D} {f : PySem.Str} {N : List PySem.Str} {io : List Nat} {body : List Sm} (h : T.df f = some ⟨N, np, io, body⟩) (hn : ds.length = np) (hz : frzIn io 0 ds = ds0) (ho : ownIn io 0 ds0 = true) (hs : Nm (startE ⟨N, np, io, body⟩ ds0) ρ) (w : Wp T n np body ρ (Oq ds0 d ds')) : Sem T (n + 1) f ds d ds' :=
  ⟨sem_fin h hn hz ho hs (wp_weak w fun _ z => z.h)⟩
end VP
namespace VP
structure Rqx (P : D → Prop) (o : Fo) : Prop where h : ∃ d, P d ∧ RtQ d o
theorem rqx {P : D → Prop} {d : D} {ρ : Ev} (h : P d) : Rqx P (.rt d ρ) := ⟨⟨d, h, rfl⟩⟩
structure Oqx (ds0 : List D) (P : D → List D → Prop) (o : Fo) : Prop where h : ∃ d ds', P d ds' ∧ FinQ ds0 (.ok d) ds' o
theorem oqx_rt {ds0 ds' : List D} {P : D → List D → Prop} {d : D} {ρ : Ev} (h : Otl 0 ds0 ρ ds') (e : P d ds') : Oqx ds0 P (.rt d ρ) := ⟨⟨d, ds', e, h.h, rfl⟩⟩
theorem sem_pure_ex {T : Tb} {n np : Nat} {ρ : Ev} {ds ds0 : List D} {P : D → Prop} {f : PySem.Str} {N : List PySem.Str} {io : List Nat} {body : List Sm} (h : T.df f = some ⟨N, np, io, body⟩) (hn : ds.length = np) (hz : frzIn io 0 ds = ds0) (ho : ds0.all (fun d => !own d) = true) (hs : Nm (startE ⟨N, np, io, body⟩ ds0) ρ) (w : Wp T n np body ρ (Rqx P)) : ∃ d, P d ∧ Sem T (n + 1) f ds d ds0 := by
  obtain ⟨o, h1, h2⟩ := w
  obtain ⟨d, hd, h2⟩ := h2.h
  exact ⟨d, hd, sem_pure h hn hz ho hs ⟨o, h1, ⟨h2⟩⟩⟩
theorem sem_own_ex {T : Tb} {n np : Nat} {ρ : Ev} {ds ds0 : List D} {P : D → List D → Prop} {f : PySem.Str} {N : List PySem.Str} {io : List Nat} {body : List Sm} (h : T.df f = some ⟨N, np, io, body⟩) (hn : ds.length = np) (hz : frzIn io 0 ds = ds0) (ho : ownIn io 0 ds0 = true) (hs : Nm (startE ⟨N, np, io, body⟩ ds0) ρ) (w : Wp T n np body ρ (Oqx ds0 P)) : ∃ d ds', P d ds' ∧ Sem T (n + 1) f ds d ds' := by
  obtain ⟨o, h1, h2⟩ := w
  obtain ⟨d, ds', hd, h2⟩ := h2.h
  exact ⟨d, ds', hd, sem_own h hn hz ho hs ⟨o, h1, ⟨h2⟩⟩⟩
end VP
namespace VP
section
variable {T : Tb} {n np : Nat} {ρ ρ1 ρ2 : Ev} {it : E} {t : Tg} {bs ss : List Sm} {Q : Fo → Prop} {xs : List D} {hs : List (Nat × D)} {d : D}
structure Pq (hs : List (Nat × D)) (Q : Fo → Prop) (o : Fo) : Prop where h : putQ hs Q o
theorem pq_nx (e : Nm (putH hs ρ) ρ1) (h : Q (.nx ρ1)) : Pq hs Q (.nx ρ) := ⟨by have e := e.h; subst e; exact h⟩
theorem pq_rt (e : Nm (putH hs ρ) ρ1) (h : Q (.rt d ρ1)) : Pq hs Q (.rt d ρ) := ⟨by have e := e.h; subst e; exact h⟩
theorem wp_forI {α : Type} {as : List α} {f : α → D} (h : Xi T n it ρ xs hs ρ1) (e : Im xs as f) (h2 : Lp T n np t bs (as.map f) ρ1 (Pq hs (Tq T n np ss Q))) : Wp T n np (.for_ t it bs :: ss) ρ Q := by
  have e := e.h; subst e
  refine wp_for h ?_
  obtain ⟨o, g1, g2⟩ := h2
  exact ⟨o, g1, g2.h⟩
/-- what a turn of a loop leaves -/
structure Lq {α : Type} (I : List α → Ev → Prop) (r : List α) (Q : Fo → Prop) (o : Fo) : Prop where h : match o with
      | .nx ρ' => I r ρ'
      | o => Q o
theorem lq_nx {α : Type} {I : List α → Ev → Prop} {r : List α} (h : I r ρ) : Lq I r Q (.nx ρ) := ⟨h⟩
theorem lq_rt {α : Type} {I : List α → Ev → Prop} {r : List α} (h : Q (.rt d ρ)) : Lq I r Q (.rt d ρ) := ⟨h⟩
theorem lp_I {α : Type} {f : α → D} (I : List α → Ev → Prop) (as : List α) (h0 : I as ρ) (h1 : ∀ a r ρ, (a :: r) <:+ as → I (a :: r) ρ → ∃ ρa, Asg t (f a) ρ ρa ∧ Wp T n np bs ρa (Lq I r Q)) (h2 : ∀ ρ, I [] ρ → Q (.nx ρ)) : Lp T n np t bs (as.map f) ρ Q :=
  lp_inv I as ρ h0 (fun a r ρ hs hi => by
    obtain ⟨ρa, g1, g2⟩ := h1 a r ρ hs hi
    exact ⟨ρa, g1.h, wp_weak g2 fun o z => z.h⟩) h2
end
end VP

set_option Elab.async false
set_option linter.all false
set_option maxRecDepth 100000
set_option maxHeartbeats 1000000
/-! What the operators make of data of some shape. -/
namespace VP
open PySem L2
/-- told apart by ==, plain, not one's own -/
class Pl {α : Type} (f : α → D) (m : outParam Nat) : Prop where
  dat : ∀ n a, m ≤ n → VP.dat n (f a) = true
  own : ∀ a, VP.own (f a) = false
class Eqq {α : Type} [DecidableEq α] (f : α → D) : Prop where
  eq : ∀ a b, deq (f a) (f b) = decide (a = b)
section
variable {α β : Type} {f : α → D} {m : Nat}
theorem datL_map [Pl f m] {n : Nat} (h : m ≤ n) : ∀ xs : List α, datL n (xs.map f) = true
  | [] => by cases n <;> rfl
  | x :: xs => by simp [datL, Pl.dat (f := f) n x h, datL_map h xs]
theorem deqL_map [DecidableEq α] [Eqq f] : ∀ xs ys : List α, deqL (xs.map f) (ys.map f) = decide (xs = ys)
  | [], [] => rfl
  | [], y :: ys => by simp [deqL]
  | x :: xs, [] => by simp [deqL]
  | x :: xs, y :: ys => by simp [deqL, Eqq.eq (f := f), deqL_map xs ys]
theorem mem_deq [DecidableEq α] [Eqq f] (a : α) : ∀ xs : List α, ((xs.map f).any fun y => deq y (f a)) = decide (a ∈ xs)
  | [] => rfl
  | x :: xs => by
    rw [List.map_cons, List.any_cons, mem_deq a xs, Eqq.eq (f := f)]
    by_cases h : x = a
    · subst h; simp
    · have : ¬ a = x := fun z => h z.symm
      simp [h, this]
theorem count_deq [DecidableEq α] [Eqq f] (a : α) : ∀ xs : List α, ((xs.map f).countP fun y => deq y (f a)) = xs.count a
  | [] => rfl
  | x :: xs => by
    rw [List.map_cons, List.countP_cons, count_deq a xs, List.count_cons, Eqq.eq (f := f)]
    by_cases h : x = a <;> simp [h]
theorem find_deq [DecidableEq α] [Eqq f] (a : α) : ∀ xs : List α, a ∈ xs → ((xs.map f).findIdx? fun y => deq y (f a)) = some (xs.idxOf a)
  | [], h => by cases h
  | x :: xs, h => by
    rw [List.map_cons, List.findIdx?_cons, Eqq.eq (f := f)]
    by_cases hx : x = a
    · simp [hx]
    · have : a ∈ xs := by
        rcases List.mem_cons.mp h with z | z
        · exact absurd z.symm hx
        · exact z
      have hb : (x == a) = false := by simpa using hx
      simp [hx, find_deq a xs this, List.idxOf_cons, hb]
end
instance : Pl D.int 0 := ⟨fun n a _ => by cases n <;> rfl, fun _ => rfl⟩
instance : Pl (fun a => D.int a) 0 := ⟨fun n a _ => by cases n <;> rfl, fun _ => rfl⟩
instance {α : Type} {g : α → Int} : Pl (fun a => D.int (g a)) 0 := ⟨fun n a _ => by cases n <;> rfl, fun _ => rfl⟩
instance {α : Type} {g : α → Bool} : Pl (fun a => D.bl (g a)) 0 := ⟨fun n a _ => by cases n <;> rfl, fun _ => rfl⟩
instance {α : Type} {g : α → Str} : Pl (fun a => D.str (g a)) 0 := ⟨fun n a _ => by cases n <;> rfl, fun _ => rfl⟩
instance : Pl D.str 0 := ⟨fun n a _ => by cases n <;> rfl, fun _ => rfl⟩
instance : Pl D.bl 0 := ⟨fun n a _ => by cases n <;> rfl, fun _ => rfl⟩
instance {α β : Type} {f : α → D} {m : Nat} {g : β → List α} [Pl f m] : Pl (fun b => D.tup ((g b).map f)) (m + 1) := ⟨fun n a h => by
  cases n with
  | zero => omega
  | succ n => simp only [dat]; exact datL_map (m := m) (by omega) _, fun _ => rfl⟩
instance {α β : Type} {f : α → D} {m : Nat} {g : β → List α} [Pl f m] : Pl (fun b => D.lst false ((g b).map f)) (m + 1) := ⟨fun n a h => by
  cases n with
  | zero => omega
  | succ n => simp only [dat]; exact datL_map (m := m) (by omega) _, fun _ => rfl⟩
instance {β : Type} {f g : β → D} {m m' : Nat} [Pl f m] [Pl g m'] : Pl (fun b => D.tup [f b, g b]) (m + m' + 1) := ⟨fun n a h => by
  cases n with
  | zero => omega
  | succ n => simp [dat, datL, Pl.dat (f := f) n a (by omega), Pl.dat (f := g) n a (by omega)], fun _ => rfl⟩
instance {β : Type} {f g h : β → D} {m m' m'' : Nat} [Pl f m] [Pl g m'] [Pl h m''] : Pl (fun b => D.tup [f b, g b, h b]) (m + m' + m'' + 1) := ⟨fun n a h' => by
  cases n with
  | zero => omega
  | succ n => simp [dat, datL, Pl.dat (f := f) n a (by omega), Pl.dat (f := g) n a (by omega), Pl.dat (f := h) n a (by omega)], fun _ => rfl⟩
instance : Eqq D.int := ⟨fun a b => by simp only [deq]; by_cases h : a = b <;> simp [h]⟩
instance : Eqq (fun a => D.int a) := ⟨fun a b => by simp only [deq]; by_cases h : a = b <;> simp [h]⟩
instance : Eqq (fun k : Nat => D.int (k : Int)) := ⟨fun a b => by
  simp only [deq]
  by_cases h : a = b
  · simp [h]
  · have : ¬ (a : Int) = b := by omega
    simp [h, this]⟩
instance : Eqq D.bl := ⟨fun a b => by cases a <;> cases b <;> rfl⟩
instance {α : Type} [DecidableEq α] {f : α → D} [Eqq f] : Eqq (fun xs : List α => D.tup (xs.map f)) := ⟨fun a b => by simp only [deq]; exact deqL_map a b⟩
instance {α : Type} [DecidableEq α] {f : α → D} {o : Bool} [Eqq f] : Eqq (fun xs : List α => D.lst o (xs.map f)) := ⟨fun a b => by simp only [deq]; exact deqL_map a b⟩
/-- may be looked for in a list -/
class Ly {α : Type} (f : α → D) : Prop where
  ly : ∀ a, (toPy (f a)).canLay0 = true
theorem lyL {α : Type} {f : α → D} [Ly f] : ∀ xs : List α, PyData.canLayAll0 (toPys (xs.map f)) = true
  | [] => rfl
  | x :: xs => by simp only [List.map_cons, toPys, PyData.canLayAll0, Ly.ly (f := f) x, lyL xs, Bool.and_self]
instance : Ly D.int := ⟨fun a => by simp [toPy, PyData.canLay0]⟩
instance : Ly D.bl := ⟨fun a => by simp [toPy, PyData.canLay0]⟩
instance {α β : Type} {f : α → D} {g : β → List α} [Ly f] : Ly (fun b => D.tup ((g b).map f)) := ⟨fun a => by simp only [toPy, PyData.canLay0]; exact lyL _⟩
instance {α β : Type} {f : α → D} {o : Bool} {g : β → List α} [Ly f] : Ly (fun b => D.lst o ((g b).map f)) := ⟨fun a => by simp only [toPy, PyData.canLay0]; exact lyL _⟩
instance {β : Type} {f g : β → D} [Ly f] [Ly g] : Ly (fun b => D.tup [f b, g b]) := ⟨fun a => by simp [toPy, toPys, PyData.canLay0, PyData.canLayAll0, Ly.ly (f := f) a, Ly.ly (f := g) a]⟩
/-! operators -/
section
variable {α β : Type} {f : α → D} {i j : Int} {b b' : Bool} {xs ys : List α} {o : Bool} {ds es : List D} {d d' : D}
theorem b_add : Bn .add (.int i) (.int j) (.int (i + j)) := ⟨rfl⟩
theorem b_sub : Bn .sub (.int i) (.int j) (.int (i - j)) := ⟨rfl⟩
theorem b_mul (h : mulOk i j = true) : Bn .mul (.int i) (.int j) (.int (i * j)) := ⟨by simp only [binD, h, if_true]⟩
theorem b_fdiv (h : 0 < j) (h2 : j < 2 ^ 63) : Bn .fdiv (.int i) (.int j) (.int (i / j)) := ⟨by
  have : 0 < j ∧ j.natAbs < 2 ^ 9000 := ⟨h, by
    have : j.natAbs < 2 ^ 63 := by omega
    exact Nat.lt_of_lt_of_le this (Nat.pow_le_pow_right (by decide) (by decide))⟩
  simp only [binD, if_pos this, Int.fdiv_eq_ediv_of_nonneg _ (Int.le_of_lt h)]⟩
theorem b_mod (h : 0 < j) : Bn .mod (.int i) (.int j) (.int (i % j)) := ⟨by
  have : j ≠ 0 := by omega
  simp only [binD, if_pos this, Int.fmod_eq_emod_of_nonneg _ (Int.le_of_lt h)]⟩
theorem b_addT (h : xs.length + ys.length ≤ LIM) : Bn .add (.tup (xs.map f)) (.tup (ys.map f)) (.tup ((xs ++ ys).map f)) := ⟨by
  simp only [binD, List.length_map, if_pos h, List.map_append]⟩
theorem b_addL {o' : Bool} (h : xs.length + ys.length ≤ LIM) : Bn .add (.lst o (xs.map f)) (.lst o' (ys.map f)) (.lst true ((xs ++ ys).map f)) := ⟨by
  simp only [binD, List.length_map, if_pos h, List.map_append]⟩
theorem b_addTd (h : ds.length + es.length ≤ LIM) : Bn .add (.tup ds) (.tup es) (.tup (ds ++ es)) := ⟨by simp only [binD, if_pos h]⟩
theorem b_addLd {o' : Bool} (h : ds.length + es.length ≤ LIM) : Bn .add (.lst o ds) (.lst o' es) (.lst true (ds ++ es)) := ⟨by simp only [binD, if_pos h]⟩
theorem flat_rep {γ : Type} (x : γ) : ∀ n : Nat, (List.replicate n [x]).flatten = List.replicate n x
  | 0 => rfl
  | n + 1 => by rw [List.replicate_succ, List.flatten_cons, flat_rep x n]; rfl
theorem b_repL (h : 0 ≤ j) (h2 : j < 16777216) : Bn .mul (.lst o [d]) (.int j) (.lst true (List.replicate j.toNat d)) := ⟨by
  have : (0 ≤ j ∧ j < 16777216 ∧ [d].length * j.toNat ≤ LIM) := ⟨h, h2, by simp only [LIM, List.length_cons, List.length_nil]; omega⟩
  simp only [binD, repD, if_pos this, flat_rep, Option.map_some]⟩
theorem b_repT (h : -1000 ≤ j) (h2 : j ≤ 1000) : Bn .mul (.tup [d]) (.int j) (.tup (List.replicate j.toNat d)) := ⟨by
  have : ([d] ≠ [] ∧ -1000 ≤ j ∧ j ≤ 1000 ∧ [d].length ≤ 1000) := ⟨by simp, h, h2, by simp⟩
  simp only [binD, if_pos this, flat_rep]⟩
theorem b_pow (h : 0 ≤ j ∧ j ≤ 1000000 ∧ i.natAbs < 2 ^ 64) : Bn .pow (.int i) (.int j) (.int (i ^ j.toNat)) := ⟨by simp only [binD, if_pos h]⟩
theorem c_eq : Cm .eq (.int i) (.int j) (decide (i = j)) := ⟨by simp [cmpD, dat, deq, DP]; rfl⟩
theorem c_ne : Cm .ne (.int i) (.int j) (!decide (i = j)) := ⟨by simp [cmpD, dat, deq, DP]; rfl⟩
theorem c_eqb : Cm .eq (.bl b) (.bl b') (b == b') := ⟨by simp [cmpD, dat, deq, DP]⟩
theorem c_neb : Cm .ne (.bl b) (.bl b') (!(b == b')) := ⟨by simp [cmpD, dat, deq, DP]⟩
theorem c_eqS {x y : Str} : Cm .eq (.str x) (.str y) (x == y) := ⟨by simp [cmpD, dat, deq, DP]⟩
theorem c_neS {x y : Str} : Cm .ne (.str x) (.str y) (!(x == y)) := ⟨by simp [cmpD, dat, deq, DP]⟩
theorem c_lt : Cm .lt (.int i) (.int j) (decide (i < j)) := ⟨rfl⟩
theorem c_le : Cm .le (.int i) (.int j) (decide (i ≤ j)) := ⟨rfl⟩
theorem c_gt : Cm .gt (.int i) (.int j) (decide (j < i)) := ⟨rfl⟩
theorem c_ge : Cm .ge (.int i) (.int j) (decide (j ≤ i)) := ⟨rfl⟩
theorem c_eqT {m : Nat} [DecidableEq α] [Pl f m] [Eqq f] (hm : m ≤ 59) : Cm .eq (.tup (xs.map f)) (.tup (ys.map f)) (decide (xs = ys)) := ⟨by
  simp [cmpD, DP, dat, datL_map hm, deq, deqL_map]⟩
theorem c_neT {m : Nat} [DecidableEq α] [Pl f m] [Eqq f] (hm : m ≤ 59) : Cm .ne (.tup (xs.map f)) (.tup (ys.map f)) (!decide (xs = ys)) := ⟨by
  simp [cmpD, DP, dat, datL_map hm, deq, deqL_map]⟩
theorem c_eqL {m : Nat} {o' : Bool} [DecidableEq α] [Pl f m] [Eqq f] (hm : m ≤ 59) : Cm .eq (.lst o (xs.map f)) (.lst o' (ys.map f)) (decide (xs = ys)) := ⟨by
  simp [cmpD, DP, dat, datL_map hm, deq, deqL_map]⟩
theorem c_neL {m : Nat} {o' : Bool} [DecidableEq α] [Pl f m] [Eqq f] (hm : m ≤ 59) : Cm .ne (.lst o (xs.map f)) (.lst o' (ys.map f)) (!decide (xs = ys)) := ⟨by
  simp [cmpD, DP, dat, datL_map hm, deq, deqL_map]⟩
theorem c_eqT0 {m : Nat} [Pl f m] (hm : m ≤ 59) : Cm .eq (.tup (xs.map f)) (.tup []) (xs.isEmpty) := ⟨by
  have : deqL (xs.map f) [] = xs.isEmpty := by cases xs <;> rfl
  simp [cmpD, DP, dat, datL_map hm, deq, this, datL]⟩
theorem c_isn {x : Int} : Cm .is (.int x) .non (false) := ⟨rfl⟩
def inB [DecidableEq α] (a : α) (xs : List α) : Bool := decide (a ∈ xs)
theorem inB_eq [DecidableEq α] {a : α} : inB a xs = true ↔ a ∈ xs := by simp [inB]
theorem inB_eqf [DecidableEq α] {a : α} : inB a xs = false ↔ a ∉ xs := by simp [inB]
theorem c_innT {m : Nat} [DecidableEq α] [Pl f m] [Eqq f] {a : α} (hd : d = f a) (hm : m ≤ 60) : Cm .inn d (.tup (xs.map f)) (inB a xs) := ⟨by
  subst hd; simp [inB, cmpD, DP, Pl.dat (f := f) 60 a hm, datL_map hm, mem_deq, -List.any_map]⟩
theorem c_innL {m : Nat} [DecidableEq α] [Pl f m] [Eqq f] {a : α} (hd : d = f a) (hm : m ≤ 60) : Cm .inn d (.lst o (xs.map f)) (inB a xs) := ⟨by
  subst hd; simp [inB, cmpD, DP, Pl.dat (f := f) 60 a hm, datL_map hm, mem_deq, -List.any_map]⟩
theorem c_ninT {m : Nat} [DecidableEq α] [Pl f m] [Eqq f] {a : α} (hd : d = f a) (hm : m ≤ 60) : Cm .nin d (.tup (xs.map f)) (!inB a xs) := ⟨by
  subst hd; simp [inB, cmpD, DP, Pl.dat (f := f) 60 a hm, datL_map hm, mem_deq, -List.any_map]⟩
theorem c_ninL {m : Nat} [DecidableEq α] [Pl f m] [Eqq f] {a : α} (hd : d = f a) (hm : m ≤ 60) : Cm .nin d (.lst o (xs.map f)) (!inB a xs) := ⟨by
  subst hd; simp [inB, cmpD, DP, Pl.dat (f := f) 60 a hm, datL_map hm, mem_deq, -List.any_map]⟩
/-! indices, slices -/
def at' [Inhabited α] (xs : List α) (i : Int) : α := (L2.atI xs i).getD default
theorem ixN_ok {n : Nat} (h : -(n : Int) ≤ i) (h2 : i < n) : L2.ixN n i = some (if 0 ≤ i then i.toNat else (i + n).toNat) := by
  unfold L2.ixN
  split
  · simp [h2]
  · simp [h]
theorem atI_at [Inhabited α] (h : -(xs.length : Int) ≤ i) (h2 : i < xs.length) : L2.atI xs i = some (at' xs i) := by
  simp only [at', L2.atI, ixN_ok h h2, Option.bind_some]
  have : (if 0 ≤ i then i.toNat else (i + xs.length).toNat) < xs.length := by split <;> omega
  rw [List.getElem?_eq_getElem this]; rfl
theorem at_nat [Inhabited α] (k : Nat) : at' xs (k : Int) = xs.getD k default := by
  simp only [at', L2.atI, L2.ixN, Int.natCast_nonneg, if_true, Int.toNat_natCast, List.getD_eq_getElem?_getD]
  by_cases h : (k : Int) < xs.length
  · simp [h]
  · have : xs.length ≤ k := by omega
    simp [h, List.getElem?_eq_none this]
theorem at_mem [Inhabited α] (h : -(xs.length : Int) ≤ i) (h2 : i < xs.length) : at' xs i ∈ xs := by
  have := atI_at h h2
  simp only [L2.atI, ixN_ok h h2, Option.bind_some] at this
  exact List.mem_of_getElem? this
theorem ix_map [Inhabited α] (h : -(xs.length : Int) ≤ i ∧ i < xs.length) : Ixd (.tup (xs.map f)) (.int i) (f (at' xs i)) := ⟨by
  show L2.atI _ _ = _
  have := atI_at h.1 h.2
  simp only [L2.atI, List.length_map, ixN_ok h.1 h.2, Option.bind_some, List.getElem?_map] at this ⊢
  rw [this]; rfl⟩
theorem ix_mapL [Inhabited α] (h : -(xs.length : Int) ≤ i ∧ i < xs.length) : Ixd (.lst o (xs.map f)) (.int i) (f (at' xs i)) := ⟨by
  show L2.atI _ _ = _
  have := atI_at h.1 h.2
  simp only [L2.atI, List.length_map, ixN_ok h.1 h.2, Option.bind_some, List.getElem?_map] at this ⊢
  rw [this]; rfl⟩
def cutA (xs : List α) (lo hi : Option Int) : List α := List.take (HT.sIx xs.length xs.length hi - HT.sIx xs.length 0 lo) (List.drop (HT.sIx xs.length 0 lo) xs)
theorem cut_map {lo hi : Option Int} : cutD (xs.map f) lo hi = (cutA xs lo hi).map f := by simp only [cutD, cutA, List.length_map, List.map_take, List.map_drop]
theorem s_tup {lo hi : Option Int} : Scd (.tup (xs.map f)) lo hi (.tup ((cutA xs lo hi).map f)) := ⟨by simp only [slcD, cut_map]⟩
theorem s_lst {lo hi : Option Int} : Scd (.lst o (xs.map f)) lo hi (.lst true ((cutA xs lo hi).map f)) := ⟨by simp only [slcD, cut_map]⟩
theorem r_tup : Rvd (.tup (xs.map f)) (.tup (xs.reverse.map f)) := ⟨by simp only [revD, List.map_reverse]⟩
theorem r_lst : Rvd (.lst o (xs.map f)) (.lst true (xs.reverse.map f)) := ⟨by simp only [revD, List.map_reverse]⟩
/-! built-ins -/
theorem g_lenT : Bid .len [.tup (xs.map f)] (.int xs.length) := ⟨by simp [biD]⟩
theorem g_lenL : Bid .len [.lst o (xs.map f)] (.int xs.length) := ⟨by simp [biD]⟩
theorem g_tupL : Bid .tuple [.lst o ds] (.tup ds) := ⟨rfl⟩
theorem g_tupT : Bid .tuple [.tup ds] (.tup ds) := ⟨rfl⟩
theorem g_lstL : Bid .list [.lst o ds] (.lst true ds) := ⟨rfl⟩
theorem g_lstT : Bid .list [.tup ds] (.lst true ds) := ⟨rfl⟩
theorem g_int : Bid .int [.int i] (.int i) := ⟨rfl⟩
theorem g_intb : Bid .int [.bl b] (.int (b2 b)) := ⟨rfl⟩
theorem g_abs : Bid .abs [.int i] (.int (if i < 0 then -i else i)) := ⟨rfl⟩
theorem bls_map (xs : List α) (p : α → Bool) : bls (xs.map fun x => .bl (p x)) = some (xs.map p) := by
  induction xs with
  | nil => rfl
  | cons x xs ih => simp [bls, ih]
theorem nums_map (xs : List Int) : nums (xs.map .int) = some xs := by
  induction xs with
  | nil => rfl
  | cons x xs ih => simp [nums, ih]
theorem nums_mapg (xs : List α) (p : α → Int) : nums (xs.map fun x => .int (p x)) = some (xs.map p) := by
  induction xs with
  | nil => rfl
  | cons x xs ih => simp [nums, ih]
theorem g_all {p : α → Bool} : Bid .all [.lst o (xs.map fun a => .bl (p a))] (.bl (xs.all p)) := ⟨by simp [biD, bls_map, List.all_map, Function.comp_def]⟩
theorem g_any {p : α → Bool} : Bid .any [.lst o (xs.map fun a => .bl (p a))] (.bl (xs.any p)) := ⟨by simp [biD, bls_map, List.any_map, Function.comp_def]⟩
theorem g_sum {p : α → Int} : Bid .sum [.lst o (xs.map fun a => .int (p a))] (.int (xs.map p).sum) := ⟨by simp only [biD, nums_mapg, Option.map_some]⟩
theorem g_sumT {p : α → Int} : Bid .sum [.tup (xs.map fun a => .int (p a))] (.int (xs.map p).sum) := ⟨by simp only [biD, nums_mapg, Option.map_some]⟩
def mxI (s : List Int) : Int := (maxI s).getD 0
def mnI (s : List Int) : Int := (minI s).getD 0
theorem mxI_some {s : List Int} (h : s ≠ []) : maxI s = some (mxI s) := by
  cases s with
  | nil => exact absurd rfl h
  | cons x s => rfl
theorem mnI_some {s : List Int} (h : s ≠ []) : minI s = some (mnI s) := by
  cases s with
  | nil => exact absurd rfl h
  | cons x s => rfl
theorem g_maxT {p : α → Int} (h : xs ≠ []) : Bid .max1 [.tup (xs.map fun a => .int (p a))] (.int (mxI (xs.map p))) := ⟨by
  simp only [biD, nums_mapg, Option.bind_some, mxI_some (s := xs.map p) (by simpa using h), Option.map_some]⟩
theorem g_maxL {p : α → Int} (h : xs ≠ []) : Bid .max1 [.lst o (xs.map fun a => .int (p a))] (.int (mxI (xs.map p))) := ⟨by
  simp only [biD, nums_mapg, Option.bind_some, mxI_some (s := xs.map p) (by simpa using h), Option.map_some]⟩
theorem g_minT {p : α → Int} (h : xs ≠ []) : Bid .min1 [.tup (xs.map fun a => .int (p a))] (.int (mnI (xs.map p))) := ⟨by
  simp only [biD, nums_mapg, Option.bind_some, mnI_some (s := xs.map p) (by simpa using h), Option.map_some]⟩
theorem g_minL {p : α → Int} (h : xs ≠ []) : Bid .min1 [.lst o (xs.map fun a => .int (p a))] (.int (mnI (xs.map p))) := ⟨by
  simp only [biD, nums_mapg, Option.bind_some, mnI_some (s := xs.map p) (by simpa using h), Option.map_some]⟩
theorem g_maxT0 {s : List Int} (h : s ≠ []) : Bid .max1 [.tup (s.map .int)] (.int (mxI s)) := ⟨by simp only [biD, nums_map, Option.bind_some, mxI_some h, Option.map_some]⟩
theorem g_maxL0 {s : List Int} (h : s ≠ []) : Bid .max1 [.lst o (s.map .int)] (.int (mxI s)) := ⟨by simp only [biD, nums_map, Option.bind_some, mxI_some h, Option.map_some]⟩
theorem g_minT0 {s : List Int} (h : s ≠ []) : Bid .min1 [.tup (s.map .int)] (.int (mnI s)) := ⟨by simp only [biD, nums_map, Option.bind_some, mnI_some h, Option.map_some]⟩
theorem g_minL0 {s : List Int} (h : s ≠ []) : Bid .min1 [.lst o (s.map .int)] (.int (mnI s)) := ⟨by simp only [biD, nums_map, Option.bind_some, mnI_some h, Option.map_some]⟩
theorem g_sumT0 {s : List Int} : Bid .sum [.tup (s.map .int)] (.int s.sum) := ⟨by simp only [biD, nums_map, Option.map_some]⟩
theorem g_sumL0 {s : List Int} : Bid .sum [.lst o (s.map .int)] (.int s.sum) := ⟨by simp only [biD, nums_map, Option.map_some]⟩
theorem g_sortI0 {s : List Int} : Bid .sorted [.lst o (s.map .int)] (.lst true ((sortI s).map .int)) := ⟨by simp only [biD, nums_map, Option.map_some]⟩
theorem g_max2 : Bid .max2 [.int i, .int j] (.int (if j > i then j else i)) := ⟨rfl⟩
theorem g_min2 : Bid .min2 [.int i, .int j] (.int (if j < i then j else i)) := ⟨rfl⟩
theorem g_sortI {p : α → Int} : Bid .sorted [.lst o (xs.map fun a => .int (p a))] (.lst true ((sortI (xs.map p)).map .int)) := ⟨by simp only [biD, nums_mapg, Option.map_some]⟩
theorem g_inst {s : String} (h : tyIs d s = some b) : Bid .isinst [d, .ty s] (.bl b) := ⟨by simp only [biD, isInst, h, Option.map_some]⟩
theorem g_inst2 {s s' : String} (h : tyIs d s = some b) (h2 : tyIs d s' = some b') : Bid .isinst [d, .tup [.ty s, .ty s']] (.bl (b || b')) := ⟨by simp [biD, isInst, isAny, h, h2]⟩
theorem m_countT {m : Nat} [DecidableEq α] [Pl f m] [Eqq f] {a : α} (hd : d = f a) (hm : m ≤ 60) : Med .count (.tup (xs.map f)) [d] (.int (xs.count a)) := ⟨by
  subst hd; simp [meD, DP, Pl.dat (f := f) 60 a hm, datL_map hm, count_deq, -List.countP_map]⟩
theorem m_countL {m : Nat} [DecidableEq α] [Pl f m] [Eqq f] {a : α} (hd : d = f a) (hm : m ≤ 60) : Med .count (.lst o (xs.map f)) [d] (.int (xs.count a)) := ⟨by
  subst hd; simp [meD, DP, Pl.dat (f := f) 60 a hm, datL_map hm, count_deq, -List.countP_map]⟩
def ixO [DecidableEq α] (xs : List α) (a : α) : Nat := xs.idxOf a
theorem m_idxL {m : Nat} [DecidableEq α] [Pl f m] [Eqq f] [Ly f] {a : α} (hd : d = f a) (hm : m ≤ 60) (h : a ∈ xs) : Med .index (.lst o (xs.map f)) [d] (.int (ixO xs a)) := ⟨by
  subst hd; simp [ixO, meD, DP, Pl.dat (f := f) 60 a hm, datL_map hm, find_deq a xs h, Ly.ly (f := f) a, lyL, -List.findIdx?_map]⟩
/-! what is walked -/
theorem q_rng1 (h : 0 ≤ j) (h2 : j < 2 ^ 62) : Rgd [.int j] ((List.range j.toNat).map fun k : Nat => D.int (k : Int)) := ⟨by
  have : rngOk 0 j = true := by simp only [rngOk, Bool.and_eq_true, decide_eq_true_eq]; omega
  simp only [rngD, this, if_true, rngL, Int.zero_add]⟩
theorem q_rng2 (h : -(2 ^ 62) ≤ i) (h1 : i < 2 ^ 62) (h2 : j < 2 ^ 62) (h3 : -(2 ^ 62) ≤ j) : Rgd [.int i, .int j] ((List.range (j - i).toNat).map fun k : Nat => D.int (i + (k : Int))) := ⟨by
  have : rngOk i j = true := by simp only [rngOk, Bool.and_eq_true, decide_eq_true_eq]; omega
  simp only [rngD, this, if_true, rngL]⟩
theorem zip_map0 {g : β → D} {ys : List β} : pairUp (xs.map f) (ys.map g) = (xs.zip ys).map fun p => .pr (f p.1) (g p.2) := by
  unfold pairUp; rw [List.zip_map, List.map_map]; rfl
theorem enm_map0 : enumUp (xs.map f) = xs.zipIdx.map fun p => .pr (.int (p.2 : Int)) (f p.1) := by
  unfold enumUp
  rw [List.length_map]
  apply List.ext_getElem?
  intro k
  simp only [List.getElem?_map, List.getElem?_zip_eq_some, List.getElem?_zipIdx]
  by_cases h : k < xs.length
  · simp [h]
  · have h2 : xs.length ≤ k := by omega
    simp [h2]
theorem zip_map {g : β → D} {ys : List β} : Im (pairUp (xs.map f) (ys.map g)) (xs.zip ys) (fun p => .pr (f p.1) (g p.2)) := ⟨zip_map0⟩
theorem enm_map : Im (enumUp (xs.map f)) xs.zipIdx (fun p => .pr (.int (p.2 : Int)) (f p.1)) := ⟨enm_map0⟩
theorem im_map : Im (xs.map f) xs f := ⟨rfl⟩
theorem im_lst : Im ds ds (fun d => d) := ⟨by simp⟩
theorem it_tup : Itd (.tup ds) ds := ⟨rfl⟩
theorem it_lst : Itd (.lst o ds) ds := ⟨rfl⟩
theorem td_bl : Trd (.bl b) b := ⟨rfl⟩
theorem td_int : Trd (.int i) (i != 0) := ⟨rfl⟩
theorem td_tup : Trd (.tup (xs.map f)) (!xs.isEmpty) := ⟨by simp [trD]⟩
theorem td_lst : Trd (.lst o (xs.map f)) (!xs.isEmpty) := ⟨by simp [trD]⟩
theorem td_tupd : Trd (.tup ds) (!ds.isEmpty) := ⟨rfl⟩
theorem td_lstd : Trd (.lst o ds) (!ds.isEmpty) := ⟨rfl⟩
theorem mt_cT : Mtd .count (.tup ds) ("tuple", "tuple.count") := ⟨rfl⟩
theorem mt_cL : Mtd .count (.lst o ds) ("list", "list.count") := ⟨rfl⟩
theorem mt_iL : Mtd .index (.lst o ds) ("list", "list.index") := ⟨rfl⟩
def iot (j : Int) : List Int := (List.range j.toNat).map fun k : Nat => (k : Int)
theorem mem_iot {i j : Int} : i ∈ iot j ↔ 0 ≤ i ∧ i < j := by
  simp only [iot, List.mem_map, List.mem_range]
  constructor
  · rintro ⟨k, h, rfl⟩; omega
  · intro ⟨h, h2⟩; exact ⟨i.toNat, by omega, by omega⟩
theorem iot_len {j : Int} : (iot j).length = j.toNat := by simp [iot]
theorem x_listR (h : 0 ≤ j ∧ j ≤ 16777216) : Bxd .listR [.int j] (.lst true ((iot j).map .int)) := ⟨by
  have e := (q_rng1 (j := j) h.1 (by omega)).h
  simp only [bxD, e, Option.bind_some, List.length_map, List.length_range]
  rw [if_pos (show j.toNat ≤ LIM by simp only [LIM]; omega)]
  simp [iot]⟩
theorem x_ssetL {s : List Int} (h : s.eraseDups.length < 64 ∧ s.length ≤ 4000) : Bxd .sortset [.lst o (s.map .int)] (.lst true ((setI s).map .int)) := ⟨by
  simp only [bxD, itemsD, Option.bind_some, nums_map, if_pos h]⟩
theorem x_ssetT {s : List Int} (h : s.eraseDups.length < 64 ∧ s.length ≤ 4000) : Bxd .sortset [.tup (s.map .int)] (.lst true ((setI s).map .int)) := ⟨by
  simp only [bxD, itemsD, Option.bind_some, nums_map, if_pos h]⟩
theorem c_isInt : Cm .is (.int i) .non false := ⟨rfl⟩
theorem c_isBl : Cm .is (.bl b) .non false := ⟨rfl⟩
theorem c_isStr {x : Str} : Cm .is (.str x) .non false := ⟨rfl⟩
theorem c_isTup : Cm .is (.tup ds) .non false := ⟨rfl⟩
theorem c_isLst : Cm .is (.lst o ds) .non false := ⟨rfl⟩
theorem c_isNon : Cm .is .non .non true := ⟨rfl⟩
theorem c_isnInt : Cm .isn (.int i) .non true := ⟨rfl⟩
theorem c_isnBl : Cm .isn (.bl b) .non true := ⟨rfl⟩
theorem c_isnStr {x : Str} : Cm .isn (.str x) .non true := ⟨rfl⟩
theorem c_isnTup : Cm .isn (.tup ds) .non true := ⟨rfl⟩
theorem c_isnLst : Cm .isn (.lst o ds) .non true := ⟨rfl⟩
theorem c_isnNon : Cm .isn .non .non false := ⟨rfl⟩
end
/-- the source of draws -/
structure Tn where
  a : Int
  b : Int
  c : Int
def tnD (t : Tn) : D := .lst true [.int t.a, .int t.b, .int t.c]
theorem own_tnD {t : Tn} : own (tnD t) = true := rfl
theorem own_lt {xs : List D} : own (.lst true xs) = true := rfl
theorem own_lf {xs : List D} : own (.lst false xs) = false := rfl
theorem own_tup {xs : List D} : own (.tup xs) = false := rfl
theorem own_int {i : Int} : own (.int i) = false := rfl
theorem own_bl {b : Bool} : own (.bl b) = false := rfl
theorem own_str {x : PySem.Str} : own (.str x) = false := rfl
theorem own_non : own .non = false := rfl
theorem own_fn {x : PySem.Str} : own (.fn x) = false := rfl
theorem own_pr {x y : D} : own (.pr x y) = false := rfl
theorem mok_r {i j : Int} (h1 : -18446744073709551616 < j) (h2 : j < 18446744073709551616) : mulOk i j = true := by
  simp only [mulOk, Bool.or_eq_true, Bool.and_eq_true, decide_eq_true_eq]
  exact .inl (.inr ⟨by simpa using h1, by simpa using h2⟩)
theorem mok_l {i j : Int} (h1 : -18446744073709551616 < i) (h2 : i < 18446744073709551616) : mulOk i j = true := by
  simp only [mulOk, Bool.or_eq_true, Bool.and_eq_true, decide_eq_true_eq]
  exact .inl (.inl ⟨by simpa using h1, by simpa using h2⟩)
end VP

set_option Elab.async false
set_option linter.all false
set_option maxRecDepth 100000
namespace VP
open PySem
def c_run_from : Df := ⟨["line", "start", "place"], 2, [], [(.asg (.nm 2) (.var 1)), (.whl (.and (.tr (.cmp .lt (.var 2) (.bi .len [(.var 0)]))) (.tr (.cmp .inn (.ix (.var 0) (.var 2)) (.glo "SIGNS")))) [(.aug 2 (.int (1)))]), (.ret (.slc (.var 0) (.pt (.var 1)) (.pt (.var 2))))]⟩
class D_run_from (T : Tb) : Prop where df_run_from : T.df "run_from" = some c_run_from
def c_line_words : Df := ⟨["line", "number", "found", "place", "own"], 2, [], [(.par [(.nm 2), (.nm 3)] [(.lst []), (.int (0))]), (.whl (.and (.tr (.cmp .lt (.var 3) (.bi .len [(.var 0)]))) (.tr (.cmp .ne (.ix (.var 0) (.var 3)) (.glo "REMARK")))) [(.asg (.nm 4) (.call "run_from" [(.var 0), (.var 3)])), (.ifs (.tr (.cmp .ne (.var 4) (.str ""))) [(.exp (.mut .append 2 [(.tup [(.var 4), (.var 1)])]))] [(.ifs (.tr (.cmp .ne (.ix (.var 0) (.var 3)) (.str " "))) [(.rse "" [])] [])]), (.aug 3 (.bi .max2 [(.int (1)), (.bi .len [(.var 4)])]))]), (.ret (.var 2))]⟩
class D_line_words (T : Tb) : Prop extends D_run_from T where df_line_words : T.df "line_words" = some c_line_words
def c_words : Df := ⟨["text", "found", "number", "line"], 1, [], [(.asg (.nm 1) (.lst [])), (.for_ (.tp [(.nm 2), (.nm 3)]) (.enm (.sr (.me .split (.var 0) [(.str "\n")]))) [(.exp (.mut .extend 1 [(.call "line_words" [(.var 3), (.var 2)])]))]), (.ret (.var 1))]⟩
class D_words (T : Tb) : Prop extends D_line_words T where df_words : T.df "words" = some c_words
def c_figures_of : Df := ⟨["word", "found", "sign"], 1, [], [(.ifs (.or (.tr (.cmp .eq (.var 0) (.str ""))) (.or (.tr (.cmp .gt (.bi .len [(.var 0)]) (.glo "LONGEST"))) (.nt (.tr (.bi .all [(.comp (.cmp .inn (.var 2) (.glo "FIGURES")) (.nm 2) (.hold 0) (.tr (.bl true)) [("sign", 2)])]))))) [(.ret .non)] []), (.ifs (.and (.tr (.cmp .eq (.ix (.var 0) (.int (0))) (.str "0"))) (.tr (.cmp .ne (.var 0) (.str "0")))) [(.ret .non)] []), (.asg (.nm 1) (.int (0))), (.for_ (.nm 2) (.hold 0) [(.asg (.nm 1) (.bin .add (.bin .mul (.var 1) (.int (10))) (.me .index (.glo "FIGURES") [(.var 2)])))]), (.ret (.var 1))]⟩
class D_figures_of (T : Tb) : Prop where df_figures_of : T.df "figures_of" = some c_figures_of
def c_number_of : Df := ⟨["word", "found"], 1, [], [(.ifs (.tr (.cmp .ne (.slc (.var 0) .nil (.pt (.int (1)))) (.glo "MINUS"))) [(.ret (.call "figures_of" [(.var 0)]))] []), (.asg (.nm 1) (.call "figures_of" [(.slc (.var 0) (.pt (.int (1))) .nil)])), (.ret (.ife (.or (.tr (.cmp .is (.var 1) .non)) (.tr (.cmp .eq (.var 1) (.int (0))))) .non (.bin .sub (.int (0)) (.var 1))))]⟩
class D_number_of (T : Tb) : Prop extends D_figures_of T where df_number_of : T.df "number_of" = some c_number_of
def c__law_take : Df := ⟨["tin", "below_so", "once_so", "wide_so", "twice_so", "drawn_so"], 2, [0], [(.ifs (.tr (.cmp .gt (.ix (.var 0) (.int (0))) (.int (0)))) [(.asg (.nm 5) (.bin .mod (.bi .int [(.ix (.var 0) (.int (0)))]) (.var 1))), (.setI 0 (.int (0)) (.bin .fdiv (.ix (.var 0) (.int (0))) (.var 1))), (.ret (.var 5))] []), (.setI 0 (.int (2)) (.bin .add (.ix (.var 0) (.int (2))) (.int (1)))), (.asg (.nm 2) (.bin .mod (.bi .int [(.bin .mul (.bin .add (.ix (.var 0) (.int (1))) (.bin .mul (.int (48271)) (.ix (.var 0) (.int (2))))) (.bin .add (.int (40961)) (.ix (.var 0) (.int (2)))))]) (.int (2147483647)))), (.asg (.nm 3) (.bin .add (.bin .mod (.bi .int [(.var 2)]) (.int (40009))) (.int (7)))), (.asg (.nm 4) (.bin .mod (.bi .int [(.bin .mul (.bin .add (.bin .add (.var 2) (.ix (.var 0) (.int (2)))) (.bin .fdiv (.ix (.var 0) (.int (1))) (.int (1000003)))) (.var 3))]) (.int (2147483629)))), (.ret (.bin .mod (.bi .int [(.bin .fdiv (.bin .mod (.bi .int [(.bin .add (.bin .mul (.var 4) (.int (48271))) (.var 2))]) (.int (2147483587))) (.int (64)))]) (.var 1)))]⟩
class D__law_take (T : Tb) : Prop where df__law_take : T.df "_law_take" = some c__law_take
def c__law_cells : Df := ⟨["script", "most_so", "cells_so", "k", "bit_so", "at_so"], 2, [], [(.asg (.nm 2) (.or (.bi .list [(.slc (.var 0) .nil (.pt (.var 1)))]) (.lst [(.int (0))]))), (.for_ (.tp [(.nm 3), (.nm 4)]) (.enm (.sr (.slc (.var 0) (.pt (.var 1)) (.pt (.int (63)))))) [(.asg (.nm 5) (.bin .mod (.bi .int [(.var 3)]) (.var 1))), (.setI 2 (.var 5) (.bin .add (.ix (.var 2) (.var 5)) (.bin .mul (.var 4) (.bin .add (.var 3) (.int (2))))))]), (.ret (.var 2))]⟩
class D__law_cells (T : Tb) : Prop where df__law_cells : T.df "_law_cells" = some c__law_cells
def c__law_of : Df := ⟨["tin", "goods_so"], 2, [0], [(.ret (.ix (.var 1) (.call "_law_take" [(.var 0), (.bi .len [(.var 1)])])))]⟩
class D__law_of (T : Tb) : Prop extends D__law_take T where df__law_of : T.df "_law_of" = some c__law_of
def c__law_same : Df := ⟨["got", "due", "mine", "its"], 2, [], [(.ifs (.tr (.bi .isinst [(.var 1), (.tup [(.ty "list"), (.ty "tuple")])])) [(.ifs (.or (.tr (.cmp .ne (.bi .isinst [(.var 0), (.ty "list")]) (.bi .isinst [(.var 1), (.ty "list")]))) (.tr (.cmp .ne (.bi .isinst [(.var 0), (.ty "tuple")]) (.bi .isinst [(.var 1), (.ty "tuple")])))) [(.ret (.bl false))] []), (.ret (.and (.cmp .eq (.bi .len [(.var 0)]) (.bi .len [(.var 1)])) (.bi .all [(.comp (.call "_law_same" [(.var 2), (.var 3)]) (.tp [(.nm 2), (.nm 3)]) (.zip (.hold 0) (.hold 1)) (.tr (.bl true)) [("mine", 2), ("its", 3)])])))] []), (.ifs (.tr (.cmp .is (.var 1) .non)) [(.ret (.cmp .is (.var 0) .non))] []), (.ifs (.tr (.bi .isinst [(.var 1), (.tup [(.ty "bool"), (.ty "str")])])) [(.ret (.and (.cmp .eq (.bi .isinst [(.var 0), (.ty "bool")]) (.bi .isinst [(.var 1), (.ty "bool")])) (.and (.cmp .eq (.bi .isinst [(.var 0), (.ty "str")]) (.bi .isinst [(.var 1), (.ty "str")])) (.cmp .eq (.var 0) (.var 1)))))] []), (.ret (.and (.bi .isinst [(.var 0), (.ty "int")]) (.and (.nt (.bi .isinst [(.var 0), (.ty "bool")])) (.cmp .eq (.var 0) (.var 1)))))]⟩
class D__law_same (T : Tb) : Prop where df__law_same : T.df "_law_same" = some c__law_same
def c__law_cut : Df := ⟨["over_so", "parts_so", "one", "two"], 2, [], [(.par [(.nm 2), (.nm 3)] [(.bi .abs [(.var 0)]), (.bi .abs [(.var 1)])]), (.whl (.tr (.cmp .ne (.var 3) (.int (0)))) [(.par [(.nm 2), (.nm 3)] [(.var 3), (.bin .mod (.bi .int [(.var 2)]) (.var 3))])]), (.ifs (.tr (.cmp .lt (.var 1) (.int (0)))) [(.asg (.nm 2) (.bin .sub (.int (0)) (.var 2)))] []), (.ret (.tup [(.bin .fdiv (.var 0) (.var 2)), (.bin .fdiv (.var 1) (.var 2))]))]⟩
class D__law_cut (T : Tb) : Prop where df__law_cut : T.df "_law_cut" = some c__law_cut
def c_is_number : Df := ⟨["thing"], 1, [], [(.ret (.and (.bi .isinst [(.var 0), (.ty "int")]) (.nt (.bi .isinst [(.var 0), (.ty "bool")]))))]⟩
class D_is_number (T : Tb) : Prop where df_is_number : T.df "is_number" = some c_is_number
def c_is_from : Df := ⟨["thing", "least"], 2, [], [(.ret (.and (.call "is_number" [(.var 0)]) (.cmp .ge (.var 0) (.var 1))))]⟩
class D_is_from (T : Tb) : Prop extends D_is_number T where df_is_from : T.df "is_from" = some c_is_from
def c_is_long : Df := ⟨["thing", "length"], 2, [], [(.ret (.and (.bi .isinst [(.var 0), (.ty "tuple")]) (.cmp .eq (.bi .len [(.var 0)]) (.var 1))))]⟩
class D_is_long (T : Tb) : Prop where df_is_long : T.df "is_long" = some c_is_long
def c_tupled : Df := ⟨["value", "own"], 1, [], [(.ret (.ife (.tr (.bi .isinst [(.var 0), (.tup [(.ty "list"), (.ty "tuple")])])) (.bi .tuple [(.comp (.call "tupled" [(.var 1)]) (.nm 1) (.hold 0) (.tr (.bl true)) [("own", 1)])]) (.var 0)))]⟩
class D_tupled (T : Tb) : Prop where df_tupled : T.df "tupled" = some c_tupled
def c_power : Df := ⟨["one", "many", "lap", "top", "bottom"], 2, [], [(.par [(.nm 3), (.nm 4)] [(.int (1)), (.int (1))]), (.for_ (.nm 2) (.rng [(.var 1)]) [(.par [(.nm 3), (.nm 4)] [(.bin .mul (.var 3) (.ix (.var 0) (.int (0)))), (.bin .mul (.var 4) (.ix (.var 0) (.int (1))))])]), (.ret (.tup [(.var 3), (.var 4)]))]⟩
class D_power (T : Tb) : Prop where df_power : T.df "power" = some c_power
def c_less : Df := ⟨["one", "other"], 2, [], [(.ret (.cmp .lt (.bin .mul (.ix (.var 0) (.int (0))) (.ix (.var 1) (.int (1)))) (.bin .mul (.ix (.var 1) (.int (0))) (.ix (.var 0) (.int (1))))))]⟩
class D_less (T : Tb) : Prop where df_less : T.df "less" = some c_less
def c__law_lists : Df := ⟨["matter", "bit"], 1, [], [(.ret (.ife (.tr (.bi .isinst [(.var 0), (.tup [(.ty "list"), (.ty "tuple")])])) (.comp (.call "_law_lists" [(.var 1)]) (.nm 1) (.hold 0) (.tr (.bl true)) [("bit", 1)]) (.var 0)))]⟩
class D__law_lists (T : Tb) : Prop where df__law_lists : T.df "_law_lists" = some c__law_lists
def c__law_half_lists : Df := ⟨["matter", "deep_so", "bits_so", "bit"], 2, [], [(.ifs (.nt (.tr (.bi .isinst [(.var 0), (.tup [(.ty "list"), (.ty "tuple")])]))) [(.ret (.var 0))] []), (.asg (.nm 2) (.comp (.call "_law_half_lists" [(.var 3), (.bin .add (.var 1) (.int (1)))]) (.nm 3) (.hold 0) (.tr (.bl true)) [("bit", 3)])), (.ret (.ife (.tr (.cmp .eq (.bin .mod (.bi .int [(.var 1)]) (.int (2))) (.int (0)))) (.var 2) (.bi .tuple [(.var 2)])))]⟩
class D__law_half_lists (T : Tb) : Prop where df__law_half_lists : T.df "_law_half_lists" = some c__law_half_lists
def c__law_plus : Df := ⟨["one", "two"], 2, [], [(.ret (.call "_law_cut" [(.bin .add (.bin .mul (.ix (.var 0) (.int (0))) (.ix (.var 1) (.int (1)))) (.bin .mul (.ix (.var 1) (.int (0))) (.ix (.var 0) (.int (1))))), (.bin .mul (.ix (.var 0) (.int (1))) (.ix (.var 1) (.int (1))))]))]⟩
class D__law_plus (T : Tb) : Prop extends D__law_cut T where df__law_plus : T.df "_law_plus" = some c__law_plus
def c__law_by : Df := ⟨["one", "two"], 2, [], [(.ret (.call "_law_cut" [(.bin .mul (.ix (.var 0) (.int (0))) (.ix (.var 1) (.int (0)))), (.bin .mul (.ix (.var 0) (.int (1))) (.ix (.var 1) (.int (1))))]))]⟩
class D__law_by (T : Tb) : Prop extends D__law_cut T where df__law_by : T.df "_law_by" = some c__law_by
def c__law_per : Df := ⟨["one", "two"], 2, [], [(.ret (.call "_law_cut" [(.bin .mul (.ix (.var 0) (.int (0))) (.ix (.var 1) (.int (1)))), (.bin .mul (.ix (.var 0) (.int (1))) (.ix (.var 1) (.int (0))))]))]⟩
class D__law_per (T : Tb) : Prop extends D__law_cut T where df__law_per : T.df "_law_per" = some c__law_per
def c__law_less : Df := ⟨["one", "two"], 2, [], [(.ret (.cmp .lt (.bin .mul (.ix (.var 0) (.int (0))) (.ix (.var 1) (.int (1)))) (.bin .mul (.ix (.var 1) (.int (0))) (.ix (.var 0) (.int (1))))))]⟩
class D__law_less (T : Tb) : Prop where df__law_less : T.df "_law_less" = some c__law_less
def c__law_raised : Df := ⟨["one", "many_so", "lap", "above", "below"], 2, [], [(.par [(.nm 3), (.nm 4)] [(.int (1)), (.int (1))]), (.for_ (.nm 2) (.rng [(.var 1)]) [(.par [(.nm 3), (.nm 4)] [(.bin .mul (.var 3) (.ix (.var 0) (.int (0)))), (.bin .mul (.var 4) (.ix (.var 0) (.int (1))))])]), (.ret (.tup [(.var 3), (.var 4)]))]⟩
class D__law_raised (T : Tb) : Prop where df__law_raised : T.df "_law_raised" = some c__law_raised
def c_is_below : Df := ⟨["thing", "many"], 2, [], [(.ret (.and (.call "is_from" [(.var 0), (.int (0))]) (.cmp .lt (.var 0) (.var 1))))]⟩
class D_is_below (T : Tb) : Prop extends D_is_from T where df_is_below : T.df "is_below" = some c_is_below
def c_is_string : Df := ⟨["thing", "kind", "own"], 1, [], [(.ifs (.or (.nt (.tr (.bi .isinst [(.var 0), (.ty "tuple")]))) (.or (.tr (.cmp .eq (.var 0) (.tup []))) (.nt (.tr (.bi .all [(.comp (.call "is_from" [(.var 2), (.int (0))]) (.nm 2) (.hold 0) (.tr (.bl true)) [("own", 2)])]))))) [(.ret (.bl false))] []), (.ret (.and (.bi .all [(.comp (.cmp .inn (.var 1) (.var 0)) (.nm 1) (.rng [(.bi .min2 [(.bi .len [(.var 0)]), (.bi .max1 [(.var 0)])])]) (.tr (.bl true)) [("kind", 1)])]) (.cmp .lt (.bi .max1 [(.var 0)]) (.bi .len [(.var 0)]))))]⟩
class D_is_string (T : Tb) : Prop extends D_is_from T where df_is_string : T.df "is_string" = some c_is_string
def c_sure_string : Df := ⟨["string", "own"], 1, [], [(.asg (.nm 1) (.call "tupled" [(.var 0)])), (.ifs (.nt (.tr (.call "is_string" [(.var 1)]))) [(.rse "" [])] []), (.ret (.var 1))]⟩
class D_sure_string (T : Tb) : Prop extends D_is_string T, D_tupled T where df_sure_string : T.df "sure_string" = some c_sure_string
def c_counts_in : Df := ⟨["string", "kind"], 1, [], [(.ret (.bi .tuple [(.comp (.me .count (.var 0) [(.var 1)]) (.nm 1) (.rng [(.bin .add (.bi .max1 [(.var 0)]) (.int (1)))]) (.tr (.bl true)) [("kind", 1)])]))]⟩
class D_counts_in (T : Tb) : Prop where df_counts_in : T.df "counts_in" = some c_counts_in
def c_runs_in : Df := ⟨["string", "found", "own"], 1, [], [(.asg (.nm 1) (.lst [])), (.for_ (.nm 2) (.hold 0) [(.ifs (.and (.tr (.cmp .ne (.var 1) (.lst []))) (.tr (.cmp .eq (.ix (.ix (.var 1) (.neg (.int (1)))) (.int (0))) (.var 2)))) [(.setI 1 (.neg (.int (1))) (.tup [(.var 2), (.bin .add (.ix (.ix (.var 1) (.neg (.int (1)))) (.int (1))) (.int (1)))]))] [(.exp (.mut .append 1 [(.tup [(.var 2), (.int (1))])]))])]), (.ret (.var 1))]⟩
class D_runs_in (T : Tb) : Prop where df_runs_in : T.df "runs_in" = some c_runs_in
def c_is_wants_of : Df := ⟨["string", "thing", "counts", "own", "most"], 2, [], [(.asg (.nm 2) (.call "counts_in" [(.var 0)])), (.ifs (.or (.nt (.tr (.bi .isinst [(.var 1), (.ty "tuple")]))) (.tr (.cmp .ne (.bi .len [(.var 1)]) (.bi .len [(.var 2)])))) [(.ret (.bl false))] []), (.ret (.bi .all [(.comp (.and (.call "is_from" [(.var 3), (.int (0))]) (.cmp .le (.var 3) (.var 4))) (.tp [(.nm 3), (.nm 4)]) (.zip (.hold 1) (.hold 2)) (.tr (.bl true)) [("own", 3), ("most", 4)])]))]⟩
class D_is_wants_of (T : Tb) : Prop extends D_counts_in T, D_is_from T where df_is_wants_of : T.df "is_wants_of" = some c_is_wants_of
def c_counts : Df := ⟨["string"], 1, [], [(.ret (.call "counts_in" [(.call "sure_string" [(.var 0)])]))]⟩
class D_counts (T : Tb) : Prop extends D_counts_in T, D_sure_string T where df_counts : T.df "counts" = some c_counts
def c_runs : Df := ⟨["string"], 1, [], [(.ret (.call "runs_in" [(.call "sure_string" [(.var 0)])]))]⟩
class D_runs (T : Tb) : Prop extends D_runs_in T, D_sure_string T where df_runs : T.df "runs" = some c_runs
def c_ring_runs : Df := ⟨["string", "own", "found"], 1, [], [(.asg (.nm 1) (.call "sure_string" [(.var 0)])), (.asg (.nm 2) (.bi .len [(.call "runs_in" [(.var 1)])])), (.ret (.ife (.and (.tr (.cmp .gt (.var 2) (.int (1)))) (.tr (.cmp .eq (.ix (.var 1) (.int (0))) (.ix (.var 1) (.neg (.int (1))))))) (.bin .sub (.var 2) (.int (1))) (.var 2)))]⟩
class D_ring_runs (T : Tb) : Prop extends D_runs_in T, D_sure_string T where df_ring_runs : T.df "ring_runs" = some c_ring_runs
def c_turned : Df := ⟨["string"], 1, [], [(.ret (.rev (.call "sure_string" [(.var 0)])))]⟩
class D_turned (T : Tb) : Prop extends D_sure_string T where df_turned : T.df "turned" = some c_turned
def c_shifted : Df := ⟨["string", "bead", "own"], 2, [], [(.asg (.nm 2) (.call "sure_string" [(.var 0)])), (.ifs (.nt (.tr (.call "is_number" [(.var 1)]))) [(.rse "" [])] []), (.ifs (.nt (.tr (.call "is_below" [(.var 1), (.bi .len [(.var 2)])]))) [(.rse "" [])] []), (.ret (.bin .add (.slc (.var 2) (.pt (.var 1)) .nil) (.slc (.var 2) .nil (.pt (.var 1)))))]⟩
class D_shifted (T : Tb) : Prop extends D_is_below T, D_is_number T, D_sure_string T where df_shifted : T.df "shifted" = some c_shifted
def c_renamed : Df := ⟨["string", "names", "own", "told", "kind", "name"], 2, [], [(.par [(.nm 2), (.nm 3)] [(.call "sure_string" [(.var 0)]), (.call "tupled" [(.var 1)])]), (.ifs (.or (.nt (.tr (.bi .isinst [(.var 3), (.ty "tuple")]))) (.nt (.tr (.bi .all [(.comp (.call "is_number" [(.var 5)]) (.nm 5) (.hold 3) (.tr (.bl true)) [("name", 5)])])))) [(.rse "" [])] []), (.ifs (.tr (.cmp .ne (.bi .sorted [(.var 3)]) (.bix .listR [(.bin .add (.bi .max1 [(.var 2)]) (.int (1)))]))) [(.rse "" [])] []), (.ret (.bi .tuple [(.comp (.ix (.var 3) (.var 4)) (.nm 4) (.hold 2) (.tr (.bl true)) [("kind", 4)])]))]⟩
class D_renamed (T : Tb) : Prop extends D_is_number T, D_sure_string T, D_tupled T where df_renamed : T.df "renamed" = some c_renamed
def c_is_wants : Df := ⟨["string", "thing"], 2, [], [(.ret (.call "is_wants_of" [(.call "sure_string" [(.var 0)]), (.var 1)]))]⟩
class D_is_wants (T : Tb) : Prop extends D_is_wants_of T, D_sure_string T where df_is_wants : T.df "is_wants" = some c_is_wants
def c_part_wants : Df := ⟨["string", "top", "bottom", "own", "numbers", "many", "number"], 3, [], [(.asg (.nm 3) (.call "sure_string" [(.var 0)])), (.ifs (.or (.nt (.tr (.call "is_from" [(.var 1), (.int (0))]))) (.or (.nt (.tr (.call "is_from" [(.var 2), (.int (1))]))) (.tr (.cmp .gt (.var 1) (.var 2))))) [(.rse "" [])] []), (.asg (.nm 4) (.comp (.bin .mul (.var 5) (.var 1)) (.nm 5) (.sr (.call "counts_in" [(.var 3)])) (.tr (.bl true)) [("many", 5)])), (.ifs (.tr (.bi .any [(.comp (.cmp .ne (.bin .mod (.var 6) (.var 2)) (.int (0))) (.nm 6) (.hold 4) (.tr (.bl true)) [("number", 6)])])) [(.rse "" [])] []), (.ret (.bi .tuple [(.comp (.bin .fdiv (.var 6) (.var 2)) (.nm 6) (.hold 4) (.tr (.bl true)) [("number", 6)])]))]⟩
class D_part_wants (T : Tb) : Prop extends D_counts_in T, D_is_from T, D_sure_string T where df_part_wants : T.df "part_wants" = some c_part_wants
def c__law_mixed : Df := ⟨["tin", "goods_so", "lap", "pool_so", "found"], 2, [0], [(.par [(.nm 3), (.nm 4)] [(.bi .list [(.var 1)]), (.lst [])]), (.for_ (.nm 2) (.rng [(.bi .len [(.var 3)])]) [(.exp (.mut .append 4 [(.mut .popAt 3 [(.call "_law_take" [(.var 0), (.bi .len [(.var 3)])])])]))]), (.ret (.var 4))]⟩
class D__law_mixed (T : Tb) : Prop extends D__law_take T where df__law_mixed : T.df "_law_mixed" = some c__law_mixed
def c__law_closed : Df := ⟨["row_so", "kinds_so", "own"], 1, [], [(.asg (.nm 1) (.bix .sortset [(.var 0)])), (.ret (.bi .tuple [(.comp (.me .index (.var 1) [(.var 2)]) (.nm 2) (.hold 0) (.tr (.bl true)) [("own", 2)])]))]⟩
class D__law_closed (T : Tb) : Prop where df__law_closed : T.df "_law_closed" = some c__law_closed
def c__law_string : Df := ⟨["tin", "most_so", "kinds_so", "many_so", "wide_so", "own"], 3, [0], [(.par [(.nm 3), (.nm 4)] [(.bin .add (.int (1)) (.call "_law_take" [(.var 0), (.var 1)])), (.bin .add (.int (1)) (.call "_law_take" [(.var 0), (.var 2)]))]), (.ret (.call "_law_closed" [(.comp (.call "_law_take" [(.var 0), (.var 4)]) (.nm 5) (.rng [(.var 3)]) (.tr (.bl true)) [("own", 5)])]))]⟩
class D__law_string (T : Tb) : Prop extends D__law_closed T, D__law_take T where df__law_string : T.df "_law_string" = some c__law_string
def c__law_counts : Df := ⟨["row_so", "kind_so"], 1, [], [(.ret (.bi .tuple [(.comp (.me .count (.var 0) [(.var 1)]) (.nm 1) (.rng [(.bin .add (.bi .max1 [(.var 0)]) (.int (1)))]) (.tr (.bl true)) [("kind_so", 1)])]))]⟩
class D__law_counts (T : Tb) : Prop where df__law_counts : T.df "_law_counts" = some c__law_counts
def c__law_bad_strings : Df := ⟨[], 0, [], [(.ret (.lst [.non, (.int (3)), (.str "0"), (.tup []), (.tup [(.int (1))]), (.tup [(.int (0)), (.int (2))]), (.tup [(.neg (.int (1))), (.int (0))]), (.tup [(.int (0)), (.bl true)]), (.tup [(.int (0)), .non]), (.tup [(.tup [(.int (0))])])]))]⟩
class D__law_bad_strings (T : Tb) : Prop where df__law_bad_strings : T.df "_law_bad_strings" = some c__law_bad_strings
def c_numbers_in : Df := ⟨["string", "beads", "kinds", "bead", "kind"], 2, [], [(.asg (.nm 2) (.comp (.ix (.var 0) (.var 3)) (.nm 3) (.hold 1) (.tr (.bl true)) [("bead", 3)])), (.ret (.bi .tuple [(.comp (.me .count (.var 2) [(.var 4)]) (.nm 4) (.rng [(.bin .add (.bi .max1 [(.var 0)]) (.int (1)))]) (.tr (.bl true)) [("kind", 4)])]))]⟩
class D_numbers_in (T : Tb) : Prop where df_numbers_in : T.df "numbers_in" = some c_numbers_in
def c_is_parting_of : Df := ⟨["string", "hands", "thing", "hand"], 3, [], [(.ret (.and (.call "is_long" [(.var 2), (.bi .len [(.var 0)])]) (.bi .all [(.comp (.call "is_below" [(.var 3), (.var 1)]) (.nm 3) (.hold 2) (.tr (.bl true)) [("hand", 3)])])))]⟩
class D_is_parting_of (T : Tb) : Prop extends D_is_below T, D_is_long T where df_is_parting_of : T.df "is_parting_of" = some c_is_parting_of
def c_sure_parting : Df := ⟨["string", "hands", "parting", "own"], 3, [], [(.asg (.nm 3) (.call "tupled" [(.var 2)])), (.ifs (.nt (.tr (.call "is_parting_of" [(.var 0), (.var 1), (.var 3)]))) [(.rse "" [])] []), (.ret (.var 3))]⟩
class D_sure_parting (T : Tb) : Prop extends D_is_parting_of T, D_tupled T where df_sure_parting : T.df "sure_parting" = some c_sure_parting
def c_cuts_in : Df := ⟨["parting", "place"], 1, [], [(.ret (.bi .tuple [(.comp (.var 1) (.nm 1) (.rng [(.int (1)), (.bi .len [(.var 0)])]) (.tr (.cmp .ne (.ix (.var 0) (.var 1)) (.ix (.var 0) (.bin .sub (.var 1) (.int (1)))))) [("place", 1)])]))]⟩
class D_cuts_in (T : Tb) : Prop where df_cuts_in : T.df "cuts_in" = some c_cuts_in
def c_shares_in : Df := ⟨["string", "hands", "parting", "hand", "bead"], 3, [], [(.ret (.bi .tuple [(.comp (.call "numbers_in" [(.var 0), (.comp (.var 4) (.nm 4) (.rng [(.bi .len [(.var 0)])]) (.tr (.cmp .eq (.ix (.var 2) (.var 4)) (.var 3))) [("bead", 4)])]) (.nm 3) (.rng [(.var 1)]) (.tr (.bl true)) [("hand", 3)])]))]⟩
class D_shares_in (T : Tb) : Prop extends D_numbers_in T where df_shares_in : T.df "shares_in" = some c_shares_in
def c_even_of : Df := ⟨["string", "hands", "counts", "many"], 2, [], [(.asg (.nm 2) (.call "counts_in" [(.var 0)])), (.ifs (.tr (.bi .any [(.comp (.cmp .ne (.bin .mod (.var 3) (.var 1)) (.int (0))) (.nm 3) (.hold 2) (.tr (.bl true)) [("many", 3)])])) [(.ret .non)] []), (.ret (.bin .mul (.tup [(.bi .tuple [(.comp (.bin .fdiv (.var 3) (.var 1)) (.nm 3) (.hold 2) (.tr (.bl true)) [("many", 3)])])]) (.var 1)))]⟩
class D_even_of (T : Tb) : Prop extends D_counts_in T where df_even_of : T.df "even_of" = some c_even_of
def c_is_fair_of : Df := ⟨["string", "hands", "parting", "rows", "row", "kind", "many"], 3, [], [(.asg (.nm 3) (.call "shares_in" [(.var 0), (.var 1), (.var 2)])), (.ret (.bi .all [(.comp2 (.cmp .inn (.bin .sub (.ix (.var 4) (.var 5)) (.bin .fdiv (.var 6) (.var 1))) (.tup [(.int (0)), (.int (1))])) (.tp [(.nm 5), (.nm 6)]) (.enm (.sr (.call "counts_in" [(.var 0)]))) (.tr (.bl true)) (.nm 4) (.hold 3) (.tr (.bl true)) [("kind", 5), ("many", 6), ("row", 4)] [4])]))]⟩
class D_is_fair_of (T : Tb) : Prop extends D_counts_in T, D_shares_in T where df_is_fair_of : T.df "is_fair_of" = some c_is_fair_of
def c__law_cuts : Df := ⟨["parting_so", "k"], 1, [], [(.ret (.bi .tuple [(.comp (.bin .add (.var 1) (.int (1))) (.nm 1) (.rng [(.bin .sub (.bi .len [(.var 0)]) (.int (1)))]) (.tr (.cmp .ne (.ix (.var 0) (.var 1)) (.ix (.var 0) (.bin .add (.var 1) (.int (1)))))) [("k", 1)])]))]⟩
class D__law_cuts (T : Tb) : Prop where df__law_cuts : T.df "_law_cuts" = some c__law_cuts
def c__law_parting : Df := ⟨["tin", "string_so", "hands_so", "own", "row_so", "hand"], 3, [0], [(.ifs (.tr (.cmp .eq (.call "_law_take" [(.var 0), (.int (2))]) (.int (0)))) [(.ret (.bi .tuple [(.comp (.call "_law_take" [(.var 0), (.var 2)]) (.nm 3) (.hold 1) (.tr (.bl true)) [("own", 3)])]))] []), (.par [(.nm 4), (.nm 5)] [(.lst []), (.int (0))]), (.for_ (.nm 3) (.hold 1) [(.asg (.nm 5) (.ife (.tr (.cmp .eq (.call "_law_take" [(.var 0), (.int (3))]) (.int (0)))) (.call "_law_take" [(.var 0), (.var 2)]) (.var 5))), (.exp (.mut .append 4 [(.var 5)]))]), (.ret (.bi .tuple [(.var 4)]))]⟩
class D__law_parting (T : Tb) : Prop extends D__law_take T where df__law_parting : T.df "_law_parting" = some c__law_parting
def c__law_even : Df := ⟨["string_so", "hands_so", "own"], 2, [], [(.ret (.bin .mul (.tup [(.bi .tuple [(.comp (.bin .fdiv (.var 2) (.var 1)) (.nm 2) (.sr (.call "_law_counts" [(.var 0)])) (.tr (.bl true)) [("own", 2)])])]) (.var 1)))]⟩
class D__law_even (T : Tb) : Prop extends D__law_counts T where df__law_even : T.df "_law_even" = some c__law_even
def c_choices : Df := ⟨["things", "many", "rows", "lap", "row", "own"], 2, [], [(.asg (.nm 2) (.lst [(.tup [])])), (.for_ (.nm 3) (.rng [(.var 1)]) [(.asg (.nm 2) (.comp2 (.bin .add (.var 4) (.tup [(.var 5)])) (.nm 4) (.hold 2) (.tr (.bl true)) (.nm 5) (.hold 0) (.or (.tr (.cmp .eq (.var 4) (.tup []))) (.tr (.cmp .lt (.ix (.var 4) (.neg (.int (1)))) (.var 5)))) [("row", 4), ("own", 5)] [5]))]), (.ret (.var 2))]⟩
class D_choices (T : Tb) : Prop where df_choices : T.df "choices" = some c_choices
def c_replaced : Df := ⟨["row", "place", "own"], 3, [], [(.ret (.bin .add (.bin .add (.slc (.var 0) .nil (.pt (.var 1))) (.tup [(.var 2)])) (.slc (.var 0) (.pt (.bin .add (.var 1) (.int (1)))) .nil)))]⟩
class D_replaced (T : Tb) : Prop where df_replaced : T.df "replaced" = some c_replaced
def c_less_one : Df := ⟨["left", "hand", "kind", "row"], 3, [], [(.asg (.nm 3) (.ix (.var 0) (.var 1))), (.ifs (.tr (.cmp .eq (.ix (.var 3) (.var 2)) (.int (0)))) [(.ret .non)] []), (.ret (.call "replaced" [(.var 0), (.var 1), (.call "replaced" [(.var 3), (.var 2), (.bin .sub (.ix (.var 3) (.var 2)) (.int (1)))])]))]⟩
class D_less_one (T : Tb) : Prop extends D_replaced T where df_less_one : T.df "less_one" = some c_less_one
def c_first_stands : Df := ⟨["string", "goals", "rows", "hand", "left"], 2, [], [(.asg (.nm 2) (.comp (.tup [(.var 3), (.call "less_one" [(.var 1), (.var 3), (.ix (.var 0) (.int (0)))])]) (.nm 3) (.rng [(.bi .len [(.var 1)])]) (.tr (.bl true)) [("hand", 3)])), (.ret (.comp (.tup [(.int (1)), (.var 3), (.var 4)]) (.tp [(.nm 3), (.nm 4)]) (.hold 2) (.tr (.cmp .isn (.var 4) .non)) [("hand", 3), ("left", 4)]))]⟩
class D_first_stands (T : Tb) : Prop extends D_less_one T where df_first_stands : T.df "first_stands" = some c_first_stands
def c_on_from : Df := ⟨["string", "stand", "rows", "place", "last", "left", "hand", "rest"], 2, [], [(.asg (.tp [(.nm 3), (.nm 4), (.nm 5)]) (.var 1)), (.ifs (.tr (.cmp .eq (.var 3) (.bi .len [(.var 0)]))) [(.ret (.lst []))] []), (.asg (.nm 2) (.comp (.tup [(.var 6), (.call "less_one" [(.var 5), (.var 6), (.ix (.var 0) (.var 3))])]) (.nm 6) (.rng [(.bi .len [(.var 5)])]) (.tr (.bl true)) [("hand", 6)])), (.ret (.comp (.tup [(.tup [(.bin .add (.var 3) (.int (1))), (.var 6), (.var 7)]), (.bi .int [(.cmp .ne (.var 6) (.var 4))])]) (.tp [(.nm 6), (.nm 7)]) (.hold 2) (.tr (.cmp .isn (.var 7) .non)) [("hand", 6), ("rest", 7)]))]⟩
class D_on_from (T : Tb) : Prop extends D_less_one T where df_on_from : T.df "on_from" = some c_on_from
def c_is_stand : Df := ⟨["string", "goals", "thing", "row", "goal", "given", "last", "kind", "own", "most"], 3, [], [(.ifs (.or (.nt (.tr (.bi .isinst [(.var 2), (.ty "tuple")]))) (.or (.tr (.cmp .ne (.bi .len [(.var 2)]) (.int (3)))) (.or (.nt (.tr (.call "is_from" [(.ix (.var 2) (.int (0))), (.int (1))]))) (.tr (.cmp .gt (.ix (.var 2) (.int (0))) (.bi .len [(.var 0)])))))) [(.ret (.bl false))] []), (.ifs (.or (.nt (.tr (.call "is_from" [(.ix (.var 2) (.int (1))), (.int (0))]))) (.tr (.cmp .ge (.ix (.var 2) (.int (1))) (.bi .len [(.var 1)])))) [(.ret (.bl false))] []), (.ifs (.or (.nt (.tr (.bi .isinst [(.ix (.var 2) (.int (2))), (.ty "tuple")]))) (.tr (.cmp .ne (.bi .len [(.ix (.var 2) (.int (2)))]) (.bi .len [(.var 1)])))) [(.ret (.bl false))] []), (.for_ (.tp [(.nm 3), (.nm 4)]) (.zip (.sr (.ix (.var 2) (.int (2)))) (.hold 1)) [(.ifs (.or (.nt (.tr (.bi .isinst [(.var 3), (.ty "tuple")]))) (.or (.tr (.cmp .ne (.bi .len [(.var 3)]) (.bi .len [(.var 4)]))) (.nt (.tr (.bi .all [(.comp (.call "is_from" [(.var 8), (.int (0))]) (.nm 8) (.hold 3) (.tr (.bl true)) [("own", 8)])]))))) [(.ret (.bl false))] []), (.ifs (.tr (.bi .any [(.comp (.cmp .gt (.var 8) (.var 9)) (.tp [(.nm 8), (.nm 9)]) (.zip (.hold 3) (.hold 4)) (.tr (.bl true)) [("own", 8), ("most", 9)])])) [(.ret (.bl false))] [])]), (.par [(.nm 5), (.nm 6)] [(.slc (.var 0) .nil (.pt (.ix (.var 2) (.int (0))))), (.ix (.var 0) (.bin .sub (.ix (.var 2) (.int (0))) (.int (1))))]), (.ifs (.tr (.cmp .eq (.ix (.ix (.ix (.var 2) (.int (2))) (.ix (.var 2) (.int (1)))) (.var 6)) (.ix (.ix (.var 1) (.ix (.var 2) (.int (1)))) (.var 6)))) [(.ret (.bl false))] []), (.ret (.bi .all [(.comp (.cmp .eq (.bi .sum [(.comp (.bin .sub (.ix (.var 4) (.var 7)) (.ix (.var 3) (.var 7))) (.tp [(.nm 3), (.nm 4)]) (.zip (.sr (.ix (.var 2) (.int (2)))) (.hold 1)) (.tr (.bl true)) [("row", 3), ("goal", 4)])]) (.me .count (.var 5) [(.var 7)])) (.nm 7) (.rng [(.bi .len [(.ix (.var 1) (.int (0)))])]) (.tr (.bl true)) [("kind", 7)])]))]⟩
class D_is_stand (T : Tb) : Prop extends D_is_from T where df_is_stand : T.df "is_stand" = some c_is_stand
def c_sure_cuts : Df := ⟨["cuts"], 1, [], [(.ifs (.nt (.tr (.call "is_from" [(.var 0), (.int (0))]))) [(.rse "" [])] []), (.ret (.var 0))]⟩
class D_sure_cuts (T : Tb) : Prop extends D_is_from T where df_sure_cuts : T.df "sure_cuts" = some c_sure_cuts
def c_rows_for : Df := ⟨["many", "hands", "whole", "rest", "more", "hand"], 2, [], [(.par [(.nm 2), (.nm 3)] [(.bin .fdiv (.var 0) (.var 1)), (.bin .mod (.var 0) (.var 1))]), (.ret (.comp (.bi .tuple [(.comp (.bin .add (.var 2) (.bi .int [(.cmp .inn (.var 5) (.var 4))])) (.nm 5) (.rng [(.var 1)]) (.tr (.bl true)) [("hand", 5)])]) (.nm 4) (.sr (.call "choices" [(.bix .listR [(.var 1)]), (.var 3)])) (.tr (.bl true)) [("more", 4)]))]⟩
class D_rows_for (T : Tb) : Prop extends D_choices T where df_rows_for : T.df "rows_for" = some c_rows_for
def c_sure_wants : Df := ⟨["string", "wants", "own"], 2, [], [(.asg (.nm 2) (.call "tupled" [(.var 1)])), (.ifs (.nt (.tr (.call "is_wants_of" [(.var 0), (.var 2)]))) [(.rse "" [])] []), (.ret (.var 2))]⟩
class D_sure_wants (T : Tb) : Prop extends D_is_wants_of T, D_tupled T where df_sure_wants : T.df "sure_wants" = some c_sure_wants
def c_is_tree_of : Df := ⟨["string", "thing", "place", "own"], 2, [], [(.ret (.and (.call "is_long" [(.var 1), (.bin .sub (.bi .len [(.var 0)]) (.int (1)))]) (.bi .all [(.comp (.call "is_below" [(.var 3), (.bin .add (.var 2) (.int (1)))]) (.tp [(.nm 2), (.nm 3)]) (.enm (.hold 1)) (.tr (.bl true)) [("place", 2), ("own", 3)])])))]⟩
class D_is_tree_of (T : Tb) : Prop extends D_is_below T, D_is_long T where df_is_tree_of : T.df "is_tree_of" = some c_is_tree_of
def c_sure_tree : Df := ⟨["string", "tree", "own"], 2, [], [(.asg (.nm 2) (.call "tupled" [(.var 1)])), (.ifs (.nt (.tr (.call "is_tree_of" [(.var 0), (.var 2)]))) [(.rse "" [])] []), (.ret (.var 2))]⟩
class D_sure_tree (T : Tb) : Prop extends D_is_tree_of T, D_tupled T where df_sure_tree : T.df "sure_tree" = some c_sure_tree
def c_ties_cut : Df := ⟨["tree", "parting", "place", "elder"], 2, [], [(.ret (.bi .tuple [(.comp (.bin .add (.var 2) (.int (1))) (.tp [(.nm 2), (.nm 3)]) (.enm (.hold 0)) (.tr (.cmp .ne (.ix (.var 1) (.bin .add (.var 2) (.int (1)))) (.ix (.var 1) (.var 3)))) [("place", 2), ("elder", 3)])]))]⟩
class D_ties_cut (T : Tb) : Prop where df_ties_cut : T.df "ties_cut" = some c_ties_cut
def c_flat : Df := ⟨["rows", "row", "own"], 1, [], [(.ret (.bi .tuple [(.comp2 (.var 2) (.nm 1) (.hold 0) (.tr (.bl true)) (.nm 2) (.hold 1) (.tr (.bl true)) [("row", 1), ("own", 2)] [2])]))]⟩
class D_flat (T : Tb) : Prop where df_flat : T.df "flat" = some c_flat
def c_is_tree : Df := ⟨["string", "thing"], 2, [], [(.ret (.call "is_tree_of" [(.call "sure_string" [(.var 0)]), (.var 1)]))]⟩
class D_is_tree (T : Tb) : Prop extends D_is_tree_of T, D_sure_string T where df_is_tree : T.df "is_tree" = some c_is_tree
def c_path_tree : Df := ⟨["string"], 1, [], [(.ret (.bix .tupR [(.bin .sub (.bi .len [(.call "sure_string" [(.var 0)])]) (.int (1)))]))]⟩
class D_path_tree (T : Tb) : Prop extends D_sure_string T where df_path_tree : T.df "path_tree" = some c_path_tree
def c_star_tree : Df := ⟨["string"], 1, [], [(.ret (.bin .mul (.tup [(.int (0))]) (.bin .sub (.bi .len [(.call "sure_string" [(.var 0)])]) (.int (1)))))]⟩
class D_star_tree (T : Tb) : Prop extends D_sure_string T where df_star_tree : T.df "star_tree" = some c_star_tree
def c_tree_kinds : Df := ⟨["string", "tree", "bead", "own", "told", "rows", "place", "kind", "one", "two"], 3, [], [(.asg (.nm 3) (.call "sure_string" [(.var 0)])), (.asg (.nm 4) (.call "sure_tree" [(.var 3), (.var 1)])), (.ifs (.nt (.tr (.call "is_below" [(.var 2), (.bi .len [(.var 3)])]))) [(.rse "" [])] []), (.asg (.nm 5) (.comp (.comp (.bi .int [(.cmp .eq (.var 7) (.ix (.var 3) (.var 6)))]) (.nm 7) (.rng [(.bi .len [(.call "counts_in" [(.var 3)])])]) (.tr (.bl true)) [("kind", 7)]) (.nm 6) (.rng [(.bi .len [(.var 3)])]) (.tr (.bl true)) [("place", 6)])), (.for_ (.nm 6) (.rng [(.bin .sub (.bi .len [(.var 3)]) (.int (1))), (.int (0)), (.neg (.int (1)))]) [(.setI 5 (.ix (.var 4) (.bin .sub (.var 6) (.int (1)))) (.comp (.bin .add (.var 8) (.var 9)) (.tp [(.nm 8), (.nm 9)]) (.zip (.sr (.ix (.var 5) (.ix (.var 4) (.bin .sub (.var 6) (.int (1)))))) (.sr (.ix (.var 5) (.var 6)))) (.tr (.bl true)) [("one", 8), ("two", 9)]))]), (.ret (.bi .tuple [(.ix (.var 5) (.var 2))]))]⟩
class D_tree_kinds (T : Tb) : Prop extends D_counts_in T, D_is_below T, D_sure_string T, D_sure_tree T where df_tree_kinds : T.df "tree_kinds" = some c_tree_kinds
def c_opposite : Df := ⟨["one"], 1, [], [(.ret (.tup [(.bin .sub (.int (0)) (.ix (.var 0) (.int (0)))), (.ix (.var 0) (.int (1)))]))]⟩
class D_opposite (T : Tb) : Prop where df_opposite : T.df "opposite" = some c_opposite
def c_whole_numbers : Df := ⟨["fractions", "wide", "top", "bottom"], 1, [], [(.asg (.nm 1) (.int (1))), (.for_ (.tp [(.nm 2), (.nm 3)]) (.hold 0) [(.asg (.nm 1) (.bin .mul (.var 1) (.var 3)))]), (.ret (.bi .tuple [(.comp (.bin .mul (.var 2) (.bin .fdiv (.var 1) (.var 3))) (.tp [(.nm 2), (.nm 3)]) (.hold 0) (.tr (.bl true)) [("top", 2), ("bottom", 3)])]))]⟩
class D_whole_numbers (T : Tb) : Prop where df_whole_numbers : T.df "whole_numbers" = some c_whole_numbers
def c_asked : Df := ⟨["pieces", "amounts", "rows", "piece", "many", "sorts", "ones", "sort", "own", "row"], 2, [], [(.par [(.nm 4), (.nm 5)] [(.bi .len [(.var 0)]), (.bi .len [(.var 1)])]), (.asg (.nm 2) (.comp (.bin .add (.comp (.ix (.var 9) (.var 7)) (.nm 9) (.hold 0) (.tr (.bl true)) [("row", 9)]) (.bin .mul (.lst [(.glo "NOUGHT")]) (.var 4))) (.nm 7) (.rng [(.var 5)]) (.tr (.bl true)) [("sort", 7)])), (.for_ (.nm 3) (.rng [(.var 4)]) [(.asg (.nm 6) (.comp (.ife (.tr (.cmp .eq (.var 8) (.var 3))) (.glo "ONE") (.glo "NOUGHT")) (.nm 8) (.rng [(.var 4)]) (.tr (.bl true)) [("own", 8)])), (.exp (.mut .append 2 [(.bin .add (.var 6) (.var 6))]))]), (.ret (.tup [(.var 2), (.bin .add (.bi .list [(.var 1)]) (.bin .mul (.lst [(.glo "ONE")]) (.var 4)))]))]⟩
class D_asked (T : Tb) : Prop where df_asked : T.df "asked" = some c_asked
def c_round_cuts_in : Df := ⟨["parting"], 1, [], [(.ret (.bin .add (.ife (.tr (.cmp .ne (.ix (.var 0) (.int (0))) (.ix (.var 0) (.neg (.int (1)))))) (.tup [(.int (0))]) (.tup [])) (.call "cuts_in" [(.var 0)])))]⟩
class D_round_cuts_in (T : Tb) : Prop extends D_cuts_in T where df_round_cuts_in : T.df "round_cuts_in" = some c_round_cuts_in
def c_two_goals : Df := ⟨["string", "wants", "many", "own"], 2, [], [(.ret (.tup [(.var 1), (.bi .tuple [(.comp (.bin .sub (.var 2) (.var 3)) (.tp [(.nm 2), (.nm 3)]) (.zip (.sr (.call "counts_in" [(.var 0)])) (.hold 1)) (.tr (.bl true)) [("many", 2), ("own", 3)])])]))]⟩
class D_two_goals (T : Tb) : Prop extends D_counts_in T where df_two_goals : T.df "two_goals" = some c_two_goals
def c_enough_round : Df := ⟨["kinds"], 1, [], [(.ifs (.or (.nt (.tr (.bi .isinst [(.var 0), (.ty "int")]))) (.or (.tr (.bi .isinst [(.var 0), (.ty "bool")])) (.tr (.cmp .lt (.var 0) (.int (1)))))) [(.rse "" [])] []), (.ret (.bin .add (.var 0) (.bin .mod (.var 0) (.int (2)))))]⟩
class D_enough_round (T : Tb) : Prop where df_enough_round : T.df "enough_round" = some c_enough_round
def c_sharing_task : Df := ⟨["pieces", "dues", "hand", "piece", "hands", "many", "rows", "sides", "sort", "own", "row"], 2, [], [(.par [(.nm 4), (.nm 5)] [(.bi .len [(.var 1)]), (.bi .len [(.var 0)])]), (.par [(.nm 6), (.nm 7)] [(.lst []), (.lst [])]), (.for_ (.nm 2) (.rng [(.var 4)]) [(.for_ (.nm 8) (.rng [(.bi .len [(.ix (.var 0) (.int (0)))])]) [(.exp (.mut .append 6 [(.comp2 (.ife (.tr (.cmp .eq (.var 9) (.var 2))) (.ix (.var 10) (.var 8)) (.glo "NOUGHT")) (.nm 9) (.rng [(.var 4)]) (.tr (.bl true)) (.nm 10) (.hold 0) (.tr (.bl true)) [("own", 9), ("row", 10)] [10])])), (.exp (.mut .append 7 [(.ix (.ix (.var 1) (.var 2)) (.var 8))]))])]), (.for_ (.nm 3) (.rng [(.var 5)]) [(.exp (.mut .append 6 [(.comp2 (.ife (.tr (.cmp .eq (.var 9) (.var 3))) (.glo "ONE") (.glo "NOUGHT")) (.nm 2) (.rng [(.var 4)]) (.tr (.bl true)) (.nm 9) (.rng [(.var 5)]) (.tr (.bl true)) [("hand", 2), ("own", 9)] [9])])), (.exp (.mut .append 7 [(.glo "ONE")]))]), (.ret (.tup [(.var 6), (.var 7)]))]⟩
class D_sharing_task (T : Tb) : Prop where df_sharing_task : T.df "sharing_task" = some c_sharing_task
def c_windows_in : Df := ⟨["string", "many", "goes_round", "size", "firsts", "first", "step"], 3, [], [(.asg (.nm 3) (.bi .len [(.var 0)])), (.asg (.nm 4) (.bix .listR [(.ife (.tr (.var 2)) (.var 3) (.bin .add (.bin .sub (.var 3) (.var 1)) (.int (1))))])), (.ret (.comp (.call "numbers_in" [(.var 0), (.comp (.bin .mod (.bin .add (.var 5) (.var 6)) (.var 3)) (.nm 6) (.rng [(.var 1)]) (.tr (.bl true)) [("step", 6)])]) (.nm 5) (.hold 4) (.tr (.bl true)) [("first", 5)]))]⟩
class D_windows_in (T : Tb) : Prop extends D_numbers_in T where df_windows_in : T.df "windows_in" = some c_windows_in
def c_window_of : Df := ⟨["string", "wants", "goes_round", "rows"], 3, [], [(.asg (.nm 3) (.call "windows_in" [(.var 0), (.bi .sum [(.var 1)]), (.var 2)])), (.ret (.ife (.tr (.cmp .inn (.var 1) (.var 3))) (.me .index (.var 3) [(.var 1)]) .non))]⟩
class D_window_of (T : Tb) : Prop extends D_windows_in T where df_window_of : T.df "window_of" = some c_window_of
def c_window : Df := ⟨["string", "wants", "own", "found"], 2, [], [(.asg (.nm 2) (.call "sure_string" [(.var 0)])), (.asg (.nm 3) (.call "window_of" [(.var 2), (.call "sure_wants" [(.var 2), (.var 1)]), (.bl false)])), (.ifs (.tr (.cmp .is (.var 3) .non)) [(.rse "" [])] []), (.ret (.var 3))]⟩
class D_window (T : Tb) : Prop extends D_sure_string T, D_sure_wants T, D_window_of T where df_window : T.df "window" = some c_window
def c_ring_window : Df := ⟨["string", "wants", "own", "found"], 2, [], [(.asg (.nm 2) (.call "sure_string" [(.var 0)])), (.asg (.nm 3) (.call "window_of" [(.var 2), (.call "sure_wants" [(.var 2), (.var 1)]), (.bl true)])), (.ifs (.tr (.cmp .is (.var 3) .non)) [(.rse "" [])] []), (.ret (.var 3))]⟩
class D_ring_window (T : Tb) : Prop extends D_sure_string T, D_sure_wants T, D_window_of T where df_ring_window : T.df "ring_window" = some c_ring_window
def c_windows : Df := ⟨["string", "many", "own"], 2, [], [(.asg (.nm 2) (.call "sure_string" [(.var 0)])), (.ifs (.or (.nt (.tr (.call "is_from" [(.var 1), (.int (0))]))) (.tr (.cmp .gt (.var 1) (.bi .len [(.var 2)])))) [(.rse "" [])] []), (.ret (.call "windows_in" [(.var 2), (.var 1), (.bl false)]))]⟩
class D_windows (T : Tb) : Prop extends D_is_from T, D_sure_string T, D_windows_in T where df_windows : T.df "windows" = some c_windows
def c_ring_windows : Df := ⟨["string", "many", "own"], 2, [], [(.asg (.nm 2) (.call "sure_string" [(.var 0)])), (.ifs (.or (.nt (.tr (.call "is_from" [(.var 1), (.int (0))]))) (.tr (.cmp .gt (.var 1) (.bi .len [(.var 2)])))) [(.rse "" [])] []), (.ret (.call "windows_in" [(.var 2), (.var 1), (.bl true)]))]⟩
class D_ring_windows (T : Tb) : Prop extends D_is_from T, D_sure_string T, D_windows_in T where df_ring_windows : T.df "ring_windows" = some c_ring_windows
def c_bad_ring : Df := ⟨["kinds", "bottom", "kind", "bead"], 2, [], [(.ifs (.or (.nt (.tr (.call "is_from" [(.var 0), (.int (3))]))) (.or (.tr (.cmp .gt (.var 0) (.int (6)))) (.or (.nt (.tr (.call "is_from" [(.var 1), (.int (2))]))) (.tr (.cmp .gt (.var 1) (.glo "MOST_BOTTOM")))))) [(.rse "" [])] []), (.ret (.bi .tuple [(.comp2 (.var 2) (.nm 2) (.rng [(.var 0)]) (.tr (.bl true)) (.nm 3) (.rng [(.var 1)]) (.tr (.bl true)) [("kind", 2), ("bead", 3)] [3])]))]⟩
class D_bad_ring (T : Tb) : Prop extends D_is_from T where df_bad_ring : T.df "bad_ring" = some c_bad_ring
def c__law_all : Df := ⟨["many_so", "hands_so", "found", "lap", "later_so", "own", "hand"], 2, [], [(.asg (.nm 2) (.lst [(.tup [])])), (.for_ (.nm 3) (.rng [(.var 0)]) [(.asg (.nm 4) (.lst [])), (.for_ (.nm 5) (.hold 2) [(.exp (.mut .extend 4 [(.comp (.bin .add (.var 5) (.tup [(.var 6)])) (.nm 6) (.rng [(.var 1)]) (.tr (.bl true)) [("hand", 6)])]))]), (.asg (.nm 2) (.var 4))]), (.ret (.var 2))]⟩
class D__law_all (T : Tb) : Prop where df__law_all : T.df "_law_all" = some c__law_all
def c__law_one_less : Df := ⟨["goals_so", "hand", "kind_so", "row_so"], 3, [], [(.asg (.nm 3) (.ix (.var 0) (.var 1))), (.ret (.bin .add (.bin .add (.slc (.var 0) .nil (.pt (.var 1))) (.tup [(.bin .add (.bin .add (.slc (.var 3) .nil (.pt (.var 2))) (.tup [(.bin .sub (.ix (.var 3) (.var 2)) (.int (1)))])) (.slc (.var 3) (.pt (.bin .add (.var 2) (.int (1)))) .nil))])) (.slc (.var 0) (.pt (.bin .add (.var 1) (.int (1)))) .nil)))]⟩
class D__law_one_less (T : Tb) : Prop where df__law_one_less : T.df "_law_one_less" = some c__law_one_less
def c__law_sum_rows : Df := ⟨["one", "two", "many_so", "wide_so", "own", "a", "b"], 2, [], [(.asg (.nm 2) (.bi .max2 [(.bi .len [(.var 0)]), (.bi .len [(.var 1)])])), (.asg (.nm 3) (.comp (.bin .add (.bi .list [(.var 4)]) (.bin .mul (.lst [(.int (0))]) (.bin .sub (.var 2) (.bi .len [(.var 4)])))) (.nm 4) (.sr (.tup [(.var 0), (.var 1)])) (.tr (.bl true)) [("own", 4)])), (.ret (.comp (.bin .add (.var 5) (.var 6)) (.tp [(.nm 5), (.nm 6)]) (.zip (.sr (.ix (.var 3) (.int (0)))) (.sr (.ix (.var 3) (.int (1))))) (.tr (.bl true)) [("a", 5), ("b", 6)]))]⟩
class D__law_sum_rows (T : Tb) : Prop where df__law_sum_rows : T.df "_law_sum_rows" = some c__law_sum_rows
def c__law_on : Df := ⟨["string_so", "stand_so", "found", "hand", "given", "last", "left_so"], 2, [], [(.asg (.tp [(.nm 4), (.nm 5), (.nm 6)]) (.var 1)), (.asg (.nm 2) (.lst [])), (.for_ (.nm 3) (.rng [(.bi .len [(.var 6)])]) [(.ifs (.tr (.cmp .gt (.ix (.ix (.var 6) (.var 3)) (.ix (.var 0) (.var 4))) (.int (0)))) [(.exp (.mut .append 2 [(.lst [(.tup [(.bin .add (.var 4) (.int (1))), (.var 3), (.call "_law_one_less" [(.var 6), (.var 3), (.ix (.var 0) (.var 4))])]), (.bi .int [(.cmp .ne (.var 3) (.var 5))])])]))] [])]), (.ret (.var 2))]⟩
class D__law_on (T : Tb) : Prop extends D__law_one_less T where df__law_on : T.df "_law_on" = some c__law_on
def c__law_even_string : Df := ⟨["tin", "hands_so", "most_so", "kinds_so", "row_so", "kind_so"], 4, [0], [(.asg (.nm 4) (.lst [])), (.for_ (.nm 5) (.rng [(.bin .add (.int (1)) (.call "_law_take" [(.var 0), (.var 3)]))]) [(.asg (.nm 4) (.bin .add (.var 4) (.bin .mul (.lst [(.var 5)]) (.bin .mul (.var 1) (.bin .add (.int (1)) (.call "_law_take" [(.var 0), (.bi .max2 [(.int (1)), (.bin .fdiv (.var 2) (.bin .mul (.var 1) (.var 3)))])]))))))]), (.ret (.bi .tuple [(.call "_law_mixed" [(.var 0), (.var 4)])]))]⟩
class D__law_even_string (T : Tb) : Prop extends D__law_mixed T, D__law_take T where df__law_even_string : T.df "_law_even_string" = some c__law_even_string
def c__law_round : Df := ⟨["parting_so", "k"], 1, [], [(.ret (.bi .tuple [(.comp (.var 1) (.nm 1) (.rng [(.bi .len [(.var 0)])]) (.tr (.cmp .ne (.ix (.var 0) (.var 1)) (.ix (.var 0) (.bin .sub (.var 1) (.int (1)))))) [("k", 1)])]))]⟩
class D__law_round (T : Tb) : Prop where df__law_round : T.df "_law_round" = some c__law_round
def c__law_arcs : Df := ⟨["flags_so", "found", "k"], 1, [], [(.asg (.nm 1) (.bi .len [(.comp (.var 2) (.nm 2) (.rng [(.bi .len [(.var 0)])]) (.and (.tr (.cmp .eq (.ix (.var 0) (.var 2)) (.int (1)))) (.tr (.cmp .eq (.ix (.var 0) (.bin .sub (.var 2) (.int (1)))) (.int (0))))) [("k", 2)])])), (.ret (.ife (.tr (.cmp .gt (.var 1) (.int (0)))) (.var 1) (.bi .int [(.cmp .gt (.bi .sum [(.var 0)]) (.int (0)))])))]⟩
class D__law_arcs (T : Tb) : Prop where df__law_arcs : T.df "_law_arcs" = some c__law_arcs
def c__law_windows : Df := ⟨["string_so", "many_so", "round_so", "first", "wide_so", "found", "own", "kind_so"], 3, [], [(.par [(.nm 4), (.nm 5)] [(.bin .add (.var 0) (.var 0)), (.lst [])]), (.for_ (.nm 3) (.rng [(.ife (.tr (.var 2)) (.bi .len [(.var 0)]) (.bin .add (.bin .sub (.bi .len [(.var 0)]) (.var 1)) (.int (1))))]) [(.asg (.nm 6) (.slc (.var 4) (.pt (.var 3)) (.pt (.bin .add (.var 3) (.var 1))))), (.exp (.mut .append 5 [(.bi .tuple [(.comp (.me .count (.var 6) [(.var 7)]) (.nm 7) (.rng [(.bin .add (.bi .max1 [(.var 0)]) (.int (1)))]) (.tr (.bl true)) [("kind_so", 7)])])]))]), (.ret (.var 5))]⟩
class D__law_windows (T : Tb) : Prop where df__law_windows : T.df "_law_windows" = some c__law_windows
def c__law_pieces : Df := ⟨["tin", "most_so", "sorts_so", "wide_so", "rows_so", "lap", "own"], 3, [0], [(.asg (.nm 3) (.bin .add (.int (1)) (.call "_law_take" [(.var 0), (.var 2)]))), (.asg (.nm 4) (.lst [])), (.for_ (.nm 5) (.rng [(.bin .add (.int (1)) (.call "_law_take" [(.var 0), (.var 1)]))]) [(.exp (.mut .append 4 [(.bi .tuple [(.comp (.call "_law_cut" [(.call "_law_take" [(.var 0), (.int (5))]), (.bin .add (.int (1)) (.call "_law_take" [(.var 0), (.int (3))]))]) (.nm 6) (.rng [(.var 3)]) (.tr (.bl true)) [("own", 6)])])]))]), (.ret (.bi .tuple [(.var 4)]))]⟩
class D__law_pieces (T : Tb) : Prop extends D__law_cut T, D__law_take T where df__law_pieces : T.df "_law_pieces" = some c__law_pieces
def c__law_taken : Df := ⟨["pieces_so", "shares_so", "found", "sort_so", "own", "row_so", "share_so"], 2, [], [(.asg (.nm 2) (.lst [])), (.for_ (.nm 3) (.rng [(.bi .len [(.ix (.var 0) (.int (0)))])]) [(.asg (.nm 4) (.tup [(.int (0)), (.int (1))])), (.for_ (.tp [(.nm 5), (.nm 6)]) (.zip (.hold 0) (.hold 1)) [(.asg (.nm 4) (.call "_law_plus" [(.var 4), (.call "_law_by" [(.ix (.var 5) (.var 3)), (.var 6)])]))]), (.exp (.mut .append 2 [(.var 4)]))]), (.ret (.bi .tuple [(.var 2)]))]⟩
class D__law_taken (T : Tb) : Prop extends D__law_by T, D__law_plus T where df__law_taken : T.df "_law_taken" = some c__law_taken
def c__law_worth : Df := ⟨["weights_so", "row_so", "found", "own", "its"], 2, [], [(.asg (.nm 2) (.tup [(.int (0)), (.int (1))])), (.for_ (.tp [(.nm 3), (.nm 4)]) (.zip (.hold 0) (.hold 1)) [(.asg (.nm 2) (.call "_law_plus" [(.var 2), (.call "_law_by" [(.tup [(.var 3), (.int (1))]), (.var 4)])]))]), (.ret (.var 2))]⟩
class D__law_worth (T : Tb) : Prop extends D__law_by T, D__law_plus T where df__law_worth : T.df "_law_worth" = some c__law_worth
def c__law_bars : Df := ⟨["pieces_so", "amounts_so", "weights_so", "most_so", "row_so", "own"], 3, [], [(.asg (.nm 3) (.tup [(.int (0)), (.int (1))])), (.for_ (.nm 4) (.hold 0) [(.asg (.nm 5) (.call "_law_worth" [(.var 2), (.var 4)])), (.asg (.nm 3) (.ife (.tr (.cmp .gt (.ix (.var 5) (.int (0))) (.int (0)))) (.call "_law_plus" [(.var 3), (.var 5)]) (.var 3)))]), (.ret (.call "_law_less" [(.var 3), (.call "_law_worth" [(.var 2), (.var 1)])]))]⟩
class D__law_bars (T : Tb) : Prop extends D__law_less T, D__law_plus T, D__law_worth T where df__law_bars : T.df "_law_bars" = some c__law_bars
def c__law_hand_bars : Df := ⟨["pieces_so", "dues_so", "rows_so", "row_so", "most_so", "worth_so", "best_so", "weights_so", "due_so", "own"], 3, [], [(.par [(.nm 4), (.nm 5)] [(.tup [(.int (0)), (.int (1))]), (.tup [(.int (0)), (.int (1))])]), (.for_ (.nm 3) (.hold 0) [(.asg (.nm 6) (.call "_law_worth" [(.ix (.var 2) (.int (0))), (.var 3)])), (.for_ (.nm 7) (.sr (.slc (.var 2) (.pt (.int (1))) .nil)) [(.asg (.nm 9) (.call "_law_worth" [(.var 7), (.var 3)])), (.asg (.nm 6) (.ife (.tr (.call "_law_less" [(.var 6), (.var 9)])) (.var 9) (.var 6)))]), (.asg (.nm 4) (.call "_law_plus" [(.var 4), (.var 6)]))]), (.for_ (.tp [(.nm 7), (.nm 8)]) (.zip (.hold 2) (.hold 1)) [(.asg (.nm 5) (.call "_law_plus" [(.var 5), (.call "_law_worth" [(.var 7), (.var 8)])]))]), (.ret (.call "_law_less" [(.var 4), (.var 5)]))]⟩
class D__law_hand_bars (T : Tb) : Prop extends D__law_less T, D__law_plus T, D__law_worth T where df__law_hand_bars : T.df "_law_hand_bars" = some c__law_hand_bars
def c_is_rows : Df := ⟨["thing", "row", "own"], 1, [], [(.ifs (.or (.nt (.tr (.bi .isinst [(.var 0), (.ty "tuple")]))) (.nt (.tr (.bi .all [(.comp (.bi .isinst [(.var 1), (.ty "tuple")]) (.nm 1) (.hold 0) (.tr (.bl true)) [("row", 1)])])))) [(.ret (.bl false))] []), (.ret (.bi .all [(.comp2 (.call "is_number" [(.var 2)]) (.nm 1) (.hold 0) (.tr (.bl true)) (.nm 2) (.hold 1) (.tr (.bl true)) [("row", 1), ("own", 2)] [2])]))]⟩
class D_is_rows (T : Tb) : Prop extends D_is_number T where df_is_rows : T.df "is_rows" = some c_is_rows
def c__law_blown : Df := ⟨["tin", "rows_so", "lines_so", "own", "lap"], 2, [0], [(.asg (.nm 2) (.lst [])), (.for_ (.nm 3) (.hold 1) [(.for_ (.nm 4) (.rng [(.call "_law_take" [(.var 0), (.int (3))])]) [(.exp (.mut .append 2 [(.call "_law_of" [(.var 0), (.lst [(.str ""), (.str "   "), (.str "# goal 1"), (.str " # A , 1")])])]))]), (.exp (.mut .append 2 [(.bin .add (.bin .add (.bin .mul (.str " ") (.call "_law_take" [(.var 0), (.int (3))])) (.me .replace (.var 3) [(.str " "), (.str "  ")])) (.call "_law_of" [(.var 0), (.lst [(.str ""), (.str " "), (.str " # as told"), (.str "#0")])]))]))]), (.ret (.bin .add (.me .join (.str "\n") [(.var 2)]) (.call "_law_of" [(.var 0), (.lst [(.str ""), (.str "\n"), (.str "\n\n #")])])))]⟩
class D__law_blown (T : Tb) : Prop extends D__law_of T, D__law_take T where df__law_blown : T.df "_law_blown" = some c__law_blown
def c__law_word : Df := ⟨["own"], 1, [], [(.ret (.ife (.tr (.cmp .eq (.ix (.var 0) (.int (1))) (.int (1)))) (.bi .str [(.ix (.var 0) (.int (0)))]) (.bin .add (.bin .add (.bi .str [(.ix (.var 0) (.int (0)))]) (.str "/")) (.bi .str [(.ix (.var 0) (.int (1)))]))))]⟩
class D__law_word (T : Tb) : Prop where df__law_word : T.df "_law_word" = some c__law_word
def c_numbers_word : Df := ⟨["numbers", "own"], 1, [], [(.ret (.ife (.tr (.cmp .eq (.bi .len [(.var 0)]) (.int (0)))) (.glo "NONE") (.me .join (.str " ") [(.comp (.bi .str [(.var 1)]) (.nm 1) (.hold 0) (.tr (.bl true)) [("own", 1)])])))]⟩
class D_numbers_word (T : Tb) : Prop where df_numbers_word : T.df "numbers_word" = some c_numbers_word
def c__law_line : Df := ⟨["tin", "beads_so", "hands_so", "own"], 3, [0], [(.asg (.nm 3) (.call "_law_of" [(.var 0), (.lst [(.str "give"), (.str "give"), (.str "give"), (.str "undo"), (.str "redo"), (.str "who"), (.str "has"), (.str "cuts"), (.str "fair"), (.str "counts"), (.str "fewest"), (.str "odd")])])), (.ifs (.tr (.cmp .eq (.var 3) (.str "odd"))) [(.ret (.call "_law_of" [(.var 0), (.lst [(.str "give 0 1"), (.str "undo 1"), (.str "gives 0 0 0"), (.str "who"), (.str "has 0 1"), (.str "cuts 1"), (.str "give 0 a 1"), (.str "best 0"), (.str "who 1/2"), (.str "give 00 1 1")])]))] []), (.ifs (.tr (.cmp .eq (.var 3) (.str "give"))) [(.ret (.bin .add (.bin .add (.bin .add (.bin .add (.bin .add (.str "give ") (.bi .str [(.call "_law_take" [(.var 0), (.bin .add (.var 1) (.int (1)))])])) (.str " ")) (.bi .str [(.call "_law_take" [(.var 0), (.bin .add (.var 1) (.int (1)))])])) (.str " ")) (.bi .str [(.call "_law_take" [(.var 0), (.bin .add (.var 2) (.int (1)))])])))] []), (.ifs (.tr (.cmp .eq (.var 3) (.str "who"))) [(.ret (.bin .add (.bin .add (.var 3) (.str " ")) (.bi .str [(.call "_law_take" [(.var 0), (.bin .add (.var 1) (.int (1)))])])))] []), (.ret (.ife (.tr (.cmp .eq (.var 3) (.str "has"))) (.bin .add (.bin .add (.var 3) (.str " ")) (.bi .str [(.call "_law_take" [(.var 0), (.bin .add (.var 2) (.int (1)))])])) (.var 3)))]⟩
class D__law_line (T : Tb) : Prop extends D__law_of T, D__law_take T where df__law_line : T.df "_law_line" = some c__law_line
def c__wall : Df := ⟨["k"], 1, [], [(.whl (.tr (.bl true)) [.pas])]⟩
class D__wall (T : Tb) : Prop where df__wall : T.df "_wall" = some c__wall
def c__law_led : Df := ⟨["row_so", "names_so", "found", "k", "own"], 2, [], [(.asg (.nm 2) (.bin .mul (.lst [.non]) (.bi .len [(.var 1)]))), (.for_ (.tp [(.nm 3), (.nm 4)]) (.enm (.hold 0)) [(.setI 2 (.ix (.var 1) (.var 3)) (.var 4))]), (.ret (.bi .tuple [(.var 2)]))]⟩
class D__law_led (T : Tb) : Prop where df__law_led : T.df "_law_led" = some c__law_led
def c__law_wide : Df := ⟨["row_so", "many_so"], 2, [], [(.ret (.bin .add (.var 0) (.bin .mul (.tup [(.int (0))]) (.bin .sub (.var 1) (.bi .len [(.var 0)])))))]⟩
class D__law_wide (T : Tb) : Prop where df__law_wide : T.df "_law_wide" = some c__law_wide
def c__law_added : Df := ⟨["one", "two", "a", "b"], 2, [], [(.ret (.bi .tuple [(.comp (.bin .add (.var 2) (.var 3)) (.tp [(.nm 2), (.nm 3)]) (.zip (.hold 0) (.hold 1)) (.tr (.bl true)) [("a", 2), ("b", 3)])]))]⟩
class D__law_added (T : Tb) : Prop where df__law_added : T.df "_law_added" = some c__law_added
def c__law_picks : Df := ⟨["many_so", "few_so", "found", "k"], 2, [], [(.ifs (.or (.tr (.cmp .lt (.var 1) (.int (0)))) (.tr (.cmp .gt (.var 1) (.var 0)))) [(.ret (.int (0)))] []), (.asg (.nm 2) (.int (1))), (.for_ (.nm 3) (.rng [(.var 1)]) [(.asg (.nm 2) (.bin .fdiv (.bin .mul (.var 2) (.bin .sub (.var 0) (.var 3))) (.bin .add (.var 3) (.int (1)))))]), (.ret (.var 2))]⟩
class D__law_picks (T : Tb) : Prop where df__law_picks : T.df "_law_picks" = some c__law_picks
def c__law_spoiled : Df := ⟨["one", "two", "before_so"], 2, [0], [(.asg (.nm 2) (.bi .list [(.var 0)])), (.exp (.mut .append 0 [.non])), (.exp (.mut .reverse 0 [])), (.ret (.call "_law_same" [(.var 1), (.var 2)]))]⟩
class D__law_spoiled (T : Tb) : Prop extends D__law_same T where df__law_spoiled : T.df "_law_spoiled" = some c__law_spoiled
def c__law_kinds : Df := ⟨["slip_so", "found"], 1, [], [(.asg (.nm 1) (.lst [(.bi .isinst [(.var 0), (.glo "NoBead")]), (.bi .isinst [(.var 0), (.glo "NothingDone")]), (.bi .isinst [(.var 0), (.glo "BadText")]), (.bi .isinst [(.var 0), (.glo "CanNot")])])), (.ret (.bin .add (.var 1) (.lst [(.bi .isinst [(.var 0), (.glo "TooMany")]), (.bi .isinst [(.var 0), (.glo "Unfit")]), (.bi .isinst [(.var 0), (.glo "LookupError")]), (.bi .isinst [(.var 0), (.glo "ValueError")])])))]⟩
class D__law_kinds (T : Tb) : Prop where df__law_kinds : T.df "_law_kinds" = some c__law_kinds
def c__law_splits : Df := ⟨["many_so", "hands_so", "found", "hand", "later_so", "own", "k"], 2, [], [(.asg (.nm 2) (.lst [(.tup [])])), (.for_ (.nm 3) (.rng [(.bin .sub (.var 1) (.int (1)))]) [(.asg (.nm 4) (.lst [])), (.for_ (.nm 5) (.hold 2) [(.exp (.mut .extend 4 [(.comp (.bin .add (.var 5) (.tup [(.var 6)])) (.nm 6) (.rng [(.bin .add (.bin .sub (.var 0) (.bi .sum [(.var 5)])) (.int (1)))]) (.tr (.bl true)) [("k", 6)])]))]), (.asg (.nm 2) (.var 4))]), (.ret (.comp (.bin .add (.var 5) (.tup [(.bin .sub (.var 0) (.bi .sum [(.var 5)]))])) (.nm 5) (.hold 2) (.tr (.bl true)) [("own", 5)]))]⟩
class D__law_splits (T : Tb) : Prop where df__law_splits : T.df "_law_splits" = some c__law_splits
def c__law_numbers : Df := ⟨["row_so"], 1, [], [(.ret (.tup [(.bin .mul (.ix (.ix (.var 0) (.int (0))) (.int (0))) (.ix (.ix (.var 0) (.int (1))) (.int (1)))), (.bin .mul (.ix (.ix (.var 0) (.int (1))) (.int (0))) (.ix (.ix (.var 0) (.int (0))) (.int (1))))]))]⟩
class D__law_numbers (T : Tb) : Prop where df__law_numbers : T.df "_law_numbers" = some c__law_numbers
def c__law_cross : Df := ⟨["one", "two"], 2, [], [(.ret (.tup [(.bin .sub (.bin .mul (.ix (.var 0) (.int (1))) (.ix (.var 1) (.int (2)))) (.bin .mul (.ix (.var 0) (.int (2))) (.ix (.var 1) (.int (1))))), (.bin .sub (.bin .mul (.ix (.var 0) (.int (2))) (.ix (.var 1) (.int (0)))) (.bin .mul (.ix (.var 0) (.int (0))) (.ix (.var 1) (.int (2))))), (.bin .sub (.bin .mul (.ix (.var 0) (.int (0))) (.ix (.var 1) (.int (1)))) (.bin .mul (.ix (.var 0) (.int (1))) (.ix (.var 1) (.int (0)))))]))]⟩
class D__law_cross (T : Tb) : Prop where df__law_cross : T.df "_law_cross" = some c__law_cross
def c_ascends : Df := ⟨["row", "k"], 1, [], [(.ret (.bi .all [(.comp (.cmp .lt (.ix (.var 0) (.var 1)) (.ix (.var 0) (.bin .add (.var 1) (.int (1))))) (.nm 1) (.rng [(.bin .sub (.bi .len [(.var 0)]) (.int (1)))]) (.tr (.bl true)) [("k", 1)])]))]⟩
class D_ascends (T : Tb) : Prop where df_ascends : T.df "ascends" = some c_ascends
def c_joined : Df := ⟨["rows", "row", "own"], 1, [], [(.ret (.bi .tuple [(.comp2 (.var 2) (.nm 1) (.hold 0) (.tr (.bl true)) (.nm 2) (.hold 1) (.tr (.bl true)) [("row", 1), ("own", 2)] [2])]))]⟩
class D_joined (T : Tb) : Prop where df_joined : T.df "joined" = some c_joined
def c_is_several_of : Df := ⟨["thing", "row"], 1, [], [(.ifs (.or (.nt (.tr (.bi .isinst [(.var 0), (.ty "tuple")]))) (.nt (.tr (.bi .all [(.comp (.and (.bi .isinst [(.var 1), (.ty "tuple")]) (.cmp .ne (.var 1) (.tup []))) (.nm 1) (.hold 0) (.tr (.bl true)) [("row", 1)])])))) [(.ret (.bl false))] []), (.ret (.call "is_string" [(.call "joined" [(.var 0)])]))]⟩
class D_is_several_of (T : Tb) : Prop extends D_is_string T, D_joined T where df_is_several_of : T.df "is_several_of" = some c_is_several_of
def c_sure_several : Df := ⟨["strings", "own"], 1, [], [(.asg (.nm 1) (.call "tupled" [(.var 0)])), (.ifs (.nt (.tr (.call "is_several_of" [(.var 1)]))) [(.rse "" [])] []), (.ret (.var 1))]⟩
class D_sure_several (T : Tb) : Prop extends D_is_several_of T, D_tupled T where df_sure_several : T.df "sure_several" = some c_sure_several
def c_on_within : Df := ⟨["string", "free", "stand", "rows", "more", "place", "last", "left", "hand", "rest"], 3, [], [(.asg (.tp [(.nm 5), (.nm 6), (.nm 7)]) (.var 2)), (.ifs (.tr (.cmp .eq (.var 5) (.bi .len [(.var 0)]))) [(.ret (.lst []))] []), (.asg (.nm 3) (.comp (.tup [(.var 8), (.call "less_one" [(.var 7), (.var 8), (.ix (.var 0) (.var 5))])]) (.nm 8) (.rng [(.bi .len [(.var 7)])]) (.tr (.bl true)) [("hand", 8)])), (.asg (.nm 4) (.comp (.bi .int [(.and (.cmp .ne (.var 8) (.var 6)) (.cmp .nin (.var 5) (.var 1)))]) (.nm 8) (.rng [(.bi .len [(.var 7)])]) (.tr (.bl true)) [("hand", 8)])), (.ret (.comp (.tup [(.tup [(.bin .add (.var 5) (.int (1))), (.var 8), (.var 9)]), (.ix (.var 4) (.var 8))]) (.tp [(.nm 8), (.nm 9)]) (.hold 3) (.tr (.cmp .isn (.var 9) .non)) [("hand", 8), ("rest", 9)]))]⟩
class D_on_within (T : Tb) : Prop extends D_less_one T where df_on_within : T.df "on_within" = some c_on_within
def c__law_rows : Df := ⟨["tin", "most_so", "kinds_so", "many_so", "lengths_so", "whole_so", "own", "found", "at_so"], 3, [0], [(.asg (.nm 3) (.bin .add (.int (1)) (.call "_law_take" [(.var 0), (.int (3))]))), (.asg (.nm 4) (.comp (.bin .add (.int (1)) (.call "_law_take" [(.var 0), (.bi .max2 [(.int (1)), (.bin .fdiv (.var 1) (.var 3))])])) (.nm 6) (.rng [(.var 3)]) (.tr (.bl true)) [("own", 6)])), (.asg (.nm 5) (.call "_law_closed" [(.comp (.call "_law_take" [(.var 0), (.var 2)]) (.nm 6) (.rng [(.bi .sum [(.var 4)])]) (.tr (.bl true)) [("own", 6)])])), (.par [(.nm 7), (.nm 8)] [(.lst []), (.int (0))]), (.for_ (.nm 6) (.hold 4) [(.exp (.mut .append 7 [(.slc (.var 5) (.pt (.var 8)) (.pt (.bin .add (.var 8) (.var 6))))])), (.asg (.nm 8) (.bin .add (.var 8) (.var 6)))]), (.ret (.bi .tuple [(.var 7)]))]⟩
class D__law_rows (T : Tb) : Prop extends D__law_closed T, D__law_take T where df__law_rows : T.df "_law_rows" = some c__law_rows
def c__law_joined : Df := ⟨["rows_so", "found", "own"], 1, [], [(.asg (.nm 1) (.tup [])), (.for_ (.nm 2) (.hold 0) [(.asg (.nm 1) (.bin .add (.var 1) (.var 2)))]), (.ret (.var 1))]⟩
class D__law_joined (T : Tb) : Prop where df__law_joined : T.df "_law_joined" = some c__law_joined
def c__law_within : Df := ⟨["rows_so", "parting_so", "own", "starts_so", "at_so", "k"], 2, [], [(.par [(.nm 3), (.nm 4)] [(.lst []), (.int (0))]), (.for_ (.nm 2) (.hold 0) [(.exp (.mut .append 3 [(.var 4)])), (.asg (.nm 4) (.bin .add (.var 4) (.bi .len [(.var 2)])))]), (.ret (.bi .tuple [(.comp (.var 5) (.nm 5) (.sr (.call "_law_cuts" [(.var 1)])) (.tr (.cmp .nin (.var 5) (.var 3))) [("k", 5)])]))]⟩
class D__law_within (T : Tb) : Prop extends D__law_cuts T where df__law_within : T.df "_law_within" = some c__law_within
def c_is_several : Df := ⟨["thing"], 1, [], [(.ret (.call "is_several_of" [(.var 0)]))]⟩
class D_is_several (T : Tb) : Prop extends D_is_several_of T where df_is_several : T.df "is_several" = some c_is_several
def c_stretches_each : Df := ⟨["parting", "hands", "starts", "place", "hand"], 2, [], [(.asg (.nm 2) (.comp (.var 4) (.tp [(.nm 3), (.nm 4)]) (.enm (.sr (.var 0))) (.or (.tr (.cmp .eq (.var 3) (.int (0)))) (.tr (.cmp .ne (.ix (.var 0) (.bin .sub (.var 3) (.int (1)))) (.var 4)))) [("place", 3), ("hand", 4)])), (.ret (.bi .tuple [(.comp (.me .count (.var 2) [(.var 4)]) (.nm 4) (.rng [(.var 1)]) (.tr (.bl true)) [("hand", 4)])]))]⟩
class D_stretches_each (T : Tb) : Prop where df_stretches_each : T.df "stretches_each" = some c_stretches_each
def c_each_back : Df := ⟨["walked", "place", "stand", "found"], 1, [], [(.par [(.nm 2), (.nm 3)] [(.bi .min1 [(.ix (.var 0) (.neg (.int (1))))]), (.lst [])]), (.for_ (.nm 1) (.rng [(.bin .sub (.bi .len [(.var 0)]) (.int (1))), (.int (0)), (.neg (.int (1)))]) [(.exp (.mut .append 3 [(.ix (.var 2) (.int (0)))])), (.asg (.nm 2) (.ix (.ix (.var 0) (.var 1)) (.var 2)))]), (.ret (.bi .tuple [(.rev (.var 3))]))]⟩
class D_each_back (T : Tb) : Prop where df_each_back : T.df "each_back" = some c_each_back
def c_is_order_of : Df := ⟨["hands", "thing", "place", "hand"], 2, [], [(.ifs (.or (.nt (.tr (.bi .isinst [(.var 1), (.ty "tuple")]))) (.or (.tr (.cmp .eq (.var 1) (.tup []))) (.nt (.tr (.bi .all [(.comp (.call "is_below" [(.var 3), (.var 0)]) (.nm 3) (.hold 1) (.tr (.bl true)) [("hand", 3)])]))))) [(.ret (.bl false))] []), (.ret (.bi .all [(.comp (.cmp .ne (.ix (.var 1) (.var 2)) (.ix (.var 1) (.bin .add (.var 2) (.int (1))))) (.nm 2) (.rng [(.bin .sub (.bi .len [(.var 1)]) (.int (1)))]) (.tr (.bl true)) [("place", 2)])]))]⟩
class D_is_order_of (T : Tb) : Prop extends D_is_below T where df_is_order_of : T.df "is_order_of" = some c_is_order_of
def c_order_back : Df := ⟨["walked", "order", "ends", "place", "stand", "found"], 2, [], [(.asg (.nm 2) (.comp (.var 4) (.nm 4) (.sr (.ix (.var 0) (.neg (.int (1))))) (.tr (.cmp .eq (.ix (.var 4) (.int (0))) (.bin .sub (.bi .len [(.var 1)]) (.int (1))))) [("stand", 4)])), (.ifs (.tr (.cmp .eq (.var 2) (.lst []))) [(.ret .non)] []), (.par [(.nm 4), (.nm 5)] [(.bi .min1 [(.var 2)]), (.lst [])]), (.for_ (.nm 3) (.rng [(.bin .sub (.bi .len [(.var 0)]) (.int (1))), (.int (0)), (.neg (.int (1)))]) [(.exp (.mut .append 5 [(.ix (.var 1) (.ix (.var 4) (.int (0))))])), (.asg (.nm 4) (.ix (.ix (.var 0) (.var 3)) (.var 4)))]), (.ret (.bi .tuple [(.rev (.var 5))]))]⟩
class D_order_back (T : Tb) : Prop where df_order_back : T.df "order_back" = some c_order_back
def c_sure_order : Df := ⟨["hands", "order", "own"], 2, [], [(.asg (.nm 2) (.call "tupled" [(.var 1)])), (.ifs (.nt (.tr (.call "is_order_of" [(.var 0), (.var 2)]))) [(.rse "" [])] []), (.ret (.var 2))]⟩
class D_sure_order (T : Tb) : Prop extends D_is_order_of T, D_tupled T where df_sure_order : T.df "sure_order" = some c_sure_order
def c__law_order : Df := ⟨["parting_so", "k", "own"], 1, [], [(.ret (.bi .tuple [(.comp (.var 2) (.tp [(.nm 1), (.nm 2)]) (.enm (.sr (.var 0))) (.or (.tr (.cmp .eq (.var 1) (.int (0)))) (.tr (.cmp .ne (.ix (.var 0) (.bin .sub (.var 1) (.int (1)))) (.var 2)))) [("k", 1), ("own", 2)])]))]⟩
class D__law_order (T : Tb) : Prop where df__law_order : T.df "_law_order" = some c__law_order
def c_is_worths_of : Df := ⟨["thing", "row", "own"], 1, [], [(.ifs (.or (.nt (.tr (.bi .isinst [(.var 0), (.ty "tuple")]))) (.or (.nt (.tr (.chn .le .le (.int (1)) (.bi .len [(.var 0)]) (.glo "MOST_BEADS")))) (.nt (.tr (.bi .isinst [(.ix (.var 0) (.int (0))), (.ty "tuple")]))))) [(.ret (.bl false))] []), (.ifs (.or (.tr (.cmp .eq (.ix (.var 0) (.int (0))) (.tup []))) (.nt (.tr (.bi .all [(.comp (.call "is_long" [(.var 1), (.bi .len [(.ix (.var 0) (.int (0)))])]) (.nm 1) (.sr (.var 0)) (.tr (.bl true)) [("row", 1)])])))) [(.ret (.bl false))] []), (.ret (.bi .all [(.comp2 (.call "is_number" [(.var 2)]) (.nm 1) (.hold 0) (.tr (.bl true)) (.nm 2) (.hold 1) (.tr (.bl true)) [("row", 1), ("own", 2)] [2])]))]⟩
class D_is_worths_of (T : Tb) : Prop extends D_is_long T, D_is_number T where df_is_worths_of : T.df "is_worths_of" = some c_is_worths_of
def c_sure_worths : Df := ⟨["worths", "own"], 1, [], [(.asg (.nm 1) (.call "tupled" [(.var 0)])), (.ifs (.nt (.tr (.call "is_worths_of" [(.var 1)]))) [(.rse "" [])] []), (.ret (.var 1))]⟩
class D_sure_worths (T : Tb) : Prop extends D_is_worths_of T, D_tupled T where df_sure_worths : T.df "sure_worths" = some c_sure_worths
def c_plus : Df := ⟨["one", "other", "near", "far"], 2, [], [(.ret (.bi .tuple [(.comp (.bin .add (.var 2) (.var 3)) (.tp [(.nm 2), (.nm 3)]) (.zip (.hold 0) (.hold 1)) (.tr (.bl true)) [("near", 2), ("far", 3)])]))]⟩
class D_plus (T : Tb) : Prop where df_plus : T.df "plus" = some c_plus
def c_all_worth : Df := ⟨["worths", "found", "row"], 1, [], [(.asg (.nm 1) (.bin .mul (.tup [(.int (0))]) (.bi .len [(.ix (.var 0) (.int (0)))]))), (.for_ (.nm 2) (.hold 0) [(.asg (.nm 1) (.call "plus" [(.var 1), (.var 2)]))]), (.ret (.var 1))]⟩
class D_all_worth (T : Tb) : Prop extends D_plus T where df_all_worth : T.df "all_worth" = some c_all_worth
def c_is_dues_of : Df := ⟨["worths", "thing", "row", "own"], 2, [], [(.ifs (.or (.nt (.tr (.bi .isinst [(.var 1), (.ty "tuple")]))) (.nt (.tr (.chn .le .le (.int (1)) (.bi .len [(.var 1)]) (.int (4)))))) [(.ret (.bl false))] []), (.ifs (.nt (.tr (.bi .all [(.comp (.and (.call "is_long" [(.var 2), (.bi .len [(.ix (.var 0) (.int (0)))])]) (.bi .all [(.comp (.call "is_number" [(.var 3)]) (.nm 3) (.hold 2) (.tr (.bl true)) [("own", 3)])])) (.nm 2) (.hold 1) (.tr (.bl true)) [("row", 2)])]))) [(.ret (.bl false))] []), (.ret (.cmp .eq (.call "all_worth" [(.var 1)]) (.call "all_worth" [(.var 0)])))]⟩
class D_is_dues_of (T : Tb) : Prop extends D_all_worth T, D_is_long T, D_is_number T where df_is_dues_of : T.df "is_dues_of" = some c_is_dues_of
def c_sure_worth_dues : Df := ⟨["worths", "dues", "own"], 2, [], [(.asg (.nm 2) (.call "tupled" [(.var 1)])), (.ifs (.nt (.tr (.call "is_dues_of" [(.var 0), (.var 2)]))) [(.rse "" [])] []), (.ret (.var 2))]⟩
class D_sure_worth_dues (T : Tb) : Prop extends D_is_dues_of T, D_tupled T where df_sure_worth_dues : T.df "sure_worth_dues" = some c_sure_worth_dues
def c_shares_worth : Df := ⟨["worths", "hands", "parting", "found", "row", "hand"], 3, [], [(.asg (.nm 3) (.comp (.bin .mul (.tup [(.int (0))]) (.bi .len [(.ix (.var 0) (.int (0)))])) (.nm 5) (.rng [(.var 1)]) (.tr (.bl true)) [("hand", 5)])), (.for_ (.tp [(.nm 4), (.nm 5)]) (.zip (.hold 0) (.hold 2)) [(.setI 3 (.var 5) (.call "plus" [(.ix (.var 3) (.var 5)), (.var 4)]))]), (.ret (.bi .tuple [(.var 3)]))]⟩
class D_shares_worth (T : Tb) : Prop extends D_plus T where df_shares_worth : T.df "shares_worth" = some c_shares_worth
def c_is_worths : Df := ⟨["thing"], 1, [], [(.ret (.call "is_worths_of" [(.var 0)]))]⟩
class D_is_worths (T : Tb) : Prop extends D_is_worths_of T where df_is_worths : T.df "is_worths" = some c_is_worths
def c_sure_worth_parting : Df := ⟨["worths", "hands", "parting", "own", "hand"], 3, [], [(.asg (.nm 3) (.call "tupled" [(.var 2)])), (.ifs (.or (.nt (.tr (.call "is_from" [(.var 1), (.int (1))]))) (.or (.tr (.cmp .gt (.var 1) (.int (4)))) (.nt (.tr (.call "is_long" [(.var 3), (.bi .len [(.var 0)])]))))) [(.rse "" [])] []), (.ifs (.nt (.tr (.bi .all [(.comp (.call "is_below" [(.var 4), (.var 1)]) (.nm 4) (.hold 3) (.tr (.bl true)) [("hand", 4)])]))) [(.rse "" [])] []), (.ret (.var 3))]⟩
class D_sure_worth_parting (T : Tb) : Prop extends D_is_below T, D_is_from T, D_is_long T, D_tupled T where df_sure_worth_parting : T.df "sure_worth_parting" = some c_sure_worth_parting
def c_worth_shares : Df := ⟨["worths", "hands", "parting", "own"], 3, [], [(.asg (.nm 3) (.call "sure_worths" [(.var 0)])), (.ret (.call "shares_worth" [(.var 3), (.var 1), (.call "sure_worth_parting" [(.var 3), (.var 1), (.var 2)])]))]⟩
class D_worth_shares (T : Tb) : Prop extends D_shares_worth T, D_sure_worth_parting T, D_sure_worths T where df_worth_shares : T.df "worth_shares" = some c_worth_shares
def c_even_worth_dues : Df := ⟨["worths", "hands", "own", "many"], 2, [], [(.asg (.nm 2) (.call "all_worth" [(.call "sure_worths" [(.var 0)])])), (.ifs (.or (.nt (.tr (.call "is_from" [(.var 1), (.int (1))]))) (.tr (.cmp .gt (.var 1) (.int (4))))) [(.rse "" [])] []), (.ifs (.tr (.bi .any [(.comp (.cmp .ne (.bin .mod (.var 3) (.var 1)) (.int (0))) (.nm 3) (.hold 2) (.tr (.bl true)) [("many", 3)])])) [(.rse "" [])] []), (.ret (.bin .mul (.tup [(.bi .tuple [(.comp (.bin .fdiv (.var 3) (.var 1)) (.nm 3) (.hold 2) (.tr (.bl true)) [("many", 3)])])]) (.var 1)))]⟩
class D_even_worth_dues (T : Tb) : Prop extends D_all_worth T, D_is_from T, D_sure_worths T where df_even_worth_dues : T.df "even_worth_dues" = some c_even_worth_dues
def c__law_worths : Df := ⟨["tin", "most_so", "sorts_so", "wide_so", "its", "own"], 3, [0], [(.asg (.nm 3) (.bin .add (.int (1)) (.call "_law_take" [(.var 0), (.var 2)]))), (.ret (.bi .tuple [(.comp (.bi .tuple [(.comp (.bin .sub (.call "_law_take" [(.var 0), (.int (9))]) (.int (4))) (.nm 5) (.rng [(.var 3)]) (.tr (.bl true)) [("own", 5)])]) (.nm 4) (.rng [(.bin .add (.int (1)) (.call "_law_take" [(.var 0), (.var 1)]))]) (.tr (.bl true)) [("its", 4)])]))]⟩
class D__law_worths (T : Tb) : Prop extends D__law_take T where df__law_worths : T.df "_law_worths" = some c__law_worths
def c__law_got : Df := ⟨["worths_so", "hands_so", "parting_so", "found", "row_so", "hand", "own", "a", "b"], 3, [], [(.asg (.nm 3) (.comp (.bin .mul (.lst [(.int (0))]) (.bi .len [(.ix (.var 0) (.int (0)))])) (.nm 5) (.rng [(.var 1)]) (.tr (.bl true)) [("hand", 5)])), (.for_ (.tp [(.nm 4), (.nm 5)]) (.zip (.hold 0) (.hold 2)) [(.setI 3 (.var 5) (.comp (.bin .add (.var 7) (.var 8)) (.tp [(.nm 7), (.nm 8)]) (.zip (.sr (.ix (.var 3) (.var 5))) (.hold 4)) (.tr (.bl true)) [("a", 7), ("b", 8)]))]), (.ret (.bi .tuple [(.comp (.bi .tuple [(.var 6)]) (.nm 6) (.hold 3) (.tr (.bl true)) [("own", 6)])]))]⟩
class D__law_got (T : Tb) : Prop where df__law_got : T.df "_law_got" = some c__law_got
def c_gap_of : Df := ⟨["worths", "parting", "near", "far", "one", "other"], 2, [], [(.asg (.tp [(.nm 2), (.nm 3)]) (.call "shares_worth" [(.var 0), (.int (2)), (.var 1)])), (.ret (.bi .max1 [(.comp (.bi .abs [(.bin .sub (.var 4) (.var 5))]) (.tp [(.nm 4), (.nm 5)]) (.zip (.hold 2) (.hold 3)) (.tr (.bl true)) [("one", 4), ("other", 5)])]))]⟩
class D_gap_of (T : Tb) : Prop extends D_shares_worth T where df_gap_of : T.df "gap_of" = some c_gap_of
def c_parting_by : Df := ⟨["many", "places", "bead", "found", "hand"], 2, [], [(.par [(.nm 3), (.nm 4)] [(.lst []), (.int (0))]), (.for_ (.nm 2) (.rng [(.var 0)]) [(.asg (.nm 4) (.ife (.tr (.cmp .inn (.var 2) (.var 1))) (.bin .sub (.int (1)) (.var 4)) (.var 4))), (.exp (.mut .append 3 [(.var 4)]))]), (.ret (.bi .tuple [(.var 3)]))]⟩
class D_parting_by (T : Tb) : Prop where df_parting_by : T.df "parting_by" = some c_parting_by
def c__law_gap : Df := ⟨["worths_so", "parting_so", "found", "row_so", "hand", "own", "a", "b"], 2, [], [(.asg (.nm 2) (.bin .mul (.lst [(.int (0))]) (.bi .len [(.ix (.var 0) (.int (0)))]))), (.for_ (.tp [(.nm 3), (.nm 4)]) (.zip (.hold 0) (.hold 1)) [(.asg (.nm 2) (.comp (.bin .add (.var 6) (.bin .mul (.var 7) (.bin .sub (.int (1)) (.bin .mul (.int (2)) (.var 4))))) (.tp [(.nm 6), (.nm 7)]) (.zip (.hold 2) (.hold 3)) (.tr (.bl true)) [("a", 6), ("b", 7)]))]), (.ret (.bi .max1 [(.comp (.bi .abs [(.var 5)]) (.nm 5) (.hold 2) (.tr (.bl true)) [("own", 5)])]))]⟩
class D__law_gap (T : Tb) : Prop where df__law_gap : T.df "_law_gap" = some c__law_gap
def c_picks : Df := ⟨["many", "some", "found", "lap"], 2, [], [(.asg (.nm 2) (.int (1))), (.for_ (.nm 3) (.rng [(.var 1)]) [(.asg (.nm 2) (.bin .fdiv (.bin .mul (.var 2) (.bin .sub (.var 0) (.var 3))) (.bin .add (.var 3) (.int (1)))))]), (.ret (.var 2))]⟩
class D_picks (T : Tb) : Prop where df_picks : T.df "picks" = some c_picks
def c_splits : Df := ⟨["many", "hands", "rows", "hand", "row", "own"], 2, [], [(.asg (.nm 2) (.lst [(.tup [])])), (.for_ (.nm 3) (.rng [(.bin .sub (.var 1) (.int (1)))]) [(.asg (.nm 2) (.comp2 (.bin .add (.var 4) (.tup [(.var 5)])) (.nm 4) (.hold 2) (.tr (.bl true)) (.nm 5) (.rng [(.bin .add (.bin .sub (.var 0) (.bi .sum [(.var 4)])) (.int (1)))]) (.tr (.bl true)) [("row", 4), ("own", 5)] [5]))]), (.ret (.comp (.bin .add (.var 4) (.tup [(.bin .sub (.var 0) (.bi .sum [(.var 4)]))])) (.nm 4) (.hold 2) (.tr (.bl true)) [("row", 4)]))]⟩
class D_splits (T : Tb) : Prop where df_splits : T.df "splits" = some c_splits
def c__law_power : Df := ⟨["one", "many_so", "found", "lap"], 2, [], [(.asg (.nm 2) (.tup [(.int (1)), (.int (1))])), (.for_ (.nm 3) (.rng [(.bi .abs [(.var 1)])]) [(.asg (.nm 2) (.call "_law_by" [(.var 2), (.var 0)]))]), (.ret (.ife (.tr (.cmp .ge (.var 1) (.int (0)))) (.var 2) (.tup [(.ix (.var 2) (.int (1))), (.ix (.var 2) (.int (0)))])))]⟩
class D__law_power (T : Tb) : Prop extends D__law_by T where df__law_power : T.df "_law_power" = some c__law_power
def c_ordered : Df := ⟨["fractions", "found", "own", "place", "its"], 1, [], [(.asg (.nm 1) (.lst [])), (.for_ (.nm 2) (.hold 0) [(.asg (.nm 3) (.bi .len [(.comp (.var 4) (.nm 4) (.hold 1) (.tr (.call "less" [(.var 4), (.var 2)])) [("its", 4)])])), (.asg (.nm 1) (.bin .add (.bin .add (.slc (.var 1) .nil (.pt (.var 3))) (.lst [(.var 2)])) (.slc (.var 1) (.pt (.var 3)) .nil)))]), (.ret (.var 1))]⟩
class D_ordered (T : Tb) : Prop extends D_less T where df_ordered : T.df "ordered" = some c_ordered
def c__law_strip : Df := ⟨["tin", "most_so", "rows_so", "lap"], 2, [0], [(.asg (.nm 2) (.lst [])), (.for_ (.nm 3) (.rng [(.bin .add (.int (1)) (.call "_law_take" [(.var 0), (.var 1)]))]) [(.exp (.mut .append 2 [(.tup [(.call "_law_cut" [(.bin .add (.int (1)) (.call "_law_take" [(.var 0), (.int (4))])), (.bin .add (.int (1)) (.call "_law_take" [(.var 0), (.int (2))]))]), (.call "_law_cut" [(.bin .add (.int (1)) (.call "_law_take" [(.var 0), (.int (3))])), (.bin .add (.int (1)) (.call "_law_take" [(.var 0), (.int (2))]))]), (.call "_law_cut" [(.call "_law_take" [(.var 0), (.int (4))]), (.bin .add (.int (1)) (.call "_law_take" [(.var 0), (.int (2))]))])])]))]), (.ret (.bi .tuple [(.var 2)]))]⟩
class D__law_strip (T : Tb) : Prop extends D__law_cut T, D__law_take T where df__law_strip : T.df "_law_strip" = some c__law_strip
def c__law_ahead : Df := ⟨["strip_so", "place_so", "at_so", "first", "second", "length_so", "near", "far", "own", "step_so"], 2, [], [(.par [(.nm 2), (.nm 3), (.nm 4)] [(.tup [(.int (0)), (.int (1))]), (.tup [(.int (0)), (.int (1))]), (.tup [(.int (0)), (.int (1))])]), (.for_ (.tp [(.nm 5), (.nm 6), (.nm 7)]) (.hold 0) [(.asg (.nm 8) (.call "_law_plus" [(.var 1), (.tup [(.bin .sub (.int (0)) (.ix (.var 2) (.int (0)))), (.ix (.var 2) (.int (1)))])])), (.ifs (.tr (.cmp .gt (.ix (.var 8) (.int (0))) (.int (0)))) [(.asg (.nm 9) (.ife (.tr (.call "_law_less" [(.var 5), (.var 8)])) (.var 5) (.var 8))), (.par [(.nm 3), (.nm 4)] [(.call "_law_plus" [(.var 3), (.call "_law_by" [(.var 9), (.var 6)])]), (.call "_law_plus" [(.var 4), (.call "_law_by" [(.var 9), (.var 7)])])])] []), (.asg (.nm 2) (.call "_law_plus" [(.var 2), (.var 5)]))]), (.ret (.tup [(.var 3), (.var 4)]))]⟩
class D__law_ahead (T : Tb) : Prop extends D__law_by T, D__law_less T, D__law_plus T where df__law_ahead : T.df "_law_ahead" = some c__law_ahead
def c__law_minus : Df := ⟨["one", "two"], 2, [], [(.ret (.call "_law_plus" [(.var 0), (.tup [(.bin .sub (.int (0)) (.ix (.var 1) (.int (0)))), (.ix (.var 1) (.int (1)))])]))]⟩
class D__law_minus (T : Tb) : Prop extends D__law_plus T where df__law_minus : T.df "_law_minus" = some c__law_minus
def c__law_excess : Df := ⟨["strip_so", "start_so", "end_so", "part_so", "whole_so", "near", "far"], 4, [], [(.asg (.nm 4) (.call "_law_ahead" [(.var 0), (.tup [(.bin .pow (.int (10)) (.int (9))), (.int (1))])])), (.par [(.nm 5), (.nm 6)] [(.call "_law_ahead" [(.var 0), (.var 1)]), (.call "_law_ahead" [(.var 0), (.var 2)])]), (.ret (.tup [(.call "_law_minus" [(.call "_law_minus" [(.ix (.var 6) (.int (1))), (.ix (.var 5) (.int (1)))]), (.call "_law_by" [(.ix (.var 4) (.int (1))), (.var 3)])]), (.call "_law_minus" [(.call "_law_minus" [(.ix (.var 6) (.int (0))), (.ix (.var 5) (.int (0)))]), (.call "_law_by" [(.ix (.var 4) (.int (0))), (.var 3)])])]))]⟩
class D__law_excess (T : Tb) : Prop extends D__law_ahead T, D__law_by T, D__law_minus T where df__law_excess : T.df "_law_excess" = some c__law_excess
def c__law_with_first : Df := ⟨["strip_so", "much_so", "at_so", "left_so", "length_so", "near", "far", "here_so"], 2, [], [(.par [(.nm 2), (.nm 3)] [(.tup [(.int (0)), (.int (1))]), (.var 1)]), (.for_ (.tp [(.nm 4), (.nm 5), (.nm 6)]) (.hold 0) [(.asg (.nm 7) (.call "_law_by" [(.var 4), (.var 5)])), (.ifs (.nt (.tr (.call "_law_less" [(.var 7), (.var 3)]))) [(.ret (.call "_law_plus" [(.var 2), (.call "_law_per" [(.var 3), (.var 5)])]))] []), (.par [(.nm 2), (.nm 3)] [(.call "_law_plus" [(.var 2), (.var 4)]), (.call "_law_minus" [(.var 3), (.var 7)])])]), (.ret (.var 2))]⟩
class D__law_with_first (T : Tb) : Prop extends D__law_by T, D__law_less T, D__law_minus T, D__law_per T, D__law_plus T where df__law_with_first : T.df "_law_with_first" = some c__law_with_first
def c_strip_of : Df := ⟨["string", "own", "kind"], 1, [], [(.asg (.nm 1) (.call "tupled" [(.var 0)])), (.ifs (.or (.nt (.tr (.bi .isinst [(.var 1), (.ty "tuple")]))) (.or (.nt (.tr (.chn .le .le (.int (1)) (.bi .len [(.var 1)]) (.glo "MOST_PIECES")))) (.nt (.tr (.bi .all [(.comp (.call "is_below" [(.var 2), (.int (2))]) (.nm 2) (.hold 1) (.tr (.bl true)) [("kind", 2)])]))))) [(.rse "" [])] []), (.ret (.bi .tuple [(.comp (.tup [(.glo "ONE"), (.glo "ONE"), (.tup [(.var 2), (.int (1))])]) (.nm 2) (.hold 1) (.tr (.bl true)) [("kind", 2)])]))]⟩
class D_strip_of (T : Tb) : Prop extends D_is_below T, D_tupled T where df_strip_of : T.df "strip_of" = some c_strip_of
def c_side : Df := ⟨["line", "point"], 2, [], [(.ret (.bin .sub (.bin .add (.bin .mul (.ix (.var 0) (.int (0))) (.ix (.var 1) (.int (0)))) (.bin .mul (.ix (.var 0) (.int (1))) (.ix (.var 1) (.int (1))))) (.ix (.var 0) (.int (2)))))]⟩
class D_side (T : Tb) : Prop where df_side : T.df "side" = some c_side
def c_halves_kind : Df := ⟨["points", "line", "kind", "sides", "low", "high", "point", "own"], 3, [], [(.asg (.nm 3) (.comp (.call "side" [(.var 1), (.var 6)]) (.nm 6) (.hold 0) (.tr (.cmp .eq (.ix (.var 6) (.int (2))) (.var 2))) [("point", 6)])), (.par [(.nm 4), (.nm 5)] [(.bi .len [(.comp (.var 7) (.nm 7) (.hold 3) (.tr (.cmp .lt (.var 7) (.int (0)))) [("own", 7)])]), (.bi .len [(.comp (.var 7) (.nm 7) (.hold 3) (.tr (.cmp .gt (.var 7) (.int (0)))) [("own", 7)])])]), (.ret (.cmp .le (.bin .mul (.int (2)) (.bi .max2 [(.var 4), (.var 5)])) (.bi .len [(.var 3)])))]⟩
class D_halves_kind (T : Tb) : Prop extends D_side T where df_halves_kind : T.df "halves_kind" = some c_halves_kind
def c_line_through : Df := ⟨["one", "other", "rise", "run"], 2, [], [(.par [(.nm 2), (.nm 3)] [(.bin .sub (.ix (.var 1) (.int (1))) (.ix (.var 0) (.int (1)))), (.bin .sub (.ix (.var 1) (.int (0))) (.ix (.var 0) (.int (0))))]), (.ret (.tup [(.var 2), (.bin .sub (.int (0)) (.var 3)), (.bin .sub (.bin .mul (.var 2) (.ix (.var 0) (.int (0)))) (.bin .mul (.var 3) (.ix (.var 0) (.int (1)))))]))]⟩
class D_line_through (T : Tb) : Prop where df_line_through : T.df "line_through" = some c_line_through
def c_lines_of_points : Df := ⟨["points", "place", "at", "one"], 1, [], [(.ifs (.tr (.cmp .eq (.bi .len [(.var 0)]) (.int (1)))) [(.ret (.lst [(.tup [(.int (1)), (.int (0)), (.ix (.ix (.var 0) (.int (0))) (.int (0)))])]))] []), (.ret (.comp2 (.call "line_through" [(.var 3), (.ix (.var 0) (.var 1))]) (.tp [(.nm 2), (.nm 3)]) (.enm (.sr (.var 0))) (.tr (.bl true)) (.nm 1) (.rng [(.bin .add (.var 2) (.int (1))), (.bi .len [(.var 0)])]) (.tr (.bl true)) [("at", 2), ("one", 3), ("place", 1)] [1]))]⟩
class D_lines_of_points (T : Tb) : Prop extends D_line_through T where df_lines_of_points : T.df "lines_of_points" = some c_lines_of_points
def c_is_line : Df := ⟨["thing", "own"], 1, [], [(.ret (.and (.call "is_long" [(.var 0), (.int (3))]) (.and (.bi .all [(.comp (.call "is_number" [(.var 1)]) (.nm 1) (.hold 0) (.tr (.bl true)) [("own", 1)])]) (.cmp .ne (.slc (.var 0) .nil (.pt (.int (2)))) (.tup [(.int (0)), (.int (0))])))))]⟩
class D_is_line (T : Tb) : Prop extends D_is_long T, D_is_number T where df_is_line : T.df "is_line" = some c_is_line
def c_three_apart : Df := ⟨["far", "found", "kind", "across", "up"], 1, [], [(.ifs (.or (.nt (.tr (.call "is_from" [(.var 0), (.int (4))]))) (.tr (.cmp .gt (.var 0) (.int (1000))))) [(.rse "" [])] []), (.asg (.nm 1) (.lst [])), (.for_ (.tp [(.nm 2), (.tp [(.nm 3), (.nm 4)])]) (.enm (.sr (.tup [(.tup [(.int (0)), (.int (0))]), (.tup [(.var 0), (.int (0))]), (.tup [(.int (0)), (.var 0)])]))) [(.exp (.mut .extend 1 [(.lst [(.tup [(.var 3), (.var 4), (.var 2)]), (.tup [(.bin .add (.var 3) (.int (1))), (.var 4), (.var 2)]), (.tup [(.var 3), (.bin .add (.var 4) (.int (1))), (.var 2)])])]))]), (.ret (.bi .tuple [(.var 1)]))]⟩
class D_three_apart (T : Tb) : Prop extends D_is_from T where df_three_apart : T.df "three_apart" = some c_three_apart
def c__law_halves : Df := ⟨["points_so", "line_so", "kind_so", "sides_so", "own"], 2, [], [(.for_ (.nm 2) (.sr (.bix .sortset [(.comp (.ix (.var 4) (.int (2))) (.nm 4) (.hold 0) (.tr (.bl true)) [("own", 4)])])) [(.asg (.nm 3) (.comp (.bin .sub (.bin .add (.bin .mul (.ix (.var 1) (.int (0))) (.ix (.var 4) (.int (0)))) (.bin .mul (.ix (.var 1) (.int (1))) (.ix (.var 4) (.int (1))))) (.ix (.var 1) (.int (2)))) (.nm 4) (.hold 0) (.tr (.cmp .eq (.ix (.var 4) (.int (2))) (.var 2))) [("own", 4)])), (.ifs (.or (.tr (.cmp .gt (.bin .mul (.int (2)) (.bi .len [(.comp (.var 4) (.nm 4) (.hold 3) (.tr (.cmp .lt (.var 4) (.int (0)))) [("own", 4)])])) (.bi .len [(.var 3)]))) (.tr (.cmp .gt (.bin .mul (.int (2)) (.bi .len [(.comp (.var 4) (.nm 4) (.hold 3) (.tr (.cmp .gt (.var 4) (.int (0)))) [("own", 4)])])) (.bi .len [(.var 3)])))) [(.ret (.bl false))] [])]), (.ret (.bl true))]⟩
class D__law_halves (T : Tb) : Prop where df__law_halves : T.df "_law_halves" = some c__law_halves
def c__law_lines : Df := ⟨["points_so", "found", "k", "one", "two", "rise_so", "run_so"], 1, [], [(.asg (.nm 1) (.lst [])), (.for_ (.tp [(.nm 2), (.nm 3)]) (.enm (.sr (.var 0))) [(.for_ (.nm 4) (.sr (.slc (.var 0) (.pt (.bin .add (.var 2) (.int (1)))) .nil)) [(.par [(.nm 5), (.nm 6)] [(.bin .sub (.ix (.var 4) (.int (1))) (.ix (.var 3) (.int (1)))), (.bin .sub (.ix (.var 4) (.int (0))) (.ix (.var 3) (.int (0))))]), (.exp (.mut .append 1 [(.tup [(.var 5), (.bin .sub (.int (0)) (.var 6)), (.bin .sub (.bin .mul (.var 5) (.ix (.var 3) (.int (0)))) (.bin .mul (.var 6) (.ix (.var 3) (.int (1)))))])]))])]), (.ret (.var 1))]⟩
class D__law_lines (T : Tb) : Prop where df__law_lines : T.df "_law_lines" = some c__law_lines
def c_sure_line : Df := ⟨["line", "own"], 1, [], [(.asg (.nm 1) (.call "tupled" [(.var 0)])), (.ifs (.nt (.tr (.call "is_line" [(.var 1)]))) [(.rse "" [])] []), (.ret (.var 1))]⟩
class D_sure_line (T : Tb) : Prop extends D_is_line T, D_tupled T where df_sure_line : T.df "sure_line" = some c_sure_line
def c_sign_of : Df := ⟨["number"], 1, [], [(.ret (.bin .sub (.bi .int [(.cmp .gt (.var 0) (.int (0)))]) (.bi .int [(.cmp .lt (.var 0) (.int (0)))])))]⟩
class D_sign_of (T : Tb) : Prop where df_sign_of : T.df "sign_of" = some c_sign_of
def c_turn : Df := ⟨["one", "two", "three"], 3, [], [(.ret (.bin .sub (.bin .mul (.bin .sub (.ix (.var 1) (.int (0))) (.ix (.var 0) (.int (0)))) (.bin .sub (.ix (.var 2) (.int (1))) (.ix (.var 0) (.int (1))))) (.bin .mul (.bin .sub (.ix (.var 1) (.int (1))) (.ix (.var 0) (.int (1)))) (.bin .sub (.ix (.var 2) (.int (0))) (.ix (.var 0) (.int (0)))))))]⟩
class D_turn (T : Tb) : Prop where df_turn : T.df "turn" = some c_turn
def c_are_crossing : Df := ⟨["one", "two", "three", "four", "near"], 4, [], [(.asg (.nm 4) (.bin .mul (.call "sign_of" [(.call "turn" [(.var 0), (.var 1), (.var 2)])]) (.call "sign_of" [(.call "turn" [(.var 0), (.var 1), (.var 3)])]))), (.ret (.and (.cmp .lt (.var 4) (.int (0))) (.cmp .lt (.bin .mul (.call "sign_of" [(.call "turn" [(.var 2), (.var 3), (.var 0)])]) (.call "sign_of" [(.call "turn" [(.var 2), (.var 3), (.var 1)])])) (.int (0)))))]⟩
class D_are_crossing (T : Tb) : Prop extends D_sign_of T, D_turn T where df_are_crossing : T.df "are_crossing" = some c_are_crossing
def c_has_three : Df := ⟨["points", "size", "one", "two", "three"], 1, [], [(.asg (.nm 1) (.bi .len [(.var 0)])), (.for_ (.nm 2) (.rng [(.var 1)]) [(.for_ (.nm 3) (.rng [(.bin .add (.var 2) (.int (1))), (.var 1)]) [(.ifs (.tr (.bi .any [(.comp (.cmp .eq (.call "turn" [(.ix (.var 0) (.var 2)), (.ix (.var 0) (.var 3)), (.ix (.var 0) (.var 4))]) (.int (0))) (.nm 4) (.rng [(.bin .add (.var 3) (.int (1))), (.var 1)]) (.tr (.bl true)) [("three", 4)])])) [(.ret (.bl true))] [])])]), (.ret (.bl false))]⟩
class D_has_three (T : Tb) : Prop extends D_turn T where df_has_three : T.df "has_three" = some c_has_three
def c_first_crossing : Df := ⟨["points", "pairs", "near", "far", "ends", "own"], 2, [], [(.for_ (.nm 2) (.rng [(.bi .len [(.var 1)])]) [(.for_ (.nm 3) (.rng [(.bin .add (.var 2) (.int (1))), (.bi .len [(.var 1)])]) [(.asg (.nm 4) (.comp (.ix (.var 0) (.var 5)) (.nm 5) (.sr (.bin .add (.ix (.var 1) (.var 2)) (.ix (.var 1) (.var 3)))) (.tr (.bl true)) [("own", 5)])), (.ifs (.tr (.call "are_crossing" [(.ix (.var 4) (.int (0))), (.ix (.var 4) (.int (1))), (.ix (.var 4) (.int (2))), (.ix (.var 4) (.int (3)))])) [(.ret (.tup [(.var 2), (.var 3)]))] [])])]), (.ret .non)]⟩
class D_first_crossing (T : Tb) : Prop extends D_are_crossing T where df_first_crossing : T.df "first_crossing" = some c_first_crossing
def c_is_pairs_of : Df := ⟨["points", "thing", "ends", "pair", "own", "one", "two"], 2, [], [(.ifs (.or (.nt (.tr (.bi .isinst [(.var 1), (.ty "tuple")]))) (.or (.nt (.tr (.bi .all [(.comp (.call "is_long" [(.var 3), (.int (2))]) (.nm 3) (.hold 1) (.tr (.bl true)) [("pair", 3)])]))) (.nt (.tr (.call "ascends" [(.bi .list [(.var 1)])]))))) [(.ret (.bl false))] []), (.asg (.nm 2) (.comp2 (.var 4) (.nm 3) (.hold 1) (.tr (.bl true)) (.nm 4) (.hold 3) (.tr (.bl true)) [("pair", 3), ("own", 4)] [4])), (.ifs (.or (.nt (.tr (.bi .all [(.comp (.call "is_below" [(.var 4), (.bi .len [(.var 0)])]) (.nm 4) (.hold 2) (.tr (.bl true)) [("own", 4)])]))) (.tr (.cmp .ne (.bi .sorted [(.var 2)]) (.bix .listR [(.bi .len [(.var 0)])])))) [(.ret (.bl false))] []), (.ifs (.nt (.tr (.bi .all [(.comp (.and (.cmp .eq (.ix (.ix (.var 0) (.var 5)) (.int (2))) (.int (0))) (.cmp .eq (.ix (.ix (.var 0) (.var 6)) (.int (2))) (.int (1)))) (.tp [(.nm 5), (.nm 6)]) (.hold 1) (.tr (.bl true)) [("one", 5), ("two", 6)])]))) [(.ret (.bl false))] []), (.ret (.cmp .is (.call "first_crossing" [(.var 0), (.bi .list [(.var 1)])]) .non))]⟩
class D_is_pairs_of (T : Tb) : Prop extends D_ascends T, D_first_crossing T, D_is_below T, D_is_long T where df_is_pairs_of : T.df "is_pairs_of" = some c_is_pairs_of
def c__law_turn : Df := ⟨["one", "two", "three"], 3, [], [(.ret (.bin .sub (.bin .mul (.bin .sub (.ix (.var 1) (.int (0))) (.ix (.var 0) (.int (0)))) (.bin .sub (.ix (.var 2) (.int (1))) (.ix (.var 0) (.int (1))))) (.bin .mul (.bin .sub (.ix (.var 1) (.int (1))) (.ix (.var 0) (.int (1)))) (.bin .sub (.ix (.var 2) (.int (0))) (.ix (.var 0) (.int (0)))))))]⟩
class D__law_turn (T : Tb) : Prop where df__law_turn : T.df "_law_turn" = some c__law_turn
def c__law_crossing : Df := ⟨["points_so", "pairs_so", "k", "near", "far", "a", "b", "c", "d"], 2, [], [(.for_ (.tp [(.nm 2), (.nm 3)]) (.enm (.sr (.var 1))) [(.for_ (.nm 4) (.sr (.slc (.var 1) .nil (.pt (.var 2)))) [(.par [(.nm 5), (.nm 6), (.nm 7), (.nm 8)] [(.ix (.var 0) (.ix (.var 3) (.int (0)))), (.ix (.var 0) (.ix (.var 3) (.int (1)))), (.ix (.var 0) (.ix (.var 4) (.int (0)))), (.ix (.var 0) (.ix (.var 4) (.int (1))))]), (.ifs (.and (.tr (.cmp .lt (.bin .mul (.call "_law_turn" [(.var 5), (.var 6), (.var 7)]) (.call "_law_turn" [(.var 5), (.var 6), (.var 8)])) (.int (0)))) (.tr (.cmp .lt (.bin .mul (.call "_law_turn" [(.var 7), (.var 8), (.var 5)]) (.call "_law_turn" [(.var 7), (.var 8), (.var 6)])) (.int (0))))) [(.ret (.bl true))] [])])]), (.ret (.bl false))]⟩
class D__law_crossing (T : Tb) : Prop extends D__law_turn T where df__law_crossing : T.df "_law_crossing" = some c__law_crossing
end VP

set_option Elab.async false
set_option linter.all false
set_option maxRecDepth 100000
set_option maxHeartbeats 1000000
/-! What the common defs come to: numbers, strings of beads. -/
namespace VP
open PySem L2
-- steps of the evaluator, as local words: mstop (slots), infer_instance (what is asked beside), mexfalso (calls), massumption (data), mframe (one step)
local macro_rules | `(tactic| mstop) => `(tactic| first | (simp only [startE, List.replicate_succ, List.replicate_zero, Nat.reduceAdd, Nat.reduceSub, List.length_cons, List.length_nil, List.set_cons_zero, List.set_cons_succ, blank, restore, putH, List.map_cons, List.map_nil, List.cons_append, List.nil_append, Sv.h, Option.getD_some, List.getElem?_cons_zero, List.getElem?_cons_succ, putBack, ownLocs, own_lt, own_lf, own_tup, own_int, own_bl, own_str, own_non, own_fn, own_pr, own_tnD, Bool.false_eq_true, if_true, if_false, Bool.not_true, Bool.not_false, Bool.and_true, Bool.true_and, Bool.or_false, Bool.false_or, Bool.or_true, Bool.true_or, Bool.and_false, Bool.false_and, ite_true, ite_false, reduceIte]; done) | (simp only [startE, List.replicate_succ, List.replicate_zero, Nat.reduceAdd, Nat.reduceSub, List.length_cons, List.length_nil, List.set_cons_zero, List.set_cons_succ, blank, restore, putH, List.map_cons, List.map_nil, List.cons_append, List.nil_append, Sv.h, Option.getD_some, List.getElem?_cons_zero, List.getElem?_cons_succ, putBack, ownLocs, own_lt, own_lf, own_tup, own_int, own_bl, own_str, own_non, own_fn, own_pr, own_tnD, Bool.false_eq_true, if_true, if_false, Bool.not_true, Bool.not_false, Bool.and_true, Bool.true_and, Bool.or_false, Bool.false_or, Bool.or_true, Bool.true_or, Bool.and_false, Bool.false_and, ite_true, ite_false, reduceIte]; exact rfl) | exact rfl)
local macro_rules | `(tactic| mexfalso) => `(tactic| fail)
local macro_rules | `(tactic| massumption) => `(tactic| first
  | exact b_add | exact b_sub | exact b_mul (mok_l (by omega) (by omega)) | exact b_mul (mok_r (by omega) (by omega)) | apply b_mul | apply b_fdiv | apply b_mod | exact b_pow (by decide) | apply b_addT | apply b_addL | apply b_addTd | apply b_addLd | apply b_repL | apply b_repT
  | exact c_eq | exact c_ne | exact c_eqb | exact c_eqS | exact c_neS | exact c_neb | exact c_isInt | exact c_isBl | exact c_isStr | exact c_isTup | exact c_isLst | exact c_isNon | exact c_isnInt | exact c_isnBl | exact c_isnStr | exact c_isnTup | exact c_isnLst | exact c_isnNon | exact c_lt | exact c_le | exact c_gt | exact c_ge | exact c_eqT0 (by decide) | exact c_eqT (by decide) | exact c_neT (by decide) | exact c_eqL (by decide) | exact c_neL (by decide)
  | exact c_innT rfl (by decide) | exact c_innL rfl (by decide) | exact c_ninT rfl (by decide) | exact c_ninL rfl (by decide)
  | apply ix_map | apply ix_mapL | exact Ixd.mk rfl | exact s_tup | exact s_lst | exact r_tup | exact r_lst
  | exact g_lenT | exact g_lenL | exact g_tupL | exact g_tupT | exact g_lstL | exact g_lstT | exact g_int | exact g_intb | exact g_abs | exact g_all | exact g_any | exact g_sumL0 | exact g_sumT0 | exact g_sum | exact g_sumT | apply g_maxT0 | apply g_maxL0 | apply g_minT0 | apply g_minL0 | apply g_maxT | apply g_maxL | apply g_minT | apply g_minL | exact g_max2 | exact g_min2 | exact g_sortI0 | exact g_sortI
  | exact g_inst (b := true) rfl | exact g_inst (b := false) rfl | exact g_inst2 (b := true) (b' := true) rfl rfl | exact g_inst2 (b := true) (b' := false) rfl rfl | exact g_inst2 (b := false) (b' := true) rfl rfl | exact g_inst2 (b := false) (b' := false) rfl rfl
  | exact m_countT rfl (by decide) | exact m_countL rfl (by decide) | apply m_idxL rfl (by decide) | apply q_rng1 | apply x_listR | apply x_ssetL | apply x_ssetT | apply q_rng2
  | exact it_tup | exact it_lst | exact td_bl | exact td_int | exact td_tup | exact td_lst | exact td_tupd | exact td_lstd | exact mt_cT | exact mt_cL | exact mt_iL | exact zip_map | exact enm_map | exact im_map | exact im_lst)
local macro_rules | `(tactic| mframe) => `(tactic| first
  | exact xe_int | exact xe_bl | exact xe_str | exact xe_non | exact xe_ty | apply xe_var | exact xs_nil | apply xs_cons
  | apply xe_bin | apply xe_cmp | apply xe_chn | apply xe_ix | apply xe_bi | apply xe_callO | apply xe_me | apply xe_andr
  | apply xe_if | apply xe_tup | apply xe_lst | apply xe_slc | apply xe_rev | apply xe_bix | apply xe_nt | apply xe_neg | apply xe_mut
  | apply xe_drawsV | apply xe_drawsI | apply xe_compm | apply xe_compf
  | exact rs_tmp | apply rs_loc | apply rs_ite | exact rsl_nil | apply rsl_cons | exact va_tmp | exact va_loc ⟨rfl⟩ rfl | apply va_locF | apply va_ite | exact fr_no rfl | exact fr_lst | exact val_nil | apply val_cons | exact vao_nil | apply vao_cons
  | exact fac_int0 | exact fac_int | exact fac_tz0 | exact fac_tz | exact fac_lz0 | exact fac_lz | exact fac_any
  | (apply wp_dead; (try simp only [Bool.and_eq_true, Bool.or_eq_true, Bool.not_eq_true', Bool.and_eq_false_iff, Bool.or_eq_false_iff, Bool.not_eq_false', decide_eq_true_eq, decide_eq_false_iff_not] at *); omega)
  | exact mrg_same | exact mrg_t | exact mrg_f | exact mrg_int | exact mrg_bl | exact mrg_str | exact mrg_tup | exact mrg_lst | exact mrg_any
  | apply br_t | apply br_f | apply br_k | exact or_t | apply or_f | apply or_k | exact and_f | apply and_t | apply and_k | exact ande_f | apply ande_t | apply ande_k
  | apply xt_nt | apply xt_andr | apply xt_orr | apply xt_tr
  | exact xp_nil | apply xp_pt | apply xc_hold | apply xc_sr | apply xi_hold | apply xi_sr | apply xi_rng | apply xi_zip | apply xi_enm
  | apply em | apply ef | apply ef2
  | apply wp_asg | apply wp_par | apply wp_setI | apply wp_ifk | apply wp_ret | apply wp_exp | apply wp_pas | apply wp_aug | apply wp_nil
  | apply bw_t | apply bw_f0 | apply bw_f | apply bw_k | apply pq_nx | apply pq_rt | apply lq_nx | apply lq_rt | apply tq_nx | apply tq_rt | apply tq_er | (apply rtq; try rfl) | apply oq_rt | apply rqx | apply oqx_rt | exact Otl.mk rfl
  | exact mv_tmp | exact mv_locN ⟨Nat.le_of_ble_eq_true rfl⟩ ⟨rfl⟩ ⟨by mstop⟩ | exact mv_par ⟨Nat.le_of_ble_eq_true rfl⟩ (va_loc ⟨rfl⟩ rfl) | (apply mv_par ⟨Nat.le_of_ble_eq_true rfl⟩; apply va_locF) | apply mv_iteN
  | apply asg_nm | apply asg_tp | apply asg_pr | exact asgL_nil | apply asgL_cons
  | exact Sl.mk rfl | exact Ixn.mk rfl | (apply Nm.mk; mstop) | (apply Nb.mk; mstop) | exact Bl.mk rfl | exact Ln.mk rfl | exact Nd.mk List.nodup_nil | exact Nd.mk (List.nodup_singleton _) | (apply Nd.mk; simp only [ownLocs, own_lt, own_lf, own_tup, own_int, own_bl, own_str, own_non, own_fn, own_pr, own_tnD, Bool.false_eq_true, if_true, if_false]; decide) | exact Le.mk (Nat.le_of_ble_eq_true rfl) | (apply Le.mk; first | (show (_ : Prop); assumption) | exact (rfl : (_ : D) = _) | omega  | (simp only [LIM, List.length_cons, List.length_nil, List.length_map, List.length_range, List.length_zip, List.length_append, List.length_reverse, List.length_replicate, List.length_zipIdx]; omega))
  | massumption | (apply sem_guard; mexfalso)
  | exact Imp.mk ab1 | exact Imp.mk ab2 | (apply Imp.mk; intro _) | (apply Fa.mk; intro _ _) | (apply Fr1.mk; intro _) | (show (_ : Prop); assumption) | exact (rfl : (_ : D) = _) | omega  | (simp only [LIM, List.length_cons, List.length_nil, List.length_map, List.length_range, List.length_zip, List.length_append, List.length_reverse, List.length_replicate, List.length_zipIdx]; omega))
abbrev tZ (xs : List Int) : D := .tup (xs.map .int)
section
variable {T : Tb} {n : Nat}
theorem is_number_int [D_is_number T] {i : Int} : Sem T (n + 1) "is_number" [.int i] (.bl true) [.int i] := by
  refine sem_pure D_is_number.df_is_number rfl rfl rfl ⟨by mstop⟩ ?_
  repeat' mframe
local macro_rules | `(tactic| mexfalso) => `(tactic| exact is_number_int)
theorem is_from_int [D_is_from T] {a b : Int} : Sem T (n + 2) "is_from" [.int a, .int b] (.bl (decide (b ≤ a))) [.int a, .int b] := by
  refine sem_pure D_is_from.df_is_from rfl rfl rfl ⟨by mstop⟩ ?_
  repeat' mframe
local macro_rules | `(tactic| mexfalso) => `(tactic| exact is_from_int)
theorem is_below_int [D_is_below T] {a b : Int} : Sem T (n + 3) "is_below" [.int a, .int b] (.bl (decide (0 ≤ a) && decide (a < b))) [.int a, .int b] := by
  refine sem_pure D_is_below.df_is_below rfl rfl rfl ⟨by mstop⟩ ?_
  repeat' mframe
local macro_rules | `(tactic| mexfalso) => `(tactic| exact is_below_int)
theorem tupled_int [D_tupled T] {i : Int} : Sem T (n + 1) "tupled" [.int i] (.int i) [.int i] := by
  refine sem_pure D_tupled.df_tupled rfl rfl rfl ⟨by mstop⟩ ?_
  repeat' mframe
local macro_rules | `(tactic| mexfalso) => `(tactic| exact tupled_int)
theorem tupled_I [D_tupled T] {s : List Int} (hl : s.length ≤ 100000) : Sem T (n + 2) "tupled" [tZ s] (tZ s) [tZ s] := by
  refine sem_pure D_tupled.df_tupled rfl rfl rfl ⟨by mstop⟩ ?_
  repeat' mframe
local macro_rules | `(tactic| mexfalso) => `(tactic| apply tupled_I)
def kindsN (s : List Int) : Nat := (if mxI s < (s.length : Int) then mxI s else (s.length : Int)).toNat
def isStr (s : List Int) : Bool := !s.isEmpty && s.all (fun x => decide (0 ≤ x)) && ((List.range (kindsN s)).all (fun k => inB (k : Int) s) && decide (mxI s < (s.length : Int)))
theorem foldl_max_ge (xs : List Int) : ∀ (a : Int), a ≤ xs.foldl max a ∧ ∀ x ∈ xs, x ≤ xs.foldl max a := by
  induction xs with
  | nil => intro a; exact ⟨Int.le_refl _, fun x h => by cases h⟩
  | cons y ys ih =>
    intro a
    obtain ⟨h1, h2⟩ := ih (max a y)
    simp only [List.foldl_cons]
    refine ⟨by omega, fun x hx => ?_⟩
    rcases List.mem_cons.mp hx with rfl | hx
    · omega
    · exact h2 x hx
theorem foldl_max_mem (xs : List Int) : ∀ (a : Int), xs.foldl max a = a ∨ xs.foldl max a ∈ xs := by
  induction xs with
  | nil => intro a; exact .inl rfl
  | cons y ys ih =>
    intro a
    simp only [List.foldl_cons]
    rcases ih (max a y) with h | h
    · rw [h]
      by_cases hy : a ≤ y
      · right; rw [Int.max_eq_right hy]; exact List.mem_cons_self
      · left; exact Int.max_eq_left (by omega)
    · right; exact List.mem_cons_of_mem _ h
theorem mxI_ge {s : List Int} {x : Int} (h : x ∈ s) : x ≤ mxI s := by
  cases s with
  | nil => cases h
  | cons y ys =>
    obtain ⟨h1, h2⟩ := foldl_max_ge ys y
    rcases List.mem_cons.mp h with rfl | h
    · exact h1
    · exact h2 x h
theorem mxI_mem {s : List Int} (h : s ≠ []) : mxI s ∈ s := by
  cases s with
  | nil => exact absurd rfl h
  | cons y ys =>
    rcases foldl_max_mem ys y with h | h
    · show List.foldl max y ys ∈ _
      rw [h]; exact List.mem_cons_self
    · exact List.mem_cons_of_mem _ h
theorem mxI_nonneg {s : List Int} (h : s ≠ []) (h0 : ∀ x ∈ s, 0 ≤ x) : 0 ≤ mxI s := h0 _ (mxI_mem h)
theorem str_facts {s : List Int} (a : (s.isEmpty || !s.all fun a => decide (0 ≤ a)) = false) : s ≠ [] ∧ (∀ x ∈ s, 0 ≤ x) ∧ 0 ≤ mxI s := by
  simp only [Bool.or_eq_false_iff, Bool.not_eq_false', List.all_eq_true, decide_eq_true_eq] at a
  have hne : s ≠ [] := fun z => by rw [z] at a; simp at a
  exact ⟨hne, a.2, mxI_nonneg hne a.2⟩
theorem is_string_I [D_is_string T] {s : List Int} (hl : s.length ≤ 100000) : Sem T (n + 3) "is_string" [tZ s] (.bl (isStr s)) [tZ s] := by
  refine sem_pure D_is_string.df_is_string rfl rfl rfl ⟨by mstop⟩ ?_
  repeat' mframe
  · rename_i h
    simp only [D.bl.injEq, isStr]
    simp only [Bool.or_eq_true, Bool.not_eq_true'] at h
    rcases h with h | h <;> simp [h]
  · rename_i h; exact (str_facts h).1
  · rename_i h; have := (str_facts h).2.2; split <;> omega
  · rename_i h _; exact (str_facts h).1
  · rename_i h
    simp only [D.bl.injEq, isStr]
    simp only [Bool.or_eq_false_iff, Bool.not_eq_false'] at h
    simp [h, kindsN]
/-- a string of beads, of bounded length -/
structure Okk (s : List Int) : Prop where
  str : isStr s = true
  len : s.length ≤ 1000
theorem Okk.ne {s : List Int} (h : Okk s) : s ≠ [] := by have := h.str; simp only [isStr, Bool.and_eq_true, Bool.not_eq_true', List.isEmpty_eq_false_iff] at this; exact this.1.1
theorem Okk.nn {s : List Int} (h : Okk s) : ∀ x ∈ s, 0 ≤ x := by have := h.str; simp only [isStr, Bool.and_eq_true, List.all_eq_true, decide_eq_true_eq] at this; exact this.1.2
theorem Okk.mx {s : List Int} (h : Okk s) : mxI s < s.length := by have := h.str; simp only [isStr, Bool.and_eq_true, List.all_eq_true, decide_eq_true_eq] at this; exact this.2.2
theorem Okk.mx0 {s : List Int} (h : Okk s) : 0 ≤ mxI s := mxI_nonneg h.ne h.nn
theorem Okk.pos {s : List Int} (h : Okk s) : 0 < s.length := List.length_pos_iff.mpr h.ne
theorem is_string_O [D_is_string T] {s : List Int} (h : Okk s) : Sem T (n + 3) "is_string" [tZ s] (.bl true) [tZ s] := by
  have := is_string_I (T := T) (n := n) (s := s) (by have := h.len; omega)
  rwa [h.str] at this
local macro_rules | `(tactic| mexfalso) => `(tactic| exact is_string_O ‹_›)
theorem sure_string_O [D_sure_string T] {s : List Int} (h : Okk s) : Sem T (n + 4) "sure_string" [tZ s] (tZ s) [tZ s] := by
  have hl := h.len
  refine sem_pure D_sure_string.df_sure_string rfl rfl rfl ⟨by mstop⟩ ?_
  repeat' mframe
local macro_rules | `(tactic| mexfalso) => `(tactic| exact sure_string_O ‹_›)
def kinds (s : List Int) : Nat := (mxI s + 1).toNat
/-- how many of each kind -/
def cntK (m : Nat) (s : List Int) : List Int := (List.range m).map fun (k : Nat) => (s.count (k : Int) : Int)
theorem tZ_map {α : Type} {xs : List α} {g : α → Int} : D.tup (xs.map fun a => D.int (g a)) = tZ (xs.map g) := by simp [tZ]
theorem counts_in_O [D_counts_in T] {s : List Int} (h : Okk s) : Sem T (n + 1) "counts_in" [tZ s] (tZ (cntK (kinds s) s)) [tZ s] := by
  have h1 := h.ne; have h2 := h.mx0; have h3 := h.mx; have h4 := h.len
  refine sem_pure D_counts_in.df_counts_in rfl rfl rfl ⟨by mstop⟩ ?_
  repeat' mframe
local macro_rules | `(tactic| mexfalso) => `(tactic| exact counts_in_O ‹_›)
end
end VP

set_option Elab.async false
set_option linter.all false
set_option maxRecDepth 100000
set_option maxHeartbeats 1000000
/-! Parts of strings, windows. -/
namespace VP
open PySem L2
-- steps of the evaluator, as local words: mstop (slots), infer_instance (what is asked beside), mexfalso (calls), massumption (data), mframe (one step)
local macro_rules | `(tactic| mstop) => `(tactic| first | (simp only [startE, List.replicate_succ, List.replicate_zero, Nat.reduceAdd, Nat.reduceSub, List.length_cons, List.length_nil, List.set_cons_zero, List.set_cons_succ, blank, restore, putH, List.map_cons, List.map_nil, List.cons_append, List.nil_append, Sv.h, Option.getD_some, List.getElem?_cons_zero, List.getElem?_cons_succ, putBack, ownLocs, own_lt, own_lf, own_tup, own_int, own_bl, own_str, own_non, own_fn, own_pr, own_tnD, Bool.false_eq_true, if_true, if_false, Bool.not_true, Bool.not_false, Bool.and_true, Bool.true_and, Bool.or_false, Bool.false_or, Bool.or_true, Bool.true_or, Bool.and_false, Bool.false_and, ite_true, ite_false, reduceIte]; done) | (simp only [startE, List.replicate_succ, List.replicate_zero, Nat.reduceAdd, Nat.reduceSub, List.length_cons, List.length_nil, List.set_cons_zero, List.set_cons_succ, blank, restore, putH, List.map_cons, List.map_nil, List.cons_append, List.nil_append, Sv.h, Option.getD_some, List.getElem?_cons_zero, List.getElem?_cons_succ, putBack, ownLocs, own_lt, own_lf, own_tup, own_int, own_bl, own_str, own_non, own_fn, own_pr, own_tnD, Bool.false_eq_true, if_true, if_false, Bool.not_true, Bool.not_false, Bool.and_true, Bool.true_and, Bool.or_false, Bool.false_or, Bool.or_true, Bool.true_or, Bool.and_false, Bool.false_and, ite_true, ite_false, reduceIte]; exact rfl) | exact rfl)
local macro_rules | `(tactic| mexfalso) => `(tactic| fail)
local macro_rules | `(tactic| massumption) => `(tactic| first
  | exact b_add | exact b_sub | exact b_mul (mok_l (by omega) (by omega)) | exact b_mul (mok_r (by omega) (by omega)) | apply b_mul | apply b_fdiv | apply b_mod | exact b_pow (by decide) | apply b_addT | apply b_addL | apply b_addTd | apply b_addLd | apply b_repL | apply b_repT
  | exact c_eq | exact c_ne | exact c_eqb | exact c_eqS | exact c_neS | exact c_neb | exact c_isInt | exact c_isBl | exact c_isStr | exact c_isTup | exact c_isLst | exact c_isNon | exact c_isnInt | exact c_isnBl | exact c_isnStr | exact c_isnTup | exact c_isnLst | exact c_isnNon | exact c_lt | exact c_le | exact c_gt | exact c_ge | exact c_eqT0 (by decide) | exact c_eqT (by decide) | exact c_neT (by decide) | exact c_eqL (by decide) | exact c_neL (by decide)
  | exact c_innT rfl (by decide) | exact c_innL rfl (by decide) | exact c_ninT rfl (by decide) | exact c_ninL rfl (by decide)
  | apply ix_map | apply ix_mapL | exact Ixd.mk rfl | exact s_tup | exact s_lst | exact r_tup | exact r_lst
  | exact g_lenT | exact g_lenL | exact g_tupL | exact g_tupT | exact g_lstL | exact g_lstT | exact g_int | exact g_intb | exact g_abs | exact g_all | exact g_any | exact g_sumL0 | exact g_sumT0 | exact g_sum | exact g_sumT | apply g_maxT0 | apply g_maxL0 | apply g_minT0 | apply g_minL0 | apply g_maxT | apply g_maxL | apply g_minT | apply g_minL | exact g_max2 | exact g_min2 | exact g_sortI0 | exact g_sortI
  | exact g_inst (b := true) rfl | exact g_inst (b := false) rfl | exact g_inst2 (b := true) (b' := true) rfl rfl | exact g_inst2 (b := true) (b' := false) rfl rfl | exact g_inst2 (b := false) (b' := true) rfl rfl | exact g_inst2 (b := false) (b' := false) rfl rfl
  | exact m_countT rfl (by decide) | exact m_countL rfl (by decide) | apply m_idxL rfl (by decide) | apply q_rng1 | apply x_listR | apply x_ssetL | apply x_ssetT | apply q_rng2
  | exact it_tup | exact it_lst | exact td_bl | exact td_int | exact td_tup | exact td_lst | exact td_tupd | exact td_lstd | exact mt_cT | exact mt_cL | exact mt_iL | exact zip_map | exact enm_map | exact im_map | exact im_lst)
local macro_rules | `(tactic| mframe) => `(tactic| first
  | exact xe_int | exact xe_bl | exact xe_str | exact xe_non | exact xe_ty | apply xe_var | exact xs_nil | apply xs_cons
  | apply xe_bin | apply xe_cmp | apply xe_chn | apply xe_ix | apply xe_bi | apply xe_callO | apply xe_me | apply xe_andr
  | apply xe_if | apply xe_tup | apply xe_lst | apply xe_slc | apply xe_rev | apply xe_bix | apply xe_nt | apply xe_neg | apply xe_mut
  | apply xe_drawsV | apply xe_drawsI | apply xe_compm | apply xe_compf
  | exact rs_tmp | apply rs_loc | apply rs_ite | exact rsl_nil | apply rsl_cons | exact va_tmp | exact va_loc ⟨rfl⟩ rfl | apply va_locF | apply va_ite | exact fr_no rfl | exact fr_lst | exact val_nil | apply val_cons | exact vao_nil | apply vao_cons
  | exact fac_int0 | exact fac_int | exact fac_tz0 | exact fac_tz | exact fac_lz0 | exact fac_lz | exact fac_any
  | (apply wp_dead; (try simp only [Bool.and_eq_true, Bool.or_eq_true, Bool.not_eq_true', Bool.and_eq_false_iff, Bool.or_eq_false_iff, Bool.not_eq_false', decide_eq_true_eq, decide_eq_false_iff_not] at *); omega)
  | exact mrg_same | exact mrg_t | exact mrg_f | exact mrg_int | exact mrg_bl | exact mrg_str | exact mrg_tup | exact mrg_lst | exact mrg_any
  | apply br_t | apply br_f | apply br_k | exact or_t | apply or_f | apply or_k | exact and_f | apply and_t | apply and_k | exact ande_f | apply ande_t | apply ande_k
  | apply xt_nt | apply xt_andr | apply xt_orr | apply xt_tr
  | exact xp_nil | apply xp_pt | apply xc_hold | apply xc_sr | apply xi_hold | apply xi_sr | apply xi_rng | apply xi_zip | apply xi_enm
  | apply em | apply ef | apply ef2
  | apply wp_asg | apply wp_par | apply wp_setI | apply wp_ifk | apply wp_ret | apply wp_exp | apply wp_pas | apply wp_aug | apply wp_nil
  | apply bw_t | apply bw_f0 | apply bw_f | apply bw_k | apply pq_nx | apply pq_rt | apply lq_nx | apply lq_rt | apply tq_nx | apply tq_rt | apply tq_er | (apply rtq; try rfl) | apply oq_rt | apply rqx | apply oqx_rt | exact Otl.mk rfl
  | exact mv_tmp | exact mv_locN ⟨Nat.le_of_ble_eq_true rfl⟩ ⟨rfl⟩ ⟨by mstop⟩ | exact mv_par ⟨Nat.le_of_ble_eq_true rfl⟩ (va_loc ⟨rfl⟩ rfl) | (apply mv_par ⟨Nat.le_of_ble_eq_true rfl⟩; apply va_locF) | apply mv_iteN
  | apply asg_nm | apply asg_tp | apply asg_pr | exact asgL_nil | apply asgL_cons
  | exact Sl.mk rfl | exact Ixn.mk rfl | (apply Nm.mk; mstop) | (apply Nb.mk; mstop) | exact Bl.mk rfl | exact Ln.mk rfl | exact Nd.mk List.nodup_nil | exact Nd.mk (List.nodup_singleton _) | (apply Nd.mk; simp only [ownLocs, own_lt, own_lf, own_tup, own_int, own_bl, own_str, own_non, own_fn, own_pr, own_tnD, Bool.false_eq_true, if_true, if_false]; decide) | (apply Le.mk; first | exact (rfl : (_ : D) = _) | omega | (show (_ : Prop); assumption)  | (simp only [LIM, List.length_cons, List.length_nil, List.length_map, List.length_range, List.length_zip, List.length_append, List.length_reverse, List.length_replicate, List.length_zipIdx]; omega))
  | massumption | (apply sem_guard; mexfalso)
  | exact Imp.mk ab1 | exact Imp.mk ab2 | (apply Imp.mk; intro _) | (apply Fa.mk; intro _ _) | (apply Fr1.mk; intro _) | exact (rfl : (_ : D) = _) | omega | (show (_ : Prop); assumption)  | (simp only [LIM, List.length_cons, List.length_nil, List.length_map, List.length_range, List.length_zip, List.length_append, List.length_reverse, List.length_replicate, List.length_zipIdx]; omega))
local macro_rules | `(tactic| mexfalso) => `(tactic| exact is_number_int)
local macro_rules | `(tactic| mexfalso) => `(tactic| exact is_from_int)
local macro_rules | `(tactic| mexfalso) => `(tactic| exact is_below_int)
local macro_rules | `(tactic| mexfalso) => `(tactic| exact tupled_int)
local macro_rules | `(tactic| mexfalso) => `(tactic| apply tupled_I)
local macro_rules | `(tactic| mexfalso) => `(tactic| exact is_string_O ‹_›)
local macro_rules | `(tactic| mexfalso) => `(tactic| exact sure_string_O ‹_›)
local macro_rules | `(tactic| mexfalso) => `(tactic| exact counts_in_O ‹_›)
section
variable {T : Tb} {n : Nat}
theorem counts_O [D_counts T] {s : List Int} (h : Okk s) : Sem T (n + 5) "counts" [tZ s] (tZ (cntK (kinds s) s)) [tZ s] := by
  refine sem_pure D_counts.df_counts rfl rfl rfl ⟨by mstop⟩ ?_
  repeat' mframe
local macro_rules | `(tactic| mexfalso) => `(tactic| exact counts_O ‹_›)
theorem turned_O [D_turned T] {s : List Int} (h : Okk s) : Sem T (n + 5) "turned" [tZ s] (tZ s.reverse) [tZ s] := by
  refine sem_pure D_turned.df_turned rfl rfl rfl ⟨by mstop⟩ ?_
  repeat' mframe
local macro_rules | `(tactic| mexfalso) => `(tactic| exact turned_O ‹_›)
theorem cutA_le {α : Type} {xs : List α} {lo hi : Option Int} : (cutA xs lo hi).length ≤ xs.length := by
  unfold cutA; rw [List.length_take, List.length_drop]; omega
theorem shifted_O [D_shifted T] {s : List Int} {k : Int} (h : Okk s) (h0 : 0 ≤ k) (h1 : k < s.length) : Sem T (n + 5) "shifted" [tZ s, .int k] (tZ (cutA s (some k) none ++ cutA s none (some k))) [tZ s, .int k] := by
  have h4 := h.len
  have h5 := cutA_le (xs := s) (lo := some k) (hi := none)
  have h6 := cutA_le (xs := s) (lo := none) (hi := some k)
  refine sem_pure D_shifted.df_shifted rfl rfl rfl ⟨by mstop⟩ ?_
  repeat' mframe
local macro_rules | `(tactic| mexfalso) => `(tactic| refine shifted_O ‹_› ?_ ?_)
theorem numbers_in_O [D_numbers_in T] {s bs : List Int} {o : Bool} (h : Okk s) (hb : ∀ b ∈ bs, 0 ≤ b ∧ b < s.length) (hl : bs.length ≤ 100000) :
    Sem T (n + 1) "numbers_in" [tZ s, .lst o (bs.map D.int)] (tZ (cntK (kinds s) (bs.map (at' s)))) [tZ s, .lst false (bs.map D.int)] := by
  have h1 := h.ne; have h2 := h.mx0; have h3 := h.mx; have h4 := h.len
  refine sem_pure D_numbers_in.df_numbers_in rfl rfl rfl ⟨by mstop⟩ ?_
  repeat' mframe
  have := hb _ ‹_›
  omega
def isWants (s w : List Int) : Bool := decide (w.length = kinds s) && (w.zip (cntK (kinds s) s)).all fun p => decide (0 ≤ p.1) && decide (p.1 ≤ p.2)
theorem cntK_len {m : Nat} {s : List Int} : (cntK m s).length = m := by simp [cntK]
theorem is_wants_of_O [D_is_wants_of T] {s w : List Int} (h : Okk s) (hl : w.length ≤ 100000) :
    Sem T (n + 3) "is_wants_of" [tZ s, tZ w] (.bl (isWants s w)) [tZ s, tZ w] := by
  have h1 := h.ne; have h2 := h.mx0; have h3 := h.mx; have h4 := h.len
  refine sem_pure D_is_wants_of.df_is_wants_of rfl rfl rfl ⟨by mstop⟩ ?_
  repeat' mframe
  · rename_i e
    have : ¬ w.length = kinds s := by rw [cntK_len] at e; simp at e; omega
    simp [isWants, this]
  · rename_i e
    have : w.length = kinds s := by rw [cntK_len] at e; simp at e; omega
    simp [isWants, this]
structure Wok (s w : List Int) : Prop where
  w : isWants s w = true
  k : Okk s
theorem Wok.len {s w : List Int} (h : Wok s w) : w.length = kinds s := by have := h.w; simp only [isWants, Bool.and_eq_true, decide_eq_true_eq] at this; exact this.1
theorem kinds_le {s : List Int} (h : Okk s) : kinds s ≤ 1000 := by have := h.mx; have := h.len; have := h.mx0; simp only [kinds]; omega
theorem is_wants_of_O' [D_is_wants_of T] {s w : List Int} (h : Wok s w) : Sem T (n + 3) "is_wants_of" [tZ s, tZ w] (.bl true) [tZ s, tZ w] := by
  have := is_wants_of_O (T := T) (n := n) h.k (w := w) (by rw [h.len]; have := kinds_le h.k; omega)
  rwa [h.w] at this
local macro_rules | `(tactic| mexfalso) => `(tactic| exact is_wants_of_O' ‹_›)
theorem sure_wants_O [D_sure_wants T] {s w : List Int} (h : Wok s w) : Sem T (n + 4) "sure_wants" [tZ s, tZ w] (tZ w) [tZ s, tZ w] := by
  have h1 := kinds_le h.k; have h2 := h.len
  refine sem_pure D_sure_wants.df_sure_wants rfl rfl rfl ⟨by mstop⟩ ?_
  repeat' mframe
local macro_rules | `(tactic| mexfalso) => `(tactic| exact sure_wants_O ‹_›)
local macro_rules | `(tactic| mexfalso) => `(tactic| refine numbers_in_O ‹_› ?_ ?_)
/-- what the stretch of m beads from bead f on has, round -/
def winAt (s : List Int) (m f : Int) : List Int := cntK (kinds s) (((List.range m.toNat).map fun (j : Nat) => (f + (j : Int)) % (s.length : Int)).map (at' s))
def wins (s : List Int) (m : Int) (r : Bool) : List (List Int) := (iot (if r = true then (s.length : Int) else s.length - m + 1)).map (winAt s m)
theorem windows_in_O [D_windows_in T] {s : List Int} {m : Int} {r : Bool} (h : Okk s) (h0 : 0 ≤ m) (h1 : m ≤ s.length) :
    Sem T (n + 2) "windows_in" [tZ s, .int m, .bl r] (.lst true ((wins s m r).map tZ)) [tZ s, .int m, .bl r] := by
  have h4 := h.len
  have h5 := h.pos
  refine sem_pure D_windows_in.df_windows_in rfl rfl rfl ⟨by mstop⟩ ?_
  repeat' mframe
  · intro b hb
    simp only [List.mem_map, List.mem_range] at hb
    obtain ⟨j, hj, rfl⟩ := hb
    exact ⟨Int.emod_nonneg _ (by omega), Int.emod_lt_of_pos _ (by omega)⟩
  · exact ⟨by rw [iot_len]; simp only [LIM]; split <;> omega⟩
local macro_rules | `(tactic| mexfalso) => `(tactic| refine windows_in_O ‹_› ?_ ?_)
theorem windows_O [D_windows T] {s : List Int} {m : Int} (h : Okk s) (h0 : 0 ≤ m) (h1 : m ≤ s.length) :
    Sem T (n + 5) "windows" [tZ s, .int m] (.lst true ((wins s m false).map tZ)) [tZ s, .int m] := by
  refine sem_pure D_windows.df_windows rfl rfl rfl ⟨by mstop⟩ ?_
  repeat' mframe
local macro_rules | `(tactic| mexfalso) => `(tactic| refine windows_O ‹_› ?_ ?_)
theorem ring_windows_O [D_ring_windows T] {s : List Int} {m : Int} (h : Okk s) (h0 : 0 ≤ m) (h1 : m ≤ s.length) :
    Sem T (n + 5) "ring_windows" [tZ s, .int m] (.lst true ((wins s m true).map tZ)) [tZ s, .int m] := by
  refine sem_pure D_ring_windows.df_ring_windows rfl rfl rfl ⟨by mstop⟩ ?_
  repeat' mframe
local macro_rules | `(tactic| mexfalso) => `(tactic| refine ring_windows_O ‹_› ?_ ?_)
/-- the numbers of each kind come to all -/
theorem sum_cntK (m : Nat) : ∀ s : List Int, (∀ x ∈ s, 0 ≤ x ∧ x < m) → (cntK m s).sum = s.length
  | [], _ => by
    have : cntK m [] = List.replicate m 0 := by simp [cntK, List.map_const']
    rw [this]; simp
  | x :: s, h => by
    have ih := sum_cntK m s fun y hy => h y (List.mem_cons_of_mem _ hy)
    have hx := h x List.mem_cons_self
    have key : ∀ k : Nat, (((List.range k).map fun (j : Nat) => ((x :: s).count (j : Int) : Int))).sum = (((List.range k).map fun (j : Nat) => (s.count (j : Int) : Int))).sum + if x < k then 1 else 0 := by
      intro k
      induction k with
      | zero => simp; omega
      | succ k ih =>
        rw [List.range_succ, List.map_append, List.sum_append, List.map_append, List.sum_append, ih]
        simp only [List.map_cons, List.map_nil, List.sum_cons, List.sum_nil, List.count_cons]
        by_cases e : x = (k : Int)
        · have e2 : (x == (k : Int)) = true := by simpa using e
          have g1 : ¬ x < (k : Int) := by omega
          have g2 : x < ((k + 1 : Nat) : Int) := by omega
          rw [if_neg g1, if_pos g2, e2]; simp; omega
        · have e2 : (x == (k : Int)) = false := by simpa using e
          by_cases g : x < (k : Int)
          · have g2 : x < ((k + 1 : Nat) : Int) := by omega
            rw [if_pos g, if_pos g2, e2]; simp; omega
          · have g2 : ¬ x < ((k + 1 : Nat) : Int) := by omega
            rw [if_neg g, if_neg g2, e2]; simp
    have := key m
    rw [if_pos hx.2] at this
    simp only [cntK] at ih ⊢
    rw [this, ih]; simp
theorem Okk.lt {s : List Int} (h : Okk s) : ∀ x ∈ s, 0 ≤ x ∧ x < (kinds s : Int) := fun x hx => by
  have := mxI_ge hx; have := h.nn x hx; simp only [kinds]; omega
theorem sum_counts {s : List Int} (h : Okk s) : (cntK (kinds s) s).sum = s.length := sum_cntK _ _ h.lt
theorem sum_le : ∀ {w c : List Int}, ((w.zip c).all fun p => decide (0 ≤ p.1) && decide (p.1 ≤ p.2)) = true → w.length = c.length → 0 ≤ w.sum ∧ w.sum ≤ c.sum
  | [], [], _, _ => by simp
  | x :: w, y :: c, h, e => by
    simp only [List.zip_cons_cons, List.all_cons, Bool.and_eq_true, decide_eq_true_eq] at h
    have := sum_le (w := w) (c := c) h.2 (by simpa using e)
    simp only [List.sum_cons]; omega
theorem Wok.sum {s w : List Int} (h : Wok s w) : 0 ≤ w.sum ∧ w.sum ≤ s.length := by
  have hw := h.w
  simp only [isWants, Bool.and_eq_true, decide_eq_true_eq] at hw
  have := sum_le hw.2 (by rw [cntK_len]; exact hw.1)
  rw [sum_counts h.k] at this
  exact this
theorem window_of_O [D_window_of T] {s w : List Int} {r : Bool} (h : Wok s w) (hm : w ∈ wins s w.sum r) :
    Sem T (n + 3) "window_of" [tZ s, tZ w, .bl r] (.int (ixO (wins s w.sum r) w)) [tZ s, tZ w, .bl r] := by
  have h1 := h.sum
  have h2 := h.k
  refine sem_pure D_window_of.df_window_of rfl rfl rfl ⟨by mstop⟩ ?_
  repeat' mframe
  exact if_pos (inB_eq.mpr hm)
local macro_rules | `(tactic| mexfalso) => `(tactic| refine window_of_O ‹_› ?_)
theorem window_O [D_window T] {s w : List Int} (h : Wok s w) (hm : w ∈ wins s w.sum false) :
    Sem T (n + 5) "window" [tZ s, tZ w] (.int (ixO (wins s w.sum false) w)) [tZ s, tZ w] := by
  have h2 := h.k
  refine sem_pure D_window.df_window rfl rfl rfl ⟨by mstop⟩ ?_
  repeat' mframe
local macro_rules | `(tactic| mexfalso) => `(tactic| refine window_O ‹_› ?_)
theorem ring_window_O [D_ring_window T] {s w : List Int} (h : Wok s w) (hm : w ∈ wins s w.sum true) :
    Sem T (n + 5) "ring_window" [tZ s, tZ w] (.int (ixO (wins s w.sum true) w)) [tZ s, tZ w] := by
  have h2 := h.k
  refine sem_pure D_ring_window.df_ring_window rfl rfl rfl ⟨by mstop⟩ ?_
  repeat' mframe
local macro_rules | `(tactic| mexfalso) => `(tactic| refine ring_window_O ‹_› ?_)
end
end VP

set_option Elab.async false
set_option linter.all false
set_option maxRecDepth 100000
set_option maxHeartbeats 1000000
/-! What the laws' own defs come to: draws, likeness. -/
namespace VP
open PySem L2
-- steps of the evaluator, as local words: mstop (slots), infer_instance (what is asked beside), mexfalso (calls), massumption (data), mframe (one step)
local macro_rules | `(tactic| mstop) => `(tactic| first | (simp only [startE, List.replicate_succ, List.replicate_zero, Nat.reduceAdd, Nat.reduceSub, List.length_cons, List.length_nil, List.set_cons_zero, List.set_cons_succ, blank, restore, putH, List.map_cons, List.map_nil, List.cons_append, List.nil_append, Sv.h, Option.getD_some, List.getElem?_cons_zero, List.getElem?_cons_succ, putBack, ownLocs, own_lt, own_lf, own_tup, own_int, own_bl, own_str, own_non, own_fn, own_pr, own_tnD, Bool.false_eq_true, if_true, if_false, Bool.not_true, Bool.not_false, Bool.and_true, Bool.true_and, Bool.or_false, Bool.false_or, Bool.or_true, Bool.true_or, Bool.and_false, Bool.false_and, ite_true, ite_false, reduceIte]; done) | (simp only [startE, List.replicate_succ, List.replicate_zero, Nat.reduceAdd, Nat.reduceSub, List.length_cons, List.length_nil, List.set_cons_zero, List.set_cons_succ, blank, restore, putH, List.map_cons, List.map_nil, List.cons_append, List.nil_append, Sv.h, Option.getD_some, List.getElem?_cons_zero, List.getElem?_cons_succ, putBack, ownLocs, own_lt, own_lf, own_tup, own_int, own_bl, own_str, own_non, own_fn, own_pr, own_tnD, Bool.false_eq_true, if_true, if_false, Bool.not_true, Bool.not_false, Bool.and_true, Bool.true_and, Bool.or_false, Bool.false_or, Bool.or_true, Bool.true_or, Bool.and_false, Bool.false_and, ite_true, ite_false, reduceIte]; exact rfl) | exact rfl)
local macro_rules | `(tactic| mexfalso) => `(tactic| fail)
local macro_rules | `(tactic| massumption) => `(tactic| first
  | exact b_add | exact b_sub | exact b_mul (mok_l (by omega) (by omega)) | exact b_mul (mok_r (by omega) (by omega)) | apply b_mul | apply b_fdiv | apply b_mod | exact b_pow (by decide) | apply b_addT | apply b_addL | apply b_addTd | apply b_addLd | apply b_repL | apply b_repT
  | exact c_eq | exact c_ne | exact c_eqb | exact c_eqS | exact c_neS | exact c_neb | exact c_isInt | exact c_isBl | exact c_isStr | exact c_isTup | exact c_isLst | exact c_isNon | exact c_isnInt | exact c_isnBl | exact c_isnStr | exact c_isnTup | exact c_isnLst | exact c_isnNon | exact c_lt | exact c_le | exact c_gt | exact c_ge | exact c_eqT0 (by decide) | exact c_eqT (by decide) | exact c_neT (by decide) | exact c_eqL (by decide) | exact c_neL (by decide)
  | exact c_innT rfl (by decide) | exact c_innL rfl (by decide) | exact c_ninT rfl (by decide) | exact c_ninL rfl (by decide)
  | apply ix_map | apply ix_mapL | exact Ixd.mk rfl | exact s_tup | exact s_lst | exact r_tup | exact r_lst
  | exact g_lenT | exact g_lenL | exact g_tupL | exact g_tupT | exact g_lstL | exact g_lstT | exact g_int | exact g_intb | exact g_abs | exact g_all | exact g_any | exact g_sumL0 | exact g_sumT0 | exact g_sum | exact g_sumT | apply g_maxT0 | apply g_maxL0 | apply g_minT0 | apply g_minL0 | apply g_maxT | apply g_maxL | apply g_minT | apply g_minL | exact g_max2 | exact g_min2 | exact g_sortI0 | exact g_sortI
  | exact g_inst (b := true) rfl | exact g_inst (b := false) rfl | exact g_inst2 (b := true) (b' := true) rfl rfl | exact g_inst2 (b := true) (b' := false) rfl rfl | exact g_inst2 (b := false) (b' := true) rfl rfl | exact g_inst2 (b := false) (b' := false) rfl rfl
  | exact m_countT rfl (by decide) | exact m_countL rfl (by decide) | apply m_idxL rfl (by decide) | apply q_rng1 | apply x_listR | apply x_ssetL | apply x_ssetT | apply q_rng2
  | exact it_tup | exact it_lst | exact td_bl | exact td_int | exact td_tup | exact td_lst | exact td_tupd | exact td_lstd | exact mt_cT | exact mt_cL | exact mt_iL | exact zip_map | exact enm_map | exact im_map | exact im_lst)
local macro_rules | `(tactic| mframe) => `(tactic| first
  | exact xe_int | exact xe_bl | exact xe_str | exact xe_non | exact xe_ty | apply xe_var | exact xs_nil | apply xs_cons
  | apply xe_bin | apply xe_cmp | apply xe_chn | apply xe_ix | apply xe_bi | apply xe_callO | apply xe_me | apply xe_andr
  | apply xe_if | apply xe_tup | apply xe_lst | apply xe_slc | apply xe_rev | apply xe_bix | apply xe_nt | apply xe_neg | apply xe_mut
  | apply xe_drawsV | apply xe_drawsI | apply xe_compm | apply xe_compf
  | exact rs_tmp | apply rs_loc | apply rs_ite | exact rsl_nil | apply rsl_cons | exact va_tmp | exact va_loc ⟨rfl⟩ rfl | apply va_locF | apply va_ite | exact fr_no rfl | exact fr_lst | exact val_nil | apply val_cons | exact vao_nil | apply vao_cons
  | exact fac_int0 | exact fac_int | exact fac_tz0 | exact fac_tz | exact fac_lz0 | exact fac_lz | exact fac_any
  | (apply wp_dead; (try simp only [Bool.and_eq_true, Bool.or_eq_true, Bool.not_eq_true', Bool.and_eq_false_iff, Bool.or_eq_false_iff, Bool.not_eq_false', decide_eq_true_eq, decide_eq_false_iff_not] at *); omega)
  | exact mrg_same | exact mrg_t | exact mrg_f | exact mrg_int | exact mrg_bl | exact mrg_str | exact mrg_tup | exact mrg_lst | exact mrg_any
  | apply br_t | apply br_f | apply br_k | exact or_t | apply or_f | apply or_k | exact and_f | apply and_t | apply and_k | exact ande_f | apply ande_t | apply ande_k
  | apply xt_nt | apply xt_andr | apply xt_orr | apply xt_tr
  | exact xp_nil | apply xp_pt | apply xc_hold | apply xc_sr | apply xi_hold | apply xi_sr | apply xi_rng | apply xi_zip | apply xi_enm
  | apply em | apply ef | apply ef2
  | apply wp_asg | apply wp_par | apply wp_setI | apply wp_ifk | apply wp_ret | apply wp_exp | apply wp_pas | apply wp_aug | apply wp_nil
  | apply bw_t | apply bw_f0 | apply bw_f | apply bw_k | apply pq_nx | apply pq_rt | apply lq_nx | apply lq_rt | apply tq_nx | apply tq_rt | apply tq_er | (apply rtq; try rfl) | apply oq_rt | apply rqx | apply oqx_rt | exact Otl.mk rfl
  | exact mv_tmp | exact mv_locN ⟨Nat.le_of_ble_eq_true rfl⟩ ⟨rfl⟩ ⟨by mstop⟩ | exact mv_par ⟨Nat.le_of_ble_eq_true rfl⟩ (va_loc ⟨rfl⟩ rfl) | (apply mv_par ⟨Nat.le_of_ble_eq_true rfl⟩; apply va_locF) | apply mv_iteN
  | apply asg_nm | apply asg_tp | apply asg_pr | exact asgL_nil | apply asgL_cons
  | exact Sl.mk rfl | exact Ixn.mk rfl | (apply Nm.mk; mstop) | (apply Nb.mk; mstop) | exact Bl.mk rfl | exact Ln.mk rfl | exact Nd.mk List.nodup_nil | exact Nd.mk (List.nodup_singleton _) | (apply Nd.mk; simp only [ownLocs, own_lt, own_lf, own_tup, own_int, own_bl, own_str, own_non, own_fn, own_pr, own_tnD, Bool.false_eq_true, if_true, if_false]; decide) | exact Le.mk (Nat.le_of_ble_eq_true rfl) | (apply Le.mk; first | (show (_ : Prop); assumption) | exact (rfl : (_ : D) = _) | omega  | (simp only [LIM, List.length_cons, List.length_nil, List.length_map, List.length_range, List.length_zip, List.length_append, List.length_reverse, List.length_replicate, List.length_zipIdx]; omega))
  | massumption | (apply sem_guard; mexfalso)
  | exact Imp.mk ab1 | exact Imp.mk ab2 | (apply Imp.mk; intro _) | (apply Fa.mk; intro _ _) | (apply Fr1.mk; intro _) | (show (_ : Prop); assumption) | exact (rfl : (_ : D) = _) | omega  | (simp only [LIM, List.length_cons, List.length_nil, List.length_map, List.length_range, List.length_zip, List.length_append, List.length_reverse, List.length_replicate, List.length_zipIdx]; omega))
local macro_rules | `(tactic| mexfalso) => `(tactic| exact is_number_int)
local macro_rules | `(tactic| mexfalso) => `(tactic| exact is_from_int)
local macro_rules | `(tactic| mexfalso) => `(tactic| exact is_below_int)
local macro_rules | `(tactic| mexfalso) => `(tactic| exact tupled_int)
local macro_rules | `(tactic| mexfalso) => `(tactic| apply tupled_I)
local macro_rules | `(tactic| mexfalso) => `(tactic| exact is_string_O ‹_›)
local macro_rules | `(tactic| mexfalso) => `(tactic| exact sure_string_O ‹_›)
local macro_rules | `(tactic| mexfalso) => `(tactic| exact counts_in_O ‹_›)
def mixA (b c : Int) : Int := ((b + 48271 * c) * (40961 + c)) % 2147483647
def mixB (b c : Int) : Int := ((mixA b c + c + b / 1000003) * (mixA b c % 40009 + 7)) % 2147483629
def mixC (b c w : Int) : Int := ((mixB b c * 48271 + mixA b c) % 2147483587 / 64) % w
def drw (t : Tn) (w : Int) : Int := if 0 < t.a then t.a % w else mixC t.b (t.c + 1) w
def nxt (t : Tn) (w : Int) : Tn := if 0 < t.a then ⟨t.a / w, t.b, t.c⟩ else ⟨t.a, t.b, t.c + 1⟩
structure Tok (N : Nat) (t : Tn) : Prop where
  b1 : -(2 ^ 62) < t.b
  b2 : t.b < 2 ^ 62
  c1 : 0 ≤ t.c
  c2 : t.c ≤ N
theorem drw_rng {t : Tn} {w : Int} (h : 0 < w) : 0 ≤ drw t w ∧ drw t w < w := by
  unfold drw; split
  · exact ⟨Int.emod_nonneg _ (by omega), Int.emod_lt_of_pos _ h⟩
  · exact ⟨Int.emod_nonneg _ (by omega), Int.emod_lt_of_pos _ h⟩
theorem Tok.nxt {N : Nat} {t : Tn} {w : Int} (h : Tok N t) : Tok (N + 1) (nxt t w) := by
  unfold VP.nxt; split
  · exact ⟨h.b1, h.b2, h.c1, by have := h.c2; show t.c ≤ _; omega⟩
  · exact ⟨h.b1, h.b2, by have := h.c1; show 0 ≤ t.c + 1; omega, by have := h.c2; show t.c + 1 ≤ _; omega⟩
theorem Tok.weak {N M : Nat} {t : Tn} (h : Tok N t) (hm : N ≤ M) : Tok M t := ⟨h.b1, h.b2, h.c1, by have := h.c2; omega⟩
section
variable {T : Tb} {n : Nat}
theorem take_O [D__law_take T] {N : Nat} {t : Tn} {w : Int} (h : Tok N t) (hN : N ≤ 1000000) (hw : 0 < w ∧ w < 2 ^ 62) :
    Sem T (n + 1) "_law_take" [tnD t, .int w] (.int (drw t w)) [tnD (nxt t w), .int w] := by
  obtain ⟨a, b, c⟩ := t
  have h3 : 0 ≤ c := h.c1
  have h4 : c ≤ N := h.c2
  refine sem_own (ds0 := [.lst true [.int a, .int b, .int c], .int w]) D__law_take.df__law_take rfl rfl rfl ⟨by mstop⟩ ?_
  repeat' mframe
  · rename_i e
    have e : 0 < a := by simpa using e
    exact ⟨by simp [outL, own, nxt, tnD, e]⟩
  · rename_i e
    have e : 0 < a := by simpa using e
    simp [drw, e]
  · rename_i e
    have e : ¬ 0 < a := by simpa using e
    exact ⟨by simp [outL, own, nxt, tnD, e]⟩
  · rename_i e
    have e : ¬ 0 < a := by simpa using e
    simp [drw, e, mixC, mixB, mixA]
/-! many draws -/
def drws (w : Int) : Nat → Tn → List Int
  | 0, _ => []
  | k + 1, t => drw t w :: drws w k (nxt t w)
def nxts (w : Int) : Nat → Tn → Tn
  | 0, t => t
  | k + 1, t => nxts w k (nxt t w)
theorem drws_len {w : Int} : ∀ (k : Nat) (t : Tn), (drws w k t).length = k
  | 0, _ => rfl
  | k + 1, t => by simp [drws, drws_len k]
theorem drws_rng {w : Int} (h : 0 < w) : ∀ (k : Nat) (t : Tn), ∀ x ∈ drws w k t, 0 ≤ x ∧ x < w
  | 0, _, x, hx => by cases hx
  | k + 1, t, x, hx => by
    rcases List.mem_cons.mp hx with rfl | hx
    · exact drw_rng h
    · exact drws_rng h k _ x hx
theorem Tok.nxts {w : Int} : ∀ (k : Nat) {N : Nat} {t : Tn}, Tok N t → Tok (N + k) (nxts w k t)
  | 0, _, _, h => h
  | k + 1, N, t, h => (Tok.nxts k (h.nxt (w := w))).weak (by omega)
/-- a comprehension that draws, over k turns of a name -/
theorem xe_draws {t : Tn} {w : Int} {x s : E} {i j : Nat} {nm : Str} {ρ ρ1 ρ2 : Ev} {α : Type} {as : List α} {f : α → D} {hs : List (Nat × D)} {N : Nat} (h : Xi T n s ρ (as.map f) hs ρ1) (hj : Sl ρ1 j (tnD t)) (hij : j ≠ i) (hi : Le (i + 1) ρ1.length) (hT : Tok N t) (hN : N + as.length ≤ 1000000)
    (hx : ∀ (ρ : Ev) (u : Tn) (M : Nat), Tok M u → M < 1000000 → ρ.length = ρ1.length → (∀ m, m ≠ i → m ≠ j → ρ[m]? = ρ1[m]?) → ρ[j]? = some (some (tnD u)) → ρ[i]?.isSome → Xe T n x ρ (.tmp (.int (drw u w))) (ρ.set j (some (tnD (nxt u w)))))
    (e2 : Nm (putH hs (ρ1.set j (some (tnD (nxts w as.length t))))) ρ2) : Xe T n (.comp x (.nm i) s (.tr (.bl true)) [(nm, i)]) ρ (.tmp (.lst true ((drws w as.length t).map .int))) ρ2 := by
  have e2 := e2.h; subst e2
  have hi := hi.h
  have hj := hj.h
  have key : ∀ (as : List α) (t : Tn) (N : Nat) (ρ : Ev), Tok N t → N + as.length ≤ 1000000 → ρ.length = ρ1.length → (∀ m, m ≠ i → m ≠ j → ρ[m]? = ρ1[m]?) → ρ[j]? = some (some (tnD t)) →
      ∃ ρ', compL (stepOf (.nm i) [i] (elemOf (tst (T.Φ n) (.tr (.bl true))) (op (T.Φ n) x))) (as.map f) ρ = some (.ok ((drws w as.length t).map .int) ρ') ∧ ρ'.length = ρ1.length ∧ (∀ m, m ≠ i → m ≠ j → ρ'[m]? = ρ1[m]?) ∧ ρ'[j]? = some (some (tnD (nxts w as.length t))) := by
    intro as
    induction as with
    | nil => intro t N ρ _ _ h1 h2 h3; exact ⟨ρ, rfl, h1, h2, h3⟩
    | cons a as ih =>
      intro t N ρ hT hN h1 h2 h3
      have hil : i < ρ.length := by omega
      have hjl : j < ρ.length := (List.getElem?_eq_some_iff.mp h3).1
      have g1 : asg (.nm i) (f a) (blank ρ [i]) = some (ρ.set i (some (f a))) := by
        simp only [asg, blank_len, if_pos hil, blank_put]
      have g2 := (hx (ρ.set i (some (f a))) t N hT (by simp only [List.length_cons] at hN; omega) (by simpa using h1) (fun m a b => by rw [List.getElem?_set_ne (Ne.symm a)]; exact h2 m a b) (by rw [List.getElem?_set_ne (Ne.symm hij)]; exact h3) (by rw [List.getElem?_set_self hil]; rfl)).h
      obtain ⟨ρ', k1, k2, k3, k4⟩ := ih (nxt t w) (N + 1) ((ρ.set i (some (f a))).set j (some (tnD (nxt t w)))) hT.nxt (by simp only [List.length_cons] at hN; omega) (by simpa using h1)
        (fun m a b => by rw [List.getElem?_set_ne (Ne.symm b), List.getElem?_set_ne (Ne.symm a)]; exact h2 m a b) (by rw [List.getElem?_set_self (by simpa using hjl)])
      refine ⟨ρ', ?_, k2, k3, k4⟩
      have g3 : stepOf (.nm i) [i] (elemOf (tst (T.Φ n) (.tr (.bl true))) (op (T.Φ n) x)) (f a) ρ = some (.ok [.int (drw t w)] ((ρ.set i (some (f a))).set j (some (tnD (nxt t w))))) := by
        simp only [stepOf, g1, elemOf, tst, op, bnd, ret, res, trD, lft, if_true, g2, val, frz]
      simp only [List.map_cons, compL, g3, bnd_ok, k1, ret, drws, List.length_cons, List.singleton_append]
  obtain ⟨ρ', k1, k2, k3, k4⟩ := key as t N (blank ρ1 [i]) hT hN (blank_len _ _) (fun m a b => by rw [blank_get]; simp [a]) (by rw [blank_get]; simp [hij]; exact hj)
  have hr : restore ρ1 ρ' [i] = ρ1.set j (some (tnD (nxts w as.length t))) := by
    apply List.ext_getElem?
    intro m
    rw [restore_get _ _ k2.symm]
    by_cases hm : m = i
    · subst hm; simp [Ne.symm hij, List.getElem?_set_ne hij]
    · by_cases hmj : m = j
      · subst hmj
        have : m < ρ1.length := (List.getElem?_eq_some_iff.mp hj).1
        simp [hm, k4, this]
      · simp [hm, List.getElem?_set_ne (Ne.symm hmj), k3 m hm hmj]
  refine ⟨?_⟩
  simp only [op, h.h, bnd_ok, List.map_cons, List.map_nil, k1, noEr, List.length_map, drws_len, hr]
  rw [if_pos (by simp only [LIM]; omega)]
  rfl
theorem xe_take [D__law_take T] {ρ : Ev} {u : Tn} {w : Int} {j m : Nat} {N : Nat} (h : Sl ρ j (tnD u)) (hm : Sl ρ m (.int w)) (hT : Tok N u) (hN : N ≤ 1000000) (hw : 0 < w ∧ w < 2 ^ 62) :
    Xe T (n + 1) (.call "_law_take" [.var j, .var m]) ρ (.tmp (.int (drw u w))) (ρ.set j (some (tnD (nxt u w)))) := by
  refine xe_callO (os := [.loc j, .loc m]) (ds := [tnD u, .int w]) (xs_cons (xe_var h) (xs_cons (xe_var hm) xs_nil)) (rsl_cons (rs_loc h) (rsl_cons (rs_loc hm) rsl_nil)) ?_ (take_O hT hN hw) ⟨rfl⟩ ?_
  · exact ⟨by simp [ownLocs, tnD, own]⟩
  · exact ⟨by simp [ownLocs, tnD, own, putBack, blank]⟩
theorem xe_takeI [D__law_take T] {ρ : Ev} {u : Tn} {w : Int} {j : Nat} {N : Nat} (h : Sl ρ j (tnD u)) (hT : Tok N u) (hN : N ≤ 1000000) (hw : 0 < w ∧ w < 2 ^ 62) :
    Xe T (n + 1) (.call "_law_take" [.var j, .int w]) ρ (.tmp (.int (drw u w))) (ρ.set j (some (tnD (nxt u w)))) := by
  refine xe_callO (os := [.loc j, .tmp (.int w)]) (ds := [tnD u, .int w]) (xs_cons (xe_var h) (xs_cons xe_int xs_nil)) (rsl_cons (rs_loc h) (rsl_cons rs_tmp rsl_nil)) ?_ (take_O hT hN hw) ⟨rfl⟩ ?_
  · exact ⟨by simp [ownLocs, tnD, own]⟩
  · exact ⟨by simp [ownLocs, tnD, own, putBack, blank]⟩
theorem xe_drawsV [D__law_take T] {t : Tn} {w : Int} {s : E} {i j m : Nat} {nm : Str} {ρ ρ1 ρ2 : Ev} {α : Type} {as : List α} {f : α → D} {xs : List D} {hs : List (Nat × D)} {N : Nat} (h : Xi T (n + 1) s ρ xs hs ρ1) (e : Im xs as f) (hj : Sl ρ1 j (tnD t)) (hm : Sl ρ1 m (.int w)) (hij : j ≠ i) (hmi : m ≠ i) (hmj : m ≠ j) (hi : Le (i + 1) ρ1.length) (hT : Tok N t) (hN : N + as.length ≤ 1000000) (hw : 0 < w ∧ w < 2 ^ 62)
    (e2 : Nm (putH hs (ρ1.set j (some (tnD (nxts w as.length t))))) ρ2) : Xe T (n + 1) (.comp (.call "_law_take" [.var j, .var m]) (.nm i) s (.tr (.bl true)) [(nm, i)]) ρ (.tmp (.lst true ((drws w as.length t).map .int))) ρ2 := by
  have e := e.h; subst e
  refine xe_draws h hj hij hi hT hN (fun ρ u M hM hM2 _ hr hu _ => ?_) e2
  exact xe_take ⟨hu⟩ ⟨by rw [hr m hmi hmj]; exact hm.h⟩ hM (by omega) hw
theorem xe_drawsI [D__law_take T] {t : Tn} {w : Int} {s : E} {i j : Nat} {nm : Str} {ρ ρ1 ρ2 : Ev} {α : Type} {as : List α} {f : α → D} {xs : List D} {hs : List (Nat × D)} {N : Nat} (h : Xi T (n + 1) s ρ xs hs ρ1) (e : Im xs as f) (hj : Sl ρ1 j (tnD t)) (hij : j ≠ i) (hi : Le (i + 1) ρ1.length) (hT : Tok N t) (hN : N + as.length ≤ 1000000) (hw : 0 < w ∧ w < 2 ^ 62)
    (e2 : Nm (putH hs (ρ1.set j (some (tnD (nxts w as.length t))))) ρ2) : Xe T (n + 1) (.comp (.call "_law_take" [.var j, .int w]) (.nm i) s (.tr (.bl true)) [(nm, i)]) ρ (.tmp (.lst true ((drws w as.length t).map .int))) ρ2 := by
  have e := e.h; subst e
  refine xe_draws h hj hij hi hT hN (fun ρ u M hM hM2 _ hr hu _ => ?_) e2
  exact xe_takeI ⟨hu⟩ hM (by omega) hw
local macro_rules | `(tactic| mframe) => `(tactic| first | apply xe_drawsV | apply xe_drawsI)
/-! strings drawn -/
def closeI (r : List Int) : List Int := r.map fun x => ((ixO (setI r) x : Nat) : Int)
theorem mem_setI {r : List Int} {x : Int} : x ∈ setI r ↔ x ∈ r := by
  simp only [setI, sortI, List.mem_mergeSort, List.mem_eraseDups]
theorem eraseDups_len : ∀ (k : Nat) (r : List Int), r.length ≤ k → r.eraseDups.length ≤ r.length
  | _, [], _ => by simp
  | 0, x :: r, h => by simp at h
  | k + 1, x :: r, h => by
    rw [List.eraseDups_cons, List.length_cons, List.length_cons]
    have h1 := List.length_filter_le (fun b => !b == x) r
    have h2 := eraseDups_len k (r.filter fun b => !b == x) (by simp only [List.length_cons] at h; omega)
    omega
theorem closed_O [D__law_closed T] {r : List Int} {o : Bool} (h : r.length < 64) : Sem T (n + 1) "_law_closed" [.lst o (r.map D.int)] (tZ (closeI r)) [.lst false (r.map D.int)] := by
  have h1 := eraseDups_len _ r (Nat.le_refl _)
  refine sem_pure D__law_closed.df__law_closed rfl rfl rfl ⟨by mstop⟩ ?_
  repeat' mframe
  rename_i hx
  exact mem_setI.mpr hx
local macro_rules | `(tactic| mexfalso) => `(tactic| refine closed_O ?_)
theorem eraseDups_nd : ∀ (k : Nat) (r : List Int), r.length ≤ k → r.eraseDups.Nodup
  | _, [], _ => by simp
  | 0, x :: r, h => by simp at h
  | k + 1, x :: r, h => by
    rw [List.eraseDups_cons, List.nodup_cons]
    have h1 := List.length_filter_le (fun b => !b == x) r
    refine ⟨fun hm => ?_, eraseDups_nd k _ (by simp only [List.length_cons] at h; omega)⟩
    rw [List.mem_eraseDups, List.mem_filter] at hm
    simp at hm
theorem setI_nd (r : List Int) : (setI r).Nodup := (List.Perm.nodup_iff (List.mergeSort_perm _ _)).mpr (eraseDups_nd _ r (Nat.le_refl _))
theorem setI_len (r : List Int) : (setI r).length ≤ r.length := by
  rw [show (setI r).length = r.eraseDups.length from (List.mergeSort_perm _ _).length_eq]
  exact eraseDups_len _ r (Nat.le_refl _)
theorem closeI_len {r : List Int} : (closeI r).length = r.length := by simp [closeI]
theorem mem_closeI {r : List Int} {k : Int} : k ∈ closeI r ↔ 0 ≤ k ∧ k < (setI r).length := by
  simp only [closeI, List.mem_map]
  constructor
  · rintro ⟨x, hx, rfl⟩
    have : ixO (setI r) x < (setI r).length := List.idxOf_lt_length_of_mem (mem_setI.mpr hx)
    omega
  · intro ⟨h0, h1⟩
    have hk : k.toNat < (setI r).length := by omega
    refine ⟨(setI r)[k.toNat], mem_setI.mp (List.getElem_mem hk), ?_⟩
    have := (setI_nd r).idxOf_getElem k.toNat hk
    show ((List.idxOf _ _ : Nat) : Int) = k
    rw [this]; omega
theorem closeI_ok {r : List Int} (h : r ≠ []) (hl : r.length ≤ 1000) : Okk (closeI r) := by
  have hne : closeI r ≠ [] := fun z => h (by have := congrArg List.length z; rw [closeI_len] at this; exact List.length_eq_zero_iff.mp this)
  have hm := mem_closeI.mp (mxI_mem hne)
  have h2 := setI_len r
  refine ⟨?_, by rw [closeI_len]; exact hl⟩
  simp only [isStr, Bool.and_eq_true, Bool.not_eq_true', List.isEmpty_eq_false_iff, List.all_eq_true, decide_eq_true_eq, inB_eq, List.mem_range]
  refine ⟨⟨hne, fun x hx => (mem_closeI.mp hx).1⟩, fun k hk => mem_closeI.mpr ⟨by omega, ?_⟩, by rw [closeI_len]; omega⟩
  have : (k : Int) < mxI (closeI r) := by
    simp only [kindsN] at hk
    split at hk <;> omega
  omega
/-- a string drawn -/
def lstr (m k : Int) (t : Tn) : List Int := closeI (drws (1 + drw (nxt t m) k) (1 + drw t m).toNat (nxt (nxt t m) k))
def lstrN (m k : Int) (t : Tn) : Tn := nxts (1 + drw (nxt t m) k) (1 + drw t m).toNat (nxt (nxt t m) k)
theorem lstr_len {m k : Int} {t : Tn} : (lstr m k t).length = (1 + drw t m).toNat := by simp only [lstr, closeI_len, drws_len]
theorem lstr_ok {m k : Int} {t : Tn} (hm : 0 < m ∧ m < 64) : Okk (lstr m k t) := by
  have h := drw_rng (t := t) hm.1
  have hl := drws_len (w := 1 + drw (nxt t m) k) (1 + drw t m).toNat (nxt (nxt t m) k)
  refine closeI_ok (fun z => ?_) (by omega)
  rw [z] at hl; simp at hl; omega
theorem lstr_tok {m k : Int} {t : Tn} {N : Nat} (h : Tok N t) (hm : 0 < m ∧ m < 64) : Tok (N + 66) (lstrN m k t) := by
  have := drw_rng (t := t) hm.1
  exact ((h.nxt.nxt).nxts _).weak (by omega)
local macro_rules | `(tactic| mexfalso) => `(tactic| refine take_O ‹_› ?_ ?_)
theorem string_O [D__law_string T] {N : Nat} {t : Tn} {m k : Int} (h : Tok N t) (hN : N ≤ 900000) (hm : 0 < m ∧ m < 63) (hk : 0 < k ∧ k < 1000) :
    Sem T (n + 3) "_law_string" [tnD t, .int m, .int k] (tZ (lstr m k t)) [tnD (lstrN m k t), .int m, .int k] := by
  have h1 := drw_rng (t := t) hm.1
  have h2 := drw_rng (t := nxt t m) hk.1
  have h3 := h.nxt (w := m)
  have h4 := h3.nxt (w := k)
  refine sem_own (ds0 := [tnD t, .int m, .int k]) D__law_string.df__law_string rfl rfl rfl ⟨by mstop⟩ ?_
  repeat' mframe
  · rw [drws_len, List.length_range]; omega
  · exact ⟨by simp [outL, own_tnD, own_int, lstrN, List.length_range]⟩
  · simp [lstr]
end
end VP

set_option Elab.async false
set_option linter.all false
set_option maxRecDepth 100000
set_option maxHeartbeats 1000000
/-! What the laws' own defs come to: boxes, likeness. -/
namespace VP
open PySem L2
-- steps of the evaluator, as local words: mstop (slots), infer_instance (what is asked beside), mexfalso (calls), massumption (data), mframe (one step)
local macro_rules | `(tactic| mstop) => `(tactic| first | (simp only [startE, List.replicate_succ, List.replicate_zero, Nat.reduceAdd, Nat.reduceSub, List.length_cons, List.length_nil, List.set_cons_zero, List.set_cons_succ, blank, restore, putH, List.map_cons, List.map_nil, List.cons_append, List.nil_append, Sv.h, Option.getD_some, List.getElem?_cons_zero, List.getElem?_cons_succ, putBack, ownLocs, own_lt, own_lf, own_tup, own_int, own_bl, own_str, own_non, own_fn, own_pr, own_tnD, Bool.false_eq_true, if_true, if_false, Bool.not_true, Bool.not_false, Bool.and_true, Bool.true_and, Bool.or_false, Bool.false_or, Bool.or_true, Bool.true_or, Bool.and_false, Bool.false_and, ite_true, ite_false, reduceIte]; done) | (simp only [startE, List.replicate_succ, List.replicate_zero, Nat.reduceAdd, Nat.reduceSub, List.length_cons, List.length_nil, List.set_cons_zero, List.set_cons_succ, blank, restore, putH, List.map_cons, List.map_nil, List.cons_append, List.nil_append, Sv.h, Option.getD_some, List.getElem?_cons_zero, List.getElem?_cons_succ, putBack, ownLocs, own_lt, own_lf, own_tup, own_int, own_bl, own_str, own_non, own_fn, own_pr, own_tnD, Bool.false_eq_true, if_true, if_false, Bool.not_true, Bool.not_false, Bool.and_true, Bool.true_and, Bool.or_false, Bool.false_or, Bool.or_true, Bool.true_or, Bool.and_false, Bool.false_and, ite_true, ite_false, reduceIte]; exact rfl) | exact rfl)
local macro_rules | `(tactic| mexfalso) => `(tactic| fail)
local macro_rules | `(tactic| massumption) => `(tactic| first
  | exact b_add | exact b_sub | exact b_mul (mok_l (by omega) (by omega)) | exact b_mul (mok_r (by omega) (by omega)) | apply b_mul | apply b_fdiv | apply b_mod | exact b_pow (by decide) | apply b_addT | apply b_addL | apply b_addTd | apply b_addLd | apply b_repL | apply b_repT
  | exact c_eq | exact c_ne | exact c_eqb | exact c_eqS | exact c_neS | exact c_neb | exact c_isInt | exact c_isBl | exact c_isStr | exact c_isTup | exact c_isLst | exact c_isNon | exact c_isnInt | exact c_isnBl | exact c_isnStr | exact c_isnTup | exact c_isnLst | exact c_isnNon | exact c_lt | exact c_le | exact c_gt | exact c_ge | exact c_eqT0 (by decide) | exact c_eqT (by decide) | exact c_neT (by decide) | exact c_eqL (by decide) | exact c_neL (by decide)
  | exact c_innT rfl (by decide) | exact c_innL rfl (by decide) | exact c_ninT rfl (by decide) | exact c_ninL rfl (by decide)
  | apply ix_map | apply ix_mapL | exact Ixd.mk rfl | exact s_tup | exact s_lst | exact r_tup | exact r_lst
  | exact g_lenT | exact g_lenL | exact g_tupL | exact g_tupT | exact g_lstL | exact g_lstT | exact g_int | exact g_intb | exact g_abs | exact g_all | exact g_any | exact g_sumL0 | exact g_sumT0 | exact g_sum | exact g_sumT | apply g_maxT0 | apply g_maxL0 | apply g_minT0 | apply g_minL0 | apply g_maxT | apply g_maxL | apply g_minT | apply g_minL | exact g_max2 | exact g_min2 | exact g_sortI0 | exact g_sortI
  | exact g_inst (b := true) rfl | exact g_inst (b := false) rfl | exact g_inst2 (b := true) (b' := true) rfl rfl | exact g_inst2 (b := true) (b' := false) rfl rfl | exact g_inst2 (b := false) (b' := true) rfl rfl | exact g_inst2 (b := false) (b' := false) rfl rfl
  | exact m_countT rfl (by decide) | exact m_countL rfl (by decide) | apply m_idxL rfl (by decide) | apply q_rng1 | apply x_listR | apply x_ssetL | apply x_ssetT | apply q_rng2
  | exact it_tup | exact it_lst | exact td_bl | exact td_int | exact td_tup | exact td_lst | exact td_tupd | exact td_lstd | exact mt_cT | exact mt_cL | exact mt_iL | exact zip_map | exact enm_map | exact im_map | exact im_lst)
local macro_rules | `(tactic| mframe) => `(tactic| first
  | exact xe_int | exact xe_bl | exact xe_str | exact xe_non | exact xe_ty | apply xe_var | exact xs_nil | apply xs_cons
  | apply xe_bin | apply xe_cmp | apply xe_chn | apply xe_ix | apply xe_bi | apply xe_callO | apply xe_me | apply xe_andr
  | apply xe_if | apply xe_tup | apply xe_lst | apply xe_slc | apply xe_rev | apply xe_bix | apply xe_nt | apply xe_neg | apply xe_mut
  | apply xe_drawsV | apply xe_drawsI | apply xe_compm | apply xe_compf
  | exact rs_tmp | apply rs_loc | apply rs_ite | exact rsl_nil | apply rsl_cons | exact va_tmp | exact va_loc ⟨rfl⟩ rfl | apply va_locF | apply va_ite | exact fr_no rfl | exact fr_lst | exact val_nil | apply val_cons | exact vao_nil | apply vao_cons
  | exact fac_int0 | exact fac_int | exact fac_tz0 | exact fac_tz | exact fac_lz0 | exact fac_lz | exact fac_any
  | (apply wp_dead; (try simp only [Bool.and_eq_true, Bool.or_eq_true, Bool.not_eq_true', Bool.and_eq_false_iff, Bool.or_eq_false_iff, Bool.not_eq_false', decide_eq_true_eq, decide_eq_false_iff_not] at *); omega)
  | exact mrg_same | exact mrg_t | exact mrg_f | exact mrg_int | exact mrg_bl | exact mrg_str | exact mrg_tup | exact mrg_lst | exact mrg_any
  | apply br_t | apply br_f | apply br_k | exact or_t | apply or_f | apply or_k | exact and_f | apply and_t | apply and_k | exact ande_f | apply ande_t | apply ande_k
  | apply xt_nt | apply xt_andr | apply xt_orr | apply xt_tr
  | exact xp_nil | apply xp_pt | apply xc_hold | apply xc_sr | apply xi_hold | apply xi_sr | apply xi_rng | apply xi_zip | apply xi_enm
  | apply em | apply ef | apply ef2
  | apply wp_asg | apply wp_par | apply wp_setI | apply wp_ifk | apply wp_ret | apply wp_exp | apply wp_pas | apply wp_aug | apply wp_nil
  | apply bw_t | apply bw_f0 | apply bw_f | apply bw_k | apply pq_nx | apply pq_rt | apply lq_nx | apply lq_rt | apply tq_nx | apply tq_rt | apply tq_er | (apply rtq; try rfl) | apply oq_rt | apply rqx | apply oqx_rt | exact Otl.mk rfl
  | exact mv_tmp | exact mv_locN ⟨Nat.le_of_ble_eq_true rfl⟩ ⟨rfl⟩ ⟨by mstop⟩ | exact mv_par ⟨Nat.le_of_ble_eq_true rfl⟩ (va_loc ⟨rfl⟩ rfl) | (apply mv_par ⟨Nat.le_of_ble_eq_true rfl⟩; apply va_locF) | apply mv_iteN
  | apply asg_nm | apply asg_tp | apply asg_pr | exact asgL_nil | apply asgL_cons
  | exact Sl.mk rfl | exact Ixn.mk rfl | (apply Nm.mk; mstop) | (apply Nb.mk; mstop) | exact Bl.mk rfl | exact Ln.mk rfl | exact Nd.mk List.nodup_nil | exact Nd.mk (List.nodup_singleton _) | (apply Nd.mk; simp only [ownLocs, own_lt, own_lf, own_tup, own_int, own_bl, own_str, own_non, own_fn, own_pr, own_tnD, Bool.false_eq_true, if_true, if_false]; decide) | exact Le.mk (Nat.le_of_ble_eq_true rfl) | (apply Le.mk; first | (show (_ : Prop); assumption) | exact (rfl : (_ : D) = _) | omega  | (simp only [LIM, List.length_cons, List.length_nil, List.length_map, List.length_range, List.length_zip, List.length_append, List.length_reverse, List.length_replicate, List.length_zipIdx]; omega))
  | massumption | (apply sem_guard; mexfalso)
  | exact Imp.mk ab1 | exact Imp.mk ab2 | (apply Imp.mk; intro _) | (apply Fa.mk; intro _ _) | (apply Fr1.mk; intro _) | (show (_ : Prop); assumption) | exact (rfl : (_ : D) = _) | omega  | (simp only [LIM, List.length_cons, List.length_nil, List.length_map, List.length_range, List.length_zip, List.length_append, List.length_reverse, List.length_replicate, List.length_zipIdx]; omega))
local macro_rules | `(tactic| mexfalso) => `(tactic| exact is_number_int)
local macro_rules | `(tactic| mexfalso) => `(tactic| exact is_from_int)
local macro_rules | `(tactic| mexfalso) => `(tactic| exact is_below_int)
local macro_rules | `(tactic| mexfalso) => `(tactic| exact tupled_int)
local macro_rules | `(tactic| mexfalso) => `(tactic| apply tupled_I)
local macro_rules | `(tactic| mexfalso) => `(tactic| exact is_string_O ‹_›)
local macro_rules | `(tactic| mexfalso) => `(tactic| exact sure_string_O ‹_›)
local macro_rules | `(tactic| mexfalso) => `(tactic| exact counts_in_O ‹_›)
local macro_rules | `(tactic| mexfalso) => `(tactic| exact is_number_int)
local macro_rules | `(tactic| mexfalso) => `(tactic| exact is_from_int)
local macro_rules | `(tactic| mexfalso) => `(tactic| exact is_below_int)
local macro_rules | `(tactic| mexfalso) => `(tactic| exact tupled_int)
local macro_rules | `(tactic| mexfalso) => `(tactic| apply tupled_I)
local macro_rules | `(tactic| mexfalso) => `(tactic| exact is_string_O ‹_›)
local macro_rules | `(tactic| mexfalso) => `(tactic| exact sure_string_O ‹_›)
local macro_rules | `(tactic| mexfalso) => `(tactic| exact counts_in_O ‹_›)
local macro_rules | `(tactic| mexfalso) => `(tactic| refine closed_O ?_)
local macro_rules | `(tactic| mexfalso) => `(tactic| refine take_O ‹_› ?_ ?_)
local macro_rules | `(tactic| mexfalso) => `(tactic| refine string_O ‹_› ?_ ?_ ?_)
section
variable {T : Tb} {n : Nat}
theorem law_of_O [D__law_of T] {N : Nat} {t : Tn} {o : Bool} {xs : List (List Int)} (h : Tok N t) (hN : N ≤ 900000) (hx : xs ≠ []) (hl : xs.length ≤ 100000) :
    Sem T (n + 2) "_law_of" [tnD t, .lst o (xs.map tZ)] (tZ (at' xs (drw t xs.length))) [tnD (nxt t xs.length), .lst false (xs.map tZ)] := by
  have h1 : 0 < xs.length := List.length_pos_iff.mpr hx
  have h2 := drw_rng (t := t) (w := (xs.length : Int)) (by omega)
  refine sem_own (ds0 := [tnD t, .lst false (xs.map tZ)]) D__law_of.df__law_of rfl rfl rfl ⟨by mstop⟩ ?_
  repeat' mframe
theorem cutA_le' {α : Type} {xs : List α} {lo hi : Option Int} : (cutA xs lo hi).length ≤ xs.length := by
  unfold cutA; rw [List.length_take, List.length_drop]; omega
theorem cutA_one {α : Type} {x : α} {xs : List α} : cutA (x :: xs) none (some 1) = [x] := by
  simp [cutA, HT.sIx]
theorem cells_O [D__law_cells T] {xs : List Int} (hl : xs.length ≤ 63) : ∃ d, (∃ c : Int, d = .lst true [.int c]) ∧ Sem T (n + 1) "_law_cells" [.lst false (xs.map .int), .int 1] d [.lst false (xs.map D.int), .int 1] := by
  refine sem_pure_ex D__law_cells.df__law_cells rfl rfl rfl ⟨by mstop⟩ ?_
  have h1 : Xe T n (.bi .list [(.slc (.var 0) .nil (.pt (.var 1)))]) [some (.lst false (xs.map .int)), some (.int 1), none, none, none, none] (.tmp (.lst true ((cutA xs none (some 1)).map .int))) [some (.lst false (xs.map .int)), some (.int 1), none, none, none, none] := by
    repeat' mframe
  have h2 : ∃ c : Int, Xe T n (.or (.bi .list [(.slc (.var 0) .nil (.pt (.var 1)))]) (.lst [(.int (0))])) [some (.lst false (xs.map .int)), some (.int 1), none, none, none, none] (.tmp (.lst true [.int c])) [some (.lst false (xs.map .int)), some (.int 1), none, none, none, none] := by
    cases xs with
    | nil => exact ⟨0, xe_or_f h1 va_tmp ⟨rfl⟩ (by repeat' mframe)⟩
    | cons x xs =>
      rw [cutA_one] at h1
      exact ⟨x, xe_or_t h1 va_tmp ⟨rfl⟩⟩
  obtain ⟨c, h2⟩ := h2
  refine wp_asg h2 va_tmp (asg_nm ⟨Nat.le_of_ble_eq_true rfl⟩ ⟨by mstop⟩) ?_
  apply wp_forI
  · repeat' mframe
  · repeat' mframe
  refine lp_I (fun _ ρ => ∃ (c : Int) (x y z : Option D), ρ = [some (.lst false (xs.map .int)), some (.int 1), some (.lst true [.int c]), x, y, z]) _ ⟨c, none, none, none, rfl⟩ ?_ ?_
  · rintro ⟨b, k⟩ r _ hs ⟨c, x, y, z, rfl⟩
    refine ⟨[some (.lst false (xs.map .int)), some (.int 1), some (.lst true [.int c]), some (.int (k : Int)), some (.int b), z], by repeat' mframe, ?_⟩
    have ek : ((k : Int) % 1) = 0 := Int.emod_one _
    have hk : k < 63 := by
      have := List.mem_zipIdx' (hs.subset List.mem_cons_self)
      have h5 := cutA_le' (xs := xs) (lo := some 1) (hi := some 63)
      omega
    apply wp_asg
    · repeat' mframe
    · repeat' mframe
    · repeat' mframe
    rw [ek]
    repeat' mframe
    exact ⟨_, _, _, _, rfl⟩
  · rintro _ ⟨c, x, y, z, rfl⟩
    repeat' mframe
    exact ⟨c, rfl⟩
local macro_rules | `(tactic| mexfalso) => `(tactic| refine law_of_O ‹_› ?_ ?_ ?_)
end
def c_box (C : Int) : Df := ⟨["script", "k", "bit_so"], 2, [], [(.asg (.nm 2) (.ife (.tr (.cmp .lt (.var 1) (.bi .len [(.var 0)]))) (.ix (.var 0) (.var 1)) (.int (0)))), (.ret (.lst [(.bin .mul (.bi .abs [(.var 2)]) (.bi .int [(.cmp .ge (.bi .abs [(.var 2)]) (.bin .pow (.int (10)) (.int (18))))])), (.bin .add (.bin .add (.bin .mod (.bi .int [(.var 2)]) (.int (2305843009213693951))) (.bin .mul (.int (40961)) (.var 1))) (.int C)), (.int (0))]))]⟩
class D__law_box (T : Tb) (C : outParam Int) : Prop where df__law_box : T.df "_law_box" = some (c_box C)
section
variable {T : Tb} {n : Nat}
theorem box_O {C : Int} [D__law_box T C] {c : Int} {o : Bool} (hC : 0 ≤ C ∧ C < 100000000) : ∃ d, (∃ t, Tok 0 t ∧ d = tnD t) ∧ Sem T (n + 1) "_law_box" [.lst o [.int c], .int 0] d [.lst false [.int c], .int 0] := by
  refine sem_pure_ex D__law_box.df__law_box rfl rfl rfl ⟨by mstop⟩ ?_
  apply wp_asg
  · exact (⟨rfl⟩ : Xe T n (.ife (.tr (.cmp .lt (.var 1) (.bi .len [(.var 0)]))) (.ix (.var 0) (.var 1)) (.int (0))) [some (.lst false [.int c]), some (.int 0), none] (.tmp (.int c)) [some (.lst false [.int c]), some (.int 0), none])
  · repeat' mframe
  · repeat' mframe
  have h1 := Int.emod_nonneg c (b := 2305843009213693951) (by decide)
  have h2 := Int.emod_lt_of_pos c (b := 2305843009213693951) (by decide)
  repeat' mframe
  · exact mok_r (by simp only [b2]; split <;> omega) (by simp only [b2]; split <;> omega)
  · exact ⟨⟨_, _, _⟩, ⟨by show -(2 ^ 62) < c % 2305843009213693951 + 40961 * 0 + C; omega, by show c % 2305843009213693951 + 40961 * 0 + C < 2 ^ 62; omega, Int.le_refl _, Int.le_refl _⟩, rfl⟩
/-! likeness -/
mutual
def cln : Nat → D → Bool
  | _, .non => true
  | _, .bl _ => true
  | _, .int _ => true
  | _, .str _ => true
  | 0, _ => false
  | k + 1, .tup xs => clnL k xs
  | k + 1, .lst false xs => clnL k xs
  | _, _ => false
def clnL : Nat → List D → Bool
  | _, [] => true
  | k, d :: ds => cln k d && clnL k ds
end
theorem clnL_mem {k : Nat} : ∀ {xs : List D}, clnL k xs = true → ∀ x ∈ xs, cln k x = true
  | [], _, x, hx => by cases hx
  | y :: ys, h, x, hx => by
    simp only [clnL, Bool.and_eq_true] at h
    rcases List.mem_cons.mp hx with rfl | hx
    · exact h.1
    · exact clnL_mem h.2 x hx
theorem cln_own {k : Nat} {d : D} (h : cln k d = true) : own d = false := by
  cases d with
  | lst o xs => cases o with
    | true => cases k <;> simp [cln] at h
    | false => rfl
  | _ => rfl
theorem pair_same : ∀ xs : List D, pairUp xs xs = xs.map fun x => .pr x x
  | [] => rfl
  | x :: xs => by have := pair_same xs; simp only [pairUp] at this ⊢; simp [this]
theorem im_same {xs : List D} : Im (pairUp xs xs) xs (fun x => .pr x x) := ⟨pair_same xs⟩
theorem frzIn_idem {io : List Nat} : ∀ {ds : List D} {i : Nat}, frzIn io i (frzIn io i ds) = frzIn io i ds
  | [], _ => rfl
  | d :: ds, i => by
    simp only [frzIn, frzIn_idem (ds := ds), List.cons.injEq, and_true]
    split
    · rfl
    · exact frz_eq frz_not
theorem sem_frz {f : Str} {N : List Str} {np : Nat} {io : List Nat} {body : List Sm} {ds ds' : List D} {d : D} (h : T.df f = some ⟨N, np, io, body⟩) (w : Sem T (n + 1) f (frzIn io 0 ds) d ds') : Sem T (n + 1) f ds d ds' := by
  refine ⟨?_⟩
  have := w.h
  rw [sem_succ h] at this ⊢
  simp only [evDef, frzIn_idem] at this ⊢
  exact this
theorem all_true {α : Type} {xs : List α} : (xs.all fun _ => true) = true := by simp
theorem same_step [D__law_same T] {k : Nat} {xs : List D} (ih : ∀ n x, x ∈ xs → Sem T (n + k + 1) "_law_same" [x, x] (.bl true) [x, x]) (ho : ∀ x ∈ xs, own x = false) (hl : xs.length ≤ LIM) {ρ0 ρ ρ2 : Ev} {a b : E} {hs : List (Nat × D)}
    (h : Xi T (n + k + 1) (.zip a b) ρ0 (pairUp xs xs) hs ρ) (hρ : ρ.length = 4) (e2 : Nm (putH hs ρ) ρ2) : Xe T (n + k + 1) (.comp (.call "_law_same" [(.var 2), (.var 3)]) (.tp [(.nm 2), (.nm 3)]) (.zip a b) (.tr (.bl true)) [("mine", 2), ("its", 3)]) ρ0 (.tmp (.lst true (xs.map fun _ => .bl true))) ρ2 := by
  refine xe_compm h im_same ⟨fun x hx => ?_⟩ ⟨hl⟩ fac_any e2
  match ρ, hρ with
  | [r0, r1, r2, r3], _ =>
    refine em (ρ0 := [r0, r1, none, none]) (ρa := [r0, r1, some x, some x]) (ρb := [r0, r1, some x, some x]) (ρc := [r0, r1, some x, some x]) ⟨rfl⟩ ⟨rfl⟩ ?_ va_tmp (fr_no rfl) ⟨rfl⟩
    refine xe_callO (os := [.loc 2, .loc 3]) (ds := [x, x]) (ds' := [x, x]) ⟨rfl⟩ ⟨rfl⟩ ?_ (ih n x hx) ⟨rfl⟩ ?_
    · exact ⟨by simp [ownLocs, ho x hx]⟩
    · exact ⟨by simp [ownLocs, ho x hx, putBack, blank]⟩
theorem same_int [D__law_same T] {i : Int} : Sem T (n + 1) "_law_same" [.int i, .int i] (.bl true) [.int i, .int i] := by
  refine sem_pure D__law_same.df__law_same rfl rfl rfl ⟨by mstop⟩ ?_
  repeat' mframe
  simp
theorem same_bl [D__law_same T] {i : Bool} : Sem T (n + 1) "_law_same" [.bl i, .bl i] (.bl true) [.bl i, .bl i] := by
  refine sem_pure D__law_same.df__law_same rfl rfl rfl ⟨by mstop⟩ ?_
  repeat' mframe
  simp
theorem same_str [D__law_same T] {i : Str} : Sem T (n + 1) "_law_same" [.str i, .str i] (.bl true) [.str i, .str i] := by
  refine sem_pure D__law_same.df__law_same rfl rfl rfl ⟨by mstop⟩ ?_
  repeat' mframe
  simp
theorem same_non [D__law_same T] : Sem T (n + 1) "_law_same" [.non, .non] (.bl true) [.non, .non] := by
  refine sem_pure D__law_same.df__law_same rfl rfl rfl ⟨by mstop⟩ ?_
  repeat' mframe
theorem lenT {xs : List D} : Bid .len [.tup xs] (.int xs.length) := ⟨rfl⟩
theorem lenL {xs : List D} {o : Bool} : Bid .len [.lst o xs] (.int xs.length) := ⟨rfl⟩
local macro_rules | `(tactic| mframe) => `(tactic| first | (refine same_step (hs := [(0, _), (1, _)]) (ρ := [none, none, none, none]) ‹∀ n x, _ → Sem _ _ _ _ _ _› ‹∀ x, x ∈ _ → own x = false› ‹_ ≤ LIM› ⟨rfl⟩ rfl ⟨by mstop⟩) | exact lenT | exact lenL | exact Ixn.mk ‹_›)
theorem same_tup [D__law_same T] {k : Nat} {xs : List D} (ih : ∀ n x, x ∈ xs → Sem T (n + k + 1) "_law_same" [x, x] (.bl true) [x, x]) (ho : ∀ x ∈ xs, own x = false) (hl : xs.length ≤ LIM) : Sem T (n + k + 2) "_law_same" [.tup xs, .tup xs] (.bl true) [.tup xs, .tup xs] := by
  refine sem_pure D__law_same.df__law_same rfl rfl rfl ⟨by mstop⟩ ?_
  repeat' mframe
  simp
theorem same_lst [D__law_same T] {k : Nat} {xs : List D} (ih : ∀ n x, x ∈ xs → Sem T (n + k + 1) "_law_same" [x, x] (.bl true) [x, x]) (ho : ∀ x ∈ xs, own x = false) (hl : xs.length ≤ LIM) : Sem T (n + k + 2) "_law_same" [.lst false xs, .lst false xs] (.bl true) [.lst false xs, .lst false xs] := by
  refine sem_pure D__law_same.df__law_same rfl rfl rfl ⟨by mstop⟩ ?_
  repeat' mframe
  simp
mutual
def szOk : D → Bool
  | .tup xs => decide (xs.length ≤ LIM) && szOkL xs
  | .lst _ xs => decide (xs.length ≤ LIM) && szOkL xs
  | _ => true
def szOkL : List D → Bool
  | [] => true
  | d :: ds => szOk d && szOkL ds
end
theorem szOkL_mem : ∀ {xs : List D}, szOkL xs = true → ∀ x ∈ xs, szOk x = true
  | [], _, x, hx => by cases hx
  | y :: ys, h, x, hx => by
    simp only [szOkL, Bool.and_eq_true] at h
    rcases List.mem_cons.mp hx with rfl | hx
    · exact h.1
    · exact szOkL_mem h.2 x hx
theorem same_cl [D__law_same T] : ∀ (k n : Nat) (d : D), cln k d = true → szOk d = true → Sem T (n + k + 1) "_law_same" [d, d] (.bl true) [d, d] := by
  intro k
  induction k with
  | zero =>
    intro n d h _
    cases d <;> first | (simp [cln] at h; done) | exact same_int | exact same_bl | exact same_str | exact same_non
  | succ k ih =>
    intro n d h hz
    have key : ∀ xs : List D, clnL k xs = true → szOkL xs = true → (∀ n x, x ∈ xs → Sem T (n + k + 1) "_law_same" [x, x] (.bl true) [x, x]) ∧ (∀ x ∈ xs, own x = false) := fun xs hc hz =>
      ⟨fun n x hx => ih n x (clnL_mem hc x hx) (szOkL_mem hz x hx), fun x hx => cln_own (clnL_mem hc x hx)⟩
    cases d with
    | tup xs =>
      simp only [cln] at h
      simp only [szOk, Bool.and_eq_true, decide_eq_true_eq] at hz
      exact same_tup (key xs h hz.2).1 (key xs h hz.2).2 hz.1
    | lst o xs =>
      cases o with
      | true => simp [cln] at h
      | false =>
        simp only [cln] at h
        simp only [szOk, Bool.and_eq_true, decide_eq_true_eq] at hz
        exact same_lst (key xs h hz.2).1 (key xs h hz.2).2 hz.1
    | int _ => exact same_int
    | bl _ => exact same_bl
    | str _ => exact same_str
    | non => exact same_non
    | _ => simp [cln] at h
/-- two lists with the same in them -/
theorem same_L [D__law_same T] {k : Nat} {xs ys : List D} {o o' : Bool} (e : xs = ys) (hc : clnL k xs = true) (hz : szOkL xs = true) (hl : xs.length ≤ LIM) : Sem T (n + k + 2) "_law_same" [.lst o xs, .lst o' ys] (.bl true) [.lst false xs, .lst false ys] := by
  subst e
  refine sem_frz (n := n + k + 1) D__law_same.df__law_same ?_
  have h : cln (k + 1) (.lst false xs) = true := by simpa only [cln] using hc
  have := same_cl (T := T) (k + 1) n _ h (by simp only [szOk, Bool.and_eq_true, decide_eq_true_eq]; exact ⟨hl, hz⟩)
  show Sem T (n + (k + 1) + 1) "_law_same" [.lst false xs, .lst false xs] (.bl true) [.lst false xs, .lst false xs]
  exact this
/-- left for later -/
structure Later (p : Prop) : Prop where h : p
theorem same_L' [D__law_same T] {k : Nat} {xs ys : List D} {o o' : Bool} (e : Later (xs = ys)) (hc : Later (clnL k xs = true ∧ szOkL xs = true ∧ xs.length ≤ LIM)) : Sem T (n + k + 2) "_law_same" [.lst o xs, .lst o' ys] (.bl true) [.lst false xs, .lst false ys] :=
  same_L e.h hc.h.1 hc.h.2.1 hc.h.2.2
/-! what is clean -/
class Cn {α : Type} (f : α → D) (m : outParam Nat) : Prop where
  cn : ∀ a, cln m (f a) = true
theorem cln_mono : ∀ (m k : Nat) (d : D), m ≤ k → cln m d = true → cln k d = true := by
  intro m
  induction m with
  | zero =>
    intro k d _ h
    cases d <;> first | (simp [cln] at h; done) | (cases k <;> simp [cln])
  | succ m ih =>
    intro k d hk h
    obtain ⟨j, rfl⟩ : ∃ j, k = j + 1 := ⟨k - 1, by omega⟩
    have key : ∀ xs : List D, clnL m xs = true → clnL j xs = true := by
      intro xs
      induction xs with
      | nil => intro _; simp [clnL]
      | cons x xs ihx =>
        intro h
        simp only [clnL, Bool.and_eq_true] at h ⊢
        exact ⟨ih j x (by omega) h.1, ihx h.2⟩
    cases d with
    | tup xs => simp only [cln] at h ⊢; exact key xs h
    | lst o xs => cases o with
      | true => simp [cln] at h
      | false => simp only [cln] at h ⊢; exact key xs h
    | int _ => simp [cln]
    | bl _ => simp [cln]
    | str _ => simp [cln]
    | non => simp [cln]
    | _ => simp [cln] at h
theorem clnL_map {α : Type} {f : α → D} {m k : Nat} (h : ∀ a, cln m (f a) = true) (hk : m ≤ k) : ∀ xs : List α, clnL k (xs.map f) = true
  | [] => by simp [clnL]
  | x :: xs => by simp only [List.map_cons, clnL, Bool.and_eq_true]; exact ⟨cln_mono m k _ hk (h x), clnL_map h hk xs⟩
theorem szL_map {α : Type} {f : α → D} : ∀ (xs : List α), (∀ a ∈ xs, szOk (f a) = true) → szOkL (xs.map f) = true
  | [], _ => by simp [szOkL]
  | x :: xs, h => by simp only [List.map_cons, szOkL, Bool.and_eq_true]; exact ⟨h x (by simp), szL_map xs fun a ha => h a (by simp [ha])⟩
end
end VP

set_option Elab.async false
set_option linter.all false
set_option maxRecDepth 100000
set_option maxHeartbeats 1000000
/-! Plain facts of windows. -/
namespace VP
open PySem L2
theorem ext_getD {α : Type} [Inhabited α] {xs ys : List α} (hl : xs.length = ys.length) (h : ∀ i : Nat, i < xs.length → xs.getD i default = ys.getD i default) : xs = ys := by
  apply List.ext_getElem hl
  intro i h1 h2
  have := h i h1
  rw [List.getD_eq_getElem?_getD, List.getD_eq_getElem?_getD, List.getElem?_eq_getElem h1, List.getElem?_eq_getElem h2] at this
  simpa using this
/-- how many of m from f on are k -/
def cf (g : Nat → Int) (m : Nat) (k : Int) : Int := (((List.range m).map g).count k : Int)
theorem cf_zero {g : Nat → Int} {k : Int} : cf g 0 k = 0 := rfl
theorem cf_succ {g : Nat → Int} {m : Nat} {k : Int} : cf g (m + 1) k = cf g m k + if g m = k then 1 else 0 := by
  simp only [cf, List.range_succ, List.map_append, List.map_cons, List.map_nil, List.count_append, List.count_singleton]
  by_cases h : g m = k <;> simp [h]
theorem cf_shift {g : Nat → Int} {k : Int} : ∀ m : Nat, cf (fun j => g (j + 1)) m k + (if g 0 = k then 1 else 0) = cf g m k + if g m = k then 1 else 0
  | 0 => by simp [cf_zero]
  | m + 1 => by
    have ih := cf_shift (g := g) (k := k) m
    rw [cf_succ, cf_succ]; omega
theorem cf_congr {g g' : Nat → Int} {m : Nat} {k : Int} (h : ∀ j, j < m → g j = g' j) : cf g m k = cf g' m k := by
  simp only [cf]
  rw [List.map_congr_left fun j hj => h j (List.mem_range.mp hj)]
/-- bead i round -/
def bd (s : List Int) (i : Int) : Int := at' s (i % (s.length : Int))
theorem winAt_eq {s : List Int} {m f : Int} : winAt s m f = (List.range (kinds s)).map fun k : Nat => cf (fun j => bd s (f + (j : Int))) m.toNat (k : Int) := by
  simp only [winAt, cntK, List.map_map]
  rfl
theorem winAt_get {s : List Int} {m f : Int} {k : Nat} (h : k < kinds s) : (winAt s m f).getD k default = cf (fun j => bd s (f + (j : Int))) m.toNat (k : Int) := by
  rw [winAt_eq, List.getD_eq_getElem?_getD, List.getElem?_map, List.getElem?_range h]; rfl
theorem bd_mod {s : List Int} {i : Int} : bd s (i % (s.length : Int)) = bd s i := by simp [bd]
theorem bd_modAdd {s : List Int} {i j : Int} : bd s (i % (s.length : Int) + j) = bd s (i + j) := by simp only [bd, Int.emod_add_emod]
theorem winAt_mod {s : List Int} {m f : Int} : winAt s m (f % (s.length : Int)) = winAt s m f := by
  rw [winAt_eq, winAt_eq]
  simp only [bd_modAdd]
theorem winAt_len' {s : List Int} {m f : Int} : (winAt s m f).length = kinds s := by simp [winAt, cntK_len]
theorem at_getD {α : Type} [Inhabited α] {xs : List α} {i : Int} (h : 0 ≤ i) : at' xs i = xs.getD i.toNat default := by
  have := at_nat (xs := xs) i.toNat
  rwa [Int.toNat_of_nonneg h] at this
theorem getD_set {α : Type} [Inhabited α] {xs : List α} {i j : Nat} {a : α} (h : i < xs.length) : (xs.set i a).getD j default = if j = i then a else xs.getD j default := by
  rw [List.getD_eq_getElem?_getD, List.getD_eq_getElem?_getD]
  by_cases e : j = i
  · subst e; simp [h]
  · rw [List.getElem?_set_ne (Ne.symm e), if_neg e]
theorem win_step' {s : List Int} (h : Okk s) {m k a1 a2 : Int} (hm : 0 ≤ m) (h1 : bd s k = a1) (h2 : bd s (k + m) = a2) (b1 : 0 ≤ a1 ∧ a1 < (kinds s : Int)) (b2 : 0 ≤ a2 ∧ a2 < (kinds s : Int)) :
    ((winAt s m k).set a1.toNat (at' (winAt s m k) a1 - 1)).set a2.toNat (at' ((winAt s m k).set a1.toNat (at' (winAt s m k) a1 - 1)) a2 + 1) = winAt s m (k + 1) := by
  have hl := winAt_len' (s := s) (m := m) (f := k)
  apply ext_getD
  · simp [winAt_len']
  intro i hi
  simp only [List.length_set, hl] at hi
  rw [getD_set (by simp only [List.length_set, hl]; omega), at_getD b2.1, getD_set (by rw [hl]; omega), getD_set (by rw [hl]; omega), at_getD b1.1, winAt_get hi]
  have key := cf_shift (g := fun j : Nat => bd s (k + (j : Int))) (k := (i : Int)) m.toNat
  have e0 : bd s (k + ((0 : Nat) : Int)) = a1 := by simpa using h1
  have em : bd s (k + ((m.toNat : Nat) : Int)) = a2 := by rw [Int.toNat_of_nonneg hm]; exact h2
  simp only [e0, em] at key
  have e1 : (fun j : Nat => bd s (k + 1 + (j : Int))) = fun j : Nat => bd s (k + ((j + 1 : Nat) : Int)) := by
    funext j; congr 1; omega
  have hR : (winAt s m (k + 1)).getD i default = cf (fun j : Nat => bd s (k + ((j + 1 : Nat) : Int))) m.toNat (i : Int) := by rw [winAt_get hi, e1]
  rw [hR, winAt_get (k := a1.toNat) (by omega)]
  have q1 : (i = a1.toNat) ↔ a1 = (i : Int) := by omega
  have q2 : (i = a2.toNat) ↔ a2 = (i : Int) := by omega
  by_cases c1 : i = a1.toNat
  · by_cases c2 : i = a2.toNat
    · subst c2
      have g1 : a1 = ((a2.toNat : Nat) : Int) := q1.mp c1
      have g2 : a2 = ((a2.toNat : Nat) : Int) := by omega
      rw [if_pos rfl, if_pos c1, ← c1]
      rw [if_pos g1, if_pos g2] at key
      omega
    · rw [if_neg c2, if_pos c1, ← c1]
      rw [if_pos (q1.mp c1), if_neg (fun z => c2 (q2.mpr z))] at key
      omega
  · by_cases c2 : i = a2.toNat
    · have c3 : ¬ a2.toNat = a1.toNat := fun z => c1 (c2.trans z)
      rw [if_pos c2, if_neg c3, ← c2, winAt_get hi]
      rw [if_neg (fun z => c1 (q1.mpr z)), if_pos (q2.mp c2)] at key
      omega
    · rw [if_neg c2, if_neg c1]
      rw [if_neg (fun z => c1 (q1.mpr z)), if_neg (fun z => c2 (q2.mpr z))] at key
      omega
theorem bd_lt {s : List Int} {k : Int} (h : 0 ≤ k ∧ k < s.length) : bd s k = at' s k := by simp only [bd, Int.emod_eq_of_lt h.1 h.2]
theorem win_step {s : List Int} (h : Okk s) {m k : Int} (hm : 0 < m) (hm2 : m ≤ s.length) (hk : 0 ≤ k ∧ k < s.length) (b1 : 0 ≤ at' s k ∧ at' s k < (kinds s : Int)) (b2 : 0 ≤ at' s ((k + m) % s.length) ∧ at' s ((k + m) % s.length) < (kinds s : Int)) :
    ((winAt s m k).set (at' s k).toNat (at' (winAt s m k) (at' s k) - 1)).set (at' s ((k + m) % s.length)).toNat (at' ((winAt s m k).set (at' s k).toNat (at' (winAt s m k) (at' s k) - 1)) (at' s ((k + m) % s.length)) + 1) = winAt s m ((k + 1) % s.length) := by
  rw [winAt_mod]
  exact win_step' h (by omega) (bd_lt hk) rfl b1 b2
/-! the sums -/
theorem kinds_lt {s : List Int} (h : Okk s) {i : Int} (hi : 0 ≤ i ∧ i < s.length) : 0 ≤ at' s i ∧ at' s i < (kinds s : Int) := h.lt _ (at_mem (by omega) hi.2)
theorem bd_rng {s : List Int} (h : Okk s) (i : Int) : 0 ≤ bd s i ∧ bd s i < (kinds s : Int) := by
  have := h.pos
  exact kinds_lt h ⟨Int.emod_nonneg _ (by omega), Int.emod_lt_of_pos _ (by omega)⟩
theorem winAt_sum {s : List Int} (h : Okk s) {m f : Int} (hm : 0 ≤ m) : (winAt s m f).sum = m := by
  unfold winAt
  rw [sum_cntK]
  · simp only [List.length_map, List.length_range]; omega
  · intro x hx
    simp only [List.map_map, List.mem_map, List.mem_range] at hx
    obtain ⟨j, _, rfl⟩ := hx
    exact bd_rng h _
/-- a sum over a range -/
def sg (n : Nat) (g : Nat → Int) : Int := ((List.range n).map g).sum
theorem sg_succ {n : Nat} {g : Nat → Int} : sg (n + 1) g = sg n g + g n := by simp [sg, List.range_succ]
theorem sg_add {n : Nat} {g g' : Nat → Int} : sg n (fun i => g i + g' i) = sg n g + sg n g' := by
  induction n with
  | zero => rfl
  | succ n ih => rw [sg_succ, sg_succ, sg_succ, ih]; omega
theorem sg_shift {g : Nat → Int} : ∀ n, sg n (fun i => g (i + 1)) + g 0 = sg n g + g n
  | 0 => by simp [sg]
  | n + 1 => by have := sg_shift (g := g) n; rw [sg_succ, sg_succ]; omega
theorem sg_congr {n : Nat} {g g' : Nat → Int} (h : ∀ i, i < n → g i = g' i) : sg n g = sg n g' := by
  simp only [sg]; rw [List.map_congr_left fun j hj => h j (List.mem_range.mp hj)]
theorem sg_period {g : Nat → Int} {n : Nat} (hp : ∀ i, g (i + n) = g i) : ∀ j, sg n (fun i => g (i + j)) = sg n g
  | 0 => by simp
  | j + 1 => by
    have ih := sg_period hp j
    have := sg_shift (g := fun i => g (i + j)) n
    have e : (fun i => g (i + (j + 1))) = fun i => (fun i => g (i + j)) (i + 1) := by funext i; simp only; congr 1; omega
    rw [e]
    have e2 : g (n + j) = g (0 + j) := by rw [Nat.add_comm n j, hp]; simp
    have this : sg n (fun i => g (i + 1 + j)) + g (0 + j) = sg n (fun i => g (i + j)) + g (n + j) := this
    show sg n (fun i => g (i + 1 + j)) = sg n g
    rw [e2] at this
    omega
/-- bead at an index, 1 if it is of the kind -/
def ik (s : List Int) (k : Int) (i : Nat) : Int := if bd s (i : Int) = k then 1 else 0
theorem ik_period {s : List Int} {k : Int} (i : Nat) : ik s k (i + s.length) = ik s k i := by
  have : bd s ((i + s.length : Nat) : Int) = bd s (i : Int) := by
    rw [← bd_mod, Int.natCast_add, Int.add_emod_right, bd_mod]
  simp only [ik, this]
theorem cf_sg {s : List Int} {f : Nat} {k : Int} : ∀ m : Nat, cf (fun j => bd s ((f : Int) + (j : Int))) m k = sg m fun j => ik s k (f + j)
  | 0 => rfl
  | m + 1 => by rw [cf_succ, sg_succ, cf_sg m]; simp only [ik, Int.natCast_add]
theorem sum_rows {s : List Int} {k : Int} : ∀ m : Nat, sg s.length (fun f => cf (fun j => bd s ((f : Int) + (j : Int))) m k) = (m : Int) * sg s.length (ik s k)
  | 0 => by
    have : sg s.length (fun f => cf (fun j => bd s ((f : Int) + (j : Int))) 0 k) = 0 := by
      simp only [cf_zero]
      simp [sg, List.map_const']
    rw [this]; simp
  | m + 1 => by
    have e : (fun f : Nat => cf (fun j => bd s ((f : Int) + (j : Int))) (m + 1) k) = fun f : Nat => cf (fun j => bd s ((f : Int) + (j : Int))) m k + ik s k (f + m) := by
      funext f; rw [cf_sg, cf_sg, sg_succ]
    rw [e, sg_add, sum_rows m, sg_period (g := ik s k) ik_period m]
    rw [Int.natCast_add, Int.add_mul]; simp
theorem count_sg {k : Int} : ∀ s : List Int, (s.count k : Int) = sg s.length fun i => if s.getD i default = k then 1 else 0 := by
  intro s
  have key : ∀ l : List Int, ((l.count k : Nat) : Int) = (l.map fun x => if x = k then (1 : Int) else 0).sum := by
    intro l
    induction l with
    | nil => rfl
    | cons x l ih =>
      rw [List.count_cons, List.map_cons, List.sum_cons, ← ih]
      by_cases h : x = k <;> simp [h]; omega
  rw [key]
  congr 1
  apply List.ext_getElem
  · simp
  · intro i h1 h2
    simp at h1 h2 ⊢
    simp [h1]
theorem sg_ik {s : List Int} {k : Int} : sg s.length (ik s k) = (s.count k : Int) := by
  rw [count_sg]
  apply sg_congr
  intro i hi
  simp only [ik]
  rw [bd_lt (by omega), at_nat]
end VP

set_option Elab.async false
set_option linter.all false
set_option maxRecDepth 100000
set_option maxHeartbeats 1000000
/-! Plain facts of windows, on. -/
namespace VP
open PySem L2
def sumsV (s : List Int) (m : Int) : List Int := (List.range (mxI s + 1).toNat).map fun k : Nat => ((wins s m true).map fun r => at' r (k : Int)).sum
theorem iot_nat {n : Nat} : iot (n : Int) = (List.range n).map fun k : Nat => (k : Int) := by simp [iot]
theorem wins_true {s : List Int} {m : Int} : wins s m true = (List.range s.length).map fun f : Nat => winAt s m (f : Int) := by
  simp only [wins, if_true, iot_nat, List.map_map]; rfl
theorem wins_false {s : List Int} {m : Int} (h : 0 ≤ m ∧ m ≤ s.length) : wins s m false = (List.range (s.length + 1 - m.toNat)).map fun f : Nat => winAt s m (f : Int) := by
  have e : ((s.length : Int) - m + 1) = ((s.length + 1 - m.toNat : Nat) : Int) := by omega
  simp only [wins, Bool.false_eq_true, if_false]
  rw [e, iot_nat, List.map_map]; rfl
theorem fact_sums {s : List Int} (h : Okk s) {m : Int} (hm : 0 ≤ m) : sumsV s m = (cntK (kinds s) s).map (HMul.hMul m) := by
  simp only [sumsV, cntK, List.map_map]
  apply List.map_congr_left
  intro k hk
  have hk := List.mem_range.mp hk
  simp only [Function.comp, wins_true, List.map_map]
  have e : (List.range s.length).map ((fun r => at' r (k : Int)) ∘ fun f : Nat => winAt s m (f : Int)) = (List.range s.length).map fun f : Nat => cf (fun j => bd s ((f : Int) + (j : Int))) m.toNat (k : Int) := by
    apply List.map_congr_left
    intro f _
    simp only [Function.comp]
    rw [at_nat, winAt_get (by simpa [kinds] using hk)]
  rw [e]
  have := sum_rows (s := s) (k := (k : Int)) m.toNat
  simp only [sg] at this
  rw [this]
  have h2 := sg_ik (s := s) (k := (k : Int))
  simp only [sg] at h2
  rw [h2, Int.toNat_of_nonneg hm]
theorem cutA_to {α : Type} {xs : List α} {j : Int} (hj : 0 ≤ j) : cutA xs none (some j) = xs.take j.toNat := by
  simp only [cutA, HT.sIx, List.drop_zero, Nat.sub_zero]
  rw [if_neg (by omega)]
  rw [List.take_eq_take_iff]
  omega
theorem cutA_from {α : Type} {xs : List α} {j : Int} (hj : 0 ≤ j) : cutA xs (some j) none = xs.drop j.toNat := by
  simp only [cutA, HT.sIx]
  rw [if_neg (by omega)]
  by_cases h : j.toNat ≤ xs.length
  · rw [Nat.min_eq_left h, List.take_of_length_le (by rw [List.length_drop]; omega)]
  · rw [Nat.min_eq_right (by omega)]
    simp; omega
theorem fact_cut {s : List Int} {m : Int} (h : 0 ≤ m ∧ m ≤ s.length) : cutA (wins s m false) none (some (s.length : Int)) = cutA (wins s m true) none (some ((wins s m false).length : Int)) := by
  rw [cutA_to (by omega), cutA_to (by omega), wins_true, wins_false h]
  simp only [List.length_map, List.length_range, Int.toNat_natCast, ← List.map_take, List.take_range]
  congr 2; omega
theorem fact_row {s : List Int} (h : Okk s) {m : Int} (hm : 0 ≤ m) : ((wins s m true).map List.sum).map D.int = List.replicate s.length (D.int m) := by
  rw [wins_true, List.map_map, List.map_map]
  rw [List.eq_replicate_iff]
  refine ⟨by simp, fun b hb => ?_⟩
  obtain ⟨f, _, rfl⟩ := List.mem_map.mp hb
  simp only [Function.comp, winAt_sum h hm]
theorem okk_of {s s' : List Int} (h : Okk s) (hl : s'.length = s.length) (hm : ∀ x, x ∈ s' ↔ x ∈ s) : Okk s' ∧ kinds s' = kinds s := by
  have hne : s' ≠ [] := fun z => by have := h.pos; rw [z] at hl; simp at hl; omega
  have e : mxI s' = mxI s := by
    have h1 := mxI_ge ((hm _).mp (mxI_mem hne))
    have h2 := mxI_ge ((hm _).mpr (mxI_mem h.ne))
    omega
  refine ⟨⟨?_, by rw [hl]; exact h.len⟩, by simp only [kinds, e]⟩
  have hs := h.str
  simp only [isStr, Bool.and_eq_true, Bool.not_eq_true', List.isEmpty_eq_false_iff, List.all_eq_true, decide_eq_true_eq, inB_eq, List.mem_range, kindsN, e, hl] at hs ⊢
  exact ⟨⟨hne, fun x hx => hs.1.2 x ((hm x).mp hx)⟩, fun k hk => (hm _).mpr (hs.2.1 k hk), hs.2.2⟩
theorem rev_ok {s : List Int} (h : Okk s) : Okk s.reverse ∧ kinds s.reverse = kinds s := okk_of h (by simp) (by simp)
abbrev rotA (s : List Int) (k : Int) : List Int := cutA s (some k) none ++ cutA s none (some k)
theorem rot_eq {α : Type} {s : List α} {k : Int} (hk : 0 ≤ k) : cutA s (some k) none ++ cutA s none (some k) = s.drop k.toNat ++ s.take k.toNat := by rw [cutA_from hk, cutA_to hk]
theorem shift_len {s : List Int} {k : Int} (hk : 0 ≤ k ∧ k < s.length) : (cutA s (some k) none ++ cutA s none (some k)).length = s.length := by
  rw [rot_eq hk.1]; simp; omega
theorem shift_ok {s : List Int} (h : Okk s) {k : Int} (hk : 0 ≤ k ∧ k < s.length) : Okk (cutA s (some k) none ++ cutA s none (some k)) ∧ kinds (cutA s (some k) none ++ cutA s none (some k)) = kinds s := by
  refine okk_of h (shift_len hk) fun x => ?_
  rw [rot_eq hk.1, List.mem_append]
  constructor
  · rintro (z | z)
    · exact List.mem_of_mem_drop z
    · exact List.mem_of_mem_take z
  · intro z
    rw [← List.take_append_drop k.toNat s] at z
    exact (List.mem_append.mp z).symm
end VP

set_option Elab.async false
set_option linter.all false
set_option maxRecDepth 100000
set_option maxHeartbeats 1000000
/-! Plain facts of windows, turned and shifted. -/
namespace VP
open PySem L2
theorem getD_app {α : Type} [Inhabited α] {xs ys : List α} {i : Nat} : (xs ++ ys).getD i default = if i < xs.length then xs.getD i default else ys.getD (i - xs.length) default := by
  simp only [List.getD_eq_getElem?_getD, List.getElem?_append]
  split <;> rfl
theorem getD_drop {α : Type} [Inhabited α] {xs : List α} {k i : Nat} : (xs.drop k).getD i default = xs.getD (k + i) default := by
  simp only [List.getD_eq_getElem?_getD, List.getElem?_drop]
theorem getD_take {α : Type} [Inhabited α] {xs : List α} {k i : Nat} (h : i < k) : (xs.take k).getD i default = xs.getD i default := by
  simp only [List.getD_eq_getElem?_getD, List.getElem?_take, if_pos h]
theorem getD_mapr {α : Type} [Inhabited α] {n i : Nat} {g : Nat → α} (h : i < n) : ((List.range n).map g).getD i default = g i := by
  simp [List.getD_eq_getElem?_getD, h]
theorem bd_getD {s : List Int} {i : Nat} (h : i < s.length) : bd s (i : Int) = s.getD i default := by
  rw [bd_lt (by omega), at_nat]
theorem bd_rot {s : List Int} {k : Int} (hk : 0 ≤ k ∧ k < s.length) (i : Int) : bd (cutA s (some k) none ++ cutA s none (some k)) i = bd s (i + k) := by
  have hl := shift_len hk
  have hpos : 0 < (s.length : Int) := by omega
  have h1 := Int.emod_nonneg i (b := (s.length : Int)) (by omega)
  have h2 := Int.emod_lt_of_pos i hpos
  rw [← bd_mod, hl, ← bd_modAdd]
  generalize hj : i % (s.length : Int) = j at h1 h2
  obtain ⟨j, rfl⟩ : ∃ n : Nat, j = n := ⟨j.toNat, by omega⟩
  rw [bd_getD (by rw [hl]; omega), rot_eq hk.1, getD_app, List.length_drop, getD_drop]
  by_cases c : j < s.length - k.toNat
  · rw [if_pos c, show (j : Int) + k = ((k.toNat + j : Nat) : Int) by omega, bd_getD (by omega)]
  · rw [if_neg c, getD_take (by omega)]
    have e : (j : Int) + k = ((j - (s.length - k.toNat) : Nat) : Int) + s.length := by omega
    rw [e, ← bd_mod, Int.add_emod_right, bd_mod, bd_getD (by omega)]
theorem winAt_rot {s : List Int} (h : Okk s) {k m f : Int} (hk : 0 ≤ k ∧ k < s.length) : winAt (cutA s (some k) none ++ cutA s none (some k)) m f = winAt s m (f + k) := by
  rw [winAt_eq, winAt_eq, (shift_ok h hk).2]
  apply List.map_congr_left
  intro q _
  apply cf_congr
  intro j _
  rw [bd_rot hk]
  congr 1; omega
theorem fact_rot {s : List Int} (h : Okk s) {k m : Int} (hk : 0 ≤ k ∧ k < s.length) : wins (cutA s (some k) none ++ cutA s none (some k)) m true = cutA (wins s m true) (some k) none ++ cutA (wins s m true) none (some k) := by
  rw [rot_eq (s := wins s m true) hk.1, wins_true, wins_true, shift_len hk]
  apply ext_getD
  · simp; omega
  intro i hi
  simp only [List.length_map, List.length_range] at hi
  rw [getD_mapr hi, winAt_rot h hk, getD_app, List.length_drop, List.length_map, List.length_range, getD_drop]
  by_cases c : i < s.length - k.toNat
  · rw [if_pos c, getD_mapr (by omega)]
    congr 1; omega
  · rw [if_neg c, getD_take (by omega), getD_mapr (by omega)]
    have e : (i : Int) + k = ((i - (s.length - k.toNat) : Nat) : Int) + s.length := by omega
    rw [e, ← winAt_mod, Int.add_emod_right, winAt_mod]
theorem cf_rev {g : Nat → Int} {k : Int} {m : Nat} : cf (fun j => g (m - 1 - j)) m k = cf g m k := by
  have e : (List.range m).map (fun j => g (m - 1 - j)) = ((List.range m).map g).reverse := by
    apply List.ext_getElem
    · simp
    · intro i h1 h2
      simp at h1 ⊢
  simp only [cf]
  rw [e, List.count_reverse]
theorem fact_rev {s : List Int} (h : Okk s) {m : Int} (hm : 0 ≤ m ∧ m ≤ s.length) : wins s.reverse m false = (wins s m false).reverse := by
  rw [wins_false hm, wins_false (by simpa using hm), List.length_reverse]
  apply ext_getD
  · simp
  intro i hi
  simp only [List.length_map, List.length_range] at hi
  rw [getD_mapr hi]
  have e : ((List.range (s.length + 1 - m.toNat)).map fun f : Nat => winAt s m (f : Int)).reverse.getD i default = winAt s m ((s.length - m.toNat - i : Nat) : Int) := by
    rw [List.getD_eq_getElem?_getD, List.getElem?_reverse (by simpa using hi)]
    simp only [List.length_map, List.length_range]
    rw [List.getElem?_map, List.getElem?_range (by omega)]
    simp only [Option.map_some, Option.getD_some]
    congr 2; omega
  rw [e, winAt_eq, winAt_eq, (rev_ok h).2]
  apply List.map_congr_left
  intro q _
  rw [← cf_rev (g := fun j => bd s (((s.length - m.toNat - i : Nat) : Int) + (j : Int)))]
  apply cf_congr
  intro j hj
  have e1 : (i : Int) + (j : Int) = ((i + j : Nat) : Int) := by omega
  have e2 : ((s.length - m.toNat - i : Nat) : Int) + ((m.toNat - 1 - j : Nat) : Int) = ((s.length - 1 - (i + j) : Nat) : Int) := by omega
  rw [e1, e2, bd_getD (by simp; omega), bd_getD (by omega)]
  rw [List.getD_eq_getElem?_getD, List.getElem?_reverse (by omega), List.getD_eq_getElem?_getD]
theorem sg_nonneg {g : Nat → Int} (h : ∀ i, 0 ≤ g i) : ∀ n, 0 ≤ sg n g
  | 0 => by simp [sg]
  | n + 1 => by have := sg_nonneg h n; have := h n; rw [sg_succ]; omega
theorem sg_split {g : Nat → Int} {a : Nat} : ∀ b, sg (a + b) g = sg a g + sg b fun i => g (a + i)
  | 0 => by simp [sg]
  | b + 1 => by rw [← Nat.add_assoc, sg_succ, sg_succ, sg_split b]; omega
theorem ik_nn {s : List Int} {k : Int} (i : Nat) : 0 ≤ ik s k i := by simp only [ik]; split <;> omega
theorem winAt_zero {s : List Int} {f f' : Int} : winAt s 0 f = winAt s 0 f' := by rw [winAt_eq, winAt_eq]; rfl
theorem own_ok {s : List Int} (h : Okk s) {m : Int} (hm : 0 ≤ m ∧ m ≤ s.length) {w : List Int} (hw : w ∈ wins s m false) : Wok s w ∧ w.sum = m ∧ w ∈ wins s m false ∧ w ∈ wins s m true := by
  have hw0 := hw
  rw [wins_false hm] at hw
  obtain ⟨f, hf, rfl⟩ := List.mem_map.mp hw
  have hf := List.mem_range.mp hf
  refine ⟨⟨?_, h⟩, winAt_sum h hm.1, hw0, ?_⟩
  · simp only [isWants, Bool.and_eq_true, decide_eq_true_eq]
    refine ⟨winAt_len', ?_⟩
    rw [winAt_eq, cntK, List.zip_map', List.all_map, List.all_eq_true]
    intro k _
    simp only [Function.comp, Bool.and_eq_true, decide_eq_true_eq]
    rw [cf_sg]
    refine ⟨sg_nonneg (fun i => ik_nn _) _, ?_⟩
    rw [← sg_ik]
    have e : s.length = f + (m.toNat + (s.length - f - m.toNat)) := by omega
    have a1 := sg_split (g := ik s (k : Int)) (a := f) (m.toNat + (s.length - f - m.toNat))
    have a2 := sg_split (g := fun i => ik s (k : Int) (f + i)) (a := m.toNat) (s.length - f - m.toNat)
    have b1 := sg_nonneg (g := ik s (k : Int)) (fun i => ik_nn i) f
    have b2 := sg_nonneg (g := fun i => ik s (k : Int) (f + (m.toNat + i))) (fun i => ik_nn _) (s.length - f - m.toNat)
    rw [← e] at a1
    omega
  · rw [wins_true]
    have hp := h.pos
    by_cases c : f < s.length
    · exact List.mem_map.mpr ⟨f, List.mem_range.mpr c, rfl⟩
    · have : m = 0 := by omega
      subst this
      exact List.mem_map.mpr ⟨0, List.mem_range.mpr hp, winAt_zero⟩
end VP

set_option Elab.async false
set_option linter.all false
set_option maxRecDepth 100000
set_option maxHeartbeats 4000000
/-! Law k58. -/
namespace VP
open PySem L2
-- steps of the evaluator, as local words: mstop (slots), infer_instance (what is asked beside), mexfalso (calls), massumption (data), mframe (one step)
local macro_rules | `(tactic| mstop) => `(tactic| first | (simp only [startE, List.replicate_succ, List.replicate_zero, Nat.reduceAdd, Nat.reduceSub, List.length_cons, List.length_nil, List.set_cons_zero, List.set_cons_succ, blank, restore, putH, List.map_cons, List.map_nil, List.cons_append, List.nil_append, Sv.h, Option.getD_some, List.getElem?_cons_zero, List.getElem?_cons_succ, putBack, ownLocs, own_lt, own_lf, own_tup, own_int, own_bl, own_str, own_non, own_fn, own_pr, own_tnD, Bool.false_eq_true, if_true, if_false, Bool.not_true, Bool.not_false, Bool.and_true, Bool.true_and, Bool.or_false, Bool.false_or, Bool.or_true, Bool.true_or, Bool.and_false, Bool.false_and, ite_true, ite_false, reduceIte]; done) | (simp only [startE, List.replicate_succ, List.replicate_zero, Nat.reduceAdd, Nat.reduceSub, List.length_cons, List.length_nil, List.set_cons_zero, List.set_cons_succ, blank, restore, putH, List.map_cons, List.map_nil, List.cons_append, List.nil_append, Sv.h, Option.getD_some, List.getElem?_cons_zero, List.getElem?_cons_succ, putBack, ownLocs, own_lt, own_lf, own_tup, own_int, own_bl, own_str, own_non, own_fn, own_pr, own_tnD, Bool.false_eq_true, if_true, if_false, Bool.not_true, Bool.not_false, Bool.and_true, Bool.true_and, Bool.or_false, Bool.false_or, Bool.or_true, Bool.true_or, Bool.and_false, Bool.false_and, ite_true, ite_false, reduceIte]; exact rfl) | exact rfl)
local macro_rules | `(tactic| mexfalso) => `(tactic| fail)
local macro_rules | `(tactic| massumption) => `(tactic| first
  | exact b_add | exact b_sub | exact b_mul (mok_l (by omega) (by omega)) | exact b_mul (mok_r (by omega) (by omega)) | apply b_mul | apply b_fdiv | apply b_mod | exact b_pow (by decide) | apply b_addT | apply b_addL | apply b_addTd | apply b_addLd | apply b_repL | apply b_repT
  | exact c_eq | exact c_ne | exact c_eqb | exact c_eqS | exact c_neS | exact c_neb | exact c_isInt | exact c_isBl | exact c_isStr | exact c_isTup | exact c_isLst | exact c_isNon | exact c_isnInt | exact c_isnBl | exact c_isnStr | exact c_isnTup | exact c_isnLst | exact c_isnNon | exact c_lt | exact c_le | exact c_gt | exact c_ge | exact c_eqT0 (by decide) | exact c_eqT (by decide) | exact c_neT (by decide) | exact c_eqL (by decide) | exact c_neL (by decide)
  | exact c_innT rfl (by decide) | exact c_innL rfl (by decide) | exact c_ninT rfl (by decide) | exact c_ninL rfl (by decide)
  | apply ix_map | apply ix_mapL | exact Ixd.mk rfl | exact s_tup | exact s_lst | exact r_tup | exact r_lst
  | exact g_lenT | exact g_lenL | exact g_tupL | exact g_tupT | exact g_lstL | exact g_lstT | exact g_int | exact g_intb | exact g_abs | exact g_all | exact g_any | exact g_sumL0 | exact g_sumT0 | exact g_sum | exact g_sumT | apply g_maxT0 | apply g_maxL0 | apply g_minT0 | apply g_minL0 | apply g_maxT | apply g_maxL | apply g_minT | apply g_minL | exact g_max2 | exact g_min2 | exact g_sortI0 | exact g_sortI
  | exact g_inst (b := true) rfl | exact g_inst (b := false) rfl | exact g_inst2 (b := true) (b' := true) rfl rfl | exact g_inst2 (b := true) (b' := false) rfl rfl | exact g_inst2 (b := false) (b' := true) rfl rfl | exact g_inst2 (b := false) (b' := false) rfl rfl
  | exact m_countT rfl (by decide) | exact m_countL rfl (by decide) | apply m_idxL rfl (by decide) | apply q_rng1 | apply x_listR | apply x_ssetL | apply x_ssetT | apply q_rng2
  | exact it_tup | exact it_lst | exact td_bl | exact td_int | exact td_tup | exact td_lst | exact td_tupd | exact td_lstd | exact mt_cT | exact mt_cL | exact mt_iL | exact zip_map | exact enm_map | exact im_map | exact im_lst)
local macro_rules | `(tactic| mframe) => `(tactic| first
  | exact xe_int | exact xe_bl | exact xe_str | exact xe_non | exact xe_ty | apply xe_var | exact xs_nil | apply xs_cons
  | apply xe_bin | apply xe_cmp | apply xe_chn | apply xe_ix | apply xe_bi | apply xe_callO | apply xe_me | apply xe_andr
  | apply xe_if | apply xe_tup | apply xe_lst | apply xe_slc | apply xe_rev | apply xe_bix | apply xe_nt | apply xe_neg | apply xe_mut
  | apply xe_drawsV | apply xe_drawsI | apply xe_compm | apply xe_compf
  | exact rs_tmp | apply rs_loc | apply rs_ite | exact rsl_nil | apply rsl_cons | exact va_tmp | exact va_loc ⟨rfl⟩ rfl | apply va_locF | apply va_ite | exact fr_no rfl | exact fr_lst | exact val_nil | apply val_cons | exact vao_nil | apply vao_cons
  | exact fac_int0 | exact fac_int | exact fac_tz0 | exact fac_tz | exact fac_lz0 | exact fac_lz | exact fac_any
  | (apply wp_dead; (try simp only [Bool.and_eq_true, Bool.or_eq_true, Bool.not_eq_true', Bool.and_eq_false_iff, Bool.or_eq_false_iff, Bool.not_eq_false', decide_eq_true_eq, decide_eq_false_iff_not] at *); omega)
  | exact mrg_same | exact mrg_t | exact mrg_f | exact mrg_int | exact mrg_bl | exact mrg_str | exact mrg_tup | exact mrg_lst | exact mrg_any
  | apply br_t | apply br_f | apply br_k | exact or_t | apply or_f | apply or_k | exact and_f | apply and_t | apply and_k | exact ande_f | apply ande_t | apply ande_k
  | apply xt_nt | apply xt_andr | apply xt_orr | apply xt_tr
  | exact xp_nil | apply xp_pt | apply xc_hold | apply xc_sr | apply xi_hold | apply xi_sr | apply xi_rng | apply xi_zip | apply xi_enm
  | apply em | apply ef | apply ef2
  | apply wp_asg | apply wp_par | apply wp_setI | apply wp_ifk | apply wp_ret | apply wp_exp | apply wp_pas | apply wp_aug | apply wp_nil
  | apply bw_t | apply bw_f0 | apply bw_f | apply bw_k | apply pq_nx | apply pq_rt | apply lq_nx | apply lq_rt | apply tq_nx | apply tq_rt | apply tq_er | (apply rtq; try rfl) | apply oq_rt | apply rqx | apply oqx_rt | exact Otl.mk rfl
  | exact mv_tmp | exact mv_locN ⟨Nat.le_of_ble_eq_true rfl⟩ ⟨rfl⟩ ⟨by mstop⟩ | exact mv_par ⟨Nat.le_of_ble_eq_true rfl⟩ (va_loc ⟨rfl⟩ rfl) | (apply mv_par ⟨Nat.le_of_ble_eq_true rfl⟩; apply va_locF) | apply mv_iteN
  | apply asg_nm | apply asg_tp | apply asg_pr | exact asgL_nil | apply asgL_cons
  | exact Sl.mk rfl | exact Ixn.mk rfl | (apply Nm.mk; mstop) | (apply Nb.mk; mstop) | exact Bl.mk rfl | exact Ln.mk rfl | exact Nd.mk List.nodup_nil | exact Nd.mk (List.nodup_singleton _) | (apply Nd.mk; simp only [ownLocs, own_lt, own_lf, own_tup, own_int, own_bl, own_str, own_non, own_fn, own_pr, own_tnD, Bool.false_eq_true, if_true, if_false]; decide) | (apply Le.mk; first | exact (rfl : (_ : D) = _) | omega | (show (_ : Prop); assumption)  | (simp only [LIM, List.length_cons, List.length_nil, List.length_map, List.length_range, List.length_zip, List.length_append, List.length_reverse, List.length_replicate, List.length_zipIdx]; omega))
  | massumption | (apply sem_guard; mexfalso)
  | exact Imp.mk ab1 | exact Imp.mk ab2 | (apply Imp.mk; intro _) | (apply Fa.mk; intro _ _) | (apply Fr1.mk; intro _) | exact (rfl : (_ : D) = _) | omega | (show (_ : Prop); assumption)  | (simp only [LIM, List.length_cons, List.length_nil, List.length_map, List.length_range, List.length_zip, List.length_append, List.length_reverse, List.length_replicate, List.length_zipIdx]; omega))
local macro_rules | `(tactic| mexfalso) => `(tactic| exact is_number_int)
local macro_rules | `(tactic| mexfalso) => `(tactic| exact is_from_int)
local macro_rules | `(tactic| mexfalso) => `(tactic| exact is_below_int)
local macro_rules | `(tactic| mexfalso) => `(tactic| exact tupled_int)
local macro_rules | `(tactic| mexfalso) => `(tactic| apply tupled_I)
local macro_rules | `(tactic| mexfalso) => `(tactic| exact is_string_O ‹_›)
local macro_rules | `(tactic| mexfalso) => `(tactic| exact sure_string_O ‹_›)
local macro_rules | `(tactic| mexfalso) => `(tactic| exact counts_in_O ‹_›)
local macro_rules | `(tactic| mexfalso) => `(tactic| exact is_number_int)
local macro_rules | `(tactic| mexfalso) => `(tactic| exact is_from_int)
local macro_rules | `(tactic| mexfalso) => `(tactic| exact is_below_int)
local macro_rules | `(tactic| mexfalso) => `(tactic| exact tupled_int)
local macro_rules | `(tactic| mexfalso) => `(tactic| apply tupled_I)
local macro_rules | `(tactic| mexfalso) => `(tactic| exact is_string_O ‹_›)
local macro_rules | `(tactic| mexfalso) => `(tactic| exact sure_string_O ‹_›)
local macro_rules | `(tactic| mexfalso) => `(tactic| exact counts_in_O ‹_›)
local macro_rules | `(tactic| mexfalso) => `(tactic| exact counts_O ‹_›)
local macro_rules | `(tactic| mexfalso) => `(tactic| exact turned_O ‹_›)
local macro_rules | `(tactic| mexfalso) => `(tactic| refine shifted_O ‹_› ?_ ?_)
local macro_rules | `(tactic| mexfalso) => `(tactic| exact is_wants_of_O' ‹_›)
local macro_rules | `(tactic| mexfalso) => `(tactic| exact sure_wants_O ‹_›)
local macro_rules | `(tactic| mexfalso) => `(tactic| refine numbers_in_O ‹_› ?_ ?_)
local macro_rules | `(tactic| mexfalso) => `(tactic| refine windows_in_O ‹_› ?_ ?_)
local macro_rules | `(tactic| mexfalso) => `(tactic| refine windows_O ‹_› ?_ ?_)
local macro_rules | `(tactic| mexfalso) => `(tactic| refine ring_windows_O ‹_› ?_ ?_)
local macro_rules | `(tactic| mexfalso) => `(tactic| refine window_of_O ‹_› ?_)
local macro_rules | `(tactic| mexfalso) => `(tactic| refine window_O ‹_› ?_)
local macro_rules | `(tactic| mexfalso) => `(tactic| refine ring_window_O ‹_› ?_)
local macro_rules | `(tactic| mexfalso) => `(tactic| exact is_number_int)
local macro_rules | `(tactic| mexfalso) => `(tactic| exact is_from_int)
local macro_rules | `(tactic| mexfalso) => `(tactic| exact is_below_int)
local macro_rules | `(tactic| mexfalso) => `(tactic| exact tupled_int)
local macro_rules | `(tactic| mexfalso) => `(tactic| apply tupled_I)
local macro_rules | `(tactic| mexfalso) => `(tactic| exact is_string_O ‹_›)
local macro_rules | `(tactic| mexfalso) => `(tactic| exact sure_string_O ‹_›)
local macro_rules | `(tactic| mexfalso) => `(tactic| exact counts_in_O ‹_›)
local macro_rules | `(tactic| mexfalso) => `(tactic| refine closed_O ?_)
local macro_rules | `(tactic| mexfalso) => `(tactic| refine take_O ‹_› ?_ ?_)
local macro_rules | `(tactic| mexfalso) => `(tactic| exact is_number_int)
local macro_rules | `(tactic| mexfalso) => `(tactic| exact is_from_int)
local macro_rules | `(tactic| mexfalso) => `(tactic| exact is_below_int)
local macro_rules | `(tactic| mexfalso) => `(tactic| exact tupled_int)
local macro_rules | `(tactic| mexfalso) => `(tactic| apply tupled_I)
local macro_rules | `(tactic| mexfalso) => `(tactic| exact is_string_O ‹_›)
local macro_rules | `(tactic| mexfalso) => `(tactic| exact sure_string_O ‹_›)
local macro_rules | `(tactic| mexfalso) => `(tactic| exact counts_in_O ‹_›)
local macro_rules | `(tactic| mexfalso) => `(tactic| refine closed_O ?_)
local macro_rules | `(tactic| mexfalso) => `(tactic| refine take_O ‹_› ?_ ?_)
local macro_rules | `(tactic| mexfalso) => `(tactic| refine string_O ‹_› ?_ ?_ ?_)
local macro_rules | `(tactic| mexfalso) => `(tactic| refine law_of_O ‹_› ?_ ?_ ?_)
local macro_rules | `(tactic| mexfalso) => `(tactic| refine same_L' (k := 3) ?_ ?_)
def c_law58 : Df := ⟨["script", "tin", "lap", "string_so", "sums_so", "k", "got", "own", "size_so", "many_so", "flat_so", "round_so", "near", "far"], 1, [], [(.asg (.nm 1) (.call "_law_box" [(.call "_law_cells" [(.var 0), (.int (1))]), (.int (0))])), (.for_ (.nm 2) (.rng [(.int (6))]) [(.asg (.nm 3) (.call "_law_string" [(.var 1), (.int (14)), (.int (3))])), (.par [(.nm 8), (.nm 9)] [(.bi .len [(.var 3)]), (.call "_law_take" [(.var 1), (.bin .add (.bi .len [(.var 3)]) (.int (1)))])]), (.par [(.nm 10), (.nm 11)] [(.call "windows" [(.var 3), (.var 9)]), (.call "ring_windows" [(.var 3), (.var 9)])]), (.asg (.nm 4) (.comp (.bi .sum [(.comp (.ix (.var 7) (.var 5)) (.nm 7) (.hold 11) (.tr (.bl true)) [("own", 7)])]) (.nm 5) (.rng [(.bin .add (.bi .max1 [(.var 3)]) (.int (1)))]) (.tr (.bl true)) [("k", 5)])), (.ifs (.nt (.tr (.call "_law_same" [(.lst [(.var 4), (.slc (.var 10) .nil (.pt (.var 8))), (.comp (.bi .sum [(.var 7)]) (.nm 7) (.hold 11) (.tr (.bl true)) [("own", 7)])]), (.lst [(.comp (.bin .mul (.var 9) (.var 7)) (.nm 7) (.sr (.call "counts" [(.var 3)])) (.tr (.bl true)) [("own", 7)]), (.slc (.var 11) .nil (.pt (.bi .len [(.var 10)]))), (.bin .mul (.lst [(.var 9)]) (.var 8))])]))) [(.ret (.bl false))] []), (.for_ (.nm 5) (.rng [(.var 8)]) [(.par [(.nm 12), (.nm 13)] [(.bi .list [(.ix (.var 11) (.var 5))]), (.bi .list [(.ix (.var 11) (.bin .mod (.bi .int [(.bin .add (.var 5) (.int (1)))]) (.var 8)))])]), (.setI 12 (.ix (.var 3) (.var 5)) (.bin .sub (.ix (.var 12) (.ix (.var 3) (.var 5))) (.int (1)))), (.setI 12 (.ix (.var 3) (.bin .mod (.bi .int [(.bin .add (.var 5) (.var 9))]) (.var 8))) (.bin .add (.ix (.var 12) (.ix (.var 3) (.bin .mod (.bi .int [(.bin .add (.var 5) (.var 9))]) (.var 8)))) (.int (1)))), (.ifs (.and (.tr (.cmp .gt (.var 9) (.int (0)))) (.tr (.cmp .ne (.var 12) (.var 13)))) [(.ret (.bl false))] [])]), (.asg (.nm 5) (.call "_law_take" [(.var 1), (.var 8)])), (.asg (.nm 6) (.lst [(.call "ring_windows" [(.call "shifted" [(.var 3), (.var 5)]), (.var 9)]), (.call "windows" [(.call "turned" [(.var 3)]), (.var 9)])])), (.ifs (.nt (.tr (.call "_law_same" [(.var 6), (.lst [(.bin .add (.slc (.var 11) (.pt (.var 5)) .nil) (.slc (.var 11) .nil (.pt (.var 5)))), (.rev (.var 10))])]))) [(.ret (.bl false))] []), (.asg (.nm 7) (.call "_law_of" [(.var 1), (.var 10)])), (.ifs (.nt (.tr (.call "_law_same" [(.lst [(.call "window" [(.var 3), (.var 7)]), (.call "ring_window" [(.var 3), (.var 7)])]), (.lst [(.me .index (.var 10) [(.var 7)]), (.me .index (.var 11) [(.var 7)])])]))) [(.ret (.bl false))] [])]), (.ret (.bl true))]⟩
theorem ixn_ok {n : Nat} {j : Int} (h : 0 ≤ j ∧ j < n) : Ixn n j j.toNat := ⟨by simp [L2.ixN, h.1, h.2]⟩
theorem wp_setIm {T : Tb} {n np : Nat} {ρ ρ1 ρ2 ρ3 ρa : Ev} {x y : E} {ss : List Sm} {Q : Fo → Prop} {i : Nat} {o o2 : Opd} {d d' dy : D} {α : Type} {f : α → D} {as : List α} {a : α} {j : Int} (h : Xe T n x ρ o ρ1) (h2 : Va o ρ1 d ρ2) (hf : Fr d d') (h3 : Xe T n y ρ2 o2 ρ3) (r : Rs ρ3 o2 (.int j)) (h4 : Sl ρ3 i (.lst true (as.map f))) (h0 : Sl ρ2 i dy) (e : Fr d' (f a)) (h5 : 0 ≤ j ∧ j < as.length) (h6 : Nm (ρ3.set i (some (.lst true ((as.set j.toNat a).map f)))) ρa) (h7 : Wp T n np ss ρa Q) : Wp T n np (.setI i y x :: ss) ρ Q := by
  refine wp_setI (d' := f a) (m := j.toNat) h h2 ⟨?_⟩ h3 r h4 h0 ?_ ?_ h7
  · rw [hf.h.symm] at e
    have := e.h
    rwa [frz_eq frz_not] at this
  · exact ⟨by have := (ixn_ok (n := as.length) h5).h; simpa using this⟩
  · rw [← List.map_set]; exact h6
theorem at_map {α β : Type} [Inhabited α] [Inhabited β] {g : α → β} {xs : List α} {i : Int} (h : 0 ≤ i ∧ i < xs.length) : at' (xs.map g) i = g (at' xs i) := by
  have h1 := atI_at (xs := xs) (i := i) (by omega) h.2
  have h2 := atI_at (xs := xs.map g) (i := i) (by simp; omega) (by simp; exact h.2)
  simp only [L2.atI, List.length_map, ixN_ok (i := i) (n := xs.length) (by omega) h.2, Option.bind_some, List.getElem?_map] at h1 h2
  rw [h1] at h2
  simpa using h2.symm
theorem at_iot {j i : Int} (h : 0 ≤ i ∧ i < j) : at' (iot j) i = i := by
  have h2 := atI_at (xs := iot j) (i := i) (by rw [iot_len]; omega) (by rw [iot_len]; omega)
  simp only [L2.atI, ixN_ok (i := i) (n := (iot j).length) (by rw [iot_len]; omega) (by rw [iot_len]; omega), Option.bind_some, if_pos h.1] at h2
  simp only [iot, List.getElem?_map] at h2
  rw [List.getElem?_range (by omega)] at h2
  simp at h2
  rw [show iot j = (List.range j.toNat).map fun k : Nat => (k : Int) from rfl, ← h2]; omega
theorem row_at {s : List Int} {m i : Int} (h : 0 ≤ i ∧ i < s.length) : at' (wins s m true) i = winAt s m i := by
  simp only [wins, if_true]
  rw [at_map (by rw [iot_len]; omega), at_iot h]
theorem bead_at {s : List Int} (h : Okk s) {i : Int} (hi : 0 ≤ i ∧ i < s.length) : 0 ≤ at' s i ∧ at' s i < (kinds s : Int) := h.lt _ (at_mem (by omega) hi.2)
def DOk (d : D) : Prop := cln 3 d = true ∧ szOk d = true
theorem ok_int {i : Int} : DOk (.int i) := ⟨by simp [cln], by simp [szOk]⟩
theorem cln_int {k : Nat} {i : Int} : cln k (.int i) = true := by cases k <;> simp [cln]
theorem ok_ints {xs : List Int} (h : xs.length ≤ 1000) : DOk (.lst false (xs.map .int)) := by
  refine ⟨?_, ?_⟩
  · simp only [cln]; exact clnL_map (m := 0) (fun a => cln_int) (by omega) xs
  · simp only [szOk, Bool.and_eq_true, decide_eq_true_eq, List.length_map]
    exact ⟨by simp only [LIM]; omega, szL_map xs fun a _ => by simp [szOk]⟩
theorem ok_rows {xs : List (List Int)} (h : xs.length ≤ 1000) (h2 : ∀ r ∈ xs, r.length ≤ 1000) : DOk (.lst false (xs.map tZ)) := by
  refine ⟨?_, ?_⟩
  · simp only [cln]; exact clnL_map (m := 1) (fun a => by simp only [cln]; exact clnL_map (m := 0) (fun a => cln_int) (by omega) a) (by omega) xs
  · simp only [szOk, Bool.and_eq_true, decide_eq_true_eq, List.length_map]
    exact ⟨by simp only [LIM]; omega, szL_map xs fun a ha => by
      simp only [szOk, Bool.and_eq_true, decide_eq_true_eq, List.length_map]
      exact ⟨by have := h2 a ha; simp only [LIM]; omega, szL_map a fun a _ => by simp [szOk]⟩⟩
theorem ok_2 {x y : D} (h1 : DOk x) (h2 : DOk y) : Later (clnL 3 [x, y] = true ∧ szOkL [x, y] = true ∧ [x, y].length ≤ LIM) := ⟨by
  simp [clnL, szOkL, h1.1, h1.2, h2.1, h2.2, LIM]⟩
theorem ok_3 {x y z : D} (h1 : DOk x) (h2 : DOk y) (h3 : DOk z) : Later (clnL 3 [x, y, z] = true ∧ szOkL [x, y, z] = true ∧ [x, y, z].length ≤ LIM) := ⟨by
  simp [clnL, szOkL, h1.1, h1.2, h2.1, h2.2, h3.1, h3.2, LIM]⟩
theorem row_le {s : List Int} (h : Okk s) {m : Int} {b : Bool} : ∀ r ∈ wins s m b, r.length ≤ 1000 := by
  intro r hr
  simp only [wins, List.mem_map] at hr
  obtain ⟨f, _, rfl⟩ := hr
  rw [winAt_len']; exact kinds_le h
theorem cut_mem {α : Type} {xs : List α} {a b : Option Int} {x : α} (h : x ∈ cutA xs a b) : x ∈ xs := List.mem_of_mem_drop (List.mem_of_mem_take h)
section
variable {T : Tb} {n : Nat}
theorem law58 {C : Int} [D__law_box T C] [D__law_cells T] [D__law_string T] [D_windows T] [D_ring_windows T] [D_window T] [D_ring_window T] [D_counts T] [D_shifted T] [D_turned T] [D__law_same T] [D__law_of T] (hC : 0 ≤ C ∧ C < 100000000) (hd : T.df "law" = some c_law58) {xs : List Int} (hl : xs.length ≤ 63) :
    Sem T (n + 20) "law" [.lst false (xs.map .int)] (.bl true) [.lst false (xs.map .int)] := by
  obtain ⟨d, ⟨c, rfl⟩, hc⟩ := cells_O (T := T) (n := n + 18) hl
  obtain ⟨d, ⟨t, ht, rfl⟩, hb⟩ := box_O (T := T) (n := n + 18) (c := c) (o := true) hC
  refine sem_pure hd rfl rfl rfl ⟨by mstop⟩ ?_
  apply wp_asg
  · repeat' mframe
  · repeat' mframe
  · repeat' mframe
  apply wp_forI
  · repeat' mframe
  · repeat' mframe
  refine lp_I (fun r ρ => ∃ (t : Tn) (N : Nat) (x2 x3 x4 x5 x6 x7 x8 x9 xa xb xc xd : Option D), Tok N t ∧ N + 1000 * r.length ≤ 6000 ∧ ρ = [some (.lst false (xs.map .int)), some (tnD t), x2, x3, x4, x5, x6, x7, x8, x9, xa, xb, xc, xd]) _ ⟨t, 0, none, none, none, none, none, none, none, none, none, none, none, none, ht, by simp, rfl⟩ ?_ ?_
  · rintro lap r _ hs ⟨t, N, x2, x3, x4, x5, x6, x7, x8, x9, xa, xb, xc, xd, ht, hN, rfl⟩
    refine ⟨[some (.lst false (xs.map .int)), some (tnD t), some (.int lap), x3, x4, x5, x6, x7, x8, x9, xa, xb, xc, xd], by repeat' mframe, ?_⟩
    have hN0 : N ≤ 6000 := by omega
    have hs0 := lstr_ok (m := 14) (k := 3) (t := t) (by omega)
    have hl0 := lstr_len (m := 14) (k := 3) (t := t)
    have hr0 := drw_rng (t := t) (w := 14) (by omega)
    have ht1 := lstr_tok (m := 14) (k := 3) ht (by omega)
    apply wp_asg
    · repeat' mframe
    · repeat' mframe
    · repeat' mframe
    generalize lstr 14 3 t = s at hs0 hl0 ⊢
    generalize lstrN 14 3 t = t1 at ht1 ⊢
    have hn1 : 1 ≤ s.length ∧ s.length ≤ 14 := by omega
    have hm := drw_rng (t := t1) (w := (s.length : Int) + 1) (by omega)
    have ht2 := ht1.nxt (w := (s.length : Int) + 1)
    apply wp_par
    · repeat' mframe
    · repeat' mframe
    · repeat' mframe
    generalize drw t1 ((s.length : Int) + 1) = m at hm ⊢
    generalize nxt t1 ((s.length : Int) + 1) = t2 at ht2 ⊢
    clear ht1 hl0 ht hr0 hc hb
    have hne := hs0.ne
    have hx0 := hs0.mx0
    have hx1 := hs0.mx
    have hcl : (cntK (kinds s) s).length ≤ 1000 := by rw [cntK_len]; exact kinds_le hs0
    have hw1 : (wins s m true).length ≤ 1000 := by simp only [wins, List.length_map, iot_len, if_true]; omega
    have hw2 : (wins s m false).length ≤ 1000 := by simp only [wins, List.length_map, iot_len, if_false, Bool.false_eq_true]; omega
    have hkd : ∀ f ∈ iot (s.length : Int), ∀ k : Nat, k < (mxI s + 1).toNat → -((winAt s m f).length : Int) ≤ (k : Int) ∧ (k : Int) < (winAt s m f).length := by
      intro f _ k hk
      simp only [winAt, cntK_len, kinds]; omega
    apply wp_par
    · repeat' mframe
    · repeat' mframe
    · repeat' mframe
    apply wp_asg
    · repeat' mframe
      · rename_i k hk row hrow
        simp only [List.mem_range] at hk
        simp only [wins, if_true, List.mem_map] at hrow
        obtain ⟨f, hf, rfl⟩ := hrow
        exact hkd f hf k hk
    · repeat' mframe
    · repeat' mframe
    apply wp_ifk
    · repeat' mframe
      · refine ⟨?_⟩
        have e1 := fact_sums hs0 hm.1
        have e2 := fact_cut (s := s) (m := m) (by omega)
        have e3 := fact_row hs0 hm.1
        simp only [sumsV] at e1
        rw [e1, e2, e3, Int.toNat_natCast]
      · refine ok_3 (ok_ints ?_) (ok_rows ?_ fun r hr => row_le hs0 r (cut_mem hr)) (ok_ints ?_)
        · rw [List.length_map, List.length_range]; omega
        · exact Nat.le_trans cutA_le hw2
        · rw [List.length_map]; exact hw1
    · repeat' mframe
    apply bw_f0
    apply wp_forI
    · repeat' mframe
    · repeat' mframe
    simp only [Int.toNat_natCast]
    refine lp_I (fun r ρ => ∃ (x5 xc xd : Option D), ρ = [some (.lst false (xs.map .int)), some (tnD t2), some (.int (lap : Int)), some (tZ s), some (.lst false ((sumsV s m).map .int)), x5, x6, x7, some (.int (s.length : Int)), some (.int m), some (.lst true ((wins s m false).map tZ)), some (.lst true ((wins s m true).map tZ)), xc, xd]) _ ⟨x5, xc, xd, rfl⟩ ?_ ?_
    · rintro k r' _ hs' ⟨x5, xc, xd, rfl⟩
      have hk : k < s.length := List.mem_range.mp (hs'.subset List.mem_cons_self)
      refine ⟨[some (.lst false (xs.map .int)), some (tnD t2), some (.int (lap : Int)), some (tZ s), some (.lst false ((sumsV s m).map .int)), some (.int (k : Int)), x6, x7, some (.int (s.length : Int)), some (.int m), some (.lst true ((wins s m false).map tZ)), some (.lst true ((wins s m true).map tZ)), xc, xd], by repeat' mframe, ?_⟩
      have hkk : (0 : Int) ≤ (k : Int) ∧ (k : Int) < (wins s m true).length := by simp only [wins, List.length_map, iot_len, if_true]; omega
      have hk2 : 0 ≤ ((k : Int) + 1) % (s.length : Int) ∧ ((k : Int) + 1) % (s.length : Int) < (wins s m true).length := by
        have h1 := Int.emod_nonneg ((k : Int) + 1) (b := (s.length : Int)) (by omega)
        have h2 := Int.emod_lt_of_pos ((k : Int) + 1) (b := (s.length : Int)) (by omega)
        simp only [wins, List.length_map, iot_len, if_true]; omega
      apply wp_par
      · repeat' mframe
        all_goals trace_state
      · repeat' mframe
      · repeat' mframe
      have hkm : 0 ≤ ((k : Int) + m) % (s.length : Int) ∧ ((k : Int) + m) % (s.length : Int) < s.length := ⟨Int.emod_nonneg _ (by omega), Int.emod_lt_of_pos _ (by omega)⟩
      have hk1 : 0 ≤ ((k : Int) + 1) % (s.length : Int) ∧ ((k : Int) + 1) % (s.length : Int) < s.length := ⟨Int.emod_nonneg _ (by omega), Int.emod_lt_of_pos _ (by omega)⟩
      have hb1 := bead_at hs0 (i := (k : Int)) (by omega)
      have hb2 := bead_at hs0 hkm
      have hstep := fun h => win_step (m := m) (k := (k : Int)) hs0 h (by omega) (by omega) hb1 hb2
      rw [row_at (m := m) (i := (k : Int)) (by omega), row_at hk1]
      have hwl := winAt_len' (s := s) (m := m) (f := (k : Int))
      generalize winAt s m (k : Int) = R at hwl hstep ⊢
      generalize winAt s m (((k : Int) + 1) % (s.length : Int)) = R' at hstep ⊢
      have hi0 : -(s.length : Int) ≤ (k : Int) ∧ (k : Int) < s.length := by omega
      have hi1 : -(s.length : Int) ≤ ((k : Int) + m) % (s.length : Int) ∧ ((k : Int) + m) % (s.length : Int) < s.length := by omega
      generalize ea : at' s (k : Int) = a1 at hb1 hstep
      generalize eb : at' s (((k : Int) + m) % (s.length : Int)) = a2 at hb2 hstep
      have hj1 : -(R.length : Int) ≤ a1 ∧ a1 < R.length := by omega
      apply wp_setIm
      · repeat' mframe
        all_goals first | omega | (rw [ea]; exact hj1)
      · repeat' mframe
      · repeat' mframe
      · repeat' mframe
      · repeat' mframe
      · repeat' mframe
      · repeat' mframe
      · repeat' mframe
      · rw [ea]; omega
      · repeat' mframe
      rw [ea]
      generalize at' R a1 - 1 = v1 at hstep ⊢
      have hwl1 : (R.set a1.toNat v1).length = kinds s := by simpa using hwl
      generalize R.set a1.toNat v1 = R1 at hwl1 hstep ⊢
      have hj2 : -(R1.length : Int) ≤ a2 ∧ a2 < R1.length := by omega
      apply wp_setIm
      · repeat' mframe
        all_goals first | omega | (rw [eb]; exact hj2)
      · repeat' mframe
      · repeat' mframe
      · repeat' mframe
        all_goals first | omega | (rw [eb]; exact hj2)
      · repeat' mframe
      · repeat' mframe
      · repeat' mframe
      · repeat' mframe
      · rw [eb]; omega
      · repeat' mframe
      rw [eb]
      apply wp_ifk
      · repeat' mframe
      · repeat' mframe
      apply bw_k
      · apply Imp.mk
        intro hh
        exfalso
        simp only [Bool.and_eq_true, decide_eq_true_eq, Bool.not_eq_true', decide_eq_false_iff_not] at hh
        exact hh.2 (hstep hh.1)
      · apply Imp.mk
        intro _
        exact wp_nil (tq_nx (wp_nil (lq_nx ⟨_, _, _, rfl⟩)))
    · rintro _ ⟨x5, xc, xd, rfl⟩
      apply pq_nx
      · repeat' mframe
      apply tq_nx
      have hd1 := drw_rng (t := t2) (w := (s.length : Int)) (by omega)
      have ht3 := ht2.nxt (w := (s.length : Int))
      apply wp_asg
      · repeat' mframe
      · repeat' mframe
      · repeat' mframe
      generalize drw t2 (s.length : Int) = k at hd1 ⊢
      generalize nxt t2 (s.length : Int) = t3 at ht3 ⊢
      clear ht2
      have hsh := (shift_ok hs0 hd1).1
      have hrv := (rev_ok hs0).1
      have hshl : (cutA s (some k) none ++ cutA s none (some k)).length = s.length := shift_len hd1
      have hrvl : s.reverse.length = s.length := List.length_reverse
      apply wp_asg
      · repeat' mframe
      · repeat' mframe
      · repeat' mframe
      apply wp_ifk
      · repeat' mframe
        · have h5 := cutA_le (xs := wins s m true) (lo := some k) (hi := none)
          have h6 := cutA_le (xs := wins s m true) (lo := none) (hi := some k)
          simp only [LIM]; omega
        · exact ⟨by rw [fact_rot hs0 hd1, fact_rev hs0 (by omega)]⟩
        · refine ok_2 (ok_rows ?_ fun r hr => row_le hsh r hr) (ok_rows ?_ fun r hr => row_le hrv r hr)
          · simp only [wins, List.length_map, iot_len, if_true]; omega
          · simp only [wins, List.length_map, iot_len, if_false, Bool.false_eq_true]; omega
      · repeat' mframe
      apply bw_f0
      have hd2 := drw_rng (t := t3) (w := ((wins s m false).length : Int)) (by simp only [wins, List.length_map, iot_len, if_false, Bool.false_eq_true]; omega)
      have ht4 := ht3.nxt (w := ((wins s m false).length : Int))
      have hwne : wins s m false ≠ [] := fun z => by have := congrArg List.length z; simp only [wins, List.length_map, iot_len, if_false, Bool.false_eq_true, List.length_nil] at this; omega
      apply wp_asg
      · repeat' mframe
      · repeat' mframe
      · repeat' mframe
      obtain ⟨hw, hwm, hwf, hwt⟩ := own_ok hs0 (m := m) (by omega) (at_mem (xs := wins s m false) (by omega) hd2.2)
      generalize at' (wins s m false) (drw t3 ((wins s m false).length : Int)) = w at hw hwm hwf hwt ⊢
      apply wp_ifk
      · repeat' mframe
        · rw [hwm]; exact hwf
        · rw [hwm]; exact hwt
        · exact ⟨by rw [hwm]⟩
        · exact ok_2 ok_int ok_int
      · repeat' mframe
      apply bw_f0
      exact wp_nil (lq_nx ⟨_, _, _, _, _, _, _, _, _, _, _, _, _, _, ht4.weak (M := N + 1000) (by omega), by simp only [List.length_cons] at hN; omega, rfl⟩)
  · rintro _ ⟨t, N, x2, x3, x4, x5, x6, x7, x8, x9, xa, xb, xc, xd, ht, hN, rfl⟩
    repeat' mframe
end
end VP

set_option maxRecDepth 100000
set_option maxHeartbeats 0
namespace K58
open PySem PySem.Spec PyProof.Rows L2 VP
abbrev rw := PySem.Challenge.rw_beadsalike_k58_across_stretches_one_behi
def top (i : Nat) : Stmt := PySem.Challenge.pw_beadsalike_k58_across_stretches_one_behi.main.body.getD i (.Pass ⟨0, 0, 0, 0⟩)
def d0 : Dd := ⟨"is_number", ["thing"], ["thing"], [], [], top 5⟩
theorem b0 : BindF d0 := fun _ _ _ _ _ _ us hu => match us, hu with
  | [_], _ => rfl
def d1 : Dd := ⟨"is_from", ["thing", "least"], ["thing", "least"], [], [], top 6⟩
theorem b1 : BindF d1 := fun _ _ _ _ _ _ us hu => match us, hu with
  | [_, _], _ => rfl
def d2 : Dd := ⟨"is_below", ["thing", "many"], ["thing", "many"], [], [], top 7⟩
theorem b2 : BindF d2 := fun _ _ _ _ _ _ us hu => match us, hu with
  | [_, _], _ => rfl
def d3 : Dd := ⟨"tupled", ["value"], ["value", "own"], [], [(19, 41)], top 8⟩
theorem b3 : BindF d3 := fun _ _ _ _ _ _ us hu => match us, hu with
  | [_], _ => rfl
def d4 : Dd := ⟨"is_string", ["thing"], ["thing", "kind", "own"], [], [(22, 91)], top 10⟩
theorem b4 : BindF d4 := fun _ _ _ _ _ _ us hu => match us, hu with
  | [_], _ => rfl
def d5 : Dd := ⟨"sure_string", ["string"], ["string", "own"], [], [], top 11⟩
theorem b5 : BindF d5 := fun _ _ _ _ _ _ us hu => match us, hu with
  | [_], _ => rfl
def d6 : Dd := ⟨"counts_in", ["string"], ["string", "kind"], [], [], top 12⟩
theorem b6 : BindF d6 := fun _ _ _ _ _ _ us hu => match us, hu with
  | [_], _ => rfl
def d7 : Dd := ⟨"numbers_in", ["string", "beads"], ["string", "beads", "kinds", "bead", "kind"], [], [(33, 38)], top 13⟩
theorem b7 : BindF d7 := fun _ _ _ _ _ _ us hu => match us, hu with
  | [_, _], _ => rfl
def d8 : Dd := ⟨"is_wants_of", ["string", "thing"], ["string", "thing", "counts", "own", "most"], [], [(39, 69), (39, 76)], top 14⟩
theorem b8 : BindF d8 := fun _ _ _ _ _ _ us hu => match us, hu with
  | [_, _], _ => rfl
def d9 : Dd := ⟨"sure_wants", ["string", "wants"], ["string", "wants", "own"], [], [], top 15⟩
theorem b9 : BindF d9 := fun _ _ _ _ _ _ us hu => match us, hu with
  | [_, _], _ => rfl
def d10 : Dd := ⟨"counts", ["string"], ["string"], [], [], top 16⟩
theorem b10 : BindF d10 := fun _ _ _ _ _ _ us hu => match us, hu with
  | [_], _ => rfl
def d11 : Dd := ⟨"turned", ["string"], ["string"], [], [], top 17⟩
theorem b11 : BindF d11 := fun _ _ _ _ _ _ us hu => match us, hu with
  | [_], _ => rfl
def d12 : Dd := ⟨"shifted", ["string", "bead"], ["string", "bead", "own"], [], [], top 18⟩
theorem b12 : BindF d12 := fun _ _ _ _ _ _ us hu => match us, hu with
  | [_, _], _ => rfl
def d13 : Dd := ⟨"windows_in", ["string", "many", "goes_round"], ["string", "many", "goes_round", "size", "firsts", "first", "step"], [], [(60, 93)], top 20⟩
theorem b13 : BindF d13 := fun _ _ _ _ _ _ us hu => match us, hu with
  | [_, _, _], _ => rfl
def d14 : Dd := ⟨"window_of", ["string", "wants", "goes_round"], ["string", "wants", "goes_round", "rows"], [], [], top 21⟩
theorem b14 : BindF d14 := fun _ _ _ _ _ _ us hu => match us, hu with
  | [_, _, _], _ => rfl
def d15 : Dd := ⟨"window", ["string", "wants"], ["string", "wants", "own", "found"], [], [], top 22⟩
theorem b15 : BindF d15 := fun _ _ _ _ _ _ us hu => match us, hu with
  | [_, _], _ => rfl
def d16 : Dd := ⟨"ring_window", ["string", "wants"], ["string", "wants", "own", "found"], [], [], top 23⟩
theorem b16 : BindF d16 := fun _ _ _ _ _ _ us hu => match us, hu with
  | [_, _], _ => rfl
def d17 : Dd := ⟨"windows", ["string", "many"], ["string", "many", "own"], [], [], top 24⟩
theorem b17 : BindF d17 := fun _ _ _ _ _ _ us hu => match us, hu with
  | [_, _], _ => rfl
def d18 : Dd := ⟨"ring_windows", ["string", "many"], ["string", "many", "own"], [], [], top 25⟩
theorem b18 : BindF d18 := fun _ _ _ _ _ _ us hu => match us, hu with
  | [_, _], _ => rfl
def d19 : Dd := ⟨"_law_box", ["script", "k"], ["script", "k", "bit_so"], [], [], top 27⟩
theorem b19 : BindF d19 := fun _ _ _ _ _ _ us hu => match us, hu with
  | [_, _], _ => rfl
def d20 : Dd := ⟨"_law_take", ["tin", "below_so"], ["tin", "below_so", "once_so", "wide_so", "twice_so", "drawn_so"], [0], [], top 28⟩
theorem b20 : BindF d20 := fun _ _ _ _ _ _ us hu => match us, hu with
  | [_, _], _ => rfl
def d21 : Dd := ⟨"_law_cells", ["script", "most_so"], ["script", "most_so", "cells_so", "k", "bit_so", "at_so"], [], [], top 29⟩
theorem b21 : BindF d21 := fun _ _ _ _ _ _ us hu => match us, hu with
  | [_, _], _ => rfl
def d22 : Dd := ⟨"_law_of", ["tin", "goods_so"], ["tin", "goods_so"], [0], [], top 30⟩
theorem b22 : BindF d22 := fun _ _ _ _ _ _ us hu => match us, hu with
  | [_, _], _ => rfl
def d23 : Dd := ⟨"_law_same", ["got", "due"], ["got", "due", "mine", "its"], [], [(112, 87), (112, 92)], top 31⟩
theorem b23 : BindF d23 := fun _ _ _ _ _ _ us hu => match us, hu with
  | [_, _], _ => rfl
def d24 : Dd := ⟨"_law_string", ["tin", "most_so", "kinds_so"], ["tin", "most_so", "kinds_so", "many_so", "wide_so", "own"], [0], [], top 32⟩
theorem b24 : BindF d24 := fun _ _ _ _ _ _ us hu => match us, hu with
  | [_, _, _], _ => rfl
def d25 : Dd := ⟨"_law_closed", ["row_so"], ["row_so", "kinds_so", "own"], [], [(123, 49)], top 33⟩
theorem b25 : BindF d25 := fun _ _ _ _ _ _ us hu => match us, hu with
  | [_], _ => rfl
def d26 : Dd := ⟨"law", ["script"], ["script", "tin", "lap", "string_so", "sums_so", "k", "got", "own", "size_so", "many_so", "flat_so", "round_so", "near", "far"], [], [(130, 42), (131, 75)], top 34⟩
theorem b26 : BindF d26 := fun _ _ _ _ _ _ us hu => match us, hu with
  | [_], _ => rfl
def dds : List Dd := [d0, d1, d2, d3, d4, d5, d6, d7, d8, d9, d10, d11, d12, d13, d14, d15, d16, d17, d18, d19, d20, d21, d22, d23, d24, d25, d26]
theorem binds : ∀ d ∈ dds, BindF d := by
  intro d hd
  simp only [dds, List.mem_cons, List.not_mem_nil, or_false] at hd
  rcases hd with rfl | rfl | rfl | rfl | rfl | rfl | rfl | rfl | rfl | rfl | rfl | rfl | rfl | rfl | rfl | rfl | rfl | rfl | rfl | rfl | rfl | rfl | rfl | rfl | rfl | rfl | rfl
  · exact b0
  · exact b1
  · exact b2
  · exact b3
  · exact b4
  · exact b5
  · exact b6
  · exact b7
  · exact b8
  · exact b9
  · exact b10
  · exact b11
  · exact b12
  · exact b13
  · exact b14
  · exact b15
  · exact b16
  · exact b17
  · exact b18
  · exact b19
  · exact b20
  · exact b21
  · exact b22
  · exact b23
  · exact b24
  · exact b25
  · exact b26
theorem ok : dds.all (ddOk (dds.map (·.name))) = true := by kernel_rfl
def loose : List Str := (["__name__", "NoBead", "CanNot", "Unfit", "is_number", "is_from", "is_below", "tupled", "is_string", "sure_string", "counts_in", "numbers_in", "is_wants_of", "sure_wants", "counts", "turned", "shifted", "windows_in", "window_of", "window", "ring_window", "windows", "ring_windows", "_law_box", "_law_take", "_law_cells", "_law_of", "_law_same", "_law_string", "_law_closed"] : List Str)
abbrev R0 : PySem.W.OpenRow := PySem.W.OpenLaw.row rw
abbrev hk : PySem.W.Hook := He.hookX 4 (faOf dds) (fnOf dds) [] [] noList
def ob (s : PySem.W.SharedT) : He.AlX := He.obsX 4 (faOf dds) (fnOf dds) [] [] noList (HandSHeadRun.getT s)
theorem ob_eq (s : PySem.W.SharedT) : ob s = hk.obs s.abs := He.obsX_eq (HandSHeadRun.getT_eq s)
theorem run (w : World) : HandSHeadRun.RunEq R0 (PySem.W.view R0.prog [34]) hk ob 3000 loose w := by
  intro os
  kernel_rfl
abbrev T : Tb := tbOf dds [] 1000
theorem walk (k : Nat) (hr : Room k callerA) (plain : ∀ xs : List Int, xs.length ≤ 63 → ∃ d', sem T k "law" [.lst false (xs.map D.int)] = some (.ok (.bl true), [d'])) (q : Program) (XP : (Str → Option Value) → Heap → Prop) :
    PySem.W.WalkO q loose XP hk.says R0.toRowW (HandSHeadRun.topDef R0.prog 34) [] (fun f vs => PySem.call f vs) :=
  law_V (dl := d26) (fu := 1000) (n := 63) rfl (by decide) (by kernel_rfl) hr (by kernel_rfl) (by simp [dds]) (by kernel_rfl) rfl binds ok fun xs hl _ => plain xs hl
end K58
open PySem PySem.W PySem.Calls PyProof.Rows
theorem holds_of (k : Nat) (hr : L2.Room k callerA) (plain : ∀ xs : List Int, xs.length ≤ 63 → ∃ d', VP.sem K58.T k "law" [.lst false (xs.map VP.D.int)] = some (.ok (.bl true), [d'])) : PySem.Challenge.rw_beadsalike_k58_across_stretches_one_behi.Holds := by
  w_on; o_law
  refine HandSHeadRun.head_any (r := K58.R0) (q := view K58.R0.prog [34]) (H := K58.hk) (ob := K58.ob) (M := 3000) (loose := K58.loose) (d := HandSHeadRun.topDef K58.R0.prog 34) (kwd := []) K58.ob_eq
    (by kernel_rfl) (fun s => by kernel_rfl) K58.run (by kernel_rfl) (by kernel_rfl) (by kernel_rfl) (by rfl) (by first | assumption | decide +kernel) (by decide +kernel) ⟨rfl, rfl, rfl, rfl, rfl, by decide +kernel⟩ ?hw ?hc
  case hw => w_witness2
  case hc => exact K58.walk k hr plain _ _

namespace VP
instance : D_is_number K58.T := { df_is_number := by kernel_rfl }
instance : D_is_from K58.T := { df_is_from := by kernel_rfl }
instance : D_is_below K58.T := { df_is_below := by kernel_rfl }
instance : D_tupled K58.T := { df_tupled := by kernel_rfl }
instance : D_is_string K58.T := { df_is_string := by kernel_rfl }
instance : D_sure_string K58.T := { df_sure_string := by kernel_rfl }
instance : D_counts_in K58.T := { df_counts_in := by kernel_rfl }
instance : D_numbers_in K58.T := { df_numbers_in := by kernel_rfl }
instance : D_is_wants_of K58.T := { df_is_wants_of := by kernel_rfl }
instance : D_sure_wants K58.T := { df_sure_wants := by kernel_rfl }
instance : D_counts K58.T := { df_counts := by kernel_rfl }
instance : D_turned K58.T := { df_turned := by kernel_rfl }
instance : D_shifted K58.T := { df_shifted := by kernel_rfl }
instance : D_windows_in K58.T := { df_windows_in := by kernel_rfl }
instance : D_window_of K58.T := { df_window_of := by kernel_rfl }
instance : D_window K58.T := { df_window := by kernel_rfl }
instance : D_ring_window K58.T := { df_ring_window := by kernel_rfl }
instance : D_windows K58.T := { df_windows := by kernel_rfl }
instance : D_ring_windows K58.T := { df_ring_windows := by kernel_rfl }
instance : D__law_take K58.T := { df__law_take := by kernel_rfl }
instance : D__law_cells K58.T := { df__law_cells := by kernel_rfl }
instance : D__law_of K58.T := { df__law_of := by kernel_rfl }
instance : D__law_same K58.T := { df__law_same := by kernel_rfl }
instance : D__law_closed K58.T := { df__law_closed := by kernel_rfl }
instance : D__law_string K58.T := { df__law_string := by kernel_rfl }
instance : D__law_box K58.T 9303058 := { df__law_box := by kernel_rfl }
theorem law_df : K58.T.df "law" = some c_law58 := by kernel_rfl
end VP
theorem room20 : L2.Room 20 callerA := ⟨by decide +kernel, by decide +kernel, by decide +kernel⟩
theorem PySem.Challenge.cw_beadsalike_k58_across_stretches_one_behi_holds : PySem.Challenge.rw_beadsalike_k58_across_stretches_one_behi.Holds := by
  refine holds_of 20 room20 fun xs hl => ?_
  exact ⟨_, (VP.law58 (T := K58.T) (n := 0) (by decide) VP.law_df hl).h⟩
