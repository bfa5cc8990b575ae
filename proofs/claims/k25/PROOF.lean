import PyProof.Rows.All
import Wide.All
import OpenK.AllK
import Wide.FinOn
import HandS.ForMost
import HandS.HeadHook1
import HandS.TupAny
import HandS.Deep
import HandS.IsInst
import HandS.Style
import HandS.NoneIn
import HandS.Conv
import HandS.Flow
import HandS.WordsList
import HandS.Defaults
import HandS.HeadHook2
import HandS.TryOnly
import HandS.Exc
import HandS.DictComp
import HandS.Wide
import HandS.More
import HandS.TupLen
import HandS.SetFor
import KE.KStateDown
import HandS.HeadEnd
import HandS.WordsDict
import HandS.MakeKwOnly
import PyProof.AssignAttr
import PyProof.ReprLen
import HandS.Words
import HandS.WordsExc
import HandS.Head0
import HandS.Head1
import HandS.Head2
import PySem.Challenge.RW_ordermerge_k25_whole_entries_removed
set_option Elab.async false
set_option linter.all false
set_option maxRecDepth 100000
set_option maxHeartbeats 4000000
namespace O
open PySem L2

inductive OV where
  | non | bl (b : Bool) | int (i : Int) | str (x : Str) | tup (xs : List OV) | rol (xs : List OV) | ref (a : Nat)
inductive OO where
  | lst (xs : List OV) | dK (kvs : List (Key × OV)) | dT (kvs : List (List Key × OV)) | lK (kvs : List (Key × OV)) | lT (kvs : List (List Key × OV)) | ins (C : Str) (fs : List (Str × OV))
abbrev OH := List OO
abbrev OSt := List (Option OV)
structure Wd where
  rho : Nat → Addr
  h : OH
  H : Hp
def RoL (K : PySem.W.Frag) (H : Hp) (p : Addr) (vs : List V) : Prop := (∃ o, H p = some (.frz o (.lst vs))) ∨ SqL K (fun _ => none) p vs

mutual
def VR (K : PySem.W.Frag) (w : Wd) : OV → V → Prop
  | .non, v => v = .non
  | .bl b, v => v = .bl b
  | .int i, v => v = .int i
  | .str x, v => v = .str x
  | .tup xs, v => ∃ p vs, v = .ref p ∧ w.H p = some (.tup vs) ∧ VRs K w xs vs
  | .rol xs, v => ∃ p vs, v = .ref p ∧ RoL K w.H p vs ∧ VRs K w xs vs
  | .ref a, v => a < w.h.length ∧ v = .ref (w.rho a)
def VRs (K : PySem.W.Frag) (w : Wd) : List OV → List V → Prop
  | [], vs => vs = []
  | x :: xs, vs => ∃ v r, vs = v :: r ∧ VR K w x v ∧ VRs K w xs r
end
def KVR {k : Type} (K : PySem.W.Frag) (w : Wd) : List (k × OV) → List (k × V) → Prop
  | [], vs => vs = []
  | x :: xs, vs => ∃ v r, vs = (x.1, v) :: r ∧ VR K w x.2 v ∧ KVR K w xs r
def CR (K : PySem.W.Frag) (w : Wd) : OO → HO → Prop
  | .lst xs, o => ∃ vs, o = .lst vs ∧ VRs K w xs vs
  | .dK kvs, o => ∃ r, o = .dK r ∧ KVR K w kvs r
  | .dT kvs, o => ∃ r, o = .dT r ∧ KVR K w kvs r
  | .lK kvs, o => ∃ od r, o = .frz od (.dK r) ∧ KVR K w kvs r
  | .lT kvs, o => ∃ od r, o = .frz od (.dT r) ∧ KVR K w kvs r
  | .ins C fs, o => ∃ dx r, o = .ins (He.ga K C) dx r ∧ KVR K w fs r
structure Rl (K : PySem.W.Frag) (w : Wd) : Prop where
  obj : ∀ a o, w.h[a]? = some o → ∃ ho, w.H (w.rho a) = some ho ∧ CR K w o ho
  inj : ∀ a b, a < w.h.length → b < w.h.length → w.rho a = w.rho b → a = b
structure Ex0 (w w' : Wd) : Prop where
  le : w.h.length ≤ w'.h.length
  rho : ∀ a, a < w.h.length → w'.rho a = w.rho a
  tup : ∀ p vs, w.H p = some (.tup vs) → w'.H p = some (.tup vs)
  frz : ∀ p o u, w.H p = some (.frz o u) → w'.H p = some (.frz o u)
structure Ex (w w' : Wd) : Prop where
  le : w.h.length ≤ w'.h.length
  rho : ∀ a, a < w.h.length → w'.rho a = w.rho a
  tup : ∀ p vs, w.H p = some (.tup vs) → w'.H p = some (.tup vs)
  frz : ∀ p o u, w.H p = some (.frz o u) → w'.H p = some (.frz o u)
  there : ∀ p o, w.H p = some o → ∃ u, w'.H p = some u
  fresh : ∀ a, w.h.length ≤ a → a < w'.h.length → w.H (w'.rho a) = none
  fra : ∀ p o, w.H p = some o → (∀ a, a < w.h.length → w.rho a ≠ p) → w'.H p = some o
theorem Ex.to0 {w w' : Wd} (x : Ex w w') : Ex0 w w' := ⟨x.le, x.rho, x.tup, x.frz⟩
theorem Ex.refl (w : Wd) : Ex w w := ⟨Nat.le_refl _, fun _ _ => rfl, fun _ _ h => h, fun _ _ _ h => h, fun _ o h => ⟨o, h⟩, fun _ h1 h2 => absurd h2 (Nat.not_lt_of_le h1), fun _ _ h _ => h⟩
theorem Ex.out {a b : Wd} (x : Ex a b) {p : Addr} {o : HO} (h : a.H p = some o) (n : ∀ i, i < a.h.length → a.rho i ≠ p) : ∀ i, i < b.h.length → b.rho i ≠ p := fun i hi => by
  by_cases hl : i < a.h.length
  · rw [x.rho i hl]; exact n i hl
  · intro e
    have := x.fresh i (Nat.le_of_not_lt hl) hi
    rw [e, h] at this
    cases this
theorem Ex.trans {a b c : Wd} (x : Ex a b) (y : Ex b c) : Ex a c := by
  refine ⟨Nat.le_trans x.le y.le, fun i h => (y.rho i (Nat.lt_of_lt_of_le h x.le)).trans (x.rho i h), fun p vs h => y.tup p vs (x.tup p vs h), fun p o vs h => y.frz p o vs (x.frz p o vs h), fun p o h => ?_, fun i h1 h2 => ?_, fun p o h n => y.fra p o (x.fra p o h n) (x.out h n)⟩
  · obtain ⟨u, h⟩ := x.there p o h
    exact y.there p u h
  · by_cases hl : i < b.h.length
    · rw [y.rho i hl]; exact x.fresh i h1 hl
    · have q := y.fresh i (Nat.le_of_not_lt hl) h2
      cases e : a.H (c.rho i) with
      | none => rfl
      | some o =>
        obtain ⟨u, hu⟩ := x.there _ _ e
        rw [q] at hu
        cases hu
section
variable {K : PySem.W.Frag} {w w' : Wd}
theorem RoL.mono0 {p : Addr} {vs : List V} (e : Ex0 w w') (h : RoL K w.H p vs) : RoL K w'.H p vs := by
  rcases h with ⟨o, h⟩ | h
  · exact .inl ⟨o, e.frz _ _ _ h⟩
  · exact .inr h
theorem RoL.sq {H : Hp} {p : Addr} {vs : List V} (h : RoL K H p vs) : SqL K H p vs := by
  rcases h with ⟨o, h⟩ | h
  · exact .inl (.inr ⟨o, h⟩)
  · rcases h with h | h
    · rcases h with h | ⟨o, h⟩ <;> cases h
    · exact .inr h
mutual
theorem VR.mono0 (e : Ex0 w w') : ∀ {x : OV} {v : V}, VR K w x v → VR K w' x v
  | .non, _, h => by simpa [VR] using h
  | .bl _, _, h => by simpa [VR] using h
  | .int _, _, h => by simpa [VR] using h
  | .str _, _, h => by simpa [VR] using h
  | .tup xs, v, h => by
    unfold VR at h ⊢
    obtain ⟨p, vs, h1, h2, h3⟩ := h
    exact ⟨p, vs, h1, e.tup _ _ h2, VRs.mono0 e h3⟩
  | .rol xs, v, h => by
    unfold VR at h ⊢
    obtain ⟨p, vs, h1, h2, h3⟩ := h
    exact ⟨p, vs, h1, h2.mono0 e, VRs.mono0 e h3⟩
  | .ref a, v, h => by
    unfold VR at h ⊢
    exact ⟨Nat.lt_of_lt_of_le h.1 e.le, by rw [e.rho a h.1]; exact h.2⟩
theorem VRs.mono0 (e : Ex0 w w') : ∀ {xs : List OV} {vs : List V}, VRs K w xs vs → VRs K w' xs vs
  | [], vs, h => by simpa [VRs] using h
  | x :: xs, vs, h => by
    unfold VRs at h ⊢
    obtain ⟨v, r, h1, h2, h3⟩ := h
    exact ⟨v, r, h1, VR.mono0 e h2, VRs.mono0 e h3⟩
end
theorem KVR.mono0 {k : Type} (e : Ex0 w w') : ∀ {xs : List (k × OV)} {vs : List (k × V)}, KVR K w xs vs → KVR K w' xs vs
  | [], vs, h => h
  | x :: xs, vs, h => by
    obtain ⟨v, r, h1, h2, h3⟩ := h
    exact ⟨v, r, h1, h2.mono0 e, KVR.mono0 e h3⟩
theorem CR.mono0 (e : Ex0 w w') : ∀ {o : OO} {ho : HO}, CR K w o ho → CR K w' o ho
  | .lst xs, _, ⟨vs, h1, h2⟩ => ⟨vs, h1, h2.mono0 e⟩
  | .dK _, _, ⟨vs, h1, h2⟩ => ⟨vs, h1, h2.mono0 e⟩
  | .dT _, _, ⟨vs, h1, h2⟩ => ⟨vs, h1, h2.mono0 e⟩
  | .lK _, _, ⟨od, vs, h1, h2⟩ => ⟨od, vs, h1, h2.mono0 e⟩
  | .lT _, _, ⟨od, vs, h1, h2⟩ => ⟨od, vs, h1, h2.mono0 e⟩
  | .ins _ _, _, ⟨dx, vs, h1, h2⟩ => ⟨dx, vs, h1, h2.mono0 e⟩

theorem VR.mono (e : Ex w w') {x : OV} {v : V} (h : VR K w x v) : VR K w' x v := h.mono0 e.to0
theorem VRs.mono (e : Ex w w') {x : List OV} {v : List V} (h : VRs K w x v) : VRs K w' x v := h.mono0 e.to0
theorem KVR.mono {k : Type} (e : Ex w w') {x : List (k × OV)} {v : List (k × V)} (h : KVR K w x v) : KVR K w' x v := h.mono0 e.to0
theorem CR.mono (e : Ex w w') {o : OO} {ho : HO} (h : CR K w o ho) : CR K w' o ho := h.mono0 e.to0
/-- a new object -/
theorem new_ok (rl : Rl K w) {o : OO} {ho : HO} {p : Addr} (hp : w.H p = none) (c : CR K w o ho) :
    ∃ w', w'.h = w.h ++ [o] ∧ w'.H = upd w.H p ho ∧ w'.rho w.h.length = p ∧ Ex w w' ∧ Rl K w' := by
  refine ⟨⟨fun b => if b = w.h.length then p else w.rho b, w.h ++ [o], upd w.H p ho⟩, rfl, rfl, by simp, ?_⟩
  have e : Ex w ⟨fun b => if b = w.h.length then p else w.rho b, w.h ++ [o], upd w.H p ho⟩ :=
    ⟨by simp, fun a ha => if_neg (Nat.ne_of_lt ha), fun q vs h => by
      show upd w.H p ho q = _
      rw [upd_ne (ne_of_none h hp)]; exact h, fun q u vs h => by
      show upd w.H p ho q = _
      rw [upd_ne (ne_of_none h hp)]; exact h, fun q u h => ⟨u, by
      show upd w.H p ho q = _
      rw [upd_ne (ne_of_none h hp)]; exact h⟩, fun a h1 h2 => by
      have h2 : a < (w.h ++ [o]).length := h2
      rw [List.length_append, List.length_singleton] at h2
      show w.H (if a = w.h.length then p else w.rho a) = none
      rw [if_pos (by omega)]; exact hp, fun q u h _ => by
      show upd w.H p ho q = _
      rw [upd_ne (ne_of_none h hp)]; exact h⟩
  have nq : ∀ a, a < w.h.length → w.rho a ≠ p := fun a ha => by
    obtain ⟨ho', h1, _⟩ := rl.obj a _ (List.getElem?_eq_getElem ha)
    exact ne_of_none h1 hp
  refine ⟨e, fun a x hx => ?_, fun a b ha hb h => ?_⟩
  · have hx : (w.h ++ [o])[a]? = some x := hx
    by_cases ha : a < w.h.length
    · rw [List.getElem?_append_left ha] at hx
      obtain ⟨ho', h1, h2⟩ := rl.obj a x hx
      refine ⟨ho', ?_, h2.mono e⟩
      show upd w.H p ho (if a = w.h.length then p else w.rho a) = _
      rw [if_neg (Nat.ne_of_lt ha), upd_ne (nq a ha)]; exact h1
    · rw [List.getElem?_append_right (Nat.le_of_not_lt ha)] at hx
      have hal : a = w.h.length := by
        have := (List.getElem?_eq_some_iff.mp hx).1
        simp at this; omega
      subst hal
      simp at hx
      subst hx
      refine ⟨ho, ?_, c.mono e⟩
      show upd w.H p ho (if w.h.length = w.h.length then p else w.rho w.h.length) = _
      rw [if_pos rfl, upd_same]
  · have ha : a < (w.h ++ [o]).length := ha
    have hb : b < (w.h ++ [o]).length := hb
    have h : (if a = w.h.length then p else w.rho a) = (if b = w.h.length then p else w.rho b) := h
    rw [List.length_append, List.length_singleton] at ha hb
    by_cases ea : a = w.h.length
    · by_cases eb : b = w.h.length
      · omega
      · rw [if_pos ea, if_neg eb] at h
        exact absurd h.symm (nq b (by omega))
    · by_cases eb : b = w.h.length
      · rw [if_neg ea, if_pos eb] at h
        exact absurd h (nq a (by omega))
      · rw [if_neg ea, if_neg eb] at h
        exact rl.inj a b (by omega) (by omega) h
/-- something else is laid -/
theorem lay_ok (rl : Rl K w) {ho : HO} {p : Addr} (hp : w.H p = none) : Ex w ⟨w.rho, w.h, upd w.H p ho⟩ ∧ Rl K ⟨w.rho, w.h, upd w.H p ho⟩ := by
  have e : Ex w ⟨w.rho, w.h, upd w.H p ho⟩ :=
    ⟨Nat.le_refl _, fun _ _ => rfl, fun q vs h => by
      show upd w.H p ho q = _
      rw [upd_ne (ne_of_none h hp)]; exact h, fun q u vs h => by
      show upd w.H p ho q = _
      rw [upd_ne (ne_of_none h hp)]; exact h, fun q u h => ⟨u, by
      show upd w.H p ho q = _
      rw [upd_ne (ne_of_none h hp)]; exact h⟩, fun _ h1 h2 => absurd h2 (Nat.not_lt_of_le h1), fun q u h _ => by
      show upd w.H p ho q = _
      rw [upd_ne (ne_of_none h hp)]; exact h⟩
  refine ⟨e, fun a x hx => ?_, rl.inj⟩
  obtain ⟨ho', h1, h2⟩ := rl.obj a x hx
  refine ⟨ho', ?_, h2.mono e⟩
  show upd w.H p ho (w.rho a) = _
  rw [upd_ne (ne_of_none h1 hp)]; exact h1
def Chg : HO → Prop
  | .tup _ => False
  | .frz _ _ => False
  | _ => True
/-- an object is changed -/
theorem set_ok (rl : Rl K w) {o o' : OO} {ho ho' : HO} {a : Nat} (ha : w.h[a]? = some o) (hH : w.H (w.rho a) = some ho) (hc : Chg ho) (c : CR K w o' ho') :
    Ex w ⟨w.rho, w.h.set a o', upd w.H (w.rho a) ho'⟩ ∧ Rl K ⟨w.rho, w.h.set a o', upd w.H (w.rho a) ho'⟩ := by
  have al : a < w.h.length := (List.getElem?_eq_some_iff.mp ha).1
  have e : Ex w ⟨w.rho, w.h.set a o', upd w.H (w.rho a) ho'⟩ :=
    ⟨by simp, fun _ _ => rfl, fun q vs h => by
      show upd w.H (w.rho a) ho' q = _
      rw [upd_ne (fun z => by subst z; rw [hH] at h; cases h; exact hc)]; exact h, fun q u vs h => by
      show upd w.H (w.rho a) ho' q = _
      rw [upd_ne (fun z => by subst z; rw [hH] at h; cases h; exact hc)]; exact h, fun q u h => by
      by_cases z : q = w.rho a
      · exact ⟨ho', by rw [z]; exact upd_same⟩
      · exact ⟨u, (upd_ne z).trans h⟩, fun b h1 h2 => absurd (show b < w.h.length by simpa using h2) (Nat.not_lt_of_le h1), fun q u h n => (upd_ne (fun z => n a al z.symm)).trans h⟩
  refine ⟨e, fun b x hx => ?_, fun b c hb hc h => rl.inj b c (by simpa using hb) (by simpa using hc) h⟩
  have hx : (w.h.set a o')[b]? = some x := hx
  show ∃ ho, upd w.H (w.rho a) ho' (w.rho b) = some ho ∧ _
  by_cases hb : b = a
  · subst hb
    rw [List.getElem?_set_self al] at hx
    cases hx
    exact ⟨ho', upd_same, c.mono e⟩
  · rw [List.getElem?_set_ne (Ne.symm hb)] at hx
    obtain ⟨u, h1, h2⟩ := rl.obj b x hx
    have bl : b < w.h.length := (List.getElem?_eq_some_iff.mp hx).1
    exact ⟨u, by rw [upd_ne (fun z => hb (rl.inj b a bl al z))]; exact h1, h2.mono e⟩
end

def bnd {α β : Type} (r : Option (α × OH)) (f : α → OH → Option (β × OH)) : Option (β × OH) := match r with
  | none => none
  | some (a, h) => f a h
def Post {α : Type} (K : PySem.W.Frag) (w : Wd) (r : Option (α × OH)) (R : α → Wd → Prop) : Prop := match r with
  | none => False
  | some (a, h') => ∀ w', w'.h = h' → Ex w w' → Rl K w' → R a w'
section
variable {α β : Type} {K : PySem.W.Frag} {w w' : Wd}
theorem Post.mono {r : Option (α × OH)} {R R' : α → Wd → Prop} (p : Post K w r R) (h : ∀ a w', Ex w w' → Rl K w' → R a w' → R' a w') : Post K w r R' := by
  cases r with
  | none => exact p
  | some q => exact fun w' e x rl => h _ _ x rl (p w' e x rl)
theorem Post.bind {r : Option (α × OH)} {f : α → OH → Option (β × OH)} {R : β → Wd → Prop} (p : Post K w (bnd r f) R) : Post K w r (fun a w1 => Post K w1 (f a w1.h) R) := by
  cases r with
  | none => exact p
  | some q =>
    obtain ⟨a, h'⟩ := q
    intro w1 e x rl
    subst e
    have p : Post K w (f a w1.h) R := p
    cases q2 : f a w1.h with
    | none => rw [q2] at p; exact p
    | some z =>
      rw [q2] at p
      exact fun w2 e2 x2 rl2 => p w2 e2 (x.trans x2) rl2
/-- the outcome stands at the world as it is -/
theorem Post.here {a : α} {R : α → Wd → Prop} (p : Post K w (some (a, w.h)) R) (rl : Rl K w) : R a w := p w rfl (Ex.refl w) rl
theorem Post.at_ {a : α} {h' : OH} {R : α → Wd → Prop} (p : Post K w (some (a, h')) R) (e : w'.h = h') (x : Ex w w') (rl : Rl K w') : R a w' := p w' e x rl
end
structure SR (K : PySem.W.Frag) (w : Wd) (os : OSt) (s : St) : Prop where
  len : os.length = s.length
  at_ : ∀ (i : Nat) (v : OV), os[i]? = some (some v) → ∃ v' : V, s[i]? = some (some v') ∧ VR K w v v'
theorem SR.mono {K : PySem.W.Frag} {w w' : Wd} {os : OSt} {s : St} (x : SR K w os s) (e : Ex w w') : SR K w' os s :=
  ⟨x.len, fun i v h => let ⟨v', h1, h2⟩ := x.at_ i v h; ⟨v', h1, h2.mono e⟩⟩
theorem SR.set {K : PySem.W.Frag} {w : Wd} {os : OSt} {s : St} (x : SR K w os s) {v : OV} {v' : V} (h : VR K w v v') (i : Nat) : SR K w (os.set i (some v)) (s.set i (some v')) := by
  refine ⟨by simpa using x.len, fun j u e => ?_⟩
  rw [List.getElem?_set] at e
  split at e
  · rename_i hij
    subst hij
    split at e
    · rename_i hl
      cases e
      exact ⟨v', by rw [List.getElem?_set_self (by rw [← x.len]; exact hl)], h⟩
    · cases e
  · rename_i hij
    obtain ⟨u', h1, h2⟩ := x.at_ j u e
    exact ⟨u', by rw [List.getElem?_set_ne hij]; exact h1, h2⟩

abbrev ME := OSt → OH → Option (OV × OH)
abbrev Rs (K : PySem.W.Frag) (Q : VK) : OV → Wd → Prop := fun v w => ∀ v', VR K w v v' → Q v' w.H
def tE (K : PySem.W.Frag) (m : ME) : TE := fun s H Q => ∃ w os, w.H = H ∧ Rl K w ∧ SR K w os s ∧ Post K w (m os w.h) (Rs K Q)
def tT (K : PySem.W.Frag) (m : OSt → OH → Option (Bool × OH)) : TT := fun s H Q => ∃ w os, w.H = H ∧ Rl K w ∧ SR K w os s ∧ Post K w (m os w.h) (fun b w' => Q b w'.H)
def tA (K : PySem.W.Frag) (m : OSt → OH → Option (List OV × OH)) : TA := fun s H Q => ∃ w os, w.H = H ∧ Rl K w ∧ SR K w os s ∧ Post K w (m os w.h) (fun vs w' => ∀ vs', VRs K w' vs vs' → Q vs' w'.H)
inductive OF where
  | nx (s : OSt) | rt (v : OV) | bk (s : OSt) | ct (s : OSt)
abbrev MS := OSt → OH → Option (OF × OH)
def RsF (K : PySem.W.Frag) (D : Ends) : OF → Wd → Prop
  | .nx s, w => ∀ s', SR K w s s' → D.nx s' w.H
  | .rt v, w => ∀ v', VR K w v v' → D.rt v' w.H
  | .bk s, w => ∀ s', SR K w s s' → D.bk s' w.H
  | .ct s, w => ∀ s', SR K w s s' → D.ct s' w.H
def tS (K : PySem.W.Frag) (m : MS) : TS := fun D s H => ∃ w os, w.H = H ∧ Rl K w ∧ SR K w os s ∧ Post K w (m os w.h) (RsF K D)

section
variable {X : Cx}
theorem pe_wk {e : Expr} {t t' : TE} (h : PE X e t) (k : ∀ s H Q, t' s H Q → t s H Q) : PE X e t' := ⟨fun pins s σ H Q I q => h.run pins s σ H Q I (k _ _ _ q)⟩
theorem pt_wk {e : Expr} {t t' : TT} (h : PT X e t) (k : ∀ s H Q, t' s H Q → t s H Q) : PT X e t' := ⟨fun pins s σ H Q I q => h.run pins s σ H Q I (k _ _ _ q)⟩
theorem pa_wk {e : List Expr} {t t' : TA} (h : PA X e t) (k : ∀ s H Q, t' s H Q → t s H Q) : PA X e t' := ⟨fun pos pins s σ H Q I q => h.run pos pins s σ H Q I (k _ _ _ q)⟩
theorem ps_wk {e : Stmt} {t t' : TS} (h : PS X e t) (k : ∀ D s H, t' D s H → t D s H) : PS X e t' := ⟨fun pins s σ H D I q => h.run pins s σ H D I (k _ _ _ q)⟩
theorem pss_wk {e : List Stmt} {t t' : TS} (h : PSs X e t) (k : ∀ D s H, t' D s H → t D s H) : PSs X e t' := ⟨fun pins s σ H D I q => h.run pins s σ H D I (k _ _ _ q)⟩
theorem pi_wk {tg e : Expr} {t t' : TI} (h : PI X tg e t) (k : ∀ s H Q, t' s H Q → t s H Q) : PI X tg e t' := ⟨fun pins s σ H Q I q => h.run pins s σ H Q I (k _ _ _ q)⟩

def eVar (i : Nat) : ME := fun s h => match s[i]? with
  | some (some v) => some (v, h)
  | _ => none
theorem s_var {i : Nat} {e : Expr} (h : PE X e (tVar i)) : PE X e (tE X.K (eVar i)) := by
  refine pe_wk h fun s H Q q => ?_
  obtain ⟨w, os, rfl, rl, sr, p⟩ := q
  unfold eVar at p
  cases e : os[i]? with
  | none => rw [e] at p; exact p.elim
  | some x =>
    cases x with
    | none => rw [e] at p; exact p.elim
    | some v =>
      rw [e] at p
      obtain ⟨v', h1, h2⟩ := sr.at_ i v e
      exact ⟨v', h1, p.here rl v' h2⟩
def eC (v : OV) : ME := fun _ h => some (v, h)
theorem s_c {v : OV} {v' : V} {e : Expr} (h : PE X e (tC v')) (hv : ∀ w, VR X.K w v v') : PE X e (tE X.K (eC v)) := by
  refine pe_wk h fun s H Q q => ?_
  obtain ⟨w, os, rfl, rl, sr, p⟩ := q
  exact Post.here p rl v' (hv w)
theorem s_int {i : Int} {j pos} : PE X (.Constant (.int i) j pos) (tE X.K (eC (.int i))) := s_c pe_int fun w => by simp [VR]
theorem s_bl {i : Bool} {j pos} : PE X (.Constant (.bool i) j pos) (tE X.K (eC (.bl i))) := s_c pe_bl fun w => by simp [VR]
theorem s_non {j pos} : PE X (.Constant .none j pos) (tE X.K (eC .non)) := s_c pe_non fun w => by simp [VR]
theorem s_str {x : Str} {j pos} : PE X (.Constant (.str x) j pos) (tE X.K (eC (.str x))) := s_c pe_str fun w => by simp [VR]

abbrev MO := OV → OV → OH → Option (OV × OH)
def tV2 (K : PySem.W.Frag) (g : MO) : R2 := fun x y H Q => ∃ w a b, w.H = H ∧ Rl K w ∧ VR K w a x ∧ VR K w b y ∧ Post K w (g a b w.h) (Rs K Q)
def eOp (g : MO) (a b : ME) : ME := fun s h => bnd (a s h) fun x h1 => bnd (b s h1) fun y h2 => g x y h2
theorem t_op {K : PySem.W.Frag} {g : MO} {a b : ME} {s : St} {H : Hp} {Q : VK} (q : tE K (eOp g a b) s H Q) : tOp (tV2 K g) (tE K a) (tE K b) s H Q := by
  obtain ⟨w, os, rfl, rl, sr, p⟩ := q
  refine ⟨w, os, rfl, rl, sr, (Post.bind p).mono fun x w1 e1 rl1 p1 v1 r1 => ?_⟩
  refine ⟨w1, os, rfl, rl1, sr.mono e1, (Post.bind p1).mono fun y w2 e2 rl2 p2 v2 r2 => ?_⟩
  exact ⟨w2, x, y, rfl, rl2, r1.mono e2, r2, p2⟩
theorem s_op {a b : Expr} {ma mb : ME} {pos : Pos} {op : Operator} {g : MO} (ho : OpR X (binaryOp op) (tV2 X.K g)) (ha : PE X a (tE X.K ma)) (hb : PE X b (tE X.K mb)) : PE X (.BinOp a op b pos) (tE X.K (eOp g ma mb)) :=
  pe_wk (pe_op ho ha hb) fun _ _ _ q => t_op q
theorem s_cmp {a b : Expr} {ma mb : ME} {pos : Pos} {op : CmpOp} {g : MO} (ho : OpR X (compareOp op) (tV2 X.K g)) (ha : PE X a (tE X.K ma)) (hb : PE X b (tE X.K mb)) (hm : behindInMarks op b = false) : PE X (.Compare a [op] [b] pos) (tE X.K (eOp g ma mb)) :=
  pe_wk (pe_cmpR ho ha hb hm) fun _ _ _ q => t_op q
end
end O

set_option maxHeartbeats 4000000
namespace O
open PySem L2
section
variable {K : PySem.W.Frag} {w w' : Wd}
theorem VRs.length : ∀ {xs : List OV} {vs : List V}, VRs K w xs vs → xs.length = vs.length
  | [], _, h => by simp only [VRs] at h; subst h; rfl
  | _ :: _, _, h => by
    simp only [VRs] at h
    obtain ⟨v, r, rfl, _, h3⟩ := h
    simp [VRs.length h3]
theorem VRs.get : ∀ {xs : List OV} {vs : List V} {i : Nat} {x : OV}, VRs K w xs vs → xs[i]? = some x → ∃ v, vs[i]? = some v ∧ VR K w x v
  | [], _, _, _, _, e => by simp at e
  | _ :: _, _, i, x, h, e => by
    simp only [VRs] at h
    obtain ⟨v, r, rfl, h2, h3⟩ := h
    cases i with
    | zero => simp at e; subst e; exact ⟨v, rfl, h2⟩
    | succ i =>
      obtain ⟨u, h4, h5⟩ := VRs.get h3 (show _ = some x by simpa using e)
      exact ⟨u, by simpa using h4, h5⟩
theorem VRs.app : ∀ {xs ys : List OV} {vs us : List V}, VRs K w xs vs → VRs K w ys us → VRs K w (xs ++ ys) (vs ++ us)
  | [], _, _, _, h, q => by simp only [VRs] at h; subst h; exact q
  | x :: xs, ys, vs, us, h, q => by
    simp only [VRs] at h
    obtain ⟨v, r, rfl, h2, h3⟩ := h
    simp only [List.cons_append, VRs]
    exact ⟨v, r ++ us, rfl, h2, VRs.app h3 q⟩
theorem VRs.take : ∀ {xs : List OV} {vs : List V} (n : Nat), VRs K w xs vs → VRs K w (xs.take n) (vs.take n)
  | _, _, 0, _ => by simp [VRs]
  | [], _, _ + 1, h => by simp only [VRs] at h; subst h; simp [VRs]
  | x :: xs, vs, n + 1, h => by
    simp only [VRs] at h
    obtain ⟨v, r, rfl, h2, h3⟩ := h
    simp only [List.take_succ_cons, VRs]
    exact ⟨v, r.take n, rfl, h2, VRs.take n h3⟩
theorem VRs.drop : ∀ {xs : List OV} {vs : List V} (n : Nat), VRs K w xs vs → VRs K w (xs.drop n) (vs.drop n)
  | _, _, 0, h => h
  | [], _, _ + 1, h => by simp only [VRs] at h; subst h; simp [VRs]
  | x :: xs, vs, n + 1, h => by
    simp only [VRs] at h
    obtain ⟨v, r, rfl, h2, h3⟩ := h
    exact VRs.drop n h3
theorem VRs.one {x : OV} {v : V} (h : VR K w x v) : VRs K w [x] [v] := by simp only [VRs]; exact ⟨v, [], rfl, h, rfl⟩
theorem VRs.cons {x : OV} {v : V} {xs : List OV} {vs : List V} (h : VR K w x v) (t : VRs K w xs vs) : VRs K w (x :: xs) (v :: vs) := by simp only [VRs]; exact ⟨v, vs, rfl, h, t⟩
theorem VRs.nil : VRs K w [] [] := by simp only [VRs]
theorem VRs.rev : ∀ {xs : List OV} {vs : List V}, VRs K w xs vs → VRs K w xs.reverse vs.reverse
  | [], _, h => by simp only [VRs] at h; subst h; exact VRs.nil
  | x :: xs, vs, h => by
    simp only [VRs] at h
    obtain ⟨v, r, rfl, h2, h3⟩ := h
    rw [List.reverse_cons, List.reverse_cons]
    exact (VRs.rev h3).app (.one h2)
theorem VRs.set : ∀ {xs : List OV} {vs : List V} (i : Nat) {x : OV} {v : V}, VRs K w xs vs → VR K w x v → VRs K w (xs.set i x) (vs.set i v)
  | [], _, _, _, _, h, _ => by simp only [VRs] at h; subst h; exact VRs.nil
  | _ :: _, _, i, x, v, h, q => by
    simp only [VRs] at h
    obtain ⟨u, r, rfl, h2, h3⟩ := h
    cases i with
    | zero => exact .cons q h3
    | succ i => exact .cons h2 (VRs.set i h3 q)
theorem VRs.erase {xs : List OV} {vs : List V} (h : VRs K w xs vs) (i : Nat) : VRs K w (xs.eraseIdx i) (vs.eraseIdx i) := by
  rw [List.eraseIdx_eq_take_drop_succ, List.eraseIdx_eq_take_drop_succ]
  exact (h.take i).app (h.drop (i + 1))
theorem VRs.map_str : ∀ {xs : List Str}, VRs K w (xs.map OV.str) (xs.map V.str)
  | [] => VRs.nil
  | _ :: _ => .cons (by simp only [VR]) VRs.map_str

theorem VR.ref {a : Nat} {v : V} (h : VR K w (.ref a) v) : v = .ref (w.rho a) := by simp only [VR] at h; exact h.2
theorem vr_int {i : Int} : VR K w (.int i) (.int i) := by simp only [VR]
theorem vr_bl {i : Bool} : VR K w (.bl i) (.bl i) := by simp only [VR]
theorem vr_str {i : Str} : VR K w (.str i) (.str i) := by simp only [VR]
theorem vr_non : VR K w .non .non := by simp only [VR]
/-- a list at a -/
theorem Rl.lst (rl : Rl K w) {a : Nat} {xs : List OV} (h : w.h[a]? = some (.lst xs)) : ∃ vs, w.H (w.rho a) = some (.lst vs) ∧ VRs K w xs vs := by
  obtain ⟨ho, h1, vs, rfl, h2⟩ := rl.obj a _ h
  exact ⟨vs, h1, h2⟩
theorem Rl.dK (rl : Rl K w) {a : Nat} {xs : List (Key × OV)} (h : w.h[a]? = some (.dK xs)) : ∃ vs, w.H (w.rho a) = some (.dK vs) ∧ KVR K w xs vs := by
  obtain ⟨ho, h1, vs, rfl, h2⟩ := rl.obj a _ h
  exact ⟨vs, h1, h2⟩
theorem Rl.dT (rl : Rl K w) {a : Nat} {xs : List (List Key × OV)} (h : w.h[a]? = some (.dT xs)) : ∃ vs, w.H (w.rho a) = some (.dT vs) ∧ KVR K w xs vs := by
  obtain ⟨ho, h1, vs, rfl, h2⟩ := rl.obj a _ h
  exact ⟨vs, h1, h2⟩
theorem Rl.ins (rl : Rl K w) {a : Nat} {C : Str} {xs : List (Str × OV)} (h : w.h[a]? = some (.ins C xs)) : ∃ dx vs, w.H (w.rho a) = some (.ins (He.ga K C) dx vs) ∧ KVR K w xs vs := by
  obtain ⟨ho, h1, dx, vs, rfl, h2⟩ := rl.obj a _ h
  exact ⟨dx, vs, h1, h2⟩
theorem at_lt {a : Nat} {o : OO} {h : OH} (e : h[a]? = some o) : a < h.length := (List.getElem?_eq_some_iff.mp e).1

theorem p_new {Q : VK} {o : OO} {ho : HO} {p : Addr} (q : Post K w (some (.ref w.h.length, w.h ++ [o])) (Rs K Q)) (rl : Rl K w) (c : CR K w o ho) (hp : w.H p = none) : Q (.ref p) (upd w.H p ho) := by
  obtain ⟨w', e1, e2, e3, x, rl'⟩ := new_ok rl hp c
  have := q w' e1 x rl' (.ref p) (by simp only [VR]; exact ⟨by rw [e1]; simp, by rw [e3]⟩)
  rw [e2] at this
  exact this
theorem p_tup {Q : VK} {xs : List OV} {vs : List V} {p : Addr} (q : Post K w (some (.tup xs, w.h)) (Rs K Q)) (rl : Rl K w) (c : VRs K w xs vs) (hp : w.H p = none) : Q (.ref p) (upd w.H p (.tup vs)) := by
  obtain ⟨x, rl'⟩ := lay_ok (ho := .tup vs) rl hp
  exact q ⟨w.rho, w.h, upd w.H p (.tup vs)⟩ rfl x rl' (.ref p) (by simp only [VR]; exact ⟨p, vs, rfl, upd_same, c.mono x⟩)
theorem p_set {v : OV} {v' : V} {Q : VK} {o o' : OO} {ho ho' : HO} {a : Nat} (q : Post K w (some (v, w.h.set a o')) (Rs K Q)) (rl : Rl K w) (ha : w.h[a]? = some o) (hH : w.H (w.rho a) = some ho) (hc : Chg ho) (c : CR K w o' ho') (hv : VR K w v v') : Q v' (upd w.H (w.rho a) ho') := by
  obtain ⟨x, rl'⟩ := set_ok rl ha hH hc c
  exact q _ rfl x rl' v' (hv.mono x)
end

def toDs (f : OV → Option PyData) : List OV → Option (List PyData)
  | [] => some []
  | x :: xs => (f x).bind fun d => (toDs f xs).map fun ds => d :: ds
def toD (h : OH) : Nat → OV → Option PyData
  | 0, _ => none
  | n + 1, v => match v with
    | .non => some .none
    | .bl b => some (.bool b)
    | .int i => some (.int i)
    | .str x => some (.str x)
    | .tup xs => (toDs (toD h n) xs).map .tuple
    | .rol xs => (toDs (toD h n) xs).map .list
    | .ref a => match h[a]? with
      | some (.lst xs) => (toDs (toD h n) xs).map .list
      | _ => none
theorem toDs_ok {K : PySem.W.Frag} {w : Wd} {f : OV → Option PyData} (hf : ∀ x v d, f x = some d → VR K w x v → Dp K w.H v d) : ∀ {xs : List OV} {vs : List V} {ds : List PyData}, toDs f xs = some ds → VRs K w xs vs → DpAll K w.H vs ds
  | [], vs, ds, e, r => by
    simp only [VRs] at r; subst r
    simp only [toDs, Option.some.injEq] at e; subst e
    exact .nil
  | x :: xs, vs, ds, e, r => by
    simp only [VRs] at r
    obtain ⟨v, q, rfl, h1, h2⟩ := r
    unfold toDs at e
    cases e1 : f x with
    | none => rw [e1] at e; cases e
    | some d =>
      rw [e1] at e
      simp only [Option.bind_some] at e
      cases e2 : toDs f xs with
      | none => rw [e2] at e; cases e
      | some es =>
        rw [e2] at e
        simp only [Option.map_some, Option.some.injEq] at e
        subst e
        exact .cons (hf x v d e1 h1) (toDs_ok hf e2 h2)
theorem toD_ok {K : PySem.W.Frag} {w : Wd} (rl : Rl K w) : ∀ (n : Nat) (x : OV) (v : V) (d : PyData), toD w.h n x = some d → VR K w x v → Dp K w.H v d
  | 0, _, _, _, e, _ => by cases e
  | n + 1, x, v, d, e, r => by
    have ih := toD_ok rl n
    cases x with
    | non => simp only [VR] at r; subst r; simp only [toD, Option.some.injEq] at e; subst e; exact .non
    | bl b => simp only [VR] at r; subst r; simp only [toD, Option.some.injEq] at e; subst e; exact .bl _
    | int b => simp only [VR] at r; subst r; simp only [toD, Option.some.injEq] at e; subst e; exact .int _
    | str b => simp only [VR] at r; subst r; simp only [toD, Option.some.injEq] at e; subst e; exact .str _
    | tup xs =>
      simp only [VR] at r
      obtain ⟨p, vs, rfl, h1, h2⟩ := r
      simp only [toD] at e
      cases e2 : toDs (toD w.h n) xs with
      | none => rw [e2] at e; cases e
      | some ds =>
        rw [e2] at e
        simp only [Option.map_some, Option.some.injEq] at e; subst e
        exact .tup (SqT.of h1) (toDs_ok ih e2 h2)
    | rol xs =>
      simp only [VR] at r
      obtain ⟨p, vs, rfl, h1, h2⟩ := r
      simp only [toD] at e
      cases e2 : toDs (toD w.h n) xs with
      | none => rw [e2] at e; cases e
      | some ds =>
        rw [e2] at e
        simp only [Option.map_some, Option.some.injEq] at e; subst e
        exact .lst h1.sq (toDs_ok ih e2 h2)
    | ref a =>
      obtain rfl := r.ref
      simp only [toD] at e
      split at e
      · rename_i xs ha
        obtain ⟨vs, h1, h2⟩ := rl.lst ha
        cases e2 : toDs (toD w.h n) xs with
        | none => rw [e2] at e; cases e
        | some ds =>
          rw [e2] at e
          simp only [Option.map_some, Option.some.injEq] at e; subst e
          exact .lst (SqL.of h1) (toDs_ok ih e2 h2)
      · cases e

section
variable {X : Cx}
theorem op_wk {f : Value → Value → Sem Value} {r r' : R2} (h : OpR X f r) (k : ∀ x y H Q, r' x y H Q → r x y H Q) : OpR X f r' := fun pins s σ H x y v u Q I rx ry q => h pins s σ H x y v u Q I rx ry (k _ _ _ _ q)
def oAdd : MO
  | .int i, .int j, h => some (.int (i + j), h)
  | .str x, .str y, h => if x.length + y.length ≤ sizeLine then some (.str (x ++ y), h) else none
  | .tup xs, .tup ys, h => if xs.length + ys.length ≤ sizeLine then some (.tup (xs ++ ys), h) else none
  | .ref a, .ref b, h => match h[a]?, h[b]? with
    | some (.lst xs), some (.lst ys) => if xs.length + ys.length ≤ sizeLine then some (.ref h.length, h ++ [.lst (xs ++ ys)]) else none
    | _, _ => none
  | _, _, _ => none
theorem o_add : OpR X (binaryOp .Add) (tV2 X.K oAdd) := by
  refine op_wk (((op_add.or op_add_str).or op_cat).or op_catA) fun x y H Q q => ?_
  obtain ⟨w, a, b, rfl, rl, ra, rb, p⟩ := q
  unfold oAdd at p
  split at p
  · obtain rfl : x = _ := by simpa only [VR] using ra
    obtain rfl : y = _ := by simpa only [VR] using rb
    exact .inl (.inl (.inl ⟨_, _, rfl, rfl, p.here rl _ vr_int⟩))
  · obtain rfl : x = _ := by simpa only [VR] using ra
    obtain rfl : y = _ := by simpa only [VR] using rb
    split at p
    · rename_i hz
      exact .inl (.inl (.inr ⟨_, _, rfl, rfl, hz, p.here rl _ vr_str⟩))
    · exact p.elim
  · simp only [VR] at ra rb
    obtain ⟨p1, v1, rfl, h1, r1⟩ := ra
    obtain ⟨p2, v2, rfl, h2, r2⟩ := rb
    split at p
    · rename_i hz
      have l1 := r1.length
      have l2 := r2.length
      refine .inr ⟨p1, p2, v1, v2, rfl, rfl, SqT.of h1, SqT.of h2, by omega, fun e => ?_, fun e e2 => ?_, fun e e2 q hq => ?_⟩
      · subst e
        simp only [List.length_nil, List.length_eq_zero_iff] at l1
        subst l1
        exact p.here rl (.ref p2) (by simp only [List.nil_append, VR]; exact ⟨p2, v2, rfl, h2, r2⟩)
      · subst e2
        simp only [List.length_nil, List.length_eq_zero_iff] at l2
        subst l2
        exact p.here rl (.ref p1) (by simp only [List.append_nil, VR]; exact ⟨p1, v1, rfl, h1, r1⟩)
      · exact p_tup p rl (r1.app r2) hq
    · exact p.elim
  · obtain rfl := ra.ref
    obtain rfl := rb.ref
    split at p
    · rename_i xs ys e1 e2
      obtain ⟨v1, h1, r1⟩ := rl.lst e1
      obtain ⟨v2, h2, r2⟩ := rl.lst e2
      split at p
      · rename_i hz
        have l1 := r1.length
        have l2 := r2.length
        exact .inl (.inr ⟨_, _, v1, v2, rfl, rfl, h1, h2, by omega, fun q hq => p_new p rl ⟨_, rfl, r1.app r2⟩ hq⟩)
      · exact p.elim
    · exact p.elim
  · exact p.elim
def oInt (c : Int → Int → Bool) (f : Int → Int → Int) : MO
  | .int i, .int j, h => if c i j = true then some (.int (f i j), h) else none
  | _, _, _ => none
theorem o_int {C : Int → Int → Prop} {f : Value → Value → Sem Value} {c : Int → Int → Bool} {g : Int → Int → Int} (ho : OpR X f (rI C fun i j => .int (g i j))) (hc : ∀ i j, c i j = true → C i j) : OpR X f (tV2 X.K (oInt c g)) := by
  refine op_wk ho fun x y H Q q => ?_
  obtain ⟨w, a, b, rfl, rl, ra, rb, p⟩ := q
  unfold oInt at p
  split at p
  · obtain rfl : x = _ := by simpa only [VR] using ra
    obtain rfl : y = _ := by simpa only [VR] using rb
    split at p
    · rename_i hz
      exact ⟨_, _, rfl, rfl, hc _ _ hz, p.here rl _ vr_int⟩
    · exact p.elim
  · exact p.elim
def oSub : MO := oInt (fun _ _ => true) (fun i j => i - j)
theorem o_sub : OpR X (binaryOp .Sub) (tV2 X.K oSub) := o_int (C := fun _ _ => True) (op_wk op_sub fun _ _ _ _ ⟨i, j, e1, e2, _, e3⟩ => ⟨i, j, e1, e2, e3⟩) fun _ _ _ => trivial
def cMul (i j : Int) : Bool := decide (i.natAbs < 2 ^ 64) || decide (j.natAbs < 2 ^ 64)
def oMul : MO
  | .int i, .int j, h => if cMul i j = true then some (.int (i * j), h) else none
  | .ref a, .int k, h => match h[a]? with
    | some (.lst xs) => if 0 ≤ k ∧ k < 2 ^ 63 ∧ xs.length * k.toNat ≤ sizeLine then some (.ref h.length, h ++ [.lst (List.replicate k.toNat xs).flatten]) else none
    | _ => none
  | _, _, _ => none
theorem VRs.rep {K : PySem.W.Frag} {w : Wd} {xs : List OV} {vs : List V} (r : VRs K w xs vs) : ∀ n : Nat, VRs K w (List.replicate n xs).flatten (List.replicate n vs).flatten
  | 0 => VRs.nil
  | n + 1 => by
    rw [List.replicate_succ, List.replicate_succ, List.flatten_cons, List.flatten_cons]
    exact r.app (VRs.rep r n)
theorem o_mul : OpR X (binaryOp .Mult) (tV2 X.K oMul) := by
  refine op_wk (op_mul.or op_rep) fun x y H Q q => ?_
  obtain ⟨w, a, b, rfl, rl, ra, rb, p⟩ := q
  unfold oMul at p
  split at p
  · obtain rfl : x = _ := by simpa only [VR] using ra
    obtain rfl : y = _ := by simpa only [VR] using rb
    split at p
    · rename_i hz
      refine .inl ⟨_, _, rfl, rfl, ?_, p.here rl _ vr_int⟩
      unfold cMul at hz
      simp only [Bool.or_eq_true, decide_eq_true_eq] at hz
      unfold CMul
      omega
    · exact p.elim
  · obtain rfl := ra.ref
    obtain rfl : y = _ := by simpa only [VR] using rb
    split at p
    · rename_i xs e1
      obtain ⟨v1, h1, r1⟩ := rl.lst e1
      split at p
      · rename_i hz
        have l1 := r1.length
        exact .inr ⟨_, _, v1, rfl, rfl, h1, by omega, hz.2.1, by rw [← l1]; exact hz.2.2, fun q hq => p_new p rl ⟨_, rfl, r1.rep _⟩ hq⟩
      · exact p.elim
    · exact p.elim
  · exact p.elim
def oFdiv : MO := oInt (fun _ j => decide (0 < j) && decide (j < 1073741824)) (fun i j => i / j)
theorem o_fdiv : OpR X (binaryOp .FloorDiv) (tV2 X.K oFdiv) := o_int op_fdiv fun i j h => by
  simp only [Bool.and_eq_true, decide_eq_true_eq] at h
  exact h
def oMod : MO := oInt (fun _ j => decide (0 < j)) (fun i j => i % j)
theorem o_mod : OpR X (binaryOp .Mod) (tV2 X.K oMod) := o_int op_mod fun i j h => by
  simp only [decide_eq_true_eq] at h
  exact h
def oPow : MO := oInt (fun i j => decide (0 ≤ j) && decide (j ≤ 1000) && decide (i.natAbs < 2 ^ 64)) (fun i j => i ^ j.toNat)
theorem o_pow : OpR X (binaryOp .Pow) (tV2 X.K oPow) := o_int op_pow fun i j h => by
  simp only [Bool.and_eq_true, decide_eq_true_eq] at h
  exact ⟨h.1.1, by omega, h.2⟩
def oRel (f : Int → Int → Bool) : MO
  | .int i, .int j, h => some (.bl (f i j), h)
  | _, _, _ => none
theorem o_rel {f : Value → Value → Sem Value} {g : Int → Int → Bool} (ho : OpR X f (rI0 fun i j => .bl (g i j))) : OpR X f (tV2 X.K (oRel g)) := by
  refine op_wk ho fun x y H Q q => ?_
  obtain ⟨w, a, b, rfl, rl, ra, rb, p⟩ := q
  unfold oRel at p
  split at p
  · obtain rfl : x = _ := by simpa only [VR] using ra
    obtain rfl : y = _ := by simpa only [VR] using rb
    exact ⟨_, _, rfl, rfl, p.here rl _ vr_bl⟩
  · exact p.elim
def oLt : MO := oRel fun i j => decide (i < j)
def oLe : MO := oRel fun i j => decide (i ≤ j)
def oGt : MO := oRel fun i j => decide (j < i)
def oGe : MO := oRel fun i j => decide (j ≤ i)
theorem o_lt : OpR X (compareOp .Lt) (tV2 X.K oLt) := o_rel op_lt
theorem o_le : OpR X (compareOp .LtE) (tV2 X.K oLe) := o_rel op_le
theorem o_gt : OpR X (compareOp .Gt) (tV2 X.K oGt) := o_rel op_gt
theorem o_ge : OpR X (compareOp .GtE) (tV2 X.K oGe) := o_rel op_ge
/-- == of data -/
def dEq0 (h : OH) (x y : OV) : Option Bool := (toD h 12 x).bind fun d => (toD h 12 y).bind fun e => if (SeqAt.shaped d && SeqAt.shaped e) = true then some (PyData.eqv d e) else none
def dEq (h : OH) (x y : OV) : Option Bool := match x, y with
  | .str a, .str b => some (a == b)
  | x, y => dEq0 h x y
theorem dEq_of0 {h : OH} {x y : OV} {r : Bool} (e : dEq0 h x y = some r) : dEq h x y = some r := by
  unfold dEq
  split
  · unfold dEq0 at e
    simp only [toD, Option.bind_some] at e
    split at e
    · rw [← e]; rfl
    · cases e
  · exact e
theorem dEq_split {h : OH} {x y : OV} {r : Bool} (e : dEq h x y = some r) : (∃ a b, x = .str a ∧ y = .str b ∧ (a == b) = r) ∨ dEq0 h x y = some r := by
  unfold dEq at e
  split at e
  · exact .inl ⟨_, _, rfl, rfl, Option.some.inj e⟩
  · exact .inr e
def oEq : MO := fun x y h => (dEq h x y).map fun b => (.bl b, h)
def oNe : MO := fun x y h => (dEq h x y).map fun b => (.bl (!b), h)
theorem dEq0_ok {K : PySem.W.Frag} {w : Wd} {a b : OV} {x y : V} {r : Bool} (rl : Rl K w) (ra : VR K w a x) (rb : VR K w b y) (e : dEq0 w.h a b = some r) : ∃ d f, Dp K w.H x d ∧ Dp K w.H y f ∧ SeqAt.shaped d = true ∧ SeqAt.shaped f = true ∧ PyData.eqv d f = r := by
  unfold dEq0 at e
  cases e1 : toD w.h 12 a with
  | none => rw [e1] at e; cases e
  | some d =>
    rw [e1] at e
    simp only [Option.bind_some] at e
    cases e2 : toD w.h 12 b with
    | none => rw [e2] at e; cases e
    | some f =>
      rw [e2] at e
      simp only [Option.bind_some] at e
      split at e
      · rename_i hz
        simp only [Bool.and_eq_true] at hz
        exact ⟨d, f, toD_ok rl _ _ _ _ e1 ra, toD_ok rl _ _ _ _ e2 rb, hz.1, hz.2, Option.some.inj e⟩
      · cases e
theorem o_eq (hu : X.A.units + 64 < cLine) : OpR X (compareOp .Eq) (tV2 X.K oEq) := by
  refine op_wk (OpR.or op_eq (op_eqD hu)) fun x y H Q q => ?_
  obtain ⟨w, a, b, rfl, rl, ra, rb, p⟩ := q
  unfold oEq at p
  cases e : dEq w.h a b with
  | none => rw [e] at p; exact p.elim
  | some r =>
    rw [e] at p
    rcases dEq_split e with ⟨s, t, rfl, rfl, e2⟩ | e
    · obtain rfl : x = _ := by simpa only [VR] using ra
      obtain rfl : y = _ := by simpa only [VR] using rb
      exact .inl ⟨rfl, by rw [dec_str, e2]; exact Post.here p rl _ vr_bl⟩
    obtain ⟨d, f, h1, h2, h3, h4, h5⟩ := dEq0_ok rl ra rb e
    exact .inr ⟨d, f, h1, h2, h3, h4, by rw [h5]; exact Post.here p rl _ vr_bl⟩
theorem o_ne (hu : X.A.units + 64 < cLine) : OpR X (compareOp .NotEq) (tV2 X.K oNe) := by
  refine op_wk (OpR.or op_ne (op_neD hu)) fun x y H Q q => ?_
  obtain ⟨w, a, b, rfl, rl, ra, rb, p⟩ := q
  unfold oNe at p
  cases e : dEq w.h a b with
  | none => rw [e] at p; exact p.elim
  | some r =>
    rw [e] at p
    rcases dEq_split e with ⟨s, t, rfl, rfl, e2⟩ | e
    · obtain rfl : x = _ := by simpa only [VR] using ra
      obtain rfl : y = _ := by simpa only [VR] using rb
      exact .inl ⟨rfl, by rw [dec_str, e2]; exact Post.here p rl _ vr_bl⟩
    obtain ⟨d, f, h1, h2, h3, h4, h5⟩ := dEq0_ok rl ra rb e
    exact .inr ⟨d, f, h1, h2, h3, h4, by rw [h5]; exact Post.here p rl _ vr_bl⟩
/-- in, not in -/
def inStr (x y : Str) : Bool := !(Builtin.Str.occurrences y x 0 y.length 1).isEmpty
def dIn (h : OH) (x y : OV) : Option Bool := match y with
  | .str y => match x with
    | .str x => some (inStr x y)
    | _ => none
  | .tup ys => (toDs (toD h 1) ys).bind fun ds => (toD h 1 x).map fun d => ds.any fun z => PyData.eqv z d
  | .ref a => match h[a]? with
    | some (.lst ys) => (toDs (toD h 10) ys).bind fun ds => (toD h 10 x).bind fun d => if (SeqAt.shaped d && SeqAt.shaped (.list ds)) = true then some (ds.any fun z => PyData.eqv z d) else none
    | _ => none
  | _ => none
end
end O

set_option maxHeartbeats 4000000
namespace O
open PySem L2
def flatO : OV → Bool
  | .non => true
  | .bl _ => true
  | .int _ => true
  | .str _ => true
  | _ => false
def fEq : OV → OV → Bool
  | .non, .non => true
  | .bl a, .bl b => a == b
  | .bl a, .int b => (if a then 1 else 0) == b
  | .int a, .bl b => a == (if b then 1 else 0)
  | .int a, .int b => a == b
  | .str a, .str b => a == b
  | _, _ => false
theorem flatO_ok {K : PySem.W.Frag} {w : Wd} {x : OV} {v : V} (h : VR K w x v) (f : flatO x = true) : flatV v = true := by
  cases x <;> simp only [VR] at h <;> first | (subst h; rfl) | cases f
theorem fEq_ok {K : PySem.W.Frag} {w : Wd} {x y : OV} {v u : V} (h : VR K w x v) (q : VR K w y u) (f : flatO x = true) (g : flatO y = true) : eqV v u = fEq x y := by
  cases x <;> first | (simp only [VR] at h; subst h; cases y <;> first | (simp only [VR] at q; subst q; rfl) | cases g) | cases f
theorem flats_ok {K : PySem.W.Frag} {w : Wd} : ∀ {xs : List OV} {vs : List V}, VRs K w xs vs → xs.all flatO = true → vs.all flatV = true
  | [], _, h, _ => by simp only [VRs] at h; subst h; rfl
  | x :: xs, _, h, f => by
    simp only [VRs] at h
    obtain ⟨v, r, rfl, h1, h2⟩ := h
    rw [List.all_cons, Bool.and_eq_true] at f
    rw [List.all_cons, flatO_ok h1 f.1, flats_ok h2 f.2] <;> rfl
theorem inO_ok {K : PySem.W.Frag} {w : Wd} {y : OV} {u : V} (q : VR K w y u) (g : flatO y = true) : ∀ {xs : List OV} {vs : List V}, VRs K w xs vs → xs.all flatO = true → inV u vs = xs.any fun z => fEq z y
  | [], _, h, _ => by simp only [VRs] at h; subst h; rfl
  | x :: xs, _, h, f => by
    simp only [VRs] at h
    obtain ⟨v, r, rfl, h1, h2⟩ := h
    rw [List.all_cons, Bool.and_eq_true] at f
    have ih := inO_ok q g h2 f.2
    unfold inV at ih ⊢
    rw [List.any_cons, List.any_cons, ih, fEq_ok h1 q f.1 g]
def kOf : OV → Option Key
  | .int i => some (.inl i)
  | .str x => some (.inr x)
  | _ => none
def kOfs : List OV → Option (List Key)
  | [] => some []
  | x :: xs => (kOf x).bind fun k => (kOfs xs).map fun r => k :: r
def tOf : OV → Option (List Key)
  | .tup xs => kOfs xs
  | _ => none
section
variable {k : Type} [DecidableEq k]
def getO (kvs : List (k × OV)) (x : k) : Option OV := (kvs.find? fun kv => decide (kv.1 = x)).map (·.2)
def putO (kvs : List (k × OV)) (x : k) (v : OV) : List (k × OV) :=
  if (kvs.any fun kv => decide (kv.1 = x)) = true then kvs.map (fun kv => if kv.1 = x then (kv.1, v) else kv) else kvs ++ [(x, v)]
theorem KVR.length {K : PySem.W.Frag} {w : Wd} : ∀ {xs : List (k × OV)} {vs : List (k × V)}, KVR K w xs vs → xs.length = vs.length
  | [], _, h => by have h : _ = [] := h; subst h; rfl
  | _ :: _, _, h => by
    obtain ⟨v, r, rfl, _, h3⟩ := h
    simp [KVR.length h3]
theorem getO_ok {K : PySem.W.Frag} {w : Wd} {x : k} : ∀ {xs : List (k × OV)} {vs : List (k × V)}, KVR K w xs vs → (∀ u, getO xs x = some u → ∃ v, valV vs x = some v ∧ VR K w u v) ∧ (getO xs x = none → valV vs x = none)
  | [], _, h => by have h : _ = [] := h; subst h; exact ⟨fun u e => by simp [getO] at e, fun _ => rfl⟩
  | p :: xs, _, h => by
    obtain ⟨v, r, rfl, h2, h3⟩ := h
    by_cases e : p.1 = x
    · rw [valV_pos e]
      have : getO (p :: xs) x = some p.2 := by simp [getO, List.find?_cons, e]
      rw [this]
      exact ⟨fun u e => by cases e; exact ⟨v, rfl, h2⟩, fun e => by cases e⟩
    · rw [valV_neg e]
      have : getO (p :: xs) x = getO xs x := by simp [getO, List.find?_cons, e]
      rw [this]
      exact getO_ok h3
theorem anyK_ok {K : PySem.W.Frag} {w : Wd} {x : k} : ∀ {xs : List (k × OV)} {vs : List (k × V)}, KVR K w xs vs → (xs.any fun kv => decide (kv.1 = x)) = (vs.any fun kv => decide (kv.1 = x))
  | [], _, h => by have h : _ = [] := h; subst h; rfl
  | p :: xs, _, h => by
    obtain ⟨v, r, rfl, h2, h3⟩ := h
    rw [List.any_cons, List.any_cons, anyK_ok h3]
theorem KVR.app {K : PySem.W.Frag} {w : Wd} {x : k} {u : OV} {v : V} (q : VR K w u v) : ∀ {xs : List (k × OV)} {vs : List (k × V)}, KVR K w xs vs → KVR K w (xs ++ [(x, u)]) (vs ++ [(x, v)])
  | [], _, h => by have h : _ = [] := h; subst h; exact ⟨v, [], rfl, q, rfl⟩
  | p :: xs, _, h => by
    obtain ⟨y, r, rfl, h2, h3⟩ := h
    exact ⟨y, _, rfl, h2, KVR.app q h3⟩
theorem KVR.rep {K : PySem.W.Frag} {w : Wd} {x : k} {u : OV} {v : V} (q : VR K w u v) : ∀ {xs : List (k × OV)} {vs : List (k × V)}, KVR K w xs vs → KVR K w (xs.map fun kv => if kv.1 = x then (kv.1, u) else kv) (vs.map fun kv => if kv.1 = x then (kv.1, v) else kv)
  | [], _, h => by have h : _ = [] := h; subst h; exact rfl
  | p :: xs, _, h => by
    obtain ⟨y, r, rfl, h2, h3⟩ := h
    rw [List.map_cons, List.map_cons]
    by_cases e : p.1 = x
    · rw [if_pos e, if_pos e]
      exact ⟨v, _, rfl, q, KVR.rep q h3⟩
    · rw [if_neg e, if_neg e]
      exact ⟨y, _, rfl, h2, KVR.rep q h3⟩
theorem putO_ok {K : PySem.W.Frag} {w : Wd} {x : k} {u : OV} {v : V} {xs : List (k × OV)} {vs : List (k × V)} (h : KVR K w xs vs) (q : VR K w u v) : KVR K w (putO xs x u) (putK vs x v) := by
  unfold putO putK
  rw [anyK_ok h]
  split
  · exact h.rep q
  · exact h.app q
end
theorem kOf_ok {K : PySem.W.Frag} {w : Wd} {x : OV} {v : V} {y : Key} (h : VR K w x v) (e : kOf x = some y) : v = kV y := by
  cases x <;> simp only [kOf, Option.some.injEq] at e <;> first | (subst e; simp only [VR] at h; subst h; rfl) | cases e
theorem kOfs_ok {K : PySem.W.Frag} {w : Wd} : ∀ {xs : List OV} {vs : List V} {y : List Key}, VRs K w xs vs → kOfs xs = some y → vs = y.map kV
  | [], _, _, h, e => by
    simp only [VRs] at h; subst h
    simp only [kOfs, Option.some.injEq] at e; subst e; rfl
  | x :: xs, _, y, h, e => by
    simp only [VRs] at h
    obtain ⟨v, r, rfl, h1, h2⟩ := h
    unfold kOfs at e
    cases e1 : kOf x with
    | none => rw [e1] at e; cases e
    | some k1 =>
      rw [e1] at e
      simp only [Option.bind_some] at e
      cases e2 : kOfs xs with
      | none => rw [e2] at e; cases e
      | some ks =>
        rw [e2] at e
        simp only [Option.map_some, Option.some.injEq] at e
        subst e
        rw [List.map_cons, kOf_ok h1 e1, kOfs_ok h2 e2]
theorem tOf_ok {K : PySem.W.Frag} {w : Wd} {x : OV} {v : V} {y : List Key} (h : VR K w x v) (e : tOf x = some y) : ∃ b, v = .ref b ∧ w.H b = some (.tup (y.map kV)) := by
  cases x <;> simp only [tOf] at e <;> first | cases e | skip
  simp only [VR] at h
  obtain ⟨p, vs, rfl, h1, h2⟩ := h
  exact ⟨p, rfl, by rw [← kOfs_ok h2 e]; exact h1⟩
/-- d[y], whether y is in d -/
def dGet (h : OH) (a : Nat) (y : OV) : Option (Option OV) := match h[a]? with
  | some (.dK kvs) => (kOf y).map fun k => getO kvs k
  | some (.lK kvs) => (kOf y).map fun k => getO kvs k
  | some (.dT kvs) => (tOf y).map fun k => getO kvs k
  | some (.lT kvs) => (tOf y).map fun k => getO kvs k
  | _ => none
theorem Rl.lK {K : PySem.W.Frag} {w : Wd} (rl : Rl K w) {a : Nat} {xs : List (Key × OV)} (h : w.h[a]? = some (.lK xs)) : ∃ od vs, w.H (w.rho a) = some (.frz od (.dK vs)) ∧ KVR K w xs vs := by
  obtain ⟨ho, h1, od, vs, rfl, h2⟩ := rl.obj a _ h
  exact ⟨od, vs, h1, h2⟩
theorem Rl.lT {K : PySem.W.Frag} {w : Wd} (rl : Rl K w) {a : Nat} {xs : List (List Key × OV)} (h : w.h[a]? = some (.lT xs)) : ∃ od vs, w.H (w.rho a) = some (.frz od (.dT vs)) ∧ KVR K w xs vs := by
  obtain ⟨ho, h1, od, vs, rfl, h2⟩ := rl.obj a _ h
  exact ⟨od, vs, h1, h2⟩
theorem dGet_ok {K : PySem.W.Frag} {w : Wd} (rl : Rl K w) {a : Nat} {y : OV} {v : V} {o : Option OV} (r : VR K w y v) (e : dGet w.h a y = some o) : ∃ o', DGet w.H (w.rho a) v o' ∧ (∀ u, o = some u → ∃ u', o' = some u' ∧ VR K w u u') ∧ (o = none → o' = none) := by
  unfold dGet at e
  split at e
  · rename_i kvs ha
    obtain ⟨vs, h1, h2⟩ := rl.dK ha
    cases ek : kOf y with
    | none => rw [ek] at e; cases e
    | some q =>
      rw [ek] at e
      simp only [Option.map_some, Option.some.injEq] at e
      subst e
      obtain ⟨g1, g2⟩ := getO_ok (x := q) h2
      exact ⟨valV vs q, .inl ⟨vs, q, .inl h1, kOf_ok r ek, rfl⟩, g1, g2⟩
  · rename_i kvs ha
    obtain ⟨od, vs, h1, h2⟩ := rl.lK ha
    cases ek : kOf y with
    | none => rw [ek] at e; cases e
    | some q =>
      rw [ek] at e
      simp only [Option.map_some, Option.some.injEq] at e
      subst e
      obtain ⟨g1, g2⟩ := getO_ok (x := q) h2
      exact ⟨valV vs q, .inl ⟨vs, q, .inr ⟨od, h1⟩, kOf_ok r ek, rfl⟩, g1, g2⟩
  · rename_i kvs ha
    obtain ⟨vs, h1, h2⟩ := rl.dT ha
    cases ek : tOf y with
    | none => rw [ek] at e; cases e
    | some q =>
      rw [ek] at e
      simp only [Option.map_some, Option.some.injEq] at e
      subst e
      obtain ⟨g1, g2⟩ := getO_ok (x := q) h2
      obtain ⟨b, rfl, hb⟩ := tOf_ok r ek
      exact ⟨valV vs q, .inr ⟨vs, q, b, .inl h1, rfl, hb, rfl⟩, g1, g2⟩
  · rename_i kvs ha
    obtain ⟨od, vs, h1, h2⟩ := rl.lT ha
    cases ek : tOf y with
    | none => rw [ek] at e; cases e
    | some q =>
      rw [ek] at e
      simp only [Option.map_some, Option.some.injEq] at e
      subst e
      obtain ⟨g1, g2⟩ := getO_ok (x := q) h2
      obtain ⟨b, rfl, hb⟩ := tOf_ok r ek
      exact ⟨valV vs q, .inr ⟨vs, q, b, .inr ⟨od, h1⟩, rfl, hb, rfl⟩, g1, g2⟩
  · cases e
/-- x in y -/
def oHas (h : OH) (x y : OV) : Option Bool := match y with
  | .str y => match x with
    | .str x => some (inStr x y)
    | _ => none
  | .tup ys => if (flatO x && ys.all flatO) = true then some (ys.any fun z => fEq z x) else none
  | .ref a => match h[a]? with
    | some (.lst ys) => (toDs (toD h 10) ys).bind fun ds => (toD h 10 x).bind fun d => if (SeqAt.shaped d && SeqAt.shaped (.list ds)) = true then some (ds.any fun z => PyData.eqv z d) else none
    | _ => (dGet h a x).map (·.isSome)
  | _ => none
def oIn : MO := fun x y h => (oHas h x y).map fun b => (.bl b, h)
def oNotIn : MO := fun x y h => (oHas h x y).map fun b => (.bl (!b), h)
section
variable {X : Cx}
theorem op_in_d (hu : X.A.units + 1 < cLine) : OpR X (compareOp .In) (fun y x H Q => ∃ a o, x = .ref a ∧ DGet H a y o ∧ Q (.bl o.isSome) H) := fun pins s σ H y x v u Q I ry rx q => by
  obtain ⟨a, o, rfl, g, q⟩ := q
  obtain rfl : u = Value.ref a := rx
  exact d_in hu I g ry fun s3 I3 => ⟨.bl o.isSome, H, I3, rfl, q⟩
theorem op_notin_d (hu : X.A.units + 1 < cLine) : OpR X (compareOp .NotIn) (fun y x H Q => ∃ a o, x = .ref a ∧ DGet H a y o ∧ Q (.bl (!o.isSome)) H) := fun pins s σ H y x v u Q I ry rx q => by
  obtain ⟨a, o, rfl, g, q⟩ := q
  obtain rfl : u = Value.ref a := rx
  exact d_notIn hu I g ry fun s3 I3 => ⟨.bl (!o.isSome), H, I3, rfl, q⟩
theorem oHas_ok {K : PySem.W.Frag} {w : Wd} {a b : OV} {x y : V} {r : Bool} (rl : Rl K w) (ra : VR K w a x) (rb : VR K w b y) (e : oHas w.h a b = some r) :
    (∃ i j, x = .str i ∧ y = .str j ∧ inStr i j = r) ∨ (∃ p vs, y = .ref p ∧ SqT K w.H p vs ∧ flatV x = true ∧ vs.all flatV = true ∧ inV x vs = r) ∨
      (∃ d ds, Dp K w.H x d ∧ Dp K w.H y (.list ds) ∧ SeqAt.shaped d = true ∧ SeqAt.shaped (.list ds) = true ∧ (ds.any fun z => PyData.eqv z d) = r) ∨ (∃ c o, y = .ref c ∧ DGet w.H c x o ∧ o.isSome = r) := by
  unfold oHas at e
  split at e
  · split at e
    · obtain rfl : x = _ := by simpa only [VR] using ra
      obtain rfl : y = _ := by simpa only [VR] using rb
      exact .inl ⟨_, _, rfl, rfl, Option.some.inj e⟩
    · cases e
  · simp only [VR] at rb
    obtain ⟨p, vs, rfl, h1, h2⟩ := rb
    split at e
    · rename_i hz
      simp only [Bool.and_eq_true] at hz
      exact .inr (.inl ⟨p, vs, rfl, SqT.of h1, flatO_ok ra hz.1, flats_ok h2 hz.2, by rw [inO_ok ra hz.1 h2 hz.2]; exact Option.some.inj e⟩)
    · cases e
  · rename_i c
    obtain rfl := rb.ref
    split at e
    · rename_i ys ha
      obtain ⟨vs, h1, h2⟩ := rl.lst ha
      cases e1 : toDs (toD w.h 10) ys with
      | none => rw [e1] at e; cases e
      | some ds =>
        rw [e1] at e
        simp only [Option.bind_some] at e
        cases e2 : toD w.h 10 a with
        | none => rw [e2] at e; cases e
        | some d =>
          rw [e2] at e
          simp only [Option.bind_some] at e
          split at e
          · rename_i hz
            simp only [Bool.and_eq_true] at hz
            exact .inr (.inr (.inl ⟨d, ds, toD_ok rl _ _ _ _ e2 ra, .lst (SqL.of h1) (toDs_ok (toD_ok rl _) e1 h2), hz.1, hz.2, Option.some.inj e⟩))
          · cases e
    · cases e1 : dGet w.h c a with
      | none => rw [e1] at e; cases e
      | some o =>
        rw [e1] at e
        simp only [Option.map_some, Option.some.injEq] at e
        obtain ⟨o', g, g1, g2⟩ := dGet_ok rl ra e1
        refine .inr (.inr (.inr ⟨_, o', rfl, g, ?_⟩))
        rw [← e]
        cases o with
        | none =>
          rw [g2 rfl]
          rfl
        | some u =>
          obtain ⟨u', h1, _⟩ := g1 u rfl
          rw [h1] <;> rfl
  · cases e
theorem o_in (hu : X.A.units + 65 < cLine) : OpR X (compareOp .In) (tV2 X.K oIn) := by
  refine op_wk (((op_in_str.or op_in_seq).or (op_inD hu)).or (op_in_d (by omega))) fun x y H Q q => ?_
  obtain ⟨w, a, b, rfl, rl, ra, rb, p⟩ := q
  unfold oIn at p
  cases e : oHas w.h a b with
  | none => rw [e] at p; exact p.elim
  | some r =>
    rw [e] at p
    have fin : Q (.bl r) w.H := Post.here p rl _ vr_bl
    rcases oHas_ok rl ra rb e with ⟨i, j, rfl, rfl, h⟩ | ⟨p, vs, rfl, h1, h2, h3, h⟩ | ⟨d, ds, h1, h2, h3, h4, h⟩ | ⟨c, o, rfl, g, h⟩
    · exact .inl (.inl (.inl ⟨i, j, rfl, rfl, by rw [← h] at fin; exact fin⟩))
    · exact .inl (.inl (.inr ⟨p, vs, rfl, .inr h1, h2, h3, by rw [← h] at fin; exact fin⟩))
    · exact .inl (.inr ⟨d, ds, h1, h2, h3, h4, by rw [← h] at fin; exact fin⟩)
    · exact .inr ⟨c, o, rfl, g, by rw [← h] at fin; exact fin⟩
theorem o_notin (hu : X.A.units + 65 < cLine) : OpR X (compareOp .NotIn) (tV2 X.K oNotIn) := by
  refine op_wk (((op_notIn_str.or op_notIn_seq).or (op_notInD hu)).or (op_notin_d (by omega))) fun x y H Q q => ?_
  obtain ⟨w, a, b, rfl, rl, ra, rb, p⟩ := q
  unfold oNotIn at p
  cases e : oHas w.h a b with
  | none => rw [e] at p; exact p.elim
  | some r =>
    rw [e] at p
    have fin : Q (.bl (!r)) w.H := Post.here p rl _ vr_bl
    rcases oHas_ok rl ra rb e with ⟨i, j, rfl, rfl, h⟩ | ⟨p, vs, rfl, h1, h2, h3, h⟩ | ⟨d, ds, h1, h2, h3, h4, h⟩ | ⟨c, o, rfl, g, h⟩
    · exact .inl (.inl (.inl ⟨i, j, rfl, rfl, by rw [← h] at fin; exact fin⟩))
    · exact .inl (.inl (.inr ⟨p, vs, rfl, .inr h1, h2, h3, by rw [← h] at fin; exact fin⟩))
    · exact .inl (.inr ⟨d, ds, h1, h2, h3, h4, by rw [← h] at fin; exact fin⟩)
    · exact .inr ⟨c, o, rfl, g, by rw [← h] at fin; exact fin⟩
def isNon : OV → Bool
  | .non => true
  | _ => false
def oIsN : MO := fun x y h => match y with
  | .non => some (.bl (isNon x), h)
  | _ => none
def oNotN : MO := fun x y h => match y with
  | .non => some (.bl (!isNon x), h)
  | _ => none
theorem isN_ok {K : PySem.W.Frag} {w : Wd} {a : OV} {x : V} (ra : VR K w a x) : decide (x = .non) = isNon a := by
  cases a <;> simp only [VR] at ra <;> first | (subst ra; rfl) | (obtain ⟨_, _, rfl, _⟩ := ra; rfl) | (obtain ⟨_, rfl⟩ := ra; rfl)
theorem o_isN : OpR X (compareOp .Is) (tV2 X.K oIsN) := by
  refine op_wk op_isN fun x y H Q q => ?_
  obtain ⟨w, a, b, rfl, rl, ra, rb, p⟩ := q
  unfold oIsN at p
  cases b with
  | non =>
    obtain rfl : y = _ := by simpa only [VR] using rb
    refine ⟨rfl, ?_⟩
    rw [isN_ok ra]
    exact Post.here p rl _ vr_bl
  | _ => exact p.elim
theorem o_notN : OpR X (compareOp .IsNot) (tV2 X.K oNotN) := by
  refine op_wk op_notN fun x y H Q q => ?_
  obtain ⟨w, a, b, rfl, rl, ra, rb, p⟩ := q
  unfold oNotN at p
  cases b with
  | non =>
    obtain rfl : y = _ := by simpa only [VR] using rb
    refine ⟨rfl, ?_⟩
    rw [isN_ok ra]
    exact Post.here p rl _ vr_bl
  | _ => exact p.elim
def oTru (h : OH) : OV → Option Bool
  | .non => some false
  | .bl b => some b
  | .int i => some (i != 0)
  | .str x => if x.length ≤ sizeLine then some (x.length != 0) else none
  | .tup xs => some (!xs.isEmpty)
  | .ref a => match h[a]? with
    | some (.lst xs) => some (!xs.isEmpty)
    | some (.dK xs) => some (!xs.isEmpty)
    | _ => none
  | _ => none
theorem oTru_ok {K : PySem.W.Frag} {w : Wd} {a : OV} {x : V} {r : Bool} (rl : Rl K w) (ra : VR K w a x) (e : oTru w.h a = some r) : TruV K x w.H r := by
  have em : ∀ {α β : Type} {l : List α} {m : List β}, l.length = m.length → (!l.isEmpty) = !m.isEmpty := fun {α β l m} h => by
    cases l <;> cases m <;> first | rfl | (simp at h)
  unfold oTru at e
  split at e
  · obtain rfl : x = _ := by simpa only [VR] using ra
    exact (Option.some.inj e).symm
  · obtain rfl : x = _ := by simpa only [VR] using ra
    exact (Option.some.inj e).symm
  · obtain rfl : x = _ := by simpa only [VR] using ra
    exact (Option.some.inj e).symm
  · obtain rfl : x = _ := by simpa only [VR] using ra
    split at e
    · rename_i y hz
      refine ⟨hz, ?_⟩
      rw [← Option.some.inj e]
      by_cases h : y.length = 0
      · rw [h]; rfl
      · have h2 : ((y.length : Nat) : Int) ≠ 0 := by omega
        rw [bne_iff_ne.mpr h, bne_iff_ne.mpr h2]
    · cases e
  · simp only [VR] at ra
    obtain ⟨p, vs, rfl, h1, h2⟩ := ra
    exact .inr (.inl ⟨vs, SqT.of h1, by rw [← Option.some.inj e]; exact em h2.length⟩)
  · obtain rfl := ra.ref
    split at e
    · rename_i ha
      obtain ⟨vs, h1, h2⟩ := rl.lst ha
      exact .inl ⟨vs, SqL.of h1, by rw [← Option.some.inj e]; exact em h2.length⟩
    · rename_i ha
      obtain ⟨vs, h1, h2⟩ := rl.dK ha
      exact .inr (.inr ⟨vs, h1, by rw [← Option.some.inj e]; exact em h2.length⟩)
    · cases e
  · cases e
abbrev MT := OSt → OH → Option (Bool × OH)
/-- a test by truth -/
def tTru (m : ME) : MT := fun s h => bnd (m s h) fun v h1 => (oTru h1 v).map fun b => (b, h1)
theorem s_tru {e : Expr} {m : ME} (he : PE X e (tE X.K m)) (hw : ∀ whole : Sem Value, PySem.isTrue e X.env whole = (do let v ← whole; standAt e.pos; holding [v] (truthy v)) := by intro _; rfl) : PT X e (tT X.K (tTru m)) := by
  refine pt_wk (pt_truth he hw) fun s H Q q => ?_
  obtain ⟨w, os, rfl, rl, sr, p⟩ := q
  refine ⟨w, os, rfl, rl, sr, (Post.bind p).mono fun v w1 e1 rl1 p1 v1 r1 => ?_⟩
  cases e : oTru w1.h v with
  | none => rw [e] at p1; exact p1.elim
  | some b =>
    rw [e] at p1
    exact ⟨b, oTru_ok rl1 r1 e, Post.here p1 rl1⟩
/-- a comparison's answer as a test -/
def tBool (m : ME) : MT := fun s h => bnd (m s h) fun v h1 => match v with
  | .bl b => some (b, h1)
  | _ => none
theorem t_bool {K : PySem.W.Frag} {m : ME} {s : St} {H : Hp} {Q : Bool → Hp → Prop} (q : tT K (tBool m) s H Q) : tE K m s H (fun x H' => ∃ k, x = .bl k ∧ Q k H') := by
  obtain ⟨w, os, rfl, rl, sr, p⟩ := q
  refine ⟨w, os, rfl, rl, sr, (Post.bind p).mono fun v w1 e1 rl1 p1 v1 r1 => ?_⟩
  cases v <;> first | exact p1.elim | (simp only [VR] at r1; subst r1; exact ⟨_, rfl, Post.here p1 rl1⟩)
theorem s_tcmp {a b : Expr} {ma mb : ME} {pos : Pos} {op : CmpOp} {g : MO} (ho : OpR X (compareOp op) (tV2 X.K g)) (ha : PE X a (tE X.K ma)) (hb : PE X b (tE X.K mb)) (hm : behindInMarks op b = false) : PT X (.Compare a [op] [b] pos) (tT X.K (tBool (eOp g ma mb))) :=
  pt_wk (pt_cmpR ho ha hb hm) fun _ _ _ q => by
    obtain ⟨w, os, r⟩ := t_bool q
    exact t_op ⟨w, os, r⟩
def tNotO (m : MT) : MT := fun s h => bnd (m s h) fun b h1 => some (!b, h1)
theorem s_tnot {a : Expr} {m : MT} {pos : Pos} (ha : PT X a (tT X.K m)) : PT X (.UnaryOp .Not a pos) (tT X.K (tNotO m)) := by
  refine pt_wk (pt_not ha) fun s H Q q => ?_
  obtain ⟨w, os, rfl, rl, sr, p⟩ := q
  exact ⟨w, os, rfl, rl, sr, (Post.bind p).mono fun v w1 e1 rl1 p1 => Post.here p1 rl1⟩
def tAndO (a b : MT) : MT := fun s h => bnd (a s h) fun c h1 => if c = true then b s h1 else some (false, h1)
def tOrO (a b : MT) : MT := fun s h => bnd (a s h) fun c h1 => if c = true then some (true, h1) else b s h1
theorem pw_wk {e : Expr} {t t' : TT} (h : PW X e t) (k : ∀ s H Q, t' s H Q → t s H Q) : PW X e t' := ⟨fun wh pins s σ H Q I q => h.run wh pins s σ H Q I (k _ _ _ q)⟩
theorem s_wand1 {a : Expr} {m : MT} {pos : Pos} (ha : PT X a (tT X.K m)) : PW X (.BoolOp .And [a] pos) (tT X.K m) := pw_and1 ha
theorem s_wor1 {a : Expr} {m : MT} {pos : Pos} (ha : PT X a (tT X.K m)) : PW X (.BoolOp .Or [a] pos) (tT X.K m) := pw_or1 ha
theorem s_wand {a b : Expr} {rest : List Expr} {m n : MT} {pos : Pos} (ha : PT X a (tT X.K m)) (hb : PW X (.BoolOp .And (b :: rest) pos) (tT X.K n)) : PW X (.BoolOp .And (a :: b :: rest) pos) (tT X.K (tAndO m n)) := by
  refine pw_wk (pw_and ha hb) fun s H Q q => ?_
  obtain ⟨w, os, rfl, rl, sr, p⟩ := q
  refine ⟨w, os, rfl, rl, sr, (Post.bind p).mono fun c w1 e1 rl1 p1 => ?_⟩
  by_cases h : c = true
  · rw [if_pos h] at p1 ⊢
    exact ⟨w1, os, rfl, rl1, sr.mono e1, p1⟩
  · rw [if_neg h] at p1 ⊢
    exact Post.here p1 rl1
theorem s_wor {a b : Expr} {rest : List Expr} {m n : MT} {pos : Pos} (ha : PT X a (tT X.K m)) (hb : PW X (.BoolOp .Or (b :: rest) pos) (tT X.K n)) : PW X (.BoolOp .Or (a :: b :: rest) pos) (tT X.K (tOrO m n)) := by
  refine pw_wk (pw_or ha hb) fun s H Q q => ?_
  obtain ⟨w, os, rfl, rl, sr, p⟩ := q
  refine ⟨w, os, rfl, rl, sr, (Post.bind p).mono fun c w1 e1 rl1 p1 => ?_⟩
  by_cases h : c = true
  · rw [if_pos h] at p1 ⊢
    exact Post.here p1 rl1
  · rw [if_neg h] at p1 ⊢
    exact ⟨w1, os, rfl, rl1, sr.mono e1, p1⟩
def eAnd (a b : ME) : ME := fun s h => bnd (a s h) fun v h1 => (oTru h1 v).bind fun c => if c = true then b s h1 else some (v, h1)
def eOr (a b : ME) : ME := fun s h => bnd (a s h) fun v h1 => (oTru h1 v).bind fun c => if c = true then some (v, h1) else b s h1
def eNot (a : ME) : ME := fun s h => bnd (a s h) fun v h1 => (oTru h1 v).map fun c => (.bl (!c), h1)
theorem s_one {a : Expr} {m : ME} {op : BoolOp} {pos : Pos} (ha : PE X a (tE X.K m)) : PE X (.BoolOp op [a] pos) (tE X.K m) := pe_one ha
theorem s_and {a b : Expr} {rest : List Expr} {m n : ME} {pos : Pos} (ha : PE X a (tE X.K m)) (hb : PE X (.BoolOp .And (b :: rest) pos) (tE X.K n)) : PE X (.BoolOp .And (a :: b :: rest) pos) (tE X.K (eAnd m n)) := by
  refine pe_wk (pe_andT ha hb) fun s H Q q => ?_
  obtain ⟨w, os, rfl, rl, sr, p⟩ := q
  refine ⟨w, os, rfl, rl, sr, (Post.bind p).mono fun v w1 e1 rl1 p1 v1 r1 => ?_⟩
  cases e : oTru w1.h v with
  | none => rw [e] at p1; exact p1.elim
  | some c =>
    rw [e] at p1
    simp only [Option.bind_some] at p1
    refine ⟨c, oTru_ok rl1 r1 e, ?_⟩
    by_cases h : c = true
    · rw [if_pos h] at p1 ⊢
      exact ⟨w1, os, rfl, rl1, sr.mono e1, p1⟩
    · rw [if_neg h] at p1 ⊢
      exact p1.here rl1 _ r1
theorem s_or {a b : Expr} {rest : List Expr} {m n : ME} {pos : Pos} (ha : PE X a (tE X.K m)) (hb : PE X (.BoolOp .Or (b :: rest) pos) (tE X.K n)) : PE X (.BoolOp .Or (a :: b :: rest) pos) (tE X.K (eOr m n)) := by
  refine pe_wk (pe_orT ha hb) fun s H Q q => ?_
  obtain ⟨w, os, rfl, rl, sr, p⟩ := q
  refine ⟨w, os, rfl, rl, sr, (Post.bind p).mono fun v w1 e1 rl1 p1 v1 r1 => ?_⟩
  cases e : oTru w1.h v with
  | none => rw [e] at p1; exact p1.elim
  | some c =>
    rw [e] at p1
    simp only [Option.bind_some] at p1
    refine ⟨c, oTru_ok rl1 r1 e, ?_⟩
    by_cases h : c = true
    · rw [if_pos h] at p1 ⊢
      exact p1.here rl1 _ r1
    · rw [if_neg h] at p1 ⊢
      exact ⟨w1, os, rfl, rl1, sr.mono e1, p1⟩
theorem s_not {a : Expr} {m : ME} {pos : Pos} (ha : PE X a (tE X.K m)) : PE X (.UnaryOp .Not a pos) (tE X.K (eNot m)) := by
  refine pe_wk (pe_notT ha) fun s H Q q => ?_
  obtain ⟨w, os, rfl, rl, sr, p⟩ := q
  refine ⟨w, os, rfl, rl, sr, (Post.bind p).mono fun v w1 e1 rl1 p1 v1 r1 => ?_⟩
  cases e : oTru w1.h v with
  | none => rw [e] at p1; exact p1.elim
  | some c =>
    rw [e] at p1
    exact ⟨c, oTru_ok rl1 r1 e, Post.here p1 rl1 _ vr_bl⟩
def eIf (c : MT) (a b : ME) : ME := fun s h => bnd (c s h) fun k h1 => if k = true then a s h1 else b s h1
theorem s_ife {c a b : Expr} {mc : MT} {ma mb : ME} {pos : Pos} (hc : PT X c (tT X.K mc)) (ha : PE X a (tE X.K ma)) (hb : PE X b (tE X.K mb)) : PE X (.IfExp c a b pos) (tE X.K (eIf mc ma mb)) := by
  refine pe_wk (pe_ifExp hc ha hb) fun s H Q q => ?_
  obtain ⟨w, os, rfl, rl, sr, p⟩ := q
  refine ⟨w, os, rfl, rl, sr, (Post.bind p).mono fun k w1 e1 rl1 p1 => ?_⟩
  by_cases h : k = true
  · rw [if_pos h] at p1 ⊢
    exact ⟨w1, os, rfl, rl1, sr.mono e1, p1⟩
  · rw [if_neg h] at p1 ⊢
    exact ⟨w1, os, rfl, rl1, sr.mono e1, p1⟩
/-- a < b < c -/
def eChain (f g : MO) (a b c : ME) : ME := fun s h => bnd (a s h) fun x h1 => bnd (b s h1) fun y h2 => bnd (f x y h2) fun z h3 => match z with
  | .bl true => bnd (c s h3) fun u h4 => g y u h4
  | .bl false => some (.bl false, h3)
  | _ => none
theorem t_chain {K : PySem.W.Frag} {f g : MO} {a b c : ME} {s : St} {H : Hp} {Q : VK} (q : tE K (eChain f g a b c) s H Q) : tChain (tV2 K f) (tV2 K g) (tE K a) (tE K b) (tE K c) s H Q := by
  obtain ⟨w, os, rfl, rl, sr, p⟩ := q
  refine ⟨w, os, rfl, rl, sr, (Post.bind p).mono fun x w1 e1 rl1 p1 v1 r1 => ?_⟩
  refine ⟨w1, os, rfl, rl1, sr.mono e1, (Post.bind p1).mono fun y w2 e2 rl2 p2 v2 r2 => ?_⟩
  refine ⟨w2, x, y, rfl, rl2, r1.mono e2, r2, (Post.bind p2).mono fun z w3 e3 rl3 p3 v3 r3 => ?_⟩
  cases z with
  | bl k =>
    simp only [VR] at r3
    subst r3
    refine ⟨k, rfl, ?_⟩
    cases k with
    | true =>
      rw [if_pos rfl]
      refine ⟨w3, os, rfl, rl3, (sr.mono e1).mono (e2.trans e3), (Post.bind p3).mono fun u w4 e4 rl4 p4 v4 r4 => ?_⟩
      exact ⟨w4, y, u, rfl, rl4, r2.mono (e3.trans e4), r4, p4⟩
    | false =>
      rw [if_neg (by decide)]
      exact Post.here p3 rl3 _ vr_bl
  | _ => exact p3.elim
theorem s_chain {a b c : Expr} {ma mb mc : ME} {pos : Pos} {op op' : CmpOp} {f g : MO} (ho : OpR X (compareOp op) (tV2 X.K f)) (ho' : OpR X (compareOp op') (tV2 X.K g)) (ha : PE X a (tE X.K ma)) (hb : PE X b (tE X.K mb)) (hc : PE X c (tE X.K mc))
    (hm : lastMarks [op, op'] [b, c] = false := by rfl) : PE X (.Compare a [op, op'] [b, c] pos) (tE X.K (eChain f g ma mb mc)) := pe_wk (pe_chain ho ho' ha hb hc hm) fun _ _ _ q => t_chain q
theorem s_tchain {a b c : Expr} {ma mb mc : ME} {pos : Pos} {op op' : CmpOp} {f g : MO} (ho : OpR X (compareOp op) (tV2 X.K f)) (ho' : OpR X (compareOp op') (tV2 X.K g)) (ha : PE X a (tE X.K ma)) (hb : PE X b (tE X.K mb)) (hc : PE X c (tE X.K mc))
    (hm : lastMarks [op, op'] [b, c] = false := by rfl) : PT X (.Compare a [op, op'] [b, c] pos) (tT X.K (tBool (eChain f g ma mb mc))) := pt_wk (pt_chain ho ho' ha hb hc hm) fun _ _ _ q => by
    obtain ⟨w, os, r⟩ := t_bool q
    exact t_chain ⟨w, os, r⟩
end
end O

set_option maxHeartbeats 4000000
namespace O
open PySem L2
abbrev MA := OSt → OH → Option (List OV × OH)
def aNil : MA := fun _ h => some ([], h)
def aCons (a : ME) (b : MA) : MA := fun s h => bnd (a s h) fun x h1 => bnd (b s h1) fun xs h2 => some (x :: xs, h2)
section
variable {X : Cx}
theorem s_nil : PA X [] (tA X.K aNil) := by
  refine pa_wk pa_nil fun s H Q q => ?_
  obtain ⟨w, os, rfl, rl, sr, p⟩ := q
  exact Post.here p rl [] VRs.nil
theorem s_cons {e : Expr} {es : List Expr} {m : ME} {n : MA} (ha : PE X e (tE X.K m)) (hr : PA X es (tA X.K n)) (hs : starEach (e :: es) X.env = (false, eval e X.env) :: starEach es X.env := by rfl) : PA X (e :: es) (tA X.K (aCons m n)) := by
  refine pa_wk (pa_cons ha hr hs) fun s H Q q => ?_
  obtain ⟨w, os, rfl, rl, sr, p⟩ := q
  refine ⟨w, os, rfl, rl, sr, (Post.bind p).mono fun x w1 e1 rl1 p1 v1 r1 => ?_⟩
  refine ⟨w1, os, rfl, rl1, sr.mono e1, (Post.bind p1).mono fun xs w2 e2 rl2 p2 v2 r2 => ?_⟩
  exact Post.here p2 rl2 _ (.cons (r1.mono e2) r2)
def eTup (m : MA) : ME := fun s h => bnd (m s h) fun xs h1 => if xs.length ≤ sizeLine then some (.tup xs, h1) else none
theorem s_tup {es : List Expr} {m : MA} {x1 pos} (h : PA X es (tA X.K m)) : PE X (.Tuple es x1 pos) (tE X.K (eTup m)) := by
  refine pe_wk (pe_tup h) fun s H Q q => ?_
  obtain ⟨w, os, rfl, rl, sr, p⟩ := q
  refine ⟨w, os, rfl, rl, sr, (Post.bind p).mono fun xs w1 e1 rl1 p1 vs r1 => ?_⟩
  split at p1
  · rename_i hz
    exact ⟨by rw [← r1.length]; exact hz, fun p hp => p_tup p1 rl1 r1 hp⟩
  · exact p1.elim
def eLst (m : MA) : ME := fun s h => bnd (m s h) fun xs h1 => if xs.length ≤ sizeLine then some (.ref h1.length, h1 ++ [.lst xs]) else none
theorem s_lst {es : List Expr} {m : MA} {pos} (h : PA X es (tA X.K m)) : PE X (.List es pos) (tE X.K (eLst m)) := by
  refine pe_wk (pe_lst h) fun s H Q q => ?_
  obtain ⟨w, os, rfl, rl, sr, p⟩ := q
  refine ⟨w, os, rfl, rl, sr, (Post.bind p).mono fun xs w1 e1 rl1 p1 vs r1 => ?_⟩
  split at p1
  · rename_i hz
    exact ⟨by rw [← r1.length]; exact hz, fun p hp => p_new p1 rl1 ⟨vs, rfl, r1⟩ hp⟩
  · exact p1.elim
def eDK : ME := fun _ h => some (.ref h.length, h ++ [.dK []])
def eDT : ME := fun _ h => some (.ref h.length, h ++ [.dT []])
theorem s_dK {pos} : PE X (.Dict [] [] pos) (tE X.K eDK) := by
  refine pe_wk pe_dnewK fun s H Q q => ?_
  obtain ⟨w, os, rfl, rl, sr, p⟩ := q
  exact fun q hq => p_new p rl ⟨[], rfl, rfl⟩ hq
theorem s_dT {pos} : PE X (.Dict [] [] pos) (tE X.K eDT) := by
  refine pe_wk pe_dnewT fun s H Q q => ?_
  obtain ⟨w, os, rfl, rl, sr, p⟩ := q
  exact fun q hq => p_new p rl ⟨[], rfl, rfl⟩ hq
theorem KVR.look {K : PySem.W.Frag} {w : Wd} {f : Str} : ∀ {xs : List (Str × OV)} {vs : List (Str × V)}, KVR K w xs vs → (∀ u, xs.lookup f = some u → ∃ v, vs.lookup f = some v ∧ VR K w u v) ∧ (xs.lookup f = none → vs.lookup f = none)
  | [], _, h => by have h : _ = [] := h; subst h; exact ⟨fun u e => by simp at e, fun _ => rfl⟩
  | p :: xs, _, h => by
    obtain ⟨v, r, rfl, h2, h3⟩ := h
    obtain ⟨n, x⟩ := p
    rw [List.lookup_cons, List.lookup_cons]
    cases e : f == n with
    | true => exact ⟨fun u e => by cases e; exact ⟨v, rfl, h2⟩, fun e => by cases e⟩
    | false => exact KVR.look h3
def eFld (C f : Str) (m : ME) : ME := fun s h => bnd (m s h) fun x h1 => match x with
  | .ref a => match h1[a]? with
    | some (.ins D fs) => if D = C then (fs.lookup f).map fun v => (v, h1) else none
    | _ => none
  | _ => none
theorem s_fld {C f : Str} {e : Expr} {m : ME} {pos : Pos} (he : PE X e (tE X.K m)) (cl : Cls X.K (He.ga X.K C)) (na : NoAttr X.K (He.ga X.K C) f) (hb : attributeBase e f X.env (eval e X.env) = eval e X.env := by rfl) : PE X (.Attribute e f pos) (tE X.K (eFld C f m)) := by
  refine pe_wk (pe_fld he hb) fun s H Q q => ?_
  obtain ⟨w, os, rfl, rl, sr, p⟩ := q
  refine ⟨w, os, rfl, rl, sr, (Post.bind p).mono fun x w1 e1 rl1 p1 v1 r1 => ?_⟩
  cases x with
  | ref a =>
    obtain rfl := r1.ref
    dsimp only at p1
    split at p1
    · rename_i D fs ha
      split at p1
      · rename_i hD
        subst hD
        obtain ⟨dx, vs, h1, h2⟩ := rl1.ins ha
        cases e : fs.lookup f with
        | none => rw [e] at p1; exact p1.elim
        | some v =>
          rw [e] at p1
          obtain ⟨v', h3, h4⟩ := (KVR.look h2).1 v e
          exact ⟨_, _, dx, vs, v', rfl, h1, cl, na, h3, Post.here p1 rl1 _ h4⟩
      · exact p1.elim
    · exact p1.elim
  | _ => exact p1.elim
abbrev MI := OV → OV → OH → Option OV
def oIx (x y : OV) (h : OH) : Option OV := match y with
  | .int i => match x with
    | .tup xs => atI xs i
    | .rol xs => atI xs i
    | .str z => if z.length ≤ sizeLine then (atI z.cps.toList i).map fun c => .str ⟨#[c]⟩ else none
    | .ref a => match h[a]? with
      | some (.lst xs) => atI xs i
      | _ => none
    | _ => none
  | _ => none
theorem VRs.ix {K : PySem.W.Frag} {w : Wd} {xs : List OV} {vs : List V} {i : Int} {x : OV} (h : VRs K w xs vs) (e : atI xs i = some x) : ∃ v, atI vs i = some v ∧ VR K w x v := by
  unfold atI at e ⊢
  rw [← h.length]
  cases e1 : ixN xs.length i with
  | none => rw [e1] at e; cases e
  | some j =>
    rw [e1] at e
    exact h.get e
def eIx (a b : ME) : ME := eOp (fun x y h => (oIx x y h).map fun v => (v, h)) a b
theorem s_ix {a b : Expr} {ma mb : ME} {pos : Pos} (ha : PE X a (tE X.K ma)) (hb : PE X b (tE X.K mb)) (hs : PlainIx b := by intro _ _; rfl) : PE X (.Subscript a b pos) (tE X.K (eIx ma mb)) := by
  have R : IxR X (tV2 X.K (fun x y h => (oIx x y h).map fun v => (v, h))) := by
    intro value slice pins s σ H x y v u Q I rx ry q hs
    refine ix_seq value slice pins s σ H x y v u Q I rx ry ?_ hs
    obtain ⟨w, a, b, rfl, rl, ra, rb, p⟩ := q
    dsimp only at p
    cases e : oIx a b w.h with
    | none => rw [e] at p; exact p.elim
    | some z =>
      rw [e] at p
      unfold oIx at e
      split at e
      · obtain rfl : y = _ := by simpa only [VR] using rb
        split at e
        · simp only [VR] at ra
          obtain ⟨p1, vs, rfl, h1, h2⟩ := ra
          obtain ⟨v', h3, h4⟩ := h2.ix e
          exact .inr (.inl ⟨_, vs, _, v', rfl, rfl, SqT.of h1, h3, Post.here p rl _ h4⟩)
        · simp only [VR] at ra
          obtain ⟨p1, vs, rfl, h1, h2⟩ := ra
          obtain ⟨v', h3, h4⟩ := h2.ix e
          exact .inl ⟨_, vs, _, v', rfl, rfl, h1.sq, h3, Post.here p rl _ h4⟩
        · obtain rfl : x = _ := by simpa only [VR] using ra
          split at e
          · rename_i z2 hz
            cases e2 : atI z2.cps.toList _ with
            | none => rw [e2] at e; cases e
            | some c =>
              rw [e2] at e
              simp only [Option.map_some, Option.some.injEq] at e
              subst e
              exact .inr (.inr ⟨_, _, c, rfl, rfl, hz, e2, Post.here p rl _ vr_str⟩)
          · cases e
        · obtain rfl := ra.ref
          split at e
          · rename_i ha
            obtain ⟨vs, h1, h2⟩ := rl.lst ha
            obtain ⟨v', h3, h4⟩ := h2.ix e
            exact .inl ⟨_, vs, _, v', rfl, rfl, SqL.of h1, h3, Post.here p rl _ h4⟩
          · cases e
        · cases e
      · cases e
  exact pe_wk (pe_ix R ha hb hs) fun _ _ _ q => t_op q
/-- d[k] -/
def eDix (a b : ME) : ME := fun s h => bnd (a s h) fun x h1 => bnd (b s h1) fun y h2 => match x with
  | .ref c => match dGet h2 c y with
    | some (some v) => some (v, h2)
    | _ => none
  | _ => none
theorem s_dix {a b : Expr} {ma mb : ME} {pos : Pos} (hu : X.A.units + 1 < cLine) (ha : PE X a (tE X.K ma)) (hb : PE X b (tE X.K mb)) (hs : NoSl b := by intro _ _; rfl) : PE X (.Subscript a b pos) (tE X.K (eDix ma mb)) := by
  refine pe_wk (pe_dget hu ha hb hs) fun s H Q q => ?_
  obtain ⟨w, os, rfl, rl, sr, p⟩ := q
  refine ⟨w, os, rfl, rl, sr, (Post.bind p).mono fun x w1 e1 rl1 p1 v1 r1 => ?_⟩
  refine ⟨w1, os, rfl, rl1, sr.mono e1, (Post.bind p1).mono fun y w2 e2 rl2 p2 v2 r2 => ?_⟩
  cases x with
  | ref c =>
    obtain rfl := (r1.mono e2).ref
    dsimp only at p2
    split at p2
    · rename_i v e
      obtain ⟨o', g, g1, g2⟩ := dGet_ok rl2 r2 e
      obtain ⟨v', rfl, h2⟩ := g1 v rfl
      exact ⟨_, v', rfl, g, Post.here p2 rl2 _ h2⟩
    · exact p2.elim
  | _ => exact p2.elim
def cutO (xs : List OV) (lo hi : Option Int) : List OV := (xs.drop (HT.sIx xs.length 0 lo)).take (HT.sIx xs.length xs.length hi - HT.sIx xs.length 0 lo)
theorem VRs.cut {K : PySem.W.Frag} {w : Wd} {xs : List OV} {vs : List V} (h : VRs K w xs vs) (lo hi : Option Int) : VRs K w (cutO xs lo hi) (cutV vs lo hi) := by
  unfold cutO cutV
  rw [← h.length]
  exact (h.drop _).take _
def oSl (x : OV) (lo hi : Option Int) (h : OH) : Option (OV × OH) := match x with
  | .str z => if z.length ≤ sizeLine then some (.str (cutS z lo hi), h) else none
  | .tup xs => some (.tup (cutO xs lo hi), h)
  | .ref a => match h[a]? with
    | some (.lst xs) => some (.ref h.length, h ++ [.lst (cutO xs lo hi)])
    | _ => none
  | _ => none
abbrev MP := OSt → OH → Option (Option Int × OH)
def oPart (m : ME) : MP := fun s h => bnd (m s h) fun x h1 => match x with
  | .int i => some (some i, h1)
  | _ => none
def oNoPart : MP := fun _ h => some (none, h)
def tP (K : PySem.W.Frag) (m : MP) : St → Hp → (Option Int → Hp → Prop) → Prop := fun s H Q => ∃ w os, w.H = H ∧ Rl K w ∧ SR K w os s ∧ Post K w (m os w.h) (fun b w' => Q b w'.H)
theorem po_wk {e : Option Expr} {t t' : St → Hp → (Option Int → Hp → Prop) → Prop} (h : PO X e t) (k : ∀ s H Q, t' s H Q → t s H Q) : PO X e t' := ⟨fun pins s σ H Q I q => h.run pins s σ H Q I (k _ _ _ q)⟩
theorem s_part {e : Expr} {m : ME} (he : PE X e (tE X.K m)) : PO X (some e) (tP X.K (oPart m)) := by
  refine po_wk (po_some he) fun s H Q q => ?_
  obtain ⟨w, os, rfl, rl, sr, p⟩ := q
  refine ⟨w, os, rfl, rl, sr, (Post.bind p).mono fun x w1 e1 rl1 p1 v1 r1 => ?_⟩
  cases x with
  | int i => simp only [VR] at r1; subst r1; exact ⟨_, rfl, Post.here p1 rl1⟩
  | _ => exact p1.elim
theorem s_nopart : PO X none (tP X.K oNoPart) := by
  refine po_wk po_none fun s H Q q => ?_
  obtain ⟨w, os, rfl, rl, sr, p⟩ := q
  exact Post.here p rl
def eSl (a : ME) (lo hi : MP) : ME := fun s h => bnd (a s h) fun x h1 => bnd (lo s h1) fun i h2 => bnd (hi s h2) fun j h3 => oSl x i j h3
theorem sl_wk {r r' : V → Option Int → Option Int → Hp → VK → Prop} (h : SlR X r) (k : ∀ x i j H Q, r' x i j H Q → r x i j H Q) : SlR X r' := fun pins s σ H x v vl vu lo hi sl Q I rx a b c q => h pins s σ H x v vl vu lo hi sl Q I rx a b c (k _ _ _ _ _ q)
theorem s_sl {e : Expr} {lo hi : Option Expr} {m : ME} {ml mh : MP} {pos p2 : Pos} (he : PE X e (tE X.K m)) (hl : PO X lo (tP X.K ml)) (hh : PO X hi (tP X.K mh)) : PE X (.Subscript e (.Slice lo hi none p2) pos) (tE X.K (eSl m ml mh)) := by
  have R : SlR X (fun x i j H Q => ∃ w a, w.H = H ∧ Rl X.K w ∧ VR X.K w a x ∧ Post X.K w (oSl a i j w.h) (Rs X.K Q)) := by
    refine sl_wk ((sl_list.or sl_str).or sl_tupA) fun x i j H Q q => ?_
    obtain ⟨w, a, rfl, rl, ra, p⟩ := q
    unfold oSl at p
    split at p
    · obtain rfl : x = _ := by simpa only [VR] using ra
      split at p
      · rename_i hz
        exact .inl (.inr ⟨_, rfl, hz, Post.here p rl _ vr_str⟩)
      · exact p.elim
    · simp only [VR] at ra
      obtain ⟨p1, vs, rfl, h1, h2⟩ := ra
      refine .inr ⟨p1, vs, rfl, SqT.of h1, fun e => ?_, fun _ q hq => p_tup p rl (h2.cut i j) hq⟩
      have : cutV vs i j = vs := by
        unfold cutV
        rw [e.1, e.2]
        simp
      refine Post.here p rl _ ?_
      have h3 := h2.cut i j
      rw [this] at h3
      simp only [VR]
      exact ⟨p1, vs, rfl, h1, h3⟩
    · obtain rfl := ra.ref
      split at p
      · rename_i ha
        obtain ⟨vs, h1, h2⟩ := rl.lst ha
        exact .inl (.inl ⟨_, vs, rfl, SqL.of h1, fun q hq => p_new p rl ⟨_, rfl, h2.cut i j⟩ hq⟩)
      · exact p.elim
    · exact p.elim
  refine pe_wk (pe_slice R he hl hh) fun s H Q q => ?_
  obtain ⟨w, os, rfl, rl, sr, p⟩ := q
  refine ⟨w, os, rfl, rl, sr, (Post.bind p).mono fun x w1 e1 rl1 p1 v1 r1 => ?_⟩
  refine ⟨w1, os, rfl, rl1, sr.mono e1, (Post.bind p1).mono fun i w2 e2 rl2 p2 => ?_⟩
  refine ⟨w2, os, rfl, rl2, (sr.mono e1).mono e2, (Post.bind p2).mono fun j w3 e3 rl3 p3 => ?_⟩
  exact ⟨w3, x, rfl, rl3, r1.mono (e2.trans e3), p3⟩
end
end O

set_option maxHeartbeats 4000000
namespace O
open PySem L2 PyProof.Rows
/-- what a context has -/
structure Bx (X : Cx) (k : Nat) : Prop where
  room : Room k X.A
  gd : X.A.guards = some []
  calm : X.calm = true
  nd : X.N.Nodup
  pass : PassesOwn (model X.prog X.w) X.A X.env X.xe
theorem Bx.hu {X : Cx} {k : Nat} (b : Bx X k) : X.A.units + 65 < cLine := by have := b.room.un; omega
theorem Bx.hu1 {X : Cx} {k : Nat} (b : Bx X k) : X.A.units + 1 < cLine := by have := b.room.un; omega
theorem Bx.hu64 {X : Cx} {k : Nat} (b : Bx X k) : X.A.units + 64 < cLine := by have := b.room.un; omega
abbrev MF := List OV → OH → Option (OV × OH)
/-- what a def is worth -/
def spO (K : PySem.W.Frag) (m : MF) : List V → Hp → VK → Prop := fun vs H Q => ∃ w os, w.H = H ∧ Rl K w ∧ VRs K w os vs ∧ Post K w (m os w.h) (Rs K Q)
structure FnG (P : Program) (w : World) (K : PySem.W.Frag) (mg : Str → Option Value) (base : Heap) (k : Nat) (f : Addr) (fd : FuncData) (ps : List Str) (m : MF) : Prop where
  run : ∀ (A : Around) (outer : List Env) (s : Shared) (H : Hp) (args : Args) (us : List Value) (vs : List V) (Q : VK), Room k A → A.guards = some [] → Env0 P w K mg base A outer s H → BindsTo s fd args (ps.zip us) → Vals vs us → vs.length = ps.length → spO K m vs H Q →
    codeAny (model P w) A (.call (.ref f) args) (L2.CR CX0 outer P w H s Q E0) s
theorem FnG.mono {P : Program} {w : World} {K : PySem.W.Frag} {mg : Str → Option Value} {base : Heap} {j k : Nat} {f : Addr} {fd : FuncData} {ps : List Str} {m : MF} (F : FnG P w K mg base j f fd ps m) (h : j ≤ k) : FnG P w K mg base k f fd ps m :=
  ⟨fun A outer s H args us vs Q hr => F.run A outer s H args us vs Q (hr.mono h)⟩
def fDef (n ar : Nat) (body : MS) : MF := fun vs h => if vs.length = ar then match body (vs.map some ++ List.replicate (n - ar) none) h with
    | some (.rt v, h') => some (v, h')
    | some (.nx _, h') => some (.non, h')
    | _ => none
  else none
theorem sr_start {K : PySem.W.Frag} {w : Wd} {N : List Str} : ∀ {os : List OV} {vs : List V}, VRs K w os vs → SR K w (os.map some ++ List.replicate (N.length - os.length) none) (L2.start N vs) := by
  intro os vs r
  have l := r.length
  refine ⟨by unfold L2.start; simp [l], fun i v e => ?_⟩
  by_cases hi : i < os.length
  · rw [List.getElem?_append_left (by simpa using hi), List.getElem?_map] at e
    cases e1 : os[i]? with
    | none => rw [e1] at e; cases e
    | some x =>
      rw [e1] at e
      cases e
      obtain ⟨v', h1, h2⟩ := r.get e1
      refine ⟨v', ?_, h2⟩
      unfold L2.start
      rw [List.getElem?_append_left (by rw [List.length_map, ← l]; exact hi), List.getElem?_map, h1] <;> rfl
  · rw [List.getElem?_append_right (by simpa using hi), List.getElem?_replicate] at e
    split at e <;> cases e
section
variable {P : Program} {w : World} {K : PySem.W.Frag} {mg : Str → Option Value} {base : Heap}
abbrev bodyCx (P : Program) (w : World) (K : PySem.W.Frag) (mg : Str → Option Value) (base : Heap) (N : List Str) (qual : Str) (scope : Scope) (f : Addr) (cd : Value) (A : Around) (outer : List Env) (s : Shared) (H : Hp) : Cx := (cxOf CX0 P w K mg base N qual scope f cd A outer s H E0).nox
theorem fn_g {x qual : Str} {params : Arguments} {body : List Stmt} {scope : Scope} {dvs : List V} {kws : List (Str × V)} {f : Addr} {fd : FuncData} {N ps : List Str} {k : Nat} {m : MS} (F : FunD K x qual params body scope dvs kws f fd) (S : FnScope N ps scope)
    (hb : ∀ (cdv : Value) (A : Around) (outer : List Env) (s : Shared) (H : Hp), Bx (bodyCx P w K mg base N qual scope f cdv A outer s H) k → PSs (bodyCx P w K mg base N qual scope f cdv A outer s H) body (tS K m)) :
    FnG P w K mg base (k + 1) f fd ps (fDef N.length ps.length m) := by
  obtain ⟨oc, od, dV, kV, doc, pm, an, cdv, ct, osl, rfl, lk, hcd, _, _⟩ := F.ex
  refine ⟨fun A outer s H args us vs Q hr hg e0 hbd r hl hsp => ?_⟩
  have nu : s.heap.NoLimit := e0.mod.nolimit.keeps fun b o e => (e0.bs b o e).1
  have inK : K.In s.heap := e0.mod.kin.keeps fun b o e => (e0.bs b o e).1
  refine codeAny_call_function hr.depth (inK _ _ lk) rfl S.co S.gen rfl (PySem.W.codeRec_of inK hcd) (hbd _ _ _ _ ?_)
  refine wpAny_newFunctionEnv_cells S.kind (fun ⟨n, v⟩ hy => ?_) fun env he s1 x => ?_
  · rcases S.par n (List.of_mem_zip hy).1 with q | q
    · exact .inl q
    · exact .inr ⟨q, PySem.W.cellsFrom_some _ _ _ (.inl q)⟩
  subst he
  refine ⟨nu.keeps x.toInCall.keep, codeAny_func ?_⟩
  have hr1 := hr.deeper (envOfC qual scope s.heap.objs.size f cdv)
  have J : Inv (cxOf CX0 P w K mg base N qual scope f cdv A outer s H E0) [] (L2.start N vs) H s1 := inv_start S hr.hd e0 hl r x
  have bd := hb cdv A outer s H ⟨hr1, hg, rfl, S.nd, PassesOwn.never⟩
  obtain ⟨w0, os, rfl, rl, ro, q⟩ := hsp
  have al : os.length = ps.length := ro.length.trans hl
  unfold fDef at q
  rw [if_pos al] at q
  have st := sr_start (N := N) ro
  rw [al] at st
  refine wpAny_mono (bd.run [] s1 (L2.start N vs) w0.H { nx := fun _ H' => Q .non H', rt := Q } (J.wish _) ⟨w0, _, rfl, rl, st, ?_⟩) (fun fl s' hs => ?_) fun e s' hs => hs.elim
  · cases e : m (os.map some ++ List.replicate (N.length - ps.length) none) w0.h with
    | none => rw [e] at q; exact q.elim
    | some z =>
      rw [e] at q
      obtain ⟨fl, h'⟩ := z
      cases fl with
      | rt v => exact fun w' e1 e2 e3 => q w' e1 e2 e3
      | nx t => exact fun w' e1 e2 e3 s' _ => q w' e1 e2 e3 .non vr_non
      | bk t => exact q.elim
      | ct t => exact q.elim
  · cases fl with
    | ret u =>
      obtain ⟨v, t', H', I, rv, z⟩ := hs
      exact ⟨v, H', I.os, I.bare, I.base, I.hok, rv, z⟩
    | next =>
      obtain ⟨t', H', I, z⟩ := hs
      exact ⟨V.non, H', I.os, I.bare, I.base, I.hok, rfl, z⟩
    | brk =>
      obtain ⟨_, _, _, z⟩ := hs
      exact z.elim
    | cont =>
      obtain ⟨_, _, _, z⟩ := hs
      exact z.elim
end
section
variable {X : Cx} {k : Nat}
/-- the callee runs -/
theorem run_g {f : Addr} {fd : FuncData} {ps : List Str} {m : MF} {j : Nat} {pins : List (Addr × Obj)} {σ : L2.St} {H : Hp} {s : Shared} {Q : VK} {args : Args} {us : List Value} {vs : List V} (F : FnG X.prog X.w X.K X.mg X.base j f fd ps m) (b : Bx X k) (hj : j ≤ k)
    (I : Inv X pins σ H s) (hb : BindsTo s fd args (ps.zip us)) (r : Vals vs us) (hl : vs.length = ps.length) (h : spO X.K m vs H Q) : wpAny (model X.prog X.w) X.A (call (.ref f) args.pos args.kw) (EP X pins σ Q) X.xe s := by
  refine wpAny_call (codeAny_mono (F.run X.A X.stack s H args us vs Q (b.room.mono hj) b.gd I.env0 hb r hl h) fun r s' hq => ?_)
  cases r with
  | error e => exact hq.elim
  | ok fl => cases fl <;> first | exact I.after hq | exact hq.elim
/-- how a call's arguments bind: the call gives n positional values and the keywords ks; gV puts them in the parameters' order, defaults among them -/
structure BdG (K : PySem.W.Frag) (fd : FuncData) (ps : List Str) (n : Nat) (ks : List Str) (gV : List V → List V → List V) (gO : List OV → List OV → List OV) : Prop where
  to : ∀ (s : Shared) (us ws : List Value) (vs zs : List V), K.In s.heap → us.length = n → ws.length = ks.length → Vals vs us → Vals zs ws → ∃ us', BindsTo s fd ⟨us, ks.zip ws⟩ (ps.zip us') ∧ Vals (gV vs zs) us' ∧ (gV vs zs).length = ps.length
  rel : ∀ (w : Wd) (os ps : List OV) (vs zs : List V), VRs K w os vs → VRs K w ps zs → VRs K w (gO os ps) (gV vs zs)
def eCall (m : MF) (n l : Nat) (gO : List OV → List OV → List OV) (a kw : MA) : ME := fun s h => bnd (a s h) fun xs h1 => bnd (kw s h1) fun zs h2 => if xs.length = n ∧ zs.length = l then m (gO xs zs) h2 else none
theorem pk_wk {e : List Keyword} {t t' : TA} (h : PK X e t) (c : ∀ s H Q, t' s H Q → t s H Q) : PK X e t' := ⟨fun pos pins s σ H Q I q => h.run pos pins s σ H Q I (c _ _ _ q)⟩
theorem s_knil : PK X [] (tA X.K aNil) := by
  refine pk_wk pk_nil fun s H Q q => ?_
  obtain ⟨w, os, rfl, rl, sr, p⟩ := q
  exact Post.here p rl [] VRs.nil
theorem s_kcons {e : Expr} {kws : List Keyword} {m : ME} {n : MA} {nm : Option Str} {kpos : Pos} (ha : PE X e (tE X.K m)) (hr : PK X kws (tA X.K n)) : PK X (⟨nm, e, kpos⟩ :: kws) (tA X.K (aCons m n)) := by
  refine pk_wk (pk_cons ha hr) fun s H Q q => ?_
  obtain ⟨w, os, rfl, rl, sr, p⟩ := q
  refine ⟨w, os, rfl, rl, sr, (Post.bind p).mono fun x w1 e1 rl1 p1 v1 r1 => ?_⟩
  refine ⟨w1, os, rfl, rl1, sr.mono e1, (Post.bind p1).mono fun xs w2 e2 rl2 p2 v2 r2 => ?_⟩
  exact Post.here p2 rl2 _ (.cons (r1.mono e2) r2)
variable {f C : Addr} {fd : FuncData} {ps ks : List Str} {m : MF} {j n : Nat} {gV : List V → List V → List V} {gO : List OV → List OV → List OV} {x : Str} {p pos apos : Pos} {e o : Expr} {es : List Expr} {kws : List Keyword} {ma mk : MA} {mo : ME}
/-- the arguments of a call -/
theorem with_g {fv : Value} {fi : List Value} {pins : List (Addr × Obj)} {s : Shared} {σ : L2.St} {Q : VK} {w : Wd} {os : OSt} {c : List OV → List OV → OH → Option (OV × OH)} (kp : PySem.W.keepIn X.K fv = true) (ha : PA X (e :: es) (tA X.K ma)) (hkw : PK X kws (tA X.K mk))
    (h1 : (backToKw pos (keywordEach kws X.env)).all (·.1.isSome) = true) (h2 : (backToKw pos (keywordEach kws X.env)).filterMap (·.1) = ks)
    (h4 : starEach (e :: es) X.env = (false, eval e X.env) :: starEach es X.env) (h5 : ((backTo pos (starEach (e :: es) X.env)).any (·.1) || (backToKw pos (keywordEach kws X.env)).any (·.1.isNone)) = false)
    (I : Inv X pins σ w.H s) (rl : Rl X.K w) (sr : SR X.K w os σ) (q : Post X.K w (bnd (ma os w.h) fun xs h1 => bnd (mk os h1) fun zs h2 => c xs zs h2) (Rs X.K Q))
    (go : ∀ (w2 : Wd) (xs ys : List OV) (vs zs : List V) (us ws : List Value) (s2 : Shared), Ex w w2 → Rl X.K w2 → Inv X pins σ w2.H s2 → VRs X.K w2 xs vs → VRs X.K w2 ys zs → Vals vs us → Vals zs ws → Post X.K w2 (c xs ys w2.h) (Rs X.K Q) → wpAny (model X.prog X.w) X.A (call fv (fi ++ us) (ks.zip ws)) (EP X pins σ Q) X.xe s2) :
    wpAny (model X.prog X.w) X.A (callWith pos fv fi (backTo pos (starEach (e :: es) X.env)) (backToKw pos (keywordEach kws X.env))) (EP X pins σ Q) X.xe s := by
  refine PySem.W.callWith_KW (h₀ := X.base) I.ok.mod.kin kp h1 (thn (ha.run pos pins s σ w.H (fun vs H1 => ∃ w1 xs, w1.H = H1 ∧ Rl X.K w1 ∧ Ex w w1 ∧ VRs X.K w1 xs vs ∧ Post X.K w1 (bnd (mk os w1.h) fun zs h2 => c xs zs h2) (Rs X.K Q)) I
    ⟨w, os, rfl, rl, sr, (Post.bind q).mono fun xs w1 e1 rl1 p1 vs r1 => ⟨w1, xs, rfl, rl1, e1, r1, p1⟩⟩) fun us s1 ⟨vs, H1, I1, r1, w1, xs, eh, rl1, e1, ro, q1⟩ => ?_) h5 h4
  subst eh
  refine thn (hkw.run pos pins s1 σ w1.H (fun zs H2 => ∃ w2 ys, w2.H = H2 ∧ Rl X.K w2 ∧ Ex w1 w2 ∧ VRs X.K w2 ys zs ∧ Post X.K w2 (c xs ys w2.h) (Rs X.K Q)) I1
    ⟨w1, os, rfl, rl1, sr.mono e1, (Post.bind q1).mono fun ys w2 e2 rl2 p2 zs r2 => ⟨w2, ys, rfl, rl2, e2, r2, p2⟩⟩) fun ws s2 ⟨zs, H2, I2, r2, w2, ys, eh, rl2, e2, rk, q2⟩ => ⟨I2.kIn, ?_⟩
  subst eh
  rw [h2]
  exact go w2 xs ys vs zs us ws s2 (e1.trans e2) rl2 I2 (ro.mono e2) rk r1 r2 q2
/-- without arguments -/
theorem with_g0 {fv : Value} {fi : List Value} {pins : List (Addr × Obj)} {s : Shared} {σ : L2.St} {Q : VK} {w : Wd} (kp : PySem.W.keepIn X.K fv = true) (I : Inv X pins σ w.H s)
    (go : wpAny (model X.prog X.w) X.A (call fv (fi ++ []) []) (EP X pins σ Q) X.xe s) : wpAny (model X.prog X.w) X.A (callWith pos fv fi (backTo pos (starEach [] X.env)) (backToKw pos (keywordEach [] X.env))) (EP X pins σ Q) X.xe s :=
  PySem.W.callWith_K0 I.kIn kp go
def dFin (m : MF) (n l : Nat) (gO : List OV → List OV → List OV) (xs zs : List OV) (h : OH) : Option (OV × OH) := if xs.length = n ∧ zs.length = l then m (gO xs zs) h else none
/-- f(e, .., k = v) -/
theorem s_call (b : Bx X k) (F : FnG X.prog X.w X.K X.mg X.base j f fd ps m) (hj : j ≤ k) (hg : Gl X x) (hm : X.mg x = some (.ref f)) (kp : PySem.W.keepIn X.K (.ref f) = true) (hb : BdG X.K fd ps n ks gV gO) (ha : PA X (e :: es) (tA X.K ma)) (hkw : PK X kws (tA X.K mk))
    (h1 : (backToKw pos (keywordEach kws X.env)).all (·.1.isSome) = true := by rfl) (h2 : (backToKw pos (keywordEach kws X.env)).filterMap (·.1) = ks := by rfl) (h3 : (x == ("__debug__" : Str)) = false := by decide)
    (h4 : starEach (e :: es) X.env = (false, eval e X.env) :: starEach es X.env := by rfl) (h5 : ((backTo pos (starEach (e :: es) X.env)).any (·.1) || (backToKw pos (keywordEach kws X.env)).any (·.1.isNone)) = false := by rfl) :
    PE X (.Call (.Name x p) (e :: es) kws pos) (tE X.K (eCall m n ks.length gO ma mk)) := by
  refine ⟨fun pins s σ H Q I h => wpAny_Call_Name_kw (ld_glob I hg hm ?_ h3)⟩
  obtain ⟨w, os, rfl, rl, sr, q⟩ := h
  refine with_g (c := dFin m n ks.length gO) kp ha hkw h1 h2 h4 h5 I rl sr q fun w2 xs ys vs zs us ws s2 e2 rl2 I2 ro rk r1 r2 q2 => ?_
  unfold dFin at q2
  split at q2
  · rename_i hz
    obtain ⟨us', b1, b2, b3⟩ := hb.to s2 us ws vs zs I2.kIn (r1.length.symm.trans (ro.length.symm.trans hz.1)) (r2.length.symm.trans (rk.length.symm.trans hz.2)) r1 r2
    exact run_g (args := ⟨us, ks.zip ws⟩) F b hj I2 b1 b2 b3 ⟨w2, _, rfl, rl2, hb.rel w2 xs ys vs zs ro rk, q2⟩
  · exact q2.elim
/-- o.m(e, .., k = v) -/
def eMeth (C : Str) (nm : Str) (m : MF) (n l : Nat) (gO : List OV → List OV → List OV) (o : ME) (a kw : MA) : ME := fun s h => bnd (o s h) fun x h0 => match x with
  | .ref c => match h0[c]? with
    | some (.ins D fs) => if D = C ∧ (fs.lookup nm).isNone = true then bnd (a s h0) fun xs h1 => bnd (kw s h1) fun zs h2 => dFin m n l gO (.ref c :: xs) zs h2 else none
    | _ => none
  | _ => none
theorem s_meth {D nm : Str} {pl : Sem Bool} (b : Bx X k) (ho : PE X o (tE X.K mo)) (cl : Cls X.K (He.ga X.K D)) (hm : Meth X.K (He.ga X.K D) nm f) (F : FnG X.prog X.w X.K X.mg X.base j f fd ps m) (hj : j ≤ k) (hb : BdG X.K fd ps n ks gV gO) (ha : PA X (e :: es) (tA X.K ma)) (hkw : PK X kws (tA X.K mk))
    (h1 : (backToKw pos (keywordEach kws X.env)).all (·.1.isSome) = true := by rfl) (h2 : (backToKw pos (keywordEach kws X.env)).filterMap (·.1) = ks := by rfl)
    (h4 : starEach (e :: es) X.env = (false, eval e X.env) :: starEach es X.env := by rfl) (h5 : ((backTo pos (starEach (e :: es) X.env)).any (·.1) || (backToKw pos (keywordEach kws X.env)).any (·.1.isNone)) = false := by rfl)
    (ht : eval (.Call (.Attribute o nm apos) (e :: es) kws pos) X.env = (do
      let ov ← eval o X.env
      standAt apos.atName
      let (f, fi) ← holding [ov] (getMethod ov nm pl)
      callWith pos f fi (backTo pos (starEach (e :: es) X.env)) (backToKw pos (keywordEach kws X.env))) := by rfl) :
    PE X (.Call (.Attribute o nm apos) (e :: es) kws pos) (tE X.K (eMeth D nm m n ks.length gO mo ma mk)) := by
  refine ⟨fun pins s σ H Q I h => ?_⟩
  obtain ⟨w, os, rfl, rl, sr, q⟩ := h
  refine PySem.W.methodCall_KW (pl := pl) (thn (ho.run pins s σ w.H (fun v H1 => ∃ w1 x, w1.H = H1 ∧ Rl X.K w1 ∧ Ex w w1 ∧ VR X.K w1 x v ∧ Post X.K w1 (match x with
    | .ref c => match w1.h[c]? with
      | some (.ins E fs) => if E = D ∧ (fs.lookup nm).isNone = true then bnd (ma os w1.h) fun xs h1 => bnd (mk os h1) fun zs h2 => dFin m n ks.length gO (.ref c :: xs) zs h2 else none
      | _ => none
    | _ => none) (Rs X.K Q)) I ⟨w, os, rfl, rl, sr, (Post.bind q).mono fun x w1 e1 rl1 p1 v r1 => ⟨w1, x, rfl, rl1, e1, r1, p1⟩⟩) fun u s1 ⟨v, H1, I1, rv, w1, x, eh, rl1, e1, ro, q1⟩ => ?_) ht
  subst eh
  cases x with
  | ref c =>
    obtain rfl := ro.ref
    obtain rfl : u = Value.ref (w1.rho c) := rv
    dsimp only at q1
    split at q1
    · rename_i E fs hc
      split at q1
      · rename_i hz
        obtain ⟨rfl, hn⟩ := hz
        obtain ⟨dx, vs, g1, g2⟩ := rl1.ins hc
        refine getmeth_ok I1 g1 cl hm ((KVR.look g2).2 (by simpa using hn)) ?_
        refine with_g (fi := [.ref (w1.rho c)]) (c := fun xs zs h => dFin m n ks.length gO (.ref c :: xs) zs h) hm.kp ha hkw h1 h2 h4 h5 I1 rl1 (sr.mono e1) q1 fun w2 xs ys vs zs us ws s2 e2 rl2 I2 ro2 rk r1 r2 q2 => ?_
        unfold dFin at q2
        split at q2
        · rename_i hz
          have ro3 : VRs X.K w2 (.ref c :: xs) (.ref (w1.rho c) :: vs) := .cons (ro.mono e2) ro2
          have r3 : Vals (V.ref (w1.rho c) :: vs) (Value.ref (w1.rho c) :: us) := .cons rfl r1
          obtain ⟨us', b1, b2, b3⟩ := hb.to s2 _ ws _ zs I2.kIn (r3.length.symm.trans (ro3.length.symm.trans hz.1)) (r2.length.symm.trans (rk.length.symm.trans hz.2)) r3 r2
          exact run_g (args := ⟨Value.ref (w1.rho c) :: us, ks.zip ws⟩) F b hj I2 b1 b2 b3 ⟨w2, _, rfl, rl2, hb.rel w2 _ ys _ zs ro3 rk, q2⟩
        · exact q2.elim
      · exact q1.elim
    · exact q1.elim
  | _ => exact q1.elim
theorem s_meth0 {D nm : Str} {pl : Sem Bool} (b : Bx X k) (ho : PE X o (tE X.K mo)) (cl : Cls X.K (He.ga X.K D)) (hm : Meth X.K (He.ga X.K D) nm f) (F : FnG X.prog X.w X.K X.mg X.base j f fd ps m) (hj : j ≤ k) (hb : BdG X.K fd ps n [] gV gO)
    (ht : eval (.Call (.Attribute o nm apos) [] [] pos) X.env = (do
      let ov ← eval o X.env
      standAt apos.atName
      let (f, fi) ← holding [ov] (getMethod ov nm pl)
      callWith pos f fi (backTo pos (starEach [] X.env)) (backToKw pos (keywordEach [] X.env))) := by rfl) :
    PE X (.Call (.Attribute o nm apos) [] [] pos) (tE X.K (eMeth D nm m n 0 gO mo aNil aNil)) := by
  refine ⟨fun pins s σ H Q I h => ?_⟩
  obtain ⟨w, os, rfl, rl, sr, q⟩ := h
  refine PySem.W.methodCall_KW (pl := pl) (thn (ho.run pins s σ w.H (fun v H1 => ∃ w1 x, w1.H = H1 ∧ Rl X.K w1 ∧ Ex w w1 ∧ VR X.K w1 x v ∧ Post X.K w1 (match x with
    | .ref c => match w1.h[c]? with
      | some (.ins E fs) => if E = D ∧ (fs.lookup nm).isNone = true then dFin m n 0 gO [.ref c] [] w1.h else none
      | _ => none
    | _ => none) (Rs X.K Q)) I ⟨w, os, rfl, rl, sr, (Post.bind q).mono fun x w1 e1 rl1 p1 v r1 => ⟨w1, x, rfl, rl1, e1, r1, p1⟩⟩) fun u s1 ⟨v, H1, I1, rv, w1, x, eh, rl1, e1, ro, q1⟩ => ?_) ht
  subst eh
  cases x with
  | ref c =>
    obtain rfl := ro.ref
    obtain rfl : u = Value.ref (w1.rho c) := rv
    dsimp only at q1
    split at q1
    · rename_i E fs hc
      split at q1
      · rename_i hz
        obtain ⟨rfl, hn⟩ := hz
        obtain ⟨dx, vs, g1, g2⟩ := rl1.ins hc
        refine getmeth_ok I1 g1 cl hm ((KVR.look g2).2 (by simpa using hn)) ?_
        refine PySem.W.callWith_K0 (first := [.ref (w1.rho c)]) I1.kIn hm.kp ?_
        unfold dFin at q1
        split at q1
        · rename_i hz
          have ro3 : VRs X.K w1 [.ref c] [.ref (w1.rho c)] := .one ro
          have r3 : Vals [V.ref (w1.rho c)] [Value.ref (w1.rho c)] := .cons rfl .nil
          obtain ⟨us', b1, b2, b3⟩ := hb.to s1 _ [] _ [] I1.kIn (r3.length.symm.trans (ro3.length.symm.trans hz.1)) rfl r3 .nil
          exact run_g (args := ⟨[Value.ref (w1.rho c)], []⟩) F b hj I1 b1 b2 b3 ⟨w1, _, rfl, rl1, hb.rel w1 _ [] _ [] ro3 VRs.nil, q1⟩
        · exact q1.elim
      · exact q1.elim
    · exact q1.elim
  | _ => exact q1.elim
/-- C(e, .., k = v) -/
def mkFin (C : Str) (m : MF) (n l : Nat) (gO : List OV → List OV → List OV) (xs zs : List OV) (h : OH) : Option (OV × OH) :=
  bnd (dFin m n l gO (.ref h.length :: xs) zs (h ++ [.ins C []])) fun v h' => match v with
    | .non => some (.ref h.length, h')
    | _ => none
def eMake (C : Str) (m : MF) (n l : Nat) (gO : List OV → List OV → List OV) (a kw : MA) : ME := fun s h => bnd (a s h) fun xs h1 => bnd (kw s h1) fun zs h2 => mkFin C m n l gO xs zs h2
theorem run_mk {D : Str} {pins : List (Addr × Obj)} {σ : L2.St} {s : Shared} {Q : VK} {us ws : List Value} {vs zs : List V} {w : Wd} {xs ys : List OV} (M : Mk X.K (He.ga X.K D) f) (b : Bx X k) (F : FnG X.prog X.w X.K X.mg X.base j f fd ps m) (hj : j + 1 ≤ k) (hb : BdG X.K fd ps n ks gV gO)
    (I : Inv X pins σ w.H s) (rl : Rl X.K w) (ro : VRs X.K w xs vs) (rk : VRs X.K w ys zs) (r1 : Vals vs us) (r2 : Vals zs ws) (q : Post X.K w (mkFin D m n ks.length gO xs ys w.h) (Rs X.K Q)) :
    wpAny (model X.prog X.w) X.A (call (.ref (He.ga X.K D)) us (ks.zip ws)) (EP X pins σ Q) X.xe s := by
  have fr1 : w.H s.heap.objs.size = none := I.hok.fresh (Nat.le_refl _)
  have fr2 : w.H (s.heap.objs.size + 1) = none := I.hok.fresh (Nat.le_succ _)
  have I2 := Inv.made (C := He.ga X.K D) I
  obtain ⟨x0, rl0⟩ := lay_ok (ho := .own (s.heap.objs.size + 1)) rl fr1
  have fr3 : (Wd.mk w.rho w.h (upd w.H s.heap.objs.size (.own (s.heap.objs.size + 1)))).H (s.heap.objs.size + 1) = none := by
    show upd w.H s.heap.objs.size _ (s.heap.objs.size + 1) = none
    rw [upd_ne (Nat.ne_of_gt (Nat.lt_succ_self _))]; exact fr2
  obtain ⟨w1, e1, e2, e3, x1, rl1⟩ := new_ok (o := .ins D []) (ho := .ins (He.ga X.K D) s.heap.objs.size []) rl0 fr3 ⟨_, [], rfl, rfl⟩
  have e1 : w1.h = w.h ++ [.ins D []] := e1
  have e3 : w1.rho w.h.length = s.heap.objs.size + 1 := e3
  have xx : Ex w w1 := x0.trans x1
  have rr : VR X.K w1 (.ref w.h.length) (.ref (s.heap.objs.size + 1)) := by
    simp only [VR]
    exact ⟨by rw [e1]; simp, by rw [e3]⟩
  have ro3 : VRs X.K w1 (.ref w.h.length :: xs) (.ref (s.heap.objs.size + 1) :: vs) := .cons rr (ro.mono xx)
  have r3 : Vals (V.ref (s.heap.objs.size + 1) :: vs) (Value.ref (s.heap.objs.size + 1) :: us) := .cons rfl r1
  have rk1 := rk.mono xx
  unfold mkFin at q
  have q1 := Post.bind q
  have q2 : Post X.K w1 (dFin m n ks.length gO (.ref w.h.length :: xs) ys w1.h) (fun v w2 => Post X.K w2 (match v with
    | .non => some (.ref w.h.length, w2.h)
    | _ => none) (Rs X.K Q)) := by
    rw [← e1] at q1
    revert q1
    cases dFin m n ks.length gO (.ref w.h.length :: xs) ys w1.h with
    | none => exact fun q1 => q1
    | some z => exact fun q1 w2 a b c => q1 w2 a (xx.trans b) c
  unfold dFin at q2
  split at q2
  · rename_i hz
    obtain ⟨us', b1, b2, b3⟩ := hb.to _ _ ws _ zs I2.kIn (r3.length.symm.trans (ro3.length.symm.trans hz.1)) (r2.length.symm.trans (rk1.length.symm.trans hz.2)) r3 r2
    have gd : (X.A.under (.builtin "type.__call__" ⟨.ref (He.ga X.K D) :: us, ks.zip ws⟩)).guards = some [] := by
      first | exact b.gd | (simpa [Around.under, Code.guards, Code.isGuard, pushGuards, guardIds] using b.gd)
    refine wpAny_call (make_map (f := f) I.kIn M.makes M.init (beq_iff_eq.mp M.fn) (codeAny_mono (F.run _ X.stack _ _ ⟨Value.ref (s.heap.objs.size + 1) :: us, ks.zip ws⟩ us' _ (fun v H2 => v = .non ∧ Q (.ref (s.heap.objs.size + 1)) H2)
      ((b.room.mono hj).make _ us (ks.zip ws)) gd (I2.env0.make _ us (ks.zip ws)) b1 b2 b3 ⟨w1, _, e2, rl1, hb.rel w1 _ ys _ zs ro3 rk1, q2.mono fun v w2 x2 rl2 p2 v' rv => ?_⟩) fun r s' hq => ?_))
    · cases v with
      | non =>
        simp only [VR] at rv
        exact ⟨rv, Post.here p2 rl2 _ (rr.mono x2)⟩
      | _ => exact p2.elim
    · cases r with
      | error e => exact hq.elim
      | ok fl =>
        cases fl with
        | ret u =>
          obtain ⟨v, H', I3, rv, ev, q3⟩ := I2.after hq
          subst ev
          exact ⟨rv, ⟨V.ref (s.heap.objs.size + 1), H', I3, rfl, q3⟩⟩
        | next => exact hq.elim
        | brk => exact hq.elim
        | cont => exact hq.elim
  · exact q2.elim
theorem s_make {D : Str} (b : Bx X k) (M : Mk X.K (He.ga X.K D) f) (F : FnG X.prog X.w X.K X.mg X.base j f fd ps m) (hj : j + 1 ≤ k) (hg : Gl X D) (hm : X.mg D = some (.ref (He.ga X.K D))) (hb : BdG X.K fd ps n ks gV gO) (ha : PA X (e :: es) (tA X.K ma)) (hkw : PK X kws (tA X.K mk))
    (h1 : (backToKw pos (keywordEach kws X.env)).all (·.1.isSome) = true := by rfl) (h2 : (backToKw pos (keywordEach kws X.env)).filterMap (·.1) = ks := by rfl) (h3 : (D == ("__debug__" : Str)) = false := by decide)
    (h4 : starEach (e :: es) X.env = (false, eval e X.env) :: starEach es X.env := by rfl) (h5 : ((backTo pos (starEach (e :: es) X.env)).any (·.1) || (backToKw pos (keywordEach kws X.env)).any (·.1.isNone)) = false := by rfl) :
    PE X (.Call (.Name D p) (e :: es) kws pos) (tE X.K (eMake D m n ks.length gO ma mk)) := by
  refine ⟨fun pins s σ H Q I h => wpAny_Call_Name_kw (ld_glob I hg hm ?_ h3)⟩
  obtain ⟨w, os, rfl, rl, sr, q⟩ := h
  exact with_g (fi := []) (c := mkFin D m n ks.length gO) M.kp ha hkw h1 h2 h4 h5 I rl sr q fun w2 xs ys vs zs us ws s2 e2 rl2 I2 ro rk r1 r2 q2 => run_mk M b F hj hb I2 rl2 ro rk r1 r2 q2
end
end O

set_option maxHeartbeats 4000000
namespace O
open PySem L2 PyProof.Rows
section
variable {X : Cx} {k : Nat}
def sNx : MS := fun s h => some (.nx s, h)
def sBk : MS := fun s h => some (.bk s, h)
def sCt : MS := fun s h => some (.ct s, h)
def sNo : MS := fun _ _ => none
def sSeq (a b : MS) : MS := fun s h => bnd (a s h) fun f h1 => match f with
  | .nx s1 => b s1 h1
  | .rt v => some (.rt v, h1)
  | .bk s1 => some (.bk s1, h1)
  | .ct s1 => some (.ct s1, h1)
def sEx (m : ME) : MS := fun s h => bnd (m s h) fun _ h1 => some (.nx s, h1)
def sRt (m : ME) : MS := fun s h => bnd (m s h) fun v h1 => some (.rt v, h1)
def sRtN : MS := fun _ h => some (.rt .non, h)
def sIf (c : MT) (a b : MS) : MS := fun s h => bnd (c s h) fun t h1 => if t = true then a s h1 else b s h1
def sSet (i : Nat) (m : ME) : MS := fun s h => bnd (m s h) fun v h1 => some (.nx (s.set i (some v)), h1)
theorem r_nil : PSs X [] (tS X.K sNx) := by
  refine pss_wk pss_nil fun D s H q => ?_
  obtain ⟨w, os, rfl, rl, sr, p⟩ := q
  exact Post.here p rl _ sr
theorem r_one {st : Stmt} {m : MS} (h : PS X st (tS X.K m)) : PSs X [st] (tS X.K m) := pss_one h
theorem r_cons {st : Stmt} {rest : List Stmt} {a b : MS} (ha : PS X st (tS X.K a)) (hb : PSs X rest (tS X.K b)) : PSs X (st :: rest) (tS X.K (sSeq a b)) := by
  refine pss_wk (pss_cons ha hb) fun D s H q => ?_
  obtain ⟨w, os, rfl, rl, sr, p⟩ := q
  refine ⟨w, os, rfl, rl, sr, (Post.bind p).mono fun f w1 e1 rl1 p1 => ?_⟩
  cases f with
  | nx s1 => exact fun s' sr' => ⟨w1, s1, rfl, rl1, sr', p1⟩
  | rt v => exact Post.here p1 rl1
  | bk s1 => exact Post.here p1 rl1
  | ct s1 => exact Post.here p1 rl1
theorem r_pass {pos : Pos} : PS X (.Pass pos) (tS X.K sNx) := by
  refine ps_wk ps_pass fun D s H q => ?_
  obtain ⟨w, os, rfl, rl, sr, p⟩ := q
  exact Post.here p rl _ sr
theorem r_break {pos : Pos} : PS X (.Break pos) (tS X.K sBk) := by
  refine ps_wk ps_break fun D s H q => ?_
  obtain ⟨w, os, rfl, rl, sr, p⟩ := q
  exact Post.here p rl _ sr
theorem r_cont {pos : Pos} : PS X (.Continue pos) (tS X.K sCt) := by
  refine ps_wk ps_continue fun D s H q => ?_
  obtain ⟨w, os, rfl, rl, sr, p⟩ := q
  exact Post.here p rl _ sr
/-- a statement that is not reached -/
theorem r_no {st : Stmt} : PS X st (tS X.K sNo) := by
  refine ps_wk ps_never fun D s H q => ?_
  obtain ⟨w, os, rfl, rl, sr, p⟩ := q
  exact p
theorem r_ex {e : Expr} {m : ME} {pos : Pos} (he : PE X e (tE X.K m)) (hs : swapsWith e none pos.line X.env = pure false := by rfl) : PS X (.Expr e pos) (tS X.K (sEx m)) := by
  refine ps_wk (ps_expr he hs) fun D s H q => ?_
  obtain ⟨w, os, rfl, rl, sr, p⟩ := q
  exact ⟨w, os, rfl, rl, sr, (Post.bind p).mono fun v w1 e1 rl1 p1 v' r => Post.here p1 rl1 _ (sr.mono e1)⟩
theorem r_rt {e : Expr} {m : ME} {pos : Pos} (he : PE X e (tE X.K m)) : PS X (.Return (some e) pos) (tS X.K (sRt m)) := by
  refine ps_wk (ps_ret he) fun D s H q => ?_
  obtain ⟨w, os, rfl, rl, sr, p⟩ := q
  exact ⟨w, os, rfl, rl, sr, (Post.bind p).mono fun v w1 e1 rl1 p1 v' r => Post.here p1 rl1 _ r⟩
theorem r_rtn {pos : Pos} : PS X (.Return none pos) (tS X.K sRtN) := by
  refine ps_wk ps_retN fun D s H q => ?_
  obtain ⟨w, os, rfl, rl, sr, p⟩ := q
  exact Post.here p rl .non vr_non
theorem r_if {c : Expr} {a b : List Stmt} {mc : MT} {ma mb : MS} {pos : Pos} (hc : PT X c (tT X.K mc)) (ha : PSs X a (tS X.K ma)) (hb : PSs X b (tS X.K mb)) : PS X (.If c a b pos) (tS X.K (sIf mc ma mb)) := by
  refine ps_wk (ps_if hc ha hb) fun D s H q => ?_
  obtain ⟨w, os, rfl, rl, sr, p⟩ := q
  refine ⟨w, os, rfl, rl, sr, (Post.bind p).mono fun t w1 e1 rl1 p1 => ?_⟩
  by_cases h : t = true
  · rw [if_pos h] at p1 ⊢
    exact ⟨w1, os, rfl, rl1, sr.mono e1, p1⟩
  · rw [if_neg h] at p1 ⊢
    exact ⟨w1, os, rfl, rl1, sr.mono e1, p1⟩
/-- name = value -/
theorem r_set {i : Nat} {x : Str} {e : Expr} {m : ME} {pos pos' : Pos} (b : Bx X k) (hi : X.N[i]? = some x) (hx : Loc X.env.scope x) (he : PE X e (tE X.K m)) (hs : swapsWith e (some (.Name x pos')) pos.line X.env = pure false := by rfl)
    (hf : X.fn x = true ∨ X.env.scope.names.lookup x = some .local := by first | exact .inl rfl | exact .inr rfl) : PS X (.Assign [.Name x pos'] e pos) (tS X.K (sSet i m)) := by
  refine ps_wk (ps_set b.nd hi hx he hs hf) fun D s H q => ?_
  obtain ⟨w, os, rfl, rl, sr, p⟩ := q
  exact ⟨w, os, rfl, rl, sr, (Post.bind p).mono fun v w1 e1 rl1 p1 v' r => Post.here p1 rl1 _ ((sr.mono e1).set r i)⟩
abbrev MG := OV → OSt → OH → Option (OSt × OH)
def tG (K : PySem.W.Frag) (m : MG) : TG := fun v s H Q => ∃ w os x, w.H = H ∧ Rl K w ∧ SR K w os s ∧ VR K w x v ∧ Post K w (m x os w.h) (fun os' w' => ∀ s', SR K w' os' s' → Q s' w'.H)
abbrev MGs := List OV → OSt → OH → Option (OSt × OH)
def tGs (K : PySem.W.Frag) (m : MGs) : TGs := fun v s H Q => ∃ w os x, w.H = H ∧ Rl K w ∧ SR K w os s ∧ VRs K w x v ∧ Post K w (m x os w.h) (fun os' w' => ∀ s', SR K w' os' s' → Q s' w'.H)
theorem pg_wk {e : Expr} {t t' : TG} (h : PG X e t) (c : ∀ v s H Q, t' v s H Q → t v s H Q) : PG X e t' := ⟨fun pins s σ H v u Q I r q => h.run pins s σ H v u Q I r (c _ _ _ _ q)⟩
theorem pgs_wk {e : List Expr} {t t' : TGs} (h : PGs X e t) (c : ∀ v s H Q, t' v s H Q → t v s H Q) : PGs X e t' := ⟨fun pins s σ H v u Q I r q => h.run pins s σ H v u Q I r (c _ _ _ _ q)⟩
theorem pg_or {e : Expr} {t t' : TG} (h : PG X e t) (h' : PG X e t') : PG X e (fun v s H Q => t v s H Q ∨ t' v s H Q) := ⟨fun pins s σ H v u Q I r q => q.elim (h.run pins s σ H v u Q I r) (h'.run pins s σ H v u Q I r)⟩
def gNm (i : Nat) : MG := fun v s h => some (s.set i (some v), h)
def gsNil : MGs := fun vs s h => match vs with
  | [] => some (s, h)
  | _ => none
def gsCons (a : MG) (b : MGs) : MGs := fun vs s h => match vs with
  | v :: r => bnd (a v s h) fun s1 h1 => b r s1 h1
  | [] => none
def gTp (n : Nat) (l : MGs) : MG := fun v s h => match v with
  | .tup xs => if xs.length = n then l xs s h else none
  | .ref a => match h[a]? with
    | some (.lst xs) => if xs.length = n then l xs s h else none
    | _ => none
  | _ => none
theorem g_nm {i : Nat} {x : Str} {pos : Pos} (b : Bx X k) (hi : X.N[i]? = some x) (hx : Loc X.env.scope x) (hf : X.fn x = true ∨ X.env.scope.names.lookup x = some .local := by first | exact .inl rfl | exact .inr rfl) : PG X (.Name x pos) (tG X.K (gNm i)) := by
  refine pg_wk (pg_name b.nd hi hx hf) fun v s H Q q => ?_
  obtain ⟨w, os, x, rfl, rl, sr, r, p⟩ := q
  exact Post.here p rl _ (sr.set r i)
theorem gs_nil : PGs X [] (tGs X.K gsNil) := by
  refine pgs_wk pgs_nil fun v s H Q q => ?_
  obtain ⟨w, os, x, rfl, rl, sr, r, p⟩ := q
  cases x with
  | nil =>
    simp only [VRs] at r
    exact ⟨r, Post.here p rl _ sr⟩
  | cons _ _ => exact p.elim
theorem gs_cons {e : Expr} {es : List Expr} {a : MG} {b : MGs} (ha : PG X e (tG X.K a)) (hb : PGs X es (tGs X.K b)) (hs : (assignEach (e :: es) X.env).map (·.2) = assign e X.env :: (assignEach es X.env).map (·.2) := by rfl) : PGs X (e :: es) (tGs X.K (gsCons a b)) := by
  refine pgs_wk (pgs_cons ha hb hs) fun v s H Q q => ?_
  obtain ⟨w, os, x, rfl, rl, sr, r, p⟩ := q
  cases x with
  | nil => exact p.elim
  | cons y ys =>
    simp only [VRs] at r
    obtain ⟨v1, vr, rfl, r1, r2⟩ := r
    exact ⟨v1, vr, rfl, w, os, y, rfl, rl, sr, r1, (Post.bind p).mono fun s1 w1 e1 rl1 p1 s' sr' => ⟨w1, s1, ys, rfl, rl1, sr', r2.mono e1, p1⟩⟩
theorem g_tp {es : List Expr} {kk n : Nat} {l : MGs} {pos : Pos} (b : Bx X k) (hl : PGs X es (tGs X.K l)) (h1 : (assignEach es X.env).length = n := by rfl) (h2 : (assignEach es X.env).findIdx? (·.1) = none := by rfl) : PG X (.Tuple es kk pos) (tG X.K (gTp n l)) := by
  refine pg_wk (pg_or (pg_tup b.calm hl h1 h2) (pg_lst b.calm hl h1 h2)) fun v s H Q q => ?_
  obtain ⟨w, os, x, rfl, rl, sr, r, p⟩ := q
  unfold gTp at p
  split at p
  · simp only [VR] at r
    obtain ⟨p1, vs, rfl, g1, g2⟩ := r
    split at p
    · rename_i hz
      exact .inl ⟨p1, vs, rfl, SqT.of g1, by rw [← g2.length]; exact hz, w, os, _, rfl, rl, sr, g2, p⟩
    · exact p.elim
  · obtain rfl := r.ref
    split at p
    · rename_i ha
      obtain ⟨vs, g1, g2⟩ := rl.lst ha
      split at p
      · rename_i hz
        exact .inr ⟨_, vs, rfl, SqL.of g1, by rw [← g2.length]; exact hz, w, os, _, rfl, rl, sr, g2, p⟩
      · exact p.elim
    · exact p.elim
  · exact p.elim
/-- o[i] = v -/
def oPut (o i v : OV) (h : OH) : Option OH := match o with
  | .ref a => match h[a]? with
    | some (.lst xs) => match i with
      | .int n => (ixN xs.length n).map fun j => h.set a (.lst (xs.set j v))
      | _ => none
    | some (.dK kvs) => if kvs.length < sizeLine then (kOf i).map fun y => h.set a (.dK (putO kvs y v)) else none
    | some (.dT kvs) => if kvs.length < sizeLine then (tOf i).map fun y => h.set a (.dT (putO kvs y v)) else none
    | _ => none
  | _ => none
theorem set_w {K : PySem.W.Frag} {w : Wd} {o o' : OO} {ho ho' : HO} {a : Nat} {R : Unit → Wd → Prop} (q : Post K w (some ((), w.h.set a o')) R) (rl : Rl K w) (ha : w.h[a]? = some o) (hH : w.H (w.rho a) = some ho) (hc : Chg ho) (c : CR K w o' ho') :
    ∃ w', w'.h = w.h.set a o' ∧ w'.H = upd w.H (w.rho a) ho' ∧ Ex w w' ∧ Rl K w' ∧ R () w' := by
  obtain ⟨x, rl'⟩ := set_ok rl ha hH hc c
  exact ⟨_, rfl, rfl, x, rl', q _ rfl x rl'⟩
def rPutO (K : PySem.W.Frag) : TSet := fun o i v H Q => ∃ w x y z, w.H = H ∧ Rl K w ∧ VR K w x o ∧ VR K w y i ∧ VR K w z v ∧ Post K w ((oPut x y z w.h).map fun h => ((), h)) (fun _ w' => Q w'.H)
theorem set_o (b : Bx X k) : PSet X (rPutO X.K) := by
  intro pins s σ H o i v ov iv u Q I ro ri rv q
  obtain ⟨w, x, y, z, rfl, rl, rx, ry, rz, p⟩ := q
  unfold oPut at p
  split at p
  · obtain rfl := rx.ref
    split at p
    · rename_i ha
      obtain ⟨vs, g1, g2⟩ := rl.lst ha
      split at p
      · rename_i n
        obtain rfl : i = _ := by simpa only [VR] using ry
        cases e : ixN _ n with
        | none => rw [e] at p; exact p.elim
        | some j =>
          rw [e] at p
          obtain ⟨w', e1, e2, e3, e4, e5⟩ := set_w p rl ha g1 trivial (ho' := .lst (vs.set j v)) ⟨_, rfl, g2.set j rz⟩
          refine set_list pins s σ w.H _ _ v ov iv u Q I ro ri rv ⟨_, vs, n, j, rfl, rfl, g1, by rw [← g2.length]; exact e, ?_⟩
          rw [e2] at e5
          exact e5
      · exact p.elim
    · rename_i ha
      obtain ⟨vs, g1, g2⟩ := rl.dK ha
      split at p
      · rename_i hz
        cases e : kOf y with
        | none => rw [e] at p; exact p.elim
        | some j =>
          rw [e] at p
          obtain ⟨w', e1, e2, e3, e4, e5⟩ := set_w p rl ha g1 trivial (ho' := .dK (putK vs j v)) ⟨_, rfl, putO_ok g2 rz⟩
          obtain rfl : ov = Value.ref (w.rho _) := ro
          refine d_setItem b.hu1 I (.inl ⟨vs, j, g1, kOf_ok ry e, by rw [← g2.length]; exact hz, rfl⟩) ri rv fun s' I' => ⟨_, I', ?_⟩
          rw [e2] at e5
          exact e5
      · exact p.elim
    · rename_i ha
      obtain ⟨vs, g1, g2⟩ := rl.dT ha
      split at p
      · rename_i hz
        cases e : tOf y with
        | none => rw [e] at p; exact p.elim
        | some j =>
          rw [e] at p
          obtain ⟨w', e1, e2, e3, e4, e5⟩ := set_w p rl ha g1 trivial (ho' := .dT (putK vs j v)) ⟨_, rfl, putO_ok g2 rz⟩
          obtain rfl : ov = Value.ref (w.rho _) := ro
          obtain ⟨c, rfl, hc⟩ := tOf_ok ry e
          refine d_setItem b.hu1 I (.inr ⟨vs, j, c, g1, rfl, hc, by rw [← g2.length]; exact hz, rfl⟩) ri rv fun s' I' => ⟨_, I', ?_⟩
          rw [e2] at e5
          exact e5
      · exact p.elim
    · exact p.elim
  · exact p.elim
def gPut (a b : ME) : MG := fun v s h => bnd (a s h) fun x h1 => bnd (b s h1) fun y h2 => (oPut x y v h2).map fun h3 => (s, h3)
theorem g_put {o i : Expr} {a c : ME} {pos : Pos} (b : Bx X k) (ho : PE X o (tE X.K a)) (hi : PE X i (tE X.K c)) (h1 : ∀ v, assign (.Subscript o i pos) X.env v = (do
      let ov ← holding [v] (eval o X.env)
      let iv ← holding [v, ov] (eval i X.env)
      standAt pos
      holding [v, ov, iv] (setItem ov iv v)
      release [v, ov, iv] []) := by intro _; rfl) : PG X (.Subscript o i pos) (tG X.K (gPut a c)) := by
  refine pg_wk (pg_sub ho hi (set_o b) h1) fun v s H Q q => ?_
  obtain ⟨w, os, x, rfl, rl, sr, r, p⟩ := q
  refine ⟨w, os, rfl, rl, sr, (Post.bind p).mono fun y w1 e1 rl1 p1 v1 r1 => ?_⟩
  refine ⟨w1, os, rfl, rl1, sr.mono e1, (Post.bind p1).mono fun z w2 e2 rl2 p2 v2 r2 => ?_⟩
  refine ⟨w2, y, z, x, rfl, rl2, r1.mono e2, r2, r.mono (e1.trans e2), ?_⟩
  cases e : oPut y z x w2.h with
  | none => rw [e] at p2; exact p2.elim
  | some h3 =>
    rw [e] at p2
    exact fun w3 a b c => p2 w3 a b c _ ((sr.mono (e1.trans e2)).mono b)
def sAsg (m : ME) (g : MG) : MS := fun s h => bnd (m s h) fun v h1 => bnd (g v s h1) fun s1 h2 => some (.nx s1, h2)
theorem r_asg {tg e : Expr} {m : ME} {g : MG} {pos : Pos} (he : PE X e (tE X.K m)) (hg : PG X tg (tG X.K g)) (h1 : swapsWithSole [tg] e pos.line X.env = pure false := by rfl) (h2 : swappedStores [tg] e X.env = pure none := by rfl)
    (h3 : (assignEach [tg] X.env).map (·.2) = [assign tg X.env] := by rfl) : PS X (.Assign [tg] e pos) (tS X.K (sAsg m g)) := by
  refine ps_wk (ps_asg he hg h1 h2 h3) fun D s H q => ?_
  obtain ⟨w, os, rfl, rl, sr, p⟩ := q
  refine ⟨w, os, rfl, rl, sr, (Post.bind p).mono fun v w1 e1 rl1 p1 v' r => ?_⟩
  exact ⟨w1, os, v, rfl, rl1, sr.mono e1, r, (Post.bind p1).mono fun s1 w2 e2 rl2 p2 s' sr' => Post.here p2 rl2 _ sr'⟩
/-- a, b = x, y of plain locals -/
def sPar (i j : Nat) (m : MA) : MS := fun s h => bnd (m s h) fun vs h1 => match vs with
  | [v, u] => some (.nx ((s.set i (some v)).set j (some u)), h1)
  | _ => none
theorem r_par {i j : Nat} {x y : Str} {a c : Expr} {m : MA} {px py pt : Pos} {kt k2 : Nat} {pt2 pos : Pos} (b : Bx X k) (hi : X.N[i]? = some x) (hj : X.N[j]? = some y) (hij : i ≠ j) (hx : X.env.scope.names.lookup x = some .local) (hy : X.env.scope.names.lookup y = some .local)
    (ha : PA X [a, c] (tA X.K m)) (hw : swappedStores [.Tuple [.Name x px, .Name y py] kt pt] (.Tuple [a, c] k2 pt2) X.env = pure (some [x, y]) := by rfl) (hs : swapsWithSole [.Tuple [.Name x px, .Name y py] kt pt] (.Tuple [a, c] k2 pt2) pos.line X.env = pure false := by rfl) :
    PS X (.Assign [.Tuple [.Name x px, .Name y py] kt pt] (.Tuple [a, c] k2 pt2) pos) (tS X.K (sPar i j m)) := by
  refine ps_wk (ps_par b.calm b.nd hi hj hij hx hy ha hw hs) fun D s H q => ?_
  obtain ⟨w, os, rfl, rl, sr, p⟩ := q
  refine ⟨w, os, rfl, rl, sr, (Post.bind p).mono fun vs w1 e1 rl1 p1 us r => ?_⟩
  match vs, p1, r with
  | [v, u], p1, r =>
    simp only [VRs] at r
    obtain ⟨v1, _, rfl, r1, u1, _, rfl, r2, rfl⟩ := r
    exact ⟨v1, u1, rfl, Post.here p1 rl1 _ (((sr.mono e1).set r1 i).set r2 j)⟩
  | [], p1, _ => exact p1.elim
  | [_], p1, _ => exact p1.elim
  | _ :: _ :: _ :: _, p1, _ => exact p1.elim
/-- a, b, c = x, y, z of plain locals -/
def sPar3 (i j l : Nat) (m : MA) : MS := fun s h => bnd (m s h) fun vs h1 => match vs with
  | [v, u, t] => some (.nx (((s.set i (some v)).set j (some u)).set l (some t)), h1)
  | _ => none
/-- o.f = e -/
def putFO (f : Str) (v : OV) : List (Str × OV) → List (Str × OV)
  | [] => [(f, v)]
  | (g, x) :: r => if g = f then (g, v) :: r else (g, x) :: putFO f v r
def sFld (C f : Str) (o m : ME) : MS := fun s h => bnd (m s h) fun v h1 => bnd (o s h1) fun x h2 => match x with
  | .ref a => match h2[a]? with
    | some (.ins D fs) => if D = C ∧ fs.length < 1000 then some (.nx s, h2.set a (.ins D (putFO f v fs))) else none
    | _ => none
  | _ => none
theorem putFO_ok {K : PySem.W.Frag} {w : Wd} {f : Str} {u : OV} {v : V} (q : VR K w u v) : ∀ {xs : List (Str × OV)} {vs : List (Str × V)}, KVR K w xs vs → KVR K w (putFO f u xs) (putF f v vs)
  | [], _, h => by have h : _ = [] := h; subst h; exact ⟨v, [], rfl, q, rfl⟩
  | (g, z) :: xs, _, h => by
    obtain ⟨y, r, rfl, h2, h3⟩ := h
    unfold putFO putF
    by_cases e : g = f
    · rw [if_pos e, if_pos e]
      exact ⟨v, r, rfl, q, h3⟩
    · rw [if_neg e, if_neg e]
      exact ⟨y, _, rfl, h2, putFO_ok q h3⟩
theorem r_fld {C f : Str} {o e : Expr} {mo m : ME} {pos pos' : Pos} (ho : PE X o (tE X.K mo)) (he : PE X e (tE X.K m)) (cl : Cls X.K (He.ga X.K C)) (na : NoAttr X.K (He.ga X.K C) f) (hs : swapsWith e (some (.Attribute o f pos')) pos.line X.env = pure false := by rfl) :
    PS X (.Assign [.Attribute o f pos'] e pos) (tS X.K (sFld C f mo m)) := by
  refine ps_wk (ps_fld ho he hs) fun D s H q => ?_
  obtain ⟨w, os, rfl, rl, sr, p⟩ := q
  refine ⟨w, os, rfl, rl, sr, (Post.bind p).mono fun v w1 e1 rl1 p1 v1 r1 => ?_⟩
  refine ⟨w1, os, rfl, rl1, sr.mono e1, (Post.bind p1).mono fun x w2 e2 rl2 p2 x1 r2 => ?_⟩
  cases x with
  | ref a =>
    obtain rfl := r2.ref
    dsimp only at p2
    split at p2
    · rename_i E fs ha
      split at p2
      · rename_i hz
        obtain ⟨rfl, hl⟩ := hz
        obtain ⟨dx, vs, g1, g2⟩ := rl2.ins ha
        refine ⟨_, _, dx, vs, rfl, g1, cl, na, by rw [← g2.length]; exact hl, ?_⟩
        obtain ⟨x, rl'⟩ := set_ok (o' := .ins E (putFO f v fs)) (ho' := .ins (He.ga X.K E) dx (putF f v1 vs)) rl2 ha g1 trivial ⟨dx, _, rfl, putFO_ok (r1.mono e2) g2⟩
        exact p2 _ rfl x rl' _ ((sr.mono (e1.trans e2)).mono x)
      · exact p2.elim
    · exact p2.elim
  | _ => exact p2.elim
/-- a try in which nothing is raised -/
theorem r_try {body : List Stmt} {h₀ : ExceptHandler} {hs : List ExceptHandler} {m : MS} {pos : Pos} (h : PSs X.nox body (tS X.K m)) : PS X (.Try body (h₀ :: hs) [] [] pos) (tS X.K m) := ps_try_thru0 h
def wGo (c : MT) (b : MS) : Nat → MS
  | 0, _, _ => none
  | n + 1, s, h => bnd (c s h) fun t h1 => if t = true then bnd (b s h1) fun f h2 => match f with
      | .nx s1 => wGo c b n s1 h2
      | .ct s1 => wGo c b n s1 h2
      | .bk s1 => some (.nx s1, h2)
      | .rt v => some (.rt v, h2)
    else some (.nx s, h1)
theorem r_while {c : Expr} {body : List Stmt} {mc : MT} {mb : MS} {pos : Pos} (b : Bx X k) (n : Nat) (hc : PT X c (tT X.K mc)) (hb : PSs X body (tS X.K mb)) : PS X (.While c body [] pos) (tS X.K (wGo mc mb n)) := by
  refine ps_wk (ps_while b.pass hc hb) fun D s H q => ?_
  obtain ⟨w, os, rfl, rl, sr, p⟩ := q
  refine ⟨fun m s H => ∃ w os, w.H = H ∧ Rl X.K w ∧ SR X.K w os s ∧ Post X.K w (wGo mc mb m os w.h) (RsF X.K D), ⟨n, w, os, rfl, rl, sr, p⟩, fun m s H hw => ?_⟩
  obtain ⟨w, os, rfl, rl, sr, p⟩ := hw
  cases m with
  | zero => exact p.elim
  | succ m =>
    refine ⟨w, os, rfl, rl, sr, (Post.bind p).mono fun t w1 e1 rl1 p1 => ?_⟩
    by_cases h : t = true
    · rw [if_pos h] at p1 ⊢
      refine ⟨fun s H => ∃ w os, w.H = H ∧ Rl X.K w ∧ SR X.K w os s ∧ Post X.K w (wGo mc mb m os w.h) (RsF X.K D), fun s' H' z => ⟨m, Nat.lt_succ_self _, z⟩, ?_⟩
      refine ⟨w1, os, rfl, rl1, sr.mono e1, (Post.bind p1).mono fun f w2 e2 rl2 p2 => ?_⟩
      cases f with
      | nx s1 => exact fun s' sr' => ⟨w2, s1, rfl, rl2, sr', p2⟩
      | ct s1 => exact fun s' sr' => ⟨w2, s1, rfl, rl2, sr', p2⟩
      | bk s1 => exact Post.here p2 rl2
      | rt v => exact Post.here p2 rl2
    · rw [if_neg h] at p1 ⊢
      exact Post.here p1 rl1 _ (sr.mono e1)
structure OI where
  n : Nat
  ok : OH → Bool
  item : Nat → OH → Option OV
abbrev MIt := OSt → OH → Option (OI × OH)
def JS (K : PySem.W.Frag) (w0 : Wd) (it : OI) (J : It) : Prop := ∀ (w : Wd) (i : Nat), (∀ a, a < w0.h.length → w.rho a = w0.rho a) → w0.h.length ≤ w.h.length → Ex w0 w → Rl K w → it.ok w.h = true →
  (i < it.n → ∀ v, it.item i w.h = some v → J.go i w.H ∧ ∀ x H', J.yld i w.H x H' → ∃ w', w'.h = w.h ∧ w'.H = H' ∧ Ex w w' ∧ Rl K w' ∧ VR K w' v x) ∧ (it.n ≤ i → J.stop i w.H)
def tI (K : PySem.W.Frag) (m : MIt) : TI := fun s H R => ∃ w os, w.H = H ∧ Rl K w ∧ SR K w os s ∧ Post K w (m os w.h) (fun it w1 => ∀ J, JS K w1 it J → R J w1.H)
def fGo (it : OI) (g : MG) (b : MS) : Nat → Nat → MS
  | 0, _, s, h => if it.ok h = true then some (.nx s, h) else none
  | n + 1, i, s, h => if it.ok h = true then (it.item i h).bind fun v => bnd (g v s h) fun s1 h1 => bnd (b s1 h1) fun f h2 => match f with
      | .nx s2 => fGo it g b n (i + 1) s2 h2
      | .ct s2 => fGo it g b n (i + 1) s2 h2
      | .bk s2 => some (.nx s2, h2)
      | .rt v => some (.rt v, h2)
    else none
def sFor (m : MIt) (g : MG) (b : MS) : MS := fun s h => bnd (m s h) fun it h1 => fGo it g b it.n 0 s h1
theorem r_for {tg iter : Expr} {body : List Stmt} {m : MIt} {g : MG} {mb : MS} {pos : Pos} (b : Bx X k) (hi : PI X tg iter (tI X.K m)) (hg : PG X tg (tG X.K g)) (hb : PSs X body (tS X.K mb)) (hs : ∀ x, foldedSetIterable iter X.env x = pure x := by intro _; rfl) :
    PS X (.For tg iter body [] pos) (tS X.K (sFor m g mb)) := by
  refine ps_wk (ps_for b.pass b.calm hi hg hb hs) fun D s H q => ?_
  obtain ⟨w, os, rfl, rl, sr, p⟩ := q
  refine ⟨w, os, rfl, rl, sr, (Post.bind p).mono fun it w1 e1 rl1 p1 J js => ?_⟩
  refine ⟨fun i m s H => ∃ w os, w.H = H ∧ Ex w1 w ∧ Rl X.K w ∧ SR X.K w os s ∧ i + m = it.n ∧ Post X.K w (fGo it g mb m i os w.h) (RsF X.K D), ⟨it.n, w1, os, rfl, Ex.refl _, rl1, sr.mono e1, by omega, p1⟩, fun i m s H hw => ?_⟩
  obtain ⟨w, os, rfl, ex, rl, sr, hn, p⟩ := hw
  cases m with
  | zero =>
    unfold fGo at p
    split at p
    · rename_i hz
      exact .inl ⟨(js w i ex.rho ex.le ex rl hz).2 (by omega), Post.here p rl _ sr⟩
    · exact p.elim
  | succ m =>
    unfold fGo at p
    split at p
    · rename_i hz
      obtain ⟨j1, _⟩ := js w i ex.rho ex.le ex rl hz
      cases ev : it.item i w.h with
      | none => rw [ev] at p; exact p.elim
      | some v =>
        rw [ev] at p
        simp only [Option.bind_some] at p
        obtain ⟨go, yl⟩ := j1 (by omega) v ev
        refine .inr ⟨go, fun s H => ∃ w os, w.H = H ∧ Ex w1 w ∧ Rl X.K w ∧ SR X.K w os s ∧ i + 1 + m = it.n ∧ Post X.K w (fGo it g mb m (i + 1) os w.h) (RsF X.K D), fun s' H' z => ⟨m, Nat.lt_succ_self _, z⟩, fun x H' y => ?_⟩
        obtain ⟨w', eh, eH, ex', rl', rv⟩ := yl x H' y
        rw [← eh] at p
        subst eH
        have p' : Post X.K w' (bnd (g v os w'.h) fun s1 h1 => bnd (mb s1 h1) fun f h2 => match f with
            | .nx s2 => fGo it g mb m (i + 1) s2 h2
            | .ct s2 => fGo it g mb m (i + 1) s2 h2
            | .bk s2 => some (.nx s2, h2)
            | .rt v => some (.rt v, h2)) (RsF X.K D) := by
          revert p
          cases (bnd (g v os w'.h) fun s1 h1 => bnd (mb s1 h1) fun f h2 => match f with
            | .nx s2 => fGo it g mb m (i + 1) s2 h2
            | .ct s2 => fGo it g mb m (i + 1) s2 h2
            | .bk s2 => some (OF.nx s2, h2)
            | .rt v => some (.rt v, h2)) with
          | none => exact fun p => p
          | some z => exact fun p w2 a c d => p w2 a (ex'.trans c) d
        refine ⟨w', os, v, rfl, rl', sr.mono ex', rv, (Post.bind p').mono fun s1 w2 e2 rl2 p2 s' sr' => ?_⟩
        refine ⟨w2, s1, rfl, rl2, sr', (Post.bind p2).mono fun f w3 e3 rl3 p3 => ?_⟩
        cases f with
        | nx s2 => exact fun s' sr' => ⟨w3, s2, rfl, ((ex.trans ex').trans e2).trans e3, rl3, sr', by omega, p3⟩
        | ct s2 => exact fun s' sr' => ⟨w3, s2, rfl, ((ex.trans ex').trans e2).trans e3, rl3, sr', by omega, p3⟩
        | bk s2 => exact Post.here p3 rl3
        | rt v => exact Post.here p3 rl3
    · exact p.elim
end
end O

set_option maxHeartbeats 4000000
namespace O
open PySem L2 PyProof.Rows
def lenIs (h : OH) (a n : Nat) : Bool := match h[a]? with
  | some (.lst xs) => xs.length == n
  | _ => false
def itemL (h : OH) (a i : Nat) : Option OV := match h[a]? with
  | some (.lst xs) => xs[i]?
  | _ => none
def oiL (a n : Nat) : OI := ⟨n, fun h => lenIs h a n, fun i h => itemL h a i⟩
def oiV (xs : List OV) : OI := ⟨xs.length, fun _ => true, fun i _ => xs[i]?⟩
def oiR (lo : Int) (n : Nat) : OI := ⟨n, fun _ => true, fun i _ => some (.int (lo + i))⟩
def oiRc (lo c : Int) (n : Nat) : OI := ⟨n, fun _ => true, fun i _ => some (.int (lo + i * c))⟩
def oiS (x : Str) : OI := ⟨x.cps.size, fun _ => true, fun i _ => (x.cps[i]?).map fun c => .str ⟨#[c]⟩⟩
def oiE (a n : Nat) : OI := ⟨n, fun h => lenIs h a n, fun i h => (itemL h a i).map fun v => .tup [.int i, v]⟩
def oiZ (a n b m : Nat) : OI := ⟨min n m, fun h => lenIs h a n && lenIs h b m, fun i h => (itemL h a i).bind fun v => (itemL h b i).map fun u => .tup [v, u]⟩
theorem lenIs_ok {h : OH} {a n : Nat} (e : lenIs h a n = true) : ∃ xs, h[a]? = some (.lst xs) ∧ xs.length = n := by
  unfold lenIs at e
  split at e
  · rename_i xs hx
    exact ⟨xs, hx, by simpa using e⟩
  · cases e
section
variable {K : PySem.W.Frag} {w0 : Wd}
theorem SqL.inj1 {H : Hp} {p : Addr} {xs ys : List V} (h : H p = some (.lst xs)) (g : SqL K H p ys) (nk : K.lookup p = none ∨ True) : Rd H p (.lst ys) → xs = ys := fun r => by
  rcases r with r | ⟨o, r⟩
  · rw [h] at r; cases r; rfl
  · rw [h] at r; cases r
end
/-- at a tracked list, what is read is it -/
def LstAt (K : PySem.W.Frag) (H : Hp) (p : Addr) (vs : List V) : Prop := ∀ ys, SqL K H p ys → ys = vs
section
variable {X : Cx} {k : Nat}
theorem js_val {K : PySem.W.Frag} {w0 : Wd} {it : OI} {J : It} (hok : ∀ h, it.ok h = true)
    (h : ∀ i, (∀ v, i < it.n → ∀ h, it.item i h = some v → ∃ y, (∀ w, Ex w0 w → VR K w v y) ∧ (∀ H, J.go i H) ∧ ∀ x H H', J.yld i H x H' → H' = H ∧ x = y) ∧ (it.n ≤ i → ∀ H, J.stop i H)) : JS K w0 it J := by
  intro w i _ _ ex rl _
  obtain ⟨h1, h2⟩ := h i
  refine ⟨fun hi v e => ?_, fun hi => h2 hi _⟩
  obtain ⟨y, g1, g2, g3⟩ := h1 v hi _ e
  refine ⟨g2 _, fun x H' yl => ?_⟩
  obtain ⟨rfl, rfl⟩ := g3 _ _ _ yl
  exact ⟨w, rfl, rfl, Ex.refl w, rl, g1 w ex⟩
def iL (m : ME) : MIt := fun s h => bnd (m s h) fun x h1 => match x with
  | .tup xs => some (oiV xs, h1)
  | .str z => some (oiS z, h1)
  | .ref a => match h1[a]? with
    | some (.lst xs) => some (oiL a xs.length, h1)
    | _ => none
  | _ => none
theorem pi_or {tg e : Expr} {t t' : TI} (h : PI X tg e t) (h' : PI X tg e t') : PI X tg e (fun s H R => t s H R ∨ t' s H R) := ⟨fun pins s σ H R I q => q.elim (h.run pins s σ H R I) (h'.run pins s σ H R I)⟩
theorem pi_bind {tg e : Expr} {t : TE} {r1 r2 r3 : V → Hp → (It → Hp → Prop) → Prop} (h1 : ∀ te, PE X e te → PI X tg e (fun s H R => te s H fun x H1 => r1 x H1 R)) (h2 : ∀ te, PE X e te → PI X tg e (fun s H R => te s H fun x H1 => r2 x H1 R)) : True := trivial
/-- a list, a tuple, a text -/
theorem i_l {tg e : Expr} {m : ME} (he : PE X e (tE X.K m)) : PI X tg e (tI X.K (iL m)) := by
  refine pi_wk (pi_or (pi_or (pi_list he) (pi_tup he)) (pi_str he)) fun s H R q => ?_
  obtain ⟨w, os, rfl, rl, sr, p⟩ := q
  unfold iL at p
  cases em : m os w.h with
  | none => rw [em] at p; exact p.elim
  | some z =>
    obtain ⟨x, h1⟩ := z
    rw [em] at p
    have p : Post X.K w (match x with
      | .tup xs => some (oiV xs, h1)
      | .str z => some (oiS z, h1)
      | .ref a => match h1[a]? with
        | some (.lst xs) => some (oiL a xs.length, h1)
        | _ => none
      | _ => none) (fun it w1 => ∀ J, JS X.K w1 it J → R J w1.H) := p
    have run : ∀ (P : OV → Wd → Prop), (∀ w1, w1.h = h1 → Ex w w1 → Rl X.K w1 → P x w1) → Post X.K w (m os w.h) P := fun P hp => by
      rw [em]; exact fun w' a b c => hp w' a b c
    cases x with
    | tup xs =>
      refine .inl (.inr ⟨w, os, rfl, rl, sr, run _ fun w1 e1 x1 rl1 v r => ?_⟩)
      simp only [VR] at r
      obtain ⟨p1, vs, rfl, g1, g2⟩ := r
      refine ⟨p1, rfl, ⟨vs, SqT.of g1⟩, p w1 e1 x1 rl1 _ ?_⟩
      intro w2 i _ _ ex rl2 _
      have g3 := ex.tup _ _ g1
      have g4 := g2.mono ex
      refine ⟨fun hi v e => ?_, fun hi => ⟨vs, SqT.of g3, by rw [← g2.length]; exact hi⟩⟩
      obtain ⟨y, g5, g6⟩ := g4.get e
      refine ⟨⟨vs, y, SqT.of g3, g5⟩, fun x H' yl => ?_⟩
      obtain ⟨rfl, yl⟩ := yl
      have := yl vs (SqT.of g3)
      rw [g5] at this
      cases this
      exact ⟨w2, rfl, rfl, Ex.refl _, rl2, g6⟩
    | str z =>
      refine .inr ⟨w, os, rfl, rl, sr, run _ fun w1 e1 x1 rl1 v r => ?_⟩
      simp only [VR] at r
      subst r
      refine ⟨z, rfl, p w1 e1 x1 rl1 _ (js_val (fun _ => rfl) fun i => ⟨fun v hi h e => ?_, fun hi H => hi⟩)⟩
      have hi : i < z.cps.size := hi
      have e : (z.cps[i]?).map (fun c => OV.str ⟨#[c]⟩) = some v := e
      rw [Array.getElem?_eq_getElem hi] at e
      simp only [Option.map_some, Option.some.injEq] at e
      subst e
      refine ⟨.str ⟨#[z.cps[i]]⟩, fun w _ => vr_str, fun H => hi, fun x H H' yl => ?_⟩
      obtain ⟨rfl, c, ec, rfl⟩ := yl
      rw [Array.getElem?_eq_getElem hi] at ec
      cases ec
      exact ⟨rfl, rfl⟩
    | ref a =>
      dsimp only at p
      split at p
      · rename_i xs ha
        refine .inl (.inl ⟨w, os, rfl, rl, sr, run _ fun w1 e1 x1 rl1 v r => ?_⟩)
        have al := at_lt ha
        rw [← e1] at ha al
        obtain ⟨vs, g1, g2⟩ := rl1.lst ha
        obtain rfl := r.ref
        refine ⟨_, rfl, ⟨vs, SqL.of g1⟩, p w1 e1 x1 rl1 _ ?_⟩
        intro w2 i er el ex rl2 hok
        obtain ⟨ys, hy, hl⟩ := lenIs_ok hok
        obtain ⟨us, g3, g4⟩ := rl2.lst hy
        rw [er a al] at g3
        refine ⟨fun hi v e => ?_, fun hi => ⟨us, SqL.of g3, by rw [← g4.length, hl]; exact hi⟩⟩
        have e : itemL w2.h a i = some v := e
        unfold itemL at e
        rw [hy] at e
        obtain ⟨y, g5, g6⟩ := g4.get e
        refine ⟨⟨us, y, SqL.of g3, g5⟩, fun x H' yl => ?_⟩
        obtain ⟨rfl, yl⟩ := yl
        have := yl us (SqL.of g3)
        rw [g5] at this
        cases this
        exact ⟨w2, rfl, rfl, Ex.refl _, rl2, g6⟩
      · exact p.elim
    | _ => exact p.elim
def rB (i : Int) : Bool := decide (-(2 ^ 62) ≤ i) && decide (i < 2 ^ 62)
theorem rB_ok {i : Int} (h : rB i = true) : -(2 ^ 62) ≤ i ∧ i < 2 ^ 62 := by
  unfold rB at h
  simpa using h
def iR1 (m : MA) : MIt := fun s h => bnd (m s h) fun xs h1 => match xs with
  | [.int j] => if rB j = true then some (oiR 0 j.toNat, h1) else none
  | _ => none
def iR2 (m : MA) : MIt := fun s h => bnd (m s h) fun xs h1 => match xs with
  | [.int i, .int j] => if (rB i && rB j) = true then some (oiR i (j - i).toNat, h1) else none
  | _ => none
theorem js_r {K : PySem.W.Frag} {w : Wd} {lo : Int} {n : Nat} : JS K w (oiR lo n) (Itr lo n) :=
  js_val (fun _ => rfl) fun i => ⟨fun v hi h e => by
    have e : some (OV.int (lo + i)) = some v := e
    cases e
    exact ⟨.int (lo + i), fun w _ => vr_int, fun H => hi, fun x H H' yl => yl⟩, fun hi H => hi⟩
theorem i_r1 {tg a : Expr} {m : MA} {p pos : Pos} (hg : Gl X "range") (hm : X.mg "range" = none) (ha : PA X [a] (tA X.K m)) (hs : starEach [a] X.env = [(false, eval a X.env)] := by rfl) : PI X tg (.Call (.Name "range" p) [a] [] pos) (tI X.K (iR1 m)) := by
  refine pi_wk (pi_range1 hg hm ha hs) fun s H R q => ?_
  obtain ⟨w, os, rfl, rl, sr, p⟩ := q
  refine ⟨w, os, rfl, rl, sr, (Post.bind p).mono fun xs w1 e1 rl1 p1 vs r => ?_⟩
  split at p1
  · split at p1
    · rename_i hz
      simp only [VRs, VR] at r
      obtain ⟨v, _, rfl, rfl, rfl⟩ := r
      obtain ⟨z1, z2⟩ := rB_ok hz
      exact ⟨_, rfl, z1, z2, Post.here p1 rl1 _ js_r⟩
    · exact p1.elim
  · exact p1.elim
theorem i_r2 {tg a c : Expr} {m : MA} {p pos : Pos} (hg : Gl X "range") (hm : X.mg "range" = none) (ha : PA X [a, c] (tA X.K m)) (hs : starEach [a, c] X.env = [(false, eval a X.env), (false, eval c X.env)] := by rfl) (hs2 : starEach [c] X.env = [(false, eval c X.env)] := by rfl) :
    PI X tg (.Call (.Name "range" p) [a, c] [] pos) (tI X.K (iR2 m)) := by
  refine pi_wk (pi_range2 hg hm ha hs hs2) fun s H R q => ?_
  obtain ⟨w, os, rfl, rl, sr, p⟩ := q
  refine ⟨w, os, rfl, rl, sr, (Post.bind p).mono fun xs w1 e1 rl1 p1 vs r => ?_⟩
  split at p1
  · split at p1
    · rename_i hz
      simp only [VRs, VR] at r
      obtain ⟨v, _, rfl, rfl, u, _, rfl, rfl, rfl⟩ := r
      rw [Bool.and_eq_true] at hz
      obtain ⟨z1, z2⟩ := rB_ok hz.1
      obtain ⟨z3, z4⟩ := rB_ok hz.2
      exact ⟨_, _, rfl, ⟨z1, z2, z3, z4⟩, Post.here p1 rl1 _ js_r⟩
    · exact p1.elim
  · exact p1.elim
def iE (m : MA) : MIt := fun s h => bnd (m s h) fun xs h1 => match xs with
  | [.ref a] => match h1[a]? with
    | some (.lst xs) => some (oiE a xs.length, h1)
    | _ => none
  | _ => none
theorem i_e {e : Expr} {m : MA} {p pos tpos : Pos} {elts : List Expr} {kk : Nat} (hg : Gl X "enumerate") (hm : X.mg "enumerate" = none) (ha : PA X [e] (tA X.K m)) (hs : starEach [e] X.env = [(false, eval e X.env)] := by rfl) :
    PI X (.Tuple elts kk tpos) (.Call (.Name "enumerate" p) [e] [] pos) (tI X.K (iE m)) := by
  refine pi_wk (pi_enum hg hm ha hs) fun s H R q => ?_
  obtain ⟨w, os, rfl, rl, sr, p⟩ := q
  refine ⟨w, os, rfl, rl, sr, (Post.bind p).mono fun xs w1 e1 rl1 p1 vs r => ?_⟩
  split at p1
  · rename_i a
    split at p1
    · rename_i zs ha
      simp only [VRs, VR] at r
      obtain ⟨v, _, rfl, ⟨al, rfl⟩, rfl⟩ := r
      obtain ⟨us, g1, g2⟩ := rl1.lst ha
      refine ⟨_, us, rfl, SqL.of g1, Post.here p1 rl1 _ ?_⟩
      intro w2 i er el ex rl2 hok
      obtain ⟨ys, hy, hl⟩ := lenIs_ok hok
      obtain ⟨us, g3, g4⟩ := rl2.lst hy
      rw [er a al] at g3
      refine ⟨fun hi v e => ?_, fun hi => ⟨us, SqL.of g3, by rw [← g4.length, hl]; exact hi⟩⟩
      have e : (itemL w2.h a i).map (fun v => OV.tup [.int i, v]) = some v := e
      unfold itemL at e
      rw [hy] at e
      dsimp only at e
      cases e2 : ys[i]? with
      | none => rw [e2] at e; cases e
      | some z =>
        rw [e2] at e
        simp only [Option.map_some, Option.some.injEq] at e
        subst e
        obtain ⟨y, g5, g6⟩ := g4.get e2
        refine ⟨⟨us, y, SqL.of g3, g5⟩, fun x H' yl => ?_⟩
        obtain ⟨T, t, rfl, hT, rfl, yl⟩ := yl
        have := yl us (SqL.of g3)
        rw [g5] at this
        cases this
        obtain ⟨x3, rl3⟩ := lay_ok (ho := .tup [.int i, y]) rl2 hT
        exact ⟨⟨w2.rho, w2.h, upd w2.H T (.tup [.int i, y])⟩, rfl, rfl, x3, rl3, by simp only [VR]; exact ⟨T, _, rfl, upd_same, .cons vr_int (.one (g6.mono x3))⟩⟩
    · exact p1.elim
  · exact p1.elim
def iZ (m : MA) : MIt := fun s h => bnd (m s h) fun xs h1 => match xs with
  | [.ref a, .ref b] => match h1[a]?, h1[b]? with
    | some (.lst xs), some (.lst ys) => some (oiZ a xs.length b ys.length, h1)
    | _, _ => none
  | _ => none
theorem i_z {e e2 : Expr} {m : MA} {p pos tpos : Pos} {elts : List Expr} {kk : Nat} (hg : Gl X "zip") (hm : X.mg "zip" = none) (ha : PA X [e, e2] (tA X.K m)) (hs : starEach [e, e2] X.env = (false, eval e X.env) :: starEach [e2] X.env := by rfl) (hp : (backTo pos (starEach [e2] X.env)).any (·.1) = false := by rfl) :
    PI X (.Tuple elts kk tpos) (.Call (.Name "zip" p) [e, e2] [] pos) (tI X.K (iZ m)) := by
  refine pi_wk (pi_zip hg hm ha hs hp) fun s H R q => ?_
  obtain ⟨w, os, rfl, rl, sr, p⟩ := q
  refine ⟨w, os, rfl, rl, sr, (Post.bind p).mono fun xs w1 e1 rl1 p1 vs r => ?_⟩
  split at p1
  · rename_i a b
    split at p1
    · rename_i zs zt ha hb
      simp only [VRs, VR] at r
      obtain ⟨v, _, rfl, ⟨al, rfl⟩, u, _, rfl, ⟨bl, rfl⟩, rfl⟩ := r
      obtain ⟨us, g1, g2⟩ := rl1.lst ha
      obtain ⟨ut, f1, f2⟩ := rl1.lst hb
      refine ⟨_, _, us, ut, rfl, SqL.of g1, SqL.of f1, Post.here p1 rl1 _ ?_⟩
      intro w2 i er el ex rl2 hok
      have hok : (lenIs w2.h a zs.length && lenIs w2.h b zt.length) = true := hok
      rw [Bool.and_eq_true] at hok
      obtain ⟨ys, hy, hl⟩ := lenIs_ok hok.1
      obtain ⟨yt, ty, tl⟩ := lenIs_ok hok.2
      obtain ⟨us, g3, g4⟩ := rl2.lst hy
      obtain ⟨ut, f3, f4⟩ := rl2.lst ty
      rw [er a al] at g3
      rw [er b bl] at f3
      refine ⟨fun hi v e => ?_, fun hi => ⟨us, ut, SqL.of g3, SqL.of f3, ?_⟩⟩
      · have e : ((itemL w2.h a i).bind fun v => (itemL w2.h b i).map fun u => OV.tup [v, u]) = some v := e
        unfold itemL at e
        rw [hy, ty] at e
        dsimp only at e
        cases e2 : ys[i]? with
        | none => rw [e2] at e; cases e
        | some z =>
          rw [e2] at e
          simp only [Option.bind_some] at e
          cases e3 : yt[i]? with
          | none => rw [e3] at e; cases e
          | some z2 =>
            rw [e3] at e
            simp only [Option.map_some, Option.some.injEq] at e
            subst e
            obtain ⟨y, g5, g6⟩ := g4.get e2
            obtain ⟨t, f5, f6⟩ := f4.get e3
            refine ⟨⟨us, ut, y, t, SqL.of g3, SqL.of f3, g5, f5⟩, fun x H' yl => ?_⟩
            obtain ⟨T, q, q2, rfl, hT, rfl, yl, yl2⟩ := yl
            have := yl us (SqL.of g3)
            rw [g5] at this
            cases this
            have := yl2 ut (SqL.of f3)
            rw [f5] at this
            cases this
            obtain ⟨x3, rl3⟩ := lay_ok (ho := .tup [y, t]) rl2 hT
            exact ⟨⟨w2.rho, w2.h, upd w2.H T (.tup [y, t])⟩, rfl, rfl, x3, rl3, by simp only [VR]; exact ⟨T, _, rfl, upd_same, .cons (g6.mono x3) (.one (f6.mono x3))⟩⟩
      · have hi : min zs.length zt.length ≤ i := hi
        rw [← g4.length, ← f4.length, hl, tl]
        omega
    · exact p1.elim
  · exact p1.elim
inductive OT where
  | nm (i : Nat) | tp (ts : List OT)
mutual
def asgT : OT → OV → OSt → Option OSt
  | .nm i, v, s => some (s.set i (some v))
  | .tp ts, .tup xs, s => if xs.length = ts.length then asgTs ts xs s else none
  | .tp _, _, _ => none
def asgTs : List OT → List OV → OSt → Option OSt
  | [], [], s => some s
  | t :: ts, x :: xs, s => (asgT t x s).bind fun s1 => asgTs ts xs s1
  | _, _, _ => none
end
mutual
def gT (K : PySem.W.Frag) : OT → TG
  | .nm i => gName i
  | .tp ts => gTup K ts.length (gTs K ts)
def gTs (K : PySem.W.Frag) : List OT → TGs
  | [] => gNil
  | t :: ts => gCons (gT K t) (gTs K ts)
end
mutual
def slT : OT → List Nat
  | .nm i => [i]
  | .tp ts => slTs ts
def slTs : List OT → List Nat
  | [] => []
  | t :: ts => slT t ++ slTs ts
end
theorem t_nm {i : Nat} {x : Str} {pos : Pos} (b : Bx X k) (hi : X.N[i]? = some x) (hx : Loc X.env.scope x) (hf : X.fn x = true ∨ X.env.scope.names.lookup x = some .local := by first | exact .inl rfl | exact .inr rfl) : PG X (.Name x pos) (gT X.K (.nm i)) := by
  simp only [gT]
  exact pg_name b.nd hi hx hf
theorem ts_nil : PGs X [] (gTs X.K []) := by
  simp only [gTs]
  exact pgs_nil
theorem ts_cons {e : Expr} {es : List Expr} {t : OT} {ts : List OT} (ha : PG X e (gT X.K t)) (hb : PGs X es (gTs X.K ts)) (hs : (assignEach (e :: es) X.env).map (·.2) = assign e X.env :: (assignEach es X.env).map (·.2) := by rfl) : PGs X (e :: es) (gTs X.K (t :: ts)) := by
  simp only [gTs]
  exact pgs_cons ha hb hs
theorem t_tp {es : List Expr} {kk : Nat} {ts : List OT} {pos : Pos} (b : Bx X k) (hl : PGs X es (gTs X.K ts)) (h1 : (assignEach es X.env).length = ts.length := by rfl) (h2 : (assignEach es X.env).findIdx? (·.1) = none := by rfl) : PG X (.Tuple es kk pos) (gT X.K (.tp ts)) := by
  simp only [gT]
  exact pg_tup b.calm hl h1 h2
theorem wipe_set {s : L2.St} {i : Nat} {v : Option V} : ∀ {vs : List Nat}, i ∈ vs → wipe (s.set i v) vs = wipe s vs
  | [], h => by cases h
  | j :: vs, h => by
    show (wipe (s.set i v) vs).set j none = (wipe s vs).set j none
    by_cases e : i ∈ vs
    · rw [wipe_set e]
    · have e2 : i = j := by
        rcases List.mem_cons.mp h with h | h
        · exact h
        · exact absurd h e
      subst e2
      have : ∀ (vs : List Nat) (s : L2.St), i ∉ vs → wipe (s.set i v) vs = (wipe s vs).set i v := by
        intro vs
        induction vs with
        | nil => intro s _; rfl
        | cons a r ih =>
          intro s hn
          show (wipe (s.set i v) r).set a none = ((wipe s r).set a none).set i v
          rw [ih s (fun z => hn (List.mem_cons_of_mem _ z)), List.set_comm _ _ (fun z => hn (by rw [z]; exact List.mem_cons_self))]
      rw [this vs s e, List.set_set]
mutual
theorem gT_run {K : PySem.W.Frag} {w : Wd} {vs : List Nat} : ∀ (t : OT) (x : OV) (v : V) (os os2 : OSt) (σ : L2.St) (Q : L2.St → Hp → Prop), (∀ i ∈ slT t, i ∈ vs) → asgT t x os = some os2 → VR K w x v → SR K w os σ → (∀ σ2, SR K w os2 σ2 → wipe σ2 vs = wipe σ vs → Q σ2 w.H) → gT K t v σ w.H Q
  | .nm i, x, v, os, os2, σ, Q, hs, e, r, sr, q => by
    simp only [asgT, Option.some.injEq] at e
    subst e
    simp only [gT]
    exact q _ (sr.set r i) (wipe_set (hs i (by simp [slT])))
  | .tp ts, x, v, os, os2, σ, Q, hs, e, r, sr, q => by
    cases x with
    | tup xs =>
      simp only [asgT] at e
      simp only [VR] at r
      obtain ⟨p, us, rfl, g1, g2⟩ := r
      split at e
      · rename_i hz
        simp only [gT]
        exact ⟨p, us, rfl, SqT.of g1, by rw [← g2.length]; exact hz, gTs_run ts xs us os os2 σ Q (fun i hi => hs i (by simpa only [slT] using hi)) e g2 sr q⟩
      · cases e
    | _ => simp only [asgT] at e; cases e
theorem gTs_run {K : PySem.W.Frag} {w : Wd} {vs : List Nat} : ∀ (ts : List OT) (xs : List OV) (us : List V) (os os2 : OSt) (σ : L2.St) (Q : L2.St → Hp → Prop), (∀ i ∈ slTs ts, i ∈ vs) → asgTs ts xs os = some os2 → VRs K w xs us → SR K w os σ → (∀ σ2, SR K w os2 σ2 → wipe σ2 vs = wipe σ vs → Q σ2 w.H) → gTs K ts us σ w.H Q
  | [], [], us, os, os2, σ, Q, hs, e, r, sr, q => by
    simp only [asgTs, Option.some.injEq] at e
    subst e
    simp only [VRs] at r
    simp only [gTs]
    exact ⟨r, q σ sr rfl⟩
  | [], _ :: _, _, _, _, _, _, _, e, _, _, _ => by simp only [asgTs] at e; cases e
  | _ :: _, [], _, _, _, _, _, _, e, _, _, _ => by simp only [asgTs] at e; cases e
  | t :: ts, x :: xs, us, os, os2, σ, Q, hs, e, r, sr, q => by
    simp only [asgTs] at e
    simp only [VRs] at r
    obtain ⟨v, ur, rfl, r1, r2⟩ := r
    cases e1 : asgT t x os with
    | none => rw [e1] at e; cases e
    | some s1 =>
      rw [e1] at e
      simp only [Option.bind_some] at e
      simp only [gTs]
      refine ⟨v, ur, rfl, gT_run t x v os s1 σ _ (fun i hi => hs i (by simp only [slTs]; exact List.mem_append_left _ hi)) e1 r1 sr fun σ1 sr1 h1 => ?_⟩
      exact gTs_run ts xs ur s1 os2 σ1 Q (fun i hi => hs i (by simp only [slTs]; exact List.mem_append_right _ hi)) e r2 sr1 fun σ2 sr2 h2 => q σ2 sr2 (h2.trans h1)
end
def wipeO (s : OSt) : List Nat → OSt
  | [] => s
  | i :: r => (wipeO s r).set i none
theorem SR.unset {K : PySem.W.Frag} {w : Wd} {os : OSt} {s : L2.St} (x : SR K w os s) (i : Nat) : SR K w (os.set i none) (s.set i none) := by
  refine ⟨by simpa using x.len, fun j u e => ?_⟩
  rw [List.getElem?_set] at e
  split at e
  · split at e <;> cases e
  · rename_i hij
    obtain ⟨u', h1, h2⟩ := x.at_ j u e
    exact ⟨u', by rw [List.getElem?_set_ne hij]; exact h1, h2⟩
theorem SR.wipe {K : PySem.W.Frag} {w : Wd} {os : OSt} {s : L2.St} (x : SR K w os s) : ∀ vs, SR K w (wipeO os vs) (L2.wipe s vs)
  | [] => x
  | i :: r => (SR.wipe x r).unset i
theorem wipe_at {s : L2.St} : ∀ {vs : List Nat} {i : Nat}, (L2.wipe s vs)[i]? = if i ∈ vs ∧ i < s.length then some none else s[i]?
  | [], i => by simp [L2.wipe]
  | j :: vs, i => by
    show ((L2.wipe s vs).set j none)[i]? = _
    rw [List.getElem?_set, wipe_length, wipe_at (vs := vs)]
    by_cases e : j = i
    · subst e
      by_cases l : j < s.length
      · simp [l]
      · simp [l]
    · have e2 : i ≠ j := fun z => e z.symm
      simp [e, e2]
theorem wipe_wipe {s : L2.St} {vs : List Nat} : L2.wipe (L2.wipe s vs) vs = L2.wipe s vs := by
  refine List.ext_getElem? fun i => ?_
  rw [wipe_at, wipe_length, wipe_at]
  split <;> rfl
/-- a list comprehension's turns: the list so far -/
def lGo (it : OI) (t : OT) (vs : List Nat) (c : MT) (e : ME) : Nat → Nat → List OV → OSt → OH → Option (List OV × OH)
  | 0, _, acc, _, h => if it.ok h = true then some (acc, h) else none
  | n + 1, i, acc, s, h => if it.ok h = true then (it.item i h).bind fun v => (asgT t v (wipeO s vs)).bind fun s2 => bnd (c s2 h) fun b h1 =>
      if b = true then bnd (e s2 h1) fun y h2 => if acc.length < sizeLine then lGo it t vs c e n (i + 1) (acc ++ [y]) s h2 else none else lGo it t vs c e n (i + 1) acc s h1
    else none
def eLc (m : MIt) (t : OT) (vs : List Nat) (c : MT) (e : ME) : ME := fun s h => bnd (m s h) fun it h1 => bnd (lGo it t vs c e it.n 0 [] s h1) fun acc h2 => some (.ref h2.length, h2 ++ [.lst acc])
def tYesO : MT := fun _ h => some (true, h)
theorem ts_yes : PTs X [] (tT X.K tYesO) := ⟨fun pins s σ H Q I q => pts_nil.run pins s σ H Q I (by
  obtain ⟨w, os, rfl, rl, sr, p⟩ := q
  exact Post.here p rl)⟩
theorem ts_one {c : Expr} {m : MT} (h : PT X c (tT X.K m)) : PTs X [c] (tT X.K m) := pts_one h
/-- the list that was filled apart is taken in -/
theorem take_ok {K : PySem.W.Frag} {w0 w : Wd} {D : Addr} {o : OO} {ho : HO} (x : Ex w0 w) (rl : Rl K w) (h0 : w0.H D = none) (hD : w.H D = some ho) (nD : ∀ i, i < w.h.length → w.rho i ≠ D) (c : CR K w o ho) :
    ∃ w', w'.h = w.h ++ [o] ∧ w'.H = w.H ∧ w'.rho w.h.length = D ∧ Ex w0 w' ∧ Rl K w' := by
  have e0 : Ex0 w ⟨fun b => if b = w.h.length then D else w.rho b, w.h ++ [o], w.H⟩ := ⟨by simp, fun a ha => if_neg (Nat.ne_of_lt ha), fun _ _ h => h, fun _ _ _ h => h⟩
  refine ⟨⟨fun b => if b = w.h.length then D else w.rho b, w.h ++ [o], w.H⟩, rfl, rfl, by simp, ⟨?_, fun a ha => ?_, x.tup, x.frz, x.there, fun a h1 h2 => ?_, x.fra⟩, fun a u hu => ?_, fun a b ha hb h => ?_⟩
  · exact Nat.le_trans x.le e0.le
  · exact (e0.rho a (Nat.lt_of_lt_of_le ha x.le)).trans (x.rho a ha)
  · have h2 : a < (w.h ++ [o]).length := h2
    rw [List.length_append, List.length_singleton] at h2
    show w0.H (if a = w.h.length then D else w.rho a) = none
    by_cases e : a = w.h.length
    · rw [if_pos e]; exact h0
    · rw [if_neg e]; exact x.fresh a h1 (by omega)
  · have hu : (w.h ++ [o])[a]? = some u := hu
    show ∃ ho, w.H (if a = w.h.length then D else w.rho a) = some ho ∧ _
    by_cases ha : a < w.h.length
    · rw [List.getElem?_append_left ha] at hu
      obtain ⟨ho', g1, g2⟩ := rl.obj a u hu
      exact ⟨ho', by rw [if_neg (Nat.ne_of_lt ha)]; exact g1, g2.mono0 e0⟩
    · rw [List.getElem?_append_right (Nat.le_of_not_lt ha)] at hu
      have hal : a = w.h.length := by
        have := (List.getElem?_eq_some_iff.mp hu).1
        simp at this; omega
      subst hal
      simp at hu
      subst hu
      exact ⟨ho, by rw [if_pos rfl]; exact hD, c.mono0 e0⟩
  · have ha : a < (w.h ++ [o]).length := ha
    have hb : b < (w.h ++ [o]).length := hb
    have h : (if a = w.h.length then D else w.rho a) = (if b = w.h.length then D else w.rho b) := h
    rw [List.length_append, List.length_singleton] at ha hb
    by_cases ea : a = w.h.length
    · by_cases eb : b = w.h.length
      · omega
      · rw [if_pos ea, if_neg eb] at h
        exact absurd h.symm (nD b (by omega))
    · by_cases eb : b = w.h.length
      · rw [if_neg ea, if_pos eb] at h
        exact absurd h (nD a (by omega))
      · rw [if_neg ea, if_neg eb] at h
        exact rl.inj a b (by omega) (by omega) h
/-- something that stands apart is changed -/
theorem apart_ok {K : PySem.W.Frag} {w : Wd} {D : Addr} {ho u : HO} (rl : Rl K w) (hD : w.H D = some ho) (hc : Chg ho) (nD : ∀ i, i < w.h.length → w.rho i ≠ D) : Ex0 w ⟨w.rho, w.h, upd w.H D u⟩ ∧ Rl K ⟨w.rho, w.h, upd w.H D u⟩ := by
  have e0 : Ex0 w ⟨w.rho, w.h, upd w.H D u⟩ := ⟨Nat.le_refl _, fun _ _ => rfl, fun q vs h => (upd_ne (fun z => by subst z; rw [hD] at h; cases h; exact hc)).trans h, fun q o v h => (upd_ne (fun z => by subst z; rw [hD] at h; cases h; exact hc)).trans h⟩
  refine ⟨e0, fun a o h => ?_, rl.inj⟩
  obtain ⟨ho', g1, g2⟩ := rl.obj a o h
  exact ⟨ho', (upd_ne (nD a (at_lt h))).trans g1, g2.mono0 e0⟩
/-- the state of a comprehension's block: the new thing at D stands apart -/
structure Ap (K : PySem.W.Frag) (w0 w : Wd) (D : Addr) (ho : HO) : Prop where
  le : w0.h.length ≤ w.h.length
  rho : ∀ a, a < w0.h.length → w.rho a = w0.rho a
  tup : ∀ p vs, w0.H p = some (.tup vs) → w.H p = some (.tup vs)
  frz : ∀ p o u, w0.H p = some (.frz o u) → w.H p = some (.frz o u)
  there : ∀ p o, w0.H p = some o → ∃ u, w.H p = some u
  fresh : ∀ a, w0.h.length ≤ a → a < w.h.length → w0.H (w.rho a) = none
  fra : ∀ p o, w0.H p = some o → (∀ a, a < w0.h.length → w0.rho a ≠ p) → w.H p = some o
  rl : Rl K w
  at_ : w.H D = some ho
  out : ∀ i, i < w.h.length → w.rho i ≠ D
theorem Ap.ex {K : PySem.W.Frag} {w0 w : Wd} {D : Addr} {ho : HO} (a : Ap K w0 w D ho) : Ex w0 w := ⟨a.le, a.rho, a.tup, a.frz, a.there, a.fresh, a.fra⟩
theorem Ap.step {K : PySem.W.Frag} {w0 w w' : Wd} {D : Addr} {ho : HO} (a : Ap K w0 w D ho) (x : Ex w w') (rl : Rl K w') : Ap K w0 w' D ho := by
  have y := a.ex.trans x
  exact ⟨y.le, y.rho, y.tup, y.frz, y.there, y.fresh, y.fra, rl, x.fra D ho a.at_ a.out, x.out a.at_ a.out⟩
theorem Ap.put {K : PySem.W.Frag} {w0 w : Wd} {D : Addr} {ho u : HO} (a : Ap K w0 w D ho) (h0 : w0.H D = none) (hc : Chg ho) : Ap K w0 ⟨w.rho, w.h, upd w.H D u⟩ D u := by
  obtain ⟨e0, rl⟩ := apart_ok (u := u) a.rl a.at_ hc a.out
  have ne : ∀ p o, w0.H p = some o → p ≠ D := fun p o h => ne_of_none h h0
  refine ⟨a.le, a.rho, fun p vs h => e0.tup _ _ (a.tup p vs h), fun p o v h => e0.frz _ _ _ (a.frz p o v h), fun p o h => ?_, a.fresh, fun p o h n => (upd_ne (ne p o h)).trans (a.fra p o h n), rl, upd_same, a.out⟩
  obtain ⟨v, hv⟩ := a.there p o h
  exact ⟨v, (upd_ne (ne p o h)).trans hv⟩
theorem Ap.start {K : PySem.W.Frag} {w0 : Wd} {D : Addr} {ho : HO} (rl : Rl K w0) (h0 : w0.H D = none) : Ap K w0 ⟨w0.rho, w0.h, upd w0.H D ho⟩ D ho := by
  obtain ⟨x, rl1⟩ := lay_ok (ho := ho) rl h0
  refine ⟨x.le, x.rho, x.tup, x.frz, x.there, x.fresh, x.fra, rl1, upd_same, fun i hi e => ?_⟩
  obtain ⟨u, g, _⟩ := rl.obj i _ (List.getElem?_eq_getElem hi)
  have e : w0.rho i = D := e
  rw [e, h0] at g
  cases g
/-- [e for t in m if c] -/
theorem s_lc {elt tg iter : Expr} {ifs : List Expr} {scope : Scope} {own : List (Str × Nat)} {pos : Pos} {m : MIt} {t : OT} {c : MT} {e : ME} (b : Bx X k) (hi : PI X tg iter (tI X.K m)) (ok : BlkOk X.N X.env.scope scope own) (hsl : (slT t).all (fun i => (own.map (·.2)).contains i) = true)
    (hg : ∀ (s : Shared) (H : Hp) (C : Addr) (cl : List (Str × Addr)) (fp : List Addr), Bx (X.blk s H scope (compEnvC scope cl C X.env) fp) k → PG (X.blk s H scope (compEnvC scope cl C X.env) fp) tg (gT X.K t))
    (hc : ∀ (s : Shared) (H : Hp) (C : Addr) (cl : List (Str × Addr)) (fp : List Addr), Bx (X.blk s H scope (compEnvC scope cl C X.env) fp) k → PTs (X.blk s H scope (compEnvC scope cl C X.env) fp) ifs (tT X.K c))
    (he : ∀ (s : Shared) (H : Hp) (C : Addr) (cl : List (Str × Addr)) (fp : List Addr), Bx (X.blk s H scope (compEnvC scope cl C X.env) fp) k → PE (X.blk s H scope (compEnvC scope cl C X.env) fp) elt (tE X.K e)) (hs : ∀ x, foldedSetIterable iter X.env x = pure x := by intro _; rfl) :
    PE X (.ListComp elt [⟨tg, iter, ifs, 0⟩] scope pos) (tE X.K (eLc m t (own.map (·.2)) c e)) ∧ ∀ {i : Nat} {y : Str} {py spos : Pos}, X.N[i]? = some y → X.env.scope.names.lookup y = some .local → swapsWith (.ListComp elt [⟨tg, iter, ifs, 0⟩] scope pos) (some (.Name y py)) spos.line X.env = pure true →
      PS X (.Assign [.Name y py] (.ListComp elt [⟨tg, iter, ifs, 0⟩] scope pos) spos) (tS X.K (sSet i (eLc m t (own.map (·.2)) c e))) := by
  have bb : ∀ (s : Shared) (H : Hp) (C : Addr) (cl : List (Str × Addr)) (fp : List Addr), Bx (X.blk s H scope (compEnvC scope cl C X.env) fp) k := fun s H C cl fp => ⟨b.room, b.gd, b.calm, b.nd, PassesOwn.never⟩
  have sub : ∀ i ∈ slT t, i ∈ own.map (·.2) := fun i hi => by
    have := List.all_eq_true.mp hsl i hi
    simpa using this
  have core : ∀ (s : L2.St) (H : Hp) (Q : VK), tE X.K (eLc m t (own.map (·.2)) c e) s H Q → tLc (tI X.K m) (gT X.K t) (tT X.K c) (tE X.K e) (own.map (·.2)) s H Q := by
    intro s H Q q
    obtain ⟨w, os, rfl, rl, sr, p⟩ := q
    refine ⟨w, os, rfl, rl, sr, (Post.bind p).mono fun it w1 e1 rl1 p1 J js D hD => ?_⟩
    have fin : ∀ (w2 : Wd) (acc : List OV) (vs : List V), Ap X.K w1 w2 D (.lst vs) → VRs X.K w2 acc vs → Post X.K w1 (some (OV.ref w2.h.length, w2.h ++ [.lst acc])) (Rs X.K Q) → Q (.ref D) w2.H := fun w2 acc vs ap r q => by
      obtain ⟨w3, g1, g2, g3, g4, g5⟩ := take_ok ap.ex ap.rl hD ap.at_ ap.out (o := .lst acc) ⟨vs, rfl, r⟩
      rw [← g2]
      exact q w3 g1 g4 g5 _ (by simp only [VR]; exact ⟨by rw [g1]; simp, by rw [g3]⟩)
    refine ⟨fun i n H => ∃ (w2 : Wd) (acc : List OV) (vs : List V), w2.H = H ∧ Ap X.K w1 w2 D (.lst vs) ∧ VRs X.K w2 acc vs ∧ i + n = it.n ∧ Post X.K w1 (bnd (lGo it t (own.map (·.2)) c e n i acc os w2.h) fun acc h2 => some (.ref h2.length, h2 ++ [.lst acc])) (Rs X.K Q),
      ⟨it.n, ⟨w1.rho, w1.h, upd w1.H D (.lst [])⟩, [], [], rfl, .start rl1 hD, VRs.nil, by omega, p1⟩, fun i n H hw => ?_⟩
    obtain ⟨w2, acc, vs, rfl, ap, ra, hn, p2⟩ := hw
    cases n with
    | zero =>
      unfold lGo at p2
      split at p2
      · rename_i hz
        exact .inl ⟨(js w2 i ap.rho ap.le ap.ex ap.rl hz).2 (by omega), fin w2 acc vs ap ra p2⟩
      · exact p2.elim
    | succ n =>
      unfold lGo at p2
      split at p2
      · rename_i hz
        obtain ⟨j1, _⟩ := js w2 i ap.rho ap.le ap.ex ap.rl hz
        cases ev : it.item i w2.h with
        | none => rw [ev] at p2; exact p2.elim
        | some v =>
          rw [ev] at p2
          simp only [Option.bind_some] at p2
          cases ea : asgT t v (wipeO os (own.map (·.2))) with
          | none => rw [ea] at p2; exact p2.elim
          | some s2 =>
            rw [ea] at p2
            simp only [Option.bind_some] at p2
            obtain ⟨go, yl⟩ := j1 (by omega) v ev
            refine .inr ⟨go, fun H => ∃ (w2 : Wd) (acc : List OV) (vs : List V), w2.H = H ∧ Ap X.K w1 w2 D (.lst vs) ∧ VRs X.K w2 acc vs ∧ i + 1 + n = it.n ∧ Post X.K w1 (bnd (lGo it t (own.map (·.2)) c e n (i + 1) acc os w2.h) fun acc h2 => some (.ref h2.length, h2 ++ [.lst acc])) (Rs X.K Q),
              fun H' z => ⟨n, Nat.lt_succ_self _, z⟩, fun x H' y => ?_⟩
            obtain ⟨w3, eh, eH, x3, rl3, rv⟩ := yl x H' y
            have ap3 := ap.step x3 rl3
            have ra3 := ra.mono x3
            rw [← eh] at p2
            subst eH
            refine gT_run t v x _ s2 _ _ sub ea rv ((sr.mono (e1.trans ap3.ex)).wipe _) fun s2' sr2 hw => ⟨hw.trans wipe_wipe, ?_⟩
            cases ec : c s2 w3.h with
            | none => rw [ec] at p2; exact p2.elim
            | some z =>
              obtain ⟨bb, h3⟩ := z
              rw [ec] at p2
              refine ⟨w3, s2, rfl, rl3, sr2, ?_⟩
              rw [ec]
              intro w4 eh4 x4 rl4
              have ap4 := ap3.step x4 rl4
              have ra4 := ra3.mono x4
              subst eh4
              by_cases hb : bb = true
              · subst hb
                refine L2.iteT ?_
                cases ee : e s2 w4.h with
                | none =>
                  simp only [bnd, ↓reduceIte, ee] at p2
                  exact p2.elim
                | some z =>
                  obtain ⟨y, h5⟩ := z
                  simp only [bnd, ↓reduceIte, ee] at p2
                  refine ⟨w4, s2, rfl, rl4, sr2.mono x4, ?_⟩
                  rw [ee]
                  intro w5 eh5 x5 rl5 y' ry
                  have ap5 := ap4.step x5 rl5
                  have ra5 := ra4.mono x5
                  subst eh5
                  by_cases hl : acc.length < sizeLine
                  · rw [if_pos hl] at p2
                    refine ⟨vs, ap5.at_, by rw [← ra.length]; exact hl, ⟨w5.rho, w5.h, upd w5.H D (.lst (vs ++ [y']))⟩, acc ++ [y], vs ++ [y'], rfl, ap5.put hD trivial, ?_, by omega, p2⟩
                    obtain ⟨e0, _⟩ := apart_ok (u := .lst (vs ++ [y'])) ap5.rl ap5.at_ trivial ap5.out
                    exact (ra5.mono0 e0).app (.one (ry.mono0 e0))
                  · rw [if_neg hl] at p2
                    exact p2.elim
              · have hb : bb = false := by simpa using hb
                subst hb
                refine L2.iteF ?_
                exact ⟨w4, acc, vs, rfl, ap4, ra4, by omega, p2⟩
      · exact p2.elim
  refine ⟨pe_wk (pe_lc b.calm b.nd hi ok (fun s H C cl fp => hg s H C cl fp (bb s H C cl fp)) (fun s H C cl fp => hc s H C cl fp (bb s H C cl fp)) (fun s H C cl fp => he s H C cl fp (bb s H C cl fp)) hs) core, fun {i y py spos} hN hl hsw => ?_⟩
  refine ps_wk (ps_setLc b.calm b.nd hN hl hsw hi ok (fun s H C cl fp => hg s H C cl fp (bb s H C cl fp)) (fun s H C cl fp => hc s H C cl fp (bb s H C cl fp)) (fun s H C cl fp => he s H C cl fp (bb s H C cl fp)) hs) fun Dn s H q => ?_
  refine core s H _ ?_
  obtain ⟨w, os, rfl, rl, sr, p⟩ := q
  exact ⟨w, os, rfl, rl, sr, (Post.bind p).mono fun v w1 e1 rl1 p1 v' r => Post.here p1 rl1 _ ((sr.mono e1).set r i)⟩
end
end O

set_option maxHeartbeats 4000000
namespace O
open PySem L2 PyProof.Rows
def tVn (K : PySem.W.Frag) (g : MF) : List V → Hp → VK → Prop := spO K g
section
variable {X : Cx} {k : Nat}
theorem c_wk {f : Value} {r r' : List V → Hp → VK → Prop} (h : CallR X f r) (c : ∀ xs H Q, r' xs H Q → r xs H Q) : CallR X f r' := fun pins s σ H xs us Q I rv q => h pins s σ H xs us Q I rv (c _ _ _ q)
def eB (g : MF) (a : MA) : ME := fun s h => bnd (a s h) fun xs h1 => g xs h1
theorem s_b {x : Str} {p pos : Pos} {e : Expr} {es : List Expr} {id : String} {g : MF} {m : MA} (hc : CallR X (.builtin id) (tVn X.K g)) (hg : Gl X x) (hm : X.mg x = none) (hv : bootBuiltins x = some (.builtin id)) (ha : PA X (e :: es) (tA X.K m))
    (h1 : starEach (e :: es) X.env = (false, eval e X.env) :: starEach es X.env := by rfl) (h2 : (backTo pos (starEach es X.env)).any (·.1) = false := by rfl) (h3 : x ≠ "__name__" := by decide) (h4 : (x == ("__debug__" : Str)) = false := by decide) :
    PE X (.Call (.Name x p) (e :: es) [] pos) (tE X.K (eB g m)) := by
  refine pe_wk (pe_callB hc hg hm hv ha (hn := h3) (hdb := h4) (he := h1) (hpl := h2)) fun s H Q q => ?_
  obtain ⟨w, os, rfl, rl, sr, p⟩ := q
  exact ⟨w, os, rfl, rl, sr, (Post.bind p).mono fun xs w1 e1 rl1 p1 vs r => ⟨w1, xs, rfl, rl1, r, p1⟩⟩
theorem s_ty {x : Str} {p pos : Pos} {e : Expr} {es : List Expr} {T : String} {g : MF} {m : MA} (hc : CallR X (.type T) (tVn X.K g)) (hg : Gl X x) (hm : X.mg x = none) (hv : bootBuiltins x = some (.type T)) (ha : PA X (e :: es) (tA X.K m))
    (h1 : starEach (e :: es) X.env = (false, eval e X.env) :: starEach es X.env := by rfl) (h2 : (backTo pos (starEach es X.env)).any (·.1) = false := by rfl) (h3 : x ≠ "__name__" := by decide) (h4 : (x == ("__debug__" : Str)) = false := by decide) :
    PE X (.Call (.Name x p) (e :: es) [] pos) (tE X.K (eB g m)) := by
  refine pe_wk (pe_callTy hc hg hm hv ha (hn := h3) (hdb := h4) (he := h1) (hpl := h2)) fun s H Q q => ?_
  obtain ⟨w, os, rfl, rl, sr, p⟩ := q
  exact ⟨w, os, rfl, rl, sr, (Post.bind p).mono fun xs w1 e1 rl1 p1 vs r => ⟨w1, xs, rfl, rl1, r, p1⟩⟩
def bLen : MF := fun xs h => match xs with
  | [.str z] => if z.length ≤ sizeLine then some (.int z.length, h) else none
  | [.tup ys] => some (.int ys.length, h)
  | [.rol ys] => some (.int ys.length, h)
  | [.ref a] => match h[a]? with
    | some (.lst ys) => some (.int ys.length, h)
    | _ => none
  | _ => none
theorem vrs1 {K : PySem.W.Frag} {w : Wd} {x : OV} {vs : List V} (h : VRs K w [x] vs) : ∃ v, vs = [v] ∧ VR K w x v := by
  simp only [VRs] at h
  obtain ⟨v, _, rfl, h2, rfl⟩ := h
  exact ⟨v, rfl, h2⟩
theorem vrs2 {K : PySem.W.Frag} {w : Wd} {x y : OV} {vs : List V} (h : VRs K w [x, y] vs) : ∃ v u, vs = [v, u] ∧ VR K w x v ∧ VR K w y u := by
  simp only [VRs] at h
  obtain ⟨v, _, rfl, h2, u, _, rfl, h3, rfl⟩ := h
  exact ⟨v, u, rfl, h2, h3⟩
theorem c_len : CallR X (.builtin "len") (tVn X.K bLen) := by
  refine c_wk call_len fun xs H Q q => ?_
  obtain ⟨w, os, rfl, rl, ro, p⟩ := q
  unfold bLen at p
  split at p
  · obtain ⟨v, rfl, r⟩ := vrs1 ro
    obtain rfl : v = _ := by simpa only [VR] using r
    split at p
    · rename_i hz
      exact ⟨_, _, rfl, ⟨hz, rfl⟩, Post.here p rl _ vr_int⟩
    · exact p.elim
  · obtain ⟨v, rfl, r⟩ := vrs1 ro
    simp only [VR] at r
    obtain ⟨q, vs, rfl, g1, g2⟩ := r
    refine ⟨_, vs.length, rfl, .inr ⟨vs, SqT.of g1, rfl⟩, ?_⟩
    rw [← g2.length]
    exact Post.here p rl _ vr_int
  · obtain ⟨v, rfl, r⟩ := vrs1 ro
    simp only [VR] at r
    obtain ⟨q, vs, rfl, g1, g2⟩ := r
    refine ⟨_, vs.length, rfl, .inl ⟨vs, g1.sq, rfl⟩, ?_⟩
    rw [← g2.length]
    exact Post.here p rl _ vr_int
  · obtain ⟨v, rfl, r⟩ := vrs1 ro
    obtain rfl := r.ref
    split at p
    · rename_i ha
      obtain ⟨vs, g1, g2⟩ := rl.lst ha
      refine ⟨_, vs.length, rfl, .inl ⟨vs, SqL.of g1, rfl⟩, ?_⟩
      rw [← g2.length]
      exact Post.here p rl _ vr_int
    · exact p.elim
  · exact p.elim
/-- the callee runs within a built-in -/
theorem run_in {f : Addr} {fd : FuncData} {ps : List Str} {m : MF} {j : Nat} {pins : List (Addr × Obj)} {σ : L2.St} {H : Hp} {s : Shared} {Q : VK} {us : List Value} {vs : List V} (F : FnG X.prog X.w X.K X.mg X.base j f fd ps m) (b : Bx X k) (hj : j + 1 ≤ k)
    (I : Inv X pins σ H s) (hb : BindsTo s fd ⟨us, []⟩ (ps.zip us)) (r : Vals vs us) (hl : vs.length = ps.length) (h : spO X.K m vs H Q) : wpAny (model X.prog X.w) X.A.in1 (call (.ref f) us) (EP X pins σ Q) X.xe s := by
  refine wpAny_call (codeAny_mono (F.run X.A.in1 X.stack s H ⟨us, []⟩ us vs Q (b.room.mono hj).in1 b.gd I.env0.in1 hb r hl h) fun r s' hq => ?_)
  cases r with
  | error e => exact hq.elim
  | ok fl => cases fl <;> first | exact I.after hq | exact hq.elim
/-- len(o) by an own __len__ -/
def bLenI (C : Str) (m : MF) : MF := fun xs h => match xs with
  | [.ref a] => match h[a]? with
    | some (.ins D _) => if D = C then bnd (m [.ref a] h) fun v h1 => match v with
        | .int n => if 0 ≤ n ∧ n < 2 ^ 63 then some (.int n, h1) else none
        | _ => none
      else none
    | _ => none
  | _ => none
theorem c_lenI {C : Str} {f : Addr} {fd : FuncData} {m : MF} {j : Nat} {p : Str} (b : Bx X k) (F : FnG X.prog X.w X.K X.mg X.base j f fd [p] m) (hj : j + 1 ≤ k) (hm : Meth X.K (He.ga X.K C) "__len__" f) (hb : ∀ (s : Shared) (u : Value), BindsTo s fd ⟨[u], []⟩ [(p, u)]) : CallR X (.builtin "len") (tVn X.K (bLenI C m)) := by
  intro pins s σ H xs us Q I rv q
  obtain ⟨w, os, rfl, rl, ro, q⟩ := q
  unfold bLenI at q
  split at q
  · obtain ⟨v, rfl, r⟩ := vrs1 ro
    have r0 := r
    obtain rfl := r.ref
    split at q
    · rename_i ha
      split at q
      · rename_i hD
        subst hD
        obtain ⟨dx, fs, g1, g2⟩ := rl.ins ha
        cases rv with
        | cons r1 rn =>
          cases rn
          cases r1
          obtain ⟨mA, O, _⟩ := ins_get I.hok g1
          obtain ⟨od, J, _⟩ := O.look
          obtain ⟨mm, hF⟩ := I.fr
          refine PySem.W.len_K hF I.ok.mod.kin J hm.at_ hm.fn (thn (run_in (vs := [.ref (w.rho _)]) (Q := fun v H1 => ∃ w1 n, w1.H = H1 ∧ Rl X.K w1 ∧ v = .int n ∧ (0 ≤ n ∧ n < 2 ^ 63) ∧ Q (.int n) w1.H) F b hj I (hb s _) (.cons rfl .nil) rfl ⟨w, _, rfl, rl, .one r0, (Post.bind q).mono fun v w1 e1 rl1 p1 v' rv => ?_⟩) fun u s' hh => ?_)
          · cases v with
            | int n =>
              dsimp only at p1
              split at p1
              · rename_i hz
                simp only [VR] at rv
                exact ⟨w1, n, rfl, rl1, rv, hz, Post.here p1 rl1 _ vr_int⟩
              · exact p1.elim
            | _ => exact p1.elim
          · obtain ⟨v, H1, I1, ru, w1, n, rfl, _, rfl, hz, qq⟩ := hh
            obtain ⟨t, rfl⟩ := ru
            exact ⟨hz, .int n, w1.H, I1.tok _, ⟨_, rfl⟩, qq⟩
      · exact q.elim
    · exact q.elim
  · exact q.elim
theorem c_or {f : Value} {g g' : MF} (h : CallR X f (tVn X.K g)) (h' : CallR X f (tVn X.K g')) : CallR X f (tVn X.K fun xs h => (g xs h).orElse fun _ => g' xs h) := by
  refine c_wk (h.or h') fun xs H Q q => ?_
  obtain ⟨w, os, rfl, rl, ro, p⟩ := q
  dsimp only at p
  cases e : g os w.h with
  | none =>
    rw [e] at p
    exact .inr ⟨w, os, rfl, rl, ro, p⟩
  | some z =>
    rw [e] at p
    exact .inl ⟨w, os, rfl, rl, ro, by rw [e]; exact p⟩
def bAbs : MF := fun xs h => match xs with
  | [.int i] => some (.int (if i < 0 then -i else i), h)
  | _ => none
theorem c_abs : CallR X (.builtin "abs") (tVn X.K bAbs) := by
  refine c_wk call_abs fun xs H Q q => ?_
  obtain ⟨w, os, rfl, rl, ro, p⟩ := q
  unfold bAbs at p
  split at p
  · obtain ⟨v, rfl, r⟩ := vrs1 ro
    obtain rfl : v = _ := by simpa only [VR] using r
    exact ⟨_, rfl, Post.here p rl _ vr_int⟩
  · exact p.elim
def bMax : MF := fun xs h => match xs with
  | [.int i, .int j] => some (.int (if j > i then j else i), h)
  | _ => none
theorem c_max (b : Bx X k) : CallR X (.builtin "max") (tVn X.K bMax) := by
  refine c_wk (call_max2 b.calm) fun xs H Q q => ?_
  obtain ⟨w, os, rfl, rl, ro, p⟩ := q
  unfold bMax at p
  split at p
  · obtain ⟨v, u, rfl, r, r2⟩ := vrs2 ro
    obtain rfl : v = _ := by simpa only [VR] using r
    obtain rfl : u = _ := by simpa only [VR] using r2
    exact ⟨_, _, rfl, Post.here p rl _ vr_int⟩
  · exact p.elim
def bMin : MF := fun xs h => match xs with
  | [.int i, .int j] => some (.int (if j < i then j else i), h)
  | _ => none
theorem c_min (b : Bx X k) : CallR X (.builtin "min") (tVn X.K bMin) := by
  refine c_wk (call_min2 b.calm) fun xs H Q q => ?_
  obtain ⟨w, os, rfl, rl, ro, p⟩ := q
  unfold bMin at p
  split at p
  · obtain ⟨v, u, rfl, r, r2⟩ := vrs2 ro
    obtain rfl : v = _ := by simpa only [VR] using r
    obtain rfl : u = _ := by simpa only [VR] using r2
    exact ⟨_, _, rfl, Post.here p rl _ vr_int⟩
  · exact p.elim
def bDivmod : MF := fun xs h => match xs with
  | [.int i, .int j] => if 0 < j ∧ j < 1073741824 then some (.tup [.int (i / j), .int (i % j)], h) else none
  | _ => none
theorem c_divmod : CallR X (.builtin "divmod") (tVn X.K bDivmod) := by
  refine c_wk call_divmod fun xs H Q q => ?_
  obtain ⟨w, os, rfl, rl, ro, p⟩ := q
  unfold bDivmod at p
  split at p
  · obtain ⟨v, u, rfl, r, r2⟩ := vrs2 ro
    obtain rfl : v = _ := by simpa only [VR] using r
    obtain rfl : u = _ := by simpa only [VR] using r2
    split at p
    · rename_i hz
      exact ⟨_, _, rfl, hz, fun q hq => p_tup p rl (.cons vr_int (.one vr_int)) hq⟩
    · exact p.elim
  · exact p.elim
def bList : MF := fun xs h => match xs with
  | [.tup ys] => some (.ref h.length, h ++ [.lst ys])
  | [.ref a] => match h[a]? with
    | some (.lst ys) => some (.ref h.length, h ++ [.lst ys])
    | _ => none
  | _ => none
theorem c_list : CallR X (.type "list") (tVn X.K bList) := by
  refine c_wk call_list_of fun xs H Q q => ?_
  obtain ⟨w, os, rfl, rl, ro, p⟩ := q
  unfold bList at p
  split at p
  · obtain ⟨v, rfl, r⟩ := vrs1 ro
    simp only [VR] at r
    obtain ⟨q, vs, rfl, g1, g2⟩ := r
    exact ⟨q, vs, rfl, .inr (SqT.of g1), fun q hq => p_new p rl ⟨vs, rfl, g2⟩ hq⟩
  · obtain ⟨v, rfl, r⟩ := vrs1 ro
    obtain rfl := r.ref
    split at p
    · rename_i ha
      obtain ⟨vs, g1, g2⟩ := rl.lst ha
      exact ⟨_, vs, rfl, .inl (SqL.of g1), fun q hq => p_new p rl ⟨vs, rfl, g2⟩ hq⟩
    · exact p.elim
  · exact p.elim
def bTuple : MF := fun xs h => match xs with
  | [.tup ys] => some (.tup ys, h)
  | [.ref a] => match h[a]? with
    | some (.lst ys) => some (.tup ys, h)
    | _ => none
  | _ => none
def eTuO (m : ME) : ME := fun s h => bnd (m s h) fun x h1 => bTuple [x] h1
theorem s_tuple {p pos : Pos} {e : Expr} {m : ME} (hg : Gl X "tuple") (hm : X.mg "tuple" = none) (he : PE X e (tE X.K m)) (h1 : starEach [e] X.env = (false, eval e X.env) :: starEach [] X.env := by rfl) : PE X (.Call (.Name "tuple" p) [e] [] pos) (tE X.K (eTuO m)) := by
  refine pe_wk (pe_tupleOf hg hm he h1) fun s H Q q => ?_
  obtain ⟨w, os, rfl, rl, sr, p⟩ := q
  refine ⟨w, os, rfl, rl, sr, (Post.bind p).mono fun x w1 e1 rl1 p2 v r => ?_⟩
  unfold bTuple at p2
  cases x with
  | tup ys =>
    have r0 := r
    simp only [VR] at r
    obtain ⟨q, vs, rfl, g1, g2⟩ := r
    exact .inr ⟨q, vs, rfl, SqT.of g1, Post.here p2 rl1 _ r0⟩
  | ref a =>
    obtain rfl := r.ref
    dsimp only at p2
    split at p2
    · rename_i ha
      obtain ⟨vs, g1, g2⟩ := rl1.lst ha
      exact .inl ⟨_, vs, rfl, SqL.of g1, fun q hq => p_tup p2 rl1 g2 hq⟩
    · exact p2.elim
  | _ => exact p2.elim
def bools : List OV → Option (List Bool)
  | [] => some []
  | .bl b :: r => (bools r).map fun q => b :: q
  | _ :: _ => none
theorem bools_ok {K : PySem.W.Frag} {w : Wd} : ∀ {xs : List OV} {vs : List V} {bs : List Bool}, bools xs = some bs → VRs K w xs vs → vs = bs.map V.bl
  | [], _, _, e, r => by
    simp only [VRs] at r; subst r
    simp only [bools, Option.some.injEq] at e; subst e; rfl
  | x :: xs, _, bs, e, r => by
    simp only [VRs] at r
    obtain ⟨v, q, rfl, h1, h2⟩ := r
    cases x with
    | bl b =>
      simp only [bools] at e
      cases e1 : bools xs with
      | none => rw [e1] at e; cases e
      | some cs =>
        rw [e1] at e
        simp only [Option.map_some, Option.some.injEq] at e
        subst e
        simp only [VR] at h1
        rw [h1, bools_ok e1 h2, List.map_cons]
    | _ => simp only [bools] at e; cases e
def bAll : MF := fun xs h => match xs with
  | [.ref a] => match h[a]? with
    | some (.lst ys) => (bools ys).map fun bs => (.bl (bs.all id), h)
    | _ => none
  | _ => none
def bAny : MF := fun xs h => match xs with
  | [.ref a] => match h[a]? with
    | some (.lst ys) => (bools ys).map fun bs => (.bl (bs.any id), h)
    | _ => none
  | _ => none
theorem c_all (b : Bx X k) : CallR X (.builtin "all") (tVn X.K bAll) := by
  refine c_wk (cr_all b.calm) fun xs H Q q => ?_
  obtain ⟨w, os, rfl, rl, ro, p⟩ := q
  unfold bAll at p
  split at p
  · obtain ⟨v, rfl, r⟩ := vrs1 ro
    obtain rfl := r.ref
    split at p
    · rename_i ys ha
      obtain ⟨vs, g1, g2⟩ := rl.lst ha
      cases e : bools ys with
      | none => rw [e] at p; exact p.elim
      | some bs =>
        rw [e] at p
        rw [bools_ok e g2] at g1
        exact ⟨_, bs, rfl, SqL.of g1, Post.here p rl _ vr_bl⟩
    · exact p.elim
  · exact p.elim
theorem c_any (b : Bx X k) : CallR X (.builtin "any") (tVn X.K bAny) := by
  refine c_wk (cr_any b.calm) fun xs H Q q => ?_
  obtain ⟨w, os, rfl, rl, ro, p⟩ := q
  unfold bAny at p
  split at p
  · obtain ⟨v, rfl, r⟩ := vrs1 ro
    obtain rfl := r.ref
    split at p
    · rename_i ys ha
      obtain ⟨vs, g1, g2⟩ := rl.lst ha
      cases e : bools ys with
      | none => rw [e] at p; exact p.elim
      | some bs =>
        rw [e] at p
        rw [bools_ok e g2] at g1
        exact ⟨_, bs, rfl, SqL.of g1, Post.here p rl _ vr_bl⟩
    · exact p.elim
  · exact p.elim
def bRepr : MF := fun xs h => match xs with
  | [x] => (toD h 12 x).bind fun d => if (SeqAt.shaped d && d.showable && decide (d.shown.length ≤ sizeLine)) = true then some (.str d.shown, h) else none
  | _ => none
theorem call_reprD (b : Bx X k) : CallR X (.builtin "repr") (fun xs H Q => ∃ v d, xs = [v] ∧ Dp X.K H v d ∧ SeqAt.shaped d = true ∧ d.showable = true ∧ d.shown.length ≤ sizeLine ∧ Q (.str d.shown) H) := by
  intro pins s σ H xs us Q I rv q
  obtain ⟨v, d, rfl, hd, h1, h2, h3, q⟩ := q
  cases rv with
  | cons r1 rn =>
    cases rn
    rename_i u
    have nd : d.hasDict = false := PyData.hasDict_of_canLay d (SeqAt.canLay_of_shaped h1)
    have dep : d.depth ≤ 64 := by
      unfold SeqAt.shaped at h1
      rw [Bool.and_eq_true] at h1
      exact of_decide_eq_true h1.2
    have hu := b.room.un
    have obj : ∀ {a : Addr} {as : List Addr}, Reads s.heap (.ref a) d as → wpAny (model X.prog X.w) X.A (call (.builtin "repr") [.ref a]) (EP X pins σ Q) X.xe s := fun {a as} r =>
      repr_of_reads' r h2 (fun z => by rw [nd] at z; cases z) b.gd (by omega) (fun _ _ e => e) (fun h' u tk hk => ⟨.str d.shown, H, I.kept (t' := tk) hk, ⟨_, rfl⟩, q⟩) h3
    cases hd with
    | non => cases r1; exact P.repr_of_none ⟨.str _, H, I.tok _, ⟨_, rfl⟩, q⟩
    | bl c => cases r1; exact P.repr_of_bool ⟨.str _, H, I.tok _, ⟨_, rfl⟩, q⟩
    | int i =>
      obtain ⟨t, rfl⟩ := r1
      exact P.repr_of_int (of_decide_eq_true h2) ⟨.str _, H, I.tok _, ⟨_, rfl⟩, q⟩
    | str z =>
      obtain ⟨t, rfl⟩ := r1
      exact P.repr_of_str ⟨.str _, H, I.tok _, ⟨_, rfl⟩, q⟩ h3
    | lst a c =>
      obtain ⟨as, r⟩ := Dp.reads I _ _ _ (.lst a c) r1
      cases r1
      exact obj r
    | tup a c =>
      obtain ⟨as, r⟩ := Dp.reads I _ _ _ (.tup a c) r1
      cases r1
      exact obj r
theorem c_repr (b : Bx X k) : CallR X (.builtin "repr") (tVn X.K bRepr) := by
  refine c_wk (call_reprD b) fun xs H Q q => ?_
  obtain ⟨w, os, rfl, rl, ro, p⟩ := q
  unfold bRepr at p
  split at p
  · rename_i x
    obtain ⟨v, rfl, r⟩ := vrs1 ro
    cases e : toD w.h 12 x with
    | none => rw [e] at p; exact p.elim
    | some d =>
      rw [e] at p
      simp only [Option.bind_some] at p
      split at p
      · rename_i hz
        simp only [Bool.and_eq_true, decide_eq_true_eq] at hz
        exact ⟨v, d, rfl, toD_ok rl _ _ _ _ e r, hz.1.1, hz.1.2, hz.2, Post.here p rl _ vr_str⟩
      · exact p.elim
  · exact p.elim
end
end O

set_option maxHeartbeats 4000000
namespace O
open PySem L2 PyProof.Rows
section
variable {X : Cx} {k : Nat}
def tyN (h : OH) : OV → Option String
  | .non => some "NoneType"
  | .bl _ => some "bool"
  | .int _ => some "int"
  | .str _ => some "str"
  | .tup _ => some "tuple"
  | .rol _ => none
  | .ref a => match h[a]? with
    | some (.lst _) => some "list"
    | some (.dK _) => some "dict"
    | some (.dT _) => some "dict"
    | _ => none
theorem tyN_ok {K : PySem.W.Frag} {w : Wd} {x : OV} {v : V} {T : String} (rl : Rl K w) (r : VR K w x v) (e : tyN w.h x = some T) : TyX K w.H v (.type T) := by
  cases x with
  | non => cases e; simp only [VR] at r; subst r; exact .base .non
  | bl _ => cases e; simp only [VR] at r; subst r; exact .base (.bl _)
  | int _ => cases e; simp only [VR] at r; subst r; exact .base (.int _)
  | str _ => cases e; simp only [VR] at r; subst r; exact .base (.str _)
  | tup _ =>
    cases e; simp only [VR] at r
    obtain ⟨p, vs, rfl, h, _⟩ := r
    exact .base (.tup h)
  | rol _ => cases e
  | ref a =>
    obtain rfl := r.ref
    simp only [tyN] at e
    split at e
    · rename_i ha
      cases e
      obtain ⟨vs, g1, _⟩ := rl.lst ha
      exact .base (.lst g1)
    · rename_i ha
      cases e
      obtain ⟨vs, g1, _⟩ := rl.dK ha
      exact .base (.dK g1)
    · rename_i ha
      cases e
      obtain ⟨vs, g1, _⟩ := rl.dT ha
      exact .base (.dT g1)
    · cases e
def eIsi (T : String) (m : ME) : ME := fun s h => bnd (m s h) fun x h1 => (tyN h1 x).bind fun t => (kitB t T).map fun b => (.bl b, h1)
theorem s_isi {e : Expr} {m : ME} {T : Str} {n : String} {p pos pt : Pos} (hg : Gl X "isinstance") (hm : X.mg "isinstance" = none) (hg2 : Gl X T) (hm2 : X.mg T = none) (hv : bootBuiltins T = some (.type n)) (he : PE X e (tE X.K m))
    (h1 : starEach [e, .Name T pt] X.env = (false, eval e X.env) :: starEach [.Name T pt] X.env := by rfl) (h2 : (backTo pos (starEach [.Name T pt] X.env)).any (·.1) = false := by rfl) (h3 : T ≠ "__name__" := by decide) (h4 : (T == ("__debug__" : Str)) = false := by decide) (h5 : starEach [.Name T pt] X.env = (false, eval (.Name T pt) X.env) :: starEach [] X.env := by rfl) :
    PE X (.Call (.Name "isinstance" p) [e, .Name T pt] [] pos) (tE X.K (eIsi n m)) := by
  refine pe_wk (pe_callB call_isi hg hm boot_isinstance (pa_cons he (pa_cons (pe_bltn (v := .ty n) hg2 hm2 hv rfl (hn := h3) (hd := h4)) pa_nil (hs := h5)) (hs := h1)) (he := h1) (hpl := h2)) fun s H Q q => ?_
  obtain ⟨w, os, rfl, rl, sr, p⟩ := q
  refine ⟨w, os, rfl, rl, sr, (Post.bind p).mono fun x w1 e1 rl1 p1 v r => ?_⟩
  cases et : tyN w1.h x with
  | none => rw [et] at p1; exact p1.elim
  | some t =>
    rw [et] at p1
    simp only [Option.bind_some] at p1
    cases ek : kitB t n with
    | none => rw [ek] at p1; exact p1.elim
    | some b =>
      rw [ek] at p1
      exact ⟨v, .ty n, .type t, .type n, b, rfl, .ty n, tyN_ok rl1 r et, kit_ty ek, Post.here p1 rl1 _ vr_bl⟩
abbrev MM := OV → List OV → OH → Option (OV × OH)
def tM (K : PySem.W.Frag) (g : MM) : V → List V → Hp → VK → Prop := fun v vs H Q => ∃ w x os, w.H = H ∧ Rl K w ∧ VR K w x v ∧ VRs K w os vs ∧ Post K w (g x os w.h) (Rs K Q)
def isT (h : OH) (T : String) (x : OV) : Bool := match x with
  | .str _ => T == "str"
  | .ref a => match h[a]? with
    | some (.lst _) => T == "list"
    | some (.dK _) => T == "dict"
    | some (.dT _) => T == "dict"
    | _ => false
  | _ => false
theorem isT_ok {K : PySem.W.Frag} {w : Wd} {x : OV} {v : V} {T : String} (rl : Rl K w) (r : VR K w x v) (e : isT w.h T x = true) : tyV K T v w.H := by
  cases x with
  | str _ =>
    simp only [isT, beq_iff_eq] at e
    simp only [VR] at r; subst r; exact e
  | ref a =>
    obtain rfl := r.ref
    simp only [isT] at e
    split at e
    · rename_i ha
      obtain ⟨vs, g1, _⟩ := rl.lst ha
      exact .inl ⟨by simpa using e, vs, SqL.of g1⟩
    · rename_i ha
      obtain ⟨vs, g1, _⟩ := rl.dK ha
      exact .inr (.inr (.inl ⟨by simpa using e, .inl ⟨vs, g1⟩⟩))
    · rename_i ha
      obtain ⟨vs, g1, _⟩ := rl.dT ha
      exact .inr (.inr (.inl ⟨by simpa using e, .inr ⟨vs, g1⟩⟩))
    · cases e
  | _ => simp only [isT] at e; cases e
def eBM (T : String) (g : MM) (o : ME) (a : MA) : ME := fun s h => bnd (o s h) fun x h1 => if isT h1 T x = true then bnd (a s h1) fun xs h2 => g x xs h2 else none
def eBM0 (T : String) (g : MM) (o : ME) : ME := fun s h => bnd (o s h) fun x h1 => if isT h1 T x = true then g x [] h1 else none
theorem s_bm {o e : Expr} {es : List Expr} {mo : ME} {ma : MA} {name : Str} {apos cpos : Pos} {T id : String} {g : MM} (pa : PySem.PlainAttrs T) (sl : PySem.Slot T name id) (ht : typeOf (.builtin id) = pure (.type "method_descriptor")) (hm : MtR X id (tM X.K g)) (ho : PE X o (tE X.K mo)) (ha : PA X (e :: es) (tA X.K ma))
    (h1 : attributeBase o name X.env (eval o X.env) = eval o X.env := by rfl)
    (h2 : (((backTo cpos (starEach (e :: es) X.env)).all fun x => !x.fst) && ((backToKw cpos (keywordEach [] X.env)).all fun x => x.fst.isSome) && decide (((e :: es).length + ([] : List Keyword).length + if ([] : List Keyword).isEmpty = true then 0 else 1) < 30)) = true := by rfl)
    (h3 : (apos.endLine == cpos.line) = true := by rfl) (h4 : starEach (e :: es) X.env = (false, eval e X.env) :: starEach es X.env := by rfl) (h5 : ((backTo cpos (starEach es X.env)).any fun x => x.fst) = false := by rfl) :
    PE X (.Call (.Attribute o name apos) (e :: es) [] cpos) (tE X.K (eBM T g mo ma)) := by
  refine pe_wk (pe_bm pa sl ht hm ho ha h1 h2 h3 h4 h5) fun s H Q q => ?_
  obtain ⟨w, os, rfl, rl, sr, p⟩ := q
  refine ⟨w, os, rfl, rl, sr, (Post.bind p).mono fun x w1 e1 rl1 p1 v r => ?_⟩
  by_cases hz : isT w1.h T x = true
  · rw [if_pos hz] at p1
    refine ⟨isT_ok rl1 r hz, w1, os, rfl, rl1, sr.mono e1, (Post.bind p1).mono fun xs w2 e2 rl2 p2 vs rs => ⟨w2, x, xs, rfl, rl2, r.mono e2, rs, p2⟩⟩
  · rw [if_neg hz] at p1
    exact p1.elim
theorem s_bm0 {o : Expr} {mo : ME} {name : Str} {apos cpos : Pos} {T id : String} {g : MM} (pa : PySem.PlainAttrs T) (sl : PySem.Slot T name id) (ht : typeOf (.builtin id) = pure (.type "method_descriptor")) (hm : MtR X id (tM X.K g)) (ho : PE X o (tE X.K mo))
    (h1 : attributeBase o name X.env (eval o X.env) = eval o X.env := by rfl) (h3 : (apos.endLine == cpos.line) = true := by rfl) :
    PE X (.Call (.Attribute o name apos) [] [] cpos) (tE X.K (eBM0 T g mo)) := by
  refine pe_wk (pe_bm0 pa sl ht hm ho h1 h3) fun s H Q q => ?_
  obtain ⟨w, os, rfl, rl, sr, p⟩ := q
  refine ⟨w, os, rfl, rl, sr, (Post.bind p).mono fun x w1 e1 rl1 p1 v r => ?_⟩
  by_cases hz : isT w1.h T x = true
  · rw [if_pos hz] at p1
    exact ⟨isT_ok rl1 r hz, w1, x, [], rfl, rl1, r, VRs.nil, p1⟩
  · rw [if_neg hz] at p1
    exact p1.elim
theorem m_wk {id : String} {r r' : V → List V → Hp → VK → Prop} (h : MtR X id r) (c : ∀ v vs H Q, r' v vs H Q → r v vs H Q) : MtR X id r' := fun pins s σ H x xs v us Q I rx rxs q => h pins s σ H x xs v us Q I rx rxs (c _ _ _ _ q)
/-- a list's object is changed -/
theorem set_l {K : PySem.W.Frag} {w : Wd} {xs : List OV} {vs vs' : List V} {xs' : List OV} {a : Nat} {v : OV} {Q : VK} (q : Post K w (some (v, w.h.set a (.lst xs'))) (Rs K Q)) (rl : Rl K w) (ha : w.h[a]? = some (.lst xs)) (g1 : w.H (w.rho a) = some (.lst vs)) (c : VRs K w xs' vs') :
    ∀ v', VR K w v v' → Q v' (upd w.H (w.rho a) (.lst vs')) := by
  intro v' rv
  obtain ⟨x, rl'⟩ := set_ok rl ha g1 trivial (o' := .lst xs') (ho' := .lst vs') ⟨vs', rfl, c⟩
  exact q _ rfl x rl' v' (rv.mono x)
def mAppend : MM := fun x xs h => match x, xs with
  | .ref a, [y] => match h[a]? with
    | some (.lst ys) => if ys.length < sizeLine then some (.non, h.set a (.lst (ys ++ [y]))) else none
    | _ => none
  | _, _ => none
theorem m_append : MtR X "list.append" (tM X.K mAppend) := by
  refine m_wk mt_append fun v vs H Q q => ?_
  obtain ⟨w, x, os, rfl, rl, rx, ro, p⟩ := q
  unfold mAppend at p
  split at p
  · obtain ⟨u, rfl, r⟩ := vrs1 ro
    obtain rfl := rx.ref
    split at p
    · rename_i ha
      obtain ⟨vs, g1, g2⟩ := rl.lst ha
      split at p
      · rename_i hz
        exact ⟨_, vs, u, rfl, rfl, g1, by rw [← g2.length]; exact hz, set_l p rl ha g1 (g2.app (.one r)) _ vr_non⟩
      · exact p.elim
    · exact p.elim
  · exact p.elim
def mExtend : MM := fun x xs h => match x, xs with
  | .ref a, [.ref b] => match h[a]?, h[b]? with
    | some (.lst ys), some (.lst zs) => if ys.length + zs.length ≤ sizeLine then some (.non, h.set a (.lst (ys ++ zs))) else none
    | _, _ => none
  | _, _ => none
theorem m_extend : MtR X "list.extend" (tM X.K mExtend) := by
  refine m_wk mt_extend fun v vs H Q q => ?_
  obtain ⟨w, x, os, rfl, rl, rx, ro, p⟩ := q
  unfold mExtend at p
  split at p
  · obtain ⟨u, rfl, r⟩ := vrs1 ro
    obtain rfl := rx.ref
    obtain rfl := r.ref
    split at p
    · rename_i ha hb
      obtain ⟨vs, g1, g2⟩ := rl.lst ha
      obtain ⟨us, g3, g4⟩ := rl.lst hb
      split at p
      · rename_i hz
        exact ⟨_, _, vs, us, rfl, rfl, g1, g3, by rw [← g2.length, ← g4.length]; exact hz, set_l p rl ha g1 (g2.app g4) _ vr_non⟩
      · exact p.elim
    · exact p.elim
  · exact p.elim
def mReverse : MM := fun x xs h => match x, xs with
  | .ref a, [] => match h[a]? with
    | some (.lst ys) => some (.non, h.set a (.lst ys.reverse))
    | _ => none
  | _, _ => none
theorem m_reverse : MtR X "list.reverse" (tM X.K mReverse) := by
  refine m_wk mt_reverse fun v vs H Q q => ?_
  obtain ⟨w, x, os, rfl, rl, rx, ro, p⟩ := q
  unfold mReverse at p
  split at p
  · simp only [VRs] at ro
    subst ro
    obtain rfl := rx.ref
    split at p
    · rename_i ha
      obtain ⟨vs, g1, g2⟩ := rl.lst ha
      exact ⟨_, vs, rfl, rfl, g1, set_l p rl ha g1 g2.rev _ vr_non⟩
    · exact p.elim
  · exact p.elim
def mClear : MM := fun x xs h => match x, xs with
  | .ref a, [] => match h[a]? with
    | some (.lst ys) => some (.non, h.set a (.lst []))
    | _ => none
  | _, _ => none
theorem m_clear : MtR X "list.clear" (tM X.K mClear) := by
  refine m_wk mt_clear fun v vs H Q q => ?_
  obtain ⟨w, x, os, rfl, rl, rx, ro, p⟩ := q
  unfold mClear at p
  split at p
  · simp only [VRs] at ro
    subst ro
    obtain rfl := rx.ref
    split at p
    · rename_i ha
      obtain ⟨vs, g1, g2⟩ := rl.lst ha
      exact ⟨_, vs, rfl, rfl, g1, set_l p rl ha g1 VRs.nil _ vr_non⟩
    · exact p.elim
  · exact p.elim
def mPop : MM := fun x xs h => match x with
  | .ref a => match h[a]? with
    | some (.lst ys) => match xs with
      | [] => match ys[ys.length - 1]? with
        | some y => some (y, h.set a (.lst ys.dropLast))
        | none => none
      | [.int i] => if 0 ≤ i ∧ i < ys.length ∧ ys.length ≤ sizeLine then match ys[i.toNat]? with
          | some y => some (y, h.set a (.lst (ys.eraseIdx i.toNat)))
          | none => none
        else none
      | _ => none
    | _ => none
  | _ => none
theorem VRs.dropLast {K : PySem.W.Frag} {w : Wd} : ∀ {xs : List OV} {vs : List V}, VRs K w xs vs → VRs K w xs.dropLast vs.dropLast
  | [], _, h => by simp only [VRs] at h; subst h; exact VRs.nil
  | [x], _, h => by
    simp only [VRs] at h
    obtain ⟨v, r, rfl, h1, rfl⟩ := h
    exact VRs.nil
  | x :: y :: xs, _, h => by
    simp only [VRs] at h
    obtain ⟨v, r, rfl, h1, u, r2, rfl, h2, h3⟩ := h
    rw [List.dropLast_cons_cons, List.dropLast_cons_cons]
    exact .cons h1 (VRs.dropLast (xs := y :: xs) (.cons h2 h3))
theorem m_pop : MtR X "list.pop" (tM X.K mPop) := by
  refine m_wk (MtR.or mt_pop mt_popAt) fun v vs H Q q => ?_
  obtain ⟨w, x, os, rfl, rl, rx, ro, p⟩ := q
  unfold mPop at p
  split at p
  · obtain rfl := rx.ref
    split at p
    · rename_i ys ha
      obtain ⟨vs, g1, g2⟩ := rl.lst ha
      split at p
      · simp only [VRs] at ro
        subst ro
        split at p
        · rename_i y hy
          obtain ⟨y', h1, h2⟩ := g2.get hy
          exact .inl ⟨_, vs, y', rfl, rfl, g1, by rw [← g2.length]; exact h1, set_l p rl ha g1 g2.dropLast _ h2⟩
        · exact p.elim
      · rename_i i
        obtain ⟨u, rfl, r⟩ := vrs1 ro
        obtain rfl : u = _ := by simpa only [VR] using r
        split at p
        · rename_i hz
          split at p
          · rename_i y hy
            obtain ⟨y', h1, h2⟩ := g2.get hy
            obtain ⟨hz1, hz2, hz3⟩ := hz
            have l := g2.length
            have sz : sizeLine = 16777216 := rfl
            refine .inr ⟨_, vs, i, i.toNat, y', rfl, rfl, g1, by omega, by omega, ?_, h1, set_l p rl ha g1 (g2.erase _) _ h2⟩
            unfold seqIndex?
            have e1 : ¬ i < 0 := by omega
            have e2 : i < (vs.length : Int) := by omega
            simp [e1, hz1, e2]
          · exact p.elim
        · exact p.elim
      · exact p.elim
    · exact p.elim
  · exact p.elim
def mInsert : MM := fun x xs h => match x, xs with
  | .ref a, [.int i, y] => match h[a]? with
    | some (.lst ys) => if ys.length < sizeLine ∧ 0 ≤ i ∧ i < 2 ^ 63 then some (.non, h.set a (.lst (ys.take i.toNat ++ [y] ++ ys.drop i.toNat))) else none
    | _ => none
  | _, _ => none
theorem m_insert : MtR X "list.insert" (tM X.K mInsert) := by
  refine m_wk mt_insert fun v vs H Q q => ?_
  obtain ⟨w, x, os, rfl, rl, rx, ro, p⟩ := q
  unfold mInsert at p
  split at p
  · obtain ⟨u, t, rfl, r, r2⟩ := vrs2 ro
    obtain rfl : u = _ := by simpa only [VR] using r
    obtain rfl := rx.ref
    split at p
    · rename_i ha
      obtain ⟨vs, g1, g2⟩ := rl.lst ha
      split at p
      · rename_i hz
        exact ⟨_, vs, _, t, rfl, rfl, g1, by rw [← g2.length]; exact hz.1, hz.2.1, hz.2.2, set_l p rl ha g1 (((g2.take _).app (.one r2)).app (g2.drop _)) _ vr_non⟩
      · exact p.elim
    · exact p.elim
  · exact p.elim
def ixD (ds : List PyData) (d : PyData) : Option Nat := ds.findIdx? fun z => z.eqv d
def mIndex : MM := fun x xs h => match x, xs with
  | .ref a, [y] => match h[a]? with
    | some (.lst ys) => (toDs (toD h 11) ys).bind fun ds => (toD h 12 y).bind fun d => if (SeqAt.shaped (.list ds) && SeqAt.shaped d) = true then (ixD ds d).map fun j => (.int j, h) else none
    | _ => none
  | _, _ => none
theorem m_index (hu : X.A.units + 65 < cLine) : MtR X "list.index" (tM X.K mIndex) := by
  refine m_wk (mt_indexD hu) fun v vs H Q q => ?_
  obtain ⟨w, x, os, rfl, rl, rx, ro, p⟩ := q
  unfold mIndex at p
  split at p
  · rename_i a y
    obtain ⟨u, rfl, r⟩ := vrs1 ro
    split at p
    · rename_i ys ha
      cases e1 : toDs (toD w.h 11) ys with
      | none => rw [e1] at p; exact p.elim
      | some ds =>
        rw [e1] at p
        simp only [Option.bind_some] at p
        cases e2 : toD w.h 12 y with
        | none => rw [e2] at p; exact p.elim
        | some d =>
          rw [e2] at p
          simp only [Option.bind_some] at p
          split at p
          · rename_i hz
            rw [Bool.and_eq_true] at hz
            cases e3 : ixD ds d with
            | none => rw [e3] at p; exact p.elim
            | some j =>
              rw [e3] at p
              have el : toD w.h 12 (.ref a) = some (.list ds) := by
                have : toD w.h 12 (.ref a) = (toDs (toD w.h 11) ys).map .list := by
                  show (match w.h[a]? with
                    | some (.lst xs) => (toDs (toD w.h 11) xs).map PyData.list
                    | _ => none) = _
                  rw [ha]
                rw [this, e1]; rfl
              have d1 := toD_ok rl _ _ _ _ el rx
              have d2 := toD_ok rl _ _ _ _ e2 r
              obtain rfl := rx.ref
              unfold ixD at e3
              obtain ⟨hj, h1, h2⟩ := List.findIdx?_eq_some_iff_getElem.mp e3
              refine ⟨_, u, d, ds, j, ds[j], rfl, rfl, d1, d2, hz.1, hz.2, List.getElem?_eq_getElem hj, h1, fun m z' hm hz' => ?_, Post.here p rl _ vr_int⟩
              have hml : m < ds.length := by omega
              rw [List.getElem?_eq_getElem hml] at hz'
              cases hz'
              simpa using h2 m hm
          · exact p.elim
    · exact p.elim
  · exact p.elim
def strsO : List OV → Option (List Str)
  | [] => some []
  | .str b :: r => (strsO r).map fun q => b :: q
  | _ :: _ => none
theorem strsO_ok {K : PySem.W.Frag} {w : Wd} : ∀ {xs : List OV} {vs : List V} {bs : List Str}, strsO xs = some bs → VRs K w xs vs → vs = bs.map V.str
  | [], _, _, e, r => by
    simp only [VRs] at r; subst r
    simp only [strsO, Option.some.injEq] at e; subst e; rfl
  | x :: xs, _, bs, e, r => by
    simp only [VRs] at r
    obtain ⟨v, q, rfl, h1, h2⟩ := r
    cases x with
    | str b =>
      simp only [strsO] at e
      cases e1 : strsO xs with
      | none => rw [e1] at e; cases e
      | some cs =>
        rw [e1] at e
        simp only [Option.map_some, Option.some.injEq] at e
        subst e
        simp only [VR] at h1
        rw [h1, strsO_ok e1 h2, List.map_cons]
    | _ => simp only [strsO] at e; cases e
def mJoin : MM := fun x xs h => match x, xs with
  | .str z, [.ref a] => match h[a]? with
    | some (.lst ys) => (strsO ys).bind fun bs => if (bs.map fun x => x.length).sum + bs.length * z.length ≤ 16777216 then some (.str (Txt.join z bs), h) else none
    | _ => none
  | .str z, [.tup ys] => (strsO ys).bind fun bs => if (bs.map fun x => x.length).sum + bs.length * z.length ≤ 16777216 then some (.str (Txt.join z bs), h) else none
  | _, _ => none
theorem m_join : MtR X "str.join" (tM X.K mJoin) := by
  refine m_wk mt_join fun v vs H Q q => ?_
  obtain ⟨w, x, os, rfl, rl, rx, ro, p⟩ := q
  unfold mJoin at p
  split at p
  · obtain rfl : v = _ := by simpa only [VR] using rx
    obtain ⟨u, rfl, r⟩ := vrs1 ro
    obtain rfl := r.ref
    split at p
    · rename_i ys ha
      obtain ⟨vs, g1, g2⟩ := rl.lst ha
      cases e : strsO ys with
      | none => rw [e] at p; exact p.elim
      | some bs =>
        rw [e] at p
        simp only [Option.bind_some] at p
        split at p
        · rename_i hz
          rw [strsO_ok e g2] at g1
          exact ⟨_, _, bs, rfl, rfl, .inl (SqL.of g1), hz, Post.here p rl _ vr_str⟩
        · exact p.elim
    · exact p.elim
  · rename_i ys
    obtain rfl : v = _ := by simpa only [VR] using rx
    obtain ⟨u, rfl, r⟩ := vrs1 ro
    simp only [VR] at r
    obtain ⟨q, vs, rfl, g1, g2⟩ := r
    cases e : strsO ys with
    | none => rw [e] at p; exact p.elim
    | some bs =>
      rw [e] at p
      simp only [Option.bind_some] at p
      split at p
      · rename_i hz
        rw [strsO_ok e g2] at g1
        exact ⟨_, q, bs, rfl, rfl, .inr (SqT.of g1), hz, Post.here p rl _ vr_str⟩
      · exact p.elim
  · exact p.elim
def mSplit : MM := fun x xs h => match x, xs with
  | .str a, [.str b] => if (b.length == 0) = false ∧ a.length + 2 ≤ sizeLine then some (.ref h.length, h ++ [.lst ((Txt.split a b).map OV.str)]) else none
  | _, _ => none
theorem vrs_strs {K : PySem.W.Frag} {w : Wd} : ∀ {xs : List Str}, VRs K w (xs.map OV.str) (xs.map V.str)
  | [] => VRs.nil
  | _ :: _ => .cons vr_str vrs_strs
theorem m_split : MtR X "str.split" (tM X.K mSplit) := by
  refine m_wk mt_split fun v vs H Q q => ?_
  obtain ⟨w, x, os, rfl, rl, rx, ro, p⟩ := q
  unfold mSplit at p
  split at p
  · obtain rfl : v = _ := by simpa only [VR] using rx
    obtain ⟨u, rfl, r⟩ := vrs1 ro
    obtain rfl : u = _ := by simpa only [VR] using r
    split at p
    · rename_i hz
      exact ⟨_, _, rfl, rfl, hz.1, hz.2, fun q hq => p_new p rl ⟨_, rfl, vrs_strs⟩ hq⟩
    · exact p.elim
  · exact p.elim
def eNeg (m : ME) : ME := fun s h => bnd (m s h) fun x h1 => match x with
  | .int i => some (.int (-i), h1)
  | _ => none
theorem s_neg {e : Expr} {m : ME} {pos : Pos} (he : PE X e (tE X.K m)) : PE X (.UnaryOp .USub e pos) (tE X.K (eNeg m)) := by
  refine pe_wk (pe_un un_neg he) fun s H Q q => ?_
  obtain ⟨w, os, rfl, rl, sr, p⟩ := q
  refine ⟨w, os, rfl, rl, sr, (Post.bind p).mono fun x w1 e1 rl1 p1 v r => ?_⟩
  cases x with
  | int i =>
    simp only [VR] at r
    exact ⟨i, r, Post.here p1 rl1 _ vr_int⟩
  | _ => exact p1.elim
def eRev (m : ME) : ME := fun s h => bnd (m s h) fun x h1 => match x with
  | .ref a => match h1[a]? with
    | some (.lst ys) => some (.ref h1.length, h1 ++ [.lst ys.reverse])
    | _ => none
  | _ => none
theorem s_rev {e : Expr} {m : ME} {kk : Nat} {p1 p2 p3 pos : Pos} (he : PE X e (tE X.K m)) : PE X (.Subscript e (.Slice none none (some (.UnaryOp .USub (.Constant (.int 1) kk p1) p2)) p3) pos) (tE X.K (eRev m)) := by
  refine pe_wk (pe_revL he) fun s H Q q => ?_
  obtain ⟨w, os, rfl, rl, sr, p⟩ := q
  refine ⟨w, os, rfl, rl, sr, (Post.bind p).mono fun x w1 e1 rl1 p1 v r => ?_⟩
  cases x with
  | ref a =>
    obtain rfl := r.ref
    dsimp only at p1
    split at p1
    · rename_i ha
      obtain ⟨vs, g1, g2⟩ := rl1.lst ha
      exact ⟨_, vs, rfl, SqL.of g1, fun q hq => p_new p1 rl1 ⟨_, rfl, g2.rev⟩ hq⟩
    · exact p1.elim
  | _ => exact p1.elim
end
end O

set_option maxHeartbeats 4000000
namespace O
open PySem L2 PyProof.Rows
section
variable {X : Cx} {k : Nat}
def dGo (it : OI) (t : OT) (vs : List Nat) (c : MT) (ky e : ME) : Nat → Nat → List (Key × OV) → OSt → OH → Option (List (Key × OV) × OH)
  | 0, _, acc, _, h => if it.ok h = true then some (acc, h) else none
  | n + 1, i, acc, s, h => if it.ok h = true then (it.item i h).bind fun v => (asgT t v (wipeO s vs)).bind fun s2 => bnd (c s2 h) fun b h1 =>
      if b = true then bnd (ky s2 h1) fun z h2 => bnd (e s2 h2) fun y h3 => (kOf z).bind fun q => if acc.length < sizeLine then dGo it t vs c ky e n (i + 1) (putO acc q y) s h3 else none else dGo it t vs c ky e n (i + 1) acc s h1
    else none
def eDc (m : MIt) (t : OT) (vs : List Nat) (c : MT) (ky e : ME) : ME := fun s h => bnd (m s h) fun it h1 => bnd (dGo it t vs c ky e it.n 0 [] s h1) fun acc h2 => some (.ref h2.length, h2 ++ [.dK acc])
theorem ps_setDc {i : Nat} {y : Str} {py : Pos} {kx vx tg iter : Expr} {ifs : List Expr} {scope : Scope} {own : List (Str × Nat)} {pos spos : Pos} {wi : TI} {g : TG} {tt : TT} {tk te : TE} (hc : X.calm = true) (hN : X.N.Nodup) (hy : X.N[i]? = some y) (hyl : X.env.scope.names.lookup y = some .local)
    (hsw : swapsWith (.DictComp kx vx [⟨tg, iter, ifs, 0⟩] scope pos) (some (.Name y py)) spos.line X.env = pure true) (hi : PI X tg iter wi) (ok : BlkOk X.N X.env.scope scope own)
    (hg : ∀ (s : Shared) (H : Hp) (C : Addr) (cl : List (Str × Addr)) (fp : List Addr), PG (X.blk s H scope (compEnvC scope cl C X.env) fp) tg g) (ht : ∀ (s : Shared) (H : Hp) (C : Addr) (cl : List (Str × Addr)) (fp : List Addr), PTs (X.blk s H scope (compEnvC scope cl C X.env) fp) ifs tt)
    (hk : ∀ (s : Shared) (H : Hp) (C : Addr) (cl : List (Str × Addr)) (fp : List Addr), PE (X.blk s H scope (compEnvC scope cl C X.env) fp) kx tk)
    (he : ∀ (s : Shared) (H : Hp) (C : Addr) (cl : List (Str × Addr)) (fp : List Addr), PE (X.blk s H scope (compEnvC scope cl C X.env) fp) vx te) (hs : ∀ x, foldedSetIterable iter X.env x = pure x := by intro _; rfl) :
    PS X (.Assign [.Name y py] (.DictComp kx vx [⟨tg, iter, ifs, 0⟩] scope pos) spos) (tAsg (tDc wi g tt tk te (own.map (·.2))) (gName i)) := by
  refine ⟨fun pins s σ H D I h => ?_⟩
  rw [exec_Assign_Name_used _ _ _ _ hsw]
  refine wpAny_bind (wpAny_standAt (wpAny_bind ?_))
  show wpAny _ X.A (do let _ ← comprehension (.DictComp kx vx [⟨tg, iter, ifs, 0⟩] scope pos) scope X.env (firstIterPos [⟨tg, iter, ifs, 0⟩] pos) newDict false (eval iter X.env) (some (assign (.Name y py) X.env))) _ _ s
  have h : tDc wi g tt tk te (own.map (·.2)) σ H (fun x H1 => gName i x σ H1 D.nx) := h
  refine wpAny_bind (thn (dc_core (Qf := fun _ s' => SP X pins D .next s') hc hN I hi ok hg ht hk he hs h fun L C s' m H' I' q hn f => ?_) fun _ s' hq => wpAny_pure (wpAny_pure hq))
  show wpAny _ _ (assign (.Name y py) X.env (.ref L)) _ _ _
  refine wpAny_assign_Name (store_ok2 (v := V.ref L) I' hN hy (.inl hyl) rfl (fun s2 I2 ⟨a, sb, ha⟩ => ?_) (.inr hyl))
  obtain ⟨f0, f1, f2, f3, f4, f5⟩ := f
  have haC : C ≠ a := by
    rcases ha with z | z
    · rw [z]; exact f1
    · exact fun e => f4 y a z e.symm
  refine ⟨m, hn.sameBut sb haC, fun h3 sb3 => ?_⟩
  exact ⟨_, H', I2.turned (t' := s2.toks) (fun b o hb e => (sb3.2 b hb).trans e) f0 f1 f3 f4 f5, q⟩
/-- {k : e for t in m if c} -/
theorem s_dc {kx elt tg iter : Expr} {ifs : List Expr} {scope : Scope} {own : List (Str × Nat)} {pos : Pos} {m : MIt} {t : OT} {c : MT} {ky e : ME} (b : Bx X k) (hi : PI X tg iter (tI X.K m)) (ok : BlkOk X.N X.env.scope scope own) (hsl : (slT t).all (fun i => (own.map (·.2)).contains i) = true)
    (hg : ∀ (s : Shared) (H : Hp) (C : Addr) (cl : List (Str × Addr)) (fp : List Addr), Bx (X.blk s H scope (compEnvC scope cl C X.env) fp) k → PG (X.blk s H scope (compEnvC scope cl C X.env) fp) tg (gT X.K t))
    (hc : ∀ (s : Shared) (H : Hp) (C : Addr) (cl : List (Str × Addr)) (fp : List Addr), Bx (X.blk s H scope (compEnvC scope cl C X.env) fp) k → PTs (X.blk s H scope (compEnvC scope cl C X.env) fp) ifs (tT X.K c))
    (hk : ∀ (s : Shared) (H : Hp) (C : Addr) (cl : List (Str × Addr)) (fp : List Addr), Bx (X.blk s H scope (compEnvC scope cl C X.env) fp) k → PE (X.blk s H scope (compEnvC scope cl C X.env) fp) kx (tE X.K ky))
    (he : ∀ (s : Shared) (H : Hp) (C : Addr) (cl : List (Str × Addr)) (fp : List Addr), Bx (X.blk s H scope (compEnvC scope cl C X.env) fp) k → PE (X.blk s H scope (compEnvC scope cl C X.env) fp) elt (tE X.K e)) (hs : ∀ x, foldedSetIterable iter X.env x = pure x := by intro _; rfl) :
    PE X (.DictComp kx elt [⟨tg, iter, ifs, 0⟩] scope pos) (tE X.K (eDc m t (own.map (·.2)) c ky e)) ∧ ∀ {i : Nat} {y : Str} {py spos : Pos}, X.N[i]? = some y → X.env.scope.names.lookup y = some .local → swapsWith (.DictComp kx elt [⟨tg, iter, ifs, 0⟩] scope pos) (some (.Name y py)) spos.line X.env = pure true →
      PS X (.Assign [.Name y py] (.DictComp kx elt [⟨tg, iter, ifs, 0⟩] scope pos) spos) (tS X.K (sSet i (eDc m t (own.map (·.2)) c ky e))) := by
  have bb : ∀ (s : Shared) (H : Hp) (C : Addr) (cl : List (Str × Addr)) (fp : List Addr), Bx (X.blk s H scope (compEnvC scope cl C X.env) fp) k := fun s H C cl fp => ⟨b.room, b.gd, b.calm, b.nd, PassesOwn.never⟩
  have sub : ∀ i ∈ slT t, i ∈ own.map (·.2) := fun i hi => by
    have := List.all_eq_true.mp hsl i hi
    simpa using this
  have core : ∀ (s : L2.St) (H : Hp) (Q : VK), tE X.K (eDc m t (own.map (·.2)) c ky e) s H Q → tDc (tI X.K m) (gT X.K t) (tT X.K c) (tE X.K ky) (tE X.K e) (own.map (·.2)) s H Q := by
    intro s H Q q
    obtain ⟨w, os, rfl, rl, sr, p⟩ := q
    refine ⟨w, os, rfl, rl, sr, (Post.bind p).mono fun it w1 e1 rl1 p1 J js D hD => ?_⟩
    have fin : ∀ (w2 : Wd) (acc : List (Key × OV)) (vs : List (Key × V)), Ap X.K w1 w2 D (.dK vs) → KVR X.K w2 acc vs → Post X.K w1 (some (OV.ref w2.h.length, w2.h ++ [.dK acc])) (Rs X.K Q) → Q (.ref D) w2.H := fun w2 acc vs ap r q => by
      obtain ⟨w3, g1, g2, g3, g4, g5⟩ := take_ok ap.ex ap.rl hD ap.at_ ap.out (o := .dK acc) ⟨vs, rfl, r⟩
      rw [← g2]
      exact q w3 g1 g4 g5 _ (by simp only [VR]; exact ⟨by rw [g1]; simp, by rw [g3]⟩)
    refine ⟨fun i n H => ∃ (w2 : Wd) (acc : List (Key × OV)) (vs : List (Key × V)), w2.H = H ∧ Ap X.K w1 w2 D (.dK vs) ∧ KVR X.K w2 acc vs ∧ i + n = it.n ∧ Post X.K w1 (bnd (dGo it t (own.map (·.2)) c ky e n i acc os w2.h) fun acc h2 => some (.ref h2.length, h2 ++ [.dK acc])) (Rs X.K Q),
      ⟨it.n, ⟨w1.rho, w1.h, upd w1.H D (.dK [])⟩, [], [], rfl, .start rl1 hD, (show KVR X.K _ [] [] from rfl), by omega, p1⟩, fun i n H hw => ?_⟩
    obtain ⟨w2, acc, vs, rfl, ap, ra, hn, p2⟩ := hw
    cases n with
    | zero =>
      unfold dGo at p2
      split at p2
      · rename_i hz
        exact .inl ⟨(js w2 i ap.rho ap.le ap.ex ap.rl hz).2 (by omega), fin w2 acc vs ap ra p2⟩
      · exact p2.elim
    | succ n =>
      unfold dGo at p2
      split at p2
      · rename_i hz
        obtain ⟨j1, _⟩ := js w2 i ap.rho ap.le ap.ex ap.rl hz
        cases ev : it.item i w2.h with
        | none => rw [ev] at p2; exact p2.elim
        | some v =>
          rw [ev] at p2
          simp only [Option.bind_some] at p2
          cases ea : asgT t v (wipeO os (own.map (·.2))) with
          | none => rw [ea] at p2; exact p2.elim
          | some s2 =>
            rw [ea] at p2
            simp only [Option.bind_some] at p2
            obtain ⟨go, yl⟩ := j1 (by omega) v ev
            refine .inr ⟨go, fun H => ∃ (w2 : Wd) (acc : List (Key × OV)) (vs : List (Key × V)), w2.H = H ∧ Ap X.K w1 w2 D (.dK vs) ∧ KVR X.K w2 acc vs ∧ i + 1 + n = it.n ∧ Post X.K w1 (bnd (dGo it t (own.map (·.2)) c ky e n (i + 1) acc os w2.h) fun acc h2 => some (.ref h2.length, h2 ++ [.dK acc])) (Rs X.K Q),
              fun H' z => ⟨n, Nat.lt_succ_self _, z⟩, fun x H' y => ?_⟩
            obtain ⟨w3, eh, eH, x3, rl3, rv⟩ := yl x H' y
            have ap3 := ap.step x3 rl3
            have ra3 := ra.mono x3
            rw [← eh] at p2
            subst eH
            refine gT_run t v x _ s2 _ _ sub ea rv ((sr.mono (e1.trans ap3.ex)).wipe _) fun s2' sr2 hw => ⟨hw.trans wipe_wipe, ?_⟩
            cases ec : c s2 w3.h with
            | none => rw [ec] at p2; exact p2.elim
            | some z =>
              obtain ⟨bb, h3⟩ := z
              rw [ec] at p2
              refine ⟨w3, s2, rfl, rl3, sr2, ?_⟩
              rw [ec]
              intro w4 eh4 x4 rl4
              have ap4 := ap3.step x4 rl4
              have ra4 := ra3.mono x4
              subst eh4
              by_cases hb : bb = true
              · subst hb
                refine L2.iteT ?_
                cases ek : ky s2 w4.h with
                | none =>
                  simp only [bnd, ↓reduceIte, ek] at p2
                  exact p2.elim
                | some z =>
                obtain ⟨zk, hk5⟩ := z
                simp only [bnd, ↓reduceIte, ek] at p2
                refine ⟨w4, s2, rfl, rl4, sr2.mono x4, ?_⟩
                rw [ek]
                intro wk ehk xk rlk yk rk
                have apk := ap4.step xk rlk
                have rak := ra4.mono xk
                subst ehk
                cases ee : e s2 wk.h with
                | none =>
                  simp only [ee] at p2
                  exact p2.elim
                | some z =>
                  obtain ⟨y, h5⟩ := z
                  simp only [ee] at p2
                  refine ⟨wk, s2, rfl, rlk, (sr2.mono x4).mono xk, ?_⟩
                  rw [ee]
                  intro w5 eh5 x5 rl5 y' ry
                  have ap5 := apk.step x5 rl5
                  have ra5 := rak.mono x5
                  subst eh5
                  cases eq : kOf zk with
                  | none => rw [eq] at p2; exact p2.elim
                  | some q =>
                    rw [eq] at p2
                    simp only [Option.bind_some] at p2
                    by_cases hl : acc.length < sizeLine
                    · rw [if_pos hl] at p2
                      refine ⟨vs, q, kOf_ok rk eq, ap5.at_, by rw [← ra.length]; exact hl, ⟨w5.rho, w5.h, upd w5.H D (.dK (putK vs q y'))⟩, putO acc q y, putK vs q y', rfl, ap5.put hD trivial, ?_, by omega, p2⟩
                      obtain ⟨e0, _⟩ := apart_ok (u := .dK (putK vs q y')) ap5.rl ap5.at_ trivial ap5.out
                      exact putO_ok (ra5.mono0 e0) (ry.mono0 e0)
                    · rw [if_neg hl] at p2
                      exact p2.elim
              · have hb : bb = false := by simpa using hb
                subst hb
                refine L2.iteF ?_
                exact ⟨w4, acc, vs, rfl, ap4, ra4, by omega, p2⟩
      · exact p2.elim
  refine ⟨pe_wk (pe_dc b.calm b.nd hi ok (fun s H C cl fp => hg s H C cl fp (bb s H C cl fp)) (fun s H C cl fp => hc s H C cl fp (bb s H C cl fp)) (fun s H C cl fp => hk s H C cl fp (bb s H C cl fp)) (fun s H C cl fp => he s H C cl fp (bb s H C cl fp)) hs) core, fun {i y py spos} hN hl hsw => ?_⟩
  refine ps_wk (ps_setDc b.calm b.nd hN hl hsw hi ok (fun s H C cl fp => hg s H C cl fp (bb s H C cl fp)) (fun s H C cl fp => hc s H C cl fp (bb s H C cl fp)) (fun s H C cl fp => hk s H C cl fp (bb s H C cl fp)) (fun s H C cl fp => he s H C cl fp (bb s H C cl fp)) hs) fun Dn s H q => ?_
  refine core s H _ ?_
  obtain ⟨w, os, rfl, rl, sr, p⟩ := q
  exact ⟨w, os, rfl, rl, sr, (Post.bind p).mono fun v w1 e1 rl1 p1 v' r => Post.here p1 rl1 _ ((sr.mono e1).set r i)⟩
end
end O

set_option maxHeartbeats 4000000
namespace O
open PySem PySem.Spec PyProof.Rows L2
theorem vrs_ints {K : PySem.W.Frag} {w : Wd} : ∀ {ns : List Int}, VRs K w (ns.map OV.int) (ns.map V.int)
  | [] => VRs.nil
  | _ :: _ => .cons vr_int vrs_ints
/-- the script as the law's def is given it -/
theorem sp_law {K : PySem.W.Frag} {m : MF} {Hp0 : Hp} {p : Addr} {ns : List Int} {h' : OH} (o : Only Hp0) (q : SqL K Hp0 p (ns.map V.int)) (e : m [.rol (ns.map OV.int)] [] = some (.bl true, h')) :
    spO K m [.ref p] Hp0 (fun v _ => v = .bl true) := by
  refine ⟨⟨fun _ => p, [], Hp0⟩, [.rol (ns.map OV.int)], rfl, ⟨fun a x hx => ?_, fun a b ha => ?_⟩, .one ?_, ?_⟩
  · cases hx
  · cases ha
  · simp only [VR]
    refine ⟨p, _, rfl, ?_, vrs_ints⟩
    rcases q with (q | q) | q
    · rcases o p with z | ⟨ob, xs, z⟩
      · rw [z] at q; cases q
      · rw [z] at q; cases q
    · exact .inl q
    · exact .inr (.inr q)
  · rw [e]
    intro w' _ _ _ v' r
    simpa only [VR] using r
/-- the call of the law's def at the head, its promise under no guards -/
theorem call_law {Pr : Program} {wl : World} {K : PySem.W.Frag} {mg mb : Str → Option Value} {k n : Nat} {fa p : Addr} {fd : FuncData} {x : Str} {m : MF} {s₁ : Shared} {vs : List Value} {ns : List Int}
    (KX : K.In s₁.heap) (n1 : s₁.heap.Ns mainGlobals mg) (n2 : s₁.heap.Ns builtinsNs mb) (n3 : ∀ x : Str, x ≠ "__name__" → mb x = bootBuiltins x) (n4 : s₁.heap.NoLimit) (g0 : s₁.gens = #[])
    (hp : s₁.heap.get? p = some { cls := .type "list", data := .seq vs.toArray }) (hi : IntsAre vs ns) (hl : ns.length ≤ sizeLine) (hn : ns.length ≤ n) (hr : Room k callerA)
    (F : ∀ base : Heap, K.In base → base.Ns mainGlobals mg → FnG Pr wl K mg base k fa fd [x] m) (hb : ∀ (s : Shared) (u : Value), BindsTo s fd ⟨[u], []⟩ [(x, u)])
    (hm : ∀ ns : List Int, ns.length ≤ n → ∃ h', m [.rol (ns.map OV.int)] [] = some (.bl true, h')) :
    codeAny (model Pr wl) callerA (.call (.ref fa) ⟨[.ref p], []⟩) (fun r s' => r = .ok (.ret (.bool true)) ∧ OldK s₁.heap s'.heap ∧ s'.os = s₁.os ∧ AllBare s'.gens) s₁ := by
  have vi := vals_ints hi
  have li := hi.length
  obtain ⟨h', em⟩ := hm ns hn
  have main : ∀ G : Hp, Only G → SqL K G p (ns.map V.int) → HOk Pr wl G s₁.heap → (∀ b, G b ≠ none → b = p) → (G p ≠ none → K.lookup p = none) →
      codeAny (model Pr wl) callerA (.call (.ref fa) ⟨[.ref p], []⟩) (fun r s' => r = .ok (.ret (.bool true)) ∧ OldK s₁.heap s'.heap ∧ s'.os = s₁.os ∧ AllBare s'.gens) s₁ := by
    intro G gO gS gH gA gK
    have fromB : ∀ {b : Addr} {o : Obj}, s₁.heap.get? b = some o → G b = none → (hidT s₁.heap G).get? b = some o := fun e z => hidT_get e z
    have apartD : ∀ {b : Addr} {o : Obj} {es : Array DictEntry} {ep : Nat}, s₁.heap.get? b = some o → o.data = .dict es ep → G b = none := fun {b o es ep} e d => by
      cases q : G b with
      | none => rfl
      | some u =>
        have eb : b = p := gA b (by rw [q]; simp)
        subst eb
        rw [hp] at e; cases e
        cases (show Data.seq vs.toArray _ = Data.dict es ep from d)
    have nsB : ∀ {b : Addr} {f : Str → Option Value}, s₁.heap.Ns b f → (hidT s₁.heap G).Ns b f := fun {b f} ⟨o, es, ep, e, d, r⟩ => ⟨o, es, ep, fromB e (apartD e d), d, r⟩
    have inB : K.In (hidT s₁.heap G) := fun b o e => fromB (KX b o e) (by
      cases q : G b with
      | none => rfl
      | some u =>
        have eb : b = p := gA b (by rw [q]; simp)
        subst eb
        rw [gK (by rw [q]; simp)] at e; cases e)
    have md : Mod K mg (hidT s₁.heap G) := ⟨inB, nsB n1, ⟨mb, nsB n2, n3⟩, let ⟨mc, z1, z2⟩ := n4; ⟨mc, nsB z1, z2⟩⟩
    have en : Env0 Pr wl K mg (hidT s₁.heap G) callerA [] s₁ G := ⟨rfl, md, fun b o e => of_hidT e, Nat.le_of_eq (hidT_size _ _), trivial, fun b hb => absurd (show b ∈ ([] : List Addr) from hb) (by simp), gH, .of_eq g0⟩
    refine codeAny_mono ((F _ inB (nsB n1)).run callerA [] s₁ G ⟨[.ref p], []⟩ [.ref p] [.ref p] _ hr rfl en (hb s₁ (.ref p)) (.cons rfl .nil) rfl (sp_law gO gS em)) fun r s' z => ?_
    cases r with
    | error e => exact z.elim
    | ok fl =>
      cases fl with
      | ret u =>
        obtain ⟨v, G', os, bare, un, hok', r', q⟩ := z
        obtain rfl : v = .bl true := q
        obtain rfl : u = Value.bool true := r'
        refine ⟨rfl, OldK.of_keep fun b o e => ?_, os, bare⟩
        cases q : G b with
        | none => exact un.keep b o e q (by intro z; exact absurd (show b ∈ ([] : List Addr) from z) (by simp)) (by simp)
        | some u =>
          rcases gO b with z | ⟨ob, xs, z⟩
          · rw [q] at z; cases z
          · obtain ⟨e1, _⟩ := gH b _ z
            obtain ⟨e2, _⟩ := hok' b _ (un.frzs b ob _ z)
            rw [e] at e1; cases e1
            exact e2
      | next => exact z.elim
      | brk => exact z.elim
      | cont => exact z.elim
  cases hk : K.lookup p with
  | some o =>
    have e := KX p o hk
    rw [hp] at e
    cases e
    refine main (fun _ => none) (fun _ => .inl rfl) (.inr ⟨_, vs.toArray, _, hk, rfl, rfl, rfl, by rw [List.size_toArray, li]; exact hl, by simpa using vi⟩) (fun b u z => ?_) (fun b z => absurd rfl z) fun z => absurd rfl z
    cases (show (none : Option HO) = some u from z)
  | none =>
    refine main (fun b => if b = p then some (.frz { cls := .type "list", data := .seq vs.toArray } (.lst (ns.map V.int))) else none) (fun b => ?_) (.inl (.inr ⟨{ cls := .type "list", data := .seq vs.toArray }, if_pos rfl⟩)) (fun b u z => ?_) (fun b z => ?_) fun _ => hk
    · by_cases c : b = p
      · exact .inr ⟨_, _, if_pos c⟩
      · exact .inl (if_neg c)
    · by_cases c : b = p
      · cases (if_pos c).symm.trans z
        subst c
        exact ⟨hp, by rw [List.length_map]; exact hl, vs, _, vi, hp⟩
      · cases (if_neg c).symm.trans z
    · by_cases c : b = p
      · exact c
      · exact absurd (if_neg c) z
theorem walk_law {l : PySem.W.OpenLaw} {n k : Nat} {q : Program} {loose : List Str} {XP : (Str → Option Value) → Heap → Prop} {YP : World → Heap → Prop} {d : DefRec} {x : Str} {m : MF}
    (hn : l.most = some n) (hn2 : n ≤ sizeLine) (hdf : d.params.defaults = []) (hr : Room k callerA) (hm : ∀ ns : List Int, ns.length ≤ n → ∃ h', m [.rol (ns.map OV.int)] [] = some (.bl true, h'))
    (F : ∀ (w : World) (mg : Str → Option Value) (fa : Addr) (h : Heap), YP w h → h.Ns mainGlobals mg → mg d.name = some (.ref fa) → ∃ (K : PySem.W.Frag) (fd : FuncData), K.In h ∧ (∀ (s : Shared) (u : Value), BindsTo s fd ⟨[u], []⟩ [(x, u)]) ∧
      ∀ base : Heap, K.In base → base.Ns mainGlobals mg → FnG l.prog w K mg base k fa fd [x] m) : PySem.W.WalkO q loose XP YP l.row.toRowW d [] (fun f vs => PySem.call f vs) := by
  refine Att.attach_call hn hdf fun w s₀ s₁ mg mb fa o pm cd doc a vs ns G Y ho hd hcd hmg hobj hints hlen hg => ?_
  obtain ⟨K, fd, KX, hb, hF⟩ := F w mg fa _ Y G.T.g hmg
  exact call_law KX G.T.g G.T.b G.T.builtins G.T.nolimit hg hobj hints (Nat.le_trans hlen hn2) hlen hr hF hb hm
section
variable {X : Cx} {k : Nat}
theorem s_gint {x : Str} {i : Int} {pos : Pos} (hg : Gl X x) (hm : ∃ t, X.mg x = some (.int i t)) (hd : (x == ("__debug__" : Str)) = false := by decide) : PE X (.Name x pos) (tE X.K (eC (.int i))) := by
  obtain ⟨t, e⟩ := hm
  exact s_c (pe_glob (v := .int i) hg e ⟨t, rfl⟩ hd) fun w => vr_int
theorem s_gstr {x z : Str} {pos : Pos} (hg : Gl X x) (hm : ∃ t, X.mg x = some (.str z t)) (hd : (x == ("__debug__" : Str)) = false := by decide) : PE X (.Name x pos) (tE X.K (eC (.str z))) := by
  obtain ⟨t, e⟩ := hm
  exact s_c (pe_glob (v := .str z) hg e ⟨t, rfl⟩ hd) fun w => vr_str
end
def g1 (xs _ : List OV) : List OV := xs
/-- positional arguments alone -/
theorem bdP {K : PySem.W.Frag} {fd : FuncData} {ps : List Str} {n : Nat} (hn : n = ps.length) (h : ∀ (s : Shared) (us : List Value), us.length = ps.length → BindsTo s fd ⟨us, []⟩ (ps.zip us)) : BdG K fd ps n [] (fun xs _ => xs) g1 :=
  ⟨fun s us ws vs zs _ e1 e2 r1 r2 => by
    have : ws = [] := List.eq_nil_of_length_eq_zero e2
    subst this
    exact ⟨us, h s us (e1.trans hn), r1, r1.length.trans (e1.trans hn)⟩, fun w os qs vs zs r1 r2 => r1⟩
end O

set_option maxHeartbeats 4000000
namespace O
open PySem PySem.Spec PyProof.Rows L2
structure Ft (fa : List He.Fa) (fn : List He.DefD) (K : PySem.W.Frag) (mg : Str → Option Value) : Prop where
  says : He.SaysD fa fn K
  at_ : ∃ h : Heap, K.In h ∧ h.Ns mainGlobals mg
section
variable {fa : List He.Fa} {fn : List He.DefD} {K : PySem.W.Frag} {mg : Str → Option Value}
theorem Ft.glo (F : Ft fa fn K mg) (i : Nat) {x : Str} (h : fa[i]? = some (.glo x) := by rfl) : mg x = some (.ref (He.ga K x)) := let ⟨_, a, b⟩ := F.at_; He.glo_ok a b (F.says.fact i h)
theorem Ft.free (F : Ft fa fn K mg) (i : Nat) {x : Str} (h : fa[i]? = some (.free x) := by rfl) : mg x = none := let ⟨_, a, b⟩ := F.at_; He.free_ok a b (F.says.fact i h)
theorem Ft.int (F : Ft fa fn K mg) (i : Nat) {x : Str} {n : Int} (h : fa[i]? = some (.int x n) := by rfl) : ∃ t, mg x = some (.int n t) := let ⟨_, a, b⟩ := F.at_; He.int_ok a b (F.says.fact i h)
theorem Ft.str (F : Ft fa fn K mg) (i : Nat) {x z : Str} (h : fa[i]? = some (.str x z) := by rfl) : ∃ t, mg x = some (.str z t) := let ⟨_, a, b⟩ := F.at_; He.str_ok a b (F.says.fact i h)
theorem Ft.cls (F : Ft fa fn K mg) (i : Nat) {x : Str} (h : fa[i]? = some (.cls x) := by rfl) : Cls K (He.ga K x) := He.cls_ok (F.says.fact i h)
theorem Ft.noat (F : Ft fa fn K mg) (i : Nat) {x f : Str} (h : fa[i]? = some (.noat x f) := by rfl) : NoAttr K (He.ga K x) f := He.noat_ok (F.says.fact i h)
theorem Ft.meth (F : Ft fa fn K mg) (i : Nat) {x f : Str} (h : fa[i]? = some (.meth x f) := by rfl) : Meth K (He.ga K x) f (He.ma K (He.ga K x) f) := He.meth_ok (F.says.fact i h)
theorem Ft.mkr (F : Ft fa fn K mg) (i : Nat) {x : Str} (h : fa[i]? = some (.mkr x) := by rfl) : Mk K (He.ga K x) (He.ma K (He.ga K x) "__init__") := He.mkr_ok (F.says.fact i h)
end
def blkB (N : List Str) (sc scope : Scope) (own : List (Str × Nat)) : Bool :=
  decide (scope.kind = .function) && (scope.names.all (fun y => decide (scope.names.lookup y.1 = some y.2)) && (own.all (fun p => decide (N[p.2]? = some p.1)) &&
    (scope.names.all (fun y => !decide (y.2 = .free) || (decide (sc.names.lookup y.1 = some .cell) || decide (sc.names.lookup y.1 = some .free))) &&
      scope.names.all (fun y => !(decide (y.2 = .local) || decide (y.2 = .cell)) || (decide (y.1 ∈ own.map (·.1)) || decide (y.1 ∉ N))))))
theorem blk_ok {N : List Str} {sc scope : Scope} {own : List (Str × Nat)} (h : blkB N sc scope own = true) : BlkOk N sc scope own := by
  unfold blkB at h
  simp only [Bool.and_eq_true, decide_eq_true_eq, List.all_eq_true, Bool.or_eq_true, Bool.not_eq_true', decide_eq_false_iff_not] at h
  obtain ⟨h1, h2, h3, h4, h5⟩ := h
  refine ⟨h1, h2, h3, fun y hy e => ?_, fun y hy e => ?_⟩
  · exact (h4 y hy).resolve_left (fun z => z e)
  · refine (h5 y hy).resolve_left fun z => ?_
    rw [Bool.or_eq_false_iff, decide_eq_false_iff_not, decide_eq_false_iff_not] at z
    exact e.elim z.1 z.2
theorem gl {X : Cx} {x : Str} (h : X.env.kindOf x = some .globalImplicit) : Gl X x := h

end O

set_option maxHeartbeats 4000000
namespace O
open PySem L2 PyProof.Rows
section
variable {X : Cx} {k : Nat}
def isBl (b : Bool) : OV → Bool
  | .bl c => c == b
  | _ => false
def oIsB : MO := fun x y h => match y with
  | .bl b => some (.bl (isBl b x), h)
  | _ => none
def oNotB : MO := fun x y h => match y with
  | .bl b => some (.bl (!isBl b x), h)
  | _ => none
theorem isB_ok {K : PySem.W.Frag} {w : Wd} {a : OV} {x : V} {v : Value} {b : Bool} (ra : VR K w a x) (rx : RelV x v) : PySem.plainIs v (.bool b) = true ∧ (v == .bool b) = isBl b a := by
  cases a with
  | non => simp only [VR] at ra; subst ra; cases rx; exact ⟨rfl, rfl⟩
  | bl c => simp only [VR] at ra; subst ra; cases rx; exact ⟨rfl, by cases c <;> cases b <;> rfl⟩
  | int _ => simp only [VR] at ra; subst ra; obtain ⟨t, rfl⟩ := rx; exact ⟨rfl, rfl⟩
  | str _ => simp only [VR] at ra; subst ra; obtain ⟨t, rfl⟩ := rx; exact ⟨rfl, rfl⟩
  | tup _ =>
    simp only [VR] at ra
    obtain ⟨_, _, rfl, _⟩ := ra
    cases rx; exact ⟨rfl, rfl⟩
  | rol _ =>
    simp only [VR] at ra
    obtain ⟨_, _, rfl, _⟩ := ra
    cases rx; exact ⟨rfl, rfl⟩
  | ref _ =>
    obtain rfl := ra.ref
    cases rx; exact ⟨rfl, rfl⟩
theorem o_isB : OpR X (compareOp .Is) (tV2 X.K oIsB) := by
  intro pins s σ H x y v u Q I rx ry q
  obtain ⟨w, a, b, rfl, rl, ra, rb, p⟩ := q
  unfold oIsB at p
  cases b with
  | bl c =>
    obtain rfl : y = _ := by simpa only [VR] using rb
    cases ry
    obtain ⟨h1, h2⟩ := isB_ok (b := c) ra rx
    refine PySem.wpAny_is_plain h1 ?_
    rw [h2]
    exact ⟨.bl _, w.H, I, rfl, Post.here p rl _ vr_bl⟩
  | _ => exact p.elim
theorem o_notB : OpR X (compareOp .IsNot) (tV2 X.K oNotB) := by
  intro pins s σ H x y v u Q I rx ry q
  obtain ⟨w, a, b, rfl, rl, ra, rb, p⟩ := q
  unfold oNotB at p
  cases b with
  | bl c =>
    obtain rfl : y = _ := by simpa only [VR] using rb
    cases ry
    obtain ⟨h1, h2⟩ := isB_ok (b := c) ra rx
    refine PySem.wpAny_isNot_plain h1 ?_
    rw [h2]
    exact ⟨.bl _, w.H, I, rfl, Post.here p rl _ vr_bl⟩
  | _ => exact p.elim
def bInt : MF := fun xs h => match xs with
  | [.int i] => some (.int i, h)
  | [.bl b] => some (.int (if b then 1 else 0), h)
  | _ => none
theorem c_int : CallR X (.type "int") (tVn X.K bInt) := by
  refine c_wk call_int1 fun xs H Q q => ?_
  obtain ⟨w, os, rfl, rl, ro, p⟩ := q
  unfold bInt at p
  split at p
  · obtain ⟨v, rfl, r⟩ := vrs1 ro
    obtain rfl : v = _ := by simpa only [VR] using r
    exact .inl ⟨_, rfl, Post.here p rl _ vr_int⟩
  · obtain ⟨v, rfl, r⟩ := vrs1 ro
    obtain rfl : v = _ := by simpa only [VR] using r
    exact .inr ⟨_, rfl, Post.here p rl _ vr_int⟩
  · exact p.elim
def prsO : List OV → Option (List (Key × OV))
  | [] => some []
  | .tup [k, v] :: r => (kOf k).bind fun k => (prsO r).map fun q => (k, v) :: q
  | _ :: _ => none
def mergeO (kvs more : List (Key × OV)) : List (Key × OV) := more.foldl (fun acc kv => putO acc kv.1 kv.2) kvs
theorem mergeO_ok {K : PySem.W.Frag} {w : Wd} : ∀ {more : List (Key × OV)} {ms : List (Key × V)} {kvs : List (Key × OV)} {vs : List (Key × V)}, KVR K w kvs vs → KVR K w more ms → KVR K w (mergeO kvs more) (mergeK vs ms)
  | [], _, _, _, h, r => by have r : _ = [] := r; subst r; exact h
  | p :: more, _, _, _, h, r => by
    obtain ⟨v, q, rfl, h1, h2⟩ := r
    show KVR K w (mergeO (putO _ p.1 p.2) more) (mergeK (putK _ p.1 v) q)
    exact mergeO_ok (more := more) (ms := q) (putO_ok h h1) h2
theorem prs_ok {K : PySem.W.Frag} {w : Wd} : ∀ {xs : List OV} {vs : List V} {kvs : List (Key × OV)}, prsO xs = some kvs → VRs K w xs vs → ∃ (ps : List Addr) (ms : List (Key × V)), vs = ps.map V.ref ∧ KVR K w kvs ms ∧ Paired (fun p kv => SqT K w.H p [kV kv.1, kv.2]) ps ms
  | [], vs, kvs, e, r => by
    simp only [VRs] at r; subst r
    simp only [prsO, Option.some.injEq] at e; subst e
    exact ⟨[], [], rfl, rfl, .nil⟩
  | x :: xs, vs, kvs, e, r => by
    simp only [VRs] at r
    obtain ⟨v, q, rfl, h1, h2⟩ := r
    unfold prsO at e
    split at e
    · rename_i h; cases h
    · rename_i kk vv r2 h
      cases h
      cases e1 : kOf kk with
      | none => rw [e1] at e; cases e
      | some key =>
        rw [e1] at e
        simp only [Option.bind_some] at e
        cases e2 : prsO xs with
        | none => rw [e2] at e; cases e
        | some more =>
          rw [e2] at e
          simp only [Option.map_some, Option.some.injEq] at e
          subst e
          obtain ⟨ps, ms, rfl, g1, g2⟩ := prs_ok e2 h2
          simp only [VR] at h1
          obtain ⟨p, us, rfl, h3, h4⟩ := h1
          obtain ⟨a, b, rfl, ra, rb⟩ := vrs2 h4
          have ka := kOf_ok ra e1
          subst ka
          exact ⟨p :: ps, (key, b) :: ms, rfl, ⟨b, ms, rfl, rb, g1⟩, .cons (SqT.of h3) g2⟩
    · cases e
def bDict : MF := fun xs h => match xs with
  | [.ref a] => match h[a]? with
    | some (.lst ys) => (prsO ys).map fun kvs => (.ref h.length, h ++ [.dK (mergeO [] kvs)])
    | some (.dK kvs) => some (.ref h.length, h ++ [.dK kvs])
    | _ => none
  | _ => none
theorem c_dict (b : Bx X k) : CallR X (.type "dict") (tVn X.K bDict) := by
  refine c_wk (CallR.or (call_dictP b.calm) call_dictD) fun xs H Q q => ?_
  obtain ⟨w, os, rfl, rl, ro, p⟩ := q
  unfold bDict at p
  split at p
  · obtain ⟨v, rfl, r⟩ := vrs1 ro
    obtain rfl := r.ref
    split at p
    · rename_i ys ha
      obtain ⟨vs, g1, g2⟩ := rl.lst ha
      cases e : prsO ys with
      | none => rw [e] at p; exact p.elim
      | some kvs =>
        rw [e] at p
        obtain ⟨ps, ms, rfl, r1, r2⟩ := prs_ok e g2
        exact .inl ⟨_, ps, ms, rfl, SqL.of g1, r2, fun q hq => p_new p rl ⟨_, rfl, mergeO_ok (show KVR X.K w [] [] from rfl) r1⟩ hq⟩
    · rename_i kvs ha
      obtain ⟨vs, g1, g2⟩ := rl.dK ha
      exact .inr ⟨_, vs, rfl, .inl g1, fun q hq => p_new p rl ⟨_, rfl, g2⟩ hq⟩
    · exact p.elim
  · exact p.elim
def bLenD : MF := fun xs h => match xs with
  | [.ref a] => match h[a]? with
    | some (.dK kvs) => some (.int kvs.length, h)
    | _ => none
  | _ => none
theorem c_lenD : CallR X (.builtin "len") (tVn X.K bLenD) := by
  refine c_wk call_lenD fun xs H Q q => ?_
  obtain ⟨w, os, rfl, rl, ro, p⟩ := q
  unfold bLenD at p
  split at p
  · obtain ⟨v, rfl, r⟩ := vrs1 ro
    obtain rfl := r.ref
    split at p
    · rename_i kvs ha
      obtain ⟨vs, g1, g2⟩ := rl.dK ha
      refine ⟨_, vs, rfl, g1, ?_⟩
      rw [← g2.length]
      exact Post.here p rl _ vr_int
    · exact p.elim
  · exact p.elim
end
end O

set_option maxHeartbeats 4000000
namespace O
open PySem L2 PyProof.Rows
def gApp (xs zs : List OV) : List OV := xs ++ zs
def gDef (ds : List OV) (xs _ : List OV) : List OV := xs ++ ds
/-- keywords given in the parameters' order -/
theorem bdKw {K : PySem.W.Frag} {fd : FuncData} {ps : List Str} {n : Nat} {ks : List Str} {g : List Value → List Value → List Value} {gV : List V → List V → List V} (B : KBn K fd ps n ks g gV) (hg : ∀ vs zs, gV vs zs = vs ++ zs) (hl : n + ks.length = ps.length) : BdG K fd ps n ks gV gApp :=
  ⟨fun s us ws vs zs X e1 e2 r1 r2 => ⟨g us ws, B.to s us ws X e1 e2, B.rel r1 r2, by rw [hg, List.length_append, r1.length, r2.length, e1, e2, hl]⟩, fun w os qs vs zs r1 r2 => by rw [hg]; exact r1.app r2⟩
/-- keywords that lack -/
theorem bdDf {K : PySem.W.Frag} {fd : FuncData} {ps : List Str} {n : Nat} {ds : List V} {dO : List OV} {g : List Value → List Value → List Value} {gV : List V → List V → List V} (B : KBn K fd ps n [] g gV) (hg : ∀ vs zs, gV vs zs = vs ++ ds) (hl : n + ds.length = ps.length) (hd : ∀ w, VRs K w dO ds) : BdG K fd ps n [] gV (gDef dO) :=
  ⟨fun s us ws vs zs X e1 e2 r1 r2 => ⟨g us ws, B.to s us ws X e1 e2, B.rel r1 r2, by rw [hg, List.length_append, r1.length, e1, hl]⟩, fun w os qs vs zs r1 r2 => by rw [hg]; exact r1.app (hd w)⟩
section
variable {X : Cx} {k : Nat}
/-- del o[i] of a list -/
def sDel (o i : ME) : MS := fun s h => bnd (o s h) fun x h1 => bnd (i s h1) fun y h2 => match x, y with
  | .ref a, .int i => match h2[a]? with
    | some (.lst xs) => if 0 ≤ i ∧ i < xs.length ∧ xs.length ≤ sizeLine then some (.nx s, h2.set a (.lst (xs.eraseIdx i.toNat))) else none
    | _ => none
  | _, _ => none
theorem r_del {o i : Expr} {mo mi : ME} {tpos pos : Pos} (ho : PE X o (tE X.K mo)) (hi : PE X i (tE X.K mi)) : PS X (.Delete [.Subscript o i tpos] pos) (tS X.K (sDel mo mi)) := by
  refine ps_wk (ps_delL ho hi) fun D s H q => ?_
  obtain ⟨w, os, rfl, rl, sr, p⟩ := q
  refine ⟨w, os, rfl, rl, sr, (Post.bind p).mono fun x w1 e1 rl1 p1 v1 r1 => ?_⟩
  refine ⟨w1, os, rfl, rl1, sr.mono e1, (Post.bind p1).mono fun y w2 e2 rl2 p2 v2 r2 => ?_⟩
  split at p2
  · rename_i a i
    obtain rfl := (r1.mono e2).ref
    obtain rfl : v2 = _ := by simpa only [VR] using r2
    split at p2
    · rename_i xs ha
      obtain ⟨vs, g1, g2⟩ := rl2.lst ha
      split at p2
      · rename_i hz
        obtain ⟨z1, z2, z3⟩ := hz
        have l := g2.length
        have zz : sizeLine = 16777216 := rfl
        obtain ⟨x, rl'⟩ := set_ok (o' := .lst (xs.eraseIdx i.toNat)) (ho' := .lst (vs.eraseIdx i.toNat)) rl2 ha g1 trivial ⟨_, rfl, g2.erase _⟩
        refine ⟨_, vs, i, i.toNat, rfl, rfl, g1, by omega, by omega, ?_, ?_⟩
        · unfold seqIndex?
          have e1 : ¬ i < 0 := by omega
          have e2 : i < (vs.length : Int) := by omega
          simp [e1, z1, e2]
        · exact p2 _ rfl x rl' _ ((sr.mono (e1.trans e2)).mono x)
      · exact p2.elim
    · exact p2.elim
  · exact p2.elim
end
end O

set_option maxHeartbeats 4000000
namespace O
open PySem L2 PyProof.Rows
section
variable {X : Cx} {k : Nat}
def ppM : List (ME × ME) → OSt → OH → Option (List (Key × OV) × OH)
  | [], _, h => some ([], h)
  | (a, b) :: r, s, h => bnd (a s h) fun x h1 => (kOf x).bind fun q => bnd (b s h1) fun y h2 => bnd (ppM r s h2) fun ps h3 => some ((q, y) :: ps, h3)
def trP (K : PySem.W.Frag) (ms : List (ME × ME)) : List (TE × TE) := ms.map fun m => (tE K m.1, tE K m.2)
theorem pairs_tr {K : PySem.W.Frag} : ∀ (ms : List (ME × ME)) (s : L2.St) (H : Hp) (Q : List (V × V) → Hp → Prop), (∃ w os, w.H = H ∧ Rl K w ∧ SR K w os s ∧ Post K w (ppM ms os w.h) fun kvs w' => ∀ vs : List (Key × V), KVR K w' kvs vs → Q (vs.map fun kv => (kV kv.1, kv.2)) w'.H) → tPairs (trP K ms) s H Q
  | [], s, H, Q, ⟨w, os, e, rl, sr, p⟩ => by
    subst e
    exact Post.here p rl [] rfl
  | (a, b) :: r, s, H, Q, ⟨w, os, e, rl, sr, p⟩ => by
    subst e
    show tE K a s w.H fun x H1 => tE K b s H1 fun y H2 => tPairs (trP K r) s H2 fun ps H3 => Q ((x, y) :: ps) H3
    refine ⟨w, os, rfl, rl, sr, (Post.bind p).mono fun x w1 e1 rl1 p1 v r1 => ?_⟩
    cases ek : kOf x with
    | none => rw [ek] at p1; exact p1.elim
    | some q =>
      rw [ek] at p1
      simp only [Option.bind_some] at p1
      have kv := kOf_ok r1 ek
      refine ⟨w1, os, rfl, rl1, sr.mono e1, (Post.bind p1).mono fun y w2 e2 rl2 p2 u r2 => ?_⟩
      refine pairs_tr r s w2.H _ ⟨w2, os, rfl, rl2, (sr.mono e1).mono e2, (Post.bind p2).mono fun kvs w3 e3 rl3 p3 vs r3 => ?_⟩
      have := Post.here p3 rl3 ((q, u) :: vs) ⟨u, vs, rfl, r2.mono e3, r3⟩
      rw [kv]
      exact this
def eDisp (ms : List (ME × ME)) : ME := fun s h => bnd (ppM ms s h) fun kvs h1 => if kvs.length ≤ 15 then some (.ref h1.length, h1 ++ [.dK (mergeO [] kvs)]) else none
theorem s_disp {pos : Pos} {keys : List (Option Expr)} {values : List Expr} {ms : List (ME × ME)} (h : PPs X pos keys values (trP X.K ms)) (h1 : keys.all (·.isSome) = true := by rfl) (h2 : keys.length = values.length := by rfl) (h3 : keys ≠ [] := by intro h; cases h) (h4 : keys.length ≤ 15 := by decide) : PE X (.Dict keys values pos) (tE X.K (eDisp ms)) := by
  refine pe_wk (pe_disp h h1 h2 h3 h4) fun s H Q q D hD => ?_
  obtain ⟨w, os, rfl, rl, sr, p⟩ := q
  have ap := Ap.start (ho := .dK []) rl hD
  refine pairs_tr ms s _ _ ⟨⟨w.rho, w.h, upd w.H D (.dK [])⟩, os, rfl, ap.rl, sr.mono ap.ex, ?_⟩
  show Post X.K _ (ppM ms os w.h) _
  unfold eDisp at p
  cases ee : ppM ms os w.h with
  | none => rw [ee] at p; exact p.elim
  | some z =>
    obtain ⟨kvs, h5⟩ := z
    rw [ee] at p
    simp only [bnd] at p
    intro w5 eh x5 rl5 vs r
    have ap5 := ap.step x5 rl5
    subst eh
    split at p
    · rename_i hz
      refine ⟨ap5.at_, vs, rfl, by rw [← r.length]; exact hz, ?_⟩
      have ap6 := ap5.put (u := .dK (mergeK [] vs)) hD trivial
      obtain ⟨e0, _⟩ := apart_ok (u := .dK (mergeK [] vs)) ap5.rl ap5.at_ trivial ap5.out
      have r6 := mergeO_ok (show KVR X.K ⟨w5.rho, w5.h, upd w5.H D (.dK (mergeK [] vs))⟩ [] [] from rfl) (r.mono0 e0)
      obtain ⟨w7, g1, g2, g3, g4, g5⟩ := take_ok ap6.ex ap6.rl hD ap6.at_ ap6.out (o := .dK (mergeO [] kvs)) ⟨_, rfl, r6⟩
      have := p w7 g1 g4 g5 (.ref D) (by simp only [VR]; exact ⟨by rw [g1]; simp, by rw [g3]⟩)
      rw [g2] at this
      exact this
    · exact p.elim
def gFld (C f : Str) (o : ME) : MG := fun v s h => bnd (o s h) fun x h1 => match x with
  | .ref a => match h1[a]? with
    | some (.ins D fs) => if D = C ∧ fs.length < 1000 then some (s, h1.set a (.ins D (putFO f v fs))) else none
    | _ => none
  | _ => none
theorem g_fld {C f : Str} {o : Expr} {mo : ME} {pos : Pos} (ho : PE X o (tE X.K mo)) (cl : Cls X.K (He.ga X.K C)) (na : NoAttr X.K (He.ga X.K C) f) : PG X (.Attribute o f pos) (tG X.K (gFld C f mo)) := by
  refine ⟨fun pins s σ H v u Q I r h => ?_⟩
  rw [assign_Attribute]
  obtain ⟨w, os, x, rfl, rl, sr, rv, p⟩ := h
  refine wpAny_bind (wpAny_holding (thn (ho.run pins s σ w.H (fun z H1 => ∃ w1 y, w1.H = H1 ∧ Rl X.K w1 ∧ Ex w w1 ∧ VR X.K w1 y z ∧ Post X.K w1 (match y with
    | .ref a => match w1.h[a]? with
      | some (.ins D fs) => if D = C ∧ fs.length < 1000 then some (os, w1.h.set a (.ins D (putFO f x fs))) else none
      | _ => none
    | _ => none) (fun os' w' => ∀ s', SR X.K w' os' s' → Q s' w'.H)) I ⟨w, os, rfl, rl, sr, (Post.bind p).mono fun y w1 e1 rl1 p1 z rz => ⟨w1, y, rfl, rl1, e1, rz, p1⟩⟩) fun ov s1 ⟨z, H1, I1, rz, w1, y, eh, rl1, e1, ry, p1⟩ => ?_))
  subst eh
  cases y with
  | ref a =>
    obtain rfl := ry.ref
    obtain rfl : ov = Value.ref (w1.rho a) := rz
    dsimp only at p1
    split at p1
    · rename_i D fs ha
      split at p1
      · rename_i hz
        obtain ⟨rfl, hl⟩ := hz
        obtain ⟨dx, vs, g1, g2⟩ := rl1.ins ha
        refine wpAny_bind (wpAny_standAt (wpAny_bind (wpAny_holding (setattr_ok I1 g1 cl na (by rw [← g2.length]; exact hl) r fun s3 I3 => ?_))))
        obtain ⟨x3, rl'⟩ := set_ok (o' := .ins D (putFO f x fs)) (ho' := .ins (He.ga X.K D) dx (putF f v vs)) rl1 ha g1 trivial ⟨dx, _, rfl, putFO_ok (rv.mono e1) g2⟩
        exact wpAny_release ⟨σ, _, I3, p1 _ rfl x3 rl' _ ((sr.mono e1).mono x3)⟩
      · exact p1.elim
    · exact p1.elim
  | _ => exact p1.elim
end
end O

set_option maxHeartbeats 4000000
namespace Lw
open PySem PySem.Spec PyProof.Rows L2 O
/- Base.names: 0 self -/
def m_Base_names : MS :=
    sRt (eB bList (aCons (eFld "Base" "item_list" (eVar 0)) aNil))
def f_Base_names : MF := fDef 1 1 m_Base_names
/- SwapLog.base: 0 self -/
def m_SwapLog_base : MS :=
    sRt (eFld "SwapLog" "own_base" (eVar 0))
def f_SwapLog_base : MF := fDef 1 1 m_SwapLog_base
/- SwapLog.__len__: 0 self -/
def m_SwapLog___len__ : MS :=
    sRt (eB bLen (aCons (eFld "SwapLog" "done" (eVar 0)) aNil))
def f_SwapLog___len__ : MF := fDef 1 1 m_SwapLog___len__
/- SwapLog.entries: 0 self -/
def m_SwapLog_entries : MS :=
    sRt (eB bList (aCons (eFld "SwapLog" "done" (eVar 0)) aNil))
def f_SwapLog_entries : MF := fDef 1 1 m_SwapLog_entries
/- SwapLog.order: 0 self -/
def m_SwapLog_order : MS :=
    sRt (eB bList (aCons (eFld "SwapLog" "current" (eVar 0)) aNil))
def f_SwapLog_order : MF := fDef 1 1 m_SwapLog_order
/- _law_is: 0 _law_log, 1 _law_state, 2 _law_told -/
def m__law_is : MS :=
    sSeq (sSet 2 (eLst (aCons (eMeth "SwapLog" "order" f_SwapLog_order 1 0 g1 (eVar 0) aNil aNil) (aCons (eMeth "SwapLog" "entries" f_SwapLog_entries 1 0 g1 (eVar 0) aNil aNil) (aCons (eB (bLenI "SwapLog" f_SwapLog___len__) (aCons (eVar 0) aNil)) (aCons (eMeth "Base" "names" f_Base_names 1 0 g1 (eMeth "SwapLog" "base" f_SwapLog_base 1 0 g1 (eVar 0) aNil aNil) aNil aNil) aNil))))))
    (sRt (eOp oEq (eB bRepr (aCons (eVar 2) aNil)) (eB bRepr (aCons (eLst (aCons (eDix (eVar 1) (eC (.str (PySem.Str.ofString "order")))) (aCons (eDix (eVar 1) (eC (.str (PySem.Str.ofString "entries")))) (aCons (eB bLen (aCons (eDix (eVar 1) (eC (.str (PySem.Str.ofString "entries")))) aNil)) (aCons (eDix (eVar 1) (eC (.str (PySem.Str.ofString "items")))) aNil))))) aNil))))
def f__law_is : MF := fDef 3 2 m__law_is
/- _law_draw: 0 _law_rng_here, 1 _law_many, 2 _law_digit -/
def m__law_draw : MS :=
    sSeq (sIf (tBool (eOp oGt (eIx (eVar 0) (eC (.int 0))) (eC (.int 0)))) (sSeq (sAsg (eB bDivmod (aCons (eIx (eVar 0) (eC (.int 0))) (aCons (eVar 1) aNil))) (gTp 2 (gsCons (gPut (eVar 0) (eC (.int 0))) (gsCons (gNm 2) (gsNil)))))
    (sRt (eVar 2))) (sNx))
    (sSeq (sAsg (eOp oMod (eOp oAdd (eOp oMul (eIx (eVar 0) (eC (.int 1))) (eC (.int 48271))) (eC (.int 10007))) (eC (.int 2147483587))) (gPut (eVar 0) (eC (.int 1))))
    (sRt (eOp oMod (eOp oFdiv (eOp oMod (eOp oMul (eIx (eVar 0) (eC (.int 1))) (eIx (eVar 0) (eC (.int 1)))) (eC (.int 2147483549))) (eC (.int 11))) (eVar 1))))
def f__law_draw : MF := fDef 3 2 m__law_draw
/- exchange: 0 order, 1 index -/
def m_exchange : MS :=
    sRt (eOp oAdd (eOp oAdd (eSl (eVar 0) (oNoPart) (oPart (eVar 1))) (eLst (aCons (eIx (eVar 0) (eOp oAdd (eVar 1) (eC (.int 1)))) (aCons (eIx (eVar 0) (eVar 1)) aNil)))) (eSl (eVar 0) (oPart (eOp oAdd (eVar 1) (eC (.int 2)))) (oNoPart)))
def f_exchange : MF := fDef 2 2 m_exchange
/- SwapLog.entry_pairs: 0 self, 1 now, 2 pairs, 3 index, 4 reason -/
def m_SwapLog_entry_pairs : MS :=
    sSeq (sPar 1 2 (aCons (eMeth "Base" "names" f_Base_names 1 0 g1 (eFld "SwapLog" "own_base" (eVar 0)) aNil aNil) (aCons (eLst (aNil)) aNil)))
    (sSeq (sFor (iL (eFld "SwapLog" "done" (eVar 0))) (gTp 2 (gsCons (gNm 3) (gsCons (gNm 4) (gsNil)))) (sSeq (sEx (eBM "list" mAppend (eVar 2) (aCons (eTup (aCons (eIx (eVar 1) (eVar 3)) (aCons (eIx (eVar 1) (eOp oAdd (eVar 3) (eC (.int 1)))) aNil))) aNil)))
    (sSet 1 (eCall f_exchange 2 0 g1 (aCons (eVar 1) (aCons (eVar 3) aNil)) aNil))))
    (sRt (eVar 2)))
def f_SwapLog_entry_pairs : MF := fDef 5 1 m_SwapLog_entry_pairs
/- Base.has_item: 0 self, 1 value -/
def m_Base_has_item : MS :=
    sRt (eAnd (eIsi "str" (eVar 1)) (eOp oIn (eVar 1) (eFld "Base" "places" (eVar 0))))
def f_Base_has_item : MF := fDef 2 2 m_Base_has_item
/- require_item: 0 base, 1 value -/
def m_require_item : MS :=
    sIf (tNotO (tTru (eMeth "Base" "has_item" f_Base_has_item 2 0 g1 (eVar 0) (aCons (eVar 1) aNil) aNil))) (sNo) (sNx)
def f_require_item : MF := fDef 2 2 m_require_item
/- Base.position_of: 0 self, 1 item -/
def m_Base_position_of : MS :=
    sSeq (sEx (eCall f_require_item 2 0 g1 (aCons (eVar 0) (aCons (eVar 1) aNil)) aNil))
    (sRt (eDix (eFld "Base" "places" (eVar 0)) (eVar 1)))
def f_Base_position_of : MF := fDef 2 2 m_Base_position_of
/- Base.precedes: 0 self, 1 first, 2 second -/
def m_Base_precedes : MS :=
    sRt (eOp oLt (eMeth "Base" "position_of" f_Base_position_of 2 0 g1 (eVar 0) (aCons (eVar 1) aNil) aNil) (eMeth "Base" "position_of" f_Base_position_of 2 0 g1 (eVar 0) (aCons (eVar 2) aNil) aNil))
def f_Base_precedes : MF := fDef 3 3 m_Base_precedes
/- is_upright: 0 base, 1 order, 2 index -/
def m_is_upright : MS :=
    sRt (eMeth "Base" "precedes" f_Base_precedes 3 0 g1 (eVar 0) (aCons (eIx (eVar 1) (eVar 2)) (aCons (eIx (eVar 1) (eOp oAdd (eVar 2) (eC (.int 1)))) aNil)) aNil)
def f_is_upright : MF := fDef 3 3 m_is_upright
/- SwapLog.apply_swap: 0 self, 1 index, 2 reason, 3 left, 4 right, 5 is_new, 6 position -/
def m_SwapLog_apply_swap : MS :=
    sSeq (sPar 3 4 (aCons (eIx (eFld "SwapLog" "current" (eVar 0)) (eVar 1)) (aCons (eIx (eFld "SwapLog" "current" (eVar 0)) (eOp oAdd (eVar 1) (eC (.int 1)))) aNil)))
    (sSeq (sSet 5 (eCall f_is_upright 3 0 g1 (aCons (eFld "SwapLog" "own_base" (eVar 0)) (aCons (eFld "SwapLog" "current" (eVar 0)) (aCons (eVar 1) aNil))) aNil))
    (sSeq (sFld "SwapLog" "current" (eVar 0) (eCall f_exchange 2 0 g1 (aCons (eFld "SwapLog" "current" (eVar 0)) (aCons (eVar 1) aNil)) aNil))
    (sSeq (sIf (tTru (eVar 5)) (sSeq (sEx (eBM "list" mAppend (eFld "SwapLog" "done" (eVar 0)) (aCons (eTup (aCons (eVar 1) (aCons (eVar 2) aNil))) aNil)))
    (sRt (eC .non))) (sNx))
    (sSeq (sSet 6 (eBM "list" mIndex (eMeth "SwapLog" "entry_pairs" f_SwapLog_entry_pairs 1 0 g1 (eVar 0) aNil aNil) (aCons (eTup (aCons (eVar 4) (aCons (eVar 3) aNil))) aNil)))
    (sSeq (sDel (eFld "SwapLog" "done" (eVar 0)) (eVar 6))
    (sRt (eVar 6)))))))
def f_SwapLog_apply_swap : MF := fDef 7 3 m_SwapLog_apply_swap
/- is_name: 0 value, 1 sign -/
def m_is_name : MS :=
    sSeq (sIf (tOrO (tNotO (tTru (eIsi "str" (eVar 0)))) (tNotO (tBool (eChain oLe oLe (eC (.int 1)) (eB bLen (aCons (eVar 0) aNil)) (eC (.int 8)))))) (sRt (eC (.bl false))) (sNx))
    (sRt (eB bAll (aCons (eLc (iL (eVar 0)) (.nm 1) [1] (tYesO) (eOp oIn (eVar 1) (eC (.str (PySem.Str.ofString "abcdefghijklmnopqrstuvwxyz"))))) aNil)))
def f_is_name : MF := fDef 2 1 m_is_name
/- require_reason: 0 value -/
def m_require_reason : MS :=
    sIf (tAndO (tNotO (tTru (eCall f_is_name 1 0 g1 (aCons (eVar 0) aNil) aNil))) (tNotO (tAndO (tTru (eIsi "str" (eVar 0))) (tBool (eOp oEq (eVar 0) (eC (.str (PySem.Str.ofString "")))))))) (sNo) (sNx)
def f_require_reason : MF := fDef 1 1 m_require_reason
/- is_integer: 0 value -/
def m_is_integer : MS :=
    sRt (eAnd (eIsi "int" (eVar 0)) (eNot (eIsi "bool" (eVar 0))))
def f_is_integer : MF := fDef 1 1 m_is_integer
/- Base.__len__: 0 self -/
def m_Base___len__ : MS :=
    sRt (eB bLen (aCons (eFld "Base" "item_list" (eVar 0)) aNil))
def f_Base___len__ : MF := fDef 1 1 m_Base___len__
/- require_index: 0 base, 1 index -/
def m_require_index : MS :=
    sIf (tOrO (tNotO (tTru (eCall f_is_integer 1 0 g1 (aCons (eVar 1) aNil) aNil))) (tNotO (tBool (eChain oLe oLt (eC (.int 0)) (eVar 1) (eOp oSub (eB (bLenI "Base" f_Base___len__) (aCons (eVar 0) aNil)) (eC (.int 1))))))) (sNo) (sNx)
def f_require_index : MF := fDef 2 2 m_require_index
/- SwapLog.swap: 0 self, 1 index, 2 reason -/
def m_SwapLog_swap : MS :=
    sSeq (sEx (eCall f_require_index 2 0 g1 (aCons (eFld "SwapLog" "own_base" (eVar 0)) (aCons (eVar 1) aNil)) aNil))
    (sSeq (sEx (eCall f_require_reason 1 0 g1 (aCons (eVar 2) aNil) aNil))
    (sRt (eMeth "SwapLog" "apply_swap" f_SwapLog_apply_swap 3 0 g1 (eVar 0) (aCons (eVar 1) (aCons (eVar 2) aNil)) aNil)))
def f_SwapLog_swap : MF := fDef 3 3 m_SwapLog_swap
/- _law_swapped_entries: 0 _law_items, 1 _law_entries, 2 _law_order, 3 _law_index, 4 _law_label_here, 5 _law_first, 6 _law_second, 7 _law_now, 8 _law_position, 9 _law_entry, 10 _law_at -/
def m__law_swapped_entries : MS :=
    sSeq (sPar 5 6 (aCons (eIx (eVar 2) (eVar 3)) (aCons (eIx (eVar 2) (eOp oAdd (eVar 3) (eC (.int 1)))) aNil)))
    (sSeq (sIf (tBool (eOp oLt (eBM "list" mIndex (eVar 0) (aCons (eVar 5) aNil)) (eBM "list" mIndex (eVar 0) (aCons (eVar 6) aNil)))) (sRt (eTup (aCons (eOp oAdd (eVar 1) (eLst (aCons (eTup (aCons (eVar 3) (aCons (eVar 4) aNil))) aNil))) (aCons (eC .non) aNil)))) (sNx))
    (sSeq (sSet 7 (eB bList (aCons (eVar 0) aNil)))
    (sSeq (sFor (iE (aCons (eVar 1) aNil)) (gTp 2 (gsCons (gNm 8) (gsCons (gNm 9) (gsNil)))) (sSeq (sSet 10 (eIx (eVar 9) (eC (.int 0))))
    (sSeq (sIf (tBool (eOp oEq (eTup (aCons (eIx (eVar 7) (eVar 10)) (aCons (eIx (eVar 7) (eOp oAdd (eVar 10) (eC (.int 1)))) aNil))) (eTup (aCons (eVar 6) (aCons (eVar 5) aNil))))) (sRt (eTup (aCons (eOp oAdd (eSl (eVar 1) (oNoPart) (oPart (eVar 8))) (eSl (eVar 1) (oPart (eOp oAdd (eVar 8) (eC (.int 1)))) (oNoPart))) (aCons (eVar 8) aNil)))) (sNx))
    (sAsg (eTup (aCons (eIx (eVar 7) (eOp oAdd (eVar 10) (eC (.int 1)))) (aCons (eIx (eVar 7) (eVar 10)) aNil))) (gTp 2 (gsCons (gPut (eVar 7) (eVar 10)) (gsCons (gPut (eVar 7) (eOp oAdd (eVar 10) (eC (.int 1)))) (gsNil))))))))
    (sRt (eTup (aCons (eVar 1) (aCons (eC .non) aNil)))))))
def f__law_swapped_entries : MF := fDef 11 5 m__law_swapped_entries
/- _law_swap_done: 0 _law_state, 1 _law_at, 2 _law_label_here, 3 _law_items, 4 _law_order, 5 _law_entries, 6 _law_cancelled -/
def m__law_swap_done : MS :=
    sSeq (sPar 3 4 (aCons (eDix (eVar 0) (eC (.str (PySem.Str.ofString "items")))) (aCons (eDix (eVar 0) (eC (.str (PySem.Str.ofString "order")))) aNil)))
    (sSeq (sAsg (eCall f__law_swapped_entries 5 0 g1 (aCons (eVar 3) (aCons (eDix (eVar 0) (eC (.str (PySem.Str.ofString "entries")))) (aCons (eVar 4) (aCons (eVar 1) (aCons (eVar 2) aNil))))) aNil) (gTp 2 (gsCons (gNm 5) (gsCons (gNm 6) (gsNil)))))
    (sSeq (sAsg (eVar 5) (gPut (eVar 0) (eC (.str (PySem.Str.ofString "entries")))))
    (sSeq (sAsg (eOp oAdd (eOp oAdd (eSl (eVar 4) (oNoPart) (oPart (eVar 1))) (eLst (aCons (eIx (eVar 4) (eOp oAdd (eVar 1) (eC (.int 1)))) (aCons (eIx (eVar 4) (eVar 1)) aNil)))) (eSl (eVar 4) (oPart (eOp oAdd (eVar 1) (eC (.int 2)))) (oNoPart))) (gPut (eVar 0) (eC (.str (PySem.Str.ofString "order")))))
    (sRt (eVar 6)))))
def f__law_swap_done : MF := fDef 7 3 m__law_swap_done
/- _law_choice: 0 _law_rng_here, 1 _law_options -/
def m__law_choice : MS :=
    sRt (eIx (eVar 1) (eCall f__law_draw 2 0 g1 (aCons (eVar 0) (aCons (eB bLen (aCons (eVar 1) aNil)) aNil)) aNil))
def f__law_choice : MF := fDef 2 2 m__law_choice
/- _law_name: 0 _law_rng_here, 1 _law_used, 2 _law_letters, 3 _law_length, 4 _law_name_here, 5 _law_k, 6 _law_fresh, 7 _law_one -/
def m__law_name : MS :=
    sSeq (sSet 2 (eC (.str (PySem.Str.ofString "abcdefghijklmnopqrstuvwxyz"))))
    (sSeq (sSet 3 (eIx (eLst (aCons (eC (.int 1)) (aCons (eC (.int 1)) (aCons (eC (.int 2)) (aCons (eOp oAdd (eC (.int 1)) (eCall f__law_draw 2 0 g1 (aCons (eVar 0) (aCons (eC (.int 8)) aNil)) aNil)) aNil))))) (eCall f__law_draw 2 0 g1 (aCons (eVar 0) (aCons (eC (.int 4)) aNil)) aNil)))
    (sSeq (sSet 4 (eBM "str" mJoin (eC (.str (PySem.Str.ofString ""))) (aCons (eLc (iR1 (aCons (eVar 3) aNil)) (.nm 5) [5] (tYesO) (eIx (eVar 2) (eCall f__law_draw 2 0 g1 (aCons (eVar 0) (aCons (eC (.int 26)) aNil)) aNil))) aNil)))
    (sSeq (sIf (tBool (eOp oEq (eCall f__law_draw 2 0 g1 (aCons (eVar 0) (aCons (eC (.int 8)) aNil)) aNil) (eC (.int 0)))) (sSet 4 (eIx (eLst (aCons (eC (.str (PySem.Str.ofString "swap"))) (aCons (eC (.str (PySem.Str.ofString "move"))) (aCons (eC (.str (PySem.Str.ofString "base"))) (aCons (eC (.str (PySem.Str.ofString "users"))) (aCons (eC (.str (PySem.Str.ofString "merged"))) (aCons (eC (.str (PySem.Str.ofString "log"))) (aCons (eC (.str (PySem.Str.ofString "ok"))) (aCons (eC (.str (PySem.Str.ofString "undo"))) aNil))))))))) (eCall f__law_draw 2 0 g1 (aCons (eVar 0) (aCons (eC (.int 8)) aNil)) aNil))) (sNx))
    (sSeq (sSet 6 (eOp oAdd (eLst (aCons (eVar 4) aNil)) (eLc (iR1 (aCons (eC (.int 676)) aNil)) (.nm 5) [5] (tYesO) (eOp oAdd (eOp oAdd (eSl (eVar 4) (oNoPart) (oPart (eC (.int 6)))) (eIx (eVar 2) (eOp oFdiv (eVar 5) (eC (.int 26))))) (eIx (eVar 2) (eOp oMod (eVar 5) (eC (.int 26))))))))
    (sRt (eIx (eLc (iL (eVar 6)) (.nm 7) [7] (tBool (eOp oNotIn (eVar 7) (eVar 1))) (eVar 7)) (eC (.int 0))))))))
def f__law_name : MF := fDef 8 2 m__law_name
/- _law_label: 0 _law_rng_here -/
def m__law_label : MS :=
    sRt (eCall f__law_choice 2 0 g1 (aCons (eVar 0) (aCons (eLst (aCons (eC (.str (PySem.Str.ofString ""))) (aCons (eC (.str (PySem.Str.ofString ""))) (aCons (eC (.str (PySem.Str.ofString "x"))) (aCons (eC (.str (PySem.Str.ofString "urgent"))) (aCons (eCall f__law_name 2 0 g1 (aCons (eVar 0) (aCons (eLst (aNil)) aNil)) aNil) aNil)))))) aNil)) aNil)
def f__law_label : MF := fDef 1 1 m__law_label
/- _law_swapped: 0 _law_rng_here, 1 _law_log, 2 _law_state, 3 _law_at, 4 _law_label_here, 5 _law_due, 6 _law_result -/
def m__law_swapped : MS :=
    sSeq (sPar 3 4 (aCons (eCall f__law_draw 2 0 g1 (aCons (eVar 0) (aCons (eOp oSub (eB bLen (aCons (eDix (eVar 2) (eC (.str (PySem.Str.ofString "order")))) aNil)) (eC (.int 1))) aNil)) aNil) (aCons (eCall f__law_label 1 0 g1 (aCons (eVar 0) aNil) aNil) aNil)))
    (sSeq (sSet 5 (eCall f__law_swap_done 3 0 g1 (aCons (eVar 2) (aCons (eVar 3) (aCons (eVar 4) aNil))) aNil))
    (sSeq (sSet 6 (eIf (tAndO (tBool (eOp oEq (eVar 4) (eC (.str (PySem.Str.ofString ""))))) (tBool (eOp oEq (eCall f__law_draw 2 0 g1 (aCons (eVar 0) (aCons (eC (.int 2)) aNil)) aNil) (eC (.int 0))))) (eMeth "SwapLog" "swap" f_SwapLog_swap 2 0 (gDef [.str (PySem.Str.ofString "")]) (eVar 1) (aCons (eVar 3) aNil) aNil) (eMeth "SwapLog" "swap" f_SwapLog_swap 2 1 gApp (eVar 1) (aCons (eVar 3) aNil) (aCons (eVar 4) aNil))))
    (sRt (eOp oEq (eB bRepr (aCons (eVar 6) aNil)) (eB bRepr (aCons (eVar 5) aNil))))))
def f__law_swapped : MF := fDef 7 3 m__law_swapped
/- _law_inverted: 0 _law_items, 1 _law_order, 2 _law_place, 3 _law_k, 4 _law_item, 5 _law_result, 6 _law_first, 7 _law_second -/
def m__law_inverted : MS :=
    sSeq (sSet 2 (eB bDict (aCons (eLc (iE (aCons (eVar 1) aNil)) (.tp [.nm 3, .nm 4]) [3, 4] (tYesO) (eTup (aCons (eVar 4) (aCons (eVar 3) aNil)))) aNil)))
    (sSeq (sSet 5 (eLst (aNil)))
    (sSeq (sFor (iE (aCons (eVar 0) aNil)) (gTp 2 (gsCons (gNm 3) (gsCons (gNm 6) (gsNil)))) (sSet 5 (eOp oAdd (eVar 5) (eLc (iL (eSl (eVar 0) (oPart (eOp oAdd (eVar 3) (eC (.int 1)))) (oNoPart))) (.nm 7) [7] (tBool (eOp oLt (eDix (eVar 2) (eVar 7)) (eDix (eVar 2) (eVar 6)))) (eTup (aCons (eVar 6) (aCons (eVar 7) aNil)))))))
    (sRt (eVar 5))))
def f__law_inverted : MF := fDef 8 2 m__law_inverted
/- SwapLog.__init__: 0 self, 1 base -/
def m_SwapLog___init__ : MS :=
    sSeq (sFld "SwapLog" "own_base" (eVar 0) (eVar 1))
    (sSeq (sFld "SwapLog" "current" (eVar 0) (eMeth "Base" "names" f_Base_names 1 0 g1 (eVar 1) aNil aNil))
    (sFld "SwapLog" "done" (eVar 0) (eLst (aNil))))
def f_SwapLog___init__ : MF := fDef 2 2 m_SwapLog___init__
/- SwapLog.require_position: 0 self, 1 position -/
def m_SwapLog_require_position : MS :=
    sIf (tOrO (tNotO (tTru (eCall f_is_integer 1 0 g1 (aCons (eVar 1) aNil) aNil))) (tNotO (tBool (eChain oLe oLt (eC (.int 0)) (eVar 1) (eB bLen (aCons (eFld "SwapLog" "done" (eVar 0)) aNil)))))) (sNo) (sNx)
def f_SwapLog_require_position : MF := fDef 2 2 m_SwapLog_require_position
/- SwapLog.remove_entry: 0 self, 1 position, 2 fresh, 3 kept, 4 place, 5 index, 6 reason, 7 cancelled, 8 gone -/
def m_SwapLog_remove_entry : MS :=
    sSeq (sEx (eMeth "SwapLog" "require_position" f_SwapLog_require_position 2 0 g1 (eVar 0) (aCons (eVar 1) aNil) aNil))
    (sSeq (sAsg (eTup (aCons (eMake "SwapLog" f_SwapLog___init__ 2 0 g1 (aCons (eFld "SwapLog" "own_base" (eVar 0)) aNil) aNil) (aCons (eLst (aNil)) aNil))) (gTp 2 (gsCons (gNm 2) (gsCons (gNm 3) (gsNil)))))
    (sSeq (sFor (iE (aCons (eFld "SwapLog" "done" (eVar 0)) aNil)) (gTp 2 (gsCons (gNm 4) (gsCons (gTp 2 (gsCons (gNm 5) (gsCons (gNm 6) (gsNil)))) (gsNil)))) (sIf (tBool (eOp oNe (eVar 4) (eVar 1))) (sSeq (sSet 7 (eMeth "SwapLog" "apply_swap" f_SwapLog_apply_swap 3 0 g1 (eVar 2) (aCons (eVar 5) (aCons (eVar 6) aNil)) aNil))
    (sIf (tBool (eOp oIsN (eVar 7) (eC .non))) (sEx (eBM "list" mAppend (eVar 3) (aCons (eVar 4) aNil))) (sDel (eVar 3) (eVar 7)))) (sNx)))
    (sSeq (sSet 8 (eLc (iR1 (aCons (eB bLen (aCons (eFld "SwapLog" "done" (eVar 0)) aNil)) aNil)) (.nm 4) [4] (tBool (eOp oNotIn (eVar 4) (eVar 3))) (eVar 4)))
    (sSeq (sAsg (eTup (aCons (eFld "SwapLog" "current" (eVar 2)) (aCons (eFld "SwapLog" "done" (eVar 2)) aNil))) (gTp 2 (gsCons (gFld "SwapLog" "current" (eVar 0)) (gsCons (gFld "SwapLog" "done" (eVar 0)) (gsNil)))))
    (sRt (eVar 8))))))
def f_SwapLog_remove_entry : MF := fDef 9 2 m_SwapLog_remove_entry
/- SwapLog.clone: 0 self, 1 copy -/
def m_SwapLog_clone : MS :=
    sSeq (sSet 1 (eMake "SwapLog" f_SwapLog___init__ 2 0 g1 (aCons (eFld "SwapLog" "own_base" (eVar 0)) aNil) aNil))
    (sSeq (sAsg (eTup (aCons (eB bList (aCons (eFld "SwapLog" "current" (eVar 0)) aNil)) (aCons (eB bList (aCons (eFld "SwapLog" "done" (eVar 0)) aNil)) aNil))) (gTp 2 (gsCons (gFld "SwapLog" "current" (eVar 1)) (gsCons (gFld "SwapLog" "done" (eVar 1)) (gsNil)))))
    (sRt (eVar 1)))
def f_SwapLog_clone : MF := fDef 2 1 m_SwapLog_clone
/- _law_begun: 0 _law_items -/
def m__law_begun : MS :=
    sRt (eDisp [((eC (.str (PySem.Str.ofString "items"))), (eVar 0)), ((eC (.str (PySem.Str.ofString "order"))), (eB bList (aCons (eVar 0) aNil))), ((eC (.str (PySem.Str.ofString "entries"))), (eLst (aNil)))])
def f__law_begun : MF := fDef 1 1 m__law_begun
/- _law_replayed: 0 _law_items, 1 _law_entries, 2 _law_without, 3 _law_fresh, 4 _law_kept, 5 _law_k, 6 _law_at, 7 _law_label_here, 8 _law_cancelled -/
def m__law_replayed : MS :=
    sSeq (sAsg (eTup (aCons (eCall f__law_begun 1 0 g1 (aCons (eVar 0) aNil) aNil) (aCons (eLst (aNil)) aNil))) (gTp 2 (gsCons (gNm 3) (gsCons (gNm 4) (gsNil)))))
    (sSeq (sFor (iE (aCons (eVar 1) aNil)) (gTp 2 (gsCons (gNm 5) (gsCons (gTp 2 (gsCons (gNm 6) (gsCons (gNm 7) (gsNil)))) (gsNil)))) (sIf (tBool (eOp oNe (eVar 5) (eVar 2))) (sSeq (sSet 8 (eCall f__law_swap_done 3 0 g1 (aCons (eVar 3) (aCons (eVar 6) (aCons (eVar 7) aNil))) aNil))
    (sIf (tBool (eOp oIsN (eVar 8) (eC .non))) (sEx (eBM "list" mAppend (eVar 4) (aCons (eVar 5) aNil))) (sSet 4 (eOp oAdd (eSl (eVar 4) (oNoPart) (oPart (eVar 8))) (eSl (eVar 4) (oPart (eOp oAdd (eVar 8) (eC (.int 1)))) (oNoPart)))))) (sNx)))
    (sRt (eTup (aCons (eVar 3) (aCons (eLc (iR1 (aCons (eB bLen (aCons (eVar 1) aNil)) aNil)) (.nm 5) [5] (tBool (eOp oNotIn (eVar 5) (eVar 4))) (eVar 5)) aNil)))))
def f__law_replayed : MF := fDef 9 3 m__law_replayed
/- _law_removed: 0 _law_rng_here, 1 _law_log, 2 _law_state, 3 _law_many, 4 _law_place, 5 _law_fresh, 6 _law_gone, 7 _law_copy, 8 _law_shown, 9 _law_result -/
def m__law_removed : MS :=
    sSeq (sSet 3 (eB bLen (aCons (eDix (eVar 2) (eC (.str (PySem.Str.ofString "entries")))) aNil)))
    (sSeq (sIf (tBool (eOp oEq (eVar 3) (eC (.int 0)))) (sRt (eC (.bl true))) (sNx))
    (sSeq (sSet 4 (eCall f__law_choice 2 0 g1 (aCons (eVar 0) (aCons (eLst (aCons (eC (.int 0)) (aCons (eOp oSub (eVar 3) (eC (.int 1))) (aCons (eCall f__law_draw 2 0 g1 (aCons (eVar 0) (aCons (eVar 3) aNil)) aNil) aNil)))) aNil)) aNil))
    (sSeq (sAsg (eCall f__law_replayed 3 0 g1 (aCons (eDix (eVar 2) (eC (.str (PySem.Str.ofString "items")))) (aCons (eDix (eVar 2) (eC (.str (PySem.Str.ofString "entries")))) (aCons (eVar 4) aNil))) aNil) (gTp 2 (gsCons (gNm 5) (gsCons (gNm 6) (gsNil)))))
    (sSeq (sPar 7 8 (aCons (eMeth "SwapLog" "clone" f_SwapLog_clone 1 0 g1 (eVar 1) aNil aNil) (aCons (eB bRepr (aCons (eLst (aCons (eMeth "SwapLog" "order" f_SwapLog_order 1 0 g1 (eVar 1) aNil aNil) (aCons (eMeth "SwapLog" "entries" f_SwapLog_entries 1 0 g1 (eVar 1) aNil aNil) aNil))) aNil)) aNil)))
    (sSeq (sSet 9 (eMeth "SwapLog" "remove_entry" f_SwapLog_remove_entry 2 0 g1 (eVar 1) (aCons (eVar 4) aNil) aNil))
    (sSeq (sIf (tOrO (tBool (eOp oNe (eB bRepr (aCons (eVar 9) aNil)) (eB bRepr (aCons (eVar 6) aNil)))) (tBool (eOp oNe (eB bRepr (aCons (eLst (aCons (eMeth "SwapLog" "order" f_SwapLog_order 1 0 g1 (eVar 7) aNil aNil) (aCons (eMeth "SwapLog" "entries" f_SwapLog_entries 1 0 g1 (eVar 7) aNil aNil) aNil))) aNil)) (eVar 8)))) (sRt (eC (.bl false))) (sNx))
    (sSeq (sEx (eBM "list" mAppend (eVar 9) (aCons (eC .non) aNil)))
    (sSeq (sAsg (eTup (aCons (eDix (eVar 5) (eC (.str (PySem.Str.ofString "order")))) (aCons (eDix (eVar 5) (eC (.str (PySem.Str.ofString "entries")))) aNil))) (gTp 2 (gsCons (gPut (eVar 2) (eC (.str (PySem.Str.ofString "order")))) (gsCons (gPut (eVar 2) (eC (.str (PySem.Str.ofString "entries")))) (gsNil)))))
    (sSeq (sIf (tBool (eOp oNe (eB bLen (aCons (eCall f__law_inverted 2 0 g1 (aCons (eDix (eVar 2) (eC (.str (PySem.Str.ofString "items")))) (aCons (eMeth "SwapLog" "order" f_SwapLog_order 1 0 g1 (eVar 1) aNil aNil) aNil)) aNil) aNil)) (eB (bLenI "SwapLog" f_SwapLog___len__) (aCons (eVar 1) aNil)))) (sRt (eC (.bl false))) (sNx))
    (sRt (eCall f__law_is 2 0 g1 (aCons (eVar 1) (aCons (eVar 2) aNil)) aNil)))))))))))
def f__law_removed : MF := fDef 10 3 m__law_removed
/- check_items: 0 items, 1 known, 2 position, 3 item -/
def m_check_items : MS :=
    sSeq (sIf (tNotO (tTru (eIsi "list" (eVar 0)))) (sNo) (sNx))
    (sSeq (sSet 1 (eDK))
    (sSeq (sFor (iE (aCons (eVar 0) aNil)) (gTp 2 (gsCons (gNm 2) (gsCons (gNm 3) (gsNil)))) (sSeq (sIf (tNotO (tTru (eCall f_is_name 1 0 g1 (aCons (eVar 3) aNil) aNil))) (sNo) (sNx))
    (sSeq (sIf (tBool (eOp oIn (eVar 3) (eVar 1))) (sNo) (sNx))
    (sAsg (eC (.bl true)) (gPut (eVar 1) (eVar 3))))))
    (sIf (tNotO (tBool (eChain oLe oLe (eC (.int 1)) (eB bLen (aCons (eVar 0) aNil)) (eC (.int 40))))) (sNo) (sNx))))
def f_check_items : MF := fDef 4 1 m_check_items
/- Base.__init__: 0 self, 1 items, 2 position, 3 item -/
def m_Base___init__ : MS :=
    sSeq (sEx (eCall f_check_items 1 0 g1 (aCons (eVar 1) aNil) aNil))
    (sSeq (sFld "Base" "item_list" (eVar 0) (eB bList (aCons (eVar 1) aNil)))
    (sFld "Base" "places" (eVar 0) (eDc (iE (aCons (eVar 1) aNil)) (.tp [.nm 2, .nm 3]) [2, 3] (tYesO) (eVar 3) (eVar 2))))
def f_Base___init__ : MF := fDef 4 2 m_Base___init__
/- _law_names: 0 _law_rng_here, 1 _law_many, 2 _law_used, 3 _law_result, 4 _law_k -/
def m__law_names : MS :=
    sSeq (sSet 3 (eLst (aNil)))
    (sSeq (sFor (iR1 (aCons (eVar 1) aNil)) (gNm 4) (sEx (eBM "list" mAppend (eVar 3) (aCons (eCall f__law_name 2 0 g1 (aCons (eVar 0) (aCons (eOp oAdd (eVar 2) (eVar 3)) aNil)) aNil) aNil))))
    (sRt (eVar 3)))
def f__law_names : MF := fDef 5 3 m__law_names
/- _law_right: 0 _law_rng_here, 1 _law_items, 2 _law_log, 3 _law_state, 4 _law_turn, 5 _law_time -/
def m__law_right : MS :=
    sSeq (sSet 1 (eCall f__law_names 3 0 g1 (aCons (eVar 0) (aCons (eIx (eLst (aCons (eOp oAdd (eC (.int 2)) (eCall f__law_draw 2 0 g1 (aCons (eVar 0) (aCons (eC (.int 6)) aNil)) aNil)) (aCons (eC (.int 12)) aNil))) (eOp oFdiv (eCall f__law_draw 2 0 g1 (aCons (eVar 0) (aCons (eC (.int 4)) aNil)) aNil) (eC (.int 3)))) (aCons (eLst (aNil)) aNil))) aNil))
    (sSeq (sPar 2 3 (aCons (eMake "SwapLog" f_SwapLog___init__ 2 0 g1 (aCons (eMake "Base" f_Base___init__ 2 0 g1 (aCons (eVar 1) aNil) aNil) aNil) aNil) (aCons (eCall f__law_begun 1 0 g1 (aCons (eVar 1) aNil) aNil) aNil)))
    (sSeq (sFor (iR1 (aCons (eCall f__law_draw 2 0 g1 (aCons (eVar 0) (aCons (eC (.int 31)) aNil)) aNil) aNil)) (gNm 4) (sIf (tNotO (tTru (eCall f__law_swapped 3 0 g1 (aCons (eVar 0) (aCons (eVar 2) (aCons (eVar 3) aNil))) aNil))) (sRt (eC (.bl false))) (sNx)))
    (sSeq (sFor (iR1 (aCons (eCall f__law_draw 2 0 g1 (aCons (eVar 0) (aCons (eC (.int 13)) aNil)) aNil) aNil)) (gNm 4) (sSeq (sIf (tOrO (tNotO (tTru (eCall f__law_is 2 0 g1 (aCons (eVar 2) (aCons (eVar 3) aNil)) aNil))) (tNotO (tTru (eCall f__law_removed 3 0 g1 (aCons (eVar 0) (aCons (eVar 2) (aCons (eVar 3) aNil))) aNil)))) (sRt (eC (.bl false))) (sNx))
    (sFor (iR1 (aCons (eCall f__law_draw 2 0 g1 (aCons (eVar 0) (aCons (eC (.int 4)) aNil)) aNil) aNil)) (gNm 5) (sIf (tNotO (tTru (eCall f__law_swapped 3 0 g1 (aCons (eVar 0) (aCons (eVar 2) (aCons (eVar 3) aNil))) aNil))) (sRt (eC (.bl false))) (sNx)))))
    (sRt (eCall f__law_is 2 0 g1 (aCons (eVar 2) (aCons (eVar 3) aNil)) aNil)))))
def f__law_right : MF := fDef 6 1 m__law_right
/- _law_rng: 0 _law_script, 1 _law_k, 2 _law_cell -/
def m__law_rng : MS :=
    sSeq (sSet 2 (eIf (tBool (eOp oLt (eVar 1) (eB bLen (aCons (eVar 0) aNil)))) (eB bAbs (aCons (eIx (eVar 0) (eVar 1)) aNil)) (eC (.int 0))))
    (sRt (eLst (aCons (eB bMax (aCons (eC (.int 0)) (aCons (eOp oSub (eVar 2) (eOp oPow (eC (.int 10)) (eC (.int 18)))) aNil))) (aCons (eOp oAdd (eOp oMod (eOp oPow (eOp oAdd (eOp oAdd (eOp oMod (eVar 2) (eC (.int 2147483543))) (eOp oMul (eC (.int 101)) (eVar 1))) (eC (.int 7))) (eC (.int 2))) (eC (.int 2147483497))) (eC (.int 1))) aNil))))
def f__law_rng : MF := fDef 3 2 m__law_rng
/- law: 0 _law_script, 1 _law_k -/
def m_law : MS :=
    sRt (eB bAll (aCons (eLc (iR1 (aCons (eB bMax (aCons (eC (.int 1)) (aCons (eB bMin (aCons (eB bLen (aCons (eVar 0) aNil)) (aCons (eC (.int 3)) aNil))) aNil))) aNil)) (.nm 1) [1] (tYesO) (eCall f__law_right 1 0 g1 (aCons (eCall f__law_rng 2 0 g1 (aCons (eVar 0) (aCons (eVar 1) aNil)) aNil) aNil) aNil)) aNil))
def f_law : MF := fDef 2 1 m_law
end Lw

set_option maxHeartbeats 4000000
namespace O
open PySem L2 PyProof.Rows
def Ok {α : Type} (r : Option (α × OH)) (Q : α → OH → Prop) : Prop := match r with
  | none => False
  | some (a, h) => Q a h
section
variable {α β : Type}
theorem Ok.mono {r : Option (α × OH)} {Q R : α → OH → Prop} (h : Ok r Q) (c : ∀ a h, Q a h → R a h) : Ok r R := by
  cases r with
  | none => exact h
  | some z => exact c _ _ h
theorem ok_some {a : α} {h : OH} {Q : α → OH → Prop} : Ok (some (a, h)) Q = Q a h := rfl
theorem ok_bnd {r : Option (α × OH)} {f : α → OH → Option (β × OH)} {Q : β → OH → Prop} : Ok (bnd r f) Q = Ok r fun a h => Ok (f a h) Q := by
  cases r <;> rfl
theorem ok_bind {γ : Type} {r : Option γ} {f : γ → Option (β × OH)} {Q : β → OH → Prop} {g : γ} (h : r = some g) (q : Ok (f g) Q) : Ok (r.bind f) Q := by
  subst h; exact q
theorem ok_map {γ : Type} {r : Option γ} {f : γ → β × OH} {Q : β → OH → Prop} {g : γ} (h : r = some g) (q : Q (f g).1 (f g).2) : Ok (r.map f) Q := by
  subst h; exact q
theorem Ok.ex {r : Option (α × OH)} {Q : α → OH → Prop} (h : Ok r Q) : ∃ a h', r = some (a, h') ∧ Q a h' := by
  cases r with
  | none => exact h.elim
  | some z => exact ⟨z.1, z.2, rfl, h⟩
theorem bnd_some {a : α} {h : OH} {f : α → OH → Option (β × OH)} : bnd (some (a, h)) f = f a h := rfl
end
section
variable {s : OSt} {h : OH} {a b c : ME} {as : MA} {v x y : OV}
theorem x_var {i : Nat} : eVar i s h = match s[i]? with
  | some (some v) => some (v, h)
  | _ => none := rfl
theorem x_c : eC v s h = some (v, h) := rfl
theorem x_op {g : MO} : eOp g a b s h = bnd (a s h) fun x h1 => bnd (b s h1) fun y h2 => g x y h2 := rfl
theorem x_nil : aNil s h = some ([], h) := rfl
theorem x_cons : aCons a as s h = bnd (a s h) fun x h1 => bnd (as s h1) fun xs h2 => some (x :: xs, h2) := rfl
theorem x_b {g : MF} : eB g as s h = bnd (as s h) fun xs h1 => g xs h1 := rfl
theorem x_call {m : MF} {n l : Nat} {ks : MA} : eCall m n l g1 as ks s h = bnd (as s h) fun xs h1 => bnd (ks s h1) fun zs h2 => if xs.length = n ∧ zs.length = l then m xs h2 else none := rfl
theorem x_ix : eIx a b s h = bnd (a s h) fun x h1 => bnd (b s h1) fun y h2 => (oIx x y h2).map fun v => (v, h2) := rfl
theorem x_seq {p q : MS} : sSeq p q s h = bnd (p s h) fun f h1 => match f with
  | .nx s1 => q s1 h1
  | .rt v => some (.rt v, h1)
  | .bk s1 => some (.bk s1, h1)
  | .ct s1 => some (.ct s1, h1) := rfl
theorem x_if {t : MT} {p q : MS} : sIf t p q s h = bnd (t s h) fun t h1 => if t = true then p s h1 else q s h1 := rfl
theorem x_set {i : Nat} : sSet i a s h = bnd (a s h) fun v h1 => some (.nx (s.set i (some v)), h1) := rfl
theorem x_rt : sRt a s h = bnd (a s h) fun v h1 => some (.rt v, h1) := rfl
theorem x_ex : sEx a s h = bnd (a s h) fun _ h1 => some (.nx s, h1) := rfl
theorem x_nx : sNx s h = some (.nx s, h) := rfl
theorem x_asg {g : MG} : sAsg a g s h = bnd (a s h) fun v h1 => bnd (g v s h1) fun s1 h2 => some (.nx s1, h2) := rfl
theorem x_bool {h : OH} : tBool a s h = bnd (a s h) fun v h1 => match v with
  | .bl b => some (b, h1)
  | _ => none := rfl
theorem x_gnm {i : Nat} : gNm i v s h = some (s.set i (some v), h) := rfl
theorem x_gsnil : gsNil [] s h = some (s, h) := rfl
theorem x_gscons {g : MG} {gs : MGs} {r : List OV} : gsCons g gs (v :: r) s h = bnd (g v s h) fun s1 h1 => gs r s1 h1 := rfl
theorem x_gtp {n : Nat} {gs : MGs} {xs : List OV} : gTp n gs (.tup xs) s h = if xs.length = n then gs xs s h else none := rfl
theorem x_gput : gPut a b v s h = bnd (a s h) fun x h1 => bnd (b s h1) fun y h2 => (oPut x y v h2).map fun h3 => (s, h3) := rfl
theorem x_tor {p q : MT} : tOrO p q s h = bnd (p s h) fun c h1 => if c = true then some (true, h1) else q s h1 := rfl
theorem x_tand {p q : MT} : tAndO p q s h = bnd (p s h) fun c h1 => if c = true then q s h1 else some (false, h1) := rfl
theorem x_tnot {p : MT} : tNotO p s h = bnd (p s h) fun b h1 => some (!b, h1) := rfl
theorem x_ttru : tTru a s h = bnd (a s h) fun v h1 => (oTru h1 v).map fun b => (b, h1) := rfl
theorem x_and : eAnd a b s h = bnd (a s h) fun v h1 => (oTru h1 v).bind fun c => if c = true then b s h1 else some (v, h1) := rfl
theorem x_or : eOr a b s h = bnd (a s h) fun v h1 => (oTru h1 v).bind fun c => if c = true then some (v, h1) else b s h1 := rfl
theorem x_not : eNot a s h = bnd (a s h) fun v h1 => (oTru h1 v).map fun c => (.bl (!c), h1) := rfl
theorem x_ife {t : MT} : eIf t a b s h = bnd (t s h) fun k h1 => if k = true then a s h1 else b s h1 := rfl
theorem x_lst : eLst as s h = bnd (as s h) fun xs h1 => if xs.length ≤ sizeLine then some (.ref h1.length, h1 ++ [.lst xs]) else none := rfl
theorem x_tup : eTup as s h = bnd (as s h) fun xs h1 => if xs.length ≤ sizeLine then some (.tup xs, h1) else none := rfl
theorem x_dK : eDK s h = some (.ref h.length, h ++ [.dK []]) := rfl
theorem x_fld {C f : Str} : eFld C f a s h = bnd (a s h) fun x h1 => match x with
  | .ref r => match h1[r]? with
    | some (.ins D fs) => if D = C then (fs.lookup f).map fun v => (v, h1) else none
    | _ => none
  | _ => none := by
  unfold eFld
  congr
theorem x_dix : eDix a b s h = bnd (a s h) fun x h1 => bnd (b s h1) fun y h2 => match x with
  | .ref c => match dGet h2 c y with
    | some (some v) => some (v, h2)
    | _ => none
  | _ => none := rfl
theorem x_part : oPart a s h = bnd (a s h) fun x h1 => match x with
  | .int i => some (some i, h1)
  | _ => none := rfl
theorem x_nopart : oNoPart s h = some (none, h) := rfl
theorem x_sl {l u : MP} : eSl a l u s h = bnd (a s h) fun x h1 => bnd (l s h1) fun i h2 => bnd (u s h2) fun j h3 => oSl x i j h3 := rfl
theorem x_isi {T : String} : eIsi T a s h = bnd (a s h) fun x h1 => (tyN h1 x).bind fun t => (kitB t T).map fun b => (.bl b, h1) := rfl
theorem x_bm {T : String} {g : MM} : eBM T g a as s h = bnd (a s h) fun x h1 => if isT h1 T x = true then bnd (as s h1) fun xs h2 => g x xs h2 else none := rfl
theorem x_bm0 {T : String} {g : MM} : eBM0 T g a s h = bnd (a s h) fun x h1 => if isT h1 T x = true then g x [] h1 else none := rfl
theorem x_chain {f g : MO} : eChain f g a b c s h = bnd (a s h) fun x h1 => bnd (b s h1) fun y h2 => bnd (f x y h2) fun z h3 => match z with
  | .bl true => bnd (c s h3) fun u h4 => g y u h4
  | .bl false => some (.bl false, h3)
  | _ => none := rfl
theorem x_meth {C nm : Str} {m : MF} {n l : Nat} {ks : MA} : eMeth C nm m n l g1 a as ks s h = bnd (a s h) fun x h0 => match x with
  | .ref c => match h0[c]? with
    | some (.ins D fs) => if D = C ∧ (fs.lookup nm).isNone = true then bnd (as s h0) fun xs h1 => bnd (ks s h1) fun zs h2 => if (OV.ref c :: xs).length = n ∧ zs.length = l then m (.ref c :: xs) h2 else none else none
    | _ => none
  | _ => none := rfl
theorem x_sfld {C f : Str} : sFld C f a b s h = bnd (b s h) fun v h1 => bnd (a s h1) fun x h2 => match x with
  | .ref r => match h2[r]? with
    | some (.ins D fs) => if D = C ∧ fs.length < 1000 then some (.nx s, h2.set r (.ins D (putFO f v fs))) else none
    | _ => none
  | _ => none := rfl
theorem x_rev : eRev a s h = bnd (a s h) fun x h1 => match x with
  | .ref r => match h1[r]? with
    | some (.lst ys) => some (.ref h1.length, h1 ++ [.lst ys.reverse])
    | _ => none
  | _ => none := rfl
theorem x_par {i j : Nat} : sPar i j as s h = bnd (as s h) fun vs h1 => match vs with
  | [v, u] => some (.nx ((s.set i (some v)).set j (some u)), h1)
  | _ => none := rfl
theorem x_for {m : MIt} {g : MG} {p : MS} : sFor m g p s h = bnd (m s h) fun it h1 => fGo it g p it.n 0 s h1 := rfl
theorem x_lc {m : MIt} {t : OT} {vs : List Nat} {q : MT} : eLc m t vs q a s h = bnd (m s h) fun it h1 => bnd (lGo it t vs q a it.n 0 [] s h1) fun acc h2 => some (.ref h2.length, h2 ++ [.lst acc]) := rfl
theorem x_dc {m : MIt} {t : OT} {vs : List Nat} {q : MT} : eDc m t vs q a b s h = bnd (m s h) fun it h1 => bnd (dGo it t vs q a b it.n 0 [] s h1) fun acc h2 => some (.ref h2.length, h2 ++ [.dK acc]) := rfl
theorem x_def {n ar : Nat} {p : MS} {vs : List OV} : fDef n ar p vs h = if vs.length = ar then match p (vs.map some ++ List.replicate (n - ar) none) h with
  | some (.rt v, h') => some (v, h')
  | some (.nx _, h') => some (.non, h')
  | _ => none else none := rfl
variable {i j : Int}
theorem v_add : oAdd (.int i) (.int j) h = some (.int (i + j), h) := rfl
theorem v_sub : oSub (.int i) (.int j) h = some (.int (i - j), h) := rfl
theorem v_mul (e : i.natAbs < 2 ^ 64 ∨ j.natAbs < 2 ^ 64) : oMul (.int i) (.int j) h = some (.int (i * j), h) := by
  have : cMul i j = true := by simpa only [cMul, Bool.or_eq_true, decide_eq_true_eq] using e
  simp only [oMul, this, ↓reduceIte]
theorem v_fdiv (h1 : 0 < j) (h2 : j < 1073741824) : oFdiv (.int i) (.int j) h = some (.int (i / j), h) := by
  simp only [oFdiv, oInt, h1, h2, decide_true, Bool.and_true, ↓reduceIte]
theorem v_mod (h1 : 0 < j) : oMod (.int i) (.int j) h = some (.int (i % j), h) := by
  simp only [oMod, oInt, h1, decide_true, ↓reduceIte]
theorem v_pow (h1 : 0 ≤ j) (h2 : j ≤ 1000) (h3 : i.natAbs < 2 ^ 64) : oPow (.int i) (.int j) h = some (.int (i ^ j.toNat), h) := by
  simp only [oPow, oInt, h1, h2, h3, decide_true, Bool.and_true, ↓reduceIte]
theorem v_lt : oLt (.int i) (.int j) h = some (.bl (decide (i < j)), h) := rfl
theorem v_le : oLe (.int i) (.int j) h = some (.bl (decide (i ≤ j)), h) := rfl
theorem v_gt : oGt (.int i) (.int j) h = some (.bl (decide (j < i)), h) := rfl
theorem v_ge : oGe (.int i) (.int j) h = some (.bl (decide (j ≤ i)), h) := rfl
theorem v_ixl {r : Nat} {xs : List OV} (e : h[r]? = some (.lst xs)) : oIx (.ref r) (.int i) h = atI xs i := by
  simp only [oIx, e]
theorem at_i {α : Type} {xs : List α} {i : Int} (h0 : 0 ≤ i) (h1 : i < xs.length) : atI xs i = xs[i.toNat]? := by
  simp only [atI, ixN, h0, h1, ↓reduceIte, Option.bind_some]
theorem v_putl {r : Nat} {xs : List OV} (e : h[r]? = some (.lst xs)) (h0 : 0 ≤ i) (h1 : i < xs.length) : oPut (.ref r) (.int i) v h = some (h.set r (.lst (xs.set i.toNat v))) := by
  simp only [oPut, e, ixN, h0, h1, ↓reduceIte, Option.map_some]
theorem v_divmod (h1 : 0 < j) (h2 : j < 1073741824) : bDivmod [.int i, .int j] h = some (.tup [.int (i / j), .int (i % j)], h) := by
  simp only [bDivmod, h1, h2, and_self, ↓reduceIte]
theorem v_max : bMax [.int i, .int j] h = some (.int (if j > i then j else i), h) := rfl
theorem v_min : bMin [.int i, .int j] h = some (.int (if j < i then j else i), h) := rfl
theorem v_abs : bAbs [.int i] h = some (.int (if i < 0 then -i else i), h) := rfl
theorem v_lenl {r : Nat} {xs : List OV} (e : h[r]? = some (.lst xs)) : bLen [.ref r] h = some (.int xs.length, h) := by
  simp only [bLen, e]
theorem v_lenr {xs : List OV} : bLen [.rol xs] h = some (.int xs.length, h) := rfl
theorem v_lens {z : Str} (e : z.length ≤ sizeLine) : bLen [.str z] h = some (.int z.length, h) := by
  simp only [bLen, e, ↓reduceIte]
theorem v_listl {r : Nat} {xs : List OV} (e : h[r]? = some (.lst xs)) : bList [.ref r] h = some (.ref h.length, h ++ [.lst xs]) := by
  simp only [bList, e]
theorem ok_def {n ar : Nat} {p : MS} {vs : List OV} {Q : OV → OH → Prop} (hl : vs.length = ar) (q : Ok (p (vs.map some ++ List.replicate (n - ar) none) h) fun f h' => match f with
    | .rt v => Q v h'
    | .nx _ => Q .non h'
    | _ => False) : Ok (fDef n ar p vs h) Q := by
  rw [x_def, if_pos hl]
  cases e : p (vs.map some ++ List.replicate (n - ar) none) h with
  | none => rw [e] at q; exact q.elim
  | some z =>
    obtain ⟨f, h'⟩ := z
    rw [e] at q
    cases f with
    | rt v => exact q
    | nx s => exact q
    | bk s => exact q.elim
    | ct s => exact q.elim
end
structure Fr (S : Nat → Prop) (h h' : OH) : Prop where
  le : h.length ≤ h'.length
  keep : ∀ a o, ¬ S a → h[a]? = some o → h'[a]? = some o
abbrev No : Nat → Prop := fun _ => False
section
variable {S T : Nat → Prop} {h h1 h2 : OH}
theorem Fr.refl : Fr S h h := ⟨Nat.le_refl _, fun _ _ _ e => e⟩
theorem Fr.trans (x : Fr S h h1) (y : Fr S h1 h2) : Fr S h h2 := ⟨Nat.le_trans x.le y.le, fun a o n e => y.keep a o n (x.keep a o n e)⟩
theorem Fr.up (x : Fr S h h1) (c : ∀ a, S a → T a) : Fr T h h1 := ⟨x.le, fun a o n e => x.keep a o (fun z => n (c a z)) e⟩
theorem Fr.no (x : Fr No h h1) : Fr T h h1 := x.up fun _ z => z.elim
theorem Fr.app {os : List OO} : Fr S h (h ++ os) := ⟨by simp, fun a o _ e => by rw [List.getElem?_append_left (List.getElem?_eq_some_iff.mp e).1]; exact e⟩
theorem Fr.set {a : Nat} {o : OO} (hs : S a) : Fr S h (h.set a o) := ⟨by simp, fun b u n e => by rw [List.getElem?_set_ne (fun z => n (by rw [← z]; exact hs))]; exact e⟩
/-- what is new may change -/
theorem Fr.new (x : Fr T h h1) (c : ∀ a, T a → a < h.length → S a) : Fr S h h1 := ⟨x.le, fun a o n e => x.keep a o (fun z => n (c a z (List.getElem?_eq_some_iff.mp e).1)) e⟩
theorem at_new {o : OO} : (h ++ [o])[h.length]? = some o := by simp
theorem at_old {os : List OO} {a : Nat} {o : OO} (e : h[a]? = some o) : (h ++ os)[a]? = some o := by
  rw [List.getElem?_append_left (List.getElem?_eq_some_iff.mp e).1]; exact e
theorem at_set {a : Nat} {o u : OO} (e : h[a]? = some u) : (h.set a o)[a]? = some o := List.getElem?_set_self (List.getElem?_eq_some_iff.mp e).1
theorem at_ne {a b : Nat} {o u : OO} (n : a ≠ b) (e : h[b]? = some u) : (h.set a o)[b]? = some u := by rw [List.getElem?_set_ne n]; exact e
theorem lt_of {a : Nat} {o : OO} (e : h[a]? = some o) : a < h.length := (List.getElem?_eq_some_iff.mp e).1
end
end O

set_option maxHeartbeats 4000000
namespace O
open PySem L2 PyProof.Rows
abbrev CE := OV → OH → Prop
abbrev CA := List OV → OH → Prop
abbrev CB := Bool → OH → Prop
abbrev CF := OF → OH → Prop
def kSeq (q : MS) (Q : CF) : CF
  | .nx s, h => Ok (q s h) Q
  | f, h => Q f h
def kB (A B : OH → Prop) : CB
  | true, h => A h
  | false, h => B h
def kBl (Q : CB) : CE
  | .bl b, h => Q b h
  | _, _ => False
def kTru (Q : CB) : CE := fun v h => ∃ b, oTru h v = some b ∧ Q b h
def kDef (Q : CE) : CF
  | .rt v, h => Q v h
  | .nx _, h => Q .non h
  | _, _ => False
def kAt (f : OV → Option OV) (Q : CE) : OH → Prop := fun h => True
section
variable {s : OSt} {h : OH} {a b c : ME} {as ks : MA} {v x y z : OV} {Q : CE} {R : CF} {B : CB} {A : CA} {p q : MS} {t u : MT} {U V : OH → Prop}
theorem k_nx (e : Ok (q s h) R) : kSeq q R (.nx s) h := e
theorem k_rt (e : R (.rt v) h) : kSeq q R (.rt v) h := e
theorem k_bk (e : R (.bk s) h) : kSeq q R (.bk s) h := e
theorem k_ct (e : R (.ct s) h) : kSeq q R (.ct s) h := e
theorem k_drt (e : Q v h) : kDef Q (.rt v) h := e
theorem k_dnx (e : Q .non h) : kDef Q (.nx s) h := e
theorem k_t (e : U h) : kB U V true h := e
theorem k_f (e : V h) : kB U V false h := e
theorem k_n {b : Bool} (e : kB V U b h) : kB U V (!b) h := by cases b <;> exact e
theorem k_d {c : Prop} [Decidable c] (e : c → U h) (e2 : ¬ c → V h) : kB U V (decide c) h := by
  by_cases z : c
  · rw [decide_eq_true z]; exact e z
  · rw [decide_eq_false z]; exact e2 z
theorem k_dt {c : Prop} [Decidable c] (z : c) (e : U h) : kB U V (decide c) h := k_d (fun _ => e) (fun n => absurd z n)
theorem k_df {c : Prop} [Decidable c] (z : ¬ c) (e : V h) : kB U V (decide c) h := k_d (fun n => absurd n z) (fun _ => e)
theorem k_bl {b : Bool} (e : B b h) : kBl B (.bl b) h := e
theorem k_tbl {b : Bool} (e : B b h) : kTru B (.bl b) h := ⟨b, rfl, e⟩
theorem k_tint {i : Int} (e : B (i != 0) h) : kTru B (.int i) h := ⟨_, rfl, e⟩
theorem ok_var {i : Nat} (e : s[i]? = some (some v)) (q : Q v h) : Ok (eVar i s h) Q := by
  unfold eVar; rw [e]; exact q
theorem ok_c (q : Q v h) : Ok (eC v s h) Q := q
theorem ok_op {g : MO} (q : Ok (a s h) fun x h1 => Ok (b s h1) fun y h2 => Ok (g x y h2) Q) : Ok (eOp g a b s h) Q := by
  rw [x_op, ok_bnd]; simpa only [ok_bnd] using q
theorem ok_nil (q : A [] h) : Ok (aNil s h) A := q
theorem ok_cons (q : Ok (a s h) fun x h1 => Ok (as s h1) fun xs h2 => A (x :: xs) h2) : Ok (aCons a as s h) A := by
  rw [x_cons]; simpa only [ok_bnd, ok_some] using q
theorem ok_b {g : MF} (q : Ok (as s h) fun xs h1 => Ok (g xs h1) Q) : Ok (eB g as s h) Q := by
  rw [x_b, ok_bnd]; exact q
theorem ok_call {m : MF} {n l : Nat} (q : Ok (as s h) fun xs h1 => Ok (ks s h1) fun zs h2 => (xs.length = n ∧ zs.length = l) ∧ Ok (m xs h2) Q) : Ok (eCall m n l g1 as ks s h) Q := by
  rw [x_call]; simp only [ok_bnd]
  refine q.mono fun xs h1 q => q.mono fun zs h2 ⟨e, q⟩ => ?_
  rw [if_pos e]; exact q
theorem ok_meth {C nm : Str} {m : MF} {n l : Nat} (q : Ok (a s h) fun x h0 => ∃ r fs, x = .ref r ∧ h0[r]? = some (.ins C fs) ∧ (fs.lookup nm).isNone = true ∧ Ok (as s h0) fun xs h1 => Ok (ks s h1) fun zs h2 => ((OV.ref r :: xs).length = n ∧ zs.length = l) ∧ Ok (m (.ref r :: xs) h2) Q) : Ok (eMeth C nm m n l g1 a as ks s h) Q := by
  rw [x_meth, ok_bnd]
  refine q.mono fun x h0 ⟨r, fs, e1, e2, e3, q⟩ => ?_
  subst e1
  simp only [e2, e3, and_self, ↓reduceIte, ok_bnd]
  refine q.mono fun xs h1 q => q.mono fun zs h2 ⟨e, q⟩ => ?_
  rw [if_pos e]; exact q
theorem ok_ix (q : Ok (a s h) fun x h1 => Ok (b s h1) fun y h2 => ∃ v, oIx x y h2 = some v ∧ Q v h2) : Ok (eIx a b s h) Q := by
  rw [x_ix]; simp only [ok_bnd]
  refine q.mono fun x h1 q => q.mono fun y h2 ⟨v, e, q⟩ => ?_
  rw [e]; exact q
theorem ok_seq (e : Ok (p s h) (kSeq q R)) : Ok (sSeq p q s h) R := by
  rw [x_seq, ok_bnd]
  refine e.mono fun f h1 e => ?_
  cases f <;> exact e
theorem ok_if (e : Ok (t s h) (kB (fun h1 => Ok (p s h1) R) fun h1 => Ok (q s h1) R)) : Ok (sIf t p q s h) R := by
  rw [x_if, ok_bnd]
  refine e.mono fun c h1 e => ?_
  cases c
  · exact e
  · exact e
theorem ok_set {i : Nat} (e : Ok (a s h) fun v h1 => R (.nx (s.set i (some v))) h1) : Ok (sSet i a s h) R := by
  rw [x_set, ok_bnd]; exact e
theorem ok_rt (e : Ok (a s h) fun v h1 => R (.rt v) h1) : Ok (sRt a s h) R := by
  rw [x_rt, ok_bnd]; exact e
theorem ok_rtn (e : R (.rt .non) h) : Ok (sRtN s h) R := e
theorem ok_ex (e : Ok (a s h) fun v h1 => R (.nx s) h1) : Ok (sEx a s h) R := by
  rw [x_ex, ok_bnd]; exact e
theorem ok_nx (e : R (.nx s) h) : Ok (sNx s h) R := e
theorem ok_asg {g : MG} (e : Ok (a s h) fun v h1 => Ok (g v s h1) fun s1 h2 => R (.nx s1) h2) : Ok (sAsg a g s h) R := by
  rw [x_asg]; simp only [ok_bnd]; exact e
theorem ok_par {i j : Nat} (e : Ok (as s h) fun vs h1 => ∃ v u, vs = [v, u] ∧ R (.nx ((s.set i (some v)).set j (some u))) h1) : Ok (sPar i j as s h) R := by
  rw [x_par, ok_bnd]
  refine e.mono fun vs h1 ⟨v, u, e1, e⟩ => ?_
  subst e1; exact e
theorem ok_tb (e : Ok (a s h) (kBl B)) : Ok (tBool a s h) B := by
  rw [x_bool, ok_bnd]
  refine e.mono fun v h1 e => ?_
  cases v <;> exact e
theorem ok_tt (e : Ok (a s h) (kTru B)) : Ok (tTru a s h) B := by
  rw [x_ttru, ok_bnd]
  refine e.mono fun v h1 ⟨b, e1, e⟩ => ?_
  rw [e1]; exact e
theorem ok_tn (e : Ok (t s h) fun b h1 => B (!b) h1) : Ok (tNotO t s h) B := by
  rw [x_tnot, ok_bnd]; exact e
theorem ok_tor (e : Ok (t s h) (kB (fun h1 => B true h1) fun h1 => Ok (u s h1) B)) : Ok (tOrO t u s h) B := by
  rw [x_tor, ok_bnd]
  refine e.mono fun c h1 e => ?_
  cases c <;> exact e
theorem ok_tand (e : Ok (t s h) (kB (fun h1 => Ok (u s h1) B) fun h1 => B false h1)) : Ok (tAndO t u s h) B := by
  rw [x_tand, ok_bnd]
  refine e.mono fun c h1 e => ?_
  cases c <;> exact e
theorem ok_and (e : Ok (a s h) fun v h1 => ∃ c, oTru h1 v = some c ∧ kB (fun h1 => Ok (b s h1) Q) (fun h1 => Q v h1) c h1) : Ok (eAnd a b s h) Q := by
  rw [x_and, ok_bnd]
  refine e.mono fun v h1 ⟨c, e1, e⟩ => ?_
  rw [e1]
  cases c <;> exact e
theorem ok_or (e : Ok (a s h) fun v h1 => ∃ c, oTru h1 v = some c ∧ kB (fun h1 => Q v h1) (fun h1 => Ok (b s h1) Q) c h1) : Ok (eOr a b s h) Q := by
  rw [x_or, ok_bnd]
  refine e.mono fun v h1 ⟨c, e1, e⟩ => ?_
  rw [e1]
  cases c <;> exact e
theorem ok_not (e : Ok (a s h) (kTru fun c h1 => Q (.bl (!c)) h1)) : Ok (eNot a s h) Q := by
  rw [x_not, ok_bnd]
  refine e.mono fun v h1 ⟨c, e1, e⟩ => ?_
  rw [e1]; exact e
theorem ok_ife (e : Ok (t s h) (kB (fun h1 => Ok (a s h1) Q) fun h1 => Ok (b s h1) Q)) : Ok (eIf t a b s h) Q := by
  rw [x_ife, ok_bnd]
  refine e.mono fun c h1 e => ?_
  cases c <;> exact e
/-- a new object: its place and the frame -/
theorem ok_new {o : OO} (e : ∀ r h1, h1[r]? = some o → Fr No h h1 → h.length ≤ r → Q (.ref r) h1) : Q (.ref h.length) (h ++ [o]) := e _ _ at_new .app (Nat.le_refl _)
theorem ok_lst (e : Ok (as s h) fun xs h1 => xs.length ≤ sizeLine ∧ ∀ r h2, h2[r]? = some (.lst xs) → Fr No h1 h2 → h1.length ≤ r → Q (.ref r) h2) : Ok (eLst as s h) Q := by
  rw [x_lst, ok_bnd]
  refine e.mono fun xs h1 ⟨e1, e⟩ => ?_
  rw [if_pos e1]; exact ok_new e
theorem ok_tup (e : Ok (as s h) fun xs h1 => xs.length ≤ sizeLine ∧ Q (.tup xs) h1) : Ok (eTup as s h) Q := by
  rw [x_tup, ok_bnd]
  refine e.mono fun xs h1 ⟨e1, e⟩ => ?_
  rw [if_pos e1]; exact e
theorem ok_dK (e : ∀ r h2, h2[r]? = some (.dK []) → Fr No h h2 → h.length ≤ r → Q (.ref r) h2) : Ok (eDK s h) Q := by
  rw [x_dK]; exact ok_new e
theorem ok_fld {C f : Str} (e : Ok (a s h) fun x h1 => ∃ r fs v, x = .ref r ∧ h1[r]? = some (.ins C fs) ∧ fs.lookup f = some v ∧ Q v h1) : Ok (eFld C f a s h) Q := by
  rw [x_fld, ok_bnd]
  refine e.mono fun x h1 ⟨r, fs, v, e1, e2, e3, e⟩ => ?_
  subst e1
  simp only [e2, e3, ↓reduceIte]; exact e
theorem ok_dix (e : Ok (a s h) fun x h1 => Ok (b s h1) fun y h2 => ∃ r v, x = .ref r ∧ dGet h2 r y = some (some v) ∧ Q v h2) : Ok (eDix a b s h) Q := by
  rw [x_dix]; simp only [ok_bnd]
  refine e.mono fun x h1 e => e.mono fun y h2 ⟨r, v, e1, e2, q⟩ => ?_
  subst e1
  simp only [e2]; exact q
theorem ok_isi {T : String} (e : Ok (a s h) fun x h1 => ∃ t b, tyN h1 x = some t ∧ kitB t T = some b ∧ Q (.bl b) h1) : Ok (eIsi T a s h) Q := by
  rw [x_isi, ok_bnd]
  refine e.mono fun x h1 ⟨t, b, e1, e2, e⟩ => ?_
  simp only [e1, e2, Option.bind_some, Option.map_some]; exact e
theorem ok_bm {T : String} {g : MM} (e : Ok (a s h) fun x h1 => isT h1 T x = true ∧ Ok (as s h1) fun xs h2 => Ok (g x xs h2) Q) : Ok (eBM T g a as s h) Q := by
  rw [x_bm, ok_bnd]
  refine e.mono fun x h1 ⟨e1, e⟩ => ?_
  rw [if_pos e1, ok_bnd]; exact e
theorem ok_bm0 {T : String} {g : MM} (e : Ok (a s h) fun x h1 => isT h1 T x = true ∧ Ok (g x [] h1) Q) : Ok (eBM0 T g a s h) Q := by
  rw [x_bm0, ok_bnd]
  refine e.mono fun x h1 ⟨e1, e⟩ => ?_
  rw [if_pos e1]; exact e
theorem ok_chain {f g : MO} (e : Ok (a s h) fun x h1 => Ok (b s h1) fun y h2 => Ok (f x y h2) (kBl (kB (fun h3 => Ok (c s h3) fun u h4 => Ok (g y u h4) Q) fun h3 => Q (.bl false) h3))) : Ok (eChain f g a b c s h) Q := by
  rw [x_chain]; simp only [ok_bnd]
  refine e.mono fun x h1 e => e.mono fun y h2 e => e.mono fun z h3 e => ?_
  cases z with
  | bl w =>
    cases w
    · exact e
    · show Ok (bnd _ _) _
      rw [ok_bnd]; exact e
  | _ => exact e
theorem ok_part {P : Option Int → OH → Prop} (e : Ok (a s h) fun x h1 => ∃ i, x = .int i ∧ P (some i) h1) : Ok (oPart a s h) P := by
  rw [x_part, ok_bnd]
  refine e.mono fun x h1 ⟨i, e1, e⟩ => ?_
  subst e1; exact e
theorem ok_nopart {P : Option Int → OH → Prop} (e : P none h) : Ok (oNoPart s h) P := e
theorem ok_sl {l w : MP} (e : Ok (a s h) fun x h1 => Ok (l s h1) fun i h2 => Ok (w s h2) fun j h3 => Ok (oSl x i j h3) Q) : Ok (eSl a l w s h) Q := by
  rw [x_sl]; simp only [ok_bnd]; exact e
theorem ok_sfld {C f : Str} (e : Ok (b s h) fun v h1 => Ok (a s h1) fun x h2 => ∃ r fs, x = .ref r ∧ h2[r]? = some (.ins C fs) ∧ fs.length < 1000 ∧ R (.nx s) (h2.set r (.ins C (putFO f v fs)))) : Ok (sFld C f a b s h) R := by
  rw [x_sfld]; simp only [ok_bnd]
  refine e.mono fun x h1 e => e.mono fun y h2 ⟨r, fs, e1, e2, e3, e⟩ => ?_
  subst e1
  simp only [e2, e3, and_self, ↓reduceIte]; exact e
theorem ok_rev (e : Ok (a s h) fun x h1 => ∃ r ys, x = .ref r ∧ h1[r]? = some (.lst ys) ∧ ∀ r2 h2, h2[r2]? = some (.lst ys.reverse) → Fr No h1 h2 → h1.length ≤ r2 → Q (.ref r2) h2) : Ok (eRev a s h) Q := by
  rw [x_rev, ok_bnd]
  refine e.mono fun x h1 ⟨r, ys, e1, e2, e⟩ => ?_
  subst e1
  simp only [e2]; exact ok_new e
theorem ok_make {C : Str} {m : MF} {n l : Nat} (e : Ok (as s h) fun xs h1 => Ok (ks s h1) fun zs h2 => (xs.length + 1 = n ∧ zs.length = l) ∧ ∀ r h3, h3[r]? = some (.ins C []) → Fr No h2 h3 → h2.length ≤ r → Ok (m (.ref r :: xs) h3) fun v h4 => v = .non ∧ Q (.ref r) h4) : Ok (eMake C m n l g1 as ks s h) Q := by
  unfold eMake
  rw [ok_bnd]; refine e.mono fun xs h1 e => ?_
  rw [ok_bnd]; refine e.mono fun zs h2 ⟨e1, e⟩ => ?_
  unfold mkFin dFin
  have e3 := e _ (h2 ++ [.ins C []]) at_new .app (Nat.le_refl _)
  rw [if_pos (show (OV.ref h2.length :: xs).length = n ∧ zs.length = l from e1), ok_bnd]
  refine e3.mono fun v h4 ⟨ev, e⟩ => ?_
  subst ev; exact e
variable {i j : Int}
theorem ok_add (e : Q (.int (i + j)) h) : Ok (oAdd (.int i) (.int j) h) Q := e
theorem ok_sub (e : Q (.int (i - j)) h) : Ok (oSub (.int i) (.int j) h) Q := e
theorem ok_lt (e : Q (.bl (decide (i < j))) h) : Ok (oLt (.int i) (.int j) h) Q := e
theorem ok_le (e : Q (.bl (decide (i ≤ j))) h) : Ok (oLe (.int i) (.int j) h) Q := e
theorem ok_gt (e : Q (.bl (decide (j < i))) h) : Ok (oGt (.int i) (.int j) h) Q := e
theorem ok_ge (e : Q (.bl (decide (j ≤ i))) h) : Ok (oGe (.int i) (.int j) h) Q := e
theorem ok_mul (z : i.natAbs < 2 ^ 64 ∨ j.natAbs < 2 ^ 64) (e : Q (.int (i * j)) h) : Ok (oMul (.int i) (.int j) h) Q := by rw [v_mul z]; exact e
theorem ok_fdiv (h1 : 0 < j) (h2 : j < 1073741824) (e : Q (.int (i / j)) h) : Ok (oFdiv (.int i) (.int j) h) Q := by rw [v_fdiv h1 h2]; exact e
theorem ok_mod (h1 : 0 < j) (e : Q (.int (i % j)) h) : Ok (oMod (.int i) (.int j) h) Q := by rw [v_mod h1]; exact e
theorem ok_pow (h1 : 0 ≤ j) (h2 : j ≤ 1000) (h3 : i.natAbs < 2 ^ 64) (e : Q (.int (i ^ j.toNat)) h) : Ok (oPow (.int i) (.int j) h) Q := by rw [v_pow h1 h2 h3]; exact e
theorem ok_addl {r r2 : Nat} {xs ys : List OV} (e1 : h[r]? = some (.lst xs)) (e2 : h[r2]? = some (.lst ys)) (z : xs.length + ys.length ≤ sizeLine) (e : ∀ r h2, h2[r]? = some (.lst (xs ++ ys)) → Fr No h h2 → h.length ≤ r → Q (.ref r) h2) : Ok (oAdd (.ref r) (.ref r2) h) Q := by
  simp only [oAdd, e1, e2, z, ↓reduceIte]; exact ok_new e
theorem ok_adds {x y : Str} (z : x.length + y.length ≤ sizeLine) (e : Q (.str (x ++ y)) h) : Ok (oAdd (.str x) (.str y) h) Q := by
  simp only [oAdd, z, ↓reduceIte]; exact e
theorem z_ixl {r : Nat} {xs : List OV} {P : OV → Prop} (e : h[r]? = some (.lst xs)) (h0 : 0 ≤ i) (h1 : i < xs.length) (q : ∀ v, xs[i.toNat]? = some v → P v) : ∃ v, oIx (.ref r) (.int i) h = some v ∧ P v := by
  have hl : i.toNat < xs.length := by omega
  refine ⟨xs[i.toNat], ?_, q _ (List.getElem?_eq_getElem hl)⟩
  rw [v_ixl e, at_i h0 h1]; exact List.getElem?_eq_getElem hl
theorem ok_divmod (h1 : 0 < j) (h2 : j < 1073741824) (e : Q (.tup [.int (i / j), .int (i % j)]) h) : Ok (bDivmod [.int i, .int j] h) Q := by rw [v_divmod h1 h2]; exact e
theorem ok_max (e : Q (.int (if j > i then j else i)) h) : Ok (bMax [.int i, .int j] h) Q := e
theorem ok_min (e : Q (.int (if j < i then j else i)) h) : Ok (bMin [.int i, .int j] h) Q := e
theorem ok_abs (e : Q (.int (if i < 0 then -i else i)) h) : Ok (bAbs [.int i] h) Q := e
theorem ok_lenl {r : Nat} {xs : List OV} (e1 : h[r]? = some (.lst xs)) (e : Q (.int xs.length) h) : Ok (bLen [.ref r] h) Q := by rw [v_lenl e1]; exact e
theorem ok_lenr {xs : List OV} (e : Q (.int xs.length) h) : Ok (bLen [.rol xs] h) Q := e
theorem ok_lens {x : Str} (z : x.length ≤ sizeLine) (e : Q (.int x.length) h) : Ok (bLen [.str x] h) Q := by rw [v_lens z]; exact e
theorem ok_list {r : Nat} {xs : List OV} (e1 : h[r]? = some (.lst xs)) (e : ∀ r h2, h2[r]? = some (.lst xs) → Fr No h h2 → h.length ≤ r → Q (.ref r) h2) : Ok (bList [.ref r] h) Q := by
  rw [v_listl e1]; exact ok_new e
variable {T : OSt → OH → Prop}
theorem ok_gnm {i : Nat} (e : T (s.set i (some v)) h) : Ok (gNm i v s h) T := e
theorem ok_gsnil (e : T s h) : Ok (gsNil [] s h) T := e
theorem ok_gscons {g : MG} {gs : MGs} {r : List OV} (e : Ok (g v s h) fun s1 h1 => Ok (gs r s1 h1) T) : Ok (gsCons g gs (v :: r) s h) T := by
  rw [x_gscons, ok_bnd]; exact e
theorem ok_gtp {n : Nat} {gs : MGs} {xs : List OV} (z : xs.length = n) (e : Ok (gs xs s h) T) : Ok (gTp n gs (.tup xs) s h) T := by
  rw [x_gtp, if_pos z]; exact e
theorem ok_gput (e : Ok (a s h) fun x h1 => Ok (b s h1) fun y h2 => ∃ h3, oPut x y v h2 = some h3 ∧ T s h3) : Ok (gPut a b v s h) T := by
  rw [x_gput]; simp only [ok_bnd]
  refine e.mono fun x h1 e => e.mono fun y h2 ⟨h3, e1, e⟩ => ?_
  rw [e1]; exact e
theorem ok_d {n ar : Nat} {vs : List OV} (hl : vs.length = ar) (e : Ok (p (vs.map some ++ List.replicate (n - ar) none) h) (kDef Q)) : Ok (fDef n ar p vs h) Q := by
  refine ok_def hl (e.mono fun f h e => ?_)
  cases f <;> exact e
end
end O

set_option maxHeartbeats 4000000
namespace O
open PySem L2 PyProof.Rows
abbrev CI := OI → OH → Prop
/-- what a loop's body leaves -/
def kFor (N : OSt → OH → Prop) (R : CF) : CF
  | .nx s, h => N s h
  | .ct s, h => N s h
  | .bk s, h => R (.nx s) h
  | .rt v, h => R (.rt v) h
section
variable {s : OSt} {h : OH} {a b c : ME} {as ks : MA} {v x y z : OV} {Q : CE} {R : CF} {B : CB} {A : CA} {p q : MS} {t u : MT} {U V : OH → Prop} {P : CI} {N : OSt → OH → Prop} {i : Int}
theorem k_fnx (e : N s h) : kFor N R (.nx s) h := e
theorem k_fct (e : N s h) : kFor N R (.ct s) h := e
theorem k_fbk (e : R (.nx s) h) : kFor N R (.bk s) h := e
theorem k_frt (e : R (.rt v) h) : kFor N R (.rt v) h := e
theorem ok_iR1 (e : Ok (as s h) fun xs h1 => ∃ n : Int, xs = [.int n] ∧ (-(2 ^ 62) ≤ n ∧ n < 2 ^ 62) ∧ P (oiR 0 n.toNat) h1) : Ok (iR1 as s h) P := by
  unfold iR1
  rw [ok_bnd]
  refine e.mono fun xs h1 ⟨n, e1, e2, e⟩ => ?_
  subst e1
  have : rB n = true := by simpa only [rB, Bool.and_eq_true, decide_eq_true_eq] using e2
  simp only [this, ↓reduceIte]; exact e
theorem ok_iR2 (e : Ok (as s h) fun xs h1 => ∃ m n : Int, xs = [.int m, .int n] ∧ ((-(2 ^ 62) ≤ m ∧ m < 2 ^ 62) ∧ (-(2 ^ 62) ≤ n ∧ n < 2 ^ 62)) ∧ P (oiR m (n - m).toNat) h1) : Ok (iR2 as s h) P := by
  unfold iR2
  rw [ok_bnd]
  refine e.mono fun xs h1 ⟨m, n, e1, e2, e⟩ => ?_
  subst e1
  have : (rB m && rB n) = true := by simpa only [rB, Bool.and_eq_true, decide_eq_true_eq] using e2
  simp only [this, ↓reduceIte]; exact e
theorem ok_iL (e : Ok (a s h) fun x h1 => (∃ z, x = .str z ∧ P (oiS z) h1) ∨ (∃ xs, x = .tup xs ∧ P (oiV xs) h1) ∨ ∃ r xs, x = .ref r ∧ h1[r]? = some (.lst xs) ∧ P (oiL r xs.length) h1) : Ok (iL a s h) P := by
  unfold iL
  rw [ok_bnd]
  refine e.mono fun x h1 e => ?_
  rcases e with ⟨z, rfl, e⟩ | ⟨xs, rfl, e⟩ | ⟨r, xs, rfl, e1, e⟩
  · exact e
  · exact e
  · simp only [e1]; exact e
theorem ok_iE (e : Ok (as s h) fun xs h1 => ∃ r ys, xs = [.ref r] ∧ h1[r]? = some (.lst ys) ∧ P (oiE r ys.length) h1) : Ok (iE as s h) P := by
  unfold iE
  rw [ok_bnd]
  refine e.mono fun x h1 ⟨r, ys, e1, e2, e⟩ => ?_
  subst e1
  simp only [e2]; exact e
theorem lenIs_at {r n : Nat} {xs : List OV} (e : h[r]? = some (.lst xs)) (z : xs.length = n) : lenIs h r n = true := by
  simp only [lenIs, e, z, beq_self_eq_true]
theorem itemL_at {r n : Nat} {xs : List OV} (e : h[r]? = some (.lst xs)) : itemL h r n = xs[n]? := by
  simp only [itemL, e]
theorem lgo {it : OI} {t : OT} {vs : List Nat} (I : Nat → List OV → OH → Prop)
    (hI : ∀ i acc h, i < it.n → I i acc h → it.ok h = true ∧ ∃ v s2, it.item i h = some v ∧ asgT t v (wipeO s vs) = some s2 ∧ Ok (u s2 h) (kB (fun h1 => Ok (a s2 h1) fun y h2 => acc.length < sizeLine ∧ I (i + 1) (acc ++ [y]) h2) fun h1 => I (i + 1) acc h1))
    (hE : ∀ acc h, I it.n acc h → it.ok h = true ∧ A acc h) : ∀ n i acc h, i + n = it.n → I i acc h → Ok (lGo it t vs u a n i acc s h) A := by
  intro n
  induction n with
  | zero =>
    intro i acc h e hi
    rw [Nat.add_zero] at e
    subst e
    obtain ⟨e1, e2⟩ := hE acc h hi
    unfold lGo
    rw [if_pos e1]; exact e2
  | succ n ih =>
    intro i acc h e hi
    obtain ⟨e1, v, s2, e2, e3, e4⟩ := hI i acc h (by omega) hi
    unfold lGo
    rw [if_pos e1, e2, Option.bind_some, e3, Option.bind_some, ok_bnd]
    refine e4.mono fun c h1 e => ?_
    cases c with
    | true =>
      rw [if_pos rfl, ok_bnd]
      have e : Ok (a s2 h1) _ := e
      refine e.mono fun y h2 ⟨z, e⟩ => ?_
      rw [if_pos z]
      exact ih _ _ _ (by omega) e
    | false =>
      rw [if_neg (by simp)]
      exact ih _ _ _ (by omega) e
theorem ok_lc {m : MIt} {t : OT} {vs : List Nat} (e : Ok (m s h) fun it h1 => Ok (lGo it t vs u a it.n 0 [] s h1) fun acc h2 => ∀ r h3, h3[r]? = some (.lst acc) → Fr No h2 h3 → h2.length ≤ r → Q (.ref r) h3) : Ok (eLc m t vs u a s h) Q := by
  rw [x_lc, ok_bnd]
  refine e.mono fun it h1 e => ?_
  rw [ok_bnd]
  exact e.mono fun acc h2 e => ok_new e
theorem dgo {it : OI} {t : OT} {vs : List Nat} {ky : ME} {D : List (Key × OV) → OH → Prop} (I : Nat → List (Key × OV) → OH → Prop)
    (hI : ∀ i acc h, i < it.n → I i acc h → it.ok h = true ∧ ∃ v s2, it.item i h = some v ∧ asgT t v (wipeO s vs) = some s2 ∧ Ok (u s2 h) (kB (fun h1 => Ok (ky s2 h1) fun z h2 => Ok (a s2 h2) fun y h3 => ∃ k, kOf z = some k ∧ acc.length < sizeLine ∧ I (i + 1) (putO acc k y) h3) fun h1 => I (i + 1) acc h1))
    (hE : ∀ acc h, I it.n acc h → it.ok h = true ∧ D acc h) : ∀ n i acc h, i + n = it.n → I i acc h → Ok (dGo it t vs u ky a n i acc s h) D := by
  intro n
  induction n with
  | zero =>
    intro i acc h e hi
    rw [Nat.add_zero] at e
    subst e
    obtain ⟨e1, e2⟩ := hE acc h hi
    unfold dGo
    rw [if_pos e1]; exact e2
  | succ n ih =>
    intro i acc h e hi
    obtain ⟨e1, v, s2, e2, e3, e4⟩ := hI i acc h (by omega) hi
    unfold dGo
    rw [if_pos e1, e2, Option.bind_some, e3, Option.bind_some, ok_bnd]
    refine e4.mono fun c h1 e => ?_
    cases c with
    | true =>
      rw [if_pos rfl, ok_bnd]
      have e : Ok (ky s2 h1) _ := e
      refine e.mono fun z h2 e => ?_
      rw [ok_bnd]
      refine e.mono fun y h3 ⟨k, e1, z, e⟩ => ?_
      rw [e1, Option.bind_some, if_pos z]
      exact ih _ _ _ (by omega) e
    | false =>
      rw [if_neg (by simp)]
      exact ih _ _ _ (by omega) e
theorem ok_dc {m : MIt} {t : OT} {vs : List Nat} {ky : ME} (e : Ok (m s h) fun it h1 => Ok (dGo it t vs u ky a it.n 0 [] s h1) fun acc h2 => ∀ r h3, h3[r]? = some (.dK acc) → Fr No h2 h3 → h2.length ≤ r → Q (.ref r) h3) : Ok (eDc m t vs u ky a s h) Q := by
  rw [x_dc, ok_bnd]
  refine e.mono fun it h1 e => ?_
  rw [ok_bnd]
  exact e.mono fun acc h2 e => ok_new e
theorem fgo {it : OI} {g : MG} (I : Nat → OSt → OH → Prop)
    (hI : ∀ i s h, i < it.n → I i s h → it.ok h = true ∧ ∃ v, it.item i h = some v ∧ Ok (g v s h) fun s1 h1 => Ok (p s1 h1) (kFor (I (i + 1)) R))
    (hE : ∀ s h, I it.n s h → it.ok h = true ∧ R (.nx s) h) : ∀ n i s h, i + n = it.n → I i s h → Ok (fGo it g p n i s h) R := by
  intro n
  induction n with
  | zero =>
    intro i s h e hi
    rw [Nat.add_zero] at e
    subst e
    obtain ⟨e1, e2⟩ := hE s h hi
    unfold fGo
    rw [if_pos e1]; exact e2
  | succ n ih =>
    intro i s h e hi
    obtain ⟨e1, v, e2, e3⟩ := hI i s h (by omega) hi
    unfold fGo
    rw [if_pos e1, e2, Option.bind_some, ok_bnd]
    refine e3.mono fun s1 h1 e => ?_
    rw [ok_bnd]
    refine e.mono fun f h2 e => ?_
    cases f with
    | nx s2 => exact ih _ _ _ (by omega) e
    | ct s2 => exact ih _ _ _ (by omega) e
    | bk s2 => exact e
    | rt v => exact e
theorem ok_for {m : MIt} {g : MG} (e : Ok (m s h) fun it h1 => Ok (fGo it g p it.n 0 s h1) R) : Ok (sFor m g p s h) R := by
  rw [x_for, ok_bnd]; exact e
theorem ok_mid (M : CF) (h1 : Ok (p s h) M) (h2 : ∀ f h', M f h' → kSeq q R f h') : Ok (sSeq p q s h) R := ok_seq (h1.mono h2)
theorem ok_yes (e : B true h) : Ok (tYesO s h) B := e
theorem strOk_def {z : Str} : PyData.strOk z = z.cps.all (· < 0x110000) := rfl
def nms (xs : List Str) : List OV := xs.map OV.str
theorem toDs_strs {f : OV → Option PyData} (hf : ∀ z, f (.str z) = some (.str z)) : ∀ xs : List Str, toDs f (nms xs) = some (xs.map PyData.str)
  | [] => rfl
  | x :: xs => by
    show (f (.str x)).bind (fun d => (toDs f (nms xs)).map fun ds => d :: ds) = _
    rw [hf, toDs_strs hf xs]; rfl
theorem toD_strs {r n : Nat} {xs : List Str} (e : h[r]? = some (.lst (nms xs))) : toD h (n + 2) (.ref r) = some (.list (xs.map PyData.str)) := by
  show (match h[r]? with
    | some (.lst xs) => (toDs (toD h (n + 1)) xs).map PyData.list
    | _ => none) = _
  rw [e]
  show (toDs (toD h (n + 1)) (nms xs)).map PyData.list = _
  rw [toDs_strs (fun _ => rfl)]; rfl
theorem ok_eqD {d e : PyData} (e1 : toD h 12 x = some d) (e2 : toD h 12 y = some e) (h1 : SeqAt.shaped d = true) (h2 : SeqAt.shaped e = true) (q : Q (.bl (PyData.eqv d e)) h) : Ok (oEq x y h) Q := by
  have : dEq h x y = some (PyData.eqv d e) := dEq_of0 (by unfold dEq0; rw [e1, Option.bind_some, e2, Option.bind_some, h1, h2]; rfl)
  unfold oEq
  rw [this]; exact q
theorem ok_neD {d e : PyData} (e1 : toD h 12 x = some d) (e2 : toD h 12 y = some e) (h1 : SeqAt.shaped d = true) (h2 : SeqAt.shaped e = true) (q : Q (.bl (!PyData.eqv d e)) h) : Ok (oNe x y h) Q := by
  have : dEq h x y = some (PyData.eqv d e) := dEq_of0 (by unfold dEq0; rw [e1, Option.bind_some, e2, Option.bind_some, h1, h2]; rfl)
  unfold oNe
  rw [this]; exact q
theorem ok_eqS {x y : Str} (q : Q (.bl (x == y)) h) : Ok (oEq (.str x) (.str y) h) Q := q
theorem ok_neS {x y : Str} (q : Q (.bl (!(x == y))) h) : Ok (oNe (.str x) (.str y) h) Q := q
theorem ok_repr {d : PyData} (e1 : toD h 12 x = some d) (h1 : SeqAt.shaped d = true) (h2 : d.showable = true) (h3 : d.shown.length ≤ sizeLine) (q : Q (.str d.shown) h) : Ok (bRepr [x] h) Q := by
  unfold bRepr
  simp only [e1, Option.bind_some, h1, h2, h3, decide_true, Bool.and_self, ↓reduceIte]; exact q
end
mutual
/-- no truths, no dicts -/
def noB : PyData → Bool
  | .bool _ => false
  | .dict _ => false
  | .list xs => noBs xs
  | .tuple xs => noBs xs
  | _ => true
def noBs : List PyData → Bool
  | [] => true
  | x :: xs => noB x && noBs xs
end
mutual
theorem eqv_iff : ∀ {d e : PyData}, noB d = true → noB e = true → (PyData.eqv d e = true ↔ d = e)
  | .none, e, _, he => by cases e <;> simp [PyData.eqv]
  | .bool _, e, hd, he => by simp [noB] at hd
  | .dict _, e, hd, he => by simp [noB] at hd
  | .int i, e, _, he => by cases e <;> simp_all [PyData.eqv, noB]
  | .str i, e, _, he => by cases e <;> simp_all [PyData.eqv, noB]
  | .list xs, e, hd, he => by
    cases e with
    | list ys =>
      simp only [noB] at hd he
      simp only [PyData.eqv, eqvAll_iff hd he, PyData.list.injEq]
    | _ => simp [PyData.eqv]
  | .tuple xs, e, hd, he => by
    cases e with
    | tuple ys =>
      simp only [noB] at hd he
      simp only [PyData.eqv, eqvAll_iff hd he, PyData.tuple.injEq]
    | _ => simp [PyData.eqv]
theorem eqvAll_iff : ∀ {d e : List PyData}, noBs d = true → noBs e = true → (PyData.eqvAll d e = true ↔ d = e)
  | [], [], _, _ => by simp [PyData.eqvAll]
  | [], _ :: _, _, _ => by simp [PyData.eqvAll]
  | _ :: _, [], _, _ => by simp [PyData.eqvAll]
  | x :: xs, y :: ys, hd, he => by
    simp only [noBs, Bool.and_eq_true] at hd he
    simp only [PyData.eqvAll, Bool.and_eq_true, eqv_iff hd.1 he.1, eqvAll_iff hd.2 he.2, List.cons.injEq]
end
theorem eqv_dec {d e : PyData} [Decidable (d = e)] (hd : noB d = true) (he : noB e = true) : PyData.eqv d e = decide (d = e) := by
  have := eqv_iff hd he
  by_cases h : d = e
  · rw [decide_eq_true h]; exact this.mpr h
  · rw [decide_eq_false h]
    cases q : PyData.eqv d e with
    | false => rfl
    | true => exact absurd (this.mp q) h
theorem noBs_strs : ∀ xs : List Str, noBs (xs.map PyData.str) = true
  | [] => rfl
  | x :: xs => by simp only [List.map_cons, noBs, noB, noBs_strs xs, Bool.and_self]
theorem eqv_strs {xs ys : List Str} : PyData.eqv (.list (xs.map .str)) (.list (ys.map .str)) = decide (xs = ys) := by
  have := eqv_iff (d := .list (xs.map .str)) (e := .list (ys.map .str)) (by simpa only [noB] using noBs_strs xs) (by simpa only [noB] using noBs_strs ys)
  have inj : (PyData.list (xs.map .str) = PyData.list (ys.map .str)) ↔ xs = ys := by
    rw [PyData.list.injEq]
    exact ⟨fun e => (List.map_inj_right fun a b e => PyData.str.inj e).mp e, fun e => by rw [e]⟩
  by_cases h : xs = ys
  · rw [decide_eq_true h]; exact this.mpr (inj.mpr h)
  · rw [decide_eq_false h]
    cases q : PyData.eqv (.list (xs.map .str)) (.list (ys.map .str)) with
    | false => rfl
    | true => exact absurd (inj.mp (this.mp q)) h
def Low (z : Str) : Prop := ∀ c ∈ z.cps.toList, 97 ≤ c ∧ c ≤ 122
def NameS (z : Str) : Prop := Low z ∧ 1 ≤ z.length ∧ z.length ≤ 8
theorem Low.ok {z : Str} (h : Low z) : PyData.strOk z = true := by
  rw [strOk_def, Array.all_eq_true_iff_forall_mem]
  intro c hc
  have := h c (Array.mem_toList_iff.mpr hc)
  simp only [decide_eq_true_eq]; omega
theorem lay_strs : ∀ {xs : List Str}, (∀ z ∈ xs, Low z) → PyData.canLayAll0 (xs.map .str) = true
  | [], _ => rfl
  | x :: xs, h => by
    simp only [List.map_cons, PyData.canLayAll0, PyData.canLay0, Bool.and_eq_true]
    exact ⟨(h x List.mem_cons_self).ok, lay_strs fun z hz => h z (List.mem_cons_of_mem _ hz)⟩
theorem dep_strs : ∀ xs : List Str, PyData.depthAll (xs.map .str) = 0
  | [] => rfl
  | x :: xs => by simp only [List.map_cons, PyData.depthAll, PyData.depth, dep_strs xs, Nat.max_self]
theorem shp_str {z : Str} (h : Low z) : SeqAt.shaped (.str z) = true := by
  simp only [SeqAt.shaped, PyData.canLay0, h.ok, PyData.depth, Bool.true_and]; rfl
theorem shp_strs {xs : List Str} (h : ∀ z ∈ xs, Low z) : SeqAt.shaped (.list (xs.map .str)) = true := by
  simp only [SeqAt.shaped, PyData.canLay0, lay_strs h, PyData.depth, dep_strs, Bool.true_and]; rfl
end O

set_option maxHeartbeats 4000000
namespace Lw
open PySem L2 O
local macro_rules | `(tactic| size_fits) => `(tactic| repeat' (first | (with_reducible refine ok_c ?_) | (with_reducible refine ok_op ?_) | (with_reducible refine ok_nil ?_) | (with_reducible refine ok_cons ?_) | (with_reducible refine ok_b ?_) | (with_reducible refine ok_call ?_) | (with_reducible refine ok_ix ?_) | (with_reducible refine ok_seq ?_) | (with_reducible refine ok_if ?_) | (with_reducible refine ok_set ?_) | (with_reducible refine ok_rt ?_) | (with_reducible refine ok_rtn ?_) | (with_reducible refine ok_ex ?_) | (with_reducible refine ok_nx ?_) | (with_reducible refine ok_asg ?_) | (with_reducible refine ok_par ?_) | (with_reducible refine ok_tb ?_) | (with_reducible refine ok_tt ?_) | (with_reducible refine ok_tn ?_) | (with_reducible refine ok_tor ?_) | (with_reducible refine ok_tand ?_) | (with_reducible refine ok_not ?_) | (with_reducible refine ok_ife ?_) | (with_reducible refine ok_chain ?_) | (with_reducible refine ok_sl ?_) | (with_reducible refine ok_part ?_) | (with_reducible refine ok_nopart ?_) | (with_reducible refine ok_bm ?_) | (with_reducible refine ok_bm0 ?_) | (with_reducible refine ok_lst ?_) | (with_reducible refine ok_tup ?_) | (with_reducible refine ok_dK ?_) | (with_reducible refine ok_fld ?_) | (with_reducible refine ok_dix ?_) | (with_reducible refine ok_isi ?_) | (with_reducible refine ok_meth ?_) | (with_reducible refine ok_make ?_) | (with_reducible refine ok_sfld ?_) | (with_reducible refine ok_rev ?_) | (with_reducible refine ok_gput ?_) | (with_reducible refine ok_gnm ?_) | (with_reducible refine ok_gsnil ?_) | (with_reducible refine ok_gscons ?_) | (with_reducible refine ok_and ?_) | (with_reducible refine ok_or ?_) | (with_reducible refine ok_iR1 ?_) | (with_reducible refine ok_iR2 ?_) | (with_reducible refine ok_iL ?_) | (with_reducible refine ok_iE ?_) | (with_reducible refine ok_lc ?_) | (with_reducible refine ok_dc ?_) | (with_reducible refine ok_for ?_) | (with_reducible refine ok_yes ?_) | (with_reducible refine k_fnx ?_) | (with_reducible refine k_fct ?_) | (with_reducible refine k_fbk ?_) | (with_reducible refine k_frt ?_) | (with_reducible refine k_nx ?_) | (with_reducible refine k_rt ?_) | (with_reducible refine k_bk ?_) | (with_reducible refine k_ct ?_) | (with_reducible refine k_drt ?_) | (with_reducible refine k_dnx ?_) | (with_reducible refine k_t ?_) | (with_reducible refine k_f ?_) | (with_reducible refine k_n ?_) | (with_reducible refine k_bl ?_) | (with_reducible refine k_tbl ?_) | (with_reducible refine ok_add ?_) | (with_reducible refine ok_sub ?_) | (with_reducible refine ok_lt ?_) | (with_reducible refine ok_le ?_) | (with_reducible refine ok_gt ?_) | (with_reducible refine ok_ge ?_) | (with_reducible refine ok_max ?_) | (with_reducible refine ok_min ?_) | (with_reducible refine ok_abs ?_) | (with_reducible refine ok_lenr ?_) | ((with_reducible apply ok_var); (· exact rfl)) | ((with_reducible apply ok_gtp); (· exact rfl)) | ((with_reducible refine ok_mod ?_ ?_); (· first | decide | omega)) | ((with_reducible refine ok_fdiv ?_ ?_ ?_); (· first | decide | omega); (· first | decide | omega)) | ((with_reducible apply ok_lenl); (· assumption)) | ((with_reducible apply ok_list); (· assumption))))
def Rg (h : OH) (r : Nat) : Prop := ∃ a b : Int, h[r]? = some (.lst [.int a, .int b])
theorem sp_draw {h : OH} {r : Nat} {m : Int} (hr : Rg h r) (h0 : 0 < m) (h1 : m < 1073741824) :
    Ok (f__law_draw [.ref r, .int m] h) (fun v h' => ∃ d : Int, v = .int d ∧ 0 ≤ d ∧ d < m ∧ Rg h' r ∧ Fr (· = r) h h') := by
  obtain ⟨a, b, e⟩ := hr
  refine ok_d rfl ?_
  unfold m__law_draw
  size_fits
  refine z_ixl e (by first | assumption | decide | omega | (simp; done) | (simp; omega)) (by first | assumption | decide | omega | (simp; done) | (simp; omega)) fun v ev => ?_
  cases ev
  size_fits
  refine k_d (fun ha => ?_) fun ha => ?_
  · size_fits
    refine z_ixl e (by first | assumption | decide | omega | (simp; done) | (simp; omega)) (by first | assumption | decide | omega | (simp; done) | (simp; omega)) fun v ev => ?_
    cases ev
    size_fits
    refine ok_divmod h0 h1 ?_
    size_fits
    refine ⟨_, v_putl e (by first | assumption | decide | omega | (simp; done) | (simp; omega)) (by first | assumption | decide | omega | (simp; done) | (simp; omega)), ?_⟩
    size_fits
    exact ⟨_, rfl, Int.emod_nonneg _ (by omega), Int.emod_lt_of_pos _ h0, ⟨_, _, at_set e⟩, .set rfl⟩
  · size_fits
    refine z_ixl e (by first | assumption | decide | omega | (simp; done) | (simp; omega)) (by first | assumption | decide | omega | (simp; done) | (simp; omega)) fun v ev => ?_
    cases ev
    size_fits
    refine ok_mul (.inr (by decide)) ?_
    size_fits
    refine ⟨_, v_putl e (by first | assumption | decide | omega | (simp; done) | (simp; omega)) (by first | assumption | decide | omega | (simp; done) | (simp; omega)), ?_⟩
    size_fits
    have e2 := at_set (o := .lst ([OV.int a, OV.int b].set (1 : Int).toNat (.int ((b * 48271 + 10007) % 2147483587)))) e
    refine z_ixl e2 (by first | assumption | decide | omega | (simp; done) | (simp; omega)) (by first | assumption | decide | omega | (simp; done) | (simp; omega)) fun v ev => ?_
    cases ev
    size_fits
    refine z_ixl e2 (by first | assumption | decide | omega | (simp; done) | (simp; omega)) (by first | assumption | decide | omega | (simp; done) | (simp; omega)) fun v ev => ?_
    cases ev
    size_fits
    refine ok_mul (.inr (by have := Int.emod_nonneg (b * 48271 + 10007) (show (2147483587 : Int) ≠ 0 by decide); have := Int.emod_lt_of_pos (b * 48271 + 10007) (show (0 : Int) < 2147483587 by decide); omega)) ?_
    size_fits
    exact ⟨_, rfl, Int.emod_nonneg _ (by omega), Int.emod_lt_of_pos _ h0, ⟨_, _, e2⟩, .set rfl⟩
end Lw

set_option maxHeartbeats 4000000
namespace Lw
open PySem L2 O
local macro_rules | `(tactic| size_fits) => `(tactic| repeat' (first | (with_reducible refine ok_c ?_) | (with_reducible refine ok_op ?_) | (with_reducible refine ok_nil ?_) | (with_reducible refine ok_cons ?_) | (with_reducible refine ok_b ?_) | (with_reducible refine ok_call ?_) | (with_reducible refine ok_ix ?_) | (with_reducible refine ok_seq ?_) | (with_reducible refine ok_if ?_) | (with_reducible refine ok_set ?_) | (with_reducible refine ok_rt ?_) | (with_reducible refine ok_rtn ?_) | (with_reducible refine ok_ex ?_) | (with_reducible refine ok_nx ?_) | (with_reducible refine ok_asg ?_) | (with_reducible refine ok_par ?_) | (with_reducible refine ok_tb ?_) | (with_reducible refine ok_tt ?_) | (with_reducible refine ok_tn ?_) | (with_reducible refine ok_tor ?_) | (with_reducible refine ok_tand ?_) | (with_reducible refine ok_not ?_) | (with_reducible refine ok_ife ?_) | (with_reducible refine ok_chain ?_) | (with_reducible refine ok_sl ?_) | (with_reducible refine ok_part ?_) | (with_reducible refine ok_nopart ?_) | (with_reducible refine ok_bm ?_) | (with_reducible refine ok_bm0 ?_) | (with_reducible refine ok_lst ?_) | (with_reducible refine ok_tup ?_) | (with_reducible refine ok_dK ?_) | (with_reducible refine ok_fld ?_) | (with_reducible refine ok_dix ?_) | (with_reducible refine ok_isi ?_) | (with_reducible refine ok_meth ?_) | (with_reducible refine ok_make ?_) | (with_reducible refine ok_sfld ?_) | (with_reducible refine ok_rev ?_) | (with_reducible refine ok_gput ?_) | (with_reducible refine ok_gnm ?_) | (with_reducible refine ok_gsnil ?_) | (with_reducible refine ok_gscons ?_) | (with_reducible refine ok_and ?_) | (with_reducible refine ok_or ?_) | (with_reducible refine ok_iR1 ?_) | (with_reducible refine ok_iR2 ?_) | (with_reducible refine ok_iL ?_) | (with_reducible refine ok_iE ?_) | (with_reducible refine ok_lc ?_) | (with_reducible refine ok_dc ?_) | (with_reducible refine ok_for ?_) | (with_reducible refine ok_yes ?_) | (with_reducible refine k_fnx ?_) | (with_reducible refine k_fct ?_) | (with_reducible refine k_fbk ?_) | (with_reducible refine k_frt ?_) | (with_reducible refine k_nx ?_) | (with_reducible refine k_rt ?_) | (with_reducible refine k_bk ?_) | (with_reducible refine k_ct ?_) | (with_reducible refine k_drt ?_) | (with_reducible refine k_dnx ?_) | (with_reducible refine k_t ?_) | (with_reducible refine k_f ?_) | (with_reducible refine k_n ?_) | (with_reducible refine k_bl ?_) | (with_reducible refine k_tbl ?_) | (with_reducible refine ok_add ?_) | (with_reducible refine ok_sub ?_) | (with_reducible refine ok_lt ?_) | (with_reducible refine ok_le ?_) | (with_reducible refine ok_gt ?_) | (with_reducible refine ok_ge ?_) | (with_reducible refine ok_max ?_) | (with_reducible refine ok_min ?_) | (with_reducible refine ok_abs ?_) | (with_reducible refine ok_lenr ?_) | ((with_reducible apply ok_var); (· exact rfl)) | ((with_reducible apply ok_gtp); (· exact rfl)) | ((with_reducible refine ok_mod ?_ ?_); (· first | decide | omega)) | ((with_reducible refine ok_fdiv ?_ ?_ ?_); (· first | decide | omega); (· first | decide | omega)) | ((with_reducible apply ok_lenl); (· assumption)) | ((with_reducible apply ok_list); (· assumption))))
abbrev abc : Str := PySem.Str.ofString "abcdefghijklmnopqrstuvwxyz"
theorem in_abc : ∀ c, c < 26 → inStr ⟨#[c + 97]⟩ abc = true := by decide +kernel
theorem in_abc2 {c : Nat} (h : 97 ≤ c ∧ c ≤ 122) : inStr ⟨#[c]⟩ abc = true := by
  have := in_abc (c - 97) (by omega)
  rwa [show c - 97 + 97 = c by omega] at this
theorem sz : sizeLine = 16777216 := rfl
theorem kit_str : kitB "str" "str" = some true := by decide +kernel
theorem kit_list : kitB "list" "list" = some true := by decide +kernel
theorem kit_int : kitB "int" "int" = some true := by decide +kernel
theorem kit_int_bool : kitB "int" "bool" = some false := by decide +kernel
theorem ok_all {h : OH} {r n : Nat} {Q : CE} (e : h[r]? = some (.lst (List.replicate n (.bl true)))) (q : Q (.bl true) h) : Ok (bAll [.ref r] h) Q := by
  have : ∀ n, bools (List.replicate n (.bl true)) = some (List.replicate n true) := by
    intro n
    induction n with
    | zero => rfl
    | succ n ih => show (bools (List.replicate n (.bl true))).map _ = _; rw [ih]; rfl
  have a : ∀ n, (List.replicate n true).all id = true := by
    intro n
    rw [List.all_eq_true]; intro x hx
    exact List.eq_of_mem_replicate hx
  simp only [bAll, e, this, Option.map_some, a]
  exact q
theorem sp_is_name {h : OH} {z : Str} (hz : NameS z) : Ok (f_is_name [.str z] h) (fun v h' => v = .bl true ∧ Fr No h h') := by
  obtain ⟨hl, h1, h2⟩ := hz
  refine ok_d rfl ?_
  unfold m_is_name
  size_fits
  refine ⟨_, _, rfl, kit_str, ?_⟩
  size_fits
  refine ok_lens (by rw [sz]; omega) ?_
  size_fits
  refine k_dt (by omega) ?_
  size_fits
  refine k_dt (by omega) ?_
  size_fits
  refine .inl ⟨_, rfl, ?_⟩
  refine lgo (I := fun i acc h1 => acc = List.replicate i (.bl true) ∧ h1 = h) (fun i acc h1 hi ⟨e1, e2⟩ => ⟨rfl, ?_⟩) (fun acc h1 ⟨e1, e2⟩ => ⟨rfl, ?_⟩) _ _ _ _ (by simp) ⟨rfl, rfl⟩
  · have hi : i < z.cps.size := hi
    refine ⟨.str ⟨#[z.cps[i]]⟩, _, ?_, rfl, ?_⟩
    · show (z.cps[i]?).map _ = _
      rw [Array.getElem?_eq_getElem hi]; rfl
    · size_fits
      show Ok (oIn _ _ _) _
      have : inStr ⟨#[z.cps[i]]⟩ abc = true := in_abc2 (hl _ (Array.mem_toList_iff.mpr (Array.getElem_mem hi)))
      unfold oIn
      simp only [oHas, this, Option.map_some, ok_some]
      refine ⟨?_, ?_, e2⟩
      · rw [e1, List.length_replicate, sz]
        have : z.length = z.cps.size := rfl
        omega
      · rw [e1, List.replicate_succ']
  · intro r h3 e3 F3 _
    rw [e1] at e3
    size_fits
    refine ok_all e3 ?_
    size_fits
    subst e2
    exact ⟨rfl, F3⟩
def knw (xs : List Str) : List (Key × OV) := xs.map fun x => (Sum.inr x, .bl true)
theorem getO_knw {xs : List Str} {x : Str} : (getO (knw xs) (Sum.inr x)).isSome = decide (x ∈ xs) := by
  induction xs with
  | nil => rfl
  | cons y ys ih =>
    unfold getO knw at ih ⊢
    simp only [List.map_cons, List.find?_cons, Sum.inr.injEq, List.mem_cons]
    by_cases e : y = x
    · simp [e]
    · simp only [e, decide_false, show (x = y ∨ x ∈ ys) ↔ x ∈ ys from ⟨fun z => z.resolve_left fun q => e q.symm, .inr⟩]
      exact ih
theorem putO_knw {xs : List Str} {x : Str} (h : x ∉ xs) : putO (knw xs) (Sum.inr x) (.bl true) = knw (xs ++ [x]) := by
  unfold putO
  have : ((knw xs).any fun kv => decide (kv.1 = Sum.inr x)) = false := by
    rw [List.any_eq_false]
    intro p hp
    unfold knw at hp
    obtain ⟨y, hy, rfl⟩ := List.mem_map.mp hp
    simp only [Sum.inr.injEq, decide_eq_true_eq]
    exact fun e => h (e ▸ hy)
  rw [this]
  simp [knw]
theorem in_dK {h : OH} {r : Nat} {kvs : List (Key × OV)} {x : Str} (e : h[r]? = some (.dK kvs)) : oHas h (.str x) (.ref r) = some (getO kvs (Sum.inr x)).isSome := by
  simp only [oHas, e, dGet, kOf, Option.map_some]
theorem put_dK {h : OH} {r : Nat} {kvs : List (Key × OV)} {x : Str} {v : OV} (e : h[r]? = some (.dK kvs)) (z : kvs.length < sizeLine) : oPut (.ref r) (.str x) v h = some (h.set r (.dK (putO kvs (Sum.inr x) v))) := by
  simp only [oPut, e, z, ↓reduceIte, kOf, Option.map_some]
theorem ok_in {h : OH} {x y : OV} {b : Bool} {Q : CE} (e : oHas h x y = some b) (q : Q (.bl b) h) : Ok (oIn x y h) Q := by
  unfold oIn; rw [e]; exact q
theorem ok_nin {h : OH} {x y : OV} {b : Bool} {Q : CE} (e : oHas h x y = some b) (q : Q (.bl (!b)) h) : Ok (oNotIn x y h) Q := by
  unfold oNotIn; rw [e]; exact q
theorem nms_at {xs : List Str} {i : Nat} (h : i < xs.length) : (nms xs)[i]? = some (.str xs[i]) := by
  unfold nms
  rw [List.getElem?_map, List.getElem?_eq_getElem h]; rfl
theorem nms_len {xs : List Str} : (nms xs).length = xs.length := by simp [nms]
theorem isT_l {h : OH} {r : Nat} {xs : List OV} (e : h[r]? = some (.lst xs)) : isT h "list" (.ref r) = true := by simp only [isT, e, beq_self_eq_true]
theorem tyN_l {h : OH} {r : Nat} {xs : List OV} (e : h[r]? = some (.lst xs)) : tyN h (.ref r) = some "list" := by simp only [tyN, e]
theorem take_next {α : Type} {xs : List α} {i : Nat} (h : i < xs.length) : xs.take i ++ [xs[i]] = xs.take (i + 1) := by
  rw [List.take_succ_eq_append_getElem h]
theorem nd_take {xs : List Str} (nd : xs.Nodup) {i : Nat} (h : i < xs.length) : xs[i] ∉ xs.take i := by
  intro hm
  obtain ⟨j, hj, e⟩ := List.mem_iff_getElem.mp hm
  rw [List.length_take] at hj
  rw [List.getElem_take] at e
  have := (List.getElem_inj nd).mp e
  omega
theorem sp_check {h : OH} {r : Nat} {xs : List Str} (e : h[r]? = some (.lst (nms xs))) (hn : ∀ z ∈ xs, NameS z) (nd : xs.Nodup) (l1 : 1 ≤ xs.length) (l2 : xs.length ≤ 40) :
    Ok (f_check_items [.ref r] h) (fun v h' => v = .non ∧ Fr No h h') := by
  refine ok_d rfl ?_
  unfold m_check_items
  size_fits
  refine ⟨_, _, tyN_l e, kit_list, ?_⟩
  size_fits
  intro k h1 e1 F1 lk
  size_fits
  have er := F1.keep _ _ id e
  refine ⟨_, _, rfl, er, ?_⟩
  refine fgo (I := fun i s h2 => (∃ v w, s = [some (.ref r), some (.ref k), v, w]) ∧ h2[k]? = some (.dK (knw (xs.take i))) ∧ Fr No h h2) (fun i s h2 hi ⟨⟨v, w, es⟩, e2, F2⟩ => ?_) (fun s h2 ⟨⟨v, w, es⟩, e2, F2⟩ => ?_) _ _ _ _ (by simp) ⟨⟨_, _, rfl⟩, e1, F1⟩
  · have hi : i < (nms xs).length := hi
    rw [nms_len] at hi
    have er2 := F2.keep _ _ id e
    refine ⟨lenIs_at er2 rfl, .tup [.int i, .str xs[i]], ?_, ?_⟩
    · show (itemL h2 r i).map _ = _
      rw [itemL_at er2, nms_at hi]; rfl
    subst es
    size_fits
    refine ⟨⟨rfl, rfl⟩, ?_⟩
    refine (sp_is_name (hn _ (List.getElem_mem hi))).mono fun v h3 ⟨ev, F3⟩ => ?_
    subst ev
    size_fits
    have e3 := F3.keep _ _ id e2
    refine ok_in (in_dK e3) ?_
    rw [getO_knw]
    size_fits
    refine k_df (nd_take nd hi) ?_
    size_fits
    refine ⟨_, put_dK e3 (by simp [knw, sz]; omega), ?_⟩
    size_fits
    refine ⟨⟨_, _, rfl⟩, ?_, ?_⟩
    · rw [at_set e3, putO_knw (nd_take nd hi), take_next hi]
    · exact ((F2.trans F3).no.trans (Fr.set (S := (· = k)) rfl)).new (S := No) fun a ea el => by omega
  · have er2 := F2.keep _ _ id e
    refine ⟨lenIs_at er2 rfl, ?_⟩
    subst es
    size_fits
    rw [nms_len]
    refine k_dt (by omega) ?_
    size_fits
    refine k_dt (by omega) ?_
    size_fits
    exact ⟨rfl, F2⟩
end Lw

set_option maxHeartbeats 4000000
namespace Lw
open PySem L2 O
local macro_rules | `(tactic| size_fits) => `(tactic| repeat' (first | (with_reducible refine ok_c ?_) | (with_reducible refine ok_op ?_) | (with_reducible refine ok_nil ?_) | (with_reducible refine ok_cons ?_) | (with_reducible refine ok_b ?_) | (with_reducible refine ok_call ?_) | (with_reducible refine ok_ix ?_) | (with_reducible refine ok_seq ?_) | (with_reducible refine ok_if ?_) | (with_reducible refine ok_set ?_) | (with_reducible refine ok_rt ?_) | (with_reducible refine ok_rtn ?_) | (with_reducible refine ok_ex ?_) | (with_reducible refine ok_nx ?_) | (with_reducible refine ok_asg ?_) | (with_reducible refine ok_par ?_) | (with_reducible refine ok_tb ?_) | (with_reducible refine ok_tt ?_) | (with_reducible refine ok_tn ?_) | (with_reducible refine ok_tor ?_) | (with_reducible refine ok_tand ?_) | (with_reducible refine ok_not ?_) | (with_reducible refine ok_ife ?_) | (with_reducible refine ok_chain ?_) | (with_reducible refine ok_sl ?_) | (with_reducible refine ok_part ?_) | (with_reducible refine ok_nopart ?_) | (with_reducible refine ok_bm ?_) | (with_reducible refine ok_bm0 ?_) | (with_reducible refine ok_lst ?_) | (with_reducible refine ok_tup ?_) | (with_reducible refine ok_dK ?_) | (with_reducible refine ok_fld ?_) | (with_reducible refine ok_dix ?_) | (with_reducible refine ok_isi ?_) | (with_reducible refine ok_meth ?_) | (with_reducible refine ok_make ?_) | (with_reducible refine ok_sfld ?_) | (with_reducible refine ok_rev ?_) | (with_reducible refine ok_gput ?_) | (with_reducible refine ok_gnm ?_) | (with_reducible refine ok_gsnil ?_) | (with_reducible refine ok_gscons ?_) | (with_reducible refine ok_and ?_) | (with_reducible refine ok_or ?_) | (with_reducible refine ok_iR1 ?_) | (with_reducible refine ok_iR2 ?_) | (with_reducible refine ok_iL ?_) | (with_reducible refine ok_iE ?_) | (with_reducible refine ok_lc ?_) | (with_reducible refine ok_dc ?_) | (with_reducible refine ok_for ?_) | (with_reducible refine ok_yes ?_) | (with_reducible refine k_fnx ?_) | (with_reducible refine k_fct ?_) | (with_reducible refine k_fbk ?_) | (with_reducible refine k_frt ?_) | (with_reducible refine k_nx ?_) | (with_reducible refine k_rt ?_) | (with_reducible refine k_bk ?_) | (with_reducible refine k_ct ?_) | (with_reducible refine k_drt ?_) | (with_reducible refine k_dnx ?_) | (with_reducible refine k_t ?_) | (with_reducible refine k_f ?_) | (with_reducible refine k_n ?_) | (with_reducible refine k_bl ?_) | (with_reducible refine k_tbl ?_) | (with_reducible refine ok_add ?_) | (with_reducible refine ok_sub ?_) | (with_reducible refine ok_lt ?_) | (with_reducible refine ok_le ?_) | (with_reducible refine ok_gt ?_) | (with_reducible refine ok_ge ?_) | (with_reducible refine ok_max ?_) | (with_reducible refine ok_min ?_) | (with_reducible refine ok_abs ?_) | (with_reducible refine ok_lenr ?_) | ((with_reducible apply ok_var); (· exact rfl)) | ((with_reducible apply ok_gtp); (· exact rfl)) | ((with_reducible refine ok_mod ?_ ?_); (· first | decide | omega)) | ((with_reducible refine ok_fdiv ?_ ?_ ?_); (· first | decide | omega); (· first | decide | omega)) | ((with_reducible apply ok_lenl); (· assumption)) | ((with_reducible apply ok_list); (· assumption))))
def plcF : Nat → List Str → List (Key × OV)
  | _, [] => []
  | n, x :: xs => (Sum.inr x, .int n) :: plcF (n + 1) xs
theorem plcF_app : ∀ (xs ys : List Str) (n : Nat), plcF n (xs ++ ys) = plcF n xs ++ plcF (n + xs.length) ys
  | [], ys, n => by simp [plcF]
  | x :: xs, ys, n => by
    simp only [List.cons_append, plcF, plcF_app xs ys, List.length_cons]
    rw [show n + 1 + xs.length = n + (xs.length + 1) by omega]
theorem plcF_key {n : Nat} {xs : List Str} {p : Key × OV} (h : p ∈ plcF n xs) : ∃ x ∈ xs, p.1 = Sum.inr x := by
  induction xs generalizing n with
  | nil => cases h
  | cons x xs ih =>
    rcases List.mem_cons.mp h with rfl | h
    · exact ⟨x, List.mem_cons_self, rfl⟩
    · obtain ⟨y, hy, e⟩ := ih h
      exact ⟨y, List.mem_cons_of_mem _ hy, e⟩
theorem plcF_len {n : Nat} {xs : List Str} : (plcF n xs).length = xs.length := by
  induction xs generalizing n with
  | nil => rfl
  | cons x xs ih => simp [plcF, ih]
theorem putO_plc {xs : List Str} {x : Str} (h : x ∉ xs) : putO (plcF 0 xs) (Sum.inr x) (.int xs.length) = plcF 0 (xs ++ [x]) := by
  unfold putO
  have : ((plcF 0 xs).any fun kv => decide (kv.1 = Sum.inr x)) = false := by
    rw [List.any_eq_false]
    intro p hp
    obtain ⟨y, hy, e⟩ := plcF_key hp
    rw [e]
    simp only [Sum.inr.injEq, decide_eq_true_eq]
    exact fun e => h (e ▸ hy)
  rw [this, plcF_app]
  simp [plcF]
theorem getO_plcF {n : Nat} {xs : List Str} {x : Str} : getO (plcF n xs) (Sum.inr x) = if x ∈ xs then some (.int (n + xs.idxOf x : Nat)) else none := by
  induction xs generalizing n with
  | nil => rfl
  | cons y ys ih =>
    unfold getO at ih ⊢
    simp only [plcF, List.find?_cons, Sum.inr.injEq, List.mem_cons]
    by_cases e : y = x
    · subst e; simp
    · simp only [e, decide_false]
      rw [ih]
      have e2 : ¬ x = y := fun q => e q.symm
      simp only [e2, false_or]
      split
      · rw [List.idxOf_cons]
        have : (y == x) = false := by simpa using e
        simp only [this, cond_false]
        congr 3
        omega
      · rfl
/-- a base of xs at b -/
def BaseAt (h : OH) (b : Nat) (xs : List Str) : Prop := ∃ l d, h[b]? = some (.ins "Base" [("item_list", .ref l), ("places", .ref d)]) ∧ h[l]? = some (.lst (nms xs)) ∧ h[d]? = some (.dK (plcF 0 xs))
theorem BaseAt.keep {h h' : OH} {b : Nat} {xs : List Str} (B : BaseAt h b xs) (F : Fr No h h') : BaseAt h' b xs := by
  obtain ⟨l, d, e1, e2, e3⟩ := B
  exact ⟨l, d, F.keep _ _ id e1, F.keep _ _ id e2, F.keep _ _ id e3⟩
theorem rg_ne {h : OH} {r a : Nat} {o : OO} (R : Rg h r) (e : h[a]? = some o) (n : ∀ x y, o ≠ .lst [.int x, .int y]) : ¬ a = r := by
  rintro rfl
  obtain ⟨x, y, e2⟩ := R
  rw [e] at e2
  exact n x y (Option.some.inj e2)
theorem nms_ne {xs : List Str} {x y : Int} : OO.lst (nms xs) ≠ .lst [.int x, .int y] := by
  intro e
  have e : nms xs = [.int x, .int y] := OO.lst.inj e
  cases xs with
  | nil => cases e
  | cons z zs => cases e
theorem BaseAt.keepR {h h' : OH} {b r : Nat} {xs : List Str} (B : BaseAt h b xs) (R : Rg h r) (F : Fr (· = r) h h') : BaseAt h' b xs := by
  obtain ⟨l, d, e1, e2, e3⟩ := B
  exact ⟨l, d, F.keep _ _ (rg_ne R e1 fun _ _ z => nomatch z) e1, F.keep _ _ (rg_ne R e2 fun _ _ => nms_ne) e2, F.keep _ _ (rg_ne R e3 fun _ _ z => nomatch z) e3⟩
theorem nms_keepR {h h' : OH} {a r : Nat} {xs : List Str} (e : h[a]? = some (.lst (nms xs))) (R : Rg h r) (F : Fr (· = r) h h') : h'[a]? = some (.lst (nms xs)) := F.keep _ _ (rg_ne R e fun _ _ => nms_ne) e
theorem sp_base {h : OH} {b r : Nat} {xs : List Str} (eb : h[b]? = some (.ins "Base" [])) (e : h[r]? = some (.lst (nms xs))) (hn : ∀ z ∈ xs, NameS z) (nd : xs.Nodup) (l1 : 1 ≤ xs.length) (l2 : xs.length ≤ 40) :
    Ok (f_Base___init__ [.ref b, .ref r] h) (fun v h' => v = .non ∧ Fr (· = b) h h' ∧ BaseAt h' b xs) := by
  refine ok_d rfl ?_
  unfold m_Base___init__
  size_fits
  refine ⟨⟨rfl, rfl⟩, ?_⟩
  refine (sp_check e hn nd l1 l2).mono fun v h1 ⟨ev, F1⟩ => ?_
  have er1 := F1.keep _ _ id e
  have eb1 := F1.keep _ _ id eb
  have nb : b ≠ r := by
    rintro rfl
    rw [eb] at e; cases e
  size_fits
  intro l h2 e2 F2 ll
  size_fits
  have eb2 := F2.keep _ _ id eb1
  have er2 := F2.keep _ _ id er1
  refine ⟨_, _, rfl, eb2, by simp, ?_⟩
  size_fits
  have er3 := at_ne (o := .ins "Base" (putFO "item_list" (.ref l) [])) nb er2
  have nl : b ≠ l := by
    rintro rfl
    rw [eb2] at e2; cases e2
  have el3 := at_ne (o := .ins "Base" (putFO "item_list" (.ref l) [])) nl e2
  have eb3 := at_set (o := .ins "Base" (putFO "item_list" (.ref l) [])) eb2
  have F3 : Fr (· = b) h (h2.set b (.ins "Base" (putFO "item_list" (.ref l) []))) := (F1.trans F2).no.trans (.set rfl)
  generalize h2.set b (.ins "Base" (putFO "item_list" (.ref l) [])) = h3 at er3 el3 eb3 F3 ⊢
  refine ⟨_, _, rfl, er3, ?_⟩
  refine dgo (I := fun i acc h4 => acc = plcF 0 (xs.take i) ∧ h4 = h3) (fun i acc h4 hi ⟨e4, e5⟩ => ?_) (fun acc h4 ⟨e4, e5⟩ => ?_) _ _ _ _ (by simp) ⟨rfl, rfl⟩
  · have hi : i < (nms xs).length := hi
    rw [nms_len] at hi
    subst e5
    refine ⟨lenIs_at er3 rfl, .tup [.int i, .str xs[i]], _, ?_, rfl, ?_⟩
    · show (itemL h4 r i).map _ = _
      rw [itemL_at er3, nms_at hi]; rfl
    size_fits
    refine ⟨_, rfl, ?_, ?_, rfl⟩
    · rw [e4, plcF_len, List.length_take, sz]; omega
    · rw [e4]
      have := putO_plc (nd_take nd hi)
      rw [List.length_take, Nat.min_eq_left (by omega)] at this
      rw [this, take_next hi]
  · subst e5
    refine ⟨lenIs_at er3 rfl, ?_⟩
    intro d h5 e5 F5 ld
    size_fits
    refine ⟨_, _, rfl, F5.keep _ _ id eb3, by simp [putFO], ?_⟩
    size_fits
    have eb5 := F5.keep _ _ id eb3
    have el5 := F5.keep _ _ id el3
    have e4 : acc = plcF 0 (xs.take (nms xs).length) := e4
    rw [nms_len, List.take_length] at e4
    subst e4
    refine ⟨rfl, (F3.trans F5.no).trans (.set rfl), l, d, ?_, ?_, ?_⟩
    · rw [at_set eb5]; rfl
    · exact at_ne (by rintro rfl; rw [eb5] at el5; cases el5) el5
    · exact at_ne (by rintro rfl; rw [eb5] at e5; cases e5) e5
theorem sp_len {h : OH} {b : Nat} {xs : List Str} (B : BaseAt h b xs) : Ok (f_Base___len__ [.ref b] h) (fun v h' => v = .int xs.length ∧ h' = h) := by
  obtain ⟨l, d, e1, e2, e3⟩ := B
  refine ok_d rfl ?_
  unfold m_Base___len__
  size_fits
  refine ⟨_, _, _, rfl, e1, rfl, ?_⟩
  size_fits
  exact ⟨by rw [nms_len], rfl⟩
theorem ok_lenI {h : OH} {C : Str} {m : MF} {r : Nat} {fs : List (Str × OV)} {Q : CE} (e : h[r]? = some (.ins C fs)) (q : Ok (m [.ref r] h) fun v h' => ∃ n : Int, v = .int n ∧ (0 ≤ n ∧ n < 2 ^ 63) ∧ Q (.int n) h') : Ok (bLenI C m [.ref r] h) Q := by
  unfold bLenI
  simp only [e, ↓reduceIte]
  rw [ok_bnd]
  refine q.mono fun v h1 ⟨n, ev, z, q⟩ => ?_
  subst ev
  simp only [z, and_self, ↓reduceIte]
  exact q
theorem sp_has {h : OH} {b : Nat} {xs : List Str} {x : Str} (B : BaseAt h b xs) : Ok (f_Base_has_item [.ref b, .str x] h) (fun v h' => v = .bl (decide (x ∈ xs)) ∧ h' = h) := by
  obtain ⟨l, d, e1, e2, e3⟩ := B
  refine ok_d rfl ?_
  unfold m_Base_has_item
  size_fits
  refine ⟨_, _, rfl, kit_str, _, rfl, ?_⟩
  size_fits
  refine ⟨_, _, _, rfl, e1, rfl, ?_⟩
  refine ok_in (in_dK e3) ?_
  size_fits
  refine ⟨?_, rfl⟩
  rw [getO_plcF]
  by_cases z : x ∈ xs <;> simp [z]
theorem sp_ritem {h : OH} {b : Nat} {xs : List Str} {x : Str} (B : BaseAt h b xs) (hx : x ∈ xs) : Ok (f_require_item [.ref b, .str x] h) (fun v h' => v = .non ∧ h' = h) := by
  have B0 := B
  obtain ⟨l, d, e1, e2, e3⟩ := B
  refine ok_d rfl ?_
  unfold m_require_item
  size_fits
  refine ⟨_, _, rfl, e1, rfl, ?_⟩
  size_fits
  refine ⟨⟨rfl, rfl⟩, ?_⟩
  refine (sp_has B0).mono fun v h1 ⟨ev, e⟩ => ?_
  subst ev; subst e
  rw [decide_eq_true hx]
  size_fits
  exact ⟨rfl, rfl⟩
theorem sp_pos {h : OH} {b : Nat} {xs : List Str} {x : Str} (B : BaseAt h b xs) (hx : x ∈ xs) : Ok (f_Base_position_of [.ref b, .str x] h) (fun v h' => v = .int (xs.idxOf x) ∧ h' = h) := by
  have B0 := B
  obtain ⟨l, d, e1, e2, e3⟩ := B
  refine ok_d rfl ?_
  unfold m_Base_position_of
  size_fits
  refine ⟨⟨rfl, rfl⟩, ?_⟩
  refine (sp_ritem B0 hx).mono fun v h1 ⟨ev, e⟩ => ?_
  subst ev; subst e
  size_fits
  refine ⟨_, _, _, rfl, e1, rfl, ?_⟩
  size_fits
  refine ⟨_, .int (xs.idxOf x), rfl, ?_, ?_⟩
  · simp only [dGet, e3, kOf, Option.map_some, getO_plcF, hx, ↓reduceIte, Nat.zero_add]
  · size_fits
    exact ⟨rfl, rfl⟩
theorem sp_prec {h : OH} {b : Nat} {xs : List Str} {x y : Str} (B : BaseAt h b xs) (hx : x ∈ xs) (hy : y ∈ xs) : Ok (f_Base_precedes [.ref b, .str x, .str y] h) (fun v h' => v = .bl (decide (xs.idxOf x < xs.idxOf y)) ∧ h' = h) := by
  have B0 := B
  obtain ⟨l, d, e1, e2, e3⟩ := B
  refine ok_d rfl ?_
  unfold m_Base_precedes
  size_fits
  refine ⟨_, _, rfl, e1, rfl, ?_⟩
  size_fits
  refine ⟨⟨rfl, rfl⟩, ?_⟩
  refine (sp_pos B0 hx).mono fun v h1 ⟨ev, e⟩ => ?_
  subst ev; subst e
  size_fits
  refine ⟨_, _, rfl, e1, rfl, ?_⟩
  size_fits
  refine ⟨⟨rfl, rfl⟩, ?_⟩
  refine (sp_pos B0 hy).mono fun v h1 ⟨ev, e⟩ => ?_
  subst ev; subst e
  size_fits
  refine ⟨?_, rfl⟩
  congr 2
  simp
theorem sp_names {h : OH} {b : Nat} {xs : List Str} (B : BaseAt h b xs) : Ok (f_Base_names [.ref b] h) (fun v h' => ∃ r, v = .ref r ∧ h'[r]? = some (.lst (nms xs)) ∧ Fr No h h') := by
  obtain ⟨l, d, e1, e2, e3⟩ := B
  refine ok_d rfl ?_
  unfold m_Base_names
  size_fits
  refine ⟨_, _, _, rfl, e1, rfl, ?_⟩
  size_fits
  intro r h2 e4 F lr
  size_fits
  exact ⟨_, rfl, e4, F⟩
end Lw

set_option maxHeartbeats 4000000
namespace Lw
open PySem L2 O
local macro_rules | `(tactic| size_fits) => `(tactic| repeat' (first | (with_reducible refine ok_c ?_) | (with_reducible refine ok_op ?_) | (with_reducible refine ok_nil ?_) | (with_reducible refine ok_cons ?_) | (with_reducible refine ok_b ?_) | (with_reducible refine ok_call ?_) | (with_reducible refine ok_ix ?_) | (with_reducible refine ok_seq ?_) | (with_reducible refine ok_if ?_) | (with_reducible refine ok_set ?_) | (with_reducible refine ok_rt ?_) | (with_reducible refine ok_rtn ?_) | (with_reducible refine ok_ex ?_) | (with_reducible refine ok_nx ?_) | (with_reducible refine ok_asg ?_) | (with_reducible refine ok_par ?_) | (with_reducible refine ok_tb ?_) | (with_reducible refine ok_tt ?_) | (with_reducible refine ok_tn ?_) | (with_reducible refine ok_tor ?_) | (with_reducible refine ok_tand ?_) | (with_reducible refine ok_not ?_) | (with_reducible refine ok_ife ?_) | (with_reducible refine ok_chain ?_) | (with_reducible refine ok_sl ?_) | (with_reducible refine ok_part ?_) | (with_reducible refine ok_nopart ?_) | (with_reducible refine ok_bm ?_) | (with_reducible refine ok_bm0 ?_) | (with_reducible refine ok_lst ?_) | (with_reducible refine ok_tup ?_) | (with_reducible refine ok_dK ?_) | (with_reducible refine ok_fld ?_) | (with_reducible refine ok_dix ?_) | (with_reducible refine ok_isi ?_) | (with_reducible refine ok_meth ?_) | (with_reducible refine ok_make ?_) | (with_reducible refine ok_sfld ?_) | (with_reducible refine ok_rev ?_) | (with_reducible refine ok_gput ?_) | (with_reducible refine ok_gnm ?_) | (with_reducible refine ok_gsnil ?_) | (with_reducible refine ok_gscons ?_) | (with_reducible refine ok_and ?_) | (with_reducible refine ok_or ?_) | (with_reducible refine ok_iR1 ?_) | (with_reducible refine ok_iR2 ?_) | (with_reducible refine ok_iL ?_) | (with_reducible refine ok_iE ?_) | (with_reducible refine ok_lc ?_) | (with_reducible refine ok_dc ?_) | (with_reducible refine ok_for ?_) | (with_reducible refine ok_yes ?_) | (with_reducible refine k_fnx ?_) | (with_reducible refine k_fct ?_) | (with_reducible refine k_fbk ?_) | (with_reducible refine k_frt ?_) | (with_reducible refine k_nx ?_) | (with_reducible refine k_rt ?_) | (with_reducible refine k_bk ?_) | (with_reducible refine k_ct ?_) | (with_reducible refine k_drt ?_) | (with_reducible refine k_dnx ?_) | (with_reducible refine k_t ?_) | (with_reducible refine k_f ?_) | (with_reducible refine k_n ?_) | (with_reducible refine k_bl ?_) | (with_reducible refine k_tbl ?_) | (with_reducible refine ok_add ?_) | (with_reducible refine ok_sub ?_) | (with_reducible refine ok_lt ?_) | (with_reducible refine ok_le ?_) | (with_reducible refine ok_gt ?_) | (with_reducible refine ok_ge ?_) | (with_reducible refine ok_max ?_) | (with_reducible refine ok_min ?_) | (with_reducible refine ok_abs ?_) | (with_reducible refine ok_lenr ?_) | ((with_reducible apply ok_var); (· exact rfl)) | ((with_reducible apply ok_gtp); (· exact rfl)) | ((with_reducible refine ok_mod ?_ ?_); (· first | decide | omega)) | ((with_reducible refine ok_fdiv ?_ ?_ ?_); (· first | decide | omega); (· first | decide | omega)) | ((with_reducible apply ok_lenl); (· assumption)) | ((with_reducible apply ok_list); (· assumption))))
theorem sp_isint {h : OH} {i : Int} : Ok (f_is_integer [.int i] h) (fun v h' => v = .bl true ∧ h' = h) := by
  refine ok_d rfl ?_
  unfold m_is_integer
  size_fits
  refine ⟨_, _, rfl, kit_int, _, rfl, ?_⟩
  size_fits
  refine ⟨_, _, rfl, kit_int_bool, ?_⟩
  size_fits
  exact ⟨rfl, rfl⟩
theorem sp_rindex {h : OH} {b : Nat} {xs : List Str} {i : Int} (B : BaseAt h b xs) (h0 : 0 ≤ i) (h1 : i + 1 < xs.length) (l2 : xs.length ≤ 1000) : Ok (f_require_index [.ref b, .int i] h) (fun v h' => v = .non ∧ h' = h) := by
  have B0 := B
  obtain ⟨l, d, eb, _, _⟩ := B0
  refine ok_d rfl ?_
  unfold m_require_index
  size_fits
  refine ⟨⟨rfl, rfl⟩, ?_⟩
  refine sp_isint.mono fun v h3 ⟨ev, e3⟩ => ?_
  subst ev; subst e3
  size_fits
  refine k_dt h0 ?_
  size_fits
  refine ok_lenI eb ((sp_len B).mono fun v h4 ⟨ev, e3⟩ => ⟨_, ev, by subst ev; omega, ?_⟩)
  subst e3
  size_fits
  refine k_dt (by omega) ?_
  size_fits
  exact ⟨rfl, rfl⟩
/-- the order with i and i + 1 exchanged -/
def swp (ys : List Str) (i : Nat) : List Str := ys.take i ++ (ys[i + 1]?.toList ++ ys[i]?.toList) ++ ys.drop (i + 2)
theorem ok_slL {h : OH} {r : Nat} {xs : List OV} {lo hi : Option Int} {Q : CE} (e : h[r]? = some (.lst xs)) (q : ∀ r2 h2, h2[r2]? = some (.lst (cutO xs lo hi)) → Fr No h h2 → h.length ≤ r2 → Q (.ref r2) h2) : Ok (oSl (.ref r) lo hi h) Q := by
  simp only [oSl, e]; exact ok_new q
theorem cut_to {xs : List OV} {i : Nat} (h : i ≤ xs.length) : cutO xs none (some (i : Int)) = xs.take i := by
  unfold cutO HT.sIx
  simp only [List.drop_zero, Nat.sub_zero]
  rw [if_neg (by omega)]
  simp only [Int.toNat_natCast]
  rw [Nat.min_eq_left h]
theorem cut_from {xs : List OV} {i : Nat} (h : i ≤ xs.length) : cutO xs (some (i : Int)) none = xs.drop i := by
  unfold cutO HT.sIx
  simp only
  rw [if_neg (by omega)]
  simp only [Int.toNat_natCast]
  rw [Nat.min_eq_left h, List.take_of_length_le (by simp)]
theorem nms_take {ys : List Str} {i : Nat} : (nms ys).take i = nms (ys.take i) := by simp [nms, List.map_take]
theorem nms_drop {ys : List Str} {i : Nat} : (nms ys).drop i = nms (ys.drop i) := by simp [nms, List.map_drop]
theorem nms_app {ys zs : List Str} : nms ys ++ nms zs = nms (ys ++ zs) := by simp [nms]
theorem z_nms {h : OH} {r : Nat} {ys : List Str} {i : Nat} {P : OV → Prop} (e : h[r]? = some (.lst (nms ys))) (hi : i < ys.length) (q : P (.str ys[i])) : ∃ v, oIx (.ref r) (.int i) h = some v ∧ P v := by
  refine z_ixl e (by omega) (by rw [nms_len]; omega) fun v ev => ?_
  rw [Int.toNat_natCast, nms_at hi] at ev
  cases ev; exact q
theorem swp_eq {ys : List Str} {i : Nat} (h : i + 1 < ys.length) : swp ys i = ys.take i ++ [ys[i + 1], ys[i]] ++ ys.drop (i + 2) := by
  unfold swp
  rw [List.getElem?_eq_getElem h, List.getElem?_eq_getElem (show i < ys.length by omega)]; rfl
theorem sp_exch {h : OH} {r : Nat} {ys : List Str} {i : Nat} (e : h[r]? = some (.lst (nms ys))) (hi : i + 1 < ys.length) (l2 : ys.length ≤ 1000) :
    Ok (f_exchange [.ref r, .int i] h) (fun v h' => ∃ r2, v = .ref r2 ∧ h'[r2]? = some (.lst (nms (swp ys i))) ∧ Fr No h h' ∧ h.length ≤ r2) := by
  refine ok_d rfl ?_
  unfold m_exchange
  size_fits
  refine ⟨_, rfl, ?_⟩
  refine ok_slL e fun r2 h2 e2 F2 l2' => ?_
  rw [cut_to (by rw [nms_len]; omega), nms_take] at e2
  have er2 := F2.keep _ _ id e
  size_fits
  refine z_nms er2 hi ?_
  size_fits
  refine z_nms er2 (show i < ys.length by omega) ?_
  size_fits
  refine ⟨by simp [sz], fun r3 h3 e3 F3 l3 => ?_⟩
  have e23 := F3.keep _ _ id e2
  have e3 : h3[r3]? = some (.lst (nms [ys[i + 1], ys[i]])) := e3
  refine ok_addl e23 e3 (by simp [nms_len, sz]; omega) fun r4 h4 e4 F4 l4 => ?_
  have er4 := F4.keep _ _ id (F3.keep _ _ id er2)
  size_fits
  refine ⟨_, rfl, ?_⟩
  size_fits
  refine ok_slL er4 fun r5 h5 e5 F5 l5 => ?_
  rw [show (i : Int) + 2 = ((i + 2 : Nat) : Int) by omega, cut_from (by rw [nms_len]; omega), nms_drop] at e5
  have e45 := F5.keep _ _ id e4
  rw [nms_app] at e45
  refine ok_addl e45 e5 (by simp [nms_len, sz]; omega) fun r6 h6 e6 F6 l6 => ?_
  size_fits
  rw [nms_app] at e6
  refine ⟨r6, rfl, by rw [e6, swp_eq hi], (((F2.trans F3).trans F4).trans F5).trans F6, ?_⟩
  have := F2.le; have := F3.le; have := F4.le; have := F5.le
  omega
/-- an order of the base -/
structure Ord (xs ys : List Str) : Prop where
  mem : ∀ z ∈ ys, z ∈ xs
  nd : ys.Nodup
  len : ys.length = xs.length
theorem sp_upright {h : OH} {b r : Nat} {xs ys : List Str} {i : Nat} (B : BaseAt h b xs) (e : h[r]? = some (.lst (nms ys))) (hm : ∀ z ∈ ys, z ∈ xs) (hi : i + 1 < ys.length) :
    Ok (f_is_upright [.ref b, .ref r, .int i] h) (fun v h' => v = .bl (decide (xs.idxOf (ys[i]'(by omega)) < xs.idxOf ys[i + 1])) ∧ h' = h) := by
  have B0 := B
  obtain ⟨l, d, eb, _, _⟩ := B0
  refine ok_d rfl ?_
  unfold m_is_upright
  size_fits
  refine ⟨_, _, rfl, eb, rfl, ?_⟩
  size_fits
  refine z_nms e (show i < ys.length by omega) ?_
  size_fits
  refine z_nms e hi ?_
  size_fits
  refine ⟨⟨rfl, rfl⟩, ?_⟩
  refine (sp_prec B (hm _ (List.getElem_mem _)) (hm _ (List.getElem_mem _))).mono fun v h3 ⟨ev, e3⟩ => ?_
  subst ev
  size_fits
  exact ⟨rfl, e3⟩
end Lw

set_option maxHeartbeats 4000000
namespace Lw
open PySem L2 O
local macro_rules | `(tactic| size_fits) => `(tactic| repeat' (first | (with_reducible refine ok_c ?_) | (with_reducible refine ok_op ?_) | (with_reducible refine ok_nil ?_) | (with_reducible refine ok_cons ?_) | (with_reducible refine ok_b ?_) | (with_reducible refine ok_call ?_) | (with_reducible refine ok_ix ?_) | (with_reducible refine ok_seq ?_) | (with_reducible refine ok_if ?_) | (with_reducible refine ok_set ?_) | (with_reducible refine ok_rt ?_) | (with_reducible refine ok_rtn ?_) | (with_reducible refine ok_ex ?_) | (with_reducible refine ok_nx ?_) | (with_reducible refine ok_asg ?_) | (with_reducible refine ok_par ?_) | (with_reducible refine ok_tb ?_) | (with_reducible refine ok_tt ?_) | (with_reducible refine ok_tn ?_) | (with_reducible refine ok_tor ?_) | (with_reducible refine ok_tand ?_) | (with_reducible refine ok_not ?_) | (with_reducible refine ok_ife ?_) | (with_reducible refine ok_chain ?_) | (with_reducible refine ok_sl ?_) | (with_reducible refine ok_part ?_) | (with_reducible refine ok_nopart ?_) | (with_reducible refine ok_bm ?_) | (with_reducible refine ok_bm0 ?_) | (with_reducible refine ok_lst ?_) | (with_reducible refine ok_tup ?_) | (with_reducible refine ok_dK ?_) | (with_reducible refine ok_fld ?_) | (with_reducible refine ok_dix ?_) | (with_reducible refine ok_isi ?_) | (with_reducible refine ok_meth ?_) | (with_reducible refine ok_make ?_) | (with_reducible refine ok_sfld ?_) | (with_reducible refine ok_rev ?_) | (with_reducible refine ok_gput ?_) | (with_reducible refine ok_gnm ?_) | (with_reducible refine ok_gsnil ?_) | (with_reducible refine ok_gscons ?_) | (with_reducible refine ok_and ?_) | (with_reducible refine ok_or ?_) | (with_reducible refine ok_iR1 ?_) | (with_reducible refine ok_iR2 ?_) | (with_reducible refine ok_iL ?_) | (with_reducible refine ok_iE ?_) | (with_reducible refine ok_lc ?_) | (with_reducible refine ok_dc ?_) | (with_reducible refine ok_for ?_) | (with_reducible refine ok_yes ?_) | (with_reducible refine k_fnx ?_) | (with_reducible refine k_fct ?_) | (with_reducible refine k_fbk ?_) | (with_reducible refine k_frt ?_) | (with_reducible refine k_nx ?_) | (with_reducible refine k_rt ?_) | (with_reducible refine k_bk ?_) | (with_reducible refine k_ct ?_) | (with_reducible refine k_drt ?_) | (with_reducible refine k_dnx ?_) | (with_reducible refine k_t ?_) | (with_reducible refine k_f ?_) | (with_reducible refine k_n ?_) | (with_reducible refine k_bl ?_) | (with_reducible refine k_tbl ?_) | (with_reducible refine ok_add ?_) | (with_reducible refine ok_sub ?_) | (with_reducible refine ok_lt ?_) | (with_reducible refine ok_le ?_) | (with_reducible refine ok_gt ?_) | (with_reducible refine ok_ge ?_) | (with_reducible refine ok_max ?_) | (with_reducible refine ok_min ?_) | (with_reducible refine ok_abs ?_) | (with_reducible refine ok_lenr ?_) | ((with_reducible apply ok_var); (· exact rfl)) | ((with_reducible apply ok_gtp); (· exact rfl)) | ((with_reducible refine ok_mod ?_ ?_); (· first | decide | omega)) | ((with_reducible refine ok_fdiv ?_ ?_ ?_); (· first | decide | omega); (· first | decide | omega)) | ((with_reducible apply ok_lenl); (· assumption)) | ((with_reducible apply ok_list); (· assumption))))
theorem k_any {U V : OH → Prop} {c : Bool} {h : OH} (e1 : U h) (e2 : V h) : kB U V c h := by cases c <;> assumption
theorem z_ixA {h : OH} {r : Nat} {xs : List OV} {i : Int} {P R : OV → Prop} (e : h[r]? = some (.lst xs)) (h0 : 0 ≤ i) (h1 : i < xs.length) (hR : ∀ x ∈ xs, R x) (q : ∀ v, R v → P v) : ∃ v, oIx (.ref r) (.int i) h = some v ∧ P v :=
  z_ixl e h0 h1 fun v ev => q v (hR v (List.mem_of_getElem? ev))
theorem Rg.keep {h h' : OH} {r : Nat} (R : Rg h r) (F : Fr No h h') : Rg h' r := let ⟨a, b, e⟩ := R; ⟨a, b, F.keep _ _ id e⟩
theorem Rg.lt {h : OH} {r : Nat} (R : Rg h r) : r < h.length := let ⟨_, _, e⟩ := R; lt_of e
theorem sp_rng {h : OH} {ns : List Int} {k : Nat} (hk : k < 1000) : Ok (f__law_rng [.rol (ns.map OV.int), .int k] h) (fun v h' => ∃ r, v = .ref r ∧ Rg h' r ∧ Fr No h h' ∧ h.length ≤ r) := by
  refine ok_d rfl ?_
  unfold m__law_rng
  refine ok_mid (fun f h1 => ∃ c : Int, f = .nx [some (.rol (ns.map OV.int)), some (.int k), some (.int c)] ∧ h1 = h) ?_ fun f h1 ⟨c, ef, eh⟩ => ?_
  · size_fits
    refine k_d (fun hl => ?_) fun _ => ?_
    · size_fits
      simp only [List.length_map] at hl
      have hk2 : k < ns.length := by omega
      refine ⟨.int ns[k], ?_, ?_⟩
      · show atI (ns.map OV.int) k = _
        rw [at_i (by omega) (by simp; omega), Int.toNat_natCast, List.getElem?_map, List.getElem?_eq_getElem hk2]; rfl
      size_fits
      exact ⟨_, rfl, rfl⟩
    · size_fits
      exact ⟨_, rfl, rfl⟩
  subst ef; subst eh
  size_fits
  refine ok_pow (by decide) (by decide) (by decide) ?_
  size_fits
  refine ok_mul (.inl (by decide)) ?_
  size_fits
  have b1 := Int.emod_nonneg c (show (2147483543 : Int) ≠ 0 by decide)
  have b2 := Int.emod_lt_of_pos c (show (0 : Int) < 2147483543 by decide)
  refine ok_pow (by decide) (by decide) (by omega) ?_
  size_fits
  refine ⟨by simp [sz], fun r h2 e2 F2 l2 => ?_⟩
  size_fits
  exact ⟨r, rfl, ⟨_, _, e2⟩, F2, l2⟩
theorem abc_at : ∀ d, d < 26 → atI abc.cps.toList ((d : Nat) : Int) = some (97 + d) := by decide +kernel
theorem z_abc {h : OH} {d : Int} {P : OV → Prop} (h0 : 0 ≤ d) (h1 : d < 26) (q : P (.str ⟨#[97 + d.toNat]⟩)) : ∃ v, oIx (.str abc) (.int d) h = some v ∧ P v := by
  refine ⟨_, ?_, q⟩
  have e : ((d.toNat : Nat) : Int) = d := by omega
  have := abc_at d.toNat (by omega)
  rw [e] at this
  simp only [oIx, this, Option.map_some]
  rw [if_pos (by decide +kernel)]
def one (c : Nat) : Str := ⟨#[c]⟩
theorem glue_fold : ∀ (ps : List Str) (a : Array Nat), (ps.foldl (fun acc p => acc ++ (PySem.Str.ofString "").cps ++ p.cps) a).toList = a.toList ++ ps.flatMap fun p => p.cps.toList
  | [], a => by simp
  | p :: ps, a => by
    rw [List.foldl_cons, glue_fold ps]
    have : (PySem.Str.ofString "").cps = #[] := rfl
    simp [this]
theorem join_one : ∀ cs : List Nat, (Txt.join (PySem.Str.ofString "") (cs.map one)).cps.toList = cs
  | [] => rfl
  | c :: cs => by
    show (((cs.map one)).foldl (fun acc p => acc ++ (PySem.Str.ofString "").cps ++ p.cps) #[c]).toList = _
    rw [glue_fold]
    have : ∀ cs : List Nat, ((cs.map one).flatMap fun p => p.cps.toList) = cs := by
      intro cs
      induction cs with
      | nil => rfl
      | cons c cs ih => rw [List.map_cons, List.flatMap_cons, ih]; rfl
    rw [this]; rfl
theorem join_len {cs : List Nat} : (Txt.join (PySem.Str.ofString "") (cs.map one)).length = cs.length := by
  have := congrArg List.length (join_one cs)
  simpa [PySem.Str.length] using this
theorem strsO_nms : ∀ xs : List Str, strsO (nms xs) = some xs
  | [] => rfl
  | x :: xs => by
    show (strsO (nms xs)).map _ = _
    rw [strsO_nms xs]; rfl
theorem ok_join {h : OH} {a : Nat} {z : Str} {xs : List Str} {Q : CE} (e : h[a]? = some (.lst (nms xs))) (l : (xs.map fun x => x.length).sum + xs.length * z.length ≤ 16777216) (q : Q (.str (Txt.join z xs)) h) : Ok (mJoin (.str z) [.ref a] h) Q := by
  simp only [mJoin, e, strsO_nms, Option.bind_some, l, ↓reduceIte]; exact q
theorem has_nms {h : OH} {u : Nat} {us : List Str} {x : Str} (e : h[u]? = some (.lst (nms us))) (hx : Low x) (hu : ∀ z ∈ us, Low z) : oHas h (.str x) (.ref u) = some (decide (x ∈ us)) := by
  have h2 : toD h 10 (.str x) = some (.str x) := rfl
  simp only [oHas, e, toDs_strs (f := toD h 10) (fun _ => rfl), Option.bind_some, h2, shp_str hx, shp_strs hu, Bool.and_self, ↓reduceIte]
  congr 1
  induction us with
  | nil => rfl
  | cons y ys ih =>
    simp only [List.map_cons, List.any_cons, List.mem_cons]
    have hr : ∀ z ∈ ys, Low z := fun z hz => hu z (List.mem_cons_of_mem _ hz)
    have ih' : ((ys.map PyData.str).any fun z => z.eqv (.str x)) = decide (x ∈ ys) := by
      clear ih e
      induction ys with
      | nil => rfl
      | cons w ws ih2 =>
        simp only [List.map_cons, List.any_cons, List.mem_cons]
        rw [ih2 (fun z hz => hu z (by rcases List.mem_cons.mp hz with rfl | q; exact List.mem_cons_self; exact List.mem_cons_of_mem _ (List.mem_cons_of_mem _ q))) (fun z hz => hr z (List.mem_cons_of_mem _ hz))]
        have : PyData.eqv (.str w) (.str x) = decide (x = w) := by
          simp only [PyData.eqv]
          by_cases q : x = w
          · subst q; simp
          · have q2 : ¬ w = x := fun z => q z.symm
            simp [q, q2]
        rw [this, Bool.decide_or]
    rw [ih']
    have : PyData.eqv (.str y) (.str x) = decide (x = y) := by
      simp only [PyData.eqv]
      by_cases q : x = y
      · subst q; simp
      · have q2 : ¬ y = x := fun z => q z.symm
        simp [q, q2]
    rw [this, Bool.decide_or]
/-- more than fits -/
theorem pigeon {α : Type} [DecidableEq α] : ∀ {l u : List α}, l.Nodup → (∀ x ∈ l, x ∈ u) → l.length ≤ u.length
  | [], _, _, _ => Nat.zero_le _
  | x :: xs, u, nd, h => by
    have hx : x ∈ u := h x List.mem_cons_self
    rw [List.nodup_cons] at nd
    have := pigeon (l := xs) (u := u.erase x) nd.2 fun y hy => (List.mem_erase_of_ne (fun e => by rw [e] at hy; exact nd.1 hy)).mpr (h y (List.mem_cons_of_mem _ hy))
    rw [List.length_erase_of_mem hx] at this
    have : 0 < u.length := List.length_pos_of_mem hx
    simp only [List.length_cons]
    omega
def cand (z : Str) (k : Nat) : Str := cutS z none (some 6) ++ one (97 + k / 26) ++ one (97 + k % 26)
theorem cps_app {x y : Str} : (x ++ y).cps = x.cps ++ y.cps := rfl
theorem cand_list {z : Str} {k : Nat} : (cand z k).cps.toList = (cutS z none (some 6)).cps.toList ++ [97 + k / 26, 97 + k % 26] := by
  unfold cand
  rw [cps_app, cps_app]
  simp [one]
theorem cut6 {z : Str} : (cutS z none (some 6)).cps.toList = z.cps.toList.take (min 6 z.length) := by
  unfold cutS HT.sIx
  simp only [List.drop_zero, Nat.sub_zero]
  rfl
theorem cand_name {z : Str} {k : Nat} (hz : Low z) (hk : k < 676) : NameS (cand z k) := by
  have e := cand_list (z := z) (k := k)
  rw [cut6] at e
  have l : (cand z k).length = (z.cps.toList.take (min 6 z.length)).length + 2 := by
    have := congrArg List.length e
    rw [List.length_append] at this
    exact this
  rw [List.length_take] at l
  refine ⟨fun c hc => ?_, by omega, by omega⟩
  rw [e] at hc
  rcases List.mem_append.mp hc with q | q
  · exact hz c (List.mem_of_mem_take q)
  · simp only [List.mem_cons, List.not_mem_nil, or_false] at q
    rcases q with rfl | rfl <;> omega
theorem cand_inj {z : Str} {j k : Nat} (e : cand z j = cand z k) : j = k := by
  have e := congrArg (fun z : Str => z.cps.toList) e
  simp only [cand_list] at e
  have := List.append_cancel_left e
  simp only [List.cons.injEq, and_true] at this
  omega
def fresh (z : Str) : List Str := z :: (List.range 676).map (cand z)
theorem fresh_low {z w : Str} (hz : NameS z) (h : w ∈ fresh z) : NameS w := by
  rcases List.mem_cons.mp h with rfl | h
  · exact hz
  · obtain ⟨k, hk, rfl⟩ := List.mem_map.mp h
    exact cand_name hz.1 (List.mem_range.mp hk)
theorem map_nodup {α β : Type} {f : α → β} {l : List α} (hf : ∀ a b, f a = f b → a = b) (h : l.Nodup) : (l.map f).Nodup := by
  induction l with
  | nil => simp
  | cons x xs ih =>
    rw [List.nodup_cons] at h
    rw [List.map_cons, List.nodup_cons]
    refine ⟨fun hm => ?_, ih h.2⟩
    obtain ⟨y, hy, e⟩ := List.mem_map.mp hm
    exact h.1 (hf _ _ e ▸ hy)
theorem fresh_some {z : Str} {us : List Str} (h : us.length < 676) : ∃ w ∈ fresh z, w ∉ us := by
  refine Classical.byContradiction fun n => ?_
  have all : ∀ w ∈ (List.range 676).map (cand z), w ∈ us := fun w hw => Classical.byContradiction fun q => n ⟨w, List.mem_cons_of_mem _ hw, q⟩
  have := pigeon (map_nodup (fun _ _ e => cand_inj e) List.nodup_range) all
  simp at this
  omega
theorem nms_snoc {xs : List Str} {x : Str} : nms xs ++ [.str x] = nms (xs ++ [x]) := by simp [nms]
theorem ok_eqI {h : OH} {i j : Int} {Q : CE} (q : Q (.bl (i == j)) h) : Ok (oEq (.int i) (.int j) h) Q :=
  ok_eqD (d := .int i) (e := .int j) rfl rfl rfl rfl (by simpa only [PyData.eqv] using q)
theorem words_ok : ∀ x ∈ [OV.str (PySem.Str.ofString "swap"), .str (PySem.Str.ofString "move"), .str (PySem.Str.ofString "base"), .str (PySem.Str.ofString "users"), .str (PySem.Str.ofString "merged"), .str (PySem.Str.ofString "log"), .str (PySem.Str.ofString "ok"), .str (PySem.Str.ofString "undo")], ∃ z, x = .str z ∧ NameS z := by
  have d : ∀ z : Str, ((z.cps.toList.all fun c => decide (97 ≤ c) && decide (c ≤ 122)) && (decide (1 ≤ z.length) && decide (z.length ≤ 8))) = true → NameS z := by
    intro z hz
    simp only [Bool.and_eq_true, List.all_eq_true, decide_eq_true_eq] at hz
    exact ⟨hz.1, hz.2⟩
  intro x hx
  simp only [List.mem_cons, List.not_mem_nil, or_false] at hx
  rcases hx with rfl | rfl | rfl | rfl | rfl | rfl | rfl | rfl <;> exact ⟨_, rfl, d _ (by decide +kernel)⟩
end Lw

set_option maxHeartbeats 4000000
namespace Lw
open PySem L2 O
local macro_rules | `(tactic| size_fits) => `(tactic| repeat' (first | (with_reducible refine ok_c ?_) | (with_reducible refine ok_op ?_) | (with_reducible refine ok_nil ?_) | (with_reducible refine ok_cons ?_) | (with_reducible refine ok_b ?_) | (with_reducible refine ok_call ?_) | (with_reducible refine ok_ix ?_) | (with_reducible refine ok_seq ?_) | (with_reducible refine ok_if ?_) | (with_reducible refine ok_set ?_) | (with_reducible refine ok_rt ?_) | (with_reducible refine ok_rtn ?_) | (with_reducible refine ok_ex ?_) | (with_reducible refine ok_nx ?_) | (with_reducible refine ok_asg ?_) | (with_reducible refine ok_par ?_) | (with_reducible refine ok_tb ?_) | (with_reducible refine ok_tt ?_) | (with_reducible refine ok_tn ?_) | (with_reducible refine ok_tor ?_) | (with_reducible refine ok_tand ?_) | (with_reducible refine ok_not ?_) | (with_reducible refine ok_ife ?_) | (with_reducible refine ok_chain ?_) | (with_reducible refine ok_sl ?_) | (with_reducible refine ok_part ?_) | (with_reducible refine ok_nopart ?_) | (with_reducible refine ok_bm ?_) | (with_reducible refine ok_bm0 ?_) | (with_reducible refine ok_lst ?_) | (with_reducible refine ok_tup ?_) | (with_reducible refine ok_dK ?_) | (with_reducible refine ok_fld ?_) | (with_reducible refine ok_dix ?_) | (with_reducible refine ok_isi ?_) | (with_reducible refine ok_meth ?_) | (with_reducible refine ok_make ?_) | (with_reducible refine ok_sfld ?_) | (with_reducible refine ok_rev ?_) | (with_reducible refine ok_gput ?_) | (with_reducible refine ok_gnm ?_) | (with_reducible refine ok_gsnil ?_) | (with_reducible refine ok_gscons ?_) | (with_reducible refine ok_and ?_) | (with_reducible refine ok_or ?_) | (with_reducible refine ok_iR1 ?_) | (with_reducible refine ok_iR2 ?_) | (with_reducible refine ok_iL ?_) | (with_reducible refine ok_iE ?_) | (with_reducible refine ok_lc ?_) | (with_reducible refine ok_dc ?_) | (with_reducible refine ok_for ?_) | (with_reducible refine ok_yes ?_) | (with_reducible refine k_fnx ?_) | (with_reducible refine k_fct ?_) | (with_reducible refine k_fbk ?_) | (with_reducible refine k_frt ?_) | (with_reducible refine k_nx ?_) | (with_reducible refine k_rt ?_) | (with_reducible refine k_bk ?_) | (with_reducible refine k_ct ?_) | (with_reducible refine k_drt ?_) | (with_reducible refine k_dnx ?_) | (with_reducible refine k_t ?_) | (with_reducible refine k_f ?_) | (with_reducible refine k_n ?_) | (with_reducible refine k_bl ?_) | (with_reducible refine k_tbl ?_) | (with_reducible refine ok_add ?_) | (with_reducible refine ok_sub ?_) | (with_reducible refine ok_lt ?_) | (with_reducible refine ok_le ?_) | (with_reducible refine ok_gt ?_) | (with_reducible refine ok_ge ?_) | (with_reducible refine ok_max ?_) | (with_reducible refine ok_min ?_) | (with_reducible refine ok_abs ?_) | (with_reducible refine ok_lenr ?_) | ((with_reducible apply ok_var); (· exact rfl)) | ((with_reducible apply ok_gtp); (· exact rfl)) | ((with_reducible refine ok_mod ?_ ?_); (· first | decide | omega)) | ((with_reducible refine ok_fdiv ?_ ?_ ?_); (· first | decide | omega); (· first | decide | omega)) | ((with_reducible apply ok_lenl); (· assumption)) | ((with_reducible apply ok_list); (· assumption))))
theorem sum_one : ∀ cs : List Nat, ((cs.map one).map fun x : Str => x.length).sum = cs.length
  | [] => rfl
  | c :: cs => by
    simp only [List.map_cons, List.sum_cons, List.length_cons, sum_one cs]
    have : (one c).length = 1 := rfl
    omega
theorem len_app1 {x : Str} {c : Nat} : (x ++ (⟨#[c]⟩ : Str)).length = x.length + 1 := by
  show (x.cps ++ #[c]).size = x.cps.size + 1
  simp
theorem sp_name {h : OH} {r u : Nat} {us : List Str} (R : Rg h r) (e : h[u]? = some (.lst (nms us))) (hu : ∀ z ∈ us, Low z) (lu : us.length < 676) :
    Ok (f__law_name [.ref r, .ref u] h) (fun v h' => ∃ z, v = .str z ∧ NameS z ∧ z ∉ us ∧ Rg h' r ∧ Fr (· = r) h h') := by
  refine ok_d rfl ?_
  unfold m__law_name
  size_fits
  refine ⟨⟨rfl, rfl⟩, ?_⟩
  refine (sp_draw R (by decide) (by decide)).mono fun v h1 ⟨d1, ev, d1a, d1b, R1, F1⟩ => ?_
  subst ev
  have e1 := nms_keepR e R F1
  size_fits
  refine ⟨by simp [sz], fun r2 h2 e2 F2 l2 => ?_⟩
  have R2 := R1.keep F2
  size_fits
  refine ⟨⟨rfl, rfl⟩, ?_⟩
  refine (sp_draw R2 (by decide) (by decide)).mono fun v h3 ⟨d2, ev, d2a, d2b, R3, F3⟩ => ?_
  subst ev
  have ne2 : r2 ≠ r := by have := R1.lt; omega
  have e3 := F3.keep _ _ ne2 e2
  have eu3 := nms_keepR (F2.keep _ _ id e1) R2 F3
  size_fits
  refine z_ixA (R := fun x => ∃ n : Int, x = .int n ∧ 1 ≤ n ∧ n ≤ 8) e3 d2a (by simpa using d2b) (fun x hx => ?_) fun v ⟨n, ev, n1, n2⟩ => ?_
  · simp only [List.mem_cons, List.not_mem_nil, or_false] at hx
    rcases hx with rfl | rfl | rfl | rfl
    · exact ⟨1, rfl, by decide, by decide⟩
    · exact ⟨1, rfl, by decide, by decide⟩
    · exact ⟨2, rfl, by decide, by decide⟩
    · exact ⟨_, rfl, by omega, by omega⟩
  subst ev
  have FF : Fr (· = r) h h3 := (F1.trans F2.no).trans F3
  refine k_nx ?_
  -- the drawn letters
  refine ok_mid (fun f h' => ∃ z : Str, f = .nx [some (.ref r), some (.ref u), some (.str abc), some (.int n), some (.str z), none, none, none] ∧ NameS z ∧ Rg h' r ∧ Fr (· = r) h h' ∧ h'[u]? = some (.lst (nms us))) ?_ fun f h4 ⟨z, ef, hz, R4, F4, e4⟩ => ?_
  · size_fits
    refine ⟨rfl, ?_⟩
    size_fits
    refine ⟨n, rfl, by omega, ?_⟩
    refine lgo (I := fun i acc h' => (∃ cs : List Nat, acc = nms (cs.map one) ∧ cs.length = i ∧ ∀ c ∈ cs, 97 ≤ c ∧ c ≤ 122) ∧ Rg h' r ∧ Fr (· = r) h h' ∧ h'[u]? = some (.lst (nms us))) (fun i acc h' hi ⟨⟨cs, ea, lc, hc⟩, R5, F5, e5⟩ => ⟨rfl, .int (0 + i), _, rfl, rfl, ?_⟩) (fun acc h' ⟨⟨cs, ea, lc, hc⟩, R5, F5, e5⟩ => ⟨rfl, ?_⟩) _ _ _ _ (by simp) ⟨⟨[], rfl, rfl, by simp⟩, R3, FF, eu3⟩
    · size_fits
      refine ⟨⟨rfl, rfl⟩, ?_⟩
      refine (sp_draw R5 (by decide) (by decide)).mono fun v h6 ⟨d, ev, da, db, R6, F6⟩ => ?_
      subst ev
      have hi : i < n.toNat := hi
      refine z_abc da db ?_
      refine ⟨?_, ⟨cs ++ [97 + d.toNat], ?_, by simp [lc], ?_⟩, R6, F5.trans F6, nms_keepR e5 R5 F6⟩
      · rw [ea, nms_len, List.length_map, lc, sz]; omega
      · rw [ea, List.map_append, ← nms_app]; rfl
      · intro c hc2
        rcases List.mem_append.mp hc2 with q | q
        · exact hc c q
        · simp only [List.mem_cons, List.not_mem_nil, or_false] at q
          omega
    · intro a h6 e6 F6 l6
      have lc : cs.length = n.toNat := lc
      rw [ea] at e6
      size_fits
      refine ok_join e6 ?_ ?_
      · have : (PySem.Str.ofString "").length = 0 := rfl
        rw [this, sum_one]; omega
      size_fits
      refine ⟨_, rfl, ⟨fun c hc2 => ?_, ?_, ?_⟩, R5.keep F6, F5.trans F6.no, F6.keep _ _ id e5⟩
      · rw [join_one] at hc2; exact hc c hc2
      · rw [join_len]; omega
      · rw [join_len]; omega
  subst ef
  refine k_nx ?_
  -- a word of the console
  refine ok_mid (fun f h' => ∃ z : Str, f = .nx [some (.ref r), some (.ref u), some (.str abc), some (.int n), some (.str z), none, none, none] ∧ NameS z ∧ Rg h' r ∧ Fr (· = r) h h' ∧ h'[u]? = some (.lst (nms us))) ?_ fun f h4 ⟨z, ef, hz, R4, F4, e4⟩ => ?_
  · size_fits
    refine ⟨⟨rfl, rfl⟩, ?_⟩
    refine (sp_draw R4 (by decide) (by decide)).mono fun v h6 ⟨d, ev, da, db, R6, F6⟩ => ?_
    subst ev
    size_fits
    refine ok_eqI ?_
    size_fits
    refine k_any ?_ ?_
    · size_fits
      refine ⟨by simp [sz], fun a h7 e7 F7 l7 => ?_⟩
      size_fits
      refine ⟨⟨rfl, rfl⟩, ?_⟩
      refine (sp_draw (R6.keep F7) (by decide) (by decide)).mono fun v h8 ⟨d3, ev, d3a, d3b, R8, F8⟩ => ?_
      subst ev
      have na : a ≠ r := by have := R6.lt; omega
      refine z_ixA (R := fun x => ∃ z, x = .str z ∧ NameS z) (F8.keep _ _ na e7) d3a (by simpa using d3b) words_ok fun v ⟨w, ev, hw⟩ => ?_
      subst ev
      size_fits
      exact ⟨w, rfl, hw, R8, ((F4.trans F6).trans F7.no).trans F8, nms_keepR (F7.keep _ _ id (nms_keepR e4 R4 F6)) (R6.keep F7) F8⟩
    · size_fits
      exact ⟨z, rfl, hz, R6, F4.trans F6, nms_keepR e4 R4 F6⟩
  subst ef
  size_fits
  refine ⟨by simp [sz], fun a h5 e5 F5 l5 => ?_⟩
  have e5 : h5[a]? = some (.lst (nms [z])) := e5
  size_fits
  refine ⟨676, rfl, by decide, ?_⟩
  refine lgo (I := fun i acc h' => acc = nms ((List.range i).map (cand z)) ∧ h' = h5) (fun i acc h' hi ⟨ea, eh⟩ => ⟨rfl, OV.int (0 + i), _, rfl, rfl, ?_⟩) (fun acc h' ⟨ea, eh⟩ => ⟨rfl, ?_⟩) _ _ _ _ (by simp) ⟨rfl, rfl⟩
  · have hi : i < 676 := hi
    size_fits
    refine ⟨_, rfl, ?_⟩
    have lz := hz.2.2
    show Ok (if z.length ≤ sizeLine then some (OV.str (cutS z none (some 6)), h') else none) _
    rw [if_pos (by rw [sz]; omega)]
    refine (show Ok (some (OV.str (cutS z none (some 6)), h')) _ from ?_)
    rw [ok_some]
    size_fits
    have l1 : (cutS z none (some 6)).length ≤ 6 := by
      have := congrArg List.length (cut6 (z := z))
      rw [List.length_take] at this
      have e : (cutS z none (some 6)).cps.toList.length = (cutS z none (some 6)).length := rfl
      omega
    refine z_abc (by omega) (by omega) ?_
    refine ok_adds ?_ ?_
    · show _ + 1 ≤ _
      rw [sz]; omega
    size_fits
    refine z_abc (by omega) (by omega) ?_
    refine ok_adds ?_ ?_
    · rw [len_app1]
      show _ + 1 ≤ _
      rw [sz]; omega
    refine ⟨?_, ?_, eh⟩
    · rw [ea, nms_len, List.length_map, List.length_range, sz]; omega
    · rw [ea, List.range_succ, List.map_append, ← nms_app]
      have q1 : (0 + (i : Int)) / 26 = ((i / 26 : Nat) : Int) := by omega
      have q2 : (0 + (i : Int)) % 26 = ((i % 26 : Nat) : Int) := by omega
      rw [q1, q2]; rfl
  subst eh
  intro b h6 e6 F6 l6
  have e5b := F6.keep _ _ id e5
  have e6 : h6[b]? = some (.lst (nms ((List.range 676).map (cand z)))) := by rw [e6, ea]; rfl
  refine ok_addl e5b e6 (by simp [nms_len, sz]) fun c h7 e7 F7 l7 => ?_
  rw [nms_app] at e7
  have e7 : h7[c]? = some (.lst (nms (fresh z))) := e7
  have u7 := F7.keep _ _ id (F6.keep _ _ id (F5.keep _ _ id e4))
  have R7 := ((R4.keep F5).keep F6).keep F7
  size_fits
  refine .inr (.inr ⟨_, _, rfl, e7, ?_⟩)
  refine lgo (I := fun i acc h' => acc = nms (((fresh z).take i).filter fun w => decide (w ∉ us)) ∧ h' = h7) (fun i acc h' hi ⟨ea, eh⟩ => ?_) (fun acc h' ⟨ea, eh⟩ => ?_) _ _ _ _ (by simp) ⟨by simp [nms], rfl⟩
  · have hi : i < (nms (fresh z)).length := hi
    rw [nms_len] at hi
    subst eh
    refine ⟨lenIs_at e7 rfl, OV.str ((fresh z)[i]), _, by show itemL h' c i = _; rw [itemL_at e7, nms_at hi], rfl, ?_⟩
    size_fits
    refine ok_nin (has_nms u7 (fresh_low hz (List.getElem_mem hi)).1 hu) ?_
    size_fits
    refine k_d (fun hm => ?_) fun hm => ?_
    · refine ⟨?_, rfl⟩
      rw [ea, ← take_next hi, List.filter_append]
      simp [hm]
    · size_fits
      have fl : (fresh z).length = 677 := by simp [fresh]
      refine ⟨?_, ?_, rfl⟩
      · have := List.length_filter_le (fun w => decide (w ∉ us)) ((fresh z).take i)
        rw [List.length_take] at this
        rw [ea, nms_len, sz]; omega
      · rw [ea, ← take_next hi, List.filter_append]
        simp [hm, nms]
  · subst eh
    refine ⟨lenIs_at e7 rfl, fun d h8 e8 F8 l8 => ?_⟩
    have ea : acc = nms (((fresh z).take (nms (fresh z)).length).filter fun w => decide (w ∉ us)) := ea
    rw [nms_len, List.take_length] at ea
    rw [ea] at e8
    have hne : ((fresh z).filter fun w => decide (w ∉ us)) ≠ [] := by
      obtain ⟨w, hw, hn⟩ := fresh_some (z := z) lu
      exact List.ne_nil_of_mem (List.mem_filter.mpr ⟨hw, by simpa using hn⟩)
    size_fits
    have hlen : 0 < ((fresh z).filter fun w => decide (w ∉ us)).length := List.length_pos_iff.mpr hne
    refine z_nms (i := 0) e8 hlen ?_
    have hm := List.mem_filter.mp (List.getElem_mem hlen)
    size_fits
    refine ⟨_, rfl, fresh_low hz hm.1, by simpa using hm.2, R7.keep F8, ?_⟩
    exact (((F4.trans F5.no).trans F6.no).trans F7.no).trans F8.no
end Lw

set_option maxHeartbeats 4000000
namespace Lw
open PySem L2 O
local macro_rules | `(tactic| size_fits) => `(tactic| repeat' (first | (with_reducible refine ok_c ?_) | (with_reducible refine ok_op ?_) | (with_reducible refine ok_nil ?_) | (with_reducible refine ok_cons ?_) | (with_reducible refine ok_b ?_) | (with_reducible refine ok_call ?_) | (with_reducible refine ok_ix ?_) | (with_reducible refine ok_seq ?_) | (with_reducible refine ok_if ?_) | (with_reducible refine ok_set ?_) | (with_reducible refine ok_rt ?_) | (with_reducible refine ok_rtn ?_) | (with_reducible refine ok_ex ?_) | (with_reducible refine ok_nx ?_) | (with_reducible refine ok_asg ?_) | (with_reducible refine ok_par ?_) | (with_reducible refine ok_tb ?_) | (with_reducible refine ok_tt ?_) | (with_reducible refine ok_tn ?_) | (with_reducible refine ok_tor ?_) | (with_reducible refine ok_tand ?_) | (with_reducible refine ok_not ?_) | (with_reducible refine ok_ife ?_) | (with_reducible refine ok_chain ?_) | (with_reducible refine ok_sl ?_) | (with_reducible refine ok_part ?_) | (with_reducible refine ok_nopart ?_) | (with_reducible refine ok_bm ?_) | (with_reducible refine ok_bm0 ?_) | (with_reducible refine ok_lst ?_) | (with_reducible refine ok_tup ?_) | (with_reducible refine ok_dK ?_) | (with_reducible refine ok_fld ?_) | (with_reducible refine ok_dix ?_) | (with_reducible refine ok_isi ?_) | (with_reducible refine ok_meth ?_) | (with_reducible refine ok_make ?_) | (with_reducible refine ok_sfld ?_) | (with_reducible refine ok_rev ?_) | (with_reducible refine ok_gput ?_) | (with_reducible refine ok_gnm ?_) | (with_reducible refine ok_gsnil ?_) | (with_reducible refine ok_gscons ?_) | (with_reducible refine ok_and ?_) | (with_reducible refine ok_or ?_) | (with_reducible refine ok_iR1 ?_) | (with_reducible refine ok_iR2 ?_) | (with_reducible refine ok_iL ?_) | (with_reducible refine ok_iE ?_) | (with_reducible refine ok_lc ?_) | (with_reducible refine ok_dc ?_) | (with_reducible refine ok_for ?_) | (with_reducible refine ok_yes ?_) | (with_reducible refine k_fnx ?_) | (with_reducible refine k_fct ?_) | (with_reducible refine k_fbk ?_) | (with_reducible refine k_frt ?_) | (with_reducible refine k_nx ?_) | (with_reducible refine k_rt ?_) | (with_reducible refine k_bk ?_) | (with_reducible refine k_ct ?_) | (with_reducible refine k_drt ?_) | (with_reducible refine k_dnx ?_) | (with_reducible refine k_t ?_) | (with_reducible refine k_f ?_) | (with_reducible refine k_n ?_) | (with_reducible refine k_bl ?_) | (with_reducible refine k_tbl ?_) | (with_reducible refine ok_add ?_) | (with_reducible refine ok_sub ?_) | (with_reducible refine ok_lt ?_) | (with_reducible refine ok_le ?_) | (with_reducible refine ok_gt ?_) | (with_reducible refine ok_ge ?_) | (with_reducible refine ok_max ?_) | (with_reducible refine ok_min ?_) | (with_reducible refine ok_abs ?_) | (with_reducible refine ok_lenr ?_) | ((with_reducible apply ok_var); (· exact rfl)) | ((with_reducible apply ok_gtp); (· exact rfl)) | ((with_reducible refine ok_mod ?_ ?_); (· first | decide | omega)) | ((with_reducible refine ok_fdiv ?_ ?_ ?_); (· first | decide | omega); (· first | decide | omega)) | ((with_reducible apply ok_lenl); (· assumption)) | ((with_reducible apply ok_list); (· assumption))))
theorem ok_append {h : OH} {a : Nat} {xs : List OV} {x : OV} {Q : CE} (e : h[a]? = some (.lst xs)) (l : xs.length < sizeLine) (q : Q .non (h.set a (.lst (xs ++ [x])))) : Ok (mAppend (.ref a) [x] h) Q := by
  simp only [mAppend, e, l, ↓reduceIte]; exact q
theorem ok_pop {h : OH} {a : Nat} {xs : List OV} {i : Int} {Q : CE} (e : h[a]? = some (.lst xs)) (h0 : 0 ≤ i) (h1 : i < xs.length) (l : xs.length ≤ sizeLine) (q : ∀ x, xs[i.toNat]? = some x → Q x (h.set a (.lst (xs.eraseIdx i.toNat)))) : Ok (mPop (.ref a) [.int i] h) Q := by
  have hl : i.toNat < xs.length := by omega
  simp only [mPop, e, h0, h1, l, and_self, ↓reduceIte, List.getElem?_eq_getElem hl]
  exact q _ (List.getElem?_eq_getElem hl)
structure Names (xs us : List Str) (m : Nat) : Prop where
  len : xs.length = m
  nm : ∀ z ∈ xs, NameS z
  nd : xs.Nodup
  new : ∀ z ∈ xs, z ∉ us
theorem sp_names2 {h : OH} {r u : Nat} {us : List Str} {m : Int} (R : Rg h r) (e : h[u]? = some (.lst (nms us))) (hu : ∀ z ∈ us, Low z) (h0 : 0 ≤ m) (lu : us.length + m.toNat < 676) :
    Ok (f__law_names [.ref r, .int m, .ref u] h) (fun v h' => ∃ a xs, v = .ref a ∧ h'[a]? = some (.lst (nms xs)) ∧ Names xs us m.toNat ∧ Rg h' r ∧ Fr (· = r) h h' ∧ h.length ≤ a) := by
  refine ok_d rfl ?_
  unfold m__law_names
  size_fits
  refine ⟨by simp [sz], fun a h1 e1 F1 l1 => ?_⟩
  have e1 : h1[a]? = some (.lst (nms [])) := e1
  have ar : a ≠ r := by have := R.lt; omega
  have au : u ≠ a := by have := lt_of e; omega
  size_fits
  refine ⟨m, rfl, by omega, ?_⟩
  refine fgo (I := fun i s h2 => (∃ v, s = [some (.ref r), some (.int m), some (.ref u), some (.ref a), v]) ∧ (∃ xs, h2[a]? = some (.lst (nms xs)) ∧ Names xs us i) ∧ Rg h2 r ∧ Fr (· = r) h h2 ∧ h2[u]? = some (.lst (nms us))) (fun i s h2 hi ⟨⟨v, es⟩, ⟨xs, e2, N⟩, R2, F2, u2⟩ => ?_) (fun s h2 ⟨⟨v, es⟩, ⟨xs, e2, N⟩, R2, F2, u2⟩ => ?_) _ _ _ _ (by simp) ⟨⟨_, rfl⟩, ⟨[], e1, rfl, by simp, by simp, by simp⟩, R.keep F1, F1.no, F1.keep _ _ id e⟩
  · refine ⟨rfl, OV.int (0 + i), rfl, ?_⟩
    have hi : i < m.toNat := hi
    have lx := N.len
    subst es
    size_fits
    refine ⟨isT_l e2, ?_⟩
    size_fits
    refine ok_addl u2 e2 (by rw [nms_len, nms_len, sz]; omega) fun b h3 e3 F3 l3 => ?_
    rw [nms_app] at e3
    size_fits
    refine ⟨⟨rfl, rfl⟩, ?_⟩
    refine (sp_name (R2.keep F3) e3 (fun z hz => ?_) (by rw [List.length_append]; omega)).mono fun v h4 ⟨z, ev, hz, nz, R4, F4⟩ => ?_
    · rcases List.mem_append.mp hz with q | q
      · exact hu z q
      · exact (N.nm z q).1
    subst ev
    have e4 := nms_keepR (F3.keep _ _ id e2) (R2.keep F3) F4
    have u4 := nms_keepR (F3.keep _ _ id u2) (R2.keep F3) F4
    rw [List.mem_append, not_or] at nz
    size_fits
    refine ok_append e4 (by rw [nms_len, sz]; omega) ?_
    size_fits
    refine ⟨⟨_, rfl⟩, ⟨xs ++ [z], by rw [at_set e4, nms_snoc], by simp [lx], fun w hw => ?_, ?_, fun w hw => ?_⟩, ?_, ?_, at_ne (fun q => au q.symm) u4⟩
    · rcases List.mem_append.mp hw with q | q
      · exact N.nm w q
      · rw [List.mem_singleton] at q; subst q; exact hz
    · rw [List.nodup_append]
      refine ⟨N.nd, by simp, fun x hx y hy => ?_⟩
      rw [List.mem_singleton] at hy
      subst hy
      intro q; subst q; exact nz.2 hx
    · rcases List.mem_append.mp hw with q | q
      · exact N.new w q
      · rw [List.mem_singleton] at q; subst q; exact nz.1
    · obtain ⟨x, y, e5⟩ := R4
      exact ⟨x, y, at_ne ar e5⟩
    · have F5 := ((F2.trans F3.no).trans F4).up (T := fun q => q = r ∨ q = a) fun _ q => .inl q
      exact (F5.trans (Fr.set (S := fun q => q = r ∨ q = a) (.inr rfl))).new (S := (· = r)) fun q hq ql => hq.resolve_right (by omega)
  · refine ⟨rfl, ?_⟩
    subst es
    size_fits
    exact ⟨a, xs, rfl, e2, N, R2, F2, by omega⟩
theorem perm_erase {α : Type} {xs : List α} {i : Nat} {x : α} (e : xs[i]? = some x) : (x :: xs.eraseIdx i).Perm xs := by
  induction xs generalizing i with
  | nil => cases e
  | cons y ys ih =>
    cases i with
    | zero => cases e; exact List.Perm.refl _
    | succ i =>
      have e : ys[i]? = some x := e
      exact (List.Perm.swap y x _).trans ((ih e).cons y)
end Lw

set_option maxHeartbeats 4000000
namespace Lw
open PySem L2 O
local macro_rules | `(tactic| size_fits) => `(tactic| repeat' (first | (with_reducible refine ok_c ?_) | (with_reducible refine ok_op ?_) | (with_reducible refine ok_nil ?_) | (with_reducible refine ok_cons ?_) | (with_reducible refine ok_b ?_) | (with_reducible refine ok_call ?_) | (with_reducible refine ok_ix ?_) | (with_reducible refine ok_seq ?_) | (with_reducible refine ok_if ?_) | (with_reducible refine ok_set ?_) | (with_reducible refine ok_rt ?_) | (with_reducible refine ok_rtn ?_) | (with_reducible refine ok_ex ?_) | (with_reducible refine ok_nx ?_) | (with_reducible refine ok_asg ?_) | (with_reducible refine ok_par ?_) | (with_reducible refine ok_tb ?_) | (with_reducible refine ok_tt ?_) | (with_reducible refine ok_tn ?_) | (with_reducible refine ok_tor ?_) | (with_reducible refine ok_tand ?_) | (with_reducible refine ok_not ?_) | (with_reducible refine ok_ife ?_) | (with_reducible refine ok_chain ?_) | (with_reducible refine ok_sl ?_) | (with_reducible refine ok_part ?_) | (with_reducible refine ok_nopart ?_) | (with_reducible refine ok_bm ?_) | (with_reducible refine ok_bm0 ?_) | (with_reducible refine ok_lst ?_) | (with_reducible refine ok_tup ?_) | (with_reducible refine ok_dK ?_) | (with_reducible refine ok_fld ?_) | (with_reducible refine ok_dix ?_) | (with_reducible refine ok_isi ?_) | (with_reducible refine ok_meth ?_) | (with_reducible refine ok_make ?_) | (with_reducible refine ok_sfld ?_) | (with_reducible refine ok_rev ?_) | (with_reducible refine ok_gput ?_) | (with_reducible refine ok_gnm ?_) | (with_reducible refine ok_gsnil ?_) | (with_reducible refine ok_gscons ?_) | (with_reducible refine ok_and ?_) | (with_reducible refine ok_or ?_) | (with_reducible refine ok_iR1 ?_) | (with_reducible refine ok_iR2 ?_) | (with_reducible refine ok_iL ?_) | (with_reducible refine ok_iE ?_) | (with_reducible refine ok_lc ?_) | (with_reducible refine ok_dc ?_) | (with_reducible refine ok_for ?_) | (with_reducible refine ok_yes ?_) | (with_reducible refine k_fnx ?_) | (with_reducible refine k_fct ?_) | (with_reducible refine k_fbk ?_) | (with_reducible refine k_frt ?_) | (with_reducible refine k_nx ?_) | (with_reducible refine k_rt ?_) | (with_reducible refine k_bk ?_) | (with_reducible refine k_ct ?_) | (with_reducible refine k_drt ?_) | (with_reducible refine k_dnx ?_) | (with_reducible refine k_t ?_) | (with_reducible refine k_f ?_) | (with_reducible refine k_n ?_) | (with_reducible refine k_bl ?_) | (with_reducible refine k_tbl ?_) | (with_reducible refine ok_add ?_) | (with_reducible refine ok_sub ?_) | (with_reducible refine ok_lt ?_) | (with_reducible refine ok_le ?_) | (with_reducible refine ok_gt ?_) | (with_reducible refine ok_ge ?_) | (with_reducible refine ok_max ?_) | (with_reducible refine ok_min ?_) | (with_reducible refine ok_abs ?_) | (with_reducible refine ok_lenr ?_) | ((with_reducible apply ok_var); (· exact rfl)) | ((with_reducible apply ok_gtp); (· exact rfl)) | ((with_reducible refine ok_mod ?_ ?_); (· first | decide | omega)) | ((with_reducible refine ok_fdiv ?_ ?_ ?_); (· first | decide | omega); (· first | decide | omega)) | ((with_reducible apply ok_lenl); (· assumption)) | ((with_reducible apply ok_list); (· assumption))))
theorem ok_reprD {h : OH} {x : OV} {d : PyData} {Q : CE} (e : toD h 12 x = some d) (h1 : SeqAt.shaped d = true) (h2 : d.showable = true) (h3 : d.leavesShort 13 = true) (h4 : d.weight ≤ 2 ^ 20) (q : Q (.str d.shown) h) : Ok (bRepr [x] h) Q :=
  ok_repr e h1 h2 (PyData.shown_fits (by decide) (by decide) h3 h4) q
theorem show_strs : ∀ xs : List Str, PyData.showableAll (xs.map .str) = true
  | [] => rfl
  | x :: xs => by simp only [List.map_cons, PyData.showableAll, PyData.showable, show_strs xs, Bool.and_self]
theorem leaf_strs : ∀ {xs : List Str}, (∀ z ∈ xs, Low z) → PyData.leavesShortAll 13 (xs.map .str) = true
  | [], _ => rfl
  | x :: xs, h => by
    simp only [List.map_cons, PyData.leavesShortAll, PyData.leavesShort, Bool.and_eq_true, List.all_eq_true, decide_eq_true_eq]
    refine ⟨fun c hc => ?_, leaf_strs fun z hz => h z (List.mem_cons_of_mem _ hz)⟩
    have := h x List.mem_cons_self c hc
    omega
theorem wt_strs : ∀ {xs : List Str}, (∀ z ∈ xs, NameS z) → PyData.weightAll (xs.map .str) ≤ 9 * xs.length
  | [], _ => by simp [PyData.weightAll]
  | x :: xs, h => by
    have h1 := (h x List.mem_cons_self).2.2
    have h2 := wt_strs fun z hz => h z (List.mem_cons_of_mem _ hz)
    have h3 : x.length = x.cps.size := rfl
    simp only [List.map_cons, PyData.weightAll, PyData.weight, List.length_cons]
    omega
theorem ok_reprN {h : OH} {a : Nat} {xs : List Str} {Q : CE} (e : h[a]? = some (.lst (nms xs))) (hn : ∀ z ∈ xs, NameS z) (l : xs.length ≤ 1000) (q : Q (.str (PyData.shown (.list (xs.map .str)))) h) : Ok (bRepr [.ref a] h) Q := by
  refine ok_reprD (toD_strs e) (shp_strs fun z hz => (hn z hz).1) ?_ ?_ ?_ q
  · simpa only [PyData.showable] using show_strs xs
  · simpa only [PyData.leavesShort] using leaf_strs fun z hz => (hn z hz).1
  · have := wt_strs hn
    simp only [PyData.weight]
    omega
theorem ok_neN {h : OH} {a b : Nat} {xs ys : List Str} {Q : CE} (e : h[a]? = some (.lst (nms xs))) (e2 : h[b]? = some (.lst (nms ys))) (hx : ∀ z ∈ xs, Low z) (hy : ∀ z ∈ ys, Low z) (q : Q (.bl (!decide (xs = ys))) h) : Ok (oNe (.ref a) (.ref b) h) Q :=
  ok_neD (toD_strs e) (toD_strs e2) (shp_strs hx) (shp_strs hy) (by rw [eqv_strs]; exact q)
theorem ok_eqN {h : OH} {a b : Nat} {xs ys : List Str} {Q : CE} (e : h[a]? = some (.lst (nms xs))) (e2 : h[b]? = some (.lst (nms ys))) (hx : ∀ z ∈ xs, Low z) (hy : ∀ z ∈ ys, Low z) (q : Q (.bl (decide (xs = ys))) h) : Ok (oEq (.ref a) (.ref b) h) Q :=
  ok_eqD (toD_strs e) (toD_strs e2) (shp_strs hx) (shp_strs hy) (by rw [eqv_strs]; exact q)
theorem swp_len {ys : List Str} {i : Nat} (h : i + 1 < ys.length) : (swp ys i).length = ys.length := by
  rw [swp_eq h]
  simp only [List.length_append, List.length_take, List.length_cons, List.length_nil, List.length_drop]
  omega
theorem split2 {ys : List Str} {i : Nat} (h : i + 1 < ys.length) : ys = ys.take i ++ [ys[i], ys[i + 1]] ++ ys.drop (i + 2) := by
  have e1 : ys.drop i = ys[i] :: ys.drop (i + 1) := List.drop_eq_getElem_cons (by omega)
  have e2 : ys.drop (i + 1) = ys[i + 1] :: ys.drop (i + 2) := List.drop_eq_getElem_cons h
  have : ys = ys.take i ++ ys.drop i := (List.take_append_drop i ys).symm
  rw [e1, e2] at this
  rw [List.append_assoc]
  exact this
theorem swp_perm {ys : List Str} {i : Nat} (h : i + 1 < ys.length) : (swp ys i).Perm ys := by
  rw [swp_eq h]
  conv => rhs; rw [split2 h]
  exact (List.Perm.append_left _ (List.Perm.swap _ _ _)).append_right _
theorem Ord.perm {xs ys zs : List Str} (O : Ord xs ys) (p : zs.Perm ys) : Ord xs zs := ⟨fun z hz => O.mem z (p.mem_iff.mp hz), p.nodup_iff.mpr O.nd, p.length_eq.trans O.len⟩
theorem swp_at {ys : List Str} {i : Nat} (h : i + 1 < ys.length) : (swp ys i)[i]'(by rw [swp_len h]; omega) = ys[i + 1] ∧ (swp ys i)[i + 1]'(by rw [swp_len h]; exact h) = ys[i] := by
  have l : (ys.take i).length = i := by rw [List.length_take]; omega
  constructor
  · have : (swp ys i)[i]? = some ys[i + 1] := by
      rw [swp_eq h, List.append_assoc, List.getElem?_append_right (by omega), l, Nat.sub_self]; rfl
    exact (List.getElem?_eq_some_iff.mp this).2
  · have : (swp ys i)[i + 1]? = some ys[i] := by
      rw [swp_eq h, List.append_assoc, List.getElem?_append_right (by omega), l, show i + 1 - i = 1 by omega]; rfl
    exact (List.getElem?_eq_some_iff.mp this).2
theorem swp_swp {ys : List Str} {i : Nat} (h : i + 1 < ys.length) : swp (swp ys i) i = ys := by
  have l := swp_len h
  obtain ⟨a1, a2⟩ := swp_at h
  rw [swp_eq (by omega), a1, a2]
  have e1 : (swp ys i).take i = ys.take i := by
    rw [swp_eq h, List.append_assoc, List.take_left' (by rw [List.length_take]; omega)]
  have e2 : (swp ys i).drop (i + 2) = ys.drop (i + 2) := by
    rw [swp_eq h, List.drop_left' (by simp only [List.length_append, List.length_take, List.length_cons, List.length_nil]; omega)]
  rw [e1, e2]
  exact (split2 h).symm
theorem ok_index {h : OH} {a : Nat} {xs : List Str} {x : Str} {Q : CE} (e : h[a]? = some (.lst (nms xs))) (hx : ∀ z ∈ xs, Low z) (hm : x ∈ xs) (q : Q (.int (xs.idxOf x)) h) : Ok (mIndex (.ref a) [.str x] h) Q := by
  have h2 : toD h 12 (.str x) = some (.str x) := rfl
  have ix : ixD (xs.map .str) (.str x) = some (xs.idxOf x) := by
    unfold ixD
    rw [List.findIdx?_map]
    have hl : xs.idxOf x < xs.length := List.idxOf_lt_length_iff.mpr hm
    rw [List.findIdx?_eq_some_iff_getElem]
    refine ⟨hl, ?_, fun j hj => ?_⟩
    · simp only [Function.comp, PyData.eqv, beq_iff_eq]
      exact List.getElem_idxOf hl
    · simp only [Function.comp, PyData.eqv, beq_iff_eq]
      have := List.not_of_lt_findIdx (p := (· == x)) hj
      simpa using this
  simp only [mIndex, e, toDs_strs (f := toD h 11) (fun _ => rfl), Option.bind_some, h2, shp_str (hx x hm), shp_strs hx, Bool.and_self, ↓reduceIte, ix, Option.map_some]
  exact q
theorem Ord.refl0 : True := trivial
theorem ok_rev0 {h : OH} {a : Nat} {xs : List OV} {Q : CE} (e : h[a]? = some (.lst xs)) (q : Q .non (h.set a (.lst xs.reverse))) : Ok (mReverse (.ref a) [] h) Q := by
  simp only [mReverse, e]; exact q
theorem perm_nms {ys : List OV} {xs : List Str} (p : ys.Perm (nms xs)) : ∃ zs, ys = nms zs ∧ zs.Perm xs := by
  let f : OV → Option Str := fun x => match x with
    | .str z => some z
    | _ => none
  have fm : ∀ xs : List Str, (nms xs).filterMap f = xs := by
    intro xs
    induction xs with
    | nil => rfl
    | cons x xs ih =>
      show (OV.str x :: nms xs).filterMap f = _
      rw [List.filterMap_cons]
      show x :: (nms xs).filterMap f = _
      rw [ih]
  have back : ∀ ys : List OV, (∀ y ∈ ys, ∃ z, y = .str z) → ys = nms (ys.filterMap f) := by
    intro ys
    induction ys with
    | nil => intro _; rfl
    | cons y ys ih =>
      intro hy
      obtain ⟨z, rfl⟩ := hy y List.mem_cons_self
      rw [List.filterMap_cons]
      show _ = nms (z :: ys.filterMap f)
      have := ih fun y h => hy y (List.mem_cons_of_mem _ h)
      show _ = OV.str z :: nms (ys.filterMap f)
      rw [← this]
  refine ⟨ys.filterMap f, back ys fun y hy => ?_, ?_⟩
  · have := p.mem_iff.mp hy
    obtain ⟨z, _, rfl⟩ := List.mem_map.mp this
    exact ⟨z, rfl⟩
  · have := p.filterMap f
    rwa [fm] at this
theorem Ord.refl {xs : List Str} (nd : xs.Nodup) : Ord xs xs := ⟨fun _ h => h, nd, rfl⟩
theorem nms_rev {xs : List Str} : (nms xs).reverse = nms xs.reverse := by simp [nms]
end Lw

set_option maxHeartbeats 4000000
namespace Lw
open PySem L2 O
local macro_rules | `(tactic| size_fits) => `(tactic| repeat' (first | (with_reducible refine ok_c ?_) | (with_reducible refine ok_op ?_) | (with_reducible refine ok_nil ?_) | (with_reducible refine ok_cons ?_) | (with_reducible refine ok_b ?_) | (with_reducible refine ok_call ?_) | (with_reducible refine ok_ix ?_) | (with_reducible refine ok_seq ?_) | (with_reducible refine ok_if ?_) | (with_reducible refine ok_set ?_) | (with_reducible refine ok_rt ?_) | (with_reducible refine ok_rtn ?_) | (with_reducible refine ok_ex ?_) | (with_reducible refine ok_nx ?_) | (with_reducible refine ok_asg ?_) | (with_reducible refine ok_par ?_) | (with_reducible refine ok_tb ?_) | (with_reducible refine ok_tt ?_) | (with_reducible refine ok_tn ?_) | (with_reducible refine ok_tor ?_) | (with_reducible refine ok_tand ?_) | (with_reducible refine ok_not ?_) | (with_reducible refine ok_ife ?_) | (with_reducible refine ok_chain ?_) | (with_reducible refine ok_sl ?_) | (with_reducible refine ok_part ?_) | (with_reducible refine ok_nopart ?_) | (with_reducible refine ok_bm ?_) | (with_reducible refine ok_bm0 ?_) | (with_reducible refine ok_lst ?_) | (with_reducible refine ok_tup ?_) | (with_reducible refine ok_dK ?_) | (with_reducible refine ok_fld ?_) | (with_reducible refine ok_dix ?_) | (with_reducible refine ok_isi ?_) | (with_reducible refine ok_meth ?_) | (with_reducible refine ok_make ?_) | (with_reducible refine ok_sfld ?_) | (with_reducible refine ok_rev ?_) | (with_reducible refine ok_gput ?_) | (with_reducible refine ok_gnm ?_) | (with_reducible refine ok_gsnil ?_) | (with_reducible refine ok_gscons ?_) | (with_reducible refine ok_and ?_) | (with_reducible refine ok_or ?_) | (with_reducible refine ok_iR1 ?_) | (with_reducible refine ok_iR2 ?_) | (with_reducible refine ok_iL ?_) | (with_reducible refine ok_iE ?_) | (with_reducible refine ok_lc ?_) | (with_reducible refine ok_dc ?_) | (with_reducible refine ok_for ?_) | (with_reducible refine ok_yes ?_) | (with_reducible refine k_fnx ?_) | (with_reducible refine k_fct ?_) | (with_reducible refine k_fbk ?_) | (with_reducible refine k_frt ?_) | (with_reducible refine k_nx ?_) | (with_reducible refine k_rt ?_) | (with_reducible refine k_bk ?_) | (with_reducible refine k_ct ?_) | (with_reducible refine k_drt ?_) | (with_reducible refine k_dnx ?_) | (with_reducible refine k_t ?_) | (with_reducible refine k_f ?_) | (with_reducible refine k_n ?_) | (with_reducible refine k_bl ?_) | (with_reducible refine k_tbl ?_) | (with_reducible refine ok_add ?_) | (with_reducible refine ok_sub ?_) | (with_reducible refine ok_lt ?_) | (with_reducible refine ok_le ?_) | (with_reducible refine ok_gt ?_) | (with_reducible refine ok_ge ?_) | (with_reducible refine ok_max ?_) | (with_reducible refine ok_min ?_) | (with_reducible refine ok_abs ?_) | (with_reducible refine ok_lenr ?_) | ((with_reducible apply ok_var); (· exact rfl)) | ((with_reducible apply ok_gtp); (· exact rfl)) | ((with_reducible refine ok_mod ?_ ?_); (· first | decide | omega)) | ((with_reducible refine ok_fdiv ?_ ?_ ?_); (· first | decide | omega); (· first | decide | omega)) | ((with_reducible apply ok_lenl); (· assumption)) | ((with_reducible apply ok_list); (· assumption))))
theorem sp_choice {h : OH} {r a : Nat} {vs : List OV} (R : Rg h r) (e : h[a]? = some (.lst vs)) (na : a ≠ r) (l0 : 0 < vs.length) (l1 : vs.length < 1000000) : Ok (f__law_choice [.ref r, .ref a] h) (fun v h' => v ∈ vs ∧ Rg h' r ∧ Fr (· = r) h h') := by
  refine ok_d rfl ?_
  unfold m__law_choice
  size_fits
  refine ⟨⟨rfl, rfl⟩, ?_⟩
  refine (sp_draw R (by omega) (by omega)).mono fun v h1 ⟨d, ev, d0, d1, R1, F1⟩ => ?_
  subst ev
  refine z_ixl (F1.keep _ _ na e) d0 d1 fun v ev => ?_
  size_fits
  exact ⟨List.mem_of_getElem? ev, R1, F1⟩
theorem perm_set {α : Type} {ys : List α} {k : Nat} {v w : α} (e0 : ys[k]? = some v) (e1 : ys[k + 1]? = some w) : ((ys.set k w).set (k + 1) v).Perm ys := by
  induction ys generalizing k with
  | nil => cases e0
  | cons y t ih =>
    cases k with
    | zero =>
      cases e0
      cases t with
      | nil => cases e1
      | cons z t =>
        have e1 : some z = some w := e1
        cases e1
        exact List.Perm.swap _ _ _
    | succ k =>
      have e0 : t[k]? = some v := e0
      have e1 : t[k + 1]? = some w := e1
      exact (ih e0 e1).cons y
theorem ord_mem {xs ys : List Str} (O : Ord xs ys) {x : Str} (hx : x ∈ xs) : x ∈ ys := by
  refine Classical.byContradiction fun n => ?_
  have := pigeon (u := xs.erase x) O.nd fun y hy => (List.mem_erase_of_ne (fun e => by rw [e] at hy; exact n hy)).mpr (O.mem y hy)
  rw [List.length_erase_of_mem hx, O.len] at this
  have : 0 < xs.length := List.length_pos_of_mem hx
  omega
/-- whether the two items stand the other way round -/
def invB (xs ys : List Str) (x y : Str) : Bool := (decide (xs.idxOf x < xs.idxOf y) && decide (ys.idxOf y < ys.idxOf x)) || (decide (xs.idxOf y < xs.idxOf x) && decide (ys.idxOf x < ys.idxOf y))
theorem oTru_bl {h : OH} {c : Bool} : oTru h (.bl c) = some c := rfl
theorem cast_lt {a b : Nat} : decide ((a : Int) < (b : Int)) = decide (a < b) := by
  by_cases h : a < b
  · rw [decide_eq_true h, decide_eq_true (by omega)]
  · rw [decide_eq_false h, decide_eq_false (by omega)]
end Lw

set_option maxHeartbeats 4000000
namespace Lw
open PySem L2 O
local macro_rules | `(tactic| size_fits) => `(tactic| repeat' (first | (with_reducible refine ok_c ?_) | (with_reducible refine ok_op ?_) | (with_reducible refine ok_nil ?_) | (with_reducible refine ok_cons ?_) | (with_reducible refine ok_b ?_) | (with_reducible refine ok_call ?_) | (with_reducible refine ok_ix ?_) | (with_reducible refine ok_seq ?_) | (with_reducible refine ok_if ?_) | (with_reducible refine ok_set ?_) | (with_reducible refine ok_rt ?_) | (with_reducible refine ok_rtn ?_) | (with_reducible refine ok_ex ?_) | (with_reducible refine ok_nx ?_) | (with_reducible refine ok_asg ?_) | (with_reducible refine ok_par ?_) | (with_reducible refine ok_tb ?_) | (with_reducible refine ok_tt ?_) | (with_reducible refine ok_tn ?_) | (with_reducible refine ok_tor ?_) | (with_reducible refine ok_tand ?_) | (with_reducible refine ok_not ?_) | (with_reducible refine ok_ife ?_) | (with_reducible refine ok_chain ?_) | (with_reducible refine ok_sl ?_) | (with_reducible refine ok_part ?_) | (with_reducible refine ok_nopart ?_) | (with_reducible refine ok_bm ?_) | (with_reducible refine ok_bm0 ?_) | (with_reducible refine ok_lst ?_) | (with_reducible refine ok_tup ?_) | (with_reducible refine ok_dK ?_) | (with_reducible refine ok_fld ?_) | (with_reducible refine ok_dix ?_) | (with_reducible refine ok_isi ?_) | (with_reducible refine ok_meth ?_) | (with_reducible refine ok_make ?_) | (with_reducible refine ok_sfld ?_) | (with_reducible refine ok_rev ?_) | (with_reducible refine ok_gput ?_) | (with_reducible refine ok_gnm ?_) | (with_reducible refine ok_gsnil ?_) | (with_reducible refine ok_gscons ?_) | (with_reducible refine ok_and ?_) | (with_reducible refine ok_or ?_) | (with_reducible refine ok_iR1 ?_) | (with_reducible refine ok_iR2 ?_) | (with_reducible refine ok_iL ?_) | (with_reducible refine ok_iE ?_) | (with_reducible refine ok_lc ?_) | (with_reducible refine ok_dc ?_) | (with_reducible refine ok_for ?_) | (with_reducible refine ok_yes ?_) | (with_reducible refine k_fnx ?_) | (with_reducible refine k_fct ?_) | (with_reducible refine k_fbk ?_) | (with_reducible refine k_frt ?_) | (with_reducible refine k_nx ?_) | (with_reducible refine k_rt ?_) | (with_reducible refine k_bk ?_) | (with_reducible refine k_ct ?_) | (with_reducible refine k_drt ?_) | (with_reducible refine k_dnx ?_) | (with_reducible refine k_t ?_) | (with_reducible refine k_f ?_) | (with_reducible refine k_n ?_) | (with_reducible refine k_bl ?_) | (with_reducible refine k_tbl ?_) | (with_reducible refine ok_add ?_) | (with_reducible refine ok_sub ?_) | (with_reducible refine ok_lt ?_) | (with_reducible refine ok_le ?_) | (with_reducible refine ok_gt ?_) | (with_reducible refine ok_ge ?_) | (with_reducible refine ok_max ?_) | (with_reducible refine ok_min ?_) | (with_reducible refine ok_abs ?_) | (with_reducible refine ok_lenr ?_) | ((with_reducible apply ok_var); (· exact rfl)) | ((with_reducible apply ok_gtp); (· exact rfl)) | ((with_reducible refine ok_mod ?_ ?_); (· first | decide | omega)) | ((with_reducible refine ok_fdiv ?_ ?_ ?_); (· first | decide | omega); (· first | decide | omega)) | ((with_reducible apply ok_lenl); (· assumption)) | ((with_reducible apply ok_list); (· assumption))))
theorem filt1 {α : Type} {p : α → Bool} {a : α} (h : p a = true) : [a].filter p = [a] := by simp [h]
theorem filt0 {α : Type} {p : α → Bool} {a : α} (h : p a = false) : [a].filter p = [] := by simp [h]
abbrev Pr : Type := Str × Str
def blk (xs ys : List Str) (p : Nat) : List Pr := match xs[p]? with
  | some x => ((xs.drop (p + 1)).filter fun y => decide (ys.idxOf y < ys.idxOf x)).map fun y => (x, y)
  | none => []
def ips (xs ys : List Str) : List Pr := (List.range xs.length).flatMap (blk xs ys)
def prv (p : Pr) : OV := .tup [.str p.1, .str p.2]
def prs (ps : List Pr) : List OV := ps.map prv
def pdd (p : Pr) : PyData := .tuple [.str p.1, .str p.2]
theorem prs_len {ps : List Pr} : (prs ps).length = ps.length := by simp [prs]
theorem prs_app {ps qs : List Pr} : prs ps ++ prs qs = prs (ps ++ qs) := by simp [prs]
theorem blk_at {xs ys : List Str} {p : Nat} (h : p < xs.length) : blk xs ys p = ((xs.drop (p + 1)).filter fun y => decide (ys.idxOf y < ys.idxOf xs[p])).map fun y => (xs[p], y) := by
  unfold blk; rw [List.getElem?_eq_getElem h]
theorem blk_len {xs ys : List Str} {p : Nat} : (blk xs ys p).length ≤ xs.length := by
  unfold blk
  split
  · rw [List.length_map]
    exact Nat.le_trans (List.length_filter_le _ _) (by rw [List.length_drop]; omega)
  · simp
theorem ips_len {xs ys : List Str} : ∀ n, ((List.range n).flatMap (blk xs ys)).length ≤ n * xs.length
  | 0 => by simp
  | n + 1 => by
    rw [List.range_succ, List.flatMap_append, List.length_append]
    have h1 := ips_len (xs := xs) (ys := ys) n
    have h2 := blk_len (xs := xs) (ys := ys) (p := n)
    simp only [List.flatMap_cons, List.flatMap_nil, List.append_nil]
    rw [Nat.succ_mul]
    omega
theorem mem_ips {xs ys : List Str} (nd : xs.Nodup) {a c : Str} : (a, c) ∈ ips xs ys ↔ a ∈ xs ∧ c ∈ xs ∧ xs.idxOf a < xs.idxOf c ∧ ys.idxOf c < ys.idxOf a := by
  unfold ips
  simp only [List.mem_flatMap, List.mem_range]
  constructor
  · rintro ⟨p, hp, h⟩
    rw [blk_at hp] at h
    obtain ⟨y, hy, e⟩ := List.mem_map.mp h
    cases e
    obtain ⟨h1, h2⟩ := List.mem_filter.mp hy
    obtain ⟨j, hj, e⟩ := List.mem_iff_getElem.mp h1
    rw [List.length_drop] at hj
    rw [List.getElem_drop] at e
    have ia : xs.idxOf xs[p] = p := List.Nodup.idxOf_getElem nd p hp
    have ic : xs.idxOf c = p + 1 + j := by rw [← e]; exact List.Nodup.idxOf_getElem nd _ (by omega)
    refine ⟨List.getElem_mem _, List.mem_of_mem_drop h1, by omega, by simpa using h2⟩
  · rintro ⟨ha, hc, h1, h2⟩
    have la : xs.idxOf a < xs.length := List.idxOf_lt_length_iff.mpr ha
    have lc : xs.idxOf c < xs.length := List.idxOf_lt_length_iff.mpr hc
    have ga : xs[xs.idxOf a] = a := List.getElem_idxOf la
    have gc : xs[xs.idxOf c] = c := List.getElem_idxOf lc
    refine ⟨xs.idxOf a, la, ?_⟩
    rw [blk_at la]
    refine List.mem_map.mpr ⟨c, List.mem_filter.mpr ⟨?_, by rw [ga]; simpa using h2⟩, by rw [ga]⟩
    refine List.mem_iff_getElem.mpr ⟨xs.idxOf c - (xs.idxOf a + 1), by rw [List.length_drop]; omega, ?_⟩
    rw [List.getElem_drop]
    have : xs.idxOf a + 1 + (xs.idxOf c - (xs.idxOf a + 1)) = xs.idxOf c := by omega
    simp only [this]
    exact gc
theorem get_plc {h : OH} {d : Nat} {ys : List Str} {y : Str} (e : h[d]? = some (.dK (plcF 0 ys))) (hy : y ∈ ys) : dGet h d (.str y) = some (some (.int (ys.idxOf y))) := by
  simp only [dGet, e, kOf, Option.map_some, getO_plcF, hy, ↓reduceIte, Nat.zero_add]
theorem nd_drop {xs : List Str} {p : Nat} (hp : p < xs.length) : xs.drop p = xs[p] :: xs.drop (p + 1) := List.drop_eq_getElem_cons hp
theorem blk_self {xs ys : List Str} {p : Nat} (hp : p < xs.length) : (((xs.drop p).filter fun y => decide (ys.idxOf y < ys.idxOf xs[p])).map fun y => (xs[p], y)) = blk xs ys p := by
  rw [blk_at hp, nd_drop hp, List.filter_cons]
  simp
theorem range_next {xs ys : List Str} {i : Nat} : (List.range (i + 1)).flatMap (blk xs ys) = (List.range i).flatMap (blk xs ys) ++ blk xs ys i := by
  rw [List.range_succ, List.flatMap_append]; simp
theorem mul40 {n m : Nat} (h : n ≤ 40) (hm : m ≤ 40) : n * m ≤ 1600 := Nat.mul_le_mul h hm
theorem merge_plc : ∀ {zs pre : List Str}, (pre ++ zs).Nodup → mergeO (plcF 0 pre) (plcF pre.length zs) = plcF 0 (pre ++ zs)
  | [], pre, _ => by simp [plcF, mergeO]
  | z :: zs, pre, nd => by
    have nz : z ∉ pre := by
      intro hm
      rw [List.nodup_append] at nd
      exact nd.2.2 z hm z List.mem_cons_self rfl
    show mergeO (putO (plcF 0 pre) (Sum.inr z) (.int pre.length)) (plcF (pre.length + 1) zs) = _
    rw [putO_plc nz]
    have := merge_plc (zs := zs) (pre := pre ++ [z]) (by simpa using nd)
    rw [List.length_append] at this
    simpa using this
def itm : Nat → List Str → List OV
  | _, [] => []
  | n, x :: xs => .tup [.str x, .int n] :: itm (n + 1) xs
theorem itm_app : ∀ (xs ys : List Str) (n : Nat), itm n (xs ++ ys) = itm n xs ++ itm (n + xs.length) ys
  | [], ys, n => by simp [itm]
  | x :: xs, ys, n => by
    simp only [List.cons_append, itm, itm_app xs ys, List.length_cons]
    rw [show n + 1 + xs.length = n + (xs.length + 1) by omega]
theorem itm_len : ∀ {n : Nat} {xs : List Str}, (itm n xs).length = xs.length
  | _, [] => rfl
  | _, _ :: _ => by simp [itm, itm_len]
theorem prsO_itm : ∀ {n : Nat} {xs : List Str}, prsO (itm n xs) = some (plcF n xs)
  | _, [] => rfl
  | n, x :: xs => by
    show (kOf (.str x)).bind (fun k => (prsO (itm (n + 1) xs)).map fun q => (k, OV.int n) :: q) = _
    rw [prsO_itm]; rfl
theorem ok_dictP {h : OH} {r : Nat} {ys : List OV} {kvs : List (Key × OV)} {Q : CE} (e : h[r]? = some (.lst ys)) (ep : prsO ys = some kvs) (q : ∀ r2 h2, h2[r2]? = some (.dK (mergeO [] kvs)) → Fr No h h2 → h.length ≤ r2 → Q (.ref r2) h2) : Ok (bDict [.ref r] h) Q := by
  simp only [bDict, e, ep, Option.map_some]
  exact ok_new q
theorem sp_linv {h : OH} {a o : Nat} {xs ys : List Str} (ea : h[a]? = some (.lst (nms xs))) (eo : h[o]? = some (.lst (nms ys))) (O : Ord xs ys) (l2 : xs.length ≤ 40) :
    Ok (f__law_inverted [.ref a, .ref o] h) (fun v h' => ∃ r, v = .ref r ∧ h'[r]? = some (.lst (prs (ips xs ys))) ∧ Fr No h h' ∧ h.length ≤ r) := by
  have ly := O.len
  refine ok_d rfl ?_
  unfold m__law_inverted
  size_fits
  refine ⟨_, _, rfl, eo, ?_⟩
  refine lgo (I := fun i acc h1 => acc = itm 0 (ys.take i) ∧ h1 = h) (fun i acc h1 hi ⟨e4, e5⟩ => ?_) (fun acc h1 ⟨e4, e5⟩ => ?_) _ _ _ _ (by simp) ⟨rfl, rfl⟩
  · have hi : i < (nms ys).length := hi
    rw [nms_len] at hi
    subst e5
    refine ⟨lenIs_at eo rfl, .tup [.int i, .str ys[i]], _, ?_, rfl, ?_⟩
    · show (itemL h1 o i).map _ = _
      rw [itemL_at eo, nms_at hi]; rfl
    size_fits
    refine ⟨by simp [sz], ?_, ?_, rfl⟩
    · rw [e4, itm_len, List.length_take, sz]; omega
    · rw [e4, ← take_next hi, itm_app]
      simp only [List.length_take, Nat.min_eq_left (show i ≤ ys.length by omega), Nat.zero_add]
      rfl
  subst e5
  refine ⟨lenIs_at eo rfl, ?_⟩
  intro d0 h2 e2 F2 l2'
  have e4 : acc = itm 0 (ys.take (nms ys).length) := e4
  rw [nms_len, List.take_length] at e4
  rw [e4] at e2
  size_fits
  have mm := merge_plc (pre := []) (zs := ys) O.nd
  simp only [List.length_nil, List.nil_append] at mm
  rw [show plcF 0 ([] : List Str) = [] from rfl] at mm
  refine ok_dictP e2 prsO_itm fun d h3 e3 F3 l3 => ?_
  rw [mm] at e3
  size_fits
  refine ⟨by simp [sz], fun f h4 e4' F4 l4 => ?_⟩
  have ef : h4[f]? = some (.lst (prs [])) := e4'
  have F0 := (F2.trans F3).trans F4
  have lf : h1.length ≤ f := by have := F2.le; have := F3.le; omega
  size_fits
  refine ⟨_, _, rfl, F0.keep _ _ id ea, ?_⟩
  refine fgo (I := fun i s h5 => (∃ x y f, s = [some (.ref a), some (.ref o), some (.ref d), x, none, some (.ref f), y, none] ∧ h1.length ≤ f ∧ h5[f]? = some (.lst (prs ((List.range i).flatMap (blk xs ys))))) ∧ h5[d]? = some (.dK (plcF 0 ys)) ∧ Fr No h1 h5) (fun i s h5 hi ⟨⟨x, y, f, es, lf, ef⟩, ed, F5⟩ => ?_) (fun s h5 ⟨⟨x, y, f, es, lf, ef⟩, ed, F5⟩ => ?_) _ _ _ _ (by simp) ⟨⟨_, _, f, rfl, lf, ef⟩, F4.keep _ _ id e3, F0⟩
  · have hi : i < (nms xs).length := hi
    rw [nms_len] at hi
    have el := F5.keep _ _ id ea
    refine ⟨lenIs_at el rfl, .tup [.int i, .str xs[i]], ?_, ?_⟩
    · show (itemL h5 a i).map _ = _
      rw [itemL_at el, nms_at hi]; rfl
    subst es
    size_fits
    refine ⟨_, rfl, ?_⟩
    size_fits
    refine ok_slL el fun c h6 e6 F6 l6 => ?_
    rw [show (i : Int) + 1 = ((i + 1 : Nat) : Int) by omega, cut_from (by rw [nms_len]; omega), nms_drop] at e6
    have ed6 := F6.keep _ _ id ed
    refine .inr (.inr ⟨_, _, rfl, e6, ?_⟩)
    refine lgo (I := fun j acc h7 => acc = prs (((((xs.drop (i + 1)).take j).filter fun y => decide (ys.idxOf y < ys.idxOf xs[i])).map fun y => (xs[i], y))) ∧ h7 = h6) (fun j acc h7 hj ⟨ea, eh⟩ => ?_) (fun acc h7 ⟨ea, eh⟩ => ?_) _ _ _ _ (by simp) ⟨rfl, rfl⟩
    · have hj : j < (nms (xs.drop (i + 1))).length := hj
      rw [nms_len] at hj
      subst eh
      refine ⟨lenIs_at e6 rfl, OV.str (xs.drop (i + 1))[j], _, by show itemL h7 c j = _; rw [itemL_at e6, nms_at hj], rfl, ?_⟩
      have hm : (xs.drop (i + 1))[j] ∈ xs := List.mem_of_mem_drop (List.getElem_mem hj)
      size_fits
      refine ⟨_, _, rfl, get_plc ed6 (ord_mem O hm), ?_⟩
      size_fits
      refine ⟨_, _, rfl, get_plc ed6 (ord_mem O (List.getElem_mem _)), ?_⟩
      size_fits
      rw [cast_lt]
      refine k_d (fun q => ?_) fun q => ?_
      · size_fits
        refine ⟨by simp [sz], ?_, ?_, rfl⟩
        · rw [ea, prs_len, List.length_map, sz]
          have := List.length_filter_le (fun y => decide (ys.idxOf y < ys.idxOf xs[i])) ((xs.drop (i + 1)).take j)
          rw [List.length_take, List.length_drop] at this
          omega
        · rw [ea, ← take_next hj, List.filter_append, filt1 (p := fun y => decide (ys.idxOf y < ys.idxOf xs[i])) (decide_eq_true q), List.map_append, ← prs_app]; rfl
      · refine ⟨?_, rfl⟩
        rw [ea, ← take_next hj, List.filter_append, filt0 (p := fun y => decide (ys.idxOf y < ys.idxOf xs[i])) (decide_eq_false q), List.append_nil]
    · subst eh
      refine ⟨lenIs_at e6 rfl, fun g h8 e8 F8 l8 => ?_⟩
      have ea : acc = prs (((((xs.drop (i + 1)).take (nms (xs.drop (i + 1))).length).filter fun y => decide (ys.idxOf y < ys.idxOf xs[i])).map fun y => (xs[i], y))) := ea
      rw [nms_len, List.take_length, ← blk_at hi] at ea
      rw [ea] at e8
      have ef8 := F8.keep _ _ id (F6.keep _ _ id ef)
      have len1 := ips_len (xs := xs) (ys := ys) i
      have len2 := blk_len (xs := xs) (ys := ys) (p := i)
      have m40 := mul40 (show i ≤ 40 by omega) l2
      refine ok_addl ef8 e8 (by rw [prs_len, prs_len, sz]; omega) fun f2 h9 e9 F9 l9 => ?_
      rw [prs_app, ← range_next] at e9
      size_fits
      have := F5.le; have := F6.le; have := F8.le
      exact ⟨⟨_, _, f2, rfl, by omega, e9⟩, F9.keep _ _ id (F8.keep _ _ id ed6), ((F5.trans F6).trans F8).trans F9⟩
  · have el := F5.keep _ _ id ea
    refine ⟨lenIs_at el rfl, ?_⟩
    subst es
    have ef : h5[f]? = some (.lst (prs ((List.range (nms xs).length).flatMap (blk xs ys)))) := ef
    rw [nms_len] at ef
    size_fits
    exact ⟨f, rfl, ef, F5, lf⟩
end Lw

set_option maxHeartbeats 4000000
namespace Lw
open PySem L2 O
local macro_rules | `(tactic| size_fits) => `(tactic| repeat' (first | (with_reducible refine ok_c ?_) | (with_reducible refine ok_op ?_) | (with_reducible refine ok_nil ?_) | (with_reducible refine ok_cons ?_) | (with_reducible refine ok_b ?_) | (with_reducible refine ok_call ?_) | (with_reducible refine ok_ix ?_) | (with_reducible refine ok_seq ?_) | (with_reducible refine ok_if ?_) | (with_reducible refine ok_set ?_) | (with_reducible refine ok_rt ?_) | (with_reducible refine ok_rtn ?_) | (with_reducible refine ok_ex ?_) | (with_reducible refine ok_nx ?_) | (with_reducible refine ok_asg ?_) | (with_reducible refine ok_par ?_) | (with_reducible refine ok_tb ?_) | (with_reducible refine ok_tt ?_) | (with_reducible refine ok_tn ?_) | (with_reducible refine ok_tor ?_) | (with_reducible refine ok_tand ?_) | (with_reducible refine ok_not ?_) | (with_reducible refine ok_ife ?_) | (with_reducible refine ok_chain ?_) | (with_reducible refine ok_sl ?_) | (with_reducible refine ok_part ?_) | (with_reducible refine ok_nopart ?_) | (with_reducible refine ok_bm ?_) | (with_reducible refine ok_bm0 ?_) | (with_reducible refine ok_lst ?_) | (with_reducible refine ok_tup ?_) | (with_reducible refine ok_dK ?_) | (with_reducible refine ok_fld ?_) | (with_reducible refine ok_dix ?_) | (with_reducible refine ok_isi ?_) | (with_reducible refine ok_meth ?_) | (with_reducible refine ok_make ?_) | (with_reducible refine ok_sfld ?_) | (with_reducible refine ok_rev ?_) | (with_reducible refine ok_gput ?_) | (with_reducible refine ok_gnm ?_) | (with_reducible refine ok_gsnil ?_) | (with_reducible refine ok_gscons ?_) | (with_reducible refine ok_and ?_) | (with_reducible refine ok_or ?_) | (with_reducible refine ok_iR1 ?_) | (with_reducible refine ok_iR2 ?_) | (with_reducible refine ok_iL ?_) | (with_reducible refine ok_iE ?_) | (with_reducible refine ok_lc ?_) | (with_reducible refine ok_dc ?_) | (with_reducible refine ok_for ?_) | (with_reducible refine ok_yes ?_) | (with_reducible refine k_fnx ?_) | (with_reducible refine k_fct ?_) | (with_reducible refine k_fbk ?_) | (with_reducible refine k_frt ?_) | (with_reducible refine k_nx ?_) | (with_reducible refine k_rt ?_) | (with_reducible refine k_bk ?_) | (with_reducible refine k_ct ?_) | (with_reducible refine k_drt ?_) | (with_reducible refine k_dnx ?_) | (with_reducible refine k_t ?_) | (with_reducible refine k_f ?_) | (with_reducible refine k_n ?_) | (with_reducible refine k_bl ?_) | (with_reducible refine k_tbl ?_) | (with_reducible refine ok_add ?_) | (with_reducible refine ok_sub ?_) | (with_reducible refine ok_lt ?_) | (with_reducible refine ok_le ?_) | (with_reducible refine ok_gt ?_) | (with_reducible refine ok_ge ?_) | (with_reducible refine ok_max ?_) | (with_reducible refine ok_min ?_) | (with_reducible refine ok_abs ?_) | (with_reducible refine ok_lenr ?_) | ((with_reducible apply ok_var); (· exact rfl)) | ((with_reducible apply ok_gtp); (· exact rfl)) | ((with_reducible refine ok_mod ?_ ?_); (· first | decide | omega)) | ((with_reducible refine ok_fdiv ?_ ?_ ?_); (· first | decide | omega); (· first | decide | omega)) | ((with_reducible apply ok_lenl); (· assumption)) | ((with_reducible apply ok_list); (· assumption))))
def PsOk (ps : List Pr) : Prop := ∀ p ∈ ps, NameS p.1 ∧ NameS p.2
theorem toDs_prs {f : OV → Option PyData} (hf : ∀ p, f (prv p) = some (pdd p)) : ∀ ps : List Pr, toDs f (prs ps) = some (ps.map pdd)
  | [] => rfl
  | p :: ps => by
    show (f (prv p)).bind (fun d => (toDs f (prs ps)).map fun ds => d :: ds) = _
    rw [hf, toDs_prs hf ps]; rfl
theorem toD_prs {h : OH} {r n : Nat} {ps : List Pr} (e : h[r]? = some (.lst (prs ps))) : toD h (n + 4) (.ref r) = some (.list (ps.map pdd)) := by
  show (match h[r]? with
    | some (.lst xs) => (toDs (toD h (n + 3)) xs).map PyData.list
    | _ => none) = _
  rw [e]
  show (toDs (toD h (n + 3)) (prs ps)).map PyData.list = _
  rw [toDs_prs (fun _ => rfl)]; rfl
theorem lay_prs : ∀ {ps : List Pr}, PsOk ps → PyData.canLayAll0 (ps.map pdd) = true
  | [], _ => rfl
  | p :: ps, h => by
    obtain ⟨h1, h2⟩ := h p List.mem_cons_self
    simp only [List.map_cons, PyData.canLayAll0, pdd, PyData.canLay0, h1.1.ok, h2.1.ok, Bool.true_and]
    exact lay_prs fun q hq => h q (List.mem_cons_of_mem _ hq)
theorem dep_prs : ∀ ps : List Pr, PyData.depthAll (ps.map pdd) ≤ 1
  | [] => by simp [PyData.depthAll]
  | p :: ps => by
    have i1 := dep_prs ps
    have i2 : PyData.depth (pdd p) = 1 := rfl
    exact Nat.max_le.mpr ⟨Nat.le_of_eq i2, i1⟩
theorem shp_prs {ps : List Pr} (h : PsOk ps) : SeqAt.shaped (.list (ps.map pdd)) = true := by
  have := dep_prs ps
  have e : SeqAt.shaped (.list (ps.map pdd)) = (PyData.canLayAll0 (ps.map pdd) && decide (PyData.depthAll (ps.map pdd) + 1 ≤ 64)) := by
    simp only [SeqAt.shaped, PyData.canLay0, PyData.depth]
    rfl
  rw [e, lay_prs h, Bool.true_and, decide_eq_true_eq]
  omega
theorem shp_pr {p : Pr} (h1 : Low p.1) (h2 : Low p.2) : SeqAt.shaped (pdd p) = true := by
  simp only [SeqAt.shaped, pdd, PyData.canLay0, PyData.canLayAll0, h1.ok, h2.ok, Bool.true_and]; rfl
theorem show_prs : ∀ ps : List Pr, PyData.showableAll (ps.map pdd) = true
  | [] => rfl
  | p :: ps => by simp only [List.map_cons, PyData.showableAll, pdd, PyData.showable, show_prs ps, Bool.and_self]
theorem leaf_low {z : Str} (h : Low z) : (z.cps.toList.all fun c => decide (c < 16 ^ 8)) = true := by
  simp only [List.all_eq_true, decide_eq_true_eq]
  intro c hc
  have := h c hc
  omega
theorem leaf_prs : ∀ {ps : List Pr}, PsOk ps → PyData.leavesShortAll 13 (ps.map pdd) = true
  | [], _ => rfl
  | p :: ps, h => by
    obtain ⟨h1, h2⟩ := h p List.mem_cons_self
    simp only [List.map_cons, PyData.leavesShortAll, pdd, PyData.leavesShort, leaf_low h1.1, leaf_low h2.1, Bool.true_and]
    exact leaf_prs fun q hq => h q (List.mem_cons_of_mem _ hq)
theorem wt_prs : ∀ {ps : List Pr}, PsOk ps → PyData.weightAll (ps.map pdd) ≤ 19 * ps.length
  | [], _ => by simp [PyData.weightAll]
  | p :: ps, h => by
    obtain ⟨h1, h2⟩ := h p List.mem_cons_self
    have i1 := h1.2.2
    have i2 := h2.2.2
    have h3 := wt_prs fun q hq => h q (List.mem_cons_of_mem _ hq)
    have e1 : p.1.length = p.1.cps.size := rfl
    have e2 : p.2.length = p.2.cps.size := rfl
    simp only [List.map_cons, PyData.weightAll, pdd, PyData.weight, List.length_cons]
    omega
theorem noB_prs : ∀ ps : List Pr, noBs (ps.map pdd) = true
  | [] => rfl
  | p :: ps => by simp only [List.map_cons, noBs, pdd, noB, noB_prs ps, Bool.and_self]
theorem pdd_inj {p q : Pr} (e : pdd p = pdd q) : p = q := by
  unfold pdd at e
  simp only [PyData.tuple.injEq, List.cons.injEq, PyData.str.injEq, and_true] at e
  exact Prod.ext e.1 e.2
theorem eqv_prs {ps qs : List Pr} : PyData.eqv (.list (ps.map pdd)) (.list (qs.map pdd)) = decide (ps = qs) := by
  have it := eqv_iff (d := .list (ps.map pdd)) (e := .list (qs.map pdd)) (by simpa only [noB] using noB_prs ps) (by simpa only [noB] using noB_prs qs)
  have inj : (PyData.list (ps.map pdd) = PyData.list (qs.map pdd)) ↔ ps = qs := by
    rw [PyData.list.injEq]
    exact ⟨fun e => (List.map_inj_right fun a b e => pdd_inj e).mp e, fun e => by rw [e]⟩
  by_cases h : ps = qs
  · rw [decide_eq_true h]; exact it.mpr (inj.mpr h)
  · rw [decide_eq_false h]
    cases q : PyData.eqv (.list (ps.map pdd)) (.list (qs.map pdd)) with
    | false => rfl
    | true => exact absurd (inj.mp (it.mp q)) h
theorem ok_reprP {h : OH} {a : Nat} {ps : List Pr} {Q : CE} (e : h[a]? = some (.lst (prs ps))) (hn : PsOk ps) (l : ps.length ≤ 1600) (q : Q (.str (PyData.shown (.list (ps.map pdd)))) h) : Ok (bRepr [.ref a] h) Q := by
  refine ok_reprD (toD_prs e) (shp_prs hn) ?_ ?_ ?_ q
  · simpa only [PyData.showable] using show_prs ps
  · simpa only [PyData.leavesShort] using leaf_prs hn
  · have := wt_prs hn
    simp only [PyData.weight]
    omega
theorem ok_neP {h : OH} {a b : Nat} {ps qs : List Pr} {Q : CE} (e : h[a]? = some (.lst (prs ps))) (e2 : h[b]? = some (.lst (prs qs))) (hx : PsOk ps) (hy : PsOk qs) (q : Q (.bl (!decide (ps = qs))) h) : Ok (oNe (.ref a) (.ref b) h) Q :=
  ok_neD (toD_prs e) (toD_prs e2) (shp_prs hx) (shp_prs hy) (by rw [eqv_prs]; exact q)
theorem has_prs {h : OH} {u : Nat} {ps : List Pr} {p : Pr} (e : h[u]? = some (.lst (prs ps))) (h1 : Low p.1) (h2 : Low p.2) (hu : PsOk ps) : oHas h (prv p) (.ref u) = some (decide (p ∈ ps)) := by
  have t : toD h 10 (prv p) = some (pdd p) := rfl
  have an : ((ps.map pdd).any fun z => z.eqv (pdd p)) = decide (p ∈ ps) := by
    clear e hu
    induction ps with
    | nil => rfl
    | cons w ws ih =>
      simp only [List.map_cons, List.any_cons, List.mem_cons]
      rw [ih, Bool.decide_or]
      congr 1
      have it := eqv_iff (d := pdd w) (e := pdd p) rfl rfl
      by_cases q : p = w
      · subst q
        rw [decide_eq_true rfl]; exact it.mpr rfl
      · rw [decide_eq_false q]
        cases z : PyData.eqv (pdd w) (pdd p) with
        | false => rfl
        | true => exact absurd (pdd_inj (it.mp z)).symm q
  have un : oHas h (prv p) (.ref u) = (toDs (toD h 10) (prs ps)).bind fun ds => (toD h 10 (prv p)).bind fun d => if (SeqAt.shaped d && SeqAt.shaped (.list ds)) = true then some (ds.any fun z => PyData.eqv z d) else none := by
    unfold oHas
    simp only [e]
  rw [un, toDs_prs (f := toD h 10) (fun _ => rfl), t]
  simp only [Option.bind_some, shp_pr h1 h2, shp_prs hu, Bool.and_self, ↓reduceIte, an]
theorem prs_ne {ps : List Pr} {x y : Int} : OO.lst (prs ps) ≠ .lst [.int x, .int y] := by
  intro e
  have e : prs ps = [.int x, .int y] := OO.lst.inj e
  cases ps with
  | nil => cases e
  | cons z zs => cases e
theorem prs_keepR {h h' : OH} {a r : Nat} {ps : List Pr} (e : h[a]? = some (.lst (prs ps))) (R : Rg h r) (F : Fr (· = r) h h') : h'[a]? = some (.lst (prs ps)) := F.keep _ _ (rg_ne R e fun _ _ => prs_ne) e
theorem ips_ok {xs ys : List Str} (nd : xs.Nodup) (hn : ∀ z ∈ xs, NameS z) : PsOk (ips xs ys) := fun p hp => by
  obtain ⟨h1, h2, _⟩ := (mem_ips nd).mp (show (p.1, p.2) ∈ ips xs ys from hp)
  exact ⟨hn _ h1, hn _ h2⟩
theorem reprBB {h : OH} {r : Nat} {c d : Bool} {Q : CE} (e : h[r]? = some (.lst [.bl c, .bl d])) (q : Q (.str (PyData.shown (.list [.bool c, .bool d]))) h) : Ok (bRepr [.ref r] h) Q := by
  have t : toD h 12 (.ref r) = some (.list [.bool c, .bool d]) := by
    show (match h[r]? with
      | some (.lst xs) => (toDs (toD h 11) xs).map PyData.list
      | _ => none) = _
    rw [e]; rfl
  exact ok_reprD t (by cases c <;> cases d <;> rfl) (by cases c <;> cases d <;> rfl) (by cases c <;> cases d <;> rfl) (by cases c <;> cases d <;> decide) q
theorem ips_ltn {xs ys : List Str} (h : xs.length ≤ 40) : (ips xs ys).length ≤ 1600 := Nat.le_trans (ips_len _) (mul40 h h)
end Lw

set_option maxHeartbeats 4000000
namespace Lw
open PySem L2 O
local macro_rules | `(tactic| size_fits) => `(tactic| repeat' (first | (with_reducible refine ok_c ?_) | (with_reducible refine ok_op ?_) | (with_reducible refine ok_nil ?_) | (with_reducible refine ok_cons ?_) | (with_reducible refine ok_b ?_) | (with_reducible refine ok_call ?_) | (with_reducible refine ok_ix ?_) | (with_reducible refine ok_seq ?_) | (with_reducible refine ok_if ?_) | (with_reducible refine ok_set ?_) | (with_reducible refine ok_rt ?_) | (with_reducible refine ok_rtn ?_) | (with_reducible refine ok_ex ?_) | (with_reducible refine ok_nx ?_) | (with_reducible refine ok_asg ?_) | (with_reducible refine ok_par ?_) | (with_reducible refine ok_tb ?_) | (with_reducible refine ok_tt ?_) | (with_reducible refine ok_tn ?_) | (with_reducible refine ok_tor ?_) | (with_reducible refine ok_tand ?_) | (with_reducible refine ok_not ?_) | (with_reducible refine ok_ife ?_) | (with_reducible refine ok_chain ?_) | (with_reducible refine ok_sl ?_) | (with_reducible refine ok_part ?_) | (with_reducible refine ok_nopart ?_) | (with_reducible refine ok_bm ?_) | (with_reducible refine ok_bm0 ?_) | (with_reducible refine ok_lst ?_) | (with_reducible refine ok_tup ?_) | (with_reducible refine ok_dK ?_) | (with_reducible refine ok_fld ?_) | (with_reducible refine ok_dix ?_) | (with_reducible refine ok_isi ?_) | (with_reducible refine ok_meth ?_) | (with_reducible refine ok_make ?_) | (with_reducible refine ok_sfld ?_) | (with_reducible refine ok_rev ?_) | (with_reducible refine ok_gput ?_) | (with_reducible refine ok_gnm ?_) | (with_reducible refine ok_gsnil ?_) | (with_reducible refine ok_gscons ?_) | (with_reducible refine ok_and ?_) | (with_reducible refine ok_or ?_) | (with_reducible refine ok_iR1 ?_) | (with_reducible refine ok_iR2 ?_) | (with_reducible refine ok_iL ?_) | (with_reducible refine ok_iE ?_) | (with_reducible refine ok_lc ?_) | (with_reducible refine ok_dc ?_) | (with_reducible refine ok_for ?_) | (with_reducible refine ok_yes ?_) | (with_reducible refine k_fnx ?_) | (with_reducible refine k_fct ?_) | (with_reducible refine k_fbk ?_) | (with_reducible refine k_frt ?_) | (with_reducible refine k_nx ?_) | (with_reducible refine k_rt ?_) | (with_reducible refine k_bk ?_) | (with_reducible refine k_ct ?_) | (with_reducible refine k_drt ?_) | (with_reducible refine k_dnx ?_) | (with_reducible refine k_t ?_) | (with_reducible refine k_f ?_) | (with_reducible refine k_n ?_) | (with_reducible refine k_bl ?_) | (with_reducible refine k_tbl ?_) | (with_reducible refine ok_add ?_) | (with_reducible refine ok_sub ?_) | (with_reducible refine ok_lt ?_) | (with_reducible refine ok_le ?_) | (with_reducible refine ok_gt ?_) | (with_reducible refine ok_ge ?_) | (with_reducible refine ok_max ?_) | (with_reducible refine ok_min ?_) | (with_reducible refine ok_abs ?_) | (with_reducible refine ok_lenr ?_) | ((with_reducible apply ok_var); (· exact rfl)) | ((with_reducible apply ok_gtp); (· exact rfl)) | ((with_reducible refine ok_mod ?_ ?_); (· first | decide | omega)) | ((with_reducible refine ok_fdiv ?_ ?_ ?_); (· first | decide | omega); (· first | decide | omega)) | ((with_reducible apply ok_lenl); (· assumption)) | ((with_reducible apply ok_list); (· assumption))))
theorem idx_inj {l : List Str} {a b : Str} (ha : a ∈ l) (hb : b ∈ l) (e : l.idxOf a = l.idxOf b) : a = b := by
  have h1 := List.getElem_idxOf (List.idxOf_lt_length_iff.mpr ha)
  have h2 := List.getElem_idxOf (List.idxOf_lt_length_iff.mpr hb)
  rw [← h1, ← h2]
  congr 1
theorem idx_map {f : Str → Str} (hf : ∀ a b, f a = f b → a = b) (x : Str) : ∀ l : List Str, (l.map f).idxOf (f x) = l.idxOf x
  | [] => rfl
  | y :: l => by
    rw [List.map_cons, List.idxOf_cons, List.idxOf_cons, idx_map hf x l]
    by_cases e : y = x
    · subst e; simp
    · have e2 : ¬ f y = f x := fun q => e (hf _ _ q)
      have b1 : (y == x) = false := by simpa using e
      have b2 : (f y == f x) = false := by simpa using e2
      rw [b1, b2]
def tau (u v z : Str) : Str := if z = u then v else if z = v then u else z
theorem tau_tau (u v z : Str) : tau u v (tau u v z) = z := by
  unfold tau
  by_cases h1 : z = u
  · subst h1
    by_cases h2 : v = z
    · subst h2; simp
    · simp [h2]
  · by_cases h2 : z = v
    · subst h2; simp [h1]
    · simp [h1, h2]
theorem tau_inj {u v a b : Str} (e : tau u v a = tau u v b) : a = b := by rw [← tau_tau u v a, e, tau_tau]
theorem tau_id {u v : Str} : ∀ {l : List Str}, u ∉ l → v ∉ l → l.map (tau u v) = l
  | [], _, _ => rfl
  | z :: l, h1, h2 => by
    rw [List.mem_cons, not_or] at h1 h2
    rw [List.map_cons, tau_id h1.2 h2.2]
    have : tau u v z = z := by
      unfold tau
      rw [if_neg (fun e => h1.1 e.symm), if_neg (fun e => h2.1 e.symm)]
    rw [this]
theorem swp_tau {l : List Str} {i : Nat} (nd : l.Nodup) (h : i + 1 < l.length) : swp l i = l.map (tau l[i] l[i + 1]) := by
  have s := split2 h
  have nd2 := nd
  rw [s] at nd2
  rw [List.nodup_append, List.nodup_append] at nd2
  obtain ⟨⟨n1, n2, n3⟩, n4, n5⟩ := nd2
  have uv : l[i] ≠ l[i + 1] := by
    intro e
    rw [List.nodup_cons] at n2
    exact n2.1 (by rw [e]; exact List.mem_cons_self)
  have t1 : (l.take i).map (tau l[i] l[i + 1]) = l.take i := tau_id (fun q => n3 _ q _ List.mem_cons_self rfl) (fun q => n3 _ q _ (List.mem_cons_of_mem _ List.mem_cons_self) rfl)
  have t2 : (l.drop (i + 2)).map (tau l[i] l[i + 1]) = l.drop (i + 2) := tau_id (fun q => n5 _ (List.mem_append_right _ List.mem_cons_self) _ q rfl) (fun q => n5 _ (List.mem_append_right _ (List.mem_cons_of_mem _ List.mem_cons_self)) _ q rfl)
  have a1 : tau l[i] l[i + 1] l[i] = l[i + 1] := by simp [tau]
  have a2 : tau l[i] l[i + 1] l[i + 1] = l[i] := by
    unfold tau
    rw [if_neg (fun e => uv e.symm), if_pos rfl]
  have mp : l.map (tau l[i] l[i + 1]) = (l.take i ++ [l[i], l[i + 1]] ++ l.drop (i + 2)).map (tau l[i] l[i + 1]) := by rw [← s]
  rw [swp_eq h, mp, List.map_append, List.map_append, t1, t2, List.map_cons, List.map_cons, a1, a2]; rfl
theorem swp_map {l : List Str} {i : Nat} (f : Str → Str) : swp (l.map f) i = (swp l i).map f := by
  unfold swp
  simp only [List.map_append, List.map_take, List.map_drop, List.getElem?_map]
  cases l[i + 1]? <;> cases l[i]? <;> rfl
/-- what one swap does to the inverted pairs -/
theorem inv_sw {xs ys : List Str} {i : Nat} (nd : xs.Nodup) (O : Ord xs ys) (h : i + 1 < ys.length) (a c : Str) :
    (a, c) ∈ ips xs (swp ys i) ↔ ((a = ys[i] ∧ c = ys[i + 1]) ∧ xs.idxOf ys[i] < xs.idxOf ys[i + 1]) ∨ (¬ (a = ys[i + 1] ∧ c = ys[i]) ∧ (a, c) ∈ ips xs ys) := by
  rw [mem_ips nd, mem_ips nd]
  have iu : ys.idxOf ys[i] = i := List.Nodup.idxOf_getElem O.nd _ _
  have iv : ys.idxOf ys[i + 1] = i + 1 := List.Nodup.idxOf_getElem O.nd _ _
  have uv : ys[i] ≠ ys[i + 1] := fun e => by rw [e] at iu; omega
  have ix : ∀ z, (swp ys i).idxOf z = ys.idxOf (tau ys[i] ys[i + 1] z) := fun z => by
    rw [swp_tau O.nd h]
    have := idx_map (f := tau ys[i] ys[i + 1]) (fun _ _ => tau_inj) (tau ys[i] ys[i + 1] z) ys
    rw [tau_tau] at this
    exact this
  rw [ix, ix]
  have tv : ∀ z, ys.idxOf (tau ys[i] ys[i + 1] z) = if z = ys[i] then i + 1 else if z = ys[i + 1] then i else ys.idxOf z := fun z => by
    unfold tau
    split
    · exact iv
    · split
      · exact iu
      · rfl
  rw [tv, tv]
  have neq : ∀ z, z ∈ xs → z ≠ ys[i] → z ≠ ys[i + 1] → ys.idxOf z ≠ i ∧ ys.idxOf z ≠ i + 1 := fun z hz h1 h2 =>
    ⟨fun e => h1 (idx_inj (ord_mem O hz) (List.getElem_mem _) (e.trans iu.symm)), fun e => h2 (idx_inj (ord_mem O hz) (List.getElem_mem _) (e.trans iv.symm))⟩
  constructor
  · rintro ⟨ha, hc, h1, h2⟩
    by_cases a1 : a = ys[i]
    · by_cases c1 : c = ys[i + 1]
      · exact .inl ⟨⟨a1, c1⟩, by rw [← a1, ← c1]; exact h1⟩
      · refine .inr ⟨fun q => uv (a1.symm.trans q.1), ha, hc, h1, ?_⟩
        have c2 : c ≠ ys[i] := fun q => by rw [a1, q] at h1; omega
        obtain ⟨n1, n2⟩ := neq c hc c2 c1
        rw [if_neg c2, if_neg c1, if_pos a1] at h2
        rw [a1, iu]; omega
    · by_cases a2 : a = ys[i + 1]
      · by_cases c1 : c = ys[i]
        · rw [if_pos c1, if_neg a1, if_pos a2] at h2
          omega
        · refine .inr ⟨fun q => c1 q.2, ha, hc, h1, ?_⟩
          have c2 : c ≠ ys[i + 1] := fun q => by rw [a2, q] at h1; omega
          obtain ⟨n1, n2⟩ := neq c hc c1 c2
          rw [if_neg c1, if_neg c2, if_neg a1, if_pos a2] at h2
          rw [a2, iv]; omega
      · obtain ⟨n1, n2⟩ := neq a ha a1 a2
        refine .inr ⟨fun q => a2 q.1, ha, hc, h1, ?_⟩
        rw [if_neg a1, if_neg a2] at h2
        by_cases c1 : c = ys[i]
        · rw [if_pos c1] at h2
          rw [c1, iu]; omega
        · by_cases c2 : c = ys[i + 1]
          · rw [if_neg c1, if_pos c2] at h2
            rw [c2, iv]; omega
          · rw [if_neg c1, if_neg c2] at h2
            exact h2
  · rintro (⟨⟨rfl, rfl⟩, h1⟩ | ⟨h0, ha, hc, h1, h2⟩)
    · refine ⟨O.mem _ (List.getElem_mem _), O.mem _ (List.getElem_mem _), h1, ?_⟩
      rw [if_neg (fun e => uv e.symm), if_pos rfl, if_pos rfl]
      omega
    · refine ⟨ha, hc, h1, ?_⟩
      by_cases a1 : a = ys[i]
      · by_cases c1 : c = ys[i + 1]
        · rw [a1, c1, iu, iv] at h2; omega
        · have c2 : c ≠ ys[i] := fun q => by rw [a1, q] at h1; omega
          obtain ⟨n1, n2⟩ := neq c hc c2 c1
          rw [if_neg c2, if_neg c1, if_pos a1]
          rw [a1, iu] at h2; omega
      · by_cases a2 : a = ys[i + 1]
        · have c1 : c ≠ ys[i] := fun q => h0 ⟨a2, q⟩
          have c2 : c ≠ ys[i + 1] := fun q => by rw [a2, q] at h1; omega
          obtain ⟨n1, n2⟩ := neq c hc c1 c2
          rw [if_neg c1, if_neg c2, if_neg a1, if_pos a2]
          rw [a2, iv] at h2; omega
        · obtain ⟨n1, n2⟩ := neq a ha a1 a2
          rw [if_neg a1, if_neg a2]
          by_cases c1 : c = ys[i]
          · rw [if_pos c1]
            rw [c1, iu] at h2; omega
          · by_cases c2 : c = ys[i + 1]
            · rw [if_neg c1, if_pos c2]
              rw [c2, iv] at h2; omega
            · rw [if_neg c1, if_neg c2]
              exact h2
theorem blk_nd {xs ys : List Str} (nd : xs.Nodup) (p : Nat) : (blk xs ys p).Nodup := by
  unfold blk
  split
  · refine map_nodup (fun a b e => (Prod.mk.inj e).2) ?_
    exact List.Nodup.sublist List.filter_sublist (List.Nodup.sublist (List.drop_sublist _ _) nd)
  · exact List.nodup_nil
theorem ips_nd {xs ys : List Str} (nd : xs.Nodup) : (ips xs ys).Nodup := by
  unfold ips
  suffices h : ∀ n, n ≤ xs.length → ((List.range n).flatMap (blk xs ys)).Nodup from h _ (Nat.le_refl _)
  intro n
  induction n with
  | zero => intro _; simp
  | succ n ih =>
    intro hn
    rw [range_next, List.nodup_append]
    refine ⟨ih (by omega), blk_nd nd n, fun p hp q hq e => ?_⟩
    obtain ⟨k, hk, hp⟩ := List.mem_flatMap.mp hp
    have hk := List.mem_range.mp hk
    rw [blk_at (show k < xs.length by omega)] at hp
    rw [blk_at (show n < xs.length by omega)] at hq
    obtain ⟨_, _, rfl⟩ := List.mem_map.mp hp
    obtain ⟨_, _, rfl⟩ := List.mem_map.mp hq
    have := (List.getElem_inj nd).mp (Prod.mk.inj e).1
    omega
theorem len_mem {α : Type} [DecidableEq α] {l m : List α} (h1 : l.Nodup) (h2 : m.Nodup) (h : ∀ x, x ∈ l ↔ x ∈ m) : l.length = m.length :=
  Nat.le_antisymm (pigeon h1 fun x hx => (h x).mp hx) (pigeon h2 fun x hx => (h x).mpr hx)
theorem cnt_out {xs ys : List Str} {i : Nat} (nd : xs.Nodup) (O : Ord xs ys) (h : i + 1 < ys.length) (q : xs.idxOf ys[i] < xs.idxOf ys[i + 1]) : (ips xs (swp ys i)).length = (ips xs ys).length + 1 := by
  have iu : ys.idxOf ys[i] = i := List.Nodup.idxOf_getElem O.nd _ _
  have iv : ys.idxOf ys[i + 1] = i + 1 := List.Nodup.idxOf_getElem O.nd _ _
  have nm : (ys[i], ys[i + 1]) ∉ ips xs ys := fun hm => by
    have := ((mem_ips nd).mp hm).2.2.2
    omega
  have : (ips xs (swp ys i)).length = ((ys[i], ys[i + 1]) :: ips xs ys).length := by
    refine len_mem (ips_nd nd) (List.nodup_cons.mpr ⟨nm, ips_nd nd⟩) fun ⟨a, c⟩ => ?_
    rw [inv_sw nd O h, List.mem_cons, Prod.mk.injEq]
    constructor
    · rintro (⟨e, _⟩ | ⟨_, e⟩)
      · exact .inl e
      · exact .inr e
    · rintro (e | e)
      · exact .inl ⟨e, q⟩
      · refine .inr ⟨fun ⟨e1, e2⟩ => ?_, e⟩
        have := ((mem_ips nd).mp e).2.2.1
        rw [e1, e2] at this
        omega
  simpa using this
theorem cnt_in {xs ys : List Str} {i : Nat} (nd : xs.Nodup) (O : Ord xs ys) (h : i + 1 < ys.length) (q : xs.idxOf ys[i + 1] < xs.idxOf ys[i]) : (ips xs (swp ys i)).length + 1 = (ips xs ys).length ∧ (ys[i + 1], ys[i]) ∈ ips xs ys := by
  have hs : i + 1 < (swp ys i).length := by rw [swp_len h]; exact h
  obtain ⟨a1, a2⟩ := swp_at h
  have := cnt_out nd (O.perm (swp_perm h)) hs (by rw [a1, a2]; exact q)
  rw [swp_swp h] at this
  refine ⟨this.symm, (mem_ips nd).mpr ⟨O.mem _ (List.getElem_mem _), O.mem _ (List.getElem_mem _), q, ?_⟩⟩
  have iu : ys.idxOf ys[i] = i := List.Nodup.idxOf_getElem O.nd _ _
  have iv : ys.idxOf ys[i + 1] = i + 1 := List.Nodup.idxOf_getElem O.nd _ _
  omega
abbrev En : Type := Nat × Str
def gd (l : List Str) (i : Nat) : Str := (l[i]?).getD ⟨#[]⟩
theorem gd_at {l : List Str} {i : Nat} (h : i < l.length) : gd l i = l[i] := by
  unfold gd; rw [List.getElem?_eq_getElem h]; rfl
def ord (l : List Str) (es : List En) : List Str := es.foldl (fun l e => swp l e.1) l
def prL : List Str → List En → List Pr
  | _, [] => []
  | l, e :: es => (gd l e.1, gd l (e.1 + 1)) :: prL (swp l e.1) es
def Val (n : Nat) (es : List En) : Prop := ∀ e ∈ es, e.1 + 1 < n
theorem ord_app {l : List Str} {es fs : List En} : ord l (es ++ fs) = ord (ord l es) fs := by unfold ord; rw [List.foldl_append]
theorem ord_map {f : Str → Str} : ∀ {es : List En} {l : List Str}, ord (l.map f) es = (ord l es).map f
  | [], _ => rfl
  | e :: es, l => by
    show ord (swp (l.map f) e.1) es = (ord (swp l e.1) es).map f
    rw [swp_map, ord_map]
theorem ord_ord {xs : List Str} : ∀ {es : List En} {l : List Str}, Ord xs l → Val xs.length es → Ord xs (ord l es)
  | [], _, O, _ => O
  | e :: es, l, O, v => by
    have h := v e List.mem_cons_self
    exact ord_ord (es := es) (O.perm (swp_perm (by rw [O.len]; exact h))) fun f hf => v f (List.mem_cons_of_mem _ hf)
theorem prL_len : ∀ {es : List En} {l : List Str}, (prL l es).length = es.length
  | [], _ => rfl
  | _ :: es, _ => by simp [prL, prL_len (es := es)]
theorem prL_app : ∀ {es fs : List En} {l : List Str}, prL l (es ++ fs) = prL l es ++ prL (ord l es) fs
  | [], _, _ => rfl
  | e :: es, fs, l => by
    show _ :: prL (swp l e.1) (es ++ fs) = _
    rw [prL_app]; rfl
/-- a log: as many entries as inverted pairs -/
structure LI (xs ys : List Str) (es : List En) : Prop where
  val : Val xs.length es
  oe : ord xs es = ys
  cnt : es.length = (ips xs ys).length
theorem step_le {xs ys : List Str} {i : Nat} (nd : xs.Nodup) (O : Ord xs ys) (h : i + 1 < ys.length) : (ips xs (swp ys i)).length ≤ (ips xs ys).length + 1 := by
  by_cases q : xs.idxOf ys[i] < xs.idxOf ys[i + 1]
  · rw [cnt_out nd O h q]; omega
  · have ne : xs.idxOf ys[i] ≠ xs.idxOf ys[i + 1] := fun e => by
      have := idx_inj (O.mem _ (List.getElem_mem _)) (O.mem _ (List.getElem_mem _)) e
      have := (List.getElem_inj O.nd).mp this
      omega
    have := (cnt_in nd O h (by omega)).1
    omega
theorem cnt_le {xs : List Str} (nd : xs.Nodup) : ∀ {es : List En} {l : List Str}, Ord xs l → Val xs.length es → (ips xs (ord l es)).length ≤ (ips xs l).length + es.length
  | [], _, _, _ => by simp [ord]
  | e :: es, l, O, v => by
    have h := v e List.mem_cons_self
    have h' : e.1 + 1 < l.length := by rw [O.len]; exact h
    have := cnt_le nd (es := es) (O.perm (swp_perm h')) fun f hf => v f (List.mem_cons_of_mem _ hf)
    have := step_le nd O h'
    show (ips xs (ord (swp l e.1) es)).length ≤ _
    simp only [List.length_cons]
    omega
/-- each step of a log is outward, its pairs are the inverted ones, each once -/
theorem li_pairs {xs : List Str} (nd : xs.Nodup) : ∀ {es : List En} {l : List Str}, Ord xs l → Val xs.length es → (ips xs (ord l es)).length = (ips xs l).length + es.length →
    (prL l es).Nodup ∧ (∀ p, p ∈ ips xs (ord l es) ↔ p ∈ prL l es ∨ p ∈ ips xs l) ∧ (∀ p ∈ prL l es, p ∉ ips xs l)
  | [], l, O, v, c => ⟨List.nodup_nil, fun p => by simp [prL, ord], fun p hp => by cases hp⟩
  | e :: es, l, O, v, c => by
    have h := v e List.mem_cons_self
    have h' : e.1 + 1 < l.length := by rw [O.len]; exact h
    have O2 := O.perm (swp_perm h')
    have v2 : Val xs.length es := fun f hf => v f (List.mem_cons_of_mem _ hf)
    have c1 := cnt_le nd O2 v2
    have c2 := step_le nd O h'
    have c3 : (ips xs (ord (swp l e.1) es)).length = (ips xs l).length + (es.length + 1) := c
    have out : xs.idxOf l[e.1] < xs.idxOf l[e.1 + 1] := by
      refine Classical.byContradiction fun q => ?_
      have ne : xs.idxOf l[e.1] ≠ xs.idxOf l[e.1 + 1] := fun e0 => by
        have := idx_inj (O.mem _ (List.getElem_mem _)) (O.mem _ (List.getElem_mem _)) e0
        have := (List.getElem_inj O.nd).mp this
        omega
      have := (cnt_in nd O h' (by omega)).1
      omega
    have c4 := cnt_out nd O h' out
    obtain ⟨i1, i2, i3⟩ := li_pairs nd (es := es) O2 v2 (by omega)
    have g1 : gd l e.1 = l[e.1] := gd_at (by omega)
    have g2 : gd l (e.1 + 1) = l[e.1 + 1] := gd_at h'
    have iu : l.idxOf l[e.1] = e.1 := List.Nodup.idxOf_getElem O.nd _ _
    have iv : l.idxOf l[e.1 + 1] = e.1 + 1 := List.Nodup.idxOf_getElem O.nd _ _
    have new : (l[e.1], l[e.1 + 1]) ∉ ips xs l := fun hm => by
      have := ((mem_ips nd).mp hm).2.2.2
      omega
    have now : (l[e.1], l[e.1 + 1]) ∈ ips xs (swp l e.1) := (inv_sw nd O h' _ _).mpr (.inl ⟨⟨rfl, rfl⟩, out⟩)
    have sub : ∀ p, p ∈ ips xs l → p ∈ ips xs (swp l e.1) := fun ⟨a, b⟩ hm => (inv_sw nd O h' _ _).mpr (.inr ⟨fun q => by
      have := ((mem_ips nd).mp hm).2.2.1
      rw [q.1, q.2] at this
      omega, hm⟩)
    unfold prL
    rw [g1, g2]
    refine ⟨List.nodup_cons.mpr ⟨fun hm => i3 _ hm now, i1⟩, fun p => ?_, fun p hp => ?_⟩
    · show p ∈ ips xs (ord (swp l e.1) es) ↔ _
      rw [i2, List.mem_cons]
      obtain ⟨a, b⟩ := p
      rw [inv_sw nd O h']
      constructor
      · rintro (q | ⟨⟨q1, q2⟩, _⟩ | ⟨_, q⟩)
        · exact .inl (.inr q)
        · exact .inl (.inl (by rw [q1, q2]))
        · exact .inr q
      · rintro ((q | q) | q)
        · exact .inr (.inl ⟨Prod.mk.inj q, out⟩)
        · exact .inl q
        · exact .inr ((inv_sw nd O h' _ _).mp (sub _ q))
    · rcases List.mem_cons.mp hp with rfl | hp
      · exact new
      · exact fun hm => i3 p hp (sub p hm)
theorem ips_base {xs : List Str} (nd : xs.Nodup) : ips xs xs = [] := by
  refine List.eq_nil_iff_forall_not_mem.mpr fun p hp => ?_
  obtain ⟨_, _, h1, h2⟩ := (mem_ips nd).mp (show (p.1, p.2) ∈ ips xs xs from hp)
  omega
theorem LI.pairs {xs ys : List Str} {es : List En} (L : LI xs ys es) (nd : xs.Nodup) : (prL xs es).Nodup ∧ ∀ p, p ∈ prL xs es ↔ p ∈ ips xs ys := by
  have c := L.cnt
  rw [← L.oe] at c
  obtain ⟨h1, h2, _⟩ := li_pairs nd (Ord.refl nd) L.val (by rw [ips_base nd]; simpa using c.symm)
  rw [L.oe] at h2
  refine ⟨h1, fun p => ?_⟩
  rw [h2, ips_base nd]
  simp
theorem LI.nil {xs : List Str} (nd : xs.Nodup) : LI xs xs [] := ⟨fun e he => (by cases he), rfl, (by rw [ips_base nd]; rfl)⟩
theorem LI.O {xs ys : List Str} {es : List En} (L : LI xs ys es) (nd : xs.Nodup) : Ord xs ys := by
  rw [← L.oe]; exact ord_ord (Ord.refl nd) L.val
theorem LI.out {xs ys : List Str} {es : List En} {i : Nat} {z : Str} (L : LI xs ys es) (nd : xs.Nodup) (h : i + 1 < ys.length) (q : xs.idxOf ys[i] < xs.idxOf ys[i + 1]) : LI xs (swp ys i) (es ++ [(i, z)]) := by
  have O := L.O nd
  refine ⟨fun e he => ?_, ?_, ?_⟩
  · rcases List.mem_append.mp he with he | he
    · exact L.val e he
    · rw [List.mem_singleton] at he
      subst he
      rw [← O.len]; exact h
  · rw [ord_app, L.oe]; rfl
  · rw [List.length_append, L.cnt, cnt_out nd O h q]; rfl
/-- the entry that inverts the pair goes -/
theorem LI.inw {xs ys : List Str} {es : List En} {i p : Nat} (L : LI xs ys es) (nd : xs.Nodup) (h : i + 1 < ys.length) (q : xs.idxOf ys[i + 1] < xs.idxOf ys[i]) (hp : (prL xs es)[p]? = some (ys[i + 1], ys[i])) : LI xs (swp ys i) (es.eraseIdx p) := by
  have O := L.O nd
  have pl : p < es.length := by
    have := (List.getElem?_eq_some_iff.mp hp).1
    rwa [prL_len] at this
  have se : es = es.take p ++ es[p] :: es.drop (p + 1) := by
    rw [← List.drop_eq_getElem_cons pl, List.take_append_drop]
  have er : es.eraseIdx p = es.take p ++ es.drop (p + 1) := List.eraseIdx_eq_take_drop_succ es p
  have vt : Val xs.length (es.take p) := fun e he => L.val e (List.mem_of_mem_take he)
  have O1 : Ord xs (ord xs (es.take p)) := ord_ord (Ord.refl nd) vt
  have hv := L.val es[p] (List.getElem_mem pl)
  have hz : es[p].1 + 1 < (ord xs (es.take p)).length := by rw [O1.len]; exact hv
  have pr : (gd (ord xs (es.take p)) es[p].1, gd (ord xs (es.take p)) (es[p].1 + 1)) = (ys[i + 1], ys[i]) := by
    have e1 := hp
    rw [se, prL_app] at e1
    have lt : (prL xs (es.take p)).length = p := by rw [prL_len, List.length_take]; omega
    rw [List.getElem?_append_right (by omega), lt, Nat.sub_self] at e1
    exact Option.some.inj e1
  rw [gd_at (by omega), gd_at hz, Prod.mk.injEq] at pr
  have yo : ord (swp (ord xs (es.take p)) es[p].1) (es.drop (p + 1)) = ys := by
    have e1 := L.oe
    rw [se, ord_app] at e1
    exact e1
  have zz : ord xs (es.take p) = (swp (ord xs (es.take p)) es[p].1).map (tau ys[i + 1] ys[i]) := by
    rw [swp_tau O1.nd hz, pr.1, pr.2, List.map_map]
    have : (tau ys[i + 1] ys[i] ∘ tau ys[i + 1] ys[i]) = id := funext fun z => tau_tau _ _ z
    rw [this, List.map_id]
  have tt : ∀ z, tau ys[i + 1] ys[i] z = tau ys[i] ys[i + 1] z := fun z => by
    unfold tau
    by_cases a : z = ys[i + 1]
    · by_cases b : z = ys[i]
      · rw [if_pos a, if_pos b, ← a, ← b]
      · rw [if_pos a, if_neg b, if_pos a]
    · by_cases b : z = ys[i]
      · rw [if_neg a, if_pos b, if_pos b]
      · rw [if_neg a, if_neg b, if_neg b, if_neg a]
  refine ⟨fun e he => L.val e (List.mem_of_mem_eraseIdx he), ?_, ?_⟩
  · rw [er, ord_app, zz, ord_map, yo, swp_tau O.nd h]
    exact List.map_congr_left fun z _ => tt z
  · have c := L.cnt
    have := (cnt_in nd O h q).1
    rw [List.length_eraseIdx_of_lt pl]
    omega
theorem LI.uniq {xs ys : List Str} {es : List En} {p : Nat} {a : Pr} (L : LI xs ys es) (nd : xs.Nodup) (hp : (prL xs es)[p]? = some a) : (prL xs es).idxOf a = p := by
  obtain ⟨hl, e⟩ := List.getElem?_eq_some_iff.mp hp
  rw [← e]
  exact List.Nodup.idxOf_getElem (L.pairs nd).1 _ _
end Lw

set_option maxHeartbeats 4000000
namespace Lw
open PySem L2 O
local macro_rules | `(tactic| size_fits) => `(tactic| repeat' (first | (with_reducible refine ok_c ?_) | (with_reducible refine ok_op ?_) | (with_reducible refine ok_nil ?_) | (with_reducible refine ok_cons ?_) | (with_reducible refine ok_b ?_) | (with_reducible refine ok_call ?_) | (with_reducible refine ok_ix ?_) | (with_reducible refine ok_seq ?_) | (with_reducible refine ok_if ?_) | (with_reducible refine ok_set ?_) | (with_reducible refine ok_rt ?_) | (with_reducible refine ok_rtn ?_) | (with_reducible refine ok_ex ?_) | (with_reducible refine ok_nx ?_) | (with_reducible refine ok_asg ?_) | (with_reducible refine ok_par ?_) | (with_reducible refine ok_tb ?_) | (with_reducible refine ok_tt ?_) | (with_reducible refine ok_tn ?_) | (with_reducible refine ok_tor ?_) | (with_reducible refine ok_tand ?_) | (with_reducible refine ok_not ?_) | (with_reducible refine ok_ife ?_) | (with_reducible refine ok_chain ?_) | (with_reducible refine ok_sl ?_) | (with_reducible refine ok_part ?_) | (with_reducible refine ok_nopart ?_) | (with_reducible refine ok_bm ?_) | (with_reducible refine ok_bm0 ?_) | (with_reducible refine ok_lst ?_) | (with_reducible refine ok_tup ?_) | (with_reducible refine ok_dK ?_) | (with_reducible refine ok_fld ?_) | (with_reducible refine ok_dix ?_) | (with_reducible refine ok_isi ?_) | (with_reducible refine ok_meth ?_) | (with_reducible refine ok_make ?_) | (with_reducible refine ok_sfld ?_) | (with_reducible refine ok_rev ?_) | (with_reducible refine ok_gput ?_) | (with_reducible refine ok_gnm ?_) | (with_reducible refine ok_gsnil ?_) | (with_reducible refine ok_gscons ?_) | (with_reducible refine ok_and ?_) | (with_reducible refine ok_or ?_) | (with_reducible refine ok_iR1 ?_) | (with_reducible refine ok_iR2 ?_) | (with_reducible refine ok_iL ?_) | (with_reducible refine ok_iE ?_) | (with_reducible refine ok_lc ?_) | (with_reducible refine ok_dc ?_) | (with_reducible refine ok_for ?_) | (with_reducible refine ok_yes ?_) | (with_reducible refine k_fnx ?_) | (with_reducible refine k_fct ?_) | (with_reducible refine k_fbk ?_) | (with_reducible refine k_frt ?_) | (with_reducible refine k_nx ?_) | (with_reducible refine k_rt ?_) | (with_reducible refine k_bk ?_) | (with_reducible refine k_ct ?_) | (with_reducible refine k_drt ?_) | (with_reducible refine k_dnx ?_) | (with_reducible refine k_t ?_) | (with_reducible refine k_f ?_) | (with_reducible refine k_n ?_) | (with_reducible refine k_bl ?_) | (with_reducible refine k_tbl ?_) | (with_reducible refine ok_add ?_) | (with_reducible refine ok_sub ?_) | (with_reducible refine ok_lt ?_) | (with_reducible refine ok_le ?_) | (with_reducible refine ok_gt ?_) | (with_reducible refine ok_ge ?_) | (with_reducible refine ok_max ?_) | (with_reducible refine ok_min ?_) | (with_reducible refine ok_abs ?_) | (with_reducible refine ok_lenr ?_) | ((with_reducible apply ok_var); (· exact rfl)) | ((with_reducible apply ok_gtp); (· exact rfl)) | ((with_reducible refine ok_mod ?_ ?_); (· first | decide | omega)) | ((with_reducible refine ok_fdiv ?_ ?_ ?_); (· first | decide | omega); (· first | decide | omega)) | ((with_reducible apply ok_lenl); (· assumption)) | ((with_reducible apply ok_list); (· assumption))))
def env (e : En) : OV := .tup [.int e.1, .str e.2]
def ens (es : List En) : List OV := es.map env
theorem ens_len {es : List En} : (ens es).length = es.length := by simp [ens]
theorem ens_app {es fs : List En} : ens es ++ ens fs = ens (es ++ fs) := by simp [ens]
theorem ens_at {es : List En} {i : Nat} (h : i < es.length) : (ens es)[i]? = some (env es[i]) := by
  unfold ens; rw [List.getElem?_map, List.getElem?_eq_getElem h]; rfl
theorem ens_ne {es : List En} {x y : Int} : OO.lst (ens es) ≠ .lst [.int x, .int y] := by
  intro e
  have e : ens es = [.int x, .int y] := OO.lst.inj e
  cases es with
  | nil => cases e
  | cons z zs => cases e
theorem nms_ens {xs : List Str} {es : List En} (h : xs ≠ []) : OO.lst (nms xs) ≠ .lst (ens es) := by
  intro e
  have e : nms xs = ens es := OO.lst.inj e
  cases xs with
  | nil => exact h rfl
  | cons x xs =>
    cases es with
    | nil => cases e
    | cons z zs => cases e
structure LogAt (h : OH) (g c d b : Nat) (xs ys : List Str) (es : List En) : Prop where
  o : h[g]? = some (.ins "SwapLog" [("own_base", .ref b), ("current", .ref c), ("done", .ref d)])
  cu : h[c]? = some (.lst (nms ys))
  dn : h[d]? = some (.lst (ens es))
  B : BaseAt h b xs
section
variable {h h' : OH} {g c d b r a : Nat} {xs ys : List Str} {es : List En}
theorem LogAt.keep (L : LogAt h g c d b xs ys es) (F : Fr No h h') : LogAt h' g c d b xs ys es := ⟨F.keep _ _ id L.o, F.keep _ _ id L.cu, F.keep _ _ id L.dn, L.B.keep F⟩
theorem LogAt.keepR (L : LogAt h g c d b xs ys es) (R : Rg h r) (F : Fr (· = r) h h') : LogAt h' g c d b xs ys es :=
  ⟨F.keep _ _ (rg_ne R L.o fun _ _ z => nomatch z) L.o, nms_keepR L.cu R F, F.keep _ _ (rg_ne R L.dn fun _ _ => ens_ne) L.dn, L.B.keepR R F⟩
/-- what a log may change -/
abbrev SL (g d : Nat) : Nat → Prop := fun a => a = g ∨ a = d
theorem ne_at {a : Nat} {o u : OO} (e : h[a]? = some o) (e2 : h[d]? = some u) (n : o ≠ u) : a ≠ d := by
  rintro rfl
  rw [e] at e2
  exact n (Option.some.inj e2)
theorem LogAt.nsl (L : LogAt h g c d b xs ys es) {zs : List Str} (e : h[a]? = some (.lst (nms zs))) (n : zs ≠ []) : ¬ SL g d a := fun q => q.elim (ne_at e L.o fun z => nomatch z) (ne_at e L.dn (nms_ens n))
theorem LogAt.kp (L : LogAt h g c d b xs ys es) (F : Fr (SL g d) h h') {zs : List Str} (e : h[a]? = some (.lst (nms zs))) (n : zs ≠ []) : h'[a]? = some (.lst (nms zs)) := F.keep _ _ (L.nsl e n) e
theorem LogAt.base (L : LogAt h g c d b xs ys es) (F : Fr (SL g d) h h') (n : xs ≠ []) : BaseAt h' b xs := by
  obtain ⟨l, p, e1, e2, e3⟩ := L.B
  exact ⟨l, p, F.keep _ _ (fun q => q.elim (ne_at e1 L.o fun z => by cases z) (ne_at e1 L.dn fun z => nomatch z)) e1, L.kp F e2 n, F.keep _ _ (fun q => q.elim (ne_at e3 L.o fun z => nomatch z) (ne_at e3 L.dn fun z => nomatch z)) e3⟩
theorem LogAt.rg (L : LogAt h g c d b xs ys es) (F : Fr (SL g d) h h') (R : Rg h r) : Rg h' r := by
  obtain ⟨x, y, e⟩ := R
  exact ⟨x, y, F.keep _ _ (fun q => q.elim (ne_at e L.o fun z => nomatch z) (ne_at e L.dn fun z => ens_ne z.symm)) e⟩
theorem putFO_len {f : Str} {v : OV} : ∀ {fs : List (Str × OV)}, (putFO f v fs).length ≤ fs.length + 1
  | [] => Nat.le_refl _
  | (k, x) :: fs => by
    unfold putFO
    split
    · simp
    · have := putFO_len (f := f) (v := v) (fs := fs)
      simp only [List.length_cons]
      omega
theorem sp_loginit (eg : h[g]? = some (.ins "SwapLog" [])) (B : BaseAt h b xs) : Ok (f_SwapLog___init__ [.ref g, .ref b] h) (fun v h' => v = .non ∧ Fr (· = g) h h' ∧ ∃ c d, LogAt h' g c d b xs xs [] ∧ h.length ≤ d) := by
  obtain ⟨l, p, e1, e2, e3⟩ := B
  have n1 : g ≠ b := (ne_at e1 eg fun z => by cases z).symm
  have n2 : g ≠ l := (ne_at e2 eg fun z => nomatch z).symm
  have n3 : g ≠ p := (ne_at e3 eg fun z => nomatch z).symm
  refine ok_d rfl ?_
  unfold m_SwapLog___init__
  size_fits
  refine ⟨_, _, rfl, eg, by simp, ?_⟩
  size_fits
  have eg1 := at_set (o := .ins "SwapLog" (putFO "own_base" (.ref b) [])) eg
  have B1 : BaseAt (h.set g (.ins "SwapLog" (putFO "own_base" (.ref b) []))) b xs := ⟨l, p, at_ne n1 e1, at_ne n2 e2, at_ne n3 e3⟩
  have F1 : Fr (· = g) h (h.set g (.ins "SwapLog" (putFO "own_base" (.ref b) []))) := .set rfl
  generalize h.set g (.ins "SwapLog" (putFO "own_base" (.ref b) [])) = h1 at eg1 B1 F1 ⊢
  have B1' := B1
  obtain ⟨l, p, e1, e2, e3⟩ := B1'
  refine ⟨_, _, rfl, e1, rfl, ?_⟩
  size_fits
  refine ⟨⟨rfl, rfl⟩, ?_⟩
  refine (sp_names B1).mono fun v h2 ⟨c, ev, ec, F2⟩ => ?_
  subst ev
  have hc : c ≠ g := ne_at ec (F2.keep _ _ id eg1) fun z => nomatch z
  size_fits
  have eg2 := F2.keep _ _ id eg1
  refine ⟨_, _, rfl, eg2, by have := putFO_len (f := PySem.Str.ofString "own_base") (v := .ref b) (fs := []); simp only [List.length_nil] at this; omega, ?_⟩
  size_fits
  have eg3 := at_set (o := .ins "SwapLog" (putFO "current" (.ref c) (putFO "own_base" (.ref b) []))) eg2
  have ec3 := at_ne (o := .ins "SwapLog" (putFO "current" (.ref c) (putFO "own_base" (.ref b) []))) (fun q => hc q.symm) ec
  have B2 := B1.keep F2
  have B3 : BaseAt (h2.set g (.ins "SwapLog" (putFO "current" (.ref c) (putFO "own_base" (.ref b) [])))) b xs := by
    obtain ⟨l, p, e1, e2, e3⟩ := B2
    exact ⟨l, p, at_ne n1 e1, at_ne (ne_at e2 eg2 fun z => nomatch z).symm e2, at_ne (ne_at e3 eg2 fun z => nomatch z).symm e3⟩
  have F3 : Fr (· = g) h (h2.set g (.ins "SwapLog" (putFO "current" (.ref c) (putFO "own_base" (.ref b) [])))) := (F1.trans F2.no).trans (.set rfl)
  generalize h2.set g (.ins "SwapLog" (putFO "current" (.ref c) (putFO "own_base" (.ref b) []))) = h3 at eg3 ec3 B3 F3 ⊢
  refine ⟨by simp [sz], fun d h4 ed F4 ld => ?_⟩
  size_fits
  have eg4 := F4.keep _ _ id eg3
  refine ⟨_, _, rfl, eg4, by have h1 := putFO_len (f := PySem.Str.ofString "own_base") (v := .ref b) (fs := []); have h2 := putFO_len (f := PySem.Str.ofString "current") (v := .ref c) (fs := putFO (PySem.Str.ofString "own_base") (.ref b) []); simp only [List.length_nil] at h1; omega, ?_⟩
  size_fits
  have hd : d ≠ g := ne_at ed eg4 fun z => nomatch z
  have B4 := B3.keep F4
  have B5 : BaseAt (h4.set g (.ins "SwapLog" (putFO "done" (.ref d) (putFO "current" (.ref c) (putFO "own_base" (.ref b) []))))) b xs := by
    obtain ⟨l, p, e1, e2, e3⟩ := B4
    exact ⟨l, p, at_ne n1 e1, at_ne (ne_at e2 eg4 fun z => nomatch z).symm e2, at_ne (ne_at e3 eg4 fun z => nomatch z).symm e3⟩
  refine ⟨rfl, (F3.trans F4.no).trans (.set rfl), c, d, ⟨?_, at_ne (fun q => hc q.symm) (F4.keep _ _ id ec3), at_ne (fun q => hd q.symm) ed, B5⟩, ?_⟩
  · rw [at_set eg4]; rfl
  · have := F3.le; omega
theorem sp_lorder (L : LogAt h g c d b xs ys es) : Ok (f_SwapLog_order [.ref g] h) (fun v h' => ∃ r, v = .ref r ∧ h'[r]? = some (.lst (nms ys)) ∧ Fr No h h' ∧ h.length ≤ r) := by
  refine ok_d rfl ?_
  unfold m_SwapLog_order
  have ec := L.cu
  size_fits
  refine ⟨_, _, _, rfl, L.o, rfl, ?_⟩
  size_fits
  intro r h2 e2 F2 l2
  size_fits
  exact ⟨r, rfl, e2, F2, l2⟩
theorem sp_lentries (L : LogAt h g c d b xs ys es) : Ok (f_SwapLog_entries [.ref g] h) (fun v h' => ∃ r, v = .ref r ∧ h'[r]? = some (.lst (ens es)) ∧ Fr No h h' ∧ h.length ≤ r) := by
  refine ok_d rfl ?_
  unfold m_SwapLog_entries
  have ec := L.dn
  size_fits
  refine ⟨_, _, _, rfl, L.o, rfl, ?_⟩
  size_fits
  intro r h2 e2 F2 l2
  size_fits
  exact ⟨r, rfl, e2, F2, l2⟩
theorem sp_llen (L : LogAt h g c d b xs ys es) : Ok (f_SwapLog___len__ [.ref g] h) (fun v h' => v = .int es.length ∧ h' = h) := by
  refine ok_d rfl ?_
  unfold m_SwapLog___len__
  have ec := L.dn
  size_fits
  refine ⟨_, _, _, rfl, L.o, rfl, ?_⟩
  size_fits
  exact ⟨by rw [ens_len], rfl⟩
theorem val_take {n : Nat} (v : Val n es) (i : Nat) : Val n (es.take i) := fun e he => v e (List.mem_of_mem_take he)
theorem sp_epairs (L : LogAt h g c d b xs ys es) (nd : xs.Nodup) (v : Val xs.length es) (lx : xs.length ≤ 40) (le : es.length ≤ 100000) : Ok (f_SwapLog_entry_pairs [.ref g] h) (fun v h' => ∃ r, v = .ref r ∧ h'[r]? = some (.lst (prs (prL xs es))) ∧ Fr No h h' ∧ h.length ≤ r) := by
  refine ok_d rfl ?_
  unfold m_SwapLog_entry_pairs
  obtain ⟨l, p, e1, e2, e3⟩ := L.B
  size_fits
  refine ⟨_, _, _, rfl, L.o, rfl, ?_⟩
  refine ⟨_, _, rfl, e1, rfl, ?_⟩
  size_fits
  refine ⟨⟨rfl, rfl⟩, ?_⟩
  refine (sp_names L.B).mono fun v1 h1 ⟨n, ev, en, F1⟩ => ?_
  subst ev
  size_fits
  refine ⟨by simp [sz], fun f h2 ef F2 lf => ?_⟩
  have ef : h2[f]? = some (.lst (prs [])) := ef
  size_fits
  refine ⟨_, _, rfl, ?_⟩
  size_fits
  have L2 := (L.keep F1).keep F2
  refine ⟨_, _, _, rfl, L2.o, rfl, ?_⟩
  refine .inr (.inr ⟨_, _, rfl, L2.dn, ?_⟩)
  have lf0 : h.length ≤ f := by have := F1.le; omega
  refine fgo (I := fun i s h3 => (∃ x y n, s = [some (.ref g), some (.ref n), some (.ref f), x, y] ∧ n ≠ f ∧ h3[n]? = some (.lst (nms (ord xs (es.take i))))) ∧ h3[f]? = some (.lst (prs (prL xs (es.take i)))) ∧ Fr No h h3) (fun i s h3 hi ⟨⟨x, y, n, es', nf, en⟩, ef, F3⟩ => ?_) (fun s h3 ⟨⟨x, y, n, es', nf, en⟩, ef, F3⟩ => ?_) _ _ _ _ (by simp) ⟨⟨_, _, n, rfl, (by have := lt_of en; omega), F2.keep _ _ id en⟩, ef, F1.trans F2⟩
  · have hi : i < (ens es).length := hi
    rw [ens_len] at hi
    have L3 := L.keep F3
    have hv := v es[i] (List.getElem_mem hi)
    have O3 : Ord xs (ord xs (es.take i)) := ord_ord (Ord.refl nd) (val_take v i)
    have lo := O3.len
    refine ⟨lenIs_at L3.dn rfl, env es[i], by show itemL h3 d i = _; rw [itemL_at L3.dn, ens_at hi], ?_⟩
    subst es'
    unfold env
    size_fits
    refine ⟨isT_l ef, ?_⟩
    size_fits
    refine z_nms en (by omega) ?_
    size_fits
    refine z_nms (i := es[i].1 + 1) en (by omega) ?_
    size_fits
    refine ⟨by simp [sz], ?_⟩
    size_fits
    refine ok_append ef (by rw [prs_len, prL_len, List.length_take, sz]; omega) ?_
    size_fits
    refine ⟨⟨rfl, rfl⟩, ?_⟩
    have en4 := at_ne (o := .lst (prs (prL xs (es.take i)) ++ [.tup [.str (ord xs (es.take i))[es[i].1], .str (ord xs (es.take i))[es[i].1 + 1]]])) (fun q => nf q.symm) en
    have ef4 := at_set (o := .lst (prs (prL xs (es.take i)) ++ [.tup [.str (ord xs (es.take i))[es[i].1], .str (ord xs (es.take i))[es[i].1 + 1]]])) ef
    have F4 : Fr No h (h3.set f (.lst (prs (prL xs (es.take i)) ++ [.tup [.str (ord xs (es.take i))[es[i].1], .str (ord xs (es.take i))[es[i].1 + 1]]]))) := (F3.no.trans (Fr.set (S := (· = f)) rfl)).new (S := No) fun q hq hl => by omega
    generalize h3.set f (.lst (prs (prL xs (es.take i)) ++ [.tup [.str (ord xs (es.take i))[es[i].1], .str (ord xs (es.take i))[es[i].1 + 1]]])) = h4 at en4 ef4 F4 ⊢
    refine (sp_exch en4 (by omega) (by omega)).mono fun v5 h5 ⟨n5, ev, e5, F5, l5⟩ => ?_
    subst ev
    size_fits
    refine ⟨⟨_, _, n5, rfl, (by have := lt_of ef4; omega), ?_⟩, ?_, F4.trans F5⟩
    · rw [e5, ← take_next hi, ord_app]; rfl
    · rw [F5.keep _ _ id ef4, ← take_next hi, prL_app, ← prs_app]
      show _ = some (OO.lst (_ ++ prs [(gd (ord xs (es.take i)) es[i].1, gd (ord xs (es.take i)) (es[i].1 + 1))]))
      rw [gd_at (by omega), gd_at (by omega)]; rfl
  · have L3 := L.keep F3
    refine ⟨lenIs_at L3.dn rfl, ?_⟩
    subst es'
    have ef : h3[f]? = some (.lst (prs (prL xs (es.take (ens es).length)))) := ef
    rw [ens_len, List.take_length] at ef
    size_fits
    exact ⟨f, rfl, ef, F3, lf0⟩
end
end Lw

set_option maxHeartbeats 4000000
namespace Lw
open PySem L2 O
local macro_rules | `(tactic| size_fits) => `(tactic| repeat' (first | (with_reducible refine ok_c ?_) | (with_reducible refine ok_op ?_) | (with_reducible refine ok_nil ?_) | (with_reducible refine ok_cons ?_) | (with_reducible refine ok_b ?_) | (with_reducible refine ok_call ?_) | (with_reducible refine ok_ix ?_) | (with_reducible refine ok_seq ?_) | (with_reducible refine ok_if ?_) | (with_reducible refine ok_set ?_) | (with_reducible refine ok_rt ?_) | (with_reducible refine ok_rtn ?_) | (with_reducible refine ok_ex ?_) | (with_reducible refine ok_nx ?_) | (with_reducible refine ok_asg ?_) | (with_reducible refine ok_par ?_) | (with_reducible refine ok_tb ?_) | (with_reducible refine ok_tt ?_) | (with_reducible refine ok_tn ?_) | (with_reducible refine ok_tor ?_) | (with_reducible refine ok_tand ?_) | (with_reducible refine ok_not ?_) | (with_reducible refine ok_ife ?_) | (with_reducible refine ok_chain ?_) | (with_reducible refine ok_sl ?_) | (with_reducible refine ok_part ?_) | (with_reducible refine ok_nopart ?_) | (with_reducible refine ok_bm ?_) | (with_reducible refine ok_bm0 ?_) | (with_reducible refine ok_lst ?_) | (with_reducible refine ok_tup ?_) | (with_reducible refine ok_dK ?_) | (with_reducible refine ok_fld ?_) | (with_reducible refine ok_dix ?_) | (with_reducible refine ok_isi ?_) | (with_reducible refine ok_meth ?_) | (with_reducible refine ok_make ?_) | (with_reducible refine ok_sfld ?_) | (with_reducible refine ok_rev ?_) | (with_reducible refine ok_gput ?_) | (with_reducible refine ok_gnm ?_) | (with_reducible refine ok_gsnil ?_) | (with_reducible refine ok_gscons ?_) | (with_reducible refine ok_and ?_) | (with_reducible refine ok_or ?_) | (with_reducible refine ok_iR1 ?_) | (with_reducible refine ok_iR2 ?_) | (with_reducible refine ok_iL ?_) | (with_reducible refine ok_iE ?_) | (with_reducible refine ok_lc ?_) | (with_reducible refine ok_dc ?_) | (with_reducible refine ok_for ?_) | (with_reducible refine ok_yes ?_) | (with_reducible refine k_fnx ?_) | (with_reducible refine k_fct ?_) | (with_reducible refine k_fbk ?_) | (with_reducible refine k_frt ?_) | (with_reducible refine k_nx ?_) | (with_reducible refine k_rt ?_) | (with_reducible refine k_bk ?_) | (with_reducible refine k_ct ?_) | (with_reducible refine k_drt ?_) | (with_reducible refine k_dnx ?_) | (with_reducible refine k_t ?_) | (with_reducible refine k_f ?_) | (with_reducible refine k_n ?_) | (with_reducible refine k_bl ?_) | (with_reducible refine k_tbl ?_) | (with_reducible refine ok_add ?_) | (with_reducible refine ok_sub ?_) | (with_reducible refine ok_lt ?_) | (with_reducible refine ok_le ?_) | (with_reducible refine ok_gt ?_) | (with_reducible refine ok_ge ?_) | (with_reducible refine ok_max ?_) | (with_reducible refine ok_min ?_) | (with_reducible refine ok_abs ?_) | (with_reducible refine ok_lenr ?_) | ((with_reducible apply ok_var); (· exact rfl)) | ((with_reducible apply ok_gtp); (· exact rfl)) | ((with_reducible refine ok_mod ?_ ?_); (· first | decide | omega)) | ((with_reducible refine ok_fdiv ?_ ?_ ?_); (· first | decide | omega); (· first | decide | omega)) | ((with_reducible apply ok_lenl); (· assumption)) | ((with_reducible apply ok_list); (· assumption))))
theorem era_map {α β : Type} {f : α → β} : ∀ {l : List α} {i : Nat}, (l.map f).eraseIdx i = (l.eraseIdx i).map f
  | [], _ => rfl
  | _ :: _, 0 => rfl
  | x :: l, i + 1 => by
    show f x :: (l.map f).eraseIdx i = f x :: (l.eraseIdx i).map f
    rw [era_map]
abbrev em : Str := PySem.Str.ofString ""
def Lab (z : Str) : Prop := z = em ∨ NameS z
theorem Lab.low {z : Str} (h : Lab z) : Low z := h.elim (fun e c hc => by subst e; cases hc) fun h => h.1
theorem Lab.len {z : Str} (h : Lab z) : z.length ≤ 8 := h.elim (fun e => by subst e; decide +kernel) fun h => h.2.2
theorem ok_del {s : OSt} {h : OH} {o i : ME} {R : CF} (e : Ok (o s h) fun x h1 => Ok (i s h1) fun y h2 => ∃ (a j : Nat) (xs : List OV), x = .ref a ∧ y = .int j ∧ h2[a]? = some (.lst xs) ∧ j < xs.length ∧ xs.length ≤ sizeLine ∧ R (.nx s) (h2.set a (.lst (xs.eraseIdx j)))) : Ok (sDel o i s h) R := by
  unfold sDel
  rw [ok_bnd]
  refine e.mono fun x h1 e => ?_
  rw [ok_bnd]
  refine e.mono fun y h2 ⟨a, j, xs, e1, e2, e3, e4, e5, q⟩ => ?_
  subst e1; subst e2
  have z1 : (0 : Int) ≤ (j : Int) := by omega
  have z2 : (j : Int) < (xs.length : Int) := by omega
  simp only [e3, z1, z2, e5, and_self, ↓reduceIte, Int.toNat_natCast]
  exact q
theorem ok_indexP {h : OH} {a : Nat} {ps : List Pr} {p : Pr} {Q : CE} (e : h[a]? = some (.lst (prs ps))) (hx : PsOk ps) (hm : p ∈ ps) (q : Q (.int (ps.idxOf p)) h) : Ok (mIndex (.ref a) [prv p] h) Q := by
  have h2 : toD h 12 (prv p) = some (pdd p) := rfl
  have eqp : ∀ w : Pr, PyData.eqv (pdd w) (pdd p) = decide (w = p) := fun w => by
    have it := eqv_iff (d := pdd w) (e := pdd p) rfl rfl
    by_cases q : w = p
    · subst q
      rw [decide_eq_true rfl]; exact it.mpr rfl
    · rw [decide_eq_false q]
      cases z : PyData.eqv (pdd w) (pdd p) with
      | false => rfl
      | true => exact absurd (pdd_inj (it.mp z)) q
  have ix : ixD (ps.map pdd) (pdd p) = some (ps.idxOf p) := by
    unfold ixD
    rw [List.findIdx?_map]
    have hl : ps.idxOf p < ps.length := List.idxOf_lt_length_iff.mpr hm
    rw [List.findIdx?_eq_some_iff_getElem]
    refine ⟨hl, ?_, fun j hj => ?_⟩
    · simp only [Function.comp, eqp, decide_eq_true_eq]
      exact List.getElem_idxOf hl
    · simp only [Function.comp, eqp, decide_eq_true_eq]
      have := List.not_of_lt_findIdx (p := (· == p)) hj
      simpa using this
  obtain ⟨h3, h4⟩ := hx p hm
  have un : mIndex (.ref a) [prv p] h = (toDs (toD h 11) (prs ps)).bind fun ds => (toD h 12 (prv p)).bind fun d => if (SeqAt.shaped (.list ds) && SeqAt.shaped d) = true then Option.map (fun j : Int => ((OV.int j, h) : OV × OH)) (do let a ← ixD ds d; pure ((a : Nat) : Int)) else none := by
    unfold mIndex prv
    simp only [e]
  rw [un, toDs_prs (f := toD h 11) (fun _ => rfl), h2]
  simp only [Option.bind_some, shp_pr h3.1 h4.1, shp_prs hx, Bool.and_self, ↓reduceIte, ix, Option.map_some]
  exact q
theorem sp_is_name0 {h : OH} : Ok (f_is_name [.str em] h) (fun v h' => v = .bl false ∧ h' = h) := by
  refine ok_d rfl ?_
  unfold m_is_name
  size_fits
  refine ⟨_, _, rfl, kit_str, ?_⟩
  size_fits
  refine ok_lens (by decide +kernel) ?_
  size_fits
  refine k_df (by decide +kernel) ?_
  size_fits
  exact ⟨rfl, rfl⟩
theorem sp_reason {h : OH} {z : Str} (hz : Lab z) : Ok (f_require_reason [.str z] h) (fun v h' => v = .non ∧ Fr No h h') := by
  refine ok_d rfl ?_
  unfold m_require_reason
  rcases hz with rfl | hz
  · size_fits
    refine ⟨⟨rfl, rfl⟩, ?_⟩
    refine sp_is_name0.mono fun v h1 ⟨ev, e⟩ => ?_
    subst ev; subst e
    size_fits
    refine ⟨_, _, rfl, kit_str, ?_⟩
    size_fits
    refine ok_eqS ?_
    rw [beq_self_eq_true]
    size_fits
    exact ⟨rfl, Fr.refl⟩
  · size_fits
    refine ⟨⟨rfl, rfl⟩, ?_⟩
    refine (sp_is_name hz).mono fun v h1 ⟨ev, F⟩ => ?_
    subst ev
    size_fits
    exact ⟨rfl, F⟩
section
variable {h h' : OH} {g c d b r a i : Nat} {xs ys zs : List Str} {es : List En} {z : Str}
theorem prL_ok (L : LI xs ys es) (nd : xs.Nodup) (hn : ∀ z ∈ xs, NameS z) : PsOk (prL xs es) := fun p hp => ips_ok nd hn p (((L.pairs nd).2 p).mp hp)
theorem li_len (L : LI xs ys es) (lx : xs.length ≤ 40) : es.length ≤ 1600 := by rw [L.cnt]; exact ips_ltn lx
theorem LogAt.cur (L : LogAt h g c d b xs ys es) (n : xs ≠ []) (e : h[r]? = some (.lst (nms zs))) : LogAt (h.set g (.ins "SwapLog" [("own_base", .ref b), ("current", .ref r), ("done", .ref d)])) g r d b xs zs es := by
  obtain ⟨l, p, e1, e2, e3⟩ := L.B
  have a1 : ∀ {u : Nat} {o : OO}, h[u]? = some o → (∀ fs, o ≠ .ins "SwapLog" fs) → (h.set g (.ins "SwapLog" [("own_base", .ref b), ("current", .ref r), ("done", .ref d)]))[u]? = some o := fun e n => at_ne (ne_at e L.o (n _)).symm e
  exact ⟨at_set L.o, a1 e (fun _ q => nomatch q), a1 L.dn (fun _ q => nomatch q), l, p, a1 e1 (fun _ q => by cases q), a1 e2 (fun _ q => nomatch q), a1 e3 (fun _ q => nomatch q)⟩
theorem LogAt.don (L : LogAt h g c d b xs ys es) (n : xs ≠ []) (n2 : ys ≠ []) {fs : List En} : LogAt (h.set d (.lst (ens fs))) g c d b xs ys fs := by
  obtain ⟨l, p, e1, e2, e3⟩ := L.B
  have a1 : ∀ {u : Nat} {o : OO}, h[u]? = some o → o ≠ .lst (ens es) → (h.set d (.lst (ens fs)))[u]? = some o := fun e n => at_ne (ne_at e L.dn n).symm e
  exact ⟨a1 L.o (fun q => nomatch q), a1 L.cu (nms_ens n2), at_set L.dn, l, p, a1 e1 (fun q => nomatch q), a1 e2 (nms_ens n), a1 e3 (fun q => nomatch q)⟩
/-- a swap without checks -/
theorem sp_apply (L : LogAt h g c d b xs ys es) (I : LI xs ys es) (nd : xs.Nodup) (hn : ∀ z ∈ xs, NameS z) (lx : xs.length ≤ 40) (hi : i + 1 < ys.length) :
    Ok (f_SwapLog_apply_swap [.ref g, .int i, .str z] h) (fun v h' => ((xs.idxOf ys[i] < xs.idxOf ys[i + 1] ∧ v = .non ∧ ∃ c', LogAt h' g c' d b xs (swp ys i) (es ++ [(i, z)])) ∨
      (xs.idxOf ys[i + 1] < xs.idxOf ys[i] ∧ v = .int ((prL xs es).idxOf (ys[i + 1], ys[i])) ∧ ∃ c', LogAt h' g c' d b xs (swp ys i) (es.eraseIdx ((prL xs es).idxOf (ys[i + 1], ys[i]))))) ∧ Fr (SL g d) h h') := by
  have O := I.O nd
  have ly := O.len
  have n1 : xs ≠ [] := fun e => by rw [e, List.length_nil] at ly; omega
  have n2 : swp ys i ≠ [] := fun e => by
    have := swp_len hi
    rw [e, List.length_nil] at this
    omega
  have le := li_len I lx
  refine ok_d rfl ?_
  unfold m_SwapLog_apply_swap
  size_fits
  refine ⟨_, _, _, rfl, L.o, rfl, ?_⟩
  size_fits
  refine z_nms L.cu (show i < ys.length by omega) ?_
  size_fits
  refine ⟨_, _, _, rfl, L.o, rfl, ?_⟩
  size_fits
  refine z_nms L.cu hi ?_
  size_fits
  refine ⟨_, _, rfl, ?_⟩
  size_fits
  refine ⟨_, _, _, rfl, L.o, rfl, ?_⟩
  size_fits
  refine ⟨_, _, _, rfl, L.o, rfl, ?_⟩
  size_fits
  refine ⟨⟨rfl, rfl⟩, ?_⟩
  refine (sp_upright L.B L.cu O.mem hi).mono fun v h1 ⟨ev, e⟩ => ?_
  subst ev; subst e
  size_fits
  refine ⟨_, _, _, rfl, L.o, rfl, ?_⟩
  size_fits
  refine ⟨⟨rfl, rfl⟩, ?_⟩
  refine (sp_exch L.cu hi (by omega)).mono fun v h2 ⟨r2, ev, e2, F2, l2⟩ => ?_
  subst ev
  have L2 := L.keep F2
  size_fits
  refine ⟨_, _, rfl, L2.o, by simp, ?_⟩
  have L3 := L2.cur n1 e2
  have F3 : Fr (SL g d) h1 (h2.set g (.ins "SwapLog" [("own_base", .ref b), ("current", .ref r2), ("done", .ref d)])) := F2.no.trans (.set (.inl rfl))
  show kSeq _ _ _ (h2.set g (.ins "SwapLog" [("own_base", .ref b), ("current", .ref r2), ("done", .ref d)]))
  generalize h2.set g (.ins "SwapLog" [("own_base", .ref b), ("current", .ref r2), ("done", .ref d)]) = h3 at L3 F3 ⊢
  size_fits
  refine k_d (fun q => ?_) fun q => ?_
  · size_fits
    refine ⟨_, _, _, rfl, L3.o, rfl, ?_⟩
    refine ⟨isT_l L3.dn, ?_⟩
    size_fits
    refine ⟨by simp [sz], ?_⟩
    size_fits
    refine ok_append L3.dn (by rw [ens_len, sz]; omega) ?_
    size_fits
    have L4 := L3.don n1 n2 (fs := es ++ [(i, z)])
    have ee : ens es ++ [.tup [.int i, .str z]] = ens (es ++ [(i, z)]) := by rw [← ens_app]; rfl
    rw [ee]
    exact ⟨.inl ⟨q, rfl, r2, L4⟩, F3.trans (.set (.inr rfl))⟩
  · have qn : xs.idxOf ys[i] ≠ xs.idxOf ys[i + 1] := fun e => by
      have := idx_inj (O.mem _ (List.getElem_mem _)) (O.mem _ (List.getElem_mem _)) e
      have := (List.getElem_inj O.nd).mp this
      omega
    have q : xs.idxOf ys[i + 1] < xs.idxOf ys[i] := by omega
    have pm : (ys[i + 1], ys[i]) ∈ prL xs es := ((I.pairs nd).2 _).mpr (cnt_in nd O hi q).2
    have pl := List.idxOf_lt_length_iff.mpr pm
    rw [prL_len] at pl
    size_fits
    refine ⟨_, _, rfl, L3.o, rfl, ?_⟩
    size_fits
    refine ⟨⟨rfl, rfl⟩, ?_⟩
    refine (sp_epairs L3 nd I.val lx (by omega)).mono fun v h4 ⟨r4, ev, e4, F4, l4⟩ => ?_
    subst ev
    refine ⟨isT_l e4, ?_⟩
    size_fits
    refine ⟨by simp [sz], ?_⟩
    size_fits
    refine ok_indexP (p := (ys[i + 1], ys[i])) e4 (prL_ok I nd hn) pm ?_
    size_fits
    have L4 := L3.keep F4
    refine ok_del ?_
    size_fits
    refine ⟨_, _, _, rfl, L4.o, rfl, ?_⟩
    size_fits
    refine ⟨_, _, _, rfl, rfl, L4.dn, by rw [ens_len]; exact pl, by rw [ens_len, sz]; omega, ?_⟩
    size_fits
    have ee : (ens es).eraseIdx ((prL xs es).idxOf (ys[i + 1], ys[i])) = ens (es.eraseIdx ((prL xs es).idxOf (ys[i + 1], ys[i]))) := by
      unfold ens
      exact era_map
    rw [ee]
    exact ⟨.inr ⟨q, rfl, r2, L4.don n1 n2⟩, (F3.trans F4.no).trans (.set (.inr rfl))⟩
theorem sp_swap (L : LogAt h g c d b xs ys es) (I : LI xs ys es) (nd : xs.Nodup) (hn : ∀ z ∈ xs, NameS z) (lx : xs.length ≤ 40) (hi : i + 1 < ys.length) (hz : Lab z) :
    Ok (f_SwapLog_swap [.ref g, .int i, .str z] h) (fun v h' => ((xs.idxOf ys[i] < xs.idxOf ys[i + 1] ∧ v = .non ∧ ∃ c', LogAt h' g c' d b xs (swp ys i) (es ++ [(i, z)])) ∨
      (xs.idxOf ys[i + 1] < xs.idxOf ys[i] ∧ v = .int ((prL xs es).idxOf (ys[i + 1], ys[i])) ∧ ∃ c', LogAt h' g c' d b xs (swp ys i) (es.eraseIdx ((prL xs es).idxOf (ys[i + 1], ys[i]))))) ∧ Fr (SL g d) h h') := by
  have O := I.O nd
  have ly := O.len
  refine ok_d rfl ?_
  unfold m_SwapLog_swap
  size_fits
  refine ⟨_, _, _, rfl, L.o, rfl, ?_⟩
  size_fits
  refine ⟨⟨rfl, rfl⟩, ?_⟩
  refine (sp_rindex L.B (by omega) (by omega) (by omega)).mono fun v h1 ⟨ev, e⟩ => ?_
  subst e
  size_fits
  refine ⟨⟨rfl, rfl⟩, ?_⟩
  refine (sp_reason hz).mono fun v h2 ⟨ev, F2⟩ => ?_
  have L2 := L.keep F2
  size_fits
  refine ⟨_, _, rfl, L2.o, rfl, ?_⟩
  size_fits
  refine ⟨⟨rfl, rfl⟩, ?_⟩
  refine (sp_apply L2 I nd hn lx hi).mono fun v h3 ⟨q, F3⟩ => ?_
  size_fits
  exact ⟨q, F2.no.trans F3⟩
def pairOf (xs : List Str) (x y : Str) : Pr := if xs.idxOf x < xs.idxOf y then (x, y) else (y, x)
end
end Lw

set_option maxHeartbeats 4000000
namespace Lw
open PySem L2 O
local macro_rules | `(tactic| size_fits) => `(tactic| repeat' (first | (with_reducible refine ok_c ?_) | (with_reducible refine ok_op ?_) | (with_reducible refine ok_nil ?_) | (with_reducible refine ok_cons ?_) | (with_reducible refine ok_b ?_) | (with_reducible refine ok_call ?_) | (with_reducible refine ok_ix ?_) | (with_reducible refine ok_seq ?_) | (with_reducible refine ok_if ?_) | (with_reducible refine ok_set ?_) | (with_reducible refine ok_rt ?_) | (with_reducible refine ok_rtn ?_) | (with_reducible refine ok_ex ?_) | (with_reducible refine ok_nx ?_) | (with_reducible refine ok_asg ?_) | (with_reducible refine ok_par ?_) | (with_reducible refine ok_tb ?_) | (with_reducible refine ok_tt ?_) | (with_reducible refine ok_tn ?_) | (with_reducible refine ok_tor ?_) | (with_reducible refine ok_tand ?_) | (with_reducible refine ok_not ?_) | (with_reducible refine ok_ife ?_) | (with_reducible refine ok_chain ?_) | (with_reducible refine ok_sl ?_) | (with_reducible refine ok_part ?_) | (with_reducible refine ok_nopart ?_) | (with_reducible refine ok_bm ?_) | (with_reducible refine ok_bm0 ?_) | (with_reducible refine ok_lst ?_) | (with_reducible refine ok_tup ?_) | (with_reducible refine ok_dK ?_) | (with_reducible refine ok_fld ?_) | (with_reducible refine ok_dix ?_) | (with_reducible refine ok_isi ?_) | (with_reducible refine ok_meth ?_) | (with_reducible refine ok_make ?_) | (with_reducible refine ok_sfld ?_) | (with_reducible refine ok_rev ?_) | (with_reducible refine ok_gput ?_) | (with_reducible refine ok_gnm ?_) | (with_reducible refine ok_gsnil ?_) | (with_reducible refine ok_gscons ?_) | (with_reducible refine ok_and ?_) | (with_reducible refine ok_or ?_) | (with_reducible refine ok_iR1 ?_) | (with_reducible refine ok_iR2 ?_) | (with_reducible refine ok_iL ?_) | (with_reducible refine ok_iE ?_) | (with_reducible refine ok_lc ?_) | (with_reducible refine ok_dc ?_) | (with_reducible refine ok_for ?_) | (with_reducible refine ok_yes ?_) | (with_reducible refine k_fnx ?_) | (with_reducible refine k_fct ?_) | (with_reducible refine k_fbk ?_) | (with_reducible refine k_frt ?_) | (with_reducible refine k_nx ?_) | (with_reducible refine k_rt ?_) | (with_reducible refine k_bk ?_) | (with_reducible refine k_ct ?_) | (with_reducible refine k_drt ?_) | (with_reducible refine k_dnx ?_) | (with_reducible refine k_t ?_) | (with_reducible refine k_f ?_) | (with_reducible refine k_n ?_) | (with_reducible refine k_bl ?_) | (with_reducible refine k_tbl ?_) | (with_reducible refine ok_add ?_) | (with_reducible refine ok_sub ?_) | (with_reducible refine ok_lt ?_) | (with_reducible refine ok_le ?_) | (with_reducible refine ok_gt ?_) | (with_reducible refine ok_ge ?_) | (with_reducible refine ok_max ?_) | (with_reducible refine ok_min ?_) | (with_reducible refine ok_abs ?_) | (with_reducible refine ok_lenr ?_) | ((with_reducible apply ok_var); (· exact rfl)) | ((with_reducible apply ok_gtp); (· exact rfl)) | ((with_reducible refine ok_mod ?_ ?_); (· first | decide | omega)) | ((with_reducible refine ok_fdiv ?_ ?_ ?_); (· first | decide | omega); (· first | decide | omega)) | ((with_reducible apply ok_lenl); (· assumption)) | ((with_reducible apply ok_list); (· assumption))))
theorem ok_methA {s : OSt} {h : OH} {a : ME} {as ks : MA} {Q : CE} {C nm : Str} {m : MF} {n l : Nat} (q : Ok (a s h) fun x h0 => ∃ r fs, x = .ref r ∧ h0[r]? = some (.ins C fs) ∧ (fs.lookup nm).isNone = true ∧ Ok (as s h0) fun xs h1 => Ok (ks s h1) fun zs h2 => ((OV.ref r :: xs).length = n ∧ zs.length = l) ∧ Ok (m ((.ref r :: xs) ++ zs) h2) Q) : Ok (eMeth C nm m n l gApp a as ks s h) Q := by
  unfold eMeth
  rw [ok_bnd]
  refine q.mono fun x h0 ⟨r, fs, e1, e2, e3, q⟩ => ?_
  subst e1
  simp only [e2, e3, and_self, ↓reduceIte]
  rw [ok_bnd]
  refine q.mono fun xs h1 q => ?_
  rw [ok_bnd]
  refine q.mono fun zs h2 ⟨e, q⟩ => ?_
  unfold dFin
  rw [if_pos e]; exact q
theorem LI.take {xs ys : List Str} {es : List En} (L : LI xs ys es) (nd : xs.Nodup) {i : Nat} (hi : i ≤ es.length) : LI xs (Lw.ord xs (es.take i)) (es.take i) := by
  refine ⟨val_take L.val i, rfl, ?_⟩
  have c1 := cnt_le nd (Ord.refl nd) (val_take L.val i)
  have vd : Val xs.length (es.drop i) := fun e he => L.val e (List.mem_of_mem_drop he)
  have c2 := cnt_le nd (ord_ord (Ord.refl nd) (val_take L.val i)) vd
  rw [← ord_app, List.take_append_drop, L.oe, List.length_drop] at c2
  have c := L.cnt
  have : (ips xs xs).length = 0 := by rw [ips_base nd]; rfl
  rw [List.length_take] at c1 ⊢
  omega
theorem LI.step {xs ys : List Str} {es : List En} (L : LI xs ys es) (nd : xs.Nodup) {i : Nat} (hi : i < es.length) (h : es[i].1 + 1 < (Lw.ord xs (es.take i)).length) : xs.idxOf (Lw.ord xs (es.take i))[es[i].1] < xs.idxOf (Lw.ord xs (es.take i))[es[i].1 + 1] := by
  have L1 := L.take nd (show i ≤ es.length by omega)
  have L2 := L.take nd (show i + 1 ≤ es.length by omega)
  have O := L1.O nd
  have c1 := L1.cnt
  have c2 := L2.cnt
  rw [← take_next hi, ord_app] at c2
  have e2 : (ips xs (Lw.ord (Lw.ord xs (es.take i)) [es[i]])) = ips xs (swp (Lw.ord xs (es.take i)) es[i].1) := rfl
  rw [e2, List.length_append, List.length_singleton] at c2
  refine Classical.byContradiction fun q => ?_
  have ne : xs.idxOf (Lw.ord xs (es.take i))[es[i].1] ≠ xs.idxOf (Lw.ord xs (es.take i))[es[i].1 + 1] := fun e => by
    have := idx_inj (O.mem _ (List.getElem_mem _)) (O.mem _ (List.getElem_mem _)) e
    have := (List.getElem_inj O.nd).mp this
    omega
  have := (cnt_in nd O h (by omega)).1
  omega
def Labs (es : List En) : Prop := ∀ e ∈ es, Lab e.2
section
variable {h h' : OH} {g c d b r a i t : Nat} {xs ys zs : List Str} {es : List En} {z : Str}
def end_ (e : En) : PyData := .tuple [.int e.1, .str e.2]
def EnOk (es : List En) : Prop := ∀ e ∈ es, e.1 < 40 ∧ Lab e.2
theorem toDs_ens {f : OV → Option PyData} (hf : ∀ p, f (env p) = some (end_ p)) : ∀ ps : List En, toDs f (ens ps) = some (ps.map end_)
  | [] => rfl
  | p :: ps => by
    show (f (env p)).bind (fun d => (toDs f (ens ps)).map fun ds => d :: ds) = _
    rw [hf, toDs_ens hf ps]; rfl
theorem toD_ens {n : Nat} {ps : List En} (e : h[r]? = some (.lst (ens ps))) : toD h (n + 4) (.ref r) = some (.list (ps.map end_)) := by
  show (match h[r]? with
    | some (.lst xs) => (toDs (toD h (n + 3)) xs).map PyData.list
    | _ => none) = _
  rw [e]
  show (toDs (toD h (n + 3)) (ens ps)).map PyData.list = _
  rw [toDs_ens (fun _ => rfl)]; rfl
theorem lay_ens : ∀ {ps : List En}, EnOk ps → PyData.canLayAll0 (ps.map end_) = true
  | [], _ => rfl
  | p :: ps, h => by
    have h1 := (h p List.mem_cons_self).2.low
    simp only [List.map_cons, PyData.canLayAll0, end_, PyData.canLay0, h1.ok, Bool.true_and]
    exact lay_ens fun q hq => h q (List.mem_cons_of_mem _ hq)
theorem dep_ens : ∀ ps : List En, PyData.depthAll (ps.map end_) ≤ 1
  | [] => by simp [PyData.depthAll]
  | p :: ps => by
    have i1 := dep_ens ps
    have i2 : PyData.depth (end_ p) = 1 := rfl
    exact Nat.max_le.mpr ⟨Nat.le_of_eq i2, i1⟩
theorem shp_ens {ps : List En} (h : EnOk ps) : SeqAt.shaped (.list (ps.map end_)) = true := by
  have := dep_ens ps
  have e : SeqAt.shaped (.list (ps.map end_)) = (PyData.canLayAll0 (ps.map end_) && decide (PyData.depthAll (ps.map end_) + 1 ≤ 64)) := by
    simp only [SeqAt.shaped, PyData.canLay0, PyData.depth]
    rfl
  rw [e, lay_ens h, Bool.true_and, decide_eq_true_eq]
  omega
theorem int40 : ∀ n : Nat, n < 40 → (PyData.showable (.int n) && (decide ((PyData.shown (.int n)).length ≤ 13) && decide (PyData.weight (.int n) ≤ 8))) = true := by decide +kernel
theorem show_ens : ∀ {ps : List En}, EnOk ps → PyData.showableAll (ps.map end_) = true
  | [], _ => rfl
  | p :: ps, h => by
    have h1 := int40 p.1 (h p List.mem_cons_self).1
    rw [Bool.and_eq_true] at h1
    have h3 := show_ens fun q hq => h q (List.mem_cons_of_mem _ hq)
    show (PyData.showableAll [PyData.int p.1, .str p.2] && PyData.showableAll (ps.map end_)) = true
    rw [h3]
    show ((PyData.showable (.int p.1) && (true && true)) && true) = true
    rw [h1.1]; rfl
theorem leaf_ens : ∀ {ps : List En}, EnOk ps → PyData.leavesShortAll 13 (ps.map end_) = true
  | [], _ => rfl
  | p :: ps, h => by
    have h1 := int40 p.1 (h p List.mem_cons_self).1
    rw [Bool.and_eq_true, Bool.and_eq_true] at h1
    have h2 := leaf_low (h p List.mem_cons_self).2.low
    have h3 := leaf_ens fun q hq => h q (List.mem_cons_of_mem _ hq)
    show ((decide ((PyData.shown (.int p.1)).length ≤ 13) && ((p.2.cps.toList.all fun c => decide (c < 16 ^ 8)) && true)) && PyData.leavesShortAll 13 (ps.map end_)) = true
    rw [h1.2.1, h2, h3]; rfl
theorem wt_ens : ∀ {ps : List En}, EnOk ps → PyData.weightAll (ps.map end_) ≤ 19 * ps.length
  | [], _ => by simp [PyData.weightAll]
  | p :: ps, h => by
    have h1 := int40 p.1 (h p List.mem_cons_self).1
    rw [Bool.and_eq_true, Bool.and_eq_true, decide_eq_true_eq, decide_eq_true_eq] at h1
    have h2 := (h p List.mem_cons_self).2.len
    have h3 := wt_ens fun q hq => h q (List.mem_cons_of_mem _ hq)
    have e2 : p.2.length = p.2.cps.size := rfl
    have e3 : PyData.weightAll ((p :: ps).map end_) = (PyData.weight (.int p.1) + 1 + (p.2.cps.size + 1 + 0)) + 1 + PyData.weightAll (ps.map end_) := rfl
    rw [e3, List.length_cons]
    omega
theorem ok_reprE {ps : List En} {Q : CE} (e : h[a]? = some (.lst (ens ps))) (hn : EnOk ps) (l : ps.length ≤ 2000) (q : Q (.str (PyData.shown (.list (ps.map end_)))) h) : Ok (bRepr [.ref a] h) Q := by
  refine ok_reprD (toD_ens e) (shp_ens hn) ?_ ?_ ?_ q
  · simpa only [PyData.showable] using show_ens hn
  · simpa only [PyData.leavesShort] using leaf_ens hn
  · have := wt_ens hn
    simp only [PyData.weight]
    omega
theorem ens_take {i : Nat} : (ens es).take i = ens (es.take i) := by simp [ens, List.map_take]
theorem ens_drop {i : Nat} : (ens es).drop i = ens (es.drop i) := by simp [ens, List.map_drop]
theorem ok_neI {i j : Int} {Q : CE} (q : Q (.bl (!(i == j))) h) : Ok (oNe (.int i) (.int j) h) Q :=
  ok_neD (d := .int i) (e := .int j) rfl rfl rfl rfl (by simpa only [PyData.eqv] using q)
theorem kit_int_bool2 : kitB "int" "bool" = some false := kit_int_bool
theorem ok_isN {x : OV} {Q : CE} (q : Q (.bl (isNon x)) h) : Ok (oIsN x .non h) Q := q
theorem ok_notN {x : OV} {Q : CE} (q : Q (.bl (!isNon x)) h) : Ok (oNotN x .non h) Q := q
theorem lab_app {es : List En} (h : Labs es) (hz : Lab z) : Labs (es ++ [(i, z)]) := fun e he => by
  rcases List.mem_append.mp he with he | he
  · exact h e he
  · rw [List.mem_singleton] at he
    subst he; exact hz
theorem lab_era {es : List En} (h : Labs es) (p : Nat) : Labs (es.eraseIdx p) := fun e he => h e (List.mem_of_mem_eraseIdx he)
theorem en_ok {es : List En} {n : Nat} (v : Val n es) (l : n ≤ 40) (h : Labs es) : EnOk es := fun e he => ⟨by have := v e he; omega, h e he⟩
end
end Lw

set_option maxHeartbeats 4000000
namespace Lw
open PySem L2 O
local macro_rules | `(tactic| size_fits) => `(tactic| repeat' (first | (with_reducible refine ok_c ?_) | (with_reducible refine ok_op ?_) | (with_reducible refine ok_nil ?_) | (with_reducible refine ok_cons ?_) | (with_reducible refine ok_b ?_) | (with_reducible refine ok_call ?_) | (with_reducible refine ok_ix ?_) | (with_reducible refine ok_seq ?_) | (with_reducible refine ok_if ?_) | (with_reducible refine ok_set ?_) | (with_reducible refine ok_rt ?_) | (with_reducible refine ok_rtn ?_) | (with_reducible refine ok_ex ?_) | (with_reducible refine ok_nx ?_) | (with_reducible refine ok_asg ?_) | (with_reducible refine ok_par ?_) | (with_reducible refine ok_tb ?_) | (with_reducible refine ok_tt ?_) | (with_reducible refine ok_tn ?_) | (with_reducible refine ok_tor ?_) | (with_reducible refine ok_tand ?_) | (with_reducible refine ok_not ?_) | (with_reducible refine ok_ife ?_) | (with_reducible refine ok_chain ?_) | (with_reducible refine ok_sl ?_) | (with_reducible refine ok_part ?_) | (with_reducible refine ok_nopart ?_) | (with_reducible refine ok_bm ?_) | (with_reducible refine ok_bm0 ?_) | (with_reducible refine ok_lst ?_) | (with_reducible refine ok_tup ?_) | (with_reducible refine ok_dK ?_) | (with_reducible refine ok_fld ?_) | (with_reducible refine ok_dix ?_) | (with_reducible refine ok_isi ?_) | (with_reducible refine ok_meth ?_) | (with_reducible refine ok_make ?_) | (with_reducible refine ok_sfld ?_) | (with_reducible refine ok_rev ?_) | (with_reducible refine ok_gput ?_) | (with_reducible refine ok_gnm ?_) | (with_reducible refine ok_gsnil ?_) | (with_reducible refine ok_gscons ?_) | (with_reducible refine ok_and ?_) | (with_reducible refine ok_or ?_) | (with_reducible refine ok_iR1 ?_) | (with_reducible refine ok_iR2 ?_) | (with_reducible refine ok_iL ?_) | (with_reducible refine ok_iE ?_) | (with_reducible refine ok_lc ?_) | (with_reducible refine ok_dc ?_) | (with_reducible refine ok_for ?_) | (with_reducible refine ok_yes ?_) | (with_reducible refine k_fnx ?_) | (with_reducible refine k_fct ?_) | (with_reducible refine k_fbk ?_) | (with_reducible refine k_frt ?_) | (with_reducible refine k_nx ?_) | (with_reducible refine k_rt ?_) | (with_reducible refine k_bk ?_) | (with_reducible refine k_ct ?_) | (with_reducible refine k_drt ?_) | (with_reducible refine k_dnx ?_) | (with_reducible refine k_t ?_) | (with_reducible refine k_f ?_) | (with_reducible refine k_n ?_) | (with_reducible refine k_bl ?_) | (with_reducible refine k_tbl ?_) | (with_reducible refine ok_add ?_) | (with_reducible refine ok_sub ?_) | (with_reducible refine ok_lt ?_) | (with_reducible refine ok_le ?_) | (with_reducible refine ok_gt ?_) | (with_reducible refine ok_ge ?_) | (with_reducible refine ok_max ?_) | (with_reducible refine ok_min ?_) | (with_reducible refine ok_abs ?_) | (with_reducible refine ok_lenr ?_) | ((with_reducible apply ok_var); (· exact rfl)) | ((with_reducible apply ok_gtp); (· exact rfl)) | ((with_reducible refine ok_mod ?_ ?_); (· first | decide | omega)) | ((with_reducible refine ok_fdiv ?_ ?_ ?_); (· first | decide | omega); (· first | decide | omega)) | ((with_reducible apply ok_lenl); (· assumption)) | ((with_reducible apply ok_list); (· assumption))))
structure Gd (d : PyData) (k w : Nat) : Prop where
  lay : d.canLay0 = true
  dep : d.depth ≤ k
  sh : d.showable = true
  lf : d.leavesShort 13 = true
  wt : d.weight ≤ w
structure Gds (ds : List PyData) (k w : Nat) : Prop where
  lay : PyData.canLayAll0 ds = true
  dep : PyData.depthAll ds ≤ k
  sh : PyData.showableAll ds = true
  lf : PyData.leavesShortAll 13 ds = true
  wt : PyData.weightAll ds ≤ w
theorem Gds.nil {k w : Nat} : Gds [] k w := ⟨rfl, Nat.zero_le _, rfl, rfl, Nat.zero_le _⟩
theorem Gds.cons {d : PyData} {ds : List PyData} {k a b w : Nat} (h1 : Gd d k a) (h2 : Gds ds k b) (hw : a + 1 + b ≤ w) : Gds (d :: ds) k w := by
  refine ⟨?_, Nat.max_le.mpr ⟨h1.dep, h2.dep⟩, ?_, ?_, ?_⟩
  · show (d.canLay0 && PyData.canLayAll0 ds) = true
    rw [h1.lay, h2.lay]; rfl
  · show (d.showable && PyData.showableAll ds) = true
    rw [h1.sh, h2.sh]; rfl
  · show (d.leavesShort 13 && PyData.leavesShortAll 13 ds) = true
    rw [h1.lf, h2.lf]; rfl
  · show d.weight + 1 + PyData.weightAll ds ≤ w
    have := h1.wt; have := h2.wt
    omega
theorem Gd.list {ds : List PyData} {k w : Nat} (h : Gds ds k w) : Gd (.list ds) (k + 1) w := ⟨h.lay, Nat.succ_le_succ h.dep, h.sh, h.lf, h.wt⟩
theorem Gd.tuple {ds : List PyData} {k w : Nat} (h : Gds ds k w) : Gd (.tuple ds) (k + 1) w := ⟨h.lay, Nat.succ_le_succ h.dep, h.sh, h.lf, h.wt⟩
theorem Gd.mono {d : PyData} {k w k' w' : Nat} (h : Gd d k w) (h1 : k ≤ k') (h2 : w ≤ w') : Gd d k' w' := ⟨h.lay, Nat.le_trans h.dep h1, h.sh, h.lf, Nat.le_trans h.wt h2⟩
theorem Gd.shaped {d : PyData} {k w : Nat} (h : Gd d k w) (hk : k ≤ 64) : SeqAt.shaped d = true := by
  unfold SeqAt.shaped
  rw [h.lay, Bool.true_and, decide_eq_true_eq]
  exact Nat.le_trans h.dep hk
theorem Gd.names {xs : List Str} (h : ∀ z ∈ xs, NameS z) : Gd (.list (xs.map .str)) 1 (9 * xs.length) :=
  Gd.list (k := 0) ⟨lay_strs fun z hz => (h z hz).1, Nat.le_of_eq (dep_strs xs), show_strs xs, leaf_strs fun z hz => (h z hz).1, wt_strs h⟩
theorem Gd.pairs {ps : List Pr} (h : PsOk ps) : Gd (.list (ps.map pdd)) 2 (19 * ps.length) :=
  Gd.list (k := 1) ⟨lay_prs h, dep_prs ps, show_prs ps, leaf_prs h, wt_prs h⟩
theorem Gd.ents {es : List En} (h : EnOk es) : Gd (.list (es.map end_)) 2 (19 * es.length) :=
  Gd.list (k := 1) ⟨lay_ens h, dep_ens es, show_ens h, leaf_ens h, wt_ens h⟩
theorem int2k : ∀ n : Nat, n < 2000 → (PyData.showable (.int n) && (decide ((PyData.shown (.int n)).length ≤ 13) && decide (PyData.weight (.int n) ≤ 12))) = true := by decide +kernel
theorem Gd.int {n : Nat} (h : n < 2000) : Gd (.int n) 0 12 := by
  have := int2k n h
  rw [Bool.and_eq_true, Bool.and_eq_true, decide_eq_true_eq, decide_eq_true_eq] at this
  exact ⟨rfl, Nat.le_refl _, this.1, by show decide _ = true; rw [decide_eq_true_eq]; exact this.2.1, this.2.2⟩
theorem Gd.non : Gd .none 0 0 := ⟨rfl, Nat.le_refl _, rfl, rfl, Nat.le_refl _⟩
section
variable {h h' : OH} {g c d b r a i t s : Nat} {xs ys zs : List Str} {es : List En} {z : Str}
theorem ok_reprG {x : OV} {d : PyData} {k w : Nat} {Q : CE} (e : toD h 12 x = some d) (G : Gd d k w) (hk : k ≤ 64) (hw : w ≤ 2 ^ 20) (q : Q (.str d.shown) h) : Ok (bRepr [x] h) Q :=
  ok_reprD e (G.shaped hk) G.sh G.lf (Nat.le_trans G.wt hw) q
theorem swp_set {l : List Str} {i : Nat} (h : i + 1 < l.length) : swp l i = (l.set i l[i + 1]).set (i + 1) l[i] := by
  refine List.ext_getElem (by rw [swp_len h]; simp) fun k h1 h2 => ?_
  rw [swp_len h] at h1
  have e := swp_eq h
  have lt : (l.take i).length = i := by rw [List.length_take]; omega
  have g : (swp l i)[k]? = some (((l.set i l[i + 1]).set (i + 1) l[i])[k]) := by
    rw [e, List.append_assoc]
    by_cases a : k < i
    · rw [List.getElem?_append_left (by omega), List.getElem?_take, if_pos a, List.getElem_set_ne (by omega), List.getElem_set_ne (by omega)]
      exact List.getElem?_eq_getElem h1
    · rw [List.getElem?_append_right (by omega), lt]
      by_cases b : k = i
      · subst b
        rw [Nat.sub_self, List.getElem_set_ne (by omega), List.getElem_set_self]; rfl
      · by_cases c : k = i + 1
        · subst c
          rw [show i + 1 - i = 1 by omega, List.getElem_set_self]; rfl
        · rw [List.getElem?_append_right (by simp; omega), List.getElem?_drop, List.getElem_set_ne (by omega), List.getElem_set_ne (by omega)]
          simp only [List.length_cons, List.length_nil]
          rw [show i + 2 + (k - i - (0 + 1 + 1)) = k by omega]
          exact List.getElem?_eq_getElem h1
  have := List.getElem?_eq_getElem (l := swp l i) (i := k) (by rw [swp_len h]; exact h1)
  rw [this] at g
  exact Option.some.inj g
theorem sp_sents {e o : Nat} (ea : h[a]? = some (.lst (nms xs))) (ee : h[e]? = some (.lst (ens es))) (eo : h[o]? = some (.lst (nms ys))) (I : LI xs ys es) (lb : Labs es) (nd : xs.Nodup) (hn : ∀ z ∈ xs, NameS z) (lx : xs.length ≤ 40) (hi : i + 1 < ys.length) :
    Ok (f__law_swapped_entries [.ref a, .ref e, .ref o, .int i, .str z] h) (fun v h' => ∃ r w, v = .tup [.ref r, w] ∧ Fr No h h' ∧ h.length ≤ r ∧
      ((xs.idxOf ys[i] < xs.idxOf ys[i + 1] ∧ w = .non ∧ h'[r]? = some (.lst (ens (es ++ [(i, z)])))) ∨
       (xs.idxOf ys[i + 1] < xs.idxOf ys[i] ∧ w = .int ((prL xs es).idxOf (ys[i + 1], ys[i])) ∧ h'[r]? = some (.lst (ens (es.eraseIdx ((prL xs es).idxOf (ys[i + 1], ys[i])))))))) := by
  have O := I.O nd
  have ly := O.len
  have lowx : ∀ z ∈ xs, Low z := fun z hz => (hn z hz).1
  have le := li_len I lx
  have hi0 : i < ys.length := by omega
  have mx := O.mem _ (List.getElem_mem hi0)
  have my := O.mem _ (List.getElem_mem hi)
  refine ok_d rfl ?_
  unfold m__law_swapped_entries
  size_fits
  refine z_nms eo hi0 ?_
  size_fits
  refine z_nms eo hi ?_
  size_fits
  refine ⟨_, _, rfl, ?_⟩
  size_fits
  refine ⟨isT_l ea, ?_⟩
  size_fits
  refine ok_index ea lowx mx ?_
  size_fits
  refine ⟨isT_l ea, ?_⟩
  size_fits
  refine ok_index ea lowx my ?_
  size_fits
  rw [cast_lt]
  refine k_d (fun q => ?_) fun q => ?_
  · size_fits
    refine ⟨by simp [sz], ?_⟩
    size_fits
    refine ⟨by simp [sz], fun r5 h5 e5 F5 l5 => ?_⟩
    have e5 : h5[r5]? = some (.lst (ens [(i, z)])) := e5
    refine ok_addl (F5.keep _ _ id ee) e5 (by rw [ens_len, sz]; simp [ens]; omega) fun r6 h6 e6 F6 l6 => ?_
    rw [ens_app] at e6
    size_fits
    refine ⟨by simp [sz], ?_⟩
    size_fits
    have := F5.le
    exact ⟨r6, .non, rfl, F5.trans F6, by omega, .inl ⟨q, rfl, e6⟩⟩
  · have qn : xs.idxOf ys[i] ≠ xs.idxOf ys[i + 1] := fun e => by
      have := idx_inj mx my e
      have := (List.getElem_inj O.nd).mp this
      omega
    have q : xs.idxOf ys[i + 1] < xs.idxOf ys[i] := Nat.lt_of_le_of_ne (Nat.le_of_not_lt q) (fun e => qn e.symm)
    have pm : (ys[i + 1], ys[i]) ∈ prL xs es := ((I.pairs nd).2 _).mpr (cnt_in nd O hi q).2
    have pl := List.idxOf_lt_length_iff.mpr pm
    have pa := List.getElem_idxOf pl
    generalize hp : (prL xs es).idxOf (ys[i + 1], ys[i]) = p at pl pa ⊢
    rw [prL_len] at pl
    size_fits
    intro n h1 e1 F1 l1
    size_fits
    refine ⟨_, _, rfl, F1.keep _ _ id ee, ?_⟩
    refine fgo (I := fun j s h2 => (∃ x y w, s = [some (.ref a), some (.ref e), some (.ref o), some (.int i), some (.str z), some (.str ys[i]), some (.str ys[i + 1]), some (.ref n), x, y, w]) ∧ j ≤ p ∧ h2[n]? = some (.lst (nms (Lw.ord xs (es.take j)))) ∧ Fr No h h2) (fun j s h2 hj ⟨⟨x, y, w, es'⟩, jp, en, F2⟩ => ?_) (fun s h2 ⟨⟨x, y, w, es'⟩, jp, en, F2⟩ => ?_) _ _ _ _ (by simp) ⟨⟨_, _, _, rfl⟩, Nat.zero_le _, e1, F1⟩
    · have hj : j < (ens es).length := hj
      rw [ens_len] at hj
      have ee2 := F2.keep _ _ id ee
      have L1 := I.take nd (show j ≤ es.length by omega)
      have O1 := L1.O nd
      have hv := I.val es[j] (List.getElem_mem hj)
      have hz : es[j].1 + 1 < (Lw.ord xs (es.take j)).length := by rw [O1.len]; exact hv
      refine ⟨lenIs_at ee2 rfl, .tup [.int j, env es[j]], by show (itemL h2 e j).map _ = _; rw [itemL_at ee2, ens_at hj]; rfl, ?_⟩
      subst es'
      unfold env
      size_fits
      refine ⟨_, rfl, ?_⟩
      size_fits
      refine z_nms en (by omega) ?_
      size_fits
      refine z_nms (i := es[j].1 + 1) en hz ?_
      size_fits
      refine ⟨by simp [sz], ?_⟩
      size_fits
      refine ⟨by simp [sz], ?_⟩
      have pj : (prL xs es)[j]'(by rw [prL_len]; exact hj) = ((Lw.ord xs (es.take j))[es[j].1], (Lw.ord xs (es.take j))[es[j].1 + 1]) := by
        have se : es = es.take j ++ es[j] :: es.drop (j + 1) := by rw [← List.drop_eq_getElem_cons hj, List.take_append_drop]
        have e1 : (prL xs es)[j]? = some (gd (Lw.ord xs (es.take j)) es[j].1, gd (Lw.ord xs (es.take j)) (es[j].1 + 1)) := by
          have : prL xs es = prL xs (es.take j ++ es[j] :: es.drop (j + 1)) := by rw [← se]
          rw [this, prL_app]
          have lt : (prL xs (es.take j)).length = j := by rw [prL_len, List.length_take]; omega
          rw [List.getElem?_append_right (by omega), lt, Nat.sub_self]; rfl
        rw [gd_at (by omega), gd_at hz] at e1
        exact (List.getElem?_eq_some_iff.mp e1).2
      have lowo : ∀ (k : Nat) (hk : k < (Lw.ord xs (es.take j)).length), Low (Lw.ord xs (es.take j))[k] := fun k hk => lowx _ (O1.mem _ (List.getElem_mem hk))
      refine ok_eqD (d := pdd ((Lw.ord xs (es.take j))[es[j].1], (Lw.ord xs (es.take j))[es[j].1 + 1])) (e := pdd (ys[i + 1], ys[i])) rfl rfl (shp_pr (lowo _ _) (lowo _ _)) (shp_pr (lowx _ my) (lowx _ mx)) ?_
      by_cases q2 : j = p
      · subst q2
        rw [pa] at pj
        rw [← pj, (eqv_iff (d := pdd (ys[i + 1], ys[i])) (e := pdd (ys[i + 1], ys[i])) rfl rfl).mpr rfl]
        size_fits
        refine ⟨_, rfl, ?_⟩
        refine ok_slL ee2 fun r7 h7 e7 F7 l7 => ?_
        rw [cut_to (by rw [ens_len]; omega), ens_take] at e7
        size_fits
        refine ⟨_, rfl, ?_⟩
        refine ok_slL (F7.keep _ _ id ee2) fun r8 h8 e8 F8 l8 => ?_
        rw [show (j : Int) + 1 = ((j + 1 : Nat) : Int) by omega, cut_from (by rw [ens_len]; omega), ens_drop] at e8
        refine ok_addl (F8.keep _ _ id e7) e8 (by rw [ens_len, ens_len, List.length_take, List.length_drop, sz]; omega) fun r9 h9 e9 F9 l9 => ?_
        rw [ens_app, ← List.eraseIdx_eq_take_drop_succ] at e9
        size_fits
        refine ⟨by simp [sz], ?_⟩
        size_fits
        have := F2.le; have := F7.le; have := F8.le
        exact ⟨r9, .int j, rfl, ((F2.trans F7).trans F8).trans F9, by omega, .inr ⟨q, rfl, e9⟩⟩
      · have nq : pdd ((Lw.ord xs (es.take j))[es[j].1], (Lw.ord xs (es.take j))[es[j].1 + 1]) ≠ pdd (ys[i + 1], ys[i]) := fun e => by
          have e := pdd_inj e
          rw [← pj] at e
          have := List.Nodup.idxOf_getElem (I.pairs nd).1 j (by rw [prL_len]; exact hj)
          rw [e, hp] at this
          exact q2 this.symm
        have ef : PyData.eqv (pdd ((Lw.ord xs (es.take j))[es[j].1], (Lw.ord xs (es.take j))[es[j].1 + 1])) (pdd (ys[i + 1], ys[i])) = false := by
          cases q3 : PyData.eqv (pdd ((Lw.ord xs (es.take j))[es[j].1], (Lw.ord xs (es.take j))[es[j].1 + 1])) (pdd (ys[i + 1], ys[i])) with
          | false => rfl
          | true => exact absurd ((eqv_iff rfl rfl).mp q3) nq
        rw [ef]
        size_fits
        refine z_nms (i := es[j].1 + 1) en hz ?_
        size_fits
        refine z_nms en (by omega) ?_
        size_fits
        refine ⟨by simp [sz], ?_⟩
        size_fits
        have put : ∀ (h : OH) (l : List Str) (k : Nat) (z : Str), h[n]? = some (.lst (nms l)) → k < l.length → oPut (.ref n) (.int k) (.str z) h = some (h.set n (.lst (nms (l.set k z)))) := by
          intro h l k z e hk
          rw [v_putl e (by omega) (by rw [nms_len]; omega), Int.toNat_natCast]
          have : (nms l).set k (.str z) = nms (l.set k z) := by unfold nms; rw [List.map_set]
          rw [this]
        refine ⟨_, put _ _ _ _ en (by omega), ?_⟩
        size_fits
        have en5 := at_set (o := .lst (nms ((Lw.ord xs (es.take j)).set es[j].1 (Lw.ord xs (es.take j))[es[j].1 + 1]))) en
        refine ⟨_, put _ _ (es[j].1 + 1) _ en5 (by rw [List.length_set]; exact hz), ?_⟩
        size_fits
        refine ⟨⟨_, _, _, rfl⟩, by omega, ?_, ?_⟩
        · rw [at_set en5, ← take_next hj, ord_app]
          congr 3
          exact (swp_set hz).symm
        · have ln : h1.length ≤ n ∨ n < h1.length := by omega
          exact (F2.no.trans ((Fr.set (S := (· = n)) rfl).trans (Fr.set (S := (· = n)) rfl))).new (S := No) fun q hq hl => by omega
    · exfalso
      have : (ens es).length ≤ p := jp
      rw [ens_len] at this
      omega
end
end Lw

set_option maxHeartbeats 4000000
namespace Lw
open PySem L2 O
local macro_rules | `(tactic| size_fits) => `(tactic| repeat' (first | (with_reducible refine ok_c ?_) | (with_reducible refine ok_op ?_) | (with_reducible refine ok_nil ?_) | (with_reducible refine ok_cons ?_) | (with_reducible refine ok_b ?_) | (with_reducible refine ok_call ?_) | (with_reducible refine ok_ix ?_) | (with_reducible refine ok_seq ?_) | (with_reducible refine ok_if ?_) | (with_reducible refine ok_set ?_) | (with_reducible refine ok_rt ?_) | (with_reducible refine ok_rtn ?_) | (with_reducible refine ok_ex ?_) | (with_reducible refine ok_nx ?_) | (with_reducible refine ok_asg ?_) | (with_reducible refine ok_par ?_) | (with_reducible refine ok_tb ?_) | (with_reducible refine ok_tt ?_) | (with_reducible refine ok_tn ?_) | (with_reducible refine ok_tor ?_) | (with_reducible refine ok_tand ?_) | (with_reducible refine ok_not ?_) | (with_reducible refine ok_ife ?_) | (with_reducible refine ok_chain ?_) | (with_reducible refine ok_sl ?_) | (with_reducible refine ok_part ?_) | (with_reducible refine ok_nopart ?_) | (with_reducible refine ok_bm ?_) | (with_reducible refine ok_bm0 ?_) | (with_reducible refine ok_lst ?_) | (with_reducible refine ok_tup ?_) | (with_reducible refine ok_dK ?_) | (with_reducible refine ok_fld ?_) | (with_reducible refine ok_dix ?_) | (with_reducible refine ok_isi ?_) | (with_reducible refine ok_meth ?_) | (with_reducible refine ok_make ?_) | (with_reducible refine ok_sfld ?_) | (with_reducible refine ok_rev ?_) | (with_reducible refine ok_gput ?_) | (with_reducible refine ok_gnm ?_) | (with_reducible refine ok_gsnil ?_) | (with_reducible refine ok_gscons ?_) | (with_reducible refine ok_and ?_) | (with_reducible refine ok_or ?_) | (with_reducible refine ok_iR1 ?_) | (with_reducible refine ok_iR2 ?_) | (with_reducible refine ok_iL ?_) | (with_reducible refine ok_iE ?_) | (with_reducible refine ok_lc ?_) | (with_reducible refine ok_dc ?_) | (with_reducible refine ok_for ?_) | (with_reducible refine ok_yes ?_) | (with_reducible refine k_fnx ?_) | (with_reducible refine k_fct ?_) | (with_reducible refine k_fbk ?_) | (with_reducible refine k_frt ?_) | (with_reducible refine k_nx ?_) | (with_reducible refine k_rt ?_) | (with_reducible refine k_bk ?_) | (with_reducible refine k_ct ?_) | (with_reducible refine k_drt ?_) | (with_reducible refine k_dnx ?_) | (with_reducible refine k_t ?_) | (with_reducible refine k_f ?_) | (with_reducible refine k_n ?_) | (with_reducible refine k_bl ?_) | (with_reducible refine k_tbl ?_) | (with_reducible refine ok_add ?_) | (with_reducible refine ok_sub ?_) | (with_reducible refine ok_lt ?_) | (with_reducible refine ok_le ?_) | (with_reducible refine ok_gt ?_) | (with_reducible refine ok_ge ?_) | (with_reducible refine ok_max ?_) | (with_reducible refine ok_min ?_) | (with_reducible refine ok_abs ?_) | (with_reducible refine ok_lenr ?_) | ((with_reducible apply ok_var); (· exact rfl)) | ((with_reducible apply ok_gtp); (· exact rfl)) | ((with_reducible refine ok_mod ?_ ?_); (· first | decide | omega)) | ((with_reducible refine ok_fdiv ?_ ?_ ?_); (· first | decide | omega); (· first | decide | omega)) | ((with_reducible apply ok_lenl); (· assumption)) | ((with_reducible apply ok_list); (· assumption))))
abbrev kI : Key := Sum.inr (PySem.Str.ofString "items")
abbrev kO : Key := Sum.inr (PySem.Str.ofString "order")
abbrev kE : Key := Sum.inr (PySem.Str.ofString "entries")
structure StAt (h : OH) (s a o e : Nat) (xs ys : List Str) (es : List En) : Prop where
  d : h[s]? = some (.dK [(kI, .ref a), (kO, .ref o), (kE, .ref e)])
  it : h[a]? = some (.lst (nms xs))
  od : h[o]? = some (.lst (nms ys))
  en : h[e]? = some (.lst (ens es))
section
variable {h h' : OH} {g c d b r a i t s o e : Nat} {xs ys zs : List Str} {es es' : List En} {z : Str}
theorem StAt.keep (S : StAt h s a o e xs ys es) (F : Fr No h h') : StAt h' s a o e xs ys es := ⟨F.keep _ _ id S.d, F.keep _ _ id S.it, F.keep _ _ id S.od, F.keep _ _ id S.en⟩
theorem StAt.keepR (S : StAt h s a o e xs ys es) (R : Rg h r) (F : Fr (· = r) h h') : StAt h' s a o e xs ys es :=
  ⟨F.keep _ _ (rg_ne R S.d fun _ _ z => nomatch z) S.d, nms_keepR S.it R F, nms_keepR S.od R F, F.keep _ _ (rg_ne R S.en fun _ _ => ens_ne) S.en⟩
theorem get_I (S : StAt h s a o e xs ys es) : dGet h s (.str (PySem.Str.ofString "items")) = some (some (.ref a)) := by
  simp only [dGet, S.d, kOf, Option.map_some]; rfl
theorem get_O (S : StAt h s a o e xs ys es) : dGet h s (.str (PySem.Str.ofString "order")) = some (some (.ref o)) := by
  simp only [dGet, S.d, kOf, Option.map_some]; rfl
theorem get_E (S : StAt h s a o e xs ys es) : dGet h s (.str (PySem.Str.ofString "entries")) = some (some (.ref e)) := by
  simp only [dGet, S.d, kOf, Option.map_some]; rfl
theorem put_E {v : OV} (S : h[s]? = some (.dK [(kI, .ref a), (kO, .ref o), (kE, .ref e)])) : oPut (.ref s) (.str (PySem.Str.ofString "entries")) v h = some (h.set s (.dK [(kI, .ref a), (kO, .ref o), (kE, v)])) := by
  rw [put_dK S (by show 3 < _; rw [sz]; decide)]; rfl
theorem put_O {v : OV} (S : h[s]? = some (.dK [(kI, .ref a), (kO, .ref o), (kE, .ref e)])) : oPut (.ref s) (.str (PySem.Str.ofString "order")) v h = some (h.set s (.dK [(kI, .ref a), (kO, v), (kE, .ref e)])) := by
  rw [put_dK S (by show 3 < _; rw [sz]; decide)]; rfl
/-- one swap: what is told, the entries behind it -/
def Stp (xs ys : List Str) (es : List En) (i : Nat) (z : Str) (w : OV) (es' : List En) : Prop :=
  (xs.idxOf (gd ys i) < xs.idxOf (gd ys (i + 1)) ∧ w = .non ∧ es' = es ++ [(i, z)]) ∨ (xs.idxOf (gd ys (i + 1)) < xs.idxOf (gd ys i) ∧ w = .int ((prL xs es).idxOf (gd ys (i + 1), gd ys i)) ∧ es' = es.eraseIdx ((prL xs es).idxOf (gd ys (i + 1), gd ys i)))
theorem Stp.uniq {w w' : OV} (p : Stp xs ys es i z w es') {es2 : List En} (q : Stp xs ys es i z w' es2) : w = w' ∧ es' = es2 := by
  rcases p with ⟨p1, p2, p3⟩ | ⟨p1, p2, p3⟩ <;> rcases q with ⟨q1, q2, q3⟩ | ⟨q1, q2, q3⟩
  · exact ⟨p2.trans q2.symm, p3.trans q3.symm⟩
  · exact absurd q1 (Nat.lt_asymm p1)
  · exact absurd q1 (Nat.lt_asymm p1)
  · exact ⟨p2.trans q2.symm, p3.trans q3.symm⟩
theorem Stp.li {w : OV} (p : Stp xs ys es i z w es') (I : LI xs ys es) (nd : xs.Nodup) (hi : i + 1 < ys.length) (lb : Labs es) (hz : Lab z) : LI xs (swp ys i) es' ∧ Labs es' := by
  have O := I.O nd
  unfold Stp at p
  rw [gd_at (show i < ys.length by omega), gd_at hi] at p
  rcases p with ⟨q, _, rfl⟩ | ⟨q, _, rfl⟩
  · exact ⟨I.out nd hi q, lab_app lb hz⟩
  · have pm : (ys[i + 1], ys[i]) ∈ prL xs es := ((I.pairs nd).2 _).mpr (cnt_in nd O hi q).2
    have hp : (prL xs es)[(prL xs es).idxOf (ys[i + 1], ys[i])]? = some (ys[i + 1], ys[i]) := by
      have hl := List.idxOf_lt_length_iff.mpr pm
      rw [List.getElem?_eq_getElem hl, List.getElem_idxOf hl]
    exact ⟨I.inw nd hi q hp, lab_era lb _⟩
theorem Stp.val {w : OV} (p : Stp xs ys es i z w es') (I : LI xs ys es) (nd : xs.Nodup) (hi : i + 1 < ys.length) : w = .non ∨ ∃ n : Nat, w = .int n ∧ n < es.length ∧ es' = es.eraseIdx n := by
  have O := I.O nd
  rcases p with ⟨_, rfl, _⟩ | ⟨q, rfl, e⟩
  · exact .inl rfl
  · refine .inr ⟨_, rfl, ?_, e⟩
    rw [gd_at (show i < ys.length by omega), gd_at hi] at q ⊢
    have pm : (ys[i + 1], ys[i]) ∈ prL xs es := ((I.pairs nd).2 _).mpr (cnt_in nd O hi q).2
    have := List.idxOf_lt_length_iff.mpr pm
    rwa [prL_len] at this
theorem sp_done (S : StAt h s a o e xs ys es) (I : LI xs ys es) (lb : Labs es) (nd : xs.Nodup) (hn : ∀ z ∈ xs, NameS z) (lx : xs.length ≤ 40) (hi : i + 1 < ys.length) :
    Ok (f__law_swap_done [.ref s, .int i, .str z] h) (fun v h' => (∃ o' e' es', Stp xs ys es i z v es' ∧ StAt h' s a o' e' xs (swp ys i) es' ∧ h.length ≤ e') ∧ Fr (· = s) h h') := by
  have O := I.O nd
  have ly := O.len
  have hi0 : i < ys.length := by omega
  refine ok_d rfl ?_
  unfold m__law_swap_done
  size_fits
  refine ⟨_, _, rfl, get_I S, ?_⟩
  size_fits
  refine ⟨_, _, rfl, get_O S, ?_⟩
  size_fits
  refine ⟨_, _, rfl, ?_⟩
  size_fits
  refine ⟨_, _, rfl, get_E S, ?_⟩
  size_fits
  refine ⟨⟨rfl, rfl⟩, ?_⟩
  refine (sp_sents S.it S.en S.od I lb nd hn lx hi).mono fun v h1 ⟨r1, w, ev, F1, lr1, q⟩ => ?_
  subst ev
  size_fits
  have S1 := S.keep F1
  refine ⟨_, put_E S1.d, ?_⟩
  have lr : h1[r1]? ≠ none ∧ ∃ es', Stp xs ys es i z w es' ∧ h1[r1]? = some (.lst (ens es')) := by
    rcases q with ⟨q1, q2, q3⟩ | ⟨q1, q2, q3⟩
    · refine ⟨by rw [q3]; simp, _, .inl ⟨?_, q2, rfl⟩, q3⟩
      rw [gd_at hi0, gd_at hi]; exact q1
    · refine ⟨by rw [q3]; simp, es.eraseIdx ((prL xs es).idxOf (ys[i + 1], ys[i])), .inr ⟨?_, ?_, ?_⟩, q3⟩
      · rw [gd_at hi0, gd_at hi]; exact q1
      · rw [gd_at hi0, gd_at hi]; exact q2
      · rw [gd_at hi0, gd_at hi]
  obtain ⟨_, es', st, er⟩ := lr
  have d2 := at_set (o := .dK [(kI, .ref a), (kO, .ref o), (kE, .ref r1)]) S1.d
  have nx : ∀ {u : Nat} {xs : List OV}, h1[u]? = some (.lst xs) → (h1.set s (.dK [(kI, .ref a), (kO, .ref o), (kE, .ref r1)]))[u]? = some (.lst xs) := fun e => at_ne (ne_at e S1.d fun z => nomatch z).symm e
  have it2 := nx S1.it
  have od2 := nx S1.od
  have en2 := nx er
  have F2 : Fr (· = s) h (h1.set s (.dK [(kI, .ref a), (kO, .ref o), (kE, .ref r1)])) := F1.no.trans (.set rfl)
  generalize h1.set s (.dK [(kI, .ref a), (kO, .ref o), (kE, .ref r1)]) = h2 at d2 it2 od2 en2 F2 ⊢
  size_fits
  refine ⟨_, rfl, ?_⟩
  refine ok_slL od2 fun r3 h3 e3 F3 _ => ?_
  rw [cut_to (by rw [nms_len]; omega), nms_take] at e3
  size_fits
  refine z_nms (F3.keep _ _ id od2) hi ?_
  size_fits
  refine z_nms (F3.keep _ _ id od2) hi0 ?_
  size_fits
  refine ⟨by simp [sz], fun r4 h4 e4 F4 _ => ?_⟩
  have e4 : h4[r4]? = some (.lst (nms [ys[i + 1], ys[i]])) := e4
  refine ok_addl (F4.keep _ _ id e3) e4 (by simp [nms_len, sz]; omega) fun r5 h5 e5 F5 _ => ?_
  rw [nms_app] at e5
  size_fits
  refine ⟨_, rfl, ?_⟩
  have od5 := F5.keep _ _ id (F4.keep _ _ id (F3.keep _ _ id od2))
  refine ok_slL od5 fun r6 h6 e6 F6 _ => ?_
  rw [show (i : Int) + 2 = ((i + 2 : Nat) : Int) by omega, cut_from (by rw [nms_len]; omega), nms_drop] at e6
  refine ok_addl (F6.keep _ _ id e5) e6 (by simp [nms_len, sz]; omega) fun r7 h7 e7 F7 _ => ?_
  rw [nms_app, ← swp_eq hi] at e7
  have G := (((F3.trans F4).trans F5).trans F6).trans F7
  size_fits
  have d7 := G.keep _ _ id d2
  refine ⟨_, put_O d7, ?_⟩
  size_fits
  have ny : ∀ {u : Nat} {xs : List OV}, h7[u]? = some (.lst xs) → (h7.set s (.dK [(kI, .ref a), (kO, .ref r7), (kE, .ref r1)]))[u]? = some (.lst xs) := fun e => at_ne (ne_at e d7 fun z => nomatch z).symm e
  exact ⟨⟨r7, r1, es', st, ⟨at_set d7, ny (G.keep _ _ id it2), ny e7, ny (G.keep _ _ id en2)⟩, lr1⟩, (F2.trans G.no).trans (.set rfl)⟩
theorem sp_label (R : Rg h r) : Ok (f__law_label [.ref r] h) (fun v h' => ∃ z, v = .str z ∧ Lab z ∧ Rg h' r ∧ Fr (· = r) h h') := by
  refine ok_d rfl ?_
  unfold m__law_label
  size_fits
  refine ⟨by simp [sz], fun u h2 e2 F2 l2 => ?_⟩
  have e2 : h2[u]? = some (.lst (nms [])) := e2
  size_fits
  refine ⟨⟨rfl, rfl⟩, ?_⟩
  refine (sp_name (R.keep F2) e2 (by simp) (by simp)).mono fun v h3 ⟨z, ev, hz, _, R3, F3⟩ => ?_
  subst ev
  size_fits
  refine ⟨by simp [sz], fun w h4 e4 F4 l4 => ?_⟩
  size_fits
  refine ⟨⟨rfl, rfl⟩, ?_⟩
  have nw : w ≠ r := by have := R3.lt; omega
  refine (sp_choice (R3.keep F4) e4 nw (by simp) (by simp)).mono fun v h5 ⟨hv, R5, F5⟩ => ?_
  have dn : ∀ z : Str, ((z.cps.toList.all fun c => decide (97 ≤ c) && decide (c ≤ 122)) && (decide (1 ≤ z.length) && decide (z.length ≤ 8))) = true → NameS z := by
    intro z hz
    simp only [Bool.and_eq_true, List.all_eq_true, decide_eq_true_eq] at hz
    exact ⟨hz.1, hz.2⟩
  have FF := ((F2.no.trans F3).trans F4.no).trans F5
  simp only [List.mem_cons, List.not_mem_nil, or_false] at hv
  size_fits
  rcases hv with rfl | rfl | rfl | rfl | rfl
  · exact ⟨_, rfl, .inl rfl, R5, FF⟩
  · exact ⟨_, rfl, .inl rfl, R5, FF⟩
  · exact ⟨_, rfl, .inr (dn _ (by decide +kernel)), R5, FF⟩
  · exact ⟨_, rfl, .inr (dn _ (by decide +kernel)), R5, FF⟩
  · exact ⟨_, rfl, .inr hz, R5, FF⟩
theorem ok_ppN {s : OSt} {P : List (Key × OV) → OH → Prop} (q : P [] h) : Ok (ppM [] s h) P := q
theorem ok_ppC {s : OSt} {a b : ME} {r : List (ME × ME)} {P : List (Key × OV) → OH → Prop} (q : Ok (a s h) fun x h1 => ∃ q, kOf x = some q ∧ Ok (b s h1) fun y h2 => Ok (ppM r s h2) fun ps h3 => P ((q, y) :: ps) h3) : Ok (ppM ((a, b) :: r) s h) P := by
  unfold ppM
  rw [ok_bnd]
  refine q.mono fun x h1 ⟨k, e, q⟩ => ?_
  rw [e, Option.bind_some, ok_bnd]
  refine q.mono fun y h2 q => ?_
  rw [ok_bnd]; exact q
theorem ok_disp {s : OSt} {ms : List (ME × ME)} {Q : CE} (q : Ok (ppM ms s h) fun kvs h1 => kvs.length ≤ 15 ∧ ∀ r h2, h2[r]? = some (.dK (mergeO [] kvs)) → Fr No h1 h2 → h1.length ≤ r → Q (.ref r) h2) : Ok (eDisp ms s h) Q := by
  unfold eDisp
  rw [ok_bnd]
  refine q.mono fun kvs h1 ⟨e, q⟩ => ?_
  rw [if_pos e]; exact ok_new q
theorem sp_begun (ea : h[a]? = some (.lst (nms xs))) : Ok (f__law_begun [.ref a] h) (fun v h' => ∃ s o e, v = .ref s ∧ StAt h' s a o e xs xs [] ∧ Fr No h h' ∧ h.length ≤ s ∧ h.length ≤ e) := by
  refine ok_d rfl ?_
  unfold m__law_begun
  refine ok_rt ?_
  refine ok_disp ?_
  refine ok_ppC ?_
  size_fits
  refine ⟨_, rfl, ?_⟩
  size_fits
  refine ok_ppC ?_
  size_fits
  refine ⟨_, rfl, ?_⟩
  size_fits
  intro o h1 e1 F1 l1
  refine ok_ppC ?_
  size_fits
  refine ⟨_, rfl, ?_⟩
  size_fits
  refine ⟨by simp [sz], fun e h2 e2 F2 l2 => ?_⟩
  refine ok_ppN ?_
  refine ⟨by simp, fun s h3 e3 F3 l3 => ?_⟩
  size_fits
  have := F1.le; have := F2.le
  exact ⟨s, o, e, rfl, ⟨e3, F3.keep _ _ id (F2.keep _ _ id (F1.keep _ _ id ea)), F3.keep _ _ id (F2.keep _ _ id e1), F3.keep _ _ id e2⟩, (F1.trans F2).trans F3, by omega, by omega⟩
end
end Lw

set_option maxHeartbeats 4000000
namespace Lw
open PySem L2 O
local macro_rules | `(tactic| size_fits) => `(tactic| repeat' (first | (with_reducible refine ok_c ?_) | (with_reducible refine ok_op ?_) | (with_reducible refine ok_nil ?_) | (with_reducible refine ok_cons ?_) | (with_reducible refine ok_b ?_) | (with_reducible refine ok_call ?_) | (with_reducible refine ok_ix ?_) | (with_reducible refine ok_seq ?_) | (with_reducible refine ok_if ?_) | (with_reducible refine ok_set ?_) | (with_reducible refine ok_rt ?_) | (with_reducible refine ok_rtn ?_) | (with_reducible refine ok_ex ?_) | (with_reducible refine ok_nx ?_) | (with_reducible refine ok_asg ?_) | (with_reducible refine ok_par ?_) | (with_reducible refine ok_tb ?_) | (with_reducible refine ok_tt ?_) | (with_reducible refine ok_tn ?_) | (with_reducible refine ok_tor ?_) | (with_reducible refine ok_tand ?_) | (with_reducible refine ok_not ?_) | (with_reducible refine ok_ife ?_) | (with_reducible refine ok_chain ?_) | (with_reducible refine ok_sl ?_) | (with_reducible refine ok_part ?_) | (with_reducible refine ok_nopart ?_) | (with_reducible refine ok_bm ?_) | (with_reducible refine ok_bm0 ?_) | (with_reducible refine ok_lst ?_) | (with_reducible refine ok_tup ?_) | (with_reducible refine ok_dK ?_) | (with_reducible refine ok_fld ?_) | (with_reducible refine ok_dix ?_) | (with_reducible refine ok_isi ?_) | (with_reducible refine ok_meth ?_) | (with_reducible refine ok_make ?_) | (with_reducible refine ok_sfld ?_) | (with_reducible refine ok_rev ?_) | (with_reducible refine ok_gput ?_) | (with_reducible refine ok_gnm ?_) | (with_reducible refine ok_gsnil ?_) | (with_reducible refine ok_gscons ?_) | (with_reducible refine ok_and ?_) | (with_reducible refine ok_or ?_) | (with_reducible refine ok_iR1 ?_) | (with_reducible refine ok_iR2 ?_) | (with_reducible refine ok_iL ?_) | (with_reducible refine ok_iE ?_) | (with_reducible refine ok_lc ?_) | (with_reducible refine ok_dc ?_) | (with_reducible refine ok_for ?_) | (with_reducible refine ok_yes ?_) | (with_reducible refine k_fnx ?_) | (with_reducible refine k_fct ?_) | (with_reducible refine k_fbk ?_) | (with_reducible refine k_frt ?_) | (with_reducible refine k_nx ?_) | (with_reducible refine k_rt ?_) | (with_reducible refine k_bk ?_) | (with_reducible refine k_ct ?_) | (with_reducible refine k_drt ?_) | (with_reducible refine k_dnx ?_) | (with_reducible refine k_t ?_) | (with_reducible refine k_f ?_) | (with_reducible refine k_n ?_) | (with_reducible refine k_bl ?_) | (with_reducible refine k_tbl ?_) | (with_reducible refine ok_add ?_) | (with_reducible refine ok_sub ?_) | (with_reducible refine ok_lt ?_) | (with_reducible refine ok_le ?_) | (with_reducible refine ok_gt ?_) | (with_reducible refine ok_ge ?_) | (with_reducible refine ok_max ?_) | (with_reducible refine ok_min ?_) | (with_reducible refine ok_abs ?_) | (with_reducible refine ok_lenr ?_) | ((with_reducible apply ok_var); (· exact rfl)) | ((with_reducible apply ok_gtp); (· exact rfl)) | ((with_reducible refine ok_mod ?_ ?_); (· first | decide | omega)) | ((with_reducible refine ok_fdiv ?_ ?_ ?_); (· first | decide | omega); (· first | decide | omega)) | ((with_reducible apply ok_lenl); (· assumption)) | ((with_reducible apply ok_list); (· assumption))))
theorem ok_methD {s : OSt} {h : OH} {a : ME} {as ks : MA} {Q : CE} {C nm : Str} {m : MF} {n l : Nat} {ds : List OV} (q : Ok (a s h) fun x h0 => ∃ r fs, x = .ref r ∧ h0[r]? = some (.ins C fs) ∧ (fs.lookup nm).isNone = true ∧ Ok (as s h0) fun xs h1 => Ok (ks s h1) fun zs h2 => ((OV.ref r :: xs).length = n ∧ zs.length = l) ∧ Ok (m ((.ref r :: xs) ++ ds) h2) Q) : Ok (eMeth C nm m n l (gDef ds) a as ks s h) Q := by
  unfold eMeth
  rw [ok_bnd]
  refine q.mono fun x h0 ⟨r, fs, e1, e2, e3, q⟩ => ?_
  subst e1
  simp only [e2, e3, and_self, ↓reduceIte]
  rw [ok_bnd]
  refine q.mono fun xs h1 q => ?_
  rw [ok_bnd]
  refine q.mono fun zs h2 ⟨e, q⟩ => ?_
  unfold dFin
  rw [if_pos e]; exact q
section
variable {h h' : OH} {g c d b r a i t s o e : Nat} {xs ys zs : List Str} {es es' : List En} {z : Str}
theorem sp_swapS (L : LogAt h g c d b xs ys es) (I : LI xs ys es) (nd : xs.Nodup) (hn : ∀ z ∈ xs, NameS z) (lx : xs.length ≤ 40) (hi : i + 1 < ys.length) (hz : Lab z) :
    Ok (f_SwapLog_swap [.ref g, .int i, .str z] h) (fun v h' => (∃ c' es', Stp xs ys es i z v es' ∧ LogAt h' g c' d b xs (swp ys i) es') ∧ Fr (SL g d) h h') := by
  refine (sp_swap L I nd hn lx hi hz).mono fun v h1 ⟨q, F⟩ => ⟨?_, F⟩
  have hi0 : i < ys.length := by omega
  rcases q with ⟨q, ev, c', L'⟩ | ⟨q, ev, c', L'⟩
  · exact ⟨c', _, .inl ⟨by rw [gd_at hi0, gd_at hi]; exact q, ev, rfl⟩, L'⟩
  · exact ⟨c', _, .inr ⟨by rw [gd_at hi0, gd_at hi]; exact q, by rw [gd_at hi0, gd_at hi]; exact ev, rfl⟩, by rw [gd_at hi0, gd_at hi]; exact L'⟩
theorem sp_applyS (L : LogAt h g c d b xs ys es) (I : LI xs ys es) (nd : xs.Nodup) (hn : ∀ z ∈ xs, NameS z) (lx : xs.length ≤ 40) (hi : i + 1 < ys.length) :
    Ok (f_SwapLog_apply_swap [.ref g, .int i, .str z] h) (fun v h' => (∃ c' es', Stp xs ys es i z v es' ∧ LogAt h' g c' d b xs (swp ys i) es') ∧ Fr (SL g d) h h') := by
  refine (sp_apply L I nd hn lx hi).mono fun v h1 ⟨q, F⟩ => ⟨?_, F⟩
  have hi0 : i < ys.length := by omega
  rcases q with ⟨q, ev, c', L'⟩ | ⟨q, ev, c', L'⟩
  · exact ⟨c', _, .inl ⟨by rw [gd_at hi0, gd_at hi]; exact q, ev, rfl⟩, L'⟩
  · exact ⟨c', _, .inr ⟨by rw [gd_at hi0, gd_at hi]; exact q, by rw [gd_at hi0, gd_at hi]; exact ev, rfl⟩, by rw [gd_at hi0, gd_at hi]; exact L'⟩
theorem plc_ne (n : xs ≠ []) {u v w : OV} : OO.dK (plcF 0 xs) ≠ .dK [(kI, .ref a), (kO, v), (kE, w)] := by
  intro q
  cases xs with
  | nil => exact n rfl
  | cons x xs =>
    have q := OO.dK.inj q
    unfold plcF at q
    have q := (List.cons.inj q).1
    have q := (Prod.mk.inj q).2
    cases q
theorem LogAt.keepS (L : LogAt h g c d b xs ys es) (S : h[s]? = some (.dK [(kI, .ref a), (kO, .ref o), (kE, .ref e)])) (F : Fr (· = s) h h') (n : xs ≠ []) : LogAt h' g c d b xs ys es := by
  obtain ⟨l, p, e1, e2, e3⟩ := L.B
  exact ⟨F.keep _ _ (ne_at L.o S fun z => nomatch z) L.o, F.keep _ _ (ne_at L.cu S fun z => nomatch z) L.cu, F.keep _ _ (ne_at L.dn S fun z => nomatch z) L.dn,
    l, p, F.keep _ _ (ne_at e1 S fun z => nomatch z) e1, F.keep _ _ (ne_at e2 S fun z => nomatch z) e2, F.keep _ _ (ne_at e3 S (plc_ne (u := .non) n)) e3⟩
theorem StAt.keepL (S : StAt h s a o e xs ys es') (L : LogAt h g c d b xs zs es) (ed : e ≠ d) (F : Fr (SL g d) h h') (n : xs ≠ []) (n2 : ys ≠ []) : StAt h' s a o e xs ys es' :=
  ⟨F.keep _ _ (fun q => q.elim (ne_at S.d L.o fun z => nomatch z) (ne_at S.d L.dn fun z => nomatch z)) S.d, L.kp F S.it n, L.kp F S.od n2, F.keep _ _ (fun q => q.elim (ne_at S.en L.o fun z => nomatch z) ed) S.en⟩
theorem rg_keepS (R : Rg h r) (S : h[s]? = some (.dK [(kI, .ref a), (kO, .ref o), (kE, .ref e)])) (F : Fr (· = s) h h') : Rg h' r := by
  obtain ⟨x, y, er⟩ := R
  exact ⟨x, y, F.keep _ _ (ne_at er S fun z => nomatch z) er⟩
/-- a log and the law's own state of it -/
structure Jn (h : OH) (g c d b s a o e : Nat) (xs ys : List Str) (es : List En) : Prop where
  L : LogAt h g c d b xs ys es
  S : StAt h s a o e xs ys es
  I : LI xs ys es
  lb : Labs es
  ed : e ≠ d
theorem ne_len {l : List Str} (h : 0 < l.length) : l ≠ [] := fun e => by rw [e, List.length_nil] at h; omega
theorem reprW {w : OV} {Q : CE} (hv : w = .non ∨ ∃ n : Nat, w = .int n ∧ n < 2000) (q : ∀ d : PyData, toD h 12 w = some d → Q (.str d.shown) h) : Ok (bRepr [w] h) Q := by
  rcases hv with rfl | ⟨n, rfl, hn⟩
  · exact ok_reprG (d := .none) rfl Gd.non (by decide) (by decide) (q _ rfl)
  · exact ok_reprG (d := .int n) rfl (Gd.int hn) (by decide) (by decide) (q _ rfl)
theorem sp_swapped2 (R : Rg h r) (J : Jn h g c d b s a o e xs ys es) (nd : xs.Nodup) (hn : ∀ z ∈ xs, NameS z) (l2 : 2 ≤ xs.length) (lx : xs.length ≤ 40) :
    Ok (f__law_swapped [.ref r, .ref g, .ref s] h) (fun v h' => v = .bl true ∧ Rg h' r ∧ ∃ c' o' e' ys' es', Jn h' g c' d b s a o' e' xs ys' es') := by
  have O := J.I.O nd
  have ly := O.len
  have n1 : xs ≠ [] := ne_len (by omega)
  refine ok_d rfl ?_
  unfold m__law_swapped
  size_fits
  refine ⟨_, _, rfl, get_O J.S, ?_⟩
  have eo := J.S.od
  refine ok_lenl eo ?_
  rw [nms_len]
  size_fits
  refine ⟨⟨rfl, rfl⟩, ?_⟩
  refine (sp_draw R (by omega) (by omega)).mono fun v h1 ⟨k, ev, k0, k1, R1, F1⟩ => ?_
  subst ev
  obtain ⟨k, rfl⟩ : ∃ n : Nat, k = n := ⟨k.toNat, by omega⟩
  have L1 := J.L.keepR R F1
  have S1 := J.S.keepR R F1
  size_fits
  refine ⟨⟨rfl, rfl⟩, ?_⟩
  refine (sp_label R1).mono fun v h2 ⟨z, ev, hz, R2, F2⟩ => ?_
  subst ev
  have L2 := L1.keepR R1 F2
  have S2 := S1.keepR R1 F2
  size_fits
  refine ⟨_, _, rfl, ?_⟩
  size_fits
  refine ⟨⟨rfl, rfl⟩, ?_⟩
  have hk : k + 1 < ys.length := by omega
  refine (sp_done (z := z) S2 J.I J.lb nd hn lx hk).mono fun w h3 ⟨⟨o3, e3, es3, st, S3, l3⟩, F3⟩ => ?_
  have L3 := L2.keepS S2.d F3 n1
  have R3 := rg_keepS R2 S2.d F3
  have nd3 : e3 ≠ d := by have := lt_of L2.dn; omega
  obtain ⟨I3, lb3⟩ := st.li J.I nd hk J.lb hz
  have hw := st.val J.I nd hk
  have le := li_len J.I lx
  have hw2 : w = .non ∨ ∃ n : Nat, w = .int n ∧ n < 2000 := by
    rcases hw with q | ⟨n, q, hn, _⟩
    · exact .inl q
    · exact .inr ⟨n, q, by omega⟩
  have n3 : swp ys k ≠ [] := ne_len (by rw [swp_len hk]; omega)
  refine k_nx ?_
  refine ok_mid (fun f h5 => f = .nx [some (.ref r), some (.ref g), some (.ref s), some (.int k), some (.str z), some w, some w] ∧ Rg h5 r ∧ ∃ c5, Jn h5 g c5 d b s a o3 e3 xs (swp ys k) es3) ?_ fun f h5 ⟨ef, R5, c5, J5⟩ => ?_
  · have fin : ∀ (h4 : OH) (v : OV), Rg h4 r → LogAt h4 g c d b xs ys es → StAt h4 s a o3 e3 xs (swp ys k) es3 → ∀ h5, (∃ c' es', Stp xs ys es k z v es' ∧ LogAt h5 g c' d b xs (swp ys k) es') ∧ Fr (SL g d) h4 h5 → v = w ∧ Rg h5 r ∧ ∃ c5, Jn h5 g c5 d b s a o3 e3 xs (swp ys k) es3 := by
      rintro h4 v R4 L4 S4 h5 ⟨⟨c5, es5, st5, L5⟩, F5⟩
      obtain ⟨rfl, rfl⟩ := st5.uniq st
      exact ⟨rfl, L4.rg F5 R4, c5, L5, S4.keepL L4 nd3 F5 n1 n3, I3, lb3, nd3⟩
    size_fits
    refine ok_eqS ?_
    size_fits
    have sw : ∀ h4, Rg h4 r → LogAt h4 g c d b xs ys es → StAt h4 s a o3 e3 xs (swp ys k) es3 → Ok (f_SwapLog_swap [.ref g, .int k, .str z] h4) (fun v h5 => v = w ∧ Rg h5 r ∧ ∃ c5, Jn h5 g c5 d b s a o3 e3 xs (swp ys k) es3) := fun h4 R4 L4 S4 =>
      (sp_swapS L4 J.I nd hn lx hk hz).mono fun v h5 q => fin h4 v R4 L4 S4 h5 q
    have kw : ∀ h4, Rg h4 r → LogAt h4 g c d b xs ys es → StAt h4 s a o3 e3 xs (swp ys k) es3 → Ok (eMeth (PySem.Str.ofString "SwapLog") (PySem.Str.ofString "swap") f_SwapLog_swap 2 1 gApp (eVar 1) (aCons (eVar 3) aNil) (aCons (eVar 4) aNil) [some (.ref r), some (.ref g), some (.ref s), some (.int k), some (.str z), some w, none] h4) (fun v h5 => v = w ∧ Rg h5 r ∧ ∃ c5, Jn h5 g c5 d b s a o3 e3 xs (swp ys k) es3) := by
      intro h4 R4 L4 S4
      refine ok_methA ?_
      size_fits
      refine ⟨_, _, rfl, L4.o, rfl, ?_⟩
      size_fits
      exact ⟨⟨rfl, rfl⟩, sw h4 R4 L4 S4⟩
    cases hb : (z == PySem.Str.ofString "") with
    | true =>
      have ze : z = PySem.Str.ofString "" := by simpa using hb
      refine k_t ?_
      size_fits
      refine ⟨⟨rfl, rfl⟩, ?_⟩
      refine (sp_draw R3 (by decide) (by decide)).mono fun v h4 ⟨m, ev, _, _, R4, F4⟩ => ?_
      subst ev
      have L4 := L3.keepR R3 F4
      have S4 := S3.keepR R3 F4
      size_fits
      refine ok_eqI ?_
      size_fits
      refine k_any ?_ ?_
      · refine ok_methD ?_
        size_fits
        refine ⟨_, _, rfl, L4.o, rfl, ?_⟩
        size_fits
        refine ⟨⟨rfl, rfl⟩, ?_⟩
        have := sw h4 R4 L4 S4
        rw [ze] at this
        exact this.mono fun v h5 ⟨q1, q2, q3⟩ => ⟨by rw [q1]; rfl, q2, q3⟩
      · exact (kw h4 R4 L4 S4).mono fun v h5 ⟨q1, q2, q3⟩ => ⟨by rw [q1]; rfl, q2, q3⟩
    | false =>
      refine k_f ?_
      size_fits
      exact (kw h3 R3 L3 S3).mono fun v h5 ⟨q1, q2, q3⟩ => ⟨by rw [q1]; rfl, q2, q3⟩
  subst ef
  size_fits
  refine reprW hw2 fun d5 e5 => ?_
  size_fits
  refine reprW hw2 fun d6 e6 => ?_
  rw [e5] at e6
  cases e6
  refine ok_eqS ?_
  rw [beq_self_eq_true]
  size_fits
  exact ⟨rfl, R5, c5, o3, e3, _, es3, J5⟩
end
end Lw

set_option maxHeartbeats 4000000
namespace Lw
open PySem L2 O
local macro_rules | `(tactic| size_fits) => `(tactic| repeat' (first | (with_reducible refine ok_c ?_) | (with_reducible refine ok_op ?_) | (with_reducible refine ok_nil ?_) | (with_reducible refine ok_cons ?_) | (with_reducible refine ok_b ?_) | (with_reducible refine ok_call ?_) | (with_reducible refine ok_ix ?_) | (with_reducible refine ok_seq ?_) | (with_reducible refine ok_if ?_) | (with_reducible refine ok_set ?_) | (with_reducible refine ok_rt ?_) | (with_reducible refine ok_rtn ?_) | (with_reducible refine ok_ex ?_) | (with_reducible refine ok_nx ?_) | (with_reducible refine ok_asg ?_) | (with_reducible refine ok_par ?_) | (with_reducible refine ok_tb ?_) | (with_reducible refine ok_tt ?_) | (with_reducible refine ok_tn ?_) | (with_reducible refine ok_tor ?_) | (with_reducible refine ok_tand ?_) | (with_reducible refine ok_not ?_) | (with_reducible refine ok_ife ?_) | (with_reducible refine ok_chain ?_) | (with_reducible refine ok_sl ?_) | (with_reducible refine ok_part ?_) | (with_reducible refine ok_nopart ?_) | (with_reducible refine ok_bm ?_) | (with_reducible refine ok_bm0 ?_) | (with_reducible refine ok_lst ?_) | (with_reducible refine ok_tup ?_) | (with_reducible refine ok_dK ?_) | (with_reducible refine ok_fld ?_) | (with_reducible refine ok_dix ?_) | (with_reducible refine ok_isi ?_) | (with_reducible refine ok_meth ?_) | (with_reducible refine ok_make ?_) | (with_reducible refine ok_sfld ?_) | (with_reducible refine ok_rev ?_) | (with_reducible refine ok_gput ?_) | (with_reducible refine ok_gnm ?_) | (with_reducible refine ok_gsnil ?_) | (with_reducible refine ok_gscons ?_) | (with_reducible refine ok_and ?_) | (with_reducible refine ok_or ?_) | (with_reducible refine ok_iR1 ?_) | (with_reducible refine ok_iR2 ?_) | (with_reducible refine ok_iL ?_) | (with_reducible refine ok_iE ?_) | (with_reducible refine ok_lc ?_) | (with_reducible refine ok_dc ?_) | (with_reducible refine ok_for ?_) | (with_reducible refine ok_yes ?_) | (with_reducible refine k_fnx ?_) | (with_reducible refine k_fct ?_) | (with_reducible refine k_fbk ?_) | (with_reducible refine k_frt ?_) | (with_reducible refine k_nx ?_) | (with_reducible refine k_rt ?_) | (with_reducible refine k_bk ?_) | (with_reducible refine k_ct ?_) | (with_reducible refine k_drt ?_) | (with_reducible refine k_dnx ?_) | (with_reducible refine k_t ?_) | (with_reducible refine k_f ?_) | (with_reducible refine k_n ?_) | (with_reducible refine k_bl ?_) | (with_reducible refine k_tbl ?_) | (with_reducible refine ok_add ?_) | (with_reducible refine ok_sub ?_) | (with_reducible refine ok_lt ?_) | (with_reducible refine ok_le ?_) | (with_reducible refine ok_gt ?_) | (with_reducible refine ok_ge ?_) | (with_reducible refine ok_max ?_) | (with_reducible refine ok_min ?_) | (with_reducible refine ok_abs ?_) | (with_reducible refine ok_lenr ?_) | ((with_reducible apply ok_var); (· exact rfl)) | ((with_reducible apply ok_gtp); (· exact rfl)) | ((with_reducible refine ok_mod ?_ ?_); (· first | decide | omega)) | ((with_reducible refine ok_fdiv ?_ ?_ ?_); (· first | decide | omega); (· first | decide | omega)) | ((with_reducible apply ok_lenl); (· assumption)) | ((with_reducible apply ok_list); (· assumption))))
section
variable {h h' : OH} {g c d b r a i t s o e : Nat} {xs ys zs : List Str} {es es' : List En} {z : Str}
theorem toD_l {n : Nat} {vs : List OV} (e : h[r]? = some (.lst vs)) : toD h (n + 1) (.ref r) = (toDs (toD h n) vs).map .list := by
  show (match h[r]? with
    | some (.lst xs) => (toDs (toD h n) xs).map PyData.list
    | _ => none) = _
  rw [e]
theorem toDs2 {f : OV → Option PyData} {v : OV} {vs : List OV} {d : PyData} {ds : List PyData} (e : f v = some d) (e2 : toDs f vs = some ds) : toDs f (v :: vs) = some (d :: ds) := by
  show (f v).bind (fun d => (toDs f vs).map fun ds => d :: ds) = _
  rw [e, e2]; rfl
/-- [order, entries, len, names] -/
def all4 (xs ys : List Str) (es : List En) : PyData := .list [.list (ys.map .str), .list (es.map end_), .int es.length, .list (xs.map .str)]
theorem toD_all {t o e a : Nat} (et : h[t]? = some (.lst [.ref o, .ref e, .int es.length, .ref a])) (eo : h[o]? = some (.lst (nms ys))) (ee : h[e]? = some (.lst (ens es))) (ea : h[a]? = some (.lst (nms xs))) : toD h 12 (.ref t) = some (all4 xs ys es) := by
  rw [toD_l et, toDs2 (toD_strs (n := 9) eo) (toDs2 (toD_ens (n := 7) ee) (toDs2 (f := toD h 11) (v := .int es.length) rfl (toDs2 (toD_strs (n := 9) ea) rfl)))]; rfl
theorem gd_all (I : LI xs ys es) (nd : xs.Nodup) (hn : ∀ z ∈ xs, NameS z) (lx : xs.length ≤ 40) (lb : Labs es) : Gd (all4 xs ys es) 3 40000 := by
  have O := I.O nd
  have le := li_len I lx
  have ly := O.len
  have g1 := (Gd.names fun z hz => hn z (O.mem z hz)).mono (k' := 2) (w' := 360) (by decide) (by omega)
  have g2 := (Gd.ents (en_ok I.val lx lb)).mono (k' := 2) (w' := 30400) (by decide) (by omega)
  have g3 := (Gd.int (n := es.length) (by omega)).mono (k' := 2) (w' := 12) (by decide) (by decide)
  have g4 := (Gd.names hn).mono (k' := 2) (w' := 360) (by decide) (by omega)
  exact Gd.list (Gds.cons (b := 31000) g1 (Gds.cons (b := 500) g2 (Gds.cons (b := 400) g3 (Gds.cons (b := 0) g4 Gds.nil (by decide)) (by decide)) (by decide)) (by decide))
theorem sp_lbase (L : LogAt h g c d b xs ys es) : Ok (f_SwapLog_base [.ref g] h) (fun v h' => v = .ref b ∧ h' = h) := by
  refine ok_d rfl ?_
  unfold m_SwapLog_base
  size_fits
  refine ⟨_, _, _, rfl, L.o, rfl, ?_⟩
  size_fits
  exact ⟨rfl, rfl⟩
theorem sp_is (L : LogAt h g c d b xs ys es) (S : StAt h s a o e xs ys es) (I : LI xs ys es) (lb : Labs es) (nd : xs.Nodup) (hn : ∀ z ∈ xs, NameS z) (lx : xs.length ≤ 40) :
    Ok (f__law_is [.ref g, .ref s] h) (fun v h' => v = .bl true ∧ Fr No h h') := by
  have le := li_len I lx
  have G := gd_all I nd hn lx lb
  refine ok_d rfl ?_
  unfold m__law_is
  size_fits
  refine ⟨_, _, rfl, L.o, rfl, ?_⟩
  size_fits
  refine ⟨⟨rfl, rfl⟩, ?_⟩
  refine (sp_lorder L).mono fun v h1 ⟨o1, ev, e1, F1, _⟩ => ?_
  subst ev
  have L1 := L.keep F1
  size_fits
  refine ⟨_, _, rfl, L1.o, rfl, ?_⟩
  size_fits
  refine ⟨⟨rfl, rfl⟩, ?_⟩
  refine (sp_lentries L1).mono fun v h2 ⟨o2, ev, e2, F2, _⟩ => ?_
  subst ev
  have L2 := L1.keep F2
  size_fits
  refine ok_lenI L2.o ((sp_llen L2).mono fun v h3 ⟨ev, e3⟩ => ⟨_, ev, by omega, ?_⟩)
  subst e3
  size_fits
  refine ⟨_, _, rfl, L2.o, rfl, ?_⟩
  size_fits
  refine ⟨⟨rfl, rfl⟩, ?_⟩
  refine (sp_lbase L2).mono fun v h4 ⟨ev, e4⟩ => ?_
  subst ev; subst e4
  obtain ⟨l, p, eb, _, _⟩ := L2.B
  refine ⟨_, _, rfl, eb, rfl, ?_⟩
  size_fits
  refine ⟨⟨rfl, rfl⟩, ?_⟩
  refine (sp_names L2.B).mono fun v h5 ⟨o5, ev, e5, F5⟩ => ?_
  subst ev
  size_fits
  refine ⟨by simp [sz], fun t h6 e6 F6 l6 => ?_⟩
  size_fits
  refine ok_reprG (toD_all e6 (F6.keep _ _ id (F5.keep _ _ id (F2.keep _ _ id e1))) (F6.keep _ _ id (F5.keep _ _ id e2)) (F6.keep _ _ id e5)) G (by decide) (by decide) ?_
  have S6 := (((S.keep F1).keep F2).keep F5).keep F6
  size_fits
  refine ⟨_, _, rfl, get_O S6, ?_⟩
  size_fits
  refine ⟨_, _, rfl, get_E S6, ?_⟩
  size_fits
  refine ⟨_, _, rfl, get_E S6, ?_⟩
  size_fits
  have een := S6.en
  refine ok_lenl een ?_
  rw [ens_len]
  size_fits
  refine ⟨_, _, rfl, get_I S6, ?_⟩
  size_fits
  refine ⟨by simp [sz], fun w h7 e7 F7 l7 => ?_⟩
  size_fits
  have S7 := S6.keep F7
  refine ok_reprG (toD_all e7 S7.od S7.en S7.it) G (by decide) (by decide) ?_
  refine ok_eqS ?_
  rw [beq_self_eq_true]
  size_fits
  exact ⟨rfl, (((F1.trans F2).trans F5).trans F6).trans F7⟩
theorem sp_clone (L : LogAt h g c d b xs ys es) : Ok (f_SwapLog_clone [.ref g] h) (fun v h' => ∃ g' c' d', v = .ref g' ∧ LogAt h' g' c' d' b xs ys es ∧ Fr No h h' ∧ h.length ≤ g' ∧ h.length ≤ d') := by
  refine ok_d rfl ?_
  unfold m_SwapLog_clone
  size_fits
  refine ⟨_, _, _, rfl, L.o, rfl, ?_⟩
  size_fits
  refine ⟨⟨rfl, rfl⟩, fun g1 h1 e1 F1 l1 => ?_⟩
  refine (sp_loginit e1 (L.B.keep F1)).mono fun v h2 ⟨ev, F2, c2, d2, L2, ld⟩ => ⟨ev, ?_⟩
  have G2 : Fr No h h2 := (F1.no.trans F2).new (S := No) fun q hq hl => by omega
  have L0 := L.keep G2
  size_fits
  refine ⟨_, _, _, rfl, L0.o, rfl, ?_⟩
  have ecu := L0.cu
  refine ok_list ecu fun r3 h3 e3 F3 l3 => ?_
  have L03 := L0.keep F3
  size_fits
  refine ⟨_, _, _, rfl, L03.o, rfl, ?_⟩
  have edn := L03.dn
  refine ok_list edn fun r4 h4 e4 F4 l4 => ?_
  have L24 := (L2.keep F3).keep F4
  size_fits
  refine ⟨by simp [sz], ?_⟩
  size_fits
  have gf : ∀ {s : OSt} {h : OH} {o : ME} {v : OV} {C f : Str} {T : OSt → OH → Prop}, Ok (o s h) (fun x h1 => ∃ r fs, x = .ref r ∧ h1[r]? = some (.ins C fs) ∧ fs.length < 1000 ∧ T s (h1.set r (.ins C (putFO f v fs)))) → Ok (gFld C f o v s h) T := by
    intro s h o v C f T q
    unfold gFld
    rw [ok_bnd]
    refine q.mono fun x h1 ⟨r, fs, q1, q2, q3, q4⟩ => ?_
    subst q1
    simp only [q2, q3, and_self, ↓reduceIte]
    exact q4
  refine gf ?_
  size_fits
  refine ⟨_, _, rfl, L24.o, by simp, ?_⟩
  size_fits
  refine gf ?_
  size_fits
  have q5 := at_set (o := .ins "SwapLog" [("own_base", .ref b), ("current", .ref r3), ("done", .ref d2)]) L24.o
  refine ⟨_, _, rfl, q5, by simp, ?_⟩
  size_fits
  obtain ⟨l, p, b1, b2, b3⟩ := L24.B
  have e34 := F4.keep _ _ id e3
  have two : ∀ {u : Nat} {o : OO}, h4[u]? = some o → (∀ fs, o ≠ .ins "SwapLog" fs) → ((h4.set g1 (.ins "SwapLog" [("own_base", .ref b), ("current", .ref r3), ("done", .ref d2)])).set g1 (.ins "SwapLog" [("own_base", .ref b), ("current", .ref r3), ("done", .ref r4)]))[u]? = some o := fun e n =>
    at_ne (ne_at e L24.o (n _)).symm (at_ne (ne_at e L24.o (n _)).symm e)
  refine ⟨g1, r3, r4, rfl, ⟨at_set q5, two e34 (fun _ q => nomatch q), two e4 (fun _ q => nomatch q), l, p, two b1 (fun _ q => by cases q), two b2 (fun _ q => nomatch q), two b3 (fun _ q => nomatch q)⟩, ?_, l1, ?_⟩
  · exact (((G2.trans F3).trans F4).no.trans ((Fr.set (S := (· = g1)) rfl).trans (Fr.set (S := (· = g1)) rfl))).new (S := No) fun q hq hl => by omega
  · have := G2.le; have := F3.le; omega
end
end Lw

set_option maxHeartbeats 4000000
namespace Lw
open PySem L2 O
local macro_rules | `(tactic| size_fits) => `(tactic| repeat' (first | (with_reducible refine ok_c ?_) | (with_reducible refine ok_op ?_) | (with_reducible refine ok_nil ?_) | (with_reducible refine ok_cons ?_) | (with_reducible refine ok_b ?_) | (with_reducible refine ok_call ?_) | (with_reducible refine ok_ix ?_) | (with_reducible refine ok_seq ?_) | (with_reducible refine ok_if ?_) | (with_reducible refine ok_set ?_) | (with_reducible refine ok_rt ?_) | (with_reducible refine ok_rtn ?_) | (with_reducible refine ok_ex ?_) | (with_reducible refine ok_nx ?_) | (with_reducible refine ok_asg ?_) | (with_reducible refine ok_par ?_) | (with_reducible refine ok_tb ?_) | (with_reducible refine ok_tt ?_) | (with_reducible refine ok_tn ?_) | (with_reducible refine ok_tor ?_) | (with_reducible refine ok_tand ?_) | (with_reducible refine ok_not ?_) | (with_reducible refine ok_ife ?_) | (with_reducible refine ok_chain ?_) | (with_reducible refine ok_sl ?_) | (with_reducible refine ok_part ?_) | (with_reducible refine ok_nopart ?_) | (with_reducible refine ok_bm ?_) | (with_reducible refine ok_bm0 ?_) | (with_reducible refine ok_lst ?_) | (with_reducible refine ok_tup ?_) | (with_reducible refine ok_dK ?_) | (with_reducible refine ok_fld ?_) | (with_reducible refine ok_dix ?_) | (with_reducible refine ok_isi ?_) | (with_reducible refine ok_meth ?_) | (with_reducible refine ok_make ?_) | (with_reducible refine ok_sfld ?_) | (with_reducible refine ok_rev ?_) | (with_reducible refine ok_gput ?_) | (with_reducible refine ok_gnm ?_) | (with_reducible refine ok_gsnil ?_) | (with_reducible refine ok_gscons ?_) | (with_reducible refine ok_and ?_) | (with_reducible refine ok_or ?_) | (with_reducible refine ok_iR1 ?_) | (with_reducible refine ok_iR2 ?_) | (with_reducible refine ok_iL ?_) | (with_reducible refine ok_iE ?_) | (with_reducible refine ok_lc ?_) | (with_reducible refine ok_dc ?_) | (with_reducible refine ok_for ?_) | (with_reducible refine ok_yes ?_) | (with_reducible refine k_fnx ?_) | (with_reducible refine k_fct ?_) | (with_reducible refine k_fbk ?_) | (with_reducible refine k_frt ?_) | (with_reducible refine k_nx ?_) | (with_reducible refine k_rt ?_) | (with_reducible refine k_bk ?_) | (with_reducible refine k_ct ?_) | (with_reducible refine k_drt ?_) | (with_reducible refine k_dnx ?_) | (with_reducible refine k_t ?_) | (with_reducible refine k_f ?_) | (with_reducible refine k_n ?_) | (with_reducible refine k_bl ?_) | (with_reducible refine k_tbl ?_) | (with_reducible refine ok_add ?_) | (with_reducible refine ok_sub ?_) | (with_reducible refine ok_lt ?_) | (with_reducible refine ok_le ?_) | (with_reducible refine ok_gt ?_) | (with_reducible refine ok_ge ?_) | (with_reducible refine ok_max ?_) | (with_reducible refine ok_min ?_) | (with_reducible refine ok_abs ?_) | (with_reducible refine ok_lenr ?_) | ((with_reducible apply ok_var); (· exact rfl)) | ((with_reducible apply ok_gtp); (· exact rfl)) | ((with_reducible refine ok_mod ?_ ?_); (· first | decide | omega)) | ((with_reducible refine ok_fdiv ?_ ?_ ?_); (· first | decide | omega); (· first | decide | omega)) | ((with_reducible apply ok_lenl); (· assumption)) | ((with_reducible apply ok_list); (· assumption))))
def nxE (xs ys : List Str) (es : List En) (e : En) : List En := if xs.idxOf (gd ys e.1) < xs.idxOf (gd ys (e.1 + 1)) then es ++ [e] else es.eraseIdx ((prL xs es).idxOf (gd ys (e.1 + 1), gd ys e.1))
def nxK (xs ys : List Str) (es : List En) (e : En) (j : Nat) (kept : List Nat) : List Nat := if xs.idxOf (gd ys e.1) < xs.idxOf (gd ys (e.1 + 1)) then kept ++ [j] else kept.eraseIdx ((prL xs es).idxOf (gd ys (e.1 + 1), gd ys e.1))
def rp (xs : List Str) (es0 : List En) (p : Nat) : Nat → List Str × List En × List Nat
  | 0 => (xs, [], [])
  | j + 1 => match es0[j]? with
    | some e => if j = p then rp xs es0 p j else (swp (rp xs es0 p j).1 e.1, nxE xs (rp xs es0 p j).1 (rp xs es0 p j).2.1 e, nxK xs (rp xs es0 p j).1 (rp xs es0 p j).2.1 e j (rp xs es0 p j).2.2)
    | none => rp xs es0 p j
def nts (l : List Nat) : List OV := l.map fun n : Nat => OV.int (n : Int)
theorem ints_len {l : List Nat} : (nts l).length = l.length := by simp [nts]
theorem ints_app {l m : List Nat} : nts l ++ nts m = nts (l ++ m) := by simp [nts]
section
variable {h h' : OH} {g c d b r a i t s o e p : Nat} {xs ys zs : List Str} {es es' es0 : List En} {z : Str}
theorem rp_skip {j : Nat} (hj : j < es0.length) (q : j = p) : rp xs es0 p (j + 1) = rp xs es0 p j := by
  show (match es0[j]? with
    | some e => if j = p then rp xs es0 p j else _
    | none => rp xs es0 p j) = _
  rw [List.getElem?_eq_getElem hj]
  show (if j = p then rp xs es0 p j else _) = _
  rw [if_pos q]
theorem rp_step {j : Nat} (hj : j < es0.length) (q : j ≠ p) : rp xs es0 p (j + 1) = (swp (rp xs es0 p j).1 es0[j].1, nxE xs (rp xs es0 p j).1 (rp xs es0 p j).2.1 es0[j], nxK xs (rp xs es0 p j).1 (rp xs es0 p j).2.1 es0[j] j (rp xs es0 p j).2.2) := by
  show (match es0[j]? with
    | some e => if j = p then rp xs es0 p j else (swp (rp xs es0 p j).1 e.1, nxE xs (rp xs es0 p j).1 (rp xs es0 p j).2.1 e, nxK xs (rp xs es0 p j).1 (rp xs es0 p j).2.1 e j (rp xs es0 p j).2.2)
    | none => rp xs es0 p j) = _
  rw [List.getElem?_eq_getElem hj]
  show (if j = p then rp xs es0 p j else _) = _
  rw [if_neg q]
theorem Stp.nx {w : OV} (q : Stp xs ys es i z w es') : es' = nxE xs ys es (i, z) := by
  unfold nxE
  rcases q with ⟨q, _, e⟩ | ⟨q, _, e⟩
  · rw [if_pos q]; exact e
  · rw [if_neg (Nat.lt_asymm q)]; exact e
theorem Stp.nk {w : OV} (q : Stp xs ys es i z w es') (j : Nat) (kept : List Nat) : (w = .non ∧ nxK xs ys es (i, z) j kept = kept ++ [j]) ∨ ∃ n : Nat, w = .int n ∧ nxK xs ys es (i, z) j kept = kept.eraseIdx n := by
  unfold nxK
  rcases q with ⟨q, e, _⟩ | ⟨q, e, _⟩
  · exact .inl ⟨e, by rw [if_pos q]⟩
  · exact .inr ⟨_, e, by rw [if_neg (Nat.lt_asymm q)]⟩
structure RI (xs : List Str) (es0 : List En) (p j : Nat) : Prop where
  I : LI xs (rp xs es0 p j).1 (rp xs es0 p j).2.1
  lb : Labs (rp xs es0 p j).2.1
  len : (rp xs es0 p j).2.2.length = (rp xs es0 p j).2.1.length
theorem ri (nd : xs.Nodup) (v : Val xs.length es0) (lb : Labs es0) : ∀ j, j ≤ es0.length → RI xs es0 p j
  | 0, _ => ⟨LI.nil nd, fun e he => (by cases he), rfl⟩
  | j + 1, hj => by
    have R := ri nd v lb j (by omega)
    have hj : j < es0.length := by omega
    by_cases q : j = p
    · have := rp_skip (xs := xs) hj q
      exact ⟨by rw [this]; exact R.I, by rw [this]; exact R.lb, by rw [this]; exact R.len⟩
    · have e := rp_step (xs := xs) hj q
      have O := R.I.O nd
      have hv : es0[j].1 + 1 < (rp xs es0 p j).1.length := by rw [O.len]; exact v _ (List.getElem_mem hj)
      have hv0 : es0[j].1 < (rp xs es0 p j).1.length := by omega
      have st : ∃ w, Stp xs (rp xs es0 p j).1 (rp xs es0 p j).2.1 es0[j].1 es0[j].2 w (nxE xs (rp xs es0 p j).1 (rp xs es0 p j).2.1 es0[j]) := by
        unfold nxE
        by_cases q2 : xs.idxOf (gd (rp xs es0 p j).1 es0[j].1) < xs.idxOf (gd (rp xs es0 p j).1 (es0[j].1 + 1))
        · exact ⟨.non, .inl ⟨q2, rfl, by rw [if_pos q2]⟩⟩
        · refine ⟨_, .inr ⟨?_, rfl, by rw [if_neg q2]⟩⟩
          refine Nat.lt_of_le_of_ne (Nat.le_of_not_lt q2) fun e => ?_
          rw [gd_at hv0, gd_at hv] at e
          have := idx_inj (O.mem _ (List.getElem_mem _)) (O.mem _ (List.getElem_mem _)) e
          have := (List.getElem_inj O.nd).mp this
          omega
      obtain ⟨w, st⟩ := st
      obtain ⟨i1, i2⟩ := st.li R.I nd hv R.lb (lb _ (List.getElem_mem hj))
      have ln := R.len
      refine ⟨by rw [e]; exact i1, by rw [e]; exact i2, ?_⟩
      rw [e]
      show (nxK _ _ _ _ _ _).length = (nxE _ _ _ _).length
      rcases st.val R.I nd hv with q3 | ⟨n, q3, q4, q5⟩
      · rcases st with ⟨q, _, e3⟩ | ⟨q, q6, e3⟩
        · unfold nxK nxE
          rw [if_pos q, if_pos q, List.length_append, List.length_append, ln]; rfl
        · rw [q3] at q6; cases q6
      · rcases st with ⟨q, q6, e3⟩ | ⟨q, q6, e3⟩
        · rw [q3] at q6; cases q6
        · unfold nxK nxE
          rw [if_neg (Nat.lt_asymm q), if_neg (Nat.lt_asymm q)]
          have : ((prL xs (rp xs es0 p j).2.1).idxOf (gd (rp xs es0 p j).1 (es0[j].1 + 1), gd (rp xs es0 p j).1 es0[j].1) : Int) = n := by
            rw [q3] at q6
            exact (OV.int.inj q6).symm
          have : (prL xs (rp xs es0 p j).2.1).idxOf (gd (rp xs es0 p j).1 (es0[j].1 + 1), gd (rp xs es0 p j).1 es0[j].1) = n := by omega
          rw [this, List.length_eraseIdx_of_lt (by omega), List.length_eraseIdx_of_lt (by omega), ln]
theorem rp_keep (nd : xs.Nodup) : ∀ j, ∀ k ∈ (rp xs es0 p j).2.2, k < j
  | 0, k, hk => by cases hk
  | j + 1, k, hk => by
    by_cases hj : j < es0.length
    · by_cases q : j = p
      · rw [rp_skip hj q] at hk
        have := rp_keep nd j k hk
        omega
      · rw [rp_step hj q] at hk
        have hk : k ∈ nxK xs (rp xs es0 p j).1 (rp xs es0 p j).2.1 es0[j] j (rp xs es0 p j).2.2 := hk
        unfold nxK at hk
        split at hk
        · rcases List.mem_append.mp hk with hk | hk
          · have := rp_keep nd j k hk
            omega
          · rw [List.mem_singleton] at hk; omega
        · have := rp_keep nd j k (List.mem_of_mem_eraseIdx hk)
          omega
    · have : rp xs es0 p (j + 1) = rp xs es0 p j := by
        show (match es0[j]? with
          | some e => _
          | none => rp xs es0 p j) = _
        rw [List.getElem?_eq_none (by omega)]
      rw [this] at hk
      have := rp_keep nd j k hk
      omega
theorem toDs_ints {f : OV → Option PyData} (hf : ∀ n : Nat, f (.int n) = some (.int n)) : ∀ l : List Nat, toDs f (nts l) = some (l.map fun n : Nat => PyData.int (n : Int))
  | [] => rfl
  | n :: l => by
    show (f (.int n)).bind (fun d => (toDs f (nts l)).map fun ds => d :: ds) = _
    rw [hf, toDs_ints hf l]; rfl
theorem toD_ints {n : Nat} {l : List Nat} (e : h[r]? = some (.lst (nts l))) : toD h (n + 2) (.ref r) = some (.list (l.map fun n : Nat => PyData.int (n : Int))) := by
  rw [toD_l e, toDs_ints (fun _ => rfl)]; rfl
theorem gds_ints : ∀ {l : List Nat}, (∀ n ∈ l, n < 2000) → Gds (l.map fun n : Nat => PyData.int (n : Int)) 0 (13 * l.length)
  | [], _ => Gds.nil
  | n :: l, h => Gds.cons (Gd.int (h n List.mem_cons_self)) (gds_ints fun m hm => h m (List.mem_cons_of_mem _ hm)) (by simp only [List.length_cons]; omega)
theorem has_ints {l : List Nat} {n : Nat} (e : h[r]? = some (.lst (nts l))) (hl : ∀ n ∈ l, n < 2000) : oHas h (.int n) (.ref r) = some (decide (n ∈ l)) := by
  have t : toD h 10 (.int n) = some (.int n) := rfl
  have an : ((l.map fun n : Nat => PyData.int (n : Int)).any fun z => z.eqv (.int n)) = decide (n ∈ l) := by
    clear e hl
    induction l with
    | nil => rfl
    | cons w ws ih =>
      simp only [List.map_cons, List.any_cons, List.mem_cons]
      rw [ih, Bool.decide_or]
      congr 1
      show ((w : Int) == (n : Int)) = decide (n = w)
      by_cases q : n = w
      · subst q; simp
      · rw [decide_eq_false q]
        simp only [beq_eq_false_iff_ne]
        omega
  have un : oHas h (.int n) (.ref r) = (toDs (toD h 10) (nts l)).bind fun ds => (toD h 10 (.int n)).bind fun d => if (SeqAt.shaped d && SeqAt.shaped (.list ds)) = true then some (ds.any fun z => PyData.eqv z d) else none := by
    unfold oHas
    simp only [e]
  have s1 : SeqAt.shaped (.int n) = true := rfl
  have s2 := (Gd.list (gds_ints hl)).shaped (by decide)
  rw [un, toDs_ints (f := toD h 10) (fun _ => rfl), t]
  simp only [Option.bind_some, s1, s2, Bool.and_self, ↓reduceIte, an]
def gone (xs : List Str) (es0 : List En) (p : Nat) : List Nat := (List.range es0.length).filter fun k => !decide (k ∈ (rp xs es0 p es0.length).2.2)
end
end Lw

set_option maxHeartbeats 4000000
namespace Lw
open PySem L2 O
local macro_rules | `(tactic| size_fits) => `(tactic| repeat' (first | (with_reducible refine ok_c ?_) | (with_reducible refine ok_op ?_) | (with_reducible refine ok_nil ?_) | (with_reducible refine ok_cons ?_) | (with_reducible refine ok_b ?_) | (with_reducible refine ok_call ?_) | (with_reducible refine ok_ix ?_) | (with_reducible refine ok_seq ?_) | (with_reducible refine ok_if ?_) | (with_reducible refine ok_set ?_) | (with_reducible refine ok_rt ?_) | (with_reducible refine ok_rtn ?_) | (with_reducible refine ok_ex ?_) | (with_reducible refine ok_nx ?_) | (with_reducible refine ok_asg ?_) | (with_reducible refine ok_par ?_) | (with_reducible refine ok_tb ?_) | (with_reducible refine ok_tt ?_) | (with_reducible refine ok_tn ?_) | (with_reducible refine ok_tor ?_) | (with_reducible refine ok_tand ?_) | (with_reducible refine ok_not ?_) | (with_reducible refine ok_ife ?_) | (with_reducible refine ok_chain ?_) | (with_reducible refine ok_sl ?_) | (with_reducible refine ok_part ?_) | (with_reducible refine ok_nopart ?_) | (with_reducible refine ok_bm ?_) | (with_reducible refine ok_bm0 ?_) | (with_reducible refine ok_lst ?_) | (with_reducible refine ok_tup ?_) | (with_reducible refine ok_dK ?_) | (with_reducible refine ok_fld ?_) | (with_reducible refine ok_dix ?_) | (with_reducible refine ok_isi ?_) | (with_reducible refine ok_meth ?_) | (with_reducible refine ok_make ?_) | (with_reducible refine ok_sfld ?_) | (with_reducible refine ok_rev ?_) | (with_reducible refine ok_gput ?_) | (with_reducible refine ok_gnm ?_) | (with_reducible refine ok_gsnil ?_) | (with_reducible refine ok_gscons ?_) | (with_reducible refine ok_and ?_) | (with_reducible refine ok_or ?_) | (with_reducible refine ok_iR1 ?_) | (with_reducible refine ok_iR2 ?_) | (with_reducible refine ok_iL ?_) | (with_reducible refine ok_iE ?_) | (with_reducible refine ok_lc ?_) | (with_reducible refine ok_dc ?_) | (with_reducible refine ok_for ?_) | (with_reducible refine ok_yes ?_) | (with_reducible refine k_fnx ?_) | (with_reducible refine k_fct ?_) | (with_reducible refine k_fbk ?_) | (with_reducible refine k_frt ?_) | (with_reducible refine k_nx ?_) | (with_reducible refine k_rt ?_) | (with_reducible refine k_bk ?_) | (with_reducible refine k_ct ?_) | (with_reducible refine k_drt ?_) | (with_reducible refine k_dnx ?_) | (with_reducible refine k_t ?_) | (with_reducible refine k_f ?_) | (with_reducible refine k_n ?_) | (with_reducible refine k_bl ?_) | (with_reducible refine k_tbl ?_) | (with_reducible refine ok_add ?_) | (with_reducible refine ok_sub ?_) | (with_reducible refine ok_lt ?_) | (with_reducible refine ok_le ?_) | (with_reducible refine ok_gt ?_) | (with_reducible refine ok_ge ?_) | (with_reducible refine ok_max ?_) | (with_reducible refine ok_min ?_) | (with_reducible refine ok_abs ?_) | (with_reducible refine ok_lenr ?_) | ((with_reducible apply ok_var); (· exact rfl)) | ((with_reducible apply ok_gtp); (· exact rfl)) | ((with_reducible refine ok_mod ?_ ?_); (· first | decide | omega)) | ((with_reducible refine ok_fdiv ?_ ?_ ?_); (· first | decide | omega); (· first | decide | omega)) | ((with_reducible apply ok_lenl); (· assumption)) | ((with_reducible apply ok_list); (· assumption))))
section
variable {h h' : OH} {g c d b r a i t s o e p : Nat} {xs ys zs : List Str} {es es' es0 : List En} {z : Str}
theorem ok_gfld {s : OSt} {h : OH} {o : ME} {v : OV} {C f : Str} {T : OSt → OH → Prop} (q : Ok (o s h) fun x h1 => ∃ r fs, x = .ref r ∧ h1[r]? = some (.ins C fs) ∧ fs.length < 1000 ∧ T s (h1.set r (.ins C (putFO f v fs)))) : Ok (gFld C f o v s h) T := by
  unfold gFld
  rw [ok_bnd]
  refine q.mono fun x h1 ⟨r, fs, q1, q2, q3, q4⟩ => ?_
  subst q1
  simp only [q2, q3, and_self, ↓reduceIte]
  exact q4
theorem nts_era {l : List Nat} {n : Nat} : (nts l).eraseIdx n = nts (l.eraseIdx n) := by unfold nts; exact era_map
theorem nts_take {l : List Nat} {n : Nat} : (nts l).take n = nts (l.take n) := by unfold nts; rw [List.map_take]
theorem nts_drop {l : List Nat} {n : Nat} : (nts l).drop n = nts (l.drop n) := by unfold nts; rw [List.map_drop]
theorem ok_neI2 {i j : Int} {Q : CE} (q : Q (.bl (!(i == j))) h) : Ok (oNe (.int i) (.int j) h) Q := ok_neI q
theorem gone_step {es0 : List En} {xs : List Str} {p n : Nat} (hn : n < es0.length) : ((List.range (n + 1)).filter fun k => !decide (k ∈ (rp xs es0 p es0.length).2.2)) = ((List.range n).filter fun k => !decide (k ∈ (rp xs es0 p es0.length).2.2)) ++ (if n ∈ (rp xs es0 p es0.length).2.2 then [] else [n]) := by
  rw [List.range_succ, List.filter_append]
  congr 1
  by_cases q : n ∈ (rp xs es0 p es0.length).2.2
  · rw [if_pos q, filt0 (by simp [q])]
  · rw [if_neg q, filt1 (by simp [q])]
theorem nms_nts (n : xs ≠ []) {l : List Nat} : OO.lst (nms xs) ≠ .lst (nts l) := by
  intro q
  have q := OO.lst.inj q
  cases xs with
  | nil => exact n rfl
  | cons u us =>
    cases l with
    | nil => cases q
    | cons v vs => cases q
theorem LogAt.num (L : LogAt h g c d b xs ys es) {kp : Nat} {l : List Nat} {vs : List OV} (ek : h[kp]? = some (.lst (nts l))) (kg : kp ≠ g) (kd : kp ≠ d) (n1 : xs ≠ []) (n2 : ys ≠ []) : LogAt (h.set kp (.lst vs)) g c d b xs ys es := by
  obtain ⟨l, pp, b1, b2, b3⟩ := L.B
  exact ⟨at_ne kg L.o, at_ne (ne_at L.cu ek (nms_nts n2)).symm L.cu, at_ne kd L.dn, l, pp, at_ne (ne_at b1 ek fun z => nomatch z).symm b1, at_ne (ne_at b2 ek (nms_nts n1)).symm b2, at_ne (ne_at b3 ek fun z => nomatch z).symm b3⟩
theorem sp_remove (L : LogAt h g c d b xs ys es0) (I0 : LI xs ys es0) (lb0 : Labs es0) (nd : xs.Nodup) (hn : ∀ z ∈ xs, NameS z) (n1 : xs ≠ []) (lx : xs.length ≤ 40) (hp : p < es0.length) :
    Ok (f_SwapLog_remove_entry [.ref g, .int p] h) (fun v h' => ∃ r c' d', v = .ref r ∧ h'[r]? = some (.lst (nts (gone xs es0 p))) ∧ LogAt h' g c' d' b xs (rp xs es0 p es0.length).1 (rp xs es0 p es0.length).2.1 ∧ Fr (· = g) h h' ∧ h.length ≤ d' ∧ h.length ≤ r ∧ r ≠ d') := by
  have le := li_len I0 lx
  refine ok_d rfl ?_
  unfold m_SwapLog_remove_entry
  size_fits
  refine ⟨_, _, rfl, L.o, rfl, ?_⟩
  size_fits
  refine ⟨⟨rfl, rfl⟩, ?_⟩
  refine ((show Ok (f_SwapLog_require_position [.ref g, .int p] h) (fun v h' => h' = h) from ?_) : Ok _ _).mono fun v h1 e => ?_
  · refine ok_d rfl ?_
    unfold m_SwapLog_require_position
    size_fits
    refine ⟨⟨rfl, rfl⟩, ?_⟩
    refine sp_isint.mono fun v h3 ⟨ev, e3⟩ => ?_
    subst ev; subst e3
    size_fits
    refine k_dt (by omega) ?_
    size_fits
    refine ⟨_, _, _, rfl, L.o, rfl, ?_⟩
    size_fits
    have edn := L.dn
    refine ok_lenl edn ?_
    rw [ens_len]
    size_fits
    refine k_dt (by omega) ?_
    size_fits
    rfl
  subst e
  size_fits
  refine ⟨_, _, _, rfl, L.o, rfl, ?_⟩
  size_fits
  refine ⟨⟨rfl, rfl⟩, fun gf h2 e2 F2 l2 => ?_⟩
  refine (sp_loginit e2 (L.B.keep F2)).mono fun v h3 ⟨ev, F3, cf, df, Lf, ld⟩ => ⟨ev, ?_⟩
  have G3 : Fr No h1 h3 := (F2.no.trans F3).new (S := No) fun q hq hl => by omega
  have ldf : h1.length ≤ df := by have := F2.le; omega
  size_fits
  refine ⟨by simp [sz], fun kp h4 e4 F4 l4 => ?_⟩
  have e4 : h4[kp]? = some (.lst (nts [])) := e4
  size_fits
  refine ⟨by simp [sz], ?_⟩
  size_fits
  have Lf4 := Lf.keep F4
  have G4 := G3.trans F4
  have lkp : h1.length ≤ kp := by have := G3.le; omega
  have kd : kp ≠ df := by have := lt_of Lf.dn; omega
  have kg : kp ≠ gf := by have := lt_of Lf.o; omega
  refine ⟨_, _, _, rfl, (L.keep G4).o, rfl, ?_⟩
  size_fits
  refine ⟨_, _, rfl, (L.keep G4).dn, ?_⟩
  refine fgo (I := fun j s h5 => (∃ x y z w cf, s = [some (.ref g), some (.int p), some (.ref gf), some (.ref kp), x, y, z, w, none] ∧ LogAt h5 gf cf df b xs (rp xs es0 p j).1 (rp xs es0 p j).2.1) ∧ h5[kp]? = some (.lst (nts (rp xs es0 p j).2.2)) ∧ Fr No h1 h5) (fun j s h5 hj ⟨⟨x, y, z, w, cf, es', Lf⟩, ek, F5⟩ => ?_) (fun s h5 ⟨⟨x, y, z, w, cf, es', Lf⟩, ek, F5⟩ => ?_) _ _ _ _ (by simp) ⟨⟨_, _, _, _, cf, rfl, Lf4⟩, e4, G4⟩
  · have hj : j < (ens es0).length := hj
    rw [ens_len] at hj
    have L5 := L.keep F5
    have RJ := ri (p := p) nd I0.val lb0 j (by omega)
    have OJ := RJ.I.O nd
    have hv : es0[j].1 + 1 < (rp xs es0 p j).1.length := by rw [OJ.len]; exact I0.val _ (List.getElem_mem hj)
    have leJ := li_len RJ.I lx
    have lk := RJ.len
    refine ⟨lenIs_at L5.dn rfl, .tup [.int j, env es0[j]], by show (itemL h5 d j).map _ = _; rw [itemL_at L5.dn, ens_at hj]; rfl, ?_⟩
    subst es'
    unfold env
    size_fits
    refine ok_neI2 ?_
    size_fits
    by_cases q : j = p
    · have qe : (((j : Nat) : Int) == ((p : Nat) : Int)) = true := by simp [q]
      rw [qe]
      size_fits
      refine ⟨⟨_, _, _, _, cf, rfl, ?_⟩, ?_, F5⟩
      · rw [rp_skip hj q]; exact Lf
      · rw [rp_skip hj q]; exact ek
    · have qe : (((j : Nat) : Int) == ((p : Nat) : Int)) = false := by
        simp only [beq_eq_false_iff_ne]
        omega
      rw [qe]
      size_fits
      refine ⟨_, _, rfl, Lf.o, rfl, ?_⟩
      size_fits
      refine ⟨⟨rfl, rfl⟩, ?_⟩
      refine (sp_applyS (z := es0[j].2) Lf RJ.I nd hn lx hv).mono fun w h6 ⟨⟨c6, es6, st, L6⟩, F6⟩ => ?_
      have ek6 := F6.keep _ _ (fun q => q.elim kg kd) ek
      have G6 : Fr No h1 h6 := (F5.no.trans F6).new (S := No) fun q hq hl => by
        have lgf : h1.length ≤ gf := by have := F2.le; omega
        rcases hq with hq | hq <;> omega
      have ex := st.nx
      have hv2 := st.val RJ.I nd hv
      have en := rp_step (xs := xs) hj q
      size_fits
      rcases st.nk j (rp xs es0 p j).2.2 with ⟨ew, ekk⟩ | ⟨n, ew, ekk⟩
      · subst ew
        refine ok_isN ?_
        refine k_bl ?_
        refine k_t ?_
        size_fits
        refine ⟨isT_l ek6, ?_⟩
        size_fits
        refine ok_append ek6 (by rw [ints_len, lk, sz]; omega) ?_
        size_fits
        have F7 : Fr No h1 (h6.set kp (.lst (nts (rp xs es0 p j).2.2 ++ [.int j]))) := (G6.no.trans (Fr.set (S := (· = kp)) rfl)).new (S := No) fun q hq hl => by omega
        have L7 := L6.num (vs := nts (rp xs es0 p j).2.2 ++ [.int j]) ek6 kg kd n1 (ne_len (by rw [swp_len hv]; omega))
        refine ⟨⟨_, _, _, _, c6, rfl, ?_⟩, ?_, F7⟩
        · rw [en]; rw [ex] at L7; exact L7
        · rw [at_set ek6, en]
          show _ = some (OO.lst (nts (nxK _ _ _ es0[j] j _)))
          rw [show nxK xs (rp xs es0 p j).1 (rp xs es0 p j).2.1 es0[j] j (rp xs es0 p j).2.2 = _ from ekk, ← ints_app]; rfl
      · subst ew
        rcases hv2 with q3 | ⟨m, q3, q4, _⟩
        · cases q3
        have mn : m = n := by
          have := OV.int.inj q3
          omega
        subst mn
        refine ok_isN ?_
        refine k_bl ?_
        refine k_f ?_
        refine ok_del ?_
        size_fits
        refine ⟨_, _, _, rfl, rfl, ek6, by rw [ints_len, lk]; exact q4, by rw [ints_len, lk, sz]; omega, ?_⟩
        rw [nts_era]
        size_fits
        have F7 : Fr No h1 (h6.set kp (.lst (nts ((rp xs es0 p j).2.2.eraseIdx m)))) := (G6.no.trans (Fr.set (S := (· = kp)) rfl)).new (S := No) fun q hq hl => by omega
        have L7 := L6.num (vs := nts ((rp xs es0 p j).2.2.eraseIdx m)) ek6 kg kd n1 (ne_len (by rw [swp_len hv]; omega))
        refine ⟨⟨_, _, _, _, c6, rfl, ?_⟩, ?_, F7⟩
        · rw [en]; rw [ex] at L7; exact L7
        · rw [at_set ek6, en]
          show _ = some (OO.lst (nts (nxK _ _ _ es0[j] j _)))
          rw [show nxK xs (rp xs es0 p j).1 (rp xs es0 p j).2.1 es0[j] j (rp xs es0 p j).2.2 = _ from ekk]
  · have L5 := L.keep F5
    refine ⟨lenIs_at L5.dn rfl, ?_⟩
    subst es'
    have hE : (oiE d (ens es0).length).n = es0.length := ens_len
    rw [hE] at Lf ek
    have RJ := ri (p := p) nd I0.val lb0 es0.length (by omega)
    have kb : ∀ n ∈ (rp xs es0 p es0.length).2.2, n < 2000 := fun n hn => by
      have := rp_keep nd _ n hn
      omega
    size_fits
    refine ⟨_, _, _, rfl, L5.o, rfl, ?_⟩
    have edn := L5.dn
    refine ok_lenl edn ?_
    rw [ens_len]
    size_fits
    refine ⟨es0.length, rfl, by omega, ?_⟩
    refine lgo (I := fun j acc h7 => acc = nts ((List.range j).filter fun k => !decide (k ∈ (rp xs es0 p es0.length).2.2)) ∧ h7 = h5) (fun j acc h7 hj ⟨ea, eh⟩ => ⟨rfl, OV.int (0 + j), _, rfl, rfl, ?_⟩) (fun acc h7 ⟨ea, eh⟩ => ⟨rfl, ?_⟩) _ _ _ _ (by simp) ⟨rfl, rfl⟩
    · have hj : j < (es0.length : Int).toNat := hj
      have hj : j < es0.length := by omega
      subst eh
      rw [Int.zero_add]
      size_fits
      refine ok_nin (has_ints ek kb) ?_
      have gs := gone_step (xs := xs) (p := p) hj
      size_fits
      refine k_d (fun q => ?_) fun q => ?_
      · rw [if_pos q, List.append_nil] at gs
        exact ⟨by rw [ea, gs], rfl⟩
      · rw [if_neg q] at gs
        size_fits
        refine ⟨?_, by rw [ea, gs, ← ints_app]; rfl, rfl⟩
        have := List.length_filter_le (fun k => !decide (k ∈ (rp xs es0 p es0.length).2.2)) (List.range j)
        rw [List.length_range] at this
        rw [ea, ints_len, sz]; omega
    · subst eh
      intro go h8 e8 F8 l8
      have hE2 : (oiR 0 (es0.length : Int).toNat).n = es0.length := by show (es0.length : Int).toNat = _; omega
      rw [ea, hE2] at e8
      have L8 := L5.keep F8
      have Lf8 := Lf.keep F8
      size_fits
      refine ⟨_, _, _, rfl, Lf8.o, rfl, ?_⟩
      size_fits
      refine ⟨_, _, _, rfl, Lf8.o, rfl, ?_⟩
      size_fits
      refine ⟨by simp [sz], ?_⟩
      size_fits
      refine ok_gfld ?_
      size_fits
      refine ⟨_, _, rfl, L8.o, by simp, ?_⟩
      size_fits
      refine ok_gfld ?_
      size_fits
      have q5 := at_set (o := .ins "SwapLog" [("own_base", .ref b), ("current", .ref cf), ("done", .ref d)]) L8.o
      refine ⟨_, _, rfl, q5, by simp, ?_⟩
      size_fits
      obtain ⟨l, pp, b1, b2, b3⟩ := L8.B
      have two : ∀ {u : Nat} {o : OO}, h8[u]? = some o → (∀ fs, o ≠ .ins "SwapLog" fs) → ((h8.set g (.ins "SwapLog" [("own_base", .ref b), ("current", .ref cf), ("done", .ref d)])).set g (.ins "SwapLog" [("own_base", .ref b), ("current", .ref cf), ("done", .ref df)]))[u]? = some o := fun e n =>
        at_ne (ne_at e L8.o (n _)).symm (at_ne (ne_at e L8.o (n _)).symm e)
      have := F5.le
      refine ⟨go, cf, df, rfl, two e8 (fun _ q => nomatch q), ⟨at_set q5, two Lf8.cu (fun _ q => nomatch q), two Lf8.dn (fun _ q => nomatch q), l, pp, two b1 (fun _ q => by cases q), two b2 (fun _ q => nomatch q), two b3 (fun _ q => nomatch q)⟩, ?_, ldf, by omega, by have := lt_of Lf.dn; omega⟩
      exact (F5.trans F8).no.trans ((Fr.set (S := (· = g)) rfl).trans (Fr.set (S := (· = g)) rfl))
end
end Lw

set_option maxHeartbeats 4000000
namespace Lw
open PySem L2 O
local macro_rules | `(tactic| size_fits) => `(tactic| repeat' (first | (with_reducible refine ok_c ?_) | (with_reducible refine ok_op ?_) | (with_reducible refine ok_nil ?_) | (with_reducible refine ok_cons ?_) | (with_reducible refine ok_b ?_) | (with_reducible refine ok_call ?_) | (with_reducible refine ok_ix ?_) | (with_reducible refine ok_seq ?_) | (with_reducible refine ok_if ?_) | (with_reducible refine ok_set ?_) | (with_reducible refine ok_rt ?_) | (with_reducible refine ok_rtn ?_) | (with_reducible refine ok_ex ?_) | (with_reducible refine ok_nx ?_) | (with_reducible refine ok_asg ?_) | (with_reducible refine ok_par ?_) | (with_reducible refine ok_tb ?_) | (with_reducible refine ok_tt ?_) | (with_reducible refine ok_tn ?_) | (with_reducible refine ok_tor ?_) | (with_reducible refine ok_tand ?_) | (with_reducible refine ok_not ?_) | (with_reducible refine ok_ife ?_) | (with_reducible refine ok_chain ?_) | (with_reducible refine ok_sl ?_) | (with_reducible refine ok_part ?_) | (with_reducible refine ok_nopart ?_) | (with_reducible refine ok_bm ?_) | (with_reducible refine ok_bm0 ?_) | (with_reducible refine ok_lst ?_) | (with_reducible refine ok_tup ?_) | (with_reducible refine ok_dK ?_) | (with_reducible refine ok_fld ?_) | (with_reducible refine ok_dix ?_) | (with_reducible refine ok_isi ?_) | (with_reducible refine ok_meth ?_) | (with_reducible refine ok_make ?_) | (with_reducible refine ok_sfld ?_) | (with_reducible refine ok_rev ?_) | (with_reducible refine ok_gput ?_) | (with_reducible refine ok_gnm ?_) | (with_reducible refine ok_gsnil ?_) | (with_reducible refine ok_gscons ?_) | (with_reducible refine ok_and ?_) | (with_reducible refine ok_or ?_) | (with_reducible refine ok_iR1 ?_) | (with_reducible refine ok_iR2 ?_) | (with_reducible refine ok_iL ?_) | (with_reducible refine ok_iE ?_) | (with_reducible refine ok_lc ?_) | (with_reducible refine ok_dc ?_) | (with_reducible refine ok_for ?_) | (with_reducible refine ok_yes ?_) | (with_reducible refine k_fnx ?_) | (with_reducible refine k_fct ?_) | (with_reducible refine k_fbk ?_) | (with_reducible refine k_frt ?_) | (with_reducible refine k_nx ?_) | (with_reducible refine k_rt ?_) | (with_reducible refine k_bk ?_) | (with_reducible refine k_ct ?_) | (with_reducible refine k_drt ?_) | (with_reducible refine k_dnx ?_) | (with_reducible refine k_t ?_) | (with_reducible refine k_f ?_) | (with_reducible refine k_n ?_) | (with_reducible refine k_bl ?_) | (with_reducible refine k_tbl ?_) | (with_reducible refine ok_add ?_) | (with_reducible refine ok_sub ?_) | (with_reducible refine ok_lt ?_) | (with_reducible refine ok_le ?_) | (with_reducible refine ok_gt ?_) | (with_reducible refine ok_ge ?_) | (with_reducible refine ok_max ?_) | (with_reducible refine ok_min ?_) | (with_reducible refine ok_abs ?_) | (with_reducible refine ok_lenr ?_) | ((with_reducible apply ok_var); (· exact rfl)) | ((with_reducible apply ok_gtp); (· exact rfl)) | ((with_reducible refine ok_mod ?_ ?_); (· first | decide | omega)) | ((with_reducible refine ok_fdiv ?_ ?_ ?_); (· first | decide | omega); (· first | decide | omega)) | ((with_reducible apply ok_lenl); (· assumption)) | ((with_reducible apply ok_list); (· assumption))))
section
variable {h h' : OH} {g c d b r a i t s o e p : Nat} {xs ys zs : List Str} {es es' es0 : List En} {z : Str}
theorem StAt.num (S : StAt h s a o e xs ys es) {kp : Nat} {l : List Nat} {vs : List OV} (ek : h[kp]? = some (.lst (nts l))) (ne : kp ≠ e) (n1 : xs ≠ []) (n2 : ys ≠ []) : StAt (h.set kp (.lst vs)) s a o e xs ys es :=
  ⟨at_ne (ne_at S.d ek fun z => nomatch z).symm S.d, at_ne (ne_at S.it ek (nms_nts n1)).symm S.it, at_ne (ne_at S.od ek (nms_nts n2)).symm S.od, at_ne ne S.en⟩
theorem sp_replayed {e0 : Nat} (ea : h[a]? = some (.lst (nms xs))) (ee : h[e0]? = some (.lst (ens es0))) (I0 : LI xs ys es0) (lb0 : Labs es0) (nd : xs.Nodup) (hn : ∀ z ∈ xs, NameS z) (n1 : xs ≠ []) (lx : xs.length ≤ 40) :
    Ok (f__law_replayed [.ref a, .ref e0, .int p] h) (fun v h' => ∃ s o e go, v = .tup [.ref s, .ref go] ∧ StAt h' s a o e xs (rp xs es0 p es0.length).1 (rp xs es0 p es0.length).2.1 ∧ h'[go]? = some (.lst (nts (gone xs es0 p))) ∧ Fr No h h') := by
  have le := li_len I0 lx
  refine ok_d rfl ?_
  unfold m__law_replayed
  size_fits
  refine ⟨⟨rfl, rfl⟩, ?_⟩
  refine (sp_begun ea).mono fun v h1 ⟨s, o, e, ev, S, F1, ls, _⟩ => ?_
  subst ev
  size_fits
  refine ⟨by simp [sz], fun k h2 e2 F2 l2 => ?_⟩
  have e2 : h2[k]? = some (.lst (nts [])) := e2
  size_fits
  refine ⟨by simp [sz], ?_⟩
  size_fits
  have G2 := F1.trans F2
  have lk0 : h.length ≤ k := by have := F1.le; omega
  have ek0 : k ≠ e := by have := lt_of S.en; omega
  refine ⟨_, _, rfl, G2.keep _ _ id ee, ?_⟩
  refine fgo (I := fun j s1 h5 => (∃ k x y z w o e, s1 = [some (.ref a), some (.ref e0), some (.int p), some (.ref s), some (.ref k), x, y, z, w] ∧ StAt h5 s a o e xs (rp xs es0 p j).1 (rp xs es0 p j).2.1 ∧ h5[k]? = some (.lst (nts (rp xs es0 p j).2.2)) ∧ k ≠ e ∧ h.length ≤ k) ∧ Fr No h h5) (fun j s1 h5 hj ⟨⟨k, x, y, z, w, o, e, es', S, ek, ke, lk⟩, F5⟩ => ?_) (fun s1 h5 ⟨⟨k, x, y, z, w, o, e, es', S, ek, ke, lk⟩, F5⟩ => ?_) _ _ _ _ (by simp) ⟨⟨k, _, _, _, _, o, e, rfl, S.keep F2, e2, ek0, lk0⟩, G2⟩
  · have hj : j < (ens es0).length := hj
    rw [ens_len] at hj
    have ee5 := F5.keep _ _ id ee
    have RJ := ri (p := p) nd I0.val lb0 j (by omega)
    have OJ := RJ.I.O nd
    have hv : es0[j].1 + 1 < (rp xs es0 p j).1.length := by rw [OJ.len]; exact I0.val _ (List.getElem_mem hj)
    have leJ := li_len RJ.I lx
    have lkk := RJ.len
    refine ⟨lenIs_at ee5 rfl, .tup [.int j, env es0[j]], by show (itemL h5 e0 j).map _ = _; rw [itemL_at ee5, ens_at hj]; rfl, ?_⟩
    subst es'
    unfold env
    size_fits
    refine ok_neI2 ?_
    size_fits
    by_cases q : j = p
    · have qe : (((j : Nat) : Int) == ((p : Nat) : Int)) = true := by simp [q]
      rw [qe]
      size_fits
      refine ⟨⟨k, _, _, _, _, o, e, rfl, ?_, ?_, ke, lk⟩, F5⟩
      · rw [rp_skip hj q]; exact S
      · rw [rp_skip hj q]; exact ek
    · have qe : (((j : Nat) : Int) == ((p : Nat) : Int)) = false := by
        simp only [beq_eq_false_iff_ne]
        omega
      rw [qe]
      size_fits
      refine ⟨⟨rfl, rfl⟩, ?_⟩
      refine (sp_done (z := es0[j].2) S RJ.I RJ.lb nd hn lx hv).mono fun w h6 ⟨⟨o6, e6, es6, st, S6, l6⟩, F6⟩ => ?_
      have ek6 := F6.keep _ _ (ne_at ek S.d fun z => nomatch z) ek
      have G6 : Fr No h h6 := (F5.no.trans F6).new (S := No) fun q hq hl => by omega
      have ke6 : k ≠ e6 := by have := lt_of ek; omega
      have ex := st.nx
      have hv2 := st.val RJ.I nd hv
      have en := rp_step (xs := xs) hj q
      size_fits
      rcases st.nk j (rp xs es0 p j).2.2 with ⟨ew, ekk⟩ | ⟨n, ew, ekk⟩
      · subst ew
        refine ok_isN ?_
        refine k_bl ?_
        refine k_t ?_
        size_fits
        refine ⟨isT_l ek6, ?_⟩
        size_fits
        refine ok_append ek6 (by rw [ints_len, lkk, sz]; omega) ?_
        size_fits
        have F7 : Fr No h (h6.set k (.lst (nts (rp xs es0 p j).2.2 ++ [.int j]))) := (G6.no.trans (Fr.set (S := (· = k)) rfl)).new (S := No) fun q hq hl => by omega
        have S7 := S6.num (vs := nts (rp xs es0 p j).2.2 ++ [.int j]) ek6 ke6 n1 (ne_len (by rw [swp_len hv]; omega))
        refine ⟨⟨k, _, _, _, _, o6, e6, rfl, ?_, ?_, ke6, lk⟩, F7⟩
        · rw [en]; rw [ex] at S7; exact S7
        · rw [at_set ek6, en]
          show _ = some (OO.lst (nts (nxK _ _ _ es0[j] j _)))
          rw [show nxK xs (rp xs es0 p j).1 (rp xs es0 p j).2.1 es0[j] j (rp xs es0 p j).2.2 = _ from ekk, ← ints_app]; rfl
      · subst ew
        rcases hv2 with q3 | ⟨m, q3, q4, _⟩
        · cases q3
        have mn : m = n := by
          have := OV.int.inj q3
          omega
        subst mn
        refine ok_isN ?_
        refine k_bl ?_
        refine k_f ?_
        size_fits
        refine ⟨_, rfl, ?_⟩
        refine ok_slL ek6 fun r7 h7 e7 F7 l7 => ?_
        rw [cut_to (by rw [ints_len]; omega), nts_take] at e7
        size_fits
        refine ⟨_, rfl, ?_⟩
        refine ok_slL (F7.keep _ _ id ek6) fun r8 h8 e8 F8 l8 => ?_
        rw [show (m : Int) + 1 = ((m + 1 : Nat) : Int) by omega, cut_from (by rw [ints_len]; omega), nts_drop] at e8
        refine ok_addl (F8.keep _ _ id e7) e8 (by rw [ints_len, ints_len, List.length_take, List.length_drop, sz]; omega) fun r9 h9 e9 F9 l9 => ?_
        rw [ints_app, ← List.eraseIdx_eq_take_drop_succ] at e9
        size_fits
        have G9 := (F7.trans F8).trans F9
        have S9 := S6.keep G9
        have := (G6.trans F7).trans F8
        have := this.le
        have := lt_of ((F7.trans F8).keep _ _ id S6.en)
        refine ⟨⟨r9, _, _, _, _, o6, e6, rfl, ?_, ?_, by omega, by omega⟩, G6.trans G9⟩
        · rw [en]; rw [ex] at S9; exact S9
        · rw [e9, en]
          show _ = some (OO.lst (nts (nxK _ _ _ es0[j] j _)))
          rw [show nxK xs (rp xs es0 p j).1 (rp xs es0 p j).2.1 es0[j] j (rp xs es0 p j).2.2 = _ from ekk]
  · have ee5 := F5.keep _ _ id ee
    refine ⟨lenIs_at ee5 rfl, ?_⟩
    subst es'
    have hE : (oiE e0 (ens es0).length).n = es0.length := ens_len
    rw [hE] at S ek
    have RJ := ri (p := p) nd I0.val lb0 es0.length (by omega)
    have kb : ∀ n ∈ (rp xs es0 p es0.length).2.2, n < 2000 := fun n hn => by
      have := rp_keep nd _ n hn
      omega
    size_fits
    rw [ens_len]
    refine ⟨es0.length, rfl, by omega, ?_⟩
    refine lgo (I := fun j acc h7 => acc = nts ((List.range j).filter fun k => !decide (k ∈ (rp xs es0 p es0.length).2.2)) ∧ h7 = h5) (fun j acc h7 hj ⟨ea, eh⟩ => ⟨rfl, OV.int (0 + j), _, rfl, rfl, ?_⟩) (fun acc h7 ⟨ea, eh⟩ => ⟨rfl, ?_⟩) _ _ _ _ (by simp) ⟨rfl, rfl⟩
    · have hj : j < (es0.length : Int).toNat := hj
      have hj : j < es0.length := by omega
      subst eh
      rw [Int.zero_add]
      size_fits
      refine ok_nin (has_ints ek kb) ?_
      have gs := gone_step (xs := xs) (p := p) hj
      size_fits
      refine k_d (fun q => ?_) fun q => ?_
      · rw [if_pos q, List.append_nil] at gs
        exact ⟨by rw [ea, gs], rfl⟩
      · rw [if_neg q] at gs
        size_fits
        refine ⟨?_, by rw [ea, gs, ← ints_app]; rfl, rfl⟩
        have := List.length_filter_le (fun k => !decide (k ∈ (rp xs es0 p es0.length).2.2)) (List.range j)
        rw [List.length_range] at this
        rw [ea, ints_len, sz]; omega
    · subst eh
      intro go h8 e8 F8 l8
      have hE2 : (oiR 0 (es0.length : Int).toNat).n = es0.length := by show (es0.length : Int).toNat = _; omega
      rw [ea, hE2] at e8
      size_fits
      refine ⟨by simp [sz], ?_⟩
      size_fits
      exact ⟨s, o, e, go, rfl, S.keep F8, e8, F5.trans F8⟩
theorem toD_two {t o e : Nat} (et : h[t]? = some (.lst [.ref o, .ref e])) (eo : h[o]? = some (.lst (nms ys))) (ee : h[e]? = some (.lst (ens es))) : toD h 12 (.ref t) = some (.list [.list (ys.map .str), .list (es.map end_)]) := by
  rw [toD_l et, toDs2 (toD_strs (n := 9) eo) (toDs2 (toD_ens (n := 7) ee) rfl)]; rfl
theorem gd_two (I : LI xs ys es) (nd : xs.Nodup) (hn : ∀ z ∈ xs, NameS z) (lx : xs.length ≤ 40) (lb : Labs es) : Gd (.list [.list (ys.map .str), .list (es.map end_)]) 3 40000 := by
  have O := I.O nd
  have le := li_len I lx
  have ly := O.len
  have g1 := (Gd.names fun z hz => hn z (O.mem z hz)).mono (k' := 2) (w' := 360) (by decide) (by omega)
  have g2 := (Gd.ents (en_ok I.val lx lb)).mono (k' := 2) (w' := 30400) (by decide) (by omega)
  exact Gd.list (Gds.cons (b := 31000) g1 (Gds.cons (b := 0) g2 Gds.nil (by decide)) (by decide))
theorem sp_removed (R : Rg h r) (J : Jn h g c d b s a o e xs ys es) (nd : xs.Nodup) (hn : ∀ z ∈ xs, NameS z) (l2 : 2 ≤ xs.length) (lx : xs.length ≤ 40) :
    Ok (f__law_removed [.ref r, .ref g, .ref s] h) (fun v h' => v = .bl true ∧ Rg h' r ∧ ∃ c' d' o' e' ys' es', Jn h' g c' d' b s a o' e' xs ys' es') := by
  have O := J.I.O nd
  have ly := O.len
  have n1 : xs ≠ [] := ne_len (by omega)
  have le := li_len J.I lx
  refine ok_d rfl ?_
  unfold m__law_removed
  size_fits
  refine ⟨_, _, rfl, get_E J.S, ?_⟩
  size_fits
  have een := J.S.en
  refine ok_lenl een ?_
  rw [ens_len]
  size_fits
  refine ok_eqI ?_
  size_fits
  cases h0 : ((es.length : Int) == 0) with
  | true =>
    refine k_t ?_
    size_fits
    exact ⟨rfl, R, c, d, o, e, ys, es, J⟩
  | false =>
  have hl : 0 < es.length := by
    have : ¬ ((es.length : Int) = 0) := by simpa using h0
    omega
  refine k_f ?_
  size_fits
  refine ⟨⟨rfl, rfl⟩, ?_⟩
  refine (sp_draw R (by omega) (by omega)).mono fun v h1 ⟨k, ev, k0, k1, R1, F1⟩ => ?_
  subst ev
  size_fits
  refine ⟨by simp [sz], fun t h2 e2 F2 l2' => ?_⟩
  have R2 := R1.keep F2
  have nt : t ≠ r := by have := R1.lt; omega
  size_fits
  refine ⟨⟨rfl, rfl⟩, ?_⟩
  refine (sp_choice R2 e2 nt (by simp) (by simp)).mono fun v h3 ⟨hv, R3, F3⟩ => ?_
  have pv : ∃ p : Nat, v = .int p ∧ p < es.length := by
    simp only [List.mem_cons, List.not_mem_nil, or_false] at hv
    rcases hv with rfl | rfl | rfl
    · exact ⟨0, rfl, hl⟩
    · exact ⟨es.length - 1, by congr 1; omega, by omega⟩
    · exact ⟨k.toNat, by congr 1; omega, by omega⟩
  obtain ⟨p, rfl, hp⟩ := pv
  have L3 := ((J.L.keepR R F1).keep F2).keepR R2 F3
  have S3 := ((J.S.keepR R F1).keep F2).keepR R2 F3
  size_fits
  refine ⟨_, _, rfl, get_I S3, ?_⟩
  size_fits
  refine ⟨_, _, rfl, get_E S3, ?_⟩
  size_fits
  refine ⟨⟨rfl, rfl⟩, ?_⟩
  refine (sp_replayed (p := p) S3.it S3.en J.I J.lb nd hn n1 lx).mono fun v h4 ⟨s4, o4, e4, go, ev, S4, eg, F4⟩ => ?_
  subst ev
  have L4 := L3.keep F4
  have T4 := S3.keep F4
  have R4 := R3.keep F4
  have RJ := ri (p := p) nd J.I.val J.lb es.length (Nat.le_refl _)
  have leR := li_len RJ.I lx
  size_fits
  refine ⟨_, _, rfl, L4.o, rfl, ?_⟩
  size_fits
  refine ⟨⟨rfl, rfl⟩, ?_⟩
  refine (sp_clone L4).mono fun v h5 ⟨gc, cc, dc, ev, LC, F5, lgc, ldc⟩ => ?_
  subst ev
  have L5 := L4.keep F5
  size_fits
  refine ⟨_, _, rfl, L5.o, rfl, ?_⟩
  size_fits
  refine ⟨⟨rfl, rfl⟩, ?_⟩
  refine (sp_lorder L5).mono fun v h6 ⟨o6, ev, e6, F6, _⟩ => ?_
  subst ev
  have L6 := L5.keep F6
  size_fits
  refine ⟨_, _, rfl, L6.o, rfl, ?_⟩
  size_fits
  refine ⟨⟨rfl, rfl⟩, ?_⟩
  refine (sp_lentries L6).mono fun v h7 ⟨o7, ev, e7, F7, _⟩ => ?_
  subst ev
  size_fits
  refine ⟨by simp [sz], fun t8 h8 e8 F8 _ => ?_⟩
  have GT := gd_two J.I nd hn lx J.lb
  size_fits
  refine ok_reprG (toD_two e8 (F8.keep _ _ id (F7.keep _ _ id e6)) (F8.keep _ _ id e7)) GT (by decide) (by decide) ?_
  have G8 := (F6.trans F7).trans F8
  have L8 := L5.keep G8
  have LC8 := LC.keep G8
  have T8 := (T4.keep F5).keep G8
  have S8 := (S4.keep F5).keep G8
  have eg8 := G8.keep _ _ id (F5.keep _ _ id eg)
  have R8 := (R4.keep F5).keep G8
  size_fits
  refine ⟨_, _, rfl, ?_⟩
  size_fits
  refine ⟨_, _, rfl, L8.o, rfl, ?_⟩
  size_fits
  refine ⟨⟨rfl, rfl⟩, ?_⟩
  refine (sp_remove L8 J.I J.lb nd hn n1 lx hp).mono fun v h9 ⟨r9, c9, d9, ev, e9, L9, F9, ld9, lr9, rd9⟩ => ?_
  subst ev
  have ng : ∀ {u : Nat} {oo : OO}, h8[u]? = some oo → (∀ fs, oo ≠ .ins "SwapLog" fs) → u ≠ g := fun e n => ne_at e L8.o (n _)
  have eg9 := F9.keep _ _ (ng eg8 fun _ z => nomatch z) eg8
  have gg : gc ≠ g := by have := lt_of L4.o; omega
  have LC9 : LogAt h9 gc cc dc b xs ys es := by
    obtain ⟨l, pp, b1, b2, b3⟩ := LC8.B
    exact ⟨F9.keep _ _ gg LC8.o, F9.keep _ _ (ng LC8.cu fun _ z => nomatch z) LC8.cu, F9.keep _ _ (ng LC8.dn fun _ z => nomatch z) LC8.dn, l, pp, F9.keep _ _ (ng b1 fun _ z => by cases z) b1, F9.keep _ _ (ng b2 fun _ z => nomatch z) b2, F9.keep _ _ (ng b3 fun _ z => nomatch z) b3⟩
  have stk : ∀ {s o e : Nat} {ys : List Str} {es : List En}, StAt h8 s a o e xs ys es → StAt h9 s a o e xs ys es := fun S => ⟨F9.keep _ _ (ng S.d fun _ z => nomatch z) S.d, F9.keep _ _ (ng S.it fun _ z => nomatch z) S.it, F9.keep _ _ (ng S.od fun _ z => nomatch z) S.od, F9.keep _ _ (ng S.en fun _ z => nomatch z) S.en⟩
  have T9 := stk T8
  have S9 := stk S8
  have R9 : Rg h9 r := by
    obtain ⟨x, y, er⟩ := R8
    exact ⟨x, y, F9.keep _ _ (ng er fun _ z => nomatch z) er⟩
  have e49 : e4 ≠ d9 := by have := lt_of S8.en; omega
  have gb : ∀ n ∈ gone xs es p, n < 2000 := fun n hn => by
    have := List.mem_range.mp (List.mem_filter.mp hn).1
    omega
  have gl : (gone xs es p).length ≤ 1600 := by
    have := List.length_filter_le (fun k => !decide (k ∈ (rp xs es p es.length).2.2)) (List.range es.length)
    rw [List.length_range] at this
    unfold gone
    omega
  have GG := (Gd.list (gds_ints gb)).mono (k' := 1) (w' := 30000) (by decide) (by omega)
  size_fits
  refine ok_reprG (toD_ints (n := 10) e9) GG (by decide) (by decide) ?_
  size_fits
  refine ok_reprG (toD_ints (n := 10) eg9) GG (by decide) (by decide) ?_
  refine ok_neS ?_
  rw [beq_self_eq_true]
  size_fits
  refine ⟨_, _, rfl, LC9.o, rfl, ?_⟩
  size_fits
  refine ⟨⟨rfl, rfl⟩, ?_⟩
  refine (sp_lorder LC9).mono fun v h10 ⟨o10, ev, e10, F10, _⟩ => ?_
  subst ev
  have LC10 := LC9.keep F10
  size_fits
  refine ⟨_, _, rfl, LC10.o, rfl, ?_⟩
  size_fits
  refine ⟨⟨rfl, rfl⟩, ?_⟩
  refine (sp_lentries LC10).mono fun v h11 ⟨o11, ev, e11, F11, _⟩ => ?_
  subst ev
  size_fits
  refine ⟨by simp [sz], fun t12 h12 e12 F12 _ => ?_⟩
  size_fits
  refine ok_reprG (toD_two e12 (F12.keep _ _ id (F11.keep _ _ id e10)) (F12.keep _ _ id e11)) GT (by decide) (by decide) ?_
  size_fits
  refine ok_neS ?_
  rw [beq_self_eq_true]
  size_fits
  have G12 := (F10.trans F11).trans F12
  have er12 := G12.keep _ _ id e9
  refine ⟨isT_l er12, ?_⟩
  size_fits
  refine ok_append er12 (by rw [ints_len, sz]; omega) ?_
  have L12 := L9.keep G12
  have T12 := T9.keep G12
  have S12 := S9.keep G12
  have R12 := R9.keep G12
  have nR : (rp xs es p es.length).1 ≠ [] := ne_len (by have := (RJ.I.O nd).len; omega)
  have nY : ys ≠ [] := ne_len (by omega)
  have rg9 : r9 ≠ g := (ne_at L12.o er12 fun z => nomatch z).symm
  have re4 : r9 ≠ e4 := by have := lt_of S8.en; omega
  have re : r9 ≠ e := by have := lt_of T8.en; omega
  have L13 := L12.num (vs := nts (gone xs es p) ++ [.non]) er12 rg9 rd9 n1 nR
  have T13 := T12.num (vs := nts (gone xs es p) ++ [.non]) er12 re n1 nY
  have S13 := S12.num (vs := nts (gone xs es p) ++ [.non]) er12 re4 n1 nR
  have R13 : Rg (h12.set r9 (.lst (nts (gone xs es p) ++ [.non]))) r := by
    obtain ⟨x, y, er⟩ := R12
    have := R8.lt
    exact ⟨x, y, at_ne (by omega) er⟩
  generalize h12.set r9 (.lst (nts (gone xs es p) ++ [.non])) = h13 at L13 T13 S13 R13 ⊢
  size_fits
  refine ⟨_, _, rfl, get_O S13, ?_⟩
  size_fits
  refine ⟨_, _, rfl, get_E S13, ?_⟩
  size_fits
  refine ⟨by simp [sz], ?_⟩
  size_fits
  refine ⟨_, put_O T13.d, ?_⟩
  size_fits
  have d14 := at_set (o := .dK [(kI, .ref a), (kO, .ref o4), (kE, .ref e)]) T13.d
  refine ⟨_, put_E d14, ?_⟩
  have F15 : Fr (· = s) h13 ((h13.set s (.dK [(kI, .ref a), (kO, .ref o4), (kE, .ref e)])).set s (.dK [(kI, .ref a), (kO, .ref o4), (kE, .ref e4)])) := (Fr.set (S := (· = s)) rfl).trans (Fr.set (S := (· = s)) rfl)
  have L15 := L13.keepS T13.d F15 n1
  have R15 := rg_keepS R13 T13.d F15
  have d15 := at_set (o := .dK [(kI, .ref a), (kO, .ref o4), (kE, .ref e4)]) d14
  have S15 : StAt ((h13.set s (.dK [(kI, .ref a), (kO, .ref o4), (kE, .ref e)])).set s (.dK [(kI, .ref a), (kO, .ref o4), (kE, .ref e4)])) s a o4 e4 xs (rp xs es p es.length).1 (rp xs es p es.length).2.1 :=
    ⟨d15, F15.keep _ _ (ne_at S13.it T13.d fun z => nomatch z) S13.it, F15.keep _ _ (ne_at S13.od T13.d fun z => nomatch z) S13.od, F15.keep _ _ (ne_at S13.en T13.d fun z => nomatch z) S13.en⟩
  generalize (h13.set s (.dK [(kI, .ref a), (kO, .ref o4), (kE, .ref e)])).set s (.dK [(kI, .ref a), (kO, .ref o4), (kE, .ref e4)]) = h15 at L15 R15 S15 ⊢
  size_fits
  refine ⟨_, _, rfl, get_I S15, ?_⟩
  size_fits
  refine ⟨_, _, rfl, L15.o, rfl, ?_⟩
  size_fits
  refine ⟨⟨rfl, rfl⟩, ?_⟩
  refine (sp_lorder L15).mono fun v h16 ⟨o16, ev, e16, F16, _⟩ => ?_
  subst ev
  have S16 := S15.keep F16
  size_fits
  refine ⟨⟨rfl, rfl⟩, ?_⟩
  refine (sp_linv S16.it e16 (RJ.I.O nd) lx).mono fun v h17 ⟨o17, ev, e17, F17, _⟩ => ?_
  subst ev
  have L17 := (L15.keep F16).keep F17
  have S17 := S16.keep F17
  have R17 := (R15.keep F16).keep F17
  size_fits
  rw [prs_len]
  refine ok_lenI L17.o ((sp_llen L17).mono fun v18 h18 ⟨ev, e18⟩ => ⟨_, ev, by omega, ?_⟩)
  subst e18
  rw [RJ.I.cnt]
  refine ok_neI ?_
  rw [beq_self_eq_true]
  size_fits
  refine ⟨⟨rfl, rfl⟩, ?_⟩
  refine (sp_is L17 S17 RJ.I RJ.lb nd hn lx).mono fun v h19 ⟨ev, F19⟩ => ?_
  subst ev
  size_fits
  exact ⟨rfl, R17.keep F19, c9, d9, o4, e4, _, _, L17.keep F19, S17.keep F19, RJ.I, RJ.lb, e49⟩
end
end Lw

set_option maxHeartbeats 4000000
namespace Lw
open PySem L2 O
local macro_rules | `(tactic| size_fits) => `(tactic| repeat' (first | (with_reducible refine ok_c ?_) | (with_reducible refine ok_op ?_) | (with_reducible refine ok_nil ?_) | (with_reducible refine ok_cons ?_) | (with_reducible refine ok_b ?_) | (with_reducible refine ok_call ?_) | (with_reducible refine ok_ix ?_) | (with_reducible refine ok_seq ?_) | (with_reducible refine ok_if ?_) | (with_reducible refine ok_set ?_) | (with_reducible refine ok_rt ?_) | (with_reducible refine ok_rtn ?_) | (with_reducible refine ok_ex ?_) | (with_reducible refine ok_nx ?_) | (with_reducible refine ok_asg ?_) | (with_reducible refine ok_par ?_) | (with_reducible refine ok_tb ?_) | (with_reducible refine ok_tt ?_) | (with_reducible refine ok_tn ?_) | (with_reducible refine ok_tor ?_) | (with_reducible refine ok_tand ?_) | (with_reducible refine ok_not ?_) | (with_reducible refine ok_ife ?_) | (with_reducible refine ok_chain ?_) | (with_reducible refine ok_sl ?_) | (with_reducible refine ok_part ?_) | (with_reducible refine ok_nopart ?_) | (with_reducible refine ok_bm ?_) | (with_reducible refine ok_bm0 ?_) | (with_reducible refine ok_lst ?_) | (with_reducible refine ok_tup ?_) | (with_reducible refine ok_dK ?_) | (with_reducible refine ok_fld ?_) | (with_reducible refine ok_dix ?_) | (with_reducible refine ok_isi ?_) | (with_reducible refine ok_meth ?_) | (with_reducible refine ok_make ?_) | (with_reducible refine ok_sfld ?_) | (with_reducible refine ok_rev ?_) | (with_reducible refine ok_gput ?_) | (with_reducible refine ok_gnm ?_) | (with_reducible refine ok_gsnil ?_) | (with_reducible refine ok_gscons ?_) | (with_reducible refine ok_and ?_) | (with_reducible refine ok_or ?_) | (with_reducible refine ok_iR1 ?_) | (with_reducible refine ok_iR2 ?_) | (with_reducible refine ok_iL ?_) | (with_reducible refine ok_iE ?_) | (with_reducible refine ok_lc ?_) | (with_reducible refine ok_dc ?_) | (with_reducible refine ok_for ?_) | (with_reducible refine ok_yes ?_) | (with_reducible refine k_fnx ?_) | (with_reducible refine k_fct ?_) | (with_reducible refine k_fbk ?_) | (with_reducible refine k_frt ?_) | (with_reducible refine k_nx ?_) | (with_reducible refine k_rt ?_) | (with_reducible refine k_bk ?_) | (with_reducible refine k_ct ?_) | (with_reducible refine k_drt ?_) | (with_reducible refine k_dnx ?_) | (with_reducible refine k_t ?_) | (with_reducible refine k_f ?_) | (with_reducible refine k_n ?_) | (with_reducible refine k_bl ?_) | (with_reducible refine k_tbl ?_) | (with_reducible refine ok_add ?_) | (with_reducible refine ok_sub ?_) | (with_reducible refine ok_lt ?_) | (with_reducible refine ok_le ?_) | (with_reducible refine ok_gt ?_) | (with_reducible refine ok_ge ?_) | (with_reducible refine ok_max ?_) | (with_reducible refine ok_min ?_) | (with_reducible refine ok_abs ?_) | (with_reducible refine ok_lenr ?_) | ((with_reducible apply ok_var); (· exact rfl)) | ((with_reducible apply ok_gtp); (· exact rfl)) | ((with_reducible refine ok_mod ?_ ?_); (· first | decide | omega)) | ((with_reducible refine ok_fdiv ?_ ?_ ?_); (· first | decide | omega); (· first | decide | omega)) | ((with_reducible apply ok_lenl); (· assumption)) | ((with_reducible apply ok_list); (· assumption))))
theorem sp_right25 {h : OH} {r : Nat} (R : Rg h r) : Ok (f__law_right [.ref r] h) (fun v h' => v = .bl true) := by
  refine ok_d rfl ?_
  unfold m__law_right
  size_fits
  refine ⟨⟨rfl, rfl⟩, ?_⟩
  refine (sp_draw R (by decide) (by decide)).mono fun v h1 ⟨d1, ev, d1a, d1b, R1, F1⟩ => ?_
  subst ev
  size_fits
  refine ⟨by simp [sz], fun t h2 e2 F2 l2 => ?_⟩
  have R2 := R1.keep F2
  have nt : t ≠ r := by have := R1.lt; omega
  size_fits
  refine ⟨⟨rfl, rfl⟩, ?_⟩
  refine (sp_draw R2 (by decide) (by decide)).mono fun v h3 ⟨d2, ev, d2a, d2b, R3, F3⟩ => ?_
  subst ev
  size_fits
  refine z_ixA (R := fun x => ∃ n : Int, x = .int n ∧ 2 ≤ n ∧ n ≤ 12) (F3.keep _ _ nt e2) (by omega) (by simp; omega) (fun x hx => ?_) fun v ⟨n, ev, n1, n2⟩ => ?_
  · simp only [List.mem_cons, List.not_mem_nil, or_false] at hx
    rcases hx with rfl | rfl
    · exact ⟨_, rfl, by omega, by omega⟩
    · exact ⟨12, rfl, by decide, by decide⟩
  subst ev
  size_fits
  refine ⟨by simp [sz], fun u h4 e4 F4 l4 => ?_⟩
  have e4 : h4[u]? = some (.lst (nms [])) := e4
  size_fits
  refine ⟨⟨rfl, rfl⟩, ?_⟩
  refine (sp_names2 (R3.keep F4) e4 (by simp) (by omega) (by simp; omega)).mono fun v h5 ⟨a, xs, ev, ea, N, R5, F5, l5⟩ => ?_
  subst ev
  have lx := N.len
  have nx : xs ≠ [] := ne_len (by omega)
  size_fits
  refine ⟨⟨rfl, rfl⟩, fun b h6 e6 F6 l6 => ?_⟩
  refine (sp_base e6 (F6.keep _ _ id ea) N.nm N.nd (by omega) (by omega)).mono fun v h7 ⟨ev, F7, B⟩ => ⟨ev, ?_⟩
  have G7 : Fr No h5 h7 := (F6.no.trans F7).new (S := No) fun q hq hl => by omega
  have ea7 := G7.keep _ _ id ea
  have R7 := R5.keep G7
  size_fits
  refine ⟨⟨rfl, rfl⟩, fun g h8 e8 F8 l8 => ?_⟩
  refine (sp_loginit e8 (B.keep F8)).mono fun v h9 ⟨ev, F9, c, d, L, ld⟩ => ⟨ev, ?_⟩
  have G9 : Fr No h7 h9 := (F8.no.trans F9).new (S := No) fun q hq hl => by omega
  have ea9 := G9.keep _ _ id ea7
  have R9 := R7.keep G9
  size_fits
  refine ⟨⟨rfl, rfl⟩, ?_⟩
  refine (sp_begun ea9).mono fun v h10 ⟨s, o, e, ev, S, F10, ls, led⟩ => ?_
  subst ev
  have L10 := L.keep F10
  have R10 := R9.keep F10
  have ed : e ≠ d := by have := lt_of L.dn; omega
  size_fits
  refine ⟨_, _, rfl, ?_⟩
  have J10 : Jn h10 g c d b s a o e xs xs [] := ⟨L10, S, LI.nil N.nd, fun e he => (by cases he), ed⟩
  size_fits
  refine ⟨⟨rfl, rfl⟩, ?_⟩
  refine (sp_draw R10 (by decide) (by decide)).mono fun v h11 ⟨m, ev, m0, m1, R11, F11⟩ => ?_
  subst ev
  have J11 : Jn h11 g c d b s a o e xs xs [] := ⟨L10.keepR R10 F11, S.keepR R10 F11, LI.nil N.nd, fun e he => (by cases he), ed⟩
  size_fits
  refine ⟨m, rfl, by omega, ?_⟩
  refine fgo (I := fun i s1 hh => (∃ x y, s1 = [some (.ref r), some (.ref a), some (.ref g), some (.ref s), x, y]) ∧ Rg hh r ∧ ∃ c d o e ys es, Jn hh g c d b s a o e xs ys es) (fun i s1 hh hi ⟨⟨x, y, es'⟩, R, c, d, o, e, ys, es, J⟩ => ?_) (fun s1 hh ⟨⟨x, y, es'⟩, R, c, d, o, e, ys, es, J⟩ => ?_) _ _ _ _ (by simp) ⟨⟨_, _, rfl⟩, R11, c, d, o, e, xs, [], J11⟩
  · refine ⟨rfl, OV.int (0 + i), rfl, ?_⟩
    subst es'
    size_fits
    refine ⟨⟨rfl, rfl⟩, ?_⟩
    refine (sp_swapped2 R J N.nd N.nm (by omega) (by omega)).mono fun v h4 ⟨ev, R4, c4, o4, e4, ys4, es4, J4⟩ => ?_
    subst ev
    size_fits
    exact ⟨⟨_, _, rfl⟩, R4, c4, d, o4, e4, ys4, es4, J4⟩
  · refine ⟨rfl, ?_⟩
    subst es'
    size_fits
    refine ⟨⟨rfl, rfl⟩, ?_⟩
    refine (sp_draw R (by decide) (by decide)).mono fun v h12 ⟨m2, ev, m20, m21, R12, F12⟩ => ?_
    subst ev
    have J12 : Jn h12 g c d b s a o e xs ys es := ⟨J.L.keepR R F12, J.S.keepR R F12, J.I, J.lb, J.ed⟩
    size_fits
    refine ⟨m2, rfl, by omega, ?_⟩
    refine fgo (I := fun i s1 hh => (∃ x y, s1 = [some (.ref r), some (.ref a), some (.ref g), some (.ref s), x, y]) ∧ Rg hh r ∧ ∃ c d o e ys es, Jn hh g c d b s a o e xs ys es) (fun i s1 hh hi ⟨⟨x, y, es'⟩, R, c, d, o, e, ys, es, J⟩ => ?_) (fun s1 hh ⟨⟨x, y, es'⟩, R, c, d, o, e, ys, es, J⟩ => ?_) _ _ _ _ (by simp) ⟨⟨_, _, rfl⟩, R12, c, d, o, e, ys, es, J12⟩
    · refine ⟨rfl, OV.int (0 + i), rfl, ?_⟩
      subst es'
      size_fits
      refine ⟨⟨rfl, rfl⟩, ?_⟩
      refine (sp_is J.L J.S J.I J.lb N.nd N.nm (by omega)).mono fun v h4 ⟨ev, F4⟩ => ?_
      subst ev
      have J4 : Jn h4 g c d b s a o e xs ys es := ⟨J.L.keep F4, J.S.keep F4, J.I, J.lb, J.ed⟩
      size_fits
      refine ⟨⟨rfl, rfl⟩, ?_⟩
      refine (sp_removed (R.keep F4) J4 N.nd N.nm (by omega) (by omega)).mono fun v h5 ⟨ev, R5, c5, d5, o5, e5, ys5, es5, J5⟩ => ?_
      subst ev
      size_fits
      refine ⟨⟨rfl, rfl⟩, ?_⟩
      refine (sp_draw R5 (by decide) (by decide)).mono fun v h6 ⟨m3, ev, m30, m31, R6, F6⟩ => ?_
      subst ev
      have J6 : Jn h6 g c5 d5 b s a o5 e5 xs ys5 es5 := ⟨J5.L.keepR R5 F6, J5.S.keepR R5 F6, J5.I, J5.lb, J5.ed⟩
      size_fits
      refine ⟨m3, rfl, by omega, ?_⟩
      refine fgo (I := fun i s1 hh => (∃ x y, s1 = [some (.ref r), some (.ref a), some (.ref g), some (.ref s), x, y]) ∧ Rg hh r ∧ ∃ c d o e ys es, Jn hh g c d b s a o e xs ys es) (fun i s1 hh hi ⟨⟨x, y, es'⟩, R, c, d, o, e, ys, es, J⟩ => ?_) (fun s1 hh ⟨⟨x, y, es'⟩, R, c, d, o, e, ys, es, J⟩ => ?_) _ _ _ _ (by simp) ⟨⟨_, _, rfl⟩, R6, c5, d5, o5, e5, ys5, es5, J6⟩
      · refine ⟨rfl, OV.int (0 + i), rfl, ?_⟩
        subst es'
        size_fits
        refine ⟨⟨rfl, rfl⟩, ?_⟩
        refine (sp_swapped2 R J N.nd N.nm (by omega) (by omega)).mono fun v h4 ⟨ev, R4, c4, o4, e4, ys4, es4, J4⟩ => ?_
        subst ev
        size_fits
        exact ⟨⟨_, _, rfl⟩, R4, c4, d, o4, e4, ys4, es4, J4⟩
      · refine ⟨rfl, ?_⟩
        subst es'
        size_fits
        exact ⟨⟨_, _, rfl⟩, R, c, d, o, e, ys, es, J⟩
    · refine ⟨rfl, ?_⟩
      subst es'
      size_fits
      refine ⟨⟨rfl, rfl⟩, ?_⟩
      refine (sp_is J.L J.S J.I J.lb N.nd N.nm (by omega)).mono fun v h4 ⟨ev, F4⟩ => ?_
      subst ev
      size_fits
      rfl
theorem law_true : ∀ ns : List Int, ns.length ≤ 63 → ∃ h', f_law [.rol (ns.map OV.int)] [] = some (.bl true, h') := by
  intro ns hns
  have main : Ok (f_law [.rol (ns.map OV.int)] []) fun v h' => v = .bl true := by
    refine ok_d rfl ?_
    unfold m_law
    size_fits
    refine ⟨_, rfl, ?_, ?_⟩
    · rw [List.length_map]
      split <;> split <;> omega
    refine lgo (I := fun i acc h' => acc = List.replicate i (.bl true)) (fun i acc h' hi e1 => ⟨rfl, OV.int (0 + i), _, rfl, rfl, ?_⟩) (fun acc h' e1 => ⟨rfl, ?_⟩) _ _ _ _ (by simp) rfl
    · have hi : i < 3 := by
        have hi : i < (if (if (3 : Int) < ((ns.map OV.int).length : Int) then (3 : Int) else ((ns.map OV.int).length : Int)) > 1 then (if (3 : Int) < ((ns.map OV.int).length : Int) then (3 : Int) else ((ns.map OV.int).length : Int)) else 1).toNat := hi
        split at hi <;> split at hi <;> omega
      size_fits
      refine ⟨⟨rfl, rfl⟩, ?_⟩
      rw [Int.zero_add]
      refine (sp_rng (by omega)).mono fun v h1 ⟨r, ev, R, F, l⟩ => ?_
      subst ev
      size_fits
      refine ⟨⟨rfl, rfl⟩, ?_⟩
      refine (sp_right25 R).mono fun v h2 ev => ?_
      subst ev
      refine ⟨?_, ?_⟩
      · rw [e1, List.length_replicate, sz]; omega
      · rw [e1, List.replicate_succ']
    · intro c h15 e15 F15 l15
      rw [e1] at e15
      size_fits
      refine ok_all e15 ?_
      size_fits
      rfl
  obtain ⟨v, h', e, rfl⟩ := main.ex
  exact ⟨h', e⟩
end Lw

set_option maxHeartbeats 0
namespace Lw
open PySem PySem.Spec PyProof.Rows L2 O
def top (i : Nat) : Stmt := PySem.Challenge.pw_ordermerge_k25_whole_entries_removed.main.body.getD i (.Pass ⟨0, 0, 0, 0⟩)
def d_Base_names : He.DefD := ⟨("Base", some "names"), "names", "Base.names", defArgs (inClass (top 14) 1), defBody (inClass (top 14) 1), defScope (inClass (top 14) 1), [], []⟩
def d_SwapLog_base : He.DefD := ⟨("SwapLog", some "base"), "base", "SwapLog.base", defArgs (inClass (top 24) 1), defBody (inClass (top 24) 1), defScope (inClass (top 24) 1), [], []⟩
def d_SwapLog___len__ : He.DefD := ⟨("SwapLog", some "__len__"), "__len__", "SwapLog.__len__", defArgs (inClass (top 24) 18), defBody (inClass (top 24) 18), defScope (inClass (top 24) 18), [], []⟩
def d_SwapLog_entries : He.DefD := ⟨("SwapLog", some "entries"), "entries", "SwapLog.entries", defArgs (inClass (top 24) 3), defBody (inClass (top 24) 3), defScope (inClass (top 24) 3), [], []⟩
def d_SwapLog_order : He.DefD := ⟨("SwapLog", some "order"), "order", "SwapLog.order", defArgs (inClass (top 24) 2), defBody (inClass (top 24) 2), defScope (inClass (top 24) 2), [], []⟩
def d__law_is : He.DefD := ⟨("_law_is", none), "_law_is", "_law_is", defArgs (top 37), defBody (top 37), defScope (top 37), [], []⟩
def d__law_draw : He.DefD := ⟨("_law_draw", none), "_law_draw", "_law_draw", defArgs (top 27), defBody (top 27), defScope (top 27), [], []⟩
def d_exchange : He.DefD := ⟨("exchange", none), "exchange", "exchange", defArgs (top 19), defBody (top 19), defScope (top 19), [], []⟩
def d_SwapLog_entry_pairs : He.DefD := ⟨("SwapLog", some "entry_pairs"), "entry_pairs", "SwapLog.entry_pairs", defArgs (inClass (top 24) 4), defBody (inClass (top 24) 4), defScope (inClass (top 24) 4), [], []⟩
def d_Base_has_item : He.DefD := ⟨("Base", some "has_item"), "has_item", "Base.has_item", defArgs (inClass (top 14) 2), defBody (inClass (top 14) 2), defScope (inClass (top 14) 2), [], []⟩
def d_require_item : He.DefD := ⟨("require_item", none), "require_item", "require_item", defArgs (top 15), defBody (top 15), defScope (top 15), [], []⟩
def d_Base_position_of : He.DefD := ⟨("Base", some "position_of"), "position_of", "Base.position_of", defArgs (inClass (top 14) 3), defBody (inClass (top 14) 3), defScope (inClass (top 14) 3), [], []⟩
def d_Base_precedes : He.DefD := ⟨("Base", some "precedes"), "precedes", "Base.precedes", defArgs (inClass (top 14) 4), defBody (inClass (top 14) 4), defScope (inClass (top 14) 4), [], []⟩
def d_is_upright : He.DefD := ⟨("is_upright", none), "is_upright", "is_upright", defArgs (top 20), defBody (top 20), defScope (top 20), [], []⟩
def d_SwapLog_apply_swap : He.DefD := ⟨("SwapLog", some "apply_swap"), "apply_swap", "SwapLog.apply_swap", defArgs (inClass (top 24) 5), defBody (inClass (top 24) 5), defScope (inClass (top 24) 5), [], []⟩
def d_is_name : He.DefD := ⟨("is_name", none), "is_name", "is_name", defArgs (top 12), defBody (top 12), defScope (top 12), [], []⟩
def d_require_reason : He.DefD := ⟨("require_reason", none), "require_reason", "require_reason", defArgs (top 23), defBody (top 23), defScope (top 23), [], []⟩
def d_is_integer : He.DefD := ⟨("is_integer", none), "is_integer", "is_integer", defArgs (top 17), defBody (top 17), defScope (top 17), [], []⟩
def d_Base___len__ : He.DefD := ⟨("Base", some "__len__"), "__len__", "Base.__len__", defArgs (inClass (top 14) 6), defBody (inClass (top 14) 6), defScope (inClass (top 14) 6), [], []⟩
def d_require_index : He.DefD := ⟨("require_index", none), "require_index", "require_index", defArgs (top 18), defBody (top 18), defScope (top 18), [], []⟩
def d_SwapLog_swap : He.DefD := ⟨("SwapLog", some "swap"), "swap", "SwapLog.swap", defArgs (inClass (top 24) 7), defBody (inClass (top 24) 7), defScope (inClass (top 24) 7), [], [("reason", .str (PySem.Str.ofString ""))]⟩
def d__law_swapped_entries : He.DefD := ⟨("_law_swapped_entries", none), "_law_swapped_entries", "_law_swapped_entries", defArgs (top 32), defBody (top 32), defScope (top 32), [], []⟩
def d__law_swap_done : He.DefD := ⟨("_law_swap_done", none), "_law_swap_done", "_law_swap_done", defArgs (top 34), defBody (top 34), defScope (top 34), [], []⟩
def d__law_choice : He.DefD := ⟨("_law_choice", none), "_law_choice", "_law_choice", defArgs (top 28), defBody (top 28), defScope (top 28), [], []⟩
def d__law_name : He.DefD := ⟨("_law_name", none), "_law_name", "_law_name", defArgs (top 29), defBody (top 29), defScope (top 29), [], []⟩
def d__law_label : He.DefD := ⟨("_law_label", none), "_law_label", "_law_label", defArgs (top 35), defBody (top 35), defScope (top 35), [], []⟩
def d__law_swapped : He.DefD := ⟨("_law_swapped", none), "_law_swapped", "_law_swapped", defArgs (top 36), defBody (top 36), defScope (top 36), [], []⟩
def d__law_inverted : He.DefD := ⟨("_law_inverted", none), "_law_inverted", "_law_inverted", defArgs (top 31), defBody (top 31), defScope (top 31), [], []⟩
def d_SwapLog___init__ : He.DefD := ⟨("SwapLog", some "__init__"), "__init__", "SwapLog.__init__", defArgs (inClass (top 24) 0), defBody (inClass (top 24) 0), defScope (inClass (top 24) 0), [], []⟩
def d_SwapLog_require_position : He.DefD := ⟨("SwapLog", some "require_position"), "require_position", "SwapLog.require_position", defArgs (inClass (top 24) 10), defBody (inClass (top 24) 10), defScope (inClass (top 24) 10), [], []⟩
def d_SwapLog_remove_entry : He.DefD := ⟨("SwapLog", some "remove_entry"), "remove_entry", "SwapLog.remove_entry", defArgs (inClass (top 24) 11), defBody (inClass (top 24) 11), defScope (inClass (top 24) 11), [], []⟩
def d_SwapLog_clone : He.DefD := ⟨("SwapLog", some "clone"), "clone", "SwapLog.clone", defArgs (inClass (top 24) 16), defBody (inClass (top 24) 16), defScope (inClass (top 24) 16), [], []⟩
def d__law_begun : He.DefD := ⟨("_law_begun", none), "_law_begun", "_law_begun", defArgs (top 33), defBody (top 33), defScope (top 33), [], []⟩
def d__law_replayed : He.DefD := ⟨("_law_replayed", none), "_law_replayed", "_law_replayed", defArgs (top 38), defBody (top 38), defScope (top 38), [], []⟩
def d__law_removed : He.DefD := ⟨("_law_removed", none), "_law_removed", "_law_removed", defArgs (top 39), defBody (top 39), defScope (top 39), [], []⟩
def d_check_items : He.DefD := ⟨("check_items", none), "check_items", "check_items", defArgs (top 13), defBody (top 13), defScope (top 13), [], []⟩
def d_Base___init__ : He.DefD := ⟨("Base", some "__init__"), "__init__", "Base.__init__", defArgs (inClass (top 14) 0), defBody (inClass (top 14) 0), defScope (inClass (top 14) 0), [], []⟩
def d__law_names : He.DefD := ⟨("_law_names", none), "_law_names", "_law_names", defArgs (top 30), defBody (top 30), defScope (top 30), [], []⟩
def d__law_right : He.DefD := ⟨("_law_right", none), "_law_right", "_law_right", defArgs (top 40), defBody (top 40), defScope (top 40), [], []⟩
def d__law_rng : He.DefD := ⟨("_law_rng", none), "_law_rng", "_law_rng", defArgs (top 26), defBody (top 26), defScope (top 26), [], []⟩
def d_law : He.DefD := ⟨("law", none), "law", "law", defArgs (top 41), defBody (top 41), defScope (top 41), [], []⟩
def fn : List He.DefD := [d_Base_names, d_SwapLog_base, d_SwapLog___len__, d_SwapLog_entries, d_SwapLog_order, d__law_is, d__law_draw, d_exchange, d_SwapLog_entry_pairs, d_Base_has_item, d_require_item, d_Base_position_of, d_Base_precedes, d_is_upright, d_SwapLog_apply_swap, d_is_name, d_require_reason, d_is_integer, d_Base___len__, d_require_index, d_SwapLog_swap, d__law_swapped_entries, d__law_swap_done, d__law_choice, d__law_name, d__law_label, d__law_swapped, d__law_inverted, d_SwapLog___init__, d_SwapLog_require_position, d_SwapLog_remove_entry, d_SwapLog_clone, d__law_begun, d__law_replayed, d__law_removed, d_check_items, d_Base___init__, d__law_names, d__law_right, d__law_rng, d_law]
def fa : List He.Fa := [.free "all", .free "range", .free "max", .free "min", .free "len", .free "repr", .free "list", .cls "Base", .noat "Base" "item_list", .cls "SwapLog", .noat "SwapLog" "own_base", .meth "SwapLog" "base", .meth "Base" "names", .noat "SwapLog" "done", .meth "SwapLog" "__len__", .meth "SwapLog" "entries", .noat "SwapLog" "current", .meth "SwapLog" "order", .glo "_law_is", .free "divmod", .glo "_law_draw", .glo "exchange", .meth "SwapLog" "entry_pairs", .noat "Base" "places", .free "isinstance", .free "str", .meth "Base" "has_item", .glo "require_item", .meth "Base" "position_of", .meth "Base" "precedes", .glo "is_upright", .meth "SwapLog" "apply_swap", .str "LETTERS" "abcdefghijklmnopqrstuvwxyz", .int "MAX_LETTERS" 8, .glo "is_name", .str "NO_REASON" "", .glo "require_reason", .free "int", .free "bool", .glo "is_integer", .meth "Base" "__len__", .glo "require_index", .meth "SwapLog" "swap", .free "enumerate", .glo "_law_swapped_entries", .glo "_law_swap_done", .glo "_law_name", .glo "_law_choice", .glo "_law_label", .glo "_law_swapped", .free "dict", .glo "_law_inverted", .mkr "SwapLog", .glo "SwapLog", .meth "SwapLog" "require_position", .meth "SwapLog" "remove_entry", .meth "SwapLog" "clone", .glo "_law_begun", .glo "_law_replayed", .glo "_law_removed", .int "MAX_ITEMS" 40, .glo "check_items", .mkr "Base", .glo "Base", .glo "_law_names", .free "abs", .glo "_law_rng", .glo "_law_right", .glo "law"]
section
variable {P : Program} {w : World} {K : PySem.W.Frag} {mg : Str → Option Value} {base : Heap} {fd : FuncData}
abbrev D_Base_names (K : PySem.W.Frag) (fd : FuncData) : Prop := FunD K d_Base_names.name d_Base_names.qual d_Base_names.params d_Base_names.body d_Base_names.scope (d_Base_names.dvs K) (d_Base_names.kws K) (He.fAd K d_Base_names.at_) fd
theorem bs_Base_names (D : D_Base_names K fd) (s : Shared) (us : List Value) (h : us.length = (["self"] : List Str).length) : BindsTo s fd ⟨us, []⟩ ((["self"] : List Str).zip us) := FunD.bindsA (ps := (["self"] : List Str)) D (fun _ _ _ _ _ _ us hl => match us, hl with | [_], _ => rfl) s us h
theorem sc_Base_names : FnScope (["self"] : List Str) (["self"] : List Str) d_Base_names.scope := ⟨by kernel_rfl, by kernel_rfl, by kernel_rfl, by decide +kernel, by kernel_rfl, by decide +kernel, by decide +kernel⟩
theorem k_Base_names (F : Ft fa fn K mg) (D : D_Base_names K fd) : FnG P w K mg base 1 (He.fAd K d_Base_names.at_) fd (["self"] : List Str) f_Base_names := by
  refine fn_g D sc_Base_names fun cdv A outer s H b => ?_
  exact r_one (r_rt (s_ty c_list (gl (by kernel_rfl)) (F.free 6) (by decide +kernel) (s_cons (s_fld (s_var (pe_var (i := 0) (by rfl) (.inl (by kernel_rfl)))) (F.cls 7) (F.noat 8)) (s_nil))))
abbrev D_SwapLog_base (K : PySem.W.Frag) (fd : FuncData) : Prop := FunD K d_SwapLog_base.name d_SwapLog_base.qual d_SwapLog_base.params d_SwapLog_base.body d_SwapLog_base.scope (d_SwapLog_base.dvs K) (d_SwapLog_base.kws K) (He.fAd K d_SwapLog_base.at_) fd
theorem bs_SwapLog_base (D : D_SwapLog_base K fd) (s : Shared) (us : List Value) (h : us.length = (["self"] : List Str).length) : BindsTo s fd ⟨us, []⟩ ((["self"] : List Str).zip us) := FunD.bindsA (ps := (["self"] : List Str)) D (fun _ _ _ _ _ _ us hl => match us, hl with | [_], _ => rfl) s us h
theorem sc_SwapLog_base : FnScope (["self"] : List Str) (["self"] : List Str) d_SwapLog_base.scope := ⟨by kernel_rfl, by kernel_rfl, by kernel_rfl, by decide +kernel, by kernel_rfl, by decide +kernel, by decide +kernel⟩
theorem k_SwapLog_base (F : Ft fa fn K mg) (D : D_SwapLog_base K fd) : FnG P w K mg base 1 (He.fAd K d_SwapLog_base.at_) fd (["self"] : List Str) f_SwapLog_base := by
  refine fn_g D sc_SwapLog_base fun cdv A outer s H b => ?_
  exact r_one (r_rt (s_fld (s_var (pe_var (i := 0) (by rfl) (.inl (by kernel_rfl)))) (F.cls 9) (F.noat 10)))
abbrev D_SwapLog___len__ (K : PySem.W.Frag) (fd : FuncData) : Prop := FunD K d_SwapLog___len__.name d_SwapLog___len__.qual d_SwapLog___len__.params d_SwapLog___len__.body d_SwapLog___len__.scope (d_SwapLog___len__.dvs K) (d_SwapLog___len__.kws K) (He.fAd K d_SwapLog___len__.at_) fd
theorem bs_SwapLog___len__ (D : D_SwapLog___len__ K fd) (s : Shared) (us : List Value) (h : us.length = (["self"] : List Str).length) : BindsTo s fd ⟨us, []⟩ ((["self"] : List Str).zip us) := FunD.bindsA (ps := (["self"] : List Str)) D (fun _ _ _ _ _ _ us hl => match us, hl with | [_], _ => rfl) s us h
theorem sc_SwapLog___len__ : FnScope (["self"] : List Str) (["self"] : List Str) d_SwapLog___len__.scope := ⟨by kernel_rfl, by kernel_rfl, by kernel_rfl, by decide +kernel, by kernel_rfl, by decide +kernel, by decide +kernel⟩
theorem k_SwapLog___len__ (F : Ft fa fn K mg) (D : D_SwapLog___len__ K fd) : FnG P w K mg base 1 (He.fAd K d_SwapLog___len__.at_) fd (["self"] : List Str) f_SwapLog___len__ := by
  refine fn_g D sc_SwapLog___len__ fun cdv A outer s H b => ?_
  exact r_one (r_rt (s_b c_len (gl (by kernel_rfl)) (F.free 4) (by decide +kernel) (s_cons (s_fld (s_var (pe_var (i := 0) (by rfl) (.inl (by kernel_rfl)))) (F.cls 9) (F.noat 13)) (s_nil))))
abbrev D_SwapLog_entries (K : PySem.W.Frag) (fd : FuncData) : Prop := FunD K d_SwapLog_entries.name d_SwapLog_entries.qual d_SwapLog_entries.params d_SwapLog_entries.body d_SwapLog_entries.scope (d_SwapLog_entries.dvs K) (d_SwapLog_entries.kws K) (He.fAd K d_SwapLog_entries.at_) fd
theorem bs_SwapLog_entries (D : D_SwapLog_entries K fd) (s : Shared) (us : List Value) (h : us.length = (["self"] : List Str).length) : BindsTo s fd ⟨us, []⟩ ((["self"] : List Str).zip us) := FunD.bindsA (ps := (["self"] : List Str)) D (fun _ _ _ _ _ _ us hl => match us, hl with | [_], _ => rfl) s us h
theorem sc_SwapLog_entries : FnScope (["self"] : List Str) (["self"] : List Str) d_SwapLog_entries.scope := ⟨by kernel_rfl, by kernel_rfl, by kernel_rfl, by decide +kernel, by kernel_rfl, by decide +kernel, by decide +kernel⟩
theorem k_SwapLog_entries (F : Ft fa fn K mg) (D : D_SwapLog_entries K fd) : FnG P w K mg base 1 (He.fAd K d_SwapLog_entries.at_) fd (["self"] : List Str) f_SwapLog_entries := by
  refine fn_g D sc_SwapLog_entries fun cdv A outer s H b => ?_
  exact r_one (r_rt (s_ty c_list (gl (by kernel_rfl)) (F.free 6) (by decide +kernel) (s_cons (s_fld (s_var (pe_var (i := 0) (by rfl) (.inl (by kernel_rfl)))) (F.cls 9) (F.noat 13)) (s_nil))))
abbrev D_SwapLog_order (K : PySem.W.Frag) (fd : FuncData) : Prop := FunD K d_SwapLog_order.name d_SwapLog_order.qual d_SwapLog_order.params d_SwapLog_order.body d_SwapLog_order.scope (d_SwapLog_order.dvs K) (d_SwapLog_order.kws K) (He.fAd K d_SwapLog_order.at_) fd
theorem bs_SwapLog_order (D : D_SwapLog_order K fd) (s : Shared) (us : List Value) (h : us.length = (["self"] : List Str).length) : BindsTo s fd ⟨us, []⟩ ((["self"] : List Str).zip us) := FunD.bindsA (ps := (["self"] : List Str)) D (fun _ _ _ _ _ _ us hl => match us, hl with | [_], _ => rfl) s us h
theorem sc_SwapLog_order : FnScope (["self"] : List Str) (["self"] : List Str) d_SwapLog_order.scope := ⟨by kernel_rfl, by kernel_rfl, by kernel_rfl, by decide +kernel, by kernel_rfl, by decide +kernel, by decide +kernel⟩
theorem k_SwapLog_order (F : Ft fa fn K mg) (D : D_SwapLog_order K fd) : FnG P w K mg base 1 (He.fAd K d_SwapLog_order.at_) fd (["self"] : List Str) f_SwapLog_order := by
  refine fn_g D sc_SwapLog_order fun cdv A outer s H b => ?_
  exact r_one (r_rt (s_ty c_list (gl (by kernel_rfl)) (F.free 6) (by decide +kernel) (s_cons (s_fld (s_var (pe_var (i := 0) (by rfl) (.inl (by kernel_rfl)))) (F.cls 9) (F.noat 16)) (s_nil))))
abbrev D__law_is (K : PySem.W.Frag) (fd : FuncData) : Prop := FunD K d__law_is.name d__law_is.qual d__law_is.params d__law_is.body d__law_is.scope (d__law_is.dvs K) (d__law_is.kws K) (He.fAd K d__law_is.at_) fd
theorem bs__law_is (D : D__law_is K fd) (s : Shared) (us : List Value) (h : us.length = (["_law_log", "_law_state"] : List Str).length) : BindsTo s fd ⟨us, []⟩ ((["_law_log", "_law_state"] : List Str).zip us) := FunD.bindsA (ps := (["_law_log", "_law_state"] : List Str)) D (fun _ _ _ _ _ _ us hl => match us, hl with | [_, _], _ => rfl) s us h
theorem sc__law_is : FnScope (["_law_log", "_law_state", "_law_told"] : List Str) (["_law_log", "_law_state"] : List Str) d__law_is.scope := ⟨by kernel_rfl, by kernel_rfl, by kernel_rfl, by decide +kernel, by kernel_rfl, by decide +kernel, by decide +kernel⟩
theorem k__law_is (F : Ft fa fn K mg) (D : D__law_is K fd) : FnG P w K mg base 3 (He.fAd K d__law_is.at_) fd (["_law_log", "_law_state"] : List Str) f__law_is := by
  refine fn_g D sc__law_is fun cdv A outer s H b => ?_
  obtain ⟨fd_Base_names, P_Base_names⟩ := F.says.def_ 0 (d := d_Base_names) rfl
  have K_Base_names := k_Base_names (P := P) (w := w) (base := base) F P_Base_names
  have B_Base_names := bdP (K := K) rfl (bs_Base_names P_Base_names)
  obtain ⟨fd_SwapLog_base, P_SwapLog_base⟩ := F.says.def_ 1 (d := d_SwapLog_base) rfl
  have K_SwapLog_base := k_SwapLog_base (P := P) (w := w) (base := base) F P_SwapLog_base
  have B_SwapLog_base := bdP (K := K) rfl (bs_SwapLog_base P_SwapLog_base)
  obtain ⟨fd_SwapLog___len__, P_SwapLog___len__⟩ := F.says.def_ 2 (d := d_SwapLog___len__) rfl
  have K_SwapLog___len__ := k_SwapLog___len__ (P := P) (w := w) (base := base) F P_SwapLog___len__
  have B_SwapLog___len__ := bdP (K := K) rfl (bs_SwapLog___len__ P_SwapLog___len__)
  have L_SwapLog___len__ : ∀ (s : Shared) (u : Value), BindsTo s fd_SwapLog___len__ ⟨[u], []⟩ [("self", u)] := fun s u => bs_SwapLog___len__ P_SwapLog___len__ s [u] rfl
  obtain ⟨fd_SwapLog_entries, P_SwapLog_entries⟩ := F.says.def_ 3 (d := d_SwapLog_entries) rfl
  have K_SwapLog_entries := k_SwapLog_entries (P := P) (w := w) (base := base) F P_SwapLog_entries
  have B_SwapLog_entries := bdP (K := K) rfl (bs_SwapLog_entries P_SwapLog_entries)
  obtain ⟨fd_SwapLog_order, P_SwapLog_order⟩ := F.says.def_ 4 (d := d_SwapLog_order) rfl
  have K_SwapLog_order := k_SwapLog_order (P := P) (w := w) (base := base) F P_SwapLog_order
  have B_SwapLog_order := bdP (K := K) rfl (bs_SwapLog_order P_SwapLog_order)
  exact r_cons (r_set (i := 2) b (by rfl) (.inl (by kernel_rfl)) (s_lst (s_cons (s_meth0 b (s_var (pe_var (i := 0) (by rfl) (.inl (by kernel_rfl)))) (F.cls 9) (F.meth 17) K_SwapLog_order (by decide) B_SwapLog_order) (s_cons (s_meth0 b (s_var (pe_var (i := 0) (by rfl) (.inl (by kernel_rfl)))) (F.cls 9) (F.meth 15) K_SwapLog_entries (by decide) B_SwapLog_entries) (s_cons (s_b (c_lenI b K_SwapLog___len__ (by decide) (F.meth 14) L_SwapLog___len__) (gl (by kernel_rfl)) (F.free 4) (by decide +kernel) (s_cons (s_var (pe_var (i := 0) (by rfl) (.inl (by kernel_rfl)))) (s_nil))) (s_cons (s_meth0 b (s_meth0 b (s_var (pe_var (i := 0) (by rfl) (.inl (by kernel_rfl)))) (F.cls 9) (F.meth 11) K_SwapLog_base (by decide) B_SwapLog_base) (F.cls 7) (F.meth 12) K_Base_names (by decide) B_Base_names) (s_nil)))))))
    (r_one (r_rt (s_cmp (o_eq b.hu64) (s_b (c_repr b) (gl (by kernel_rfl)) (F.free 5) (by decide +kernel) (s_cons (s_var (pe_var (i := 2) (by rfl) (.inl (by kernel_rfl)))) (s_nil))) (s_b (c_repr b) (gl (by kernel_rfl)) (F.free 5) (by decide +kernel) (s_cons (s_lst (s_cons (s_dix b.hu1 (s_var (pe_var (i := 1) (by rfl) (.inl (by kernel_rfl)))) (s_str)) (s_cons (s_dix b.hu1 (s_var (pe_var (i := 1) (by rfl) (.inl (by kernel_rfl)))) (s_str)) (s_cons (s_b c_len (gl (by kernel_rfl)) (F.free 4) (by decide +kernel) (s_cons (s_dix b.hu1 (s_var (pe_var (i := 1) (by rfl) (.inl (by kernel_rfl)))) (s_str)) (s_nil))) (s_cons (s_dix b.hu1 (s_var (pe_var (i := 1) (by rfl) (.inl (by kernel_rfl)))) (s_str)) (s_nil)))))) (s_nil))) (nomark _))))
abbrev D__law_draw (K : PySem.W.Frag) (fd : FuncData) : Prop := FunD K d__law_draw.name d__law_draw.qual d__law_draw.params d__law_draw.body d__law_draw.scope (d__law_draw.dvs K) (d__law_draw.kws K) (He.fAd K d__law_draw.at_) fd
theorem bs__law_draw (D : D__law_draw K fd) (s : Shared) (us : List Value) (h : us.length = (["_law_rng_here", "_law_many"] : List Str).length) : BindsTo s fd ⟨us, []⟩ ((["_law_rng_here", "_law_many"] : List Str).zip us) := FunD.bindsA (ps := (["_law_rng_here", "_law_many"] : List Str)) D (fun _ _ _ _ _ _ us hl => match us, hl with | [_, _], _ => rfl) s us h
theorem sc__law_draw : FnScope (["_law_rng_here", "_law_many", "_law_digit"] : List Str) (["_law_rng_here", "_law_many"] : List Str) d__law_draw.scope := ⟨by kernel_rfl, by kernel_rfl, by kernel_rfl, by decide +kernel, by kernel_rfl, by decide +kernel, by decide +kernel⟩
theorem k__law_draw (F : Ft fa fn K mg) (D : D__law_draw K fd) : FnG P w K mg base 1 (He.fAd K d__law_draw.at_) fd (["_law_rng_here", "_law_many"] : List Str) f__law_draw := by
  refine fn_g D sc__law_draw fun cdv A outer s H b => ?_
  exact r_cons (r_if (s_tcmp o_gt (s_ix (s_var (pe_var (i := 0) (by rfl) (.inl (by kernel_rfl)))) (s_int)) (s_int) (nomark _)) (r_cons (r_asg (s_b c_divmod (gl (by kernel_rfl)) (F.free 19) (by decide +kernel) (s_cons (s_ix (s_var (pe_var (i := 0) (by rfl) (.inl (by kernel_rfl)))) (s_int)) (s_cons (s_var (pe_var (i := 1) (by rfl) (.inl (by kernel_rfl)))) (s_nil)))) (g_tp b (gs_cons (g_put b (s_var (pe_var (i := 0) (by rfl) (.inl (by kernel_rfl)))) (s_int)) (gs_cons (g_nm (i := 2) b (by rfl) (.inl (by kernel_rfl))) (gs_nil)))))
    (r_one (r_rt (s_var (pe_var (i := 2) (by rfl) (.inl (by kernel_rfl))))))) (r_nil))
    (r_cons (r_asg (s_op o_mod (s_op o_add (s_op o_mul (s_ix (s_var (pe_var (i := 0) (by rfl) (.inl (by kernel_rfl)))) (s_int)) (s_int)) (s_int)) (s_int)) (g_put b (s_var (pe_var (i := 0) (by rfl) (.inl (by kernel_rfl)))) (s_int)))
    (r_one (r_rt (s_op o_mod (s_op o_fdiv (s_op o_mod (s_op o_mul (s_ix (s_var (pe_var (i := 0) (by rfl) (.inl (by kernel_rfl)))) (s_int)) (s_ix (s_var (pe_var (i := 0) (by rfl) (.inl (by kernel_rfl)))) (s_int))) (s_int)) (s_int)) (s_var (pe_var (i := 1) (by rfl) (.inl (by kernel_rfl))))))))
abbrev D_exchange (K : PySem.W.Frag) (fd : FuncData) : Prop := FunD K d_exchange.name d_exchange.qual d_exchange.params d_exchange.body d_exchange.scope (d_exchange.dvs K) (d_exchange.kws K) (He.fAd K d_exchange.at_) fd
theorem bs_exchange (D : D_exchange K fd) (s : Shared) (us : List Value) (h : us.length = (["order", "index"] : List Str).length) : BindsTo s fd ⟨us, []⟩ ((["order", "index"] : List Str).zip us) := FunD.bindsA (ps := (["order", "index"] : List Str)) D (fun _ _ _ _ _ _ us hl => match us, hl with | [_, _], _ => rfl) s us h
theorem sc_exchange : FnScope (["order", "index"] : List Str) (["order", "index"] : List Str) d_exchange.scope := ⟨by kernel_rfl, by kernel_rfl, by kernel_rfl, by decide +kernel, by kernel_rfl, by decide +kernel, by decide +kernel⟩
theorem k_exchange (F : Ft fa fn K mg) (D : D_exchange K fd) : FnG P w K mg base 1 (He.fAd K d_exchange.at_) fd (["order", "index"] : List Str) f_exchange := by
  refine fn_g D sc_exchange fun cdv A outer s H b => ?_
  exact r_one (r_rt (s_op o_add (s_op o_add (s_sl (s_var (pe_var (i := 0) (by rfl) (.inl (by kernel_rfl)))) (s_nopart) (s_part (s_var (pe_var (i := 1) (by rfl) (.inl (by kernel_rfl)))))) (s_lst (s_cons (s_ix (s_var (pe_var (i := 0) (by rfl) (.inl (by kernel_rfl)))) (s_op o_add (s_var (pe_var (i := 1) (by rfl) (.inl (by kernel_rfl)))) (s_int))) (s_cons (s_ix (s_var (pe_var (i := 0) (by rfl) (.inl (by kernel_rfl)))) (s_var (pe_var (i := 1) (by rfl) (.inl (by kernel_rfl))))) (s_nil))))) (s_sl (s_var (pe_var (i := 0) (by rfl) (.inl (by kernel_rfl)))) (s_part (s_op o_add (s_var (pe_var (i := 1) (by rfl) (.inl (by kernel_rfl)))) (s_int))) (s_nopart))))
abbrev D_SwapLog_entry_pairs (K : PySem.W.Frag) (fd : FuncData) : Prop := FunD K d_SwapLog_entry_pairs.name d_SwapLog_entry_pairs.qual d_SwapLog_entry_pairs.params d_SwapLog_entry_pairs.body d_SwapLog_entry_pairs.scope (d_SwapLog_entry_pairs.dvs K) (d_SwapLog_entry_pairs.kws K) (He.fAd K d_SwapLog_entry_pairs.at_) fd
theorem bs_SwapLog_entry_pairs (D : D_SwapLog_entry_pairs K fd) (s : Shared) (us : List Value) (h : us.length = (["self"] : List Str).length) : BindsTo s fd ⟨us, []⟩ ((["self"] : List Str).zip us) := FunD.bindsA (ps := (["self"] : List Str)) D (fun _ _ _ _ _ _ us hl => match us, hl with | [_], _ => rfl) s us h
theorem sc_SwapLog_entry_pairs : FnScope (["self", "now", "pairs", "index", "reason"] : List Str) (["self"] : List Str) d_SwapLog_entry_pairs.scope := ⟨by kernel_rfl, by kernel_rfl, by kernel_rfl, by decide +kernel, by kernel_rfl, by decide +kernel, by decide +kernel⟩
theorem k_SwapLog_entry_pairs (F : Ft fa fn K mg) (D : D_SwapLog_entry_pairs K fd) : FnG P w K mg base 2 (He.fAd K d_SwapLog_entry_pairs.at_) fd (["self"] : List Str) f_SwapLog_entry_pairs := by
  refine fn_g D sc_SwapLog_entry_pairs fun cdv A outer s H b => ?_
  obtain ⟨fd_exchange, P_exchange⟩ := F.says.def_ 7 (d := d_exchange) rfl
  have K_exchange := k_exchange (P := P) (w := w) (base := base) F P_exchange
  have B_exchange := bdP (K := K) rfl (bs_exchange P_exchange)
  obtain ⟨fd_Base_names, P_Base_names⟩ := F.says.def_ 0 (d := d_Base_names) rfl
  have K_Base_names := k_Base_names (P := P) (w := w) (base := base) F P_Base_names
  have B_Base_names := bdP (K := K) rfl (bs_Base_names P_Base_names)
  exact r_cons (r_par (i := 1) (j := 2) b (by rfl) (by rfl) (by decide) (by kernel_rfl) (by kernel_rfl) (s_cons (s_meth0 b (s_fld (s_var (pe_var (i := 0) (by rfl) (.inl (by kernel_rfl)))) (F.cls 9) (F.noat 10)) (F.cls 7) (F.meth 12) K_Base_names (by decide) B_Base_names) (s_cons (s_lst (s_nil)) (s_nil))) (by kernel_rfl) (by kernel_rfl))
    (r_cons (r_for b (i_l (s_fld (s_var (pe_var (i := 0) (by rfl) (.inl (by kernel_rfl)))) (F.cls 9) (F.noat 13))) (g_tp b (gs_cons (g_nm (i := 3) b (by rfl) (.inl (by kernel_rfl))) (gs_cons (g_nm (i := 4) b (by rfl) (.inl (by kernel_rfl))) (gs_nil)))) (r_cons (r_ex (s_bm PySem.F.plainAttrs_list PySem.F.slot_list_append PySem.F.type_list_append m_append (s_var (pe_var (i := 2) (by rfl) (.inl (by kernel_rfl)))) (s_cons (s_tup (s_cons (s_ix (s_var (pe_var (i := 1) (by rfl) (.inl (by kernel_rfl)))) (s_var (pe_var (i := 3) (by rfl) (.inl (by kernel_rfl))))) (s_cons (s_ix (s_var (pe_var (i := 1) (by rfl) (.inl (by kernel_rfl)))) (s_op o_add (s_var (pe_var (i := 3) (by rfl) (.inl (by kernel_rfl)))) (s_int))) (s_nil)))) (s_nil))))
    (r_one (r_set (i := 1) b (by rfl) (.inl (by kernel_rfl)) (s_call b K_exchange (by decide) (gl (by kernel_rfl)) (F.glo 21) P_exchange.kp B_exchange (s_cons (s_var (pe_var (i := 1) (by rfl) (.inl (by kernel_rfl)))) (s_cons (s_var (pe_var (i := 3) (by rfl) (.inl (by kernel_rfl)))) (s_nil))) s_knil)))))
    (r_one (r_rt (s_var (pe_var (i := 2) (by rfl) (.inl (by kernel_rfl)))))))
abbrev D_Base_has_item (K : PySem.W.Frag) (fd : FuncData) : Prop := FunD K d_Base_has_item.name d_Base_has_item.qual d_Base_has_item.params d_Base_has_item.body d_Base_has_item.scope (d_Base_has_item.dvs K) (d_Base_has_item.kws K) (He.fAd K d_Base_has_item.at_) fd
theorem bs_Base_has_item (D : D_Base_has_item K fd) (s : Shared) (us : List Value) (h : us.length = (["self", "value"] : List Str).length) : BindsTo s fd ⟨us, []⟩ ((["self", "value"] : List Str).zip us) := FunD.bindsA (ps := (["self", "value"] : List Str)) D (fun _ _ _ _ _ _ us hl => match us, hl with | [_, _], _ => rfl) s us h
theorem sc_Base_has_item : FnScope (["self", "value"] : List Str) (["self", "value"] : List Str) d_Base_has_item.scope := ⟨by kernel_rfl, by kernel_rfl, by kernel_rfl, by decide +kernel, by kernel_rfl, by decide +kernel, by decide +kernel⟩
theorem k_Base_has_item (F : Ft fa fn K mg) (D : D_Base_has_item K fd) : FnG P w K mg base 1 (He.fAd K d_Base_has_item.at_) fd (["self", "value"] : List Str) f_Base_has_item := by
  refine fn_g D sc_Base_has_item fun cdv A outer s H b => ?_
  exact r_one (r_rt (s_and (s_isi (gl (by kernel_rfl)) (F.free 24) (gl (by kernel_rfl)) (F.free 25) (by decide +kernel) (s_var (pe_var (i := 1) (by rfl) (.inl (by kernel_rfl))))) (s_one (s_cmp (o_in b.hu) (s_var (pe_var (i := 1) (by rfl) (.inl (by kernel_rfl)))) (s_fld (s_var (pe_var (i := 0) (by rfl) (.inl (by kernel_rfl)))) (F.cls 7) (F.noat 23)) (by kernel_rfl)))))
abbrev D_require_item (K : PySem.W.Frag) (fd : FuncData) : Prop := FunD K d_require_item.name d_require_item.qual d_require_item.params d_require_item.body d_require_item.scope (d_require_item.dvs K) (d_require_item.kws K) (He.fAd K d_require_item.at_) fd
theorem bs_require_item (D : D_require_item K fd) (s : Shared) (us : List Value) (h : us.length = (["base", "value"] : List Str).length) : BindsTo s fd ⟨us, []⟩ ((["base", "value"] : List Str).zip us) := FunD.bindsA (ps := (["base", "value"] : List Str)) D (fun _ _ _ _ _ _ us hl => match us, hl with | [_, _], _ => rfl) s us h
theorem sc_require_item : FnScope (["base", "value"] : List Str) (["base", "value"] : List Str) d_require_item.scope := ⟨by kernel_rfl, by kernel_rfl, by kernel_rfl, by decide +kernel, by kernel_rfl, by decide +kernel, by decide +kernel⟩
theorem k_require_item (F : Ft fa fn K mg) (D : D_require_item K fd) : FnG P w K mg base 2 (He.fAd K d_require_item.at_) fd (["base", "value"] : List Str) f_require_item := by
  refine fn_g D sc_require_item fun cdv A outer s H b => ?_
  obtain ⟨fd_Base_has_item, P_Base_has_item⟩ := F.says.def_ 9 (d := d_Base_has_item) rfl
  have K_Base_has_item := k_Base_has_item (P := P) (w := w) (base := base) F P_Base_has_item
  have B_Base_has_item := bdP (K := K) rfl (bs_Base_has_item P_Base_has_item)
  exact r_one (r_if (s_tnot (s_tru (s_meth b (s_var (pe_var (i := 0) (by rfl) (.inl (by kernel_rfl)))) (F.cls 7) (F.meth 26) K_Base_has_item (by decide) B_Base_has_item (s_cons (s_var (pe_var (i := 1) (by rfl) (.inl (by kernel_rfl)))) (s_nil)) s_knil))) (r_one (r_no)) (r_nil))
abbrev D_Base_position_of (K : PySem.W.Frag) (fd : FuncData) : Prop := FunD K d_Base_position_of.name d_Base_position_of.qual d_Base_position_of.params d_Base_position_of.body d_Base_position_of.scope (d_Base_position_of.dvs K) (d_Base_position_of.kws K) (He.fAd K d_Base_position_of.at_) fd
theorem bs_Base_position_of (D : D_Base_position_of K fd) (s : Shared) (us : List Value) (h : us.length = (["self", "item"] : List Str).length) : BindsTo s fd ⟨us, []⟩ ((["self", "item"] : List Str).zip us) := FunD.bindsA (ps := (["self", "item"] : List Str)) D (fun _ _ _ _ _ _ us hl => match us, hl with | [_, _], _ => rfl) s us h
theorem sc_Base_position_of : FnScope (["self", "item"] : List Str) (["self", "item"] : List Str) d_Base_position_of.scope := ⟨by kernel_rfl, by kernel_rfl, by kernel_rfl, by decide +kernel, by kernel_rfl, by decide +kernel, by decide +kernel⟩
theorem k_Base_position_of (F : Ft fa fn K mg) (D : D_Base_position_of K fd) : FnG P w K mg base 3 (He.fAd K d_Base_position_of.at_) fd (["self", "item"] : List Str) f_Base_position_of := by
  refine fn_g D sc_Base_position_of fun cdv A outer s H b => ?_
  obtain ⟨fd_require_item, P_require_item⟩ := F.says.def_ 10 (d := d_require_item) rfl
  have K_require_item := k_require_item (P := P) (w := w) (base := base) F P_require_item
  have B_require_item := bdP (K := K) rfl (bs_require_item P_require_item)
  exact r_cons (r_ex (s_call b K_require_item (by decide) (gl (by kernel_rfl)) (F.glo 27) P_require_item.kp B_require_item (s_cons (s_var (pe_var (i := 0) (by rfl) (.inl (by kernel_rfl)))) (s_cons (s_var (pe_var (i := 1) (by rfl) (.inl (by kernel_rfl)))) (s_nil))) s_knil))
    (r_one (r_rt (s_dix b.hu1 (s_fld (s_var (pe_var (i := 0) (by rfl) (.inl (by kernel_rfl)))) (F.cls 7) (F.noat 23)) (s_var (pe_var (i := 1) (by rfl) (.inl (by kernel_rfl)))))))
abbrev D_Base_precedes (K : PySem.W.Frag) (fd : FuncData) : Prop := FunD K d_Base_precedes.name d_Base_precedes.qual d_Base_precedes.params d_Base_precedes.body d_Base_precedes.scope (d_Base_precedes.dvs K) (d_Base_precedes.kws K) (He.fAd K d_Base_precedes.at_) fd
theorem bs_Base_precedes (D : D_Base_precedes K fd) (s : Shared) (us : List Value) (h : us.length = (["self", "first", "second"] : List Str).length) : BindsTo s fd ⟨us, []⟩ ((["self", "first", "second"] : List Str).zip us) := FunD.bindsA (ps := (["self", "first", "second"] : List Str)) D (fun _ _ _ _ _ _ us hl => match us, hl with | [_, _, _], _ => rfl) s us h
theorem sc_Base_precedes : FnScope (["self", "first", "second"] : List Str) (["self", "first", "second"] : List Str) d_Base_precedes.scope := ⟨by kernel_rfl, by kernel_rfl, by kernel_rfl, by decide +kernel, by kernel_rfl, by decide +kernel, by decide +kernel⟩
theorem k_Base_precedes (F : Ft fa fn K mg) (D : D_Base_precedes K fd) : FnG P w K mg base 4 (He.fAd K d_Base_precedes.at_) fd (["self", "first", "second"] : List Str) f_Base_precedes := by
  refine fn_g D sc_Base_precedes fun cdv A outer s H b => ?_
  obtain ⟨fd_Base_position_of, P_Base_position_of⟩ := F.says.def_ 11 (d := d_Base_position_of) rfl
  have K_Base_position_of := k_Base_position_of (P := P) (w := w) (base := base) F P_Base_position_of
  have B_Base_position_of := bdP (K := K) rfl (bs_Base_position_of P_Base_position_of)
  exact r_one (r_rt (s_cmp o_lt (s_meth b (s_var (pe_var (i := 0) (by rfl) (.inl (by kernel_rfl)))) (F.cls 7) (F.meth 28) K_Base_position_of (by decide) B_Base_position_of (s_cons (s_var (pe_var (i := 1) (by rfl) (.inl (by kernel_rfl)))) (s_nil)) s_knil) (s_meth b (s_var (pe_var (i := 0) (by rfl) (.inl (by kernel_rfl)))) (F.cls 7) (F.meth 28) K_Base_position_of (by decide) B_Base_position_of (s_cons (s_var (pe_var (i := 2) (by rfl) (.inl (by kernel_rfl)))) (s_nil)) s_knil) (nomark _)))
abbrev D_is_upright (K : PySem.W.Frag) (fd : FuncData) : Prop := FunD K d_is_upright.name d_is_upright.qual d_is_upright.params d_is_upright.body d_is_upright.scope (d_is_upright.dvs K) (d_is_upright.kws K) (He.fAd K d_is_upright.at_) fd
theorem bs_is_upright (D : D_is_upright K fd) (s : Shared) (us : List Value) (h : us.length = (["base", "order", "index"] : List Str).length) : BindsTo s fd ⟨us, []⟩ ((["base", "order", "index"] : List Str).zip us) := FunD.bindsA (ps := (["base", "order", "index"] : List Str)) D (fun _ _ _ _ _ _ us hl => match us, hl with | [_, _, _], _ => rfl) s us h
theorem sc_is_upright : FnScope (["base", "order", "index"] : List Str) (["base", "order", "index"] : List Str) d_is_upright.scope := ⟨by kernel_rfl, by kernel_rfl, by kernel_rfl, by decide +kernel, by kernel_rfl, by decide +kernel, by decide +kernel⟩
theorem k_is_upright (F : Ft fa fn K mg) (D : D_is_upright K fd) : FnG P w K mg base 5 (He.fAd K d_is_upright.at_) fd (["base", "order", "index"] : List Str) f_is_upright := by
  refine fn_g D sc_is_upright fun cdv A outer s H b => ?_
  obtain ⟨fd_Base_precedes, P_Base_precedes⟩ := F.says.def_ 12 (d := d_Base_precedes) rfl
  have K_Base_precedes := k_Base_precedes (P := P) (w := w) (base := base) F P_Base_precedes
  have B_Base_precedes := bdP (K := K) rfl (bs_Base_precedes P_Base_precedes)
  exact r_one (r_rt (s_meth b (s_var (pe_var (i := 0) (by rfl) (.inl (by kernel_rfl)))) (F.cls 7) (F.meth 29) K_Base_precedes (by decide) B_Base_precedes (s_cons (s_ix (s_var (pe_var (i := 1) (by rfl) (.inl (by kernel_rfl)))) (s_var (pe_var (i := 2) (by rfl) (.inl (by kernel_rfl))))) (s_cons (s_ix (s_var (pe_var (i := 1) (by rfl) (.inl (by kernel_rfl)))) (s_op o_add (s_var (pe_var (i := 2) (by rfl) (.inl (by kernel_rfl)))) (s_int))) (s_nil))) s_knil))
abbrev D_SwapLog_apply_swap (K : PySem.W.Frag) (fd : FuncData) : Prop := FunD K d_SwapLog_apply_swap.name d_SwapLog_apply_swap.qual d_SwapLog_apply_swap.params d_SwapLog_apply_swap.body d_SwapLog_apply_swap.scope (d_SwapLog_apply_swap.dvs K) (d_SwapLog_apply_swap.kws K) (He.fAd K d_SwapLog_apply_swap.at_) fd
theorem bs_SwapLog_apply_swap (D : D_SwapLog_apply_swap K fd) (s : Shared) (us : List Value) (h : us.length = (["self", "index", "reason"] : List Str).length) : BindsTo s fd ⟨us, []⟩ ((["self", "index", "reason"] : List Str).zip us) := FunD.bindsA (ps := (["self", "index", "reason"] : List Str)) D (fun _ _ _ _ _ _ us hl => match us, hl with | [_, _, _], _ => rfl) s us h
theorem sc_SwapLog_apply_swap : FnScope (["self", "index", "reason", "left", "right", "is_new", "position"] : List Str) (["self", "index", "reason"] : List Str) d_SwapLog_apply_swap.scope := ⟨by kernel_rfl, by kernel_rfl, by kernel_rfl, by decide +kernel, by kernel_rfl, by decide +kernel, by decide +kernel⟩
theorem k_SwapLog_apply_swap (F : Ft fa fn K mg) (D : D_SwapLog_apply_swap K fd) : FnG P w K mg base 6 (He.fAd K d_SwapLog_apply_swap.at_) fd (["self", "index", "reason"] : List Str) f_SwapLog_apply_swap := by
  refine fn_g D sc_SwapLog_apply_swap fun cdv A outer s H b => ?_
  obtain ⟨fd_SwapLog_entry_pairs, P_SwapLog_entry_pairs⟩ := F.says.def_ 8 (d := d_SwapLog_entry_pairs) rfl
  have K_SwapLog_entry_pairs := k_SwapLog_entry_pairs (P := P) (w := w) (base := base) F P_SwapLog_entry_pairs
  have B_SwapLog_entry_pairs := bdP (K := K) rfl (bs_SwapLog_entry_pairs P_SwapLog_entry_pairs)
  obtain ⟨fd_exchange, P_exchange⟩ := F.says.def_ 7 (d := d_exchange) rfl
  have K_exchange := k_exchange (P := P) (w := w) (base := base) F P_exchange
  have B_exchange := bdP (K := K) rfl (bs_exchange P_exchange)
  obtain ⟨fd_is_upright, P_is_upright⟩ := F.says.def_ 13 (d := d_is_upright) rfl
  have K_is_upright := k_is_upright (P := P) (w := w) (base := base) F P_is_upright
  have B_is_upright := bdP (K := K) rfl (bs_is_upright P_is_upright)
  exact r_cons (r_par (i := 3) (j := 4) b (by rfl) (by rfl) (by decide) (by kernel_rfl) (by kernel_rfl) (s_cons (s_ix (s_fld (s_var (pe_var (i := 0) (by rfl) (.inl (by kernel_rfl)))) (F.cls 9) (F.noat 16)) (s_var (pe_var (i := 1) (by rfl) (.inl (by kernel_rfl))))) (s_cons (s_ix (s_fld (s_var (pe_var (i := 0) (by rfl) (.inl (by kernel_rfl)))) (F.cls 9) (F.noat 16)) (s_op o_add (s_var (pe_var (i := 1) (by rfl) (.inl (by kernel_rfl)))) (s_int))) (s_nil))) (by kernel_rfl) (by kernel_rfl))
    (r_cons (r_set (i := 5) b (by rfl) (.inl (by kernel_rfl)) (s_call b K_is_upright (by decide) (gl (by kernel_rfl)) (F.glo 30) P_is_upright.kp B_is_upright (s_cons (s_fld (s_var (pe_var (i := 0) (by rfl) (.inl (by kernel_rfl)))) (F.cls 9) (F.noat 10)) (s_cons (s_fld (s_var (pe_var (i := 0) (by rfl) (.inl (by kernel_rfl)))) (F.cls 9) (F.noat 16)) (s_cons (s_var (pe_var (i := 1) (by rfl) (.inl (by kernel_rfl)))) (s_nil)))) s_knil))
    (r_cons (r_fld (s_var (pe_var (i := 0) (by rfl) (.inl (by kernel_rfl)))) (s_call b K_exchange (by decide) (gl (by kernel_rfl)) (F.glo 21) P_exchange.kp B_exchange (s_cons (s_fld (s_var (pe_var (i := 0) (by rfl) (.inl (by kernel_rfl)))) (F.cls 9) (F.noat 16)) (s_cons (s_var (pe_var (i := 1) (by rfl) (.inl (by kernel_rfl)))) (s_nil))) s_knil) (F.cls 9) (F.noat 16))
    (r_cons (r_if (s_tru (s_var (pe_var (i := 5) (by rfl) (.inl (by kernel_rfl))))) (r_cons (r_ex (s_bm PySem.F.plainAttrs_list PySem.F.slot_list_append PySem.F.type_list_append m_append (s_fld (s_var (pe_var (i := 0) (by rfl) (.inl (by kernel_rfl)))) (F.cls 9) (F.noat 13)) (s_cons (s_tup (s_cons (s_var (pe_var (i := 1) (by rfl) (.inl (by kernel_rfl)))) (s_cons (s_var (pe_var (i := 2) (by rfl) (.inl (by kernel_rfl)))) (s_nil)))) (s_nil))))
    (r_one (r_rt (s_non)))) (r_nil))
    (r_cons (r_set (i := 6) b (by rfl) (.inl (by kernel_rfl)) (s_bm PySem.F.plainAttrs_list PySem.F.slot_list_index PySem.F.type_list_index (m_index b.hu) (s_meth0 b (s_var (pe_var (i := 0) (by rfl) (.inl (by kernel_rfl)))) (F.cls 9) (F.meth 22) K_SwapLog_entry_pairs (by decide) B_SwapLog_entry_pairs) (s_cons (s_tup (s_cons (s_var (pe_var (i := 4) (by rfl) (.inl (by kernel_rfl)))) (s_cons (s_var (pe_var (i := 3) (by rfl) (.inl (by kernel_rfl)))) (s_nil)))) (s_nil))))
    (r_cons (r_del (s_fld (s_var (pe_var (i := 0) (by rfl) (.inl (by kernel_rfl)))) (F.cls 9) (F.noat 13)) (s_var (pe_var (i := 6) (by rfl) (.inl (by kernel_rfl)))))
    (r_one (r_rt (s_var (pe_var (i := 6) (by rfl) (.inl (by kernel_rfl)))))))))))
abbrev D_is_name (K : PySem.W.Frag) (fd : FuncData) : Prop := FunD K d_is_name.name d_is_name.qual d_is_name.params d_is_name.body d_is_name.scope (d_is_name.dvs K) (d_is_name.kws K) (He.fAd K d_is_name.at_) fd
theorem bs_is_name (D : D_is_name K fd) (s : Shared) (us : List Value) (h : us.length = (["value"] : List Str).length) : BindsTo s fd ⟨us, []⟩ ((["value"] : List Str).zip us) := FunD.bindsA (ps := (["value"] : List Str)) D (fun _ _ _ _ _ _ us hl => match us, hl with | [_], _ => rfl) s us h
theorem sc_is_name : FnScope (["value", "sign"] : List Str) (["value"] : List Str) d_is_name.scope := ⟨by kernel_rfl, by kernel_rfl, by kernel_rfl, by decide +kernel, by kernel_rfl, by decide +kernel, by decide +kernel⟩
theorem k_is_name (F : Ft fa fn K mg) (D : D_is_name K fd) : FnG P w K mg base 1 (He.fAd K d_is_name.at_) fd (["value"] : List Str) f_is_name := by
  refine fn_g D sc_is_name fun cdv A outer s H b => ?_
  exact r_cons (r_if ((s_wor (s_tnot (s_tru (s_isi (gl (by kernel_rfl)) (F.free 24) (gl (by kernel_rfl)) (F.free 25) (by decide +kernel) (s_var (pe_var (i := 0) (by rfl) (.inl (by kernel_rfl))))))) (s_wor1 (s_tnot (s_tchain o_le o_le (s_int) (s_b c_len (gl (by kernel_rfl)) (F.free 4) (by decide +kernel) (s_cons (s_var (pe_var (i := 0) (by rfl) (.inl (by kernel_rfl)))) (s_nil))) (s_gint (gl (by kernel_rfl)) (F.int 33)))))).pt) (r_one (r_rt (s_bl))) (r_nil))
    (r_one (r_rt (s_b (c_all b) (gl (by kernel_rfl)) (F.free 0) (by decide +kernel) (s_cons ((s_lc (own := [("sign", 1)]) (t := .nm 1) b (i_l (s_var (pe_var (i := 0) (by rfl) (.inl (by kernel_rfl))))) (blk_ok (by kernel_rfl)) (by rfl) (fun s H C cl fp b1 => t_nm (i := 1) b1 (by rfl) (.inl (by kernel_rfl))) (fun s H C cl fp b1 => ts_yes) (fun s H C cl fp b1 => s_cmp (o_in b1.hu) (s_var (pe_var (i := 1) (by rfl) (.inl (by kernel_rfl)))) (s_gstr (gl (by kernel_rfl)) (F.str 32)) (by kernel_rfl))).1) (s_nil)))))
abbrev D_require_reason (K : PySem.W.Frag) (fd : FuncData) : Prop := FunD K d_require_reason.name d_require_reason.qual d_require_reason.params d_require_reason.body d_require_reason.scope (d_require_reason.dvs K) (d_require_reason.kws K) (He.fAd K d_require_reason.at_) fd
theorem bs_require_reason (D : D_require_reason K fd) (s : Shared) (us : List Value) (h : us.length = (["value"] : List Str).length) : BindsTo s fd ⟨us, []⟩ ((["value"] : List Str).zip us) := FunD.bindsA (ps := (["value"] : List Str)) D (fun _ _ _ _ _ _ us hl => match us, hl with | [_], _ => rfl) s us h
theorem sc_require_reason : FnScope (["value"] : List Str) (["value"] : List Str) d_require_reason.scope := ⟨by kernel_rfl, by kernel_rfl, by kernel_rfl, by decide +kernel, by kernel_rfl, by decide +kernel, by decide +kernel⟩
theorem k_require_reason (F : Ft fa fn K mg) (D : D_require_reason K fd) : FnG P w K mg base 2 (He.fAd K d_require_reason.at_) fd (["value"] : List Str) f_require_reason := by
  refine fn_g D sc_require_reason fun cdv A outer s H b => ?_
  obtain ⟨fd_is_name, P_is_name⟩ := F.says.def_ 15 (d := d_is_name) rfl
  have K_is_name := k_is_name (P := P) (w := w) (base := base) F P_is_name
  have B_is_name := bdP (K := K) rfl (bs_is_name P_is_name)
  exact r_one (r_if ((s_wand (s_tnot (s_tru (s_call b K_is_name (by decide) (gl (by kernel_rfl)) (F.glo 34) P_is_name.kp B_is_name (s_cons (s_var (pe_var (i := 0) (by rfl) (.inl (by kernel_rfl)))) (s_nil)) s_knil))) (s_wand1 (s_tnot ((s_wand (s_tru (s_isi (gl (by kernel_rfl)) (F.free 24) (gl (by kernel_rfl)) (F.free 25) (by decide +kernel) (s_var (pe_var (i := 0) (by rfl) (.inl (by kernel_rfl)))))) (s_wand1 (s_tcmp (o_eq b.hu64) (s_var (pe_var (i := 0) (by rfl) (.inl (by kernel_rfl)))) (s_gstr (gl (by kernel_rfl)) (F.str 35)) (nomark _)))).pt)))).pt) (r_one (r_no)) (r_nil))
abbrev D_is_integer (K : PySem.W.Frag) (fd : FuncData) : Prop := FunD K d_is_integer.name d_is_integer.qual d_is_integer.params d_is_integer.body d_is_integer.scope (d_is_integer.dvs K) (d_is_integer.kws K) (He.fAd K d_is_integer.at_) fd
theorem bs_is_integer (D : D_is_integer K fd) (s : Shared) (us : List Value) (h : us.length = (["value"] : List Str).length) : BindsTo s fd ⟨us, []⟩ ((["value"] : List Str).zip us) := FunD.bindsA (ps := (["value"] : List Str)) D (fun _ _ _ _ _ _ us hl => match us, hl with | [_], _ => rfl) s us h
theorem sc_is_integer : FnScope (["value"] : List Str) (["value"] : List Str) d_is_integer.scope := ⟨by kernel_rfl, by kernel_rfl, by kernel_rfl, by decide +kernel, by kernel_rfl, by decide +kernel, by decide +kernel⟩
theorem k_is_integer (F : Ft fa fn K mg) (D : D_is_integer K fd) : FnG P w K mg base 1 (He.fAd K d_is_integer.at_) fd (["value"] : List Str) f_is_integer := by
  refine fn_g D sc_is_integer fun cdv A outer s H b => ?_
  exact r_one (r_rt (s_and (s_isi (gl (by kernel_rfl)) (F.free 24) (gl (by kernel_rfl)) (F.free 37) (by decide +kernel) (s_var (pe_var (i := 0) (by rfl) (.inl (by kernel_rfl))))) (s_one (s_not (s_isi (gl (by kernel_rfl)) (F.free 24) (gl (by kernel_rfl)) (F.free 38) (by decide +kernel) (s_var (pe_var (i := 0) (by rfl) (.inl (by kernel_rfl)))))))))
abbrev D_Base___len__ (K : PySem.W.Frag) (fd : FuncData) : Prop := FunD K d_Base___len__.name d_Base___len__.qual d_Base___len__.params d_Base___len__.body d_Base___len__.scope (d_Base___len__.dvs K) (d_Base___len__.kws K) (He.fAd K d_Base___len__.at_) fd
theorem bs_Base___len__ (D : D_Base___len__ K fd) (s : Shared) (us : List Value) (h : us.length = (["self"] : List Str).length) : BindsTo s fd ⟨us, []⟩ ((["self"] : List Str).zip us) := FunD.bindsA (ps := (["self"] : List Str)) D (fun _ _ _ _ _ _ us hl => match us, hl with | [_], _ => rfl) s us h
theorem sc_Base___len__ : FnScope (["self"] : List Str) (["self"] : List Str) d_Base___len__.scope := ⟨by kernel_rfl, by kernel_rfl, by kernel_rfl, by decide +kernel, by kernel_rfl, by decide +kernel, by decide +kernel⟩
theorem k_Base___len__ (F : Ft fa fn K mg) (D : D_Base___len__ K fd) : FnG P w K mg base 1 (He.fAd K d_Base___len__.at_) fd (["self"] : List Str) f_Base___len__ := by
  refine fn_g D sc_Base___len__ fun cdv A outer s H b => ?_
  exact r_one (r_rt (s_b c_len (gl (by kernel_rfl)) (F.free 4) (by decide +kernel) (s_cons (s_fld (s_var (pe_var (i := 0) (by rfl) (.inl (by kernel_rfl)))) (F.cls 7) (F.noat 8)) (s_nil))))
abbrev D_require_index (K : PySem.W.Frag) (fd : FuncData) : Prop := FunD K d_require_index.name d_require_index.qual d_require_index.params d_require_index.body d_require_index.scope (d_require_index.dvs K) (d_require_index.kws K) (He.fAd K d_require_index.at_) fd
theorem bs_require_index (D : D_require_index K fd) (s : Shared) (us : List Value) (h : us.length = (["base", "index"] : List Str).length) : BindsTo s fd ⟨us, []⟩ ((["base", "index"] : List Str).zip us) := FunD.bindsA (ps := (["base", "index"] : List Str)) D (fun _ _ _ _ _ _ us hl => match us, hl with | [_, _], _ => rfl) s us h
theorem sc_require_index : FnScope (["base", "index"] : List Str) (["base", "index"] : List Str) d_require_index.scope := ⟨by kernel_rfl, by kernel_rfl, by kernel_rfl, by decide +kernel, by kernel_rfl, by decide +kernel, by decide +kernel⟩
theorem k_require_index (F : Ft fa fn K mg) (D : D_require_index K fd) : FnG P w K mg base 3 (He.fAd K d_require_index.at_) fd (["base", "index"] : List Str) f_require_index := by
  refine fn_g D sc_require_index fun cdv A outer s H b => ?_
  obtain ⟨fd_is_integer, P_is_integer⟩ := F.says.def_ 17 (d := d_is_integer) rfl
  have K_is_integer := k_is_integer (P := P) (w := w) (base := base) F P_is_integer
  have B_is_integer := bdP (K := K) rfl (bs_is_integer P_is_integer)
  obtain ⟨fd_Base___len__, P_Base___len__⟩ := F.says.def_ 18 (d := d_Base___len__) rfl
  have K_Base___len__ := k_Base___len__ (P := P) (w := w) (base := base) F P_Base___len__
  have B_Base___len__ := bdP (K := K) rfl (bs_Base___len__ P_Base___len__)
  have L_Base___len__ : ∀ (s : Shared) (u : Value), BindsTo s fd_Base___len__ ⟨[u], []⟩ [("self", u)] := fun s u => bs_Base___len__ P_Base___len__ s [u] rfl
  exact r_one (r_if ((s_wor (s_tnot (s_tru (s_call b K_is_integer (by decide) (gl (by kernel_rfl)) (F.glo 39) P_is_integer.kp B_is_integer (s_cons (s_var (pe_var (i := 1) (by rfl) (.inl (by kernel_rfl)))) (s_nil)) s_knil))) (s_wor1 (s_tnot (s_tchain o_le o_lt (s_int) (s_var (pe_var (i := 1) (by rfl) (.inl (by kernel_rfl)))) (s_op o_sub (s_b (c_lenI b K_Base___len__ (by decide) (F.meth 40) L_Base___len__) (gl (by kernel_rfl)) (F.free 4) (by decide +kernel) (s_cons (s_var (pe_var (i := 0) (by rfl) (.inl (by kernel_rfl)))) (s_nil))) (s_int)))))).pt) (r_one (r_no)) (r_nil))
abbrev D_SwapLog_swap (K : PySem.W.Frag) (fd : FuncData) : Prop := FunD K d_SwapLog_swap.name d_SwapLog_swap.qual d_SwapLog_swap.params d_SwapLog_swap.body d_SwapLog_swap.scope (d_SwapLog_swap.dvs K) (d_SwapLog_swap.kws K) (He.fAd K d_SwapLog_swap.at_) fd
theorem bk_SwapLog_swap (D : D_SwapLog_swap K fd) : BdG K fd (["self", "index", "reason"] : List Str) 2 (["reason"] : List Str) (fun vs zs => vs ++ zs) gApp := by
  obtain ⟨mv, B⟩ := FunD.kbinds0 (ps := (["self", "index", "reason"] : List Str)) D 2 (["reason"] : List Str) [] (fun us _ ws => us ++ ws) (by intro h; cases h) (fun q hq => by cases hq) (fun r1 r2 r3 => r1.append r3) fun D doc pm an cdv ct us mv ws h1 h2 h3 => match us, mv, ws, h1, h2, h3 with | [_, _], [], [_], _, _, _ => rfl
  exact bdKw B (fun _ _ => rfl) rfl
theorem bd_SwapLog_swap (D : D_SwapLog_swap K fd) : BdG K fd (["self", "index", "reason"] : List Str) 2 [] (fun vs _ => vs ++ ([.str (PySem.Str.ofString "")] : List V)) (gDef [.str (PySem.Str.ofString "")]) := by
  obtain ⟨mv, B⟩ := FunD.kbinds0 (ps := (["self", "index", "reason"] : List Str)) D 2 [] ([("reason", .str (PySem.Str.ofString ""))] : List (Str × V)) (fun us mv _ => us ++ mv) (by intro h; cases h) (fun q hq => hq) (fun r1 r2 r3 => r1.append r2) fun D doc pm an cdv ct us mv ws h1 h2 h3 => match us, mv, ws, h1, h2, h3 with | [_, _], [_], [], _, _, _ => ⟨_, _, _, _, _, _, rfl, rfl, rfl⟩
  exact bdDf B (fun _ _ => rfl) rfl fun w => by simp [VRs, VR]
theorem sc_SwapLog_swap : FnScope (["self", "index", "reason"] : List Str) (["self", "index", "reason"] : List Str) d_SwapLog_swap.scope := ⟨by kernel_rfl, by kernel_rfl, by kernel_rfl, by decide +kernel, by kernel_rfl, by decide +kernel, by decide +kernel⟩
theorem k_SwapLog_swap (F : Ft fa fn K mg) (D : D_SwapLog_swap K fd) : FnG P w K mg base 7 (He.fAd K d_SwapLog_swap.at_) fd (["self", "index", "reason"] : List Str) f_SwapLog_swap := by
  refine fn_g D sc_SwapLog_swap fun cdv A outer s H b => ?_
  obtain ⟨fd_SwapLog_apply_swap, P_SwapLog_apply_swap⟩ := F.says.def_ 14 (d := d_SwapLog_apply_swap) rfl
  have K_SwapLog_apply_swap := k_SwapLog_apply_swap (P := P) (w := w) (base := base) F P_SwapLog_apply_swap
  have B_SwapLog_apply_swap := bdP (K := K) rfl (bs_SwapLog_apply_swap P_SwapLog_apply_swap)
  obtain ⟨fd_require_reason, P_require_reason⟩ := F.says.def_ 16 (d := d_require_reason) rfl
  have K_require_reason := k_require_reason (P := P) (w := w) (base := base) F P_require_reason
  have B_require_reason := bdP (K := K) rfl (bs_require_reason P_require_reason)
  obtain ⟨fd_require_index, P_require_index⟩ := F.says.def_ 19 (d := d_require_index) rfl
  have K_require_index := k_require_index (P := P) (w := w) (base := base) F P_require_index
  have B_require_index := bdP (K := K) rfl (bs_require_index P_require_index)
  exact r_cons (r_ex (s_call b K_require_index (by decide) (gl (by kernel_rfl)) (F.glo 41) P_require_index.kp B_require_index (s_cons (s_fld (s_var (pe_var (i := 0) (by rfl) (.inl (by kernel_rfl)))) (F.cls 9) (F.noat 10)) (s_cons (s_var (pe_var (i := 1) (by rfl) (.inl (by kernel_rfl)))) (s_nil))) s_knil))
    (r_cons (r_ex (s_call b K_require_reason (by decide) (gl (by kernel_rfl)) (F.glo 36) P_require_reason.kp B_require_reason (s_cons (s_var (pe_var (i := 2) (by rfl) (.inl (by kernel_rfl)))) (s_nil)) s_knil))
    (r_one (r_rt (s_meth b (s_var (pe_var (i := 0) (by rfl) (.inl (by kernel_rfl)))) (F.cls 9) (F.meth 31) K_SwapLog_apply_swap (by decide) B_SwapLog_apply_swap (s_cons (s_var (pe_var (i := 1) (by rfl) (.inl (by kernel_rfl)))) (s_cons (s_var (pe_var (i := 2) (by rfl) (.inl (by kernel_rfl)))) (s_nil))) s_knil))))
abbrev D__law_swapped_entries (K : PySem.W.Frag) (fd : FuncData) : Prop := FunD K d__law_swapped_entries.name d__law_swapped_entries.qual d__law_swapped_entries.params d__law_swapped_entries.body d__law_swapped_entries.scope (d__law_swapped_entries.dvs K) (d__law_swapped_entries.kws K) (He.fAd K d__law_swapped_entries.at_) fd
theorem bs__law_swapped_entries (D : D__law_swapped_entries K fd) (s : Shared) (us : List Value) (h : us.length = (["_law_items", "_law_entries", "_law_order", "_law_index", "_law_label_here"] : List Str).length) : BindsTo s fd ⟨us, []⟩ ((["_law_items", "_law_entries", "_law_order", "_law_index", "_law_label_here"] : List Str).zip us) := FunD.bindsA (ps := (["_law_items", "_law_entries", "_law_order", "_law_index", "_law_label_here"] : List Str)) D (fun _ _ _ _ _ _ us hl => match us, hl with | [_, _, _, _, _], _ => rfl) s us h
theorem sc__law_swapped_entries : FnScope (["_law_items", "_law_entries", "_law_order", "_law_index", "_law_label_here", "_law_first", "_law_second", "_law_now", "_law_position", "_law_entry", "_law_at"] : List Str) (["_law_items", "_law_entries", "_law_order", "_law_index", "_law_label_here"] : List Str) d__law_swapped_entries.scope := ⟨by kernel_rfl, by kernel_rfl, by kernel_rfl, by decide +kernel, by kernel_rfl, by decide +kernel, by decide +kernel⟩
theorem k__law_swapped_entries (F : Ft fa fn K mg) (D : D__law_swapped_entries K fd) : FnG P w K mg base 1 (He.fAd K d__law_swapped_entries.at_) fd (["_law_items", "_law_entries", "_law_order", "_law_index", "_law_label_here"] : List Str) f__law_swapped_entries := by
  refine fn_g D sc__law_swapped_entries fun cdv A outer s H b => ?_
  exact r_cons (r_par (i := 5) (j := 6) b (by rfl) (by rfl) (by decide) (by kernel_rfl) (by kernel_rfl) (s_cons (s_ix (s_var (pe_var (i := 2) (by rfl) (.inl (by kernel_rfl)))) (s_var (pe_var (i := 3) (by rfl) (.inl (by kernel_rfl))))) (s_cons (s_ix (s_var (pe_var (i := 2) (by rfl) (.inl (by kernel_rfl)))) (s_op o_add (s_var (pe_var (i := 3) (by rfl) (.inl (by kernel_rfl)))) (s_int))) (s_nil))) (by kernel_rfl) (by kernel_rfl))
    (r_cons (r_if (s_tcmp o_lt (s_bm PySem.F.plainAttrs_list PySem.F.slot_list_index PySem.F.type_list_index (m_index b.hu) (s_var (pe_var (i := 0) (by rfl) (.inl (by kernel_rfl)))) (s_cons (s_var (pe_var (i := 5) (by rfl) (.inl (by kernel_rfl)))) (s_nil))) (s_bm PySem.F.plainAttrs_list PySem.F.slot_list_index PySem.F.type_list_index (m_index b.hu) (s_var (pe_var (i := 0) (by rfl) (.inl (by kernel_rfl)))) (s_cons (s_var (pe_var (i := 6) (by rfl) (.inl (by kernel_rfl)))) (s_nil))) (nomark _)) (r_one (r_rt (s_tup (s_cons (s_op o_add (s_var (pe_var (i := 1) (by rfl) (.inl (by kernel_rfl)))) (s_lst (s_cons (s_tup (s_cons (s_var (pe_var (i := 3) (by rfl) (.inl (by kernel_rfl)))) (s_cons (s_var (pe_var (i := 4) (by rfl) (.inl (by kernel_rfl)))) (s_nil)))) (s_nil)))) (s_cons (s_non) (s_nil)))))) (r_nil))
    (r_cons (r_set (i := 7) b (by rfl) (.inl (by kernel_rfl)) (s_ty c_list (gl (by kernel_rfl)) (F.free 6) (by decide +kernel) (s_cons (s_var (pe_var (i := 0) (by rfl) (.inl (by kernel_rfl)))) (s_nil))))
    (r_cons (r_for b (i_e (gl (by kernel_rfl)) (F.free 43) (s_cons (s_var (pe_var (i := 1) (by rfl) (.inl (by kernel_rfl)))) (s_nil))) (g_tp b (gs_cons (g_nm (i := 8) b (by rfl) (.inl (by kernel_rfl))) (gs_cons (g_nm (i := 9) b (by rfl) (.inl (by kernel_rfl))) (gs_nil)))) (r_cons (r_set (i := 10) b (by rfl) (.inl (by kernel_rfl)) (s_ix (s_var (pe_var (i := 9) (by rfl) (.inl (by kernel_rfl)))) (s_int)))
    (r_cons (r_if (s_tcmp (o_eq b.hu64) (s_tup (s_cons (s_ix (s_var (pe_var (i := 7) (by rfl) (.inl (by kernel_rfl)))) (s_var (pe_var (i := 10) (by rfl) (.inl (by kernel_rfl))))) (s_cons (s_ix (s_var (pe_var (i := 7) (by rfl) (.inl (by kernel_rfl)))) (s_op o_add (s_var (pe_var (i := 10) (by rfl) (.inl (by kernel_rfl)))) (s_int))) (s_nil)))) (s_tup (s_cons (s_var (pe_var (i := 6) (by rfl) (.inl (by kernel_rfl)))) (s_cons (s_var (pe_var (i := 5) (by rfl) (.inl (by kernel_rfl)))) (s_nil)))) (nomark _)) (r_one (r_rt (s_tup (s_cons (s_op o_add (s_sl (s_var (pe_var (i := 1) (by rfl) (.inl (by kernel_rfl)))) (s_nopart) (s_part (s_var (pe_var (i := 8) (by rfl) (.inl (by kernel_rfl)))))) (s_sl (s_var (pe_var (i := 1) (by rfl) (.inl (by kernel_rfl)))) (s_part (s_op o_add (s_var (pe_var (i := 8) (by rfl) (.inl (by kernel_rfl)))) (s_int))) (s_nopart))) (s_cons (s_var (pe_var (i := 8) (by rfl) (.inl (by kernel_rfl)))) (s_nil)))))) (r_nil))
    (r_one (r_asg (s_tup (s_cons (s_ix (s_var (pe_var (i := 7) (by rfl) (.inl (by kernel_rfl)))) (s_op o_add (s_var (pe_var (i := 10) (by rfl) (.inl (by kernel_rfl)))) (s_int))) (s_cons (s_ix (s_var (pe_var (i := 7) (by rfl) (.inl (by kernel_rfl)))) (s_var (pe_var (i := 10) (by rfl) (.inl (by kernel_rfl))))) (s_nil)))) (g_tp b (gs_cons (g_put b (s_var (pe_var (i := 7) (by rfl) (.inl (by kernel_rfl)))) (s_var (pe_var (i := 10) (by rfl) (.inl (by kernel_rfl))))) (gs_cons (g_put b (s_var (pe_var (i := 7) (by rfl) (.inl (by kernel_rfl)))) (s_op o_add (s_var (pe_var (i := 10) (by rfl) (.inl (by kernel_rfl)))) (s_int))) (gs_nil)))))))))
    (r_one (r_rt (s_tup (s_cons (s_var (pe_var (i := 1) (by rfl) (.inl (by kernel_rfl)))) (s_cons (s_non) (s_nil)))))))))
abbrev D__law_swap_done (K : PySem.W.Frag) (fd : FuncData) : Prop := FunD K d__law_swap_done.name d__law_swap_done.qual d__law_swap_done.params d__law_swap_done.body d__law_swap_done.scope (d__law_swap_done.dvs K) (d__law_swap_done.kws K) (He.fAd K d__law_swap_done.at_) fd
theorem bs__law_swap_done (D : D__law_swap_done K fd) (s : Shared) (us : List Value) (h : us.length = (["_law_state", "_law_at", "_law_label_here"] : List Str).length) : BindsTo s fd ⟨us, []⟩ ((["_law_state", "_law_at", "_law_label_here"] : List Str).zip us) := FunD.bindsA (ps := (["_law_state", "_law_at", "_law_label_here"] : List Str)) D (fun _ _ _ _ _ _ us hl => match us, hl with | [_, _, _], _ => rfl) s us h
theorem sc__law_swap_done : FnScope (["_law_state", "_law_at", "_law_label_here", "_law_items", "_law_order", "_law_entries", "_law_cancelled"] : List Str) (["_law_state", "_law_at", "_law_label_here"] : List Str) d__law_swap_done.scope := ⟨by kernel_rfl, by kernel_rfl, by kernel_rfl, by decide +kernel, by kernel_rfl, by decide +kernel, by decide +kernel⟩
theorem k__law_swap_done (F : Ft fa fn K mg) (D : D__law_swap_done K fd) : FnG P w K mg base 2 (He.fAd K d__law_swap_done.at_) fd (["_law_state", "_law_at", "_law_label_here"] : List Str) f__law_swap_done := by
  refine fn_g D sc__law_swap_done fun cdv A outer s H b => ?_
  obtain ⟨fd__law_swapped_entries, P__law_swapped_entries⟩ := F.says.def_ 21 (d := d__law_swapped_entries) rfl
  have K__law_swapped_entries := k__law_swapped_entries (P := P) (w := w) (base := base) F P__law_swapped_entries
  have B__law_swapped_entries := bdP (K := K) rfl (bs__law_swapped_entries P__law_swapped_entries)
  exact r_cons (r_par (i := 3) (j := 4) b (by rfl) (by rfl) (by decide) (by kernel_rfl) (by kernel_rfl) (s_cons (s_dix b.hu1 (s_var (pe_var (i := 0) (by rfl) (.inl (by kernel_rfl)))) (s_str)) (s_cons (s_dix b.hu1 (s_var (pe_var (i := 0) (by rfl) (.inl (by kernel_rfl)))) (s_str)) (s_nil))) (by kernel_rfl) (by kernel_rfl))
    (r_cons (r_asg (s_call b K__law_swapped_entries (by decide) (gl (by kernel_rfl)) (F.glo 44) P__law_swapped_entries.kp B__law_swapped_entries (s_cons (s_var (pe_var (i := 3) (by rfl) (.inl (by kernel_rfl)))) (s_cons (s_dix b.hu1 (s_var (pe_var (i := 0) (by rfl) (.inl (by kernel_rfl)))) (s_str)) (s_cons (s_var (pe_var (i := 4) (by rfl) (.inl (by kernel_rfl)))) (s_cons (s_var (pe_var (i := 1) (by rfl) (.inl (by kernel_rfl)))) (s_cons (s_var (pe_var (i := 2) (by rfl) (.inl (by kernel_rfl)))) (s_nil)))))) s_knil) (g_tp b (gs_cons (g_nm (i := 5) b (by rfl) (.inl (by kernel_rfl))) (gs_cons (g_nm (i := 6) b (by rfl) (.inl (by kernel_rfl))) (gs_nil)))))
    (r_cons (r_asg (s_var (pe_var (i := 5) (by rfl) (.inl (by kernel_rfl)))) (g_put b (s_var (pe_var (i := 0) (by rfl) (.inl (by kernel_rfl)))) (s_str)))
    (r_cons (r_asg (s_op o_add (s_op o_add (s_sl (s_var (pe_var (i := 4) (by rfl) (.inl (by kernel_rfl)))) (s_nopart) (s_part (s_var (pe_var (i := 1) (by rfl) (.inl (by kernel_rfl)))))) (s_lst (s_cons (s_ix (s_var (pe_var (i := 4) (by rfl) (.inl (by kernel_rfl)))) (s_op o_add (s_var (pe_var (i := 1) (by rfl) (.inl (by kernel_rfl)))) (s_int))) (s_cons (s_ix (s_var (pe_var (i := 4) (by rfl) (.inl (by kernel_rfl)))) (s_var (pe_var (i := 1) (by rfl) (.inl (by kernel_rfl))))) (s_nil))))) (s_sl (s_var (pe_var (i := 4) (by rfl) (.inl (by kernel_rfl)))) (s_part (s_op o_add (s_var (pe_var (i := 1) (by rfl) (.inl (by kernel_rfl)))) (s_int))) (s_nopart))) (g_put b (s_var (pe_var (i := 0) (by rfl) (.inl (by kernel_rfl)))) (s_str)))
    (r_one (r_rt (s_var (pe_var (i := 6) (by rfl) (.inl (by kernel_rfl)))))))))
abbrev D__law_choice (K : PySem.W.Frag) (fd : FuncData) : Prop := FunD K d__law_choice.name d__law_choice.qual d__law_choice.params d__law_choice.body d__law_choice.scope (d__law_choice.dvs K) (d__law_choice.kws K) (He.fAd K d__law_choice.at_) fd
theorem bs__law_choice (D : D__law_choice K fd) (s : Shared) (us : List Value) (h : us.length = (["_law_rng_here", "_law_options"] : List Str).length) : BindsTo s fd ⟨us, []⟩ ((["_law_rng_here", "_law_options"] : List Str).zip us) := FunD.bindsA (ps := (["_law_rng_here", "_law_options"] : List Str)) D (fun _ _ _ _ _ _ us hl => match us, hl with | [_, _], _ => rfl) s us h
theorem sc__law_choice : FnScope (["_law_rng_here", "_law_options"] : List Str) (["_law_rng_here", "_law_options"] : List Str) d__law_choice.scope := ⟨by kernel_rfl, by kernel_rfl, by kernel_rfl, by decide +kernel, by kernel_rfl, by decide +kernel, by decide +kernel⟩
theorem k__law_choice (F : Ft fa fn K mg) (D : D__law_choice K fd) : FnG P w K mg base 2 (He.fAd K d__law_choice.at_) fd (["_law_rng_here", "_law_options"] : List Str) f__law_choice := by
  refine fn_g D sc__law_choice fun cdv A outer s H b => ?_
  obtain ⟨fd__law_draw, P__law_draw⟩ := F.says.def_ 6 (d := d__law_draw) rfl
  have K__law_draw := k__law_draw (P := P) (w := w) (base := base) F P__law_draw
  have B__law_draw := bdP (K := K) rfl (bs__law_draw P__law_draw)
  exact r_one (r_rt (s_ix (s_var (pe_var (i := 1) (by rfl) (.inl (by kernel_rfl)))) (s_call b K__law_draw (by decide) (gl (by kernel_rfl)) (F.glo 20) P__law_draw.kp B__law_draw (s_cons (s_var (pe_var (i := 0) (by rfl) (.inl (by kernel_rfl)))) (s_cons (s_b c_len (gl (by kernel_rfl)) (F.free 4) (by decide +kernel) (s_cons (s_var (pe_var (i := 1) (by rfl) (.inl (by kernel_rfl)))) (s_nil))) (s_nil))) s_knil)))
abbrev D__law_name (K : PySem.W.Frag) (fd : FuncData) : Prop := FunD K d__law_name.name d__law_name.qual d__law_name.params d__law_name.body d__law_name.scope (d__law_name.dvs K) (d__law_name.kws K) (He.fAd K d__law_name.at_) fd
theorem bs__law_name (D : D__law_name K fd) (s : Shared) (us : List Value) (h : us.length = (["_law_rng_here", "_law_used"] : List Str).length) : BindsTo s fd ⟨us, []⟩ ((["_law_rng_here", "_law_used"] : List Str).zip us) := FunD.bindsA (ps := (["_law_rng_here", "_law_used"] : List Str)) D (fun _ _ _ _ _ _ us hl => match us, hl with | [_, _], _ => rfl) s us h
theorem sc__law_name : FnScope (["_law_rng_here", "_law_used", "_law_letters", "_law_length", "_law_name_here", "_law_k", "_law_fresh", "_law_one"] : List Str) (["_law_rng_here", "_law_used"] : List Str) d__law_name.scope := ⟨by kernel_rfl, by kernel_rfl, by kernel_rfl, by decide +kernel, by kernel_rfl, by decide +kernel, by decide +kernel⟩
theorem k__law_name (F : Ft fa fn K mg) (D : D__law_name K fd) : FnG P w K mg base 2 (He.fAd K d__law_name.at_) fd (["_law_rng_here", "_law_used"] : List Str) f__law_name := by
  refine fn_g D sc__law_name fun cdv A outer s H b => ?_
  obtain ⟨fd__law_draw, P__law_draw⟩ := F.says.def_ 6 (d := d__law_draw) rfl
  have K__law_draw := k__law_draw (P := P) (w := w) (base := base) F P__law_draw
  have B__law_draw := bdP (K := K) rfl (bs__law_draw P__law_draw)
  exact r_cons (r_set (i := 2) b (by rfl) (.inr (by kernel_rfl)) (s_str))
    (r_cons (r_set (i := 3) b (by rfl) (.inl (by kernel_rfl)) (s_ix (s_lst (s_cons (s_int) (s_cons (s_int) (s_cons (s_int) (s_cons (s_op o_add (s_int) (s_call b K__law_draw (by decide) (gl (by kernel_rfl)) (F.glo 20) P__law_draw.kp B__law_draw (s_cons (s_var (pe_var (i := 0) (by rfl) (.inr (.inl (by kernel_rfl))))) (s_cons (s_int) (s_nil))) s_knil)) (s_nil)))))) (s_call b K__law_draw (by decide) (gl (by kernel_rfl)) (F.glo 20) P__law_draw.kp B__law_draw (s_cons (s_var (pe_var (i := 0) (by rfl) (.inr (.inl (by kernel_rfl))))) (s_cons (s_int) (s_nil))) s_knil)))
    (r_cons (r_set (i := 4) b (by rfl) (.inr (by kernel_rfl)) (s_bm PySem.F.plainAttrs_str PySem.F.slot_str_join PySem.F.type_str_join m_join (s_str) (s_cons ((s_lc (own := [("_law_k", 5)]) (t := .nm 5) b (i_r1 (gl (by kernel_rfl)) (F.free 1) (s_cons (s_var (pe_var (i := 3) (by rfl) (.inl (by kernel_rfl)))) (s_nil))) (blk_ok (by kernel_rfl)) (by rfl) (fun s H C cl fp b3 => t_nm (i := 5) b3 (by rfl) (.inl (by kernel_rfl))) (fun s H C cl fp b3 => ts_yes) (fun s H C cl fp b3 => s_ix (s_var (pe_var (i := 2) (by rfl) (.inr (.inl (by kernel_rfl))))) (s_call b3 K__law_draw (by decide) (gl (by kernel_rfl)) (F.glo 20) P__law_draw.kp B__law_draw (s_cons (s_var (pe_var (i := 0) (by rfl) (.inr (.inl (by kernel_rfl))))) (s_cons (s_int) (s_nil))) s_knil))).1) (s_nil))))
    (r_cons (r_if (s_tcmp (o_eq b.hu64) (s_call b K__law_draw (by decide) (gl (by kernel_rfl)) (F.glo 20) P__law_draw.kp B__law_draw (s_cons (s_var (pe_var (i := 0) (by rfl) (.inr (.inl (by kernel_rfl))))) (s_cons (s_int) (s_nil))) s_knil) (s_int) (nomark _)) (r_one (r_set (i := 4) b (by rfl) (.inr (by kernel_rfl)) (s_ix (s_lst (s_cons (s_str) (s_cons (s_str) (s_cons (s_str) (s_cons (s_str) (s_cons (s_str) (s_cons (s_str) (s_cons (s_str) (s_cons (s_str) (s_nil)))))))))) (s_call b K__law_draw (by decide) (gl (by kernel_rfl)) (F.glo 20) P__law_draw.kp B__law_draw (s_cons (s_var (pe_var (i := 0) (by rfl) (.inr (.inl (by kernel_rfl))))) (s_cons (s_int) (s_nil))) s_knil)))) (r_nil))
    (r_cons (r_set (i := 6) b (by rfl) (.inl (by kernel_rfl)) (s_op o_add (s_lst (s_cons (s_var (pe_var (i := 4) (by rfl) (.inr (.inl (by kernel_rfl))))) (s_nil))) ((s_lc (own := [("_law_k", 5)]) (t := .nm 5) b (i_r1 (gl (by kernel_rfl)) (F.free 1) (s_cons (s_int) (s_nil))) (blk_ok (by kernel_rfl)) (by rfl) (fun s H C cl fp b2 => t_nm (i := 5) b2 (by rfl) (.inl (by kernel_rfl))) (fun s H C cl fp b2 => ts_yes) (fun s H C cl fp b2 => s_op o_add (s_op o_add (s_sl (s_var (pe_var (i := 4) (by rfl) (.inr (.inl (by kernel_rfl))))) (s_nopart) (s_part (s_int))) (s_ix (s_var (pe_var (i := 2) (by rfl) (.inr (.inl (by kernel_rfl))))) (s_op o_fdiv (s_var (pe_var (i := 5) (by rfl) (.inl (by kernel_rfl)))) (s_int)))) (s_ix (s_var (pe_var (i := 2) (by rfl) (.inr (.inl (by kernel_rfl))))) (s_op o_mod (s_var (pe_var (i := 5) (by rfl) (.inl (by kernel_rfl)))) (s_int))))).1)))
    (r_one (r_rt (s_ix ((s_lc (own := [("_law_one", 7)]) (t := .nm 7) b (i_l (s_var (pe_var (i := 6) (by rfl) (.inl (by kernel_rfl))))) (blk_ok (by kernel_rfl)) (by rfl) (fun s H C cl fp b1 => t_nm (i := 7) b1 (by rfl) (.inl (by kernel_rfl))) (fun s H C cl fp b1 => ts_one (s_tcmp (o_notin b1.hu) (s_var (pe_var (i := 7) (by rfl) (.inl (by kernel_rfl)))) (s_var (pe_var (i := 1) (by rfl) (.inr (.inl (by kernel_rfl))))) (by kernel_rfl))) (fun s H C cl fp b1 => s_var (pe_var (i := 7) (by rfl) (.inl (by kernel_rfl))))).1) (s_int))))))))
abbrev D__law_label (K : PySem.W.Frag) (fd : FuncData) : Prop := FunD K d__law_label.name d__law_label.qual d__law_label.params d__law_label.body d__law_label.scope (d__law_label.dvs K) (d__law_label.kws K) (He.fAd K d__law_label.at_) fd
theorem bs__law_label (D : D__law_label K fd) (s : Shared) (us : List Value) (h : us.length = (["_law_rng_here"] : List Str).length) : BindsTo s fd ⟨us, []⟩ ((["_law_rng_here"] : List Str).zip us) := FunD.bindsA (ps := (["_law_rng_here"] : List Str)) D (fun _ _ _ _ _ _ us hl => match us, hl with | [_], _ => rfl) s us h
theorem sc__law_label : FnScope (["_law_rng_here"] : List Str) (["_law_rng_here"] : List Str) d__law_label.scope := ⟨by kernel_rfl, by kernel_rfl, by kernel_rfl, by decide +kernel, by kernel_rfl, by decide +kernel, by decide +kernel⟩
theorem k__law_label (F : Ft fa fn K mg) (D : D__law_label K fd) : FnG P w K mg base 3 (He.fAd K d__law_label.at_) fd (["_law_rng_here"] : List Str) f__law_label := by
  refine fn_g D sc__law_label fun cdv A outer s H b => ?_
  obtain ⟨fd__law_choice, P__law_choice⟩ := F.says.def_ 23 (d := d__law_choice) rfl
  have K__law_choice := k__law_choice (P := P) (w := w) (base := base) F P__law_choice
  have B__law_choice := bdP (K := K) rfl (bs__law_choice P__law_choice)
  obtain ⟨fd__law_name, P__law_name⟩ := F.says.def_ 24 (d := d__law_name) rfl
  have K__law_name := k__law_name (P := P) (w := w) (base := base) F P__law_name
  have B__law_name := bdP (K := K) rfl (bs__law_name P__law_name)
  exact r_one (r_rt (s_call b K__law_choice (by decide) (gl (by kernel_rfl)) (F.glo 47) P__law_choice.kp B__law_choice (s_cons (s_var (pe_var (i := 0) (by rfl) (.inl (by kernel_rfl)))) (s_cons (s_lst (s_cons (s_str) (s_cons (s_str) (s_cons (s_str) (s_cons (s_str) (s_cons (s_call b K__law_name (by decide) (gl (by kernel_rfl)) (F.glo 46) P__law_name.kp B__law_name (s_cons (s_var (pe_var (i := 0) (by rfl) (.inl (by kernel_rfl)))) (s_cons (s_lst (s_nil)) (s_nil))) s_knil) (s_nil))))))) (s_nil))) s_knil))
abbrev D__law_swapped (K : PySem.W.Frag) (fd : FuncData) : Prop := FunD K d__law_swapped.name d__law_swapped.qual d__law_swapped.params d__law_swapped.body d__law_swapped.scope (d__law_swapped.dvs K) (d__law_swapped.kws K) (He.fAd K d__law_swapped.at_) fd
theorem bs__law_swapped (D : D__law_swapped K fd) (s : Shared) (us : List Value) (h : us.length = (["_law_rng_here", "_law_log", "_law_state"] : List Str).length) : BindsTo s fd ⟨us, []⟩ ((["_law_rng_here", "_law_log", "_law_state"] : List Str).zip us) := FunD.bindsA (ps := (["_law_rng_here", "_law_log", "_law_state"] : List Str)) D (fun _ _ _ _ _ _ us hl => match us, hl with | [_, _, _], _ => rfl) s us h
theorem sc__law_swapped : FnScope (["_law_rng_here", "_law_log", "_law_state", "_law_at", "_law_label_here", "_law_due", "_law_result"] : List Str) (["_law_rng_here", "_law_log", "_law_state"] : List Str) d__law_swapped.scope := ⟨by kernel_rfl, by kernel_rfl, by kernel_rfl, by decide +kernel, by kernel_rfl, by decide +kernel, by decide +kernel⟩
theorem k__law_swapped (F : Ft fa fn K mg) (D : D__law_swapped K fd) : FnG P w K mg base 8 (He.fAd K d__law_swapped.at_) fd (["_law_rng_here", "_law_log", "_law_state"] : List Str) f__law_swapped := by
  refine fn_g D sc__law_swapped fun cdv A outer s H b => ?_
  obtain ⟨fd__law_draw, P__law_draw⟩ := F.says.def_ 6 (d := d__law_draw) rfl
  have K__law_draw := k__law_draw (P := P) (w := w) (base := base) F P__law_draw
  have B__law_draw := bdP (K := K) rfl (bs__law_draw P__law_draw)
  obtain ⟨fd_SwapLog_swap, P_SwapLog_swap⟩ := F.says.def_ 20 (d := d_SwapLog_swap) rfl
  have K_SwapLog_swap := k_SwapLog_swap (P := P) (w := w) (base := base) F P_SwapLog_swap
  have BK_SwapLog_swap := bk_SwapLog_swap P_SwapLog_swap
  have BD_SwapLog_swap := bd_SwapLog_swap P_SwapLog_swap
  obtain ⟨fd__law_swap_done, P__law_swap_done⟩ := F.says.def_ 22 (d := d__law_swap_done) rfl
  have K__law_swap_done := k__law_swap_done (P := P) (w := w) (base := base) F P__law_swap_done
  have B__law_swap_done := bdP (K := K) rfl (bs__law_swap_done P__law_swap_done)
  obtain ⟨fd__law_label, P__law_label⟩ := F.says.def_ 25 (d := d__law_label) rfl
  have K__law_label := k__law_label (P := P) (w := w) (base := base) F P__law_label
  have B__law_label := bdP (K := K) rfl (bs__law_label P__law_label)
  exact r_cons (r_par (i := 3) (j := 4) b (by rfl) (by rfl) (by decide) (by kernel_rfl) (by kernel_rfl) (s_cons (s_call b K__law_draw (by decide) (gl (by kernel_rfl)) (F.glo 20) P__law_draw.kp B__law_draw (s_cons (s_var (pe_var (i := 0) (by rfl) (.inl (by kernel_rfl)))) (s_cons (s_op o_sub (s_b c_len (gl (by kernel_rfl)) (F.free 4) (by decide +kernel) (s_cons (s_dix b.hu1 (s_var (pe_var (i := 2) (by rfl) (.inl (by kernel_rfl)))) (s_str)) (s_nil))) (s_int)) (s_nil))) s_knil) (s_cons (s_call b K__law_label (by decide) (gl (by kernel_rfl)) (F.glo 48) P__law_label.kp B__law_label (s_cons (s_var (pe_var (i := 0) (by rfl) (.inl (by kernel_rfl)))) (s_nil)) s_knil) (s_nil))) (by kernel_rfl) (by kernel_rfl))
    (r_cons (r_set (i := 5) b (by rfl) (.inl (by kernel_rfl)) (s_call b K__law_swap_done (by decide) (gl (by kernel_rfl)) (F.glo 45) P__law_swap_done.kp B__law_swap_done (s_cons (s_var (pe_var (i := 2) (by rfl) (.inl (by kernel_rfl)))) (s_cons (s_var (pe_var (i := 3) (by rfl) (.inl (by kernel_rfl)))) (s_cons (s_var (pe_var (i := 4) (by rfl) (.inl (by kernel_rfl)))) (s_nil)))) s_knil))
    (r_cons (r_set (i := 6) b (by rfl) (.inl (by kernel_rfl)) (s_ife ((s_wand (s_tcmp (o_eq b.hu64) (s_var (pe_var (i := 4) (by rfl) (.inl (by kernel_rfl)))) (s_str) (nomark _)) (s_wand1 (s_tcmp (o_eq b.hu64) (s_call b K__law_draw (by decide) (gl (by kernel_rfl)) (F.glo 20) P__law_draw.kp B__law_draw (s_cons (s_var (pe_var (i := 0) (by rfl) (.inl (by kernel_rfl)))) (s_cons (s_int) (s_nil))) s_knil) (s_int) (nomark _)))).pt) (s_meth b (s_var (pe_var (i := 1) (by rfl) (.inl (by kernel_rfl)))) (F.cls 9) (F.meth 42) K_SwapLog_swap (by decide) BD_SwapLog_swap (s_cons (s_var (pe_var (i := 3) (by rfl) (.inl (by kernel_rfl)))) (s_nil)) s_knil) (s_meth b (s_var (pe_var (i := 1) (by rfl) (.inl (by kernel_rfl)))) (F.cls 9) (F.meth 42) K_SwapLog_swap (by decide) BK_SwapLog_swap (s_cons (s_var (pe_var (i := 3) (by rfl) (.inl (by kernel_rfl)))) (s_nil)) (s_kcons (s_var (pe_var (i := 4) (by rfl) (.inl (by kernel_rfl)))) (s_knil)))))
    (r_one (r_rt (s_cmp (o_eq b.hu64) (s_b (c_repr b) (gl (by kernel_rfl)) (F.free 5) (by decide +kernel) (s_cons (s_var (pe_var (i := 6) (by rfl) (.inl (by kernel_rfl)))) (s_nil))) (s_b (c_repr b) (gl (by kernel_rfl)) (F.free 5) (by decide +kernel) (s_cons (s_var (pe_var (i := 5) (by rfl) (.inl (by kernel_rfl)))) (s_nil))) (nomark _))))))
abbrev D__law_inverted (K : PySem.W.Frag) (fd : FuncData) : Prop := FunD K d__law_inverted.name d__law_inverted.qual d__law_inverted.params d__law_inverted.body d__law_inverted.scope (d__law_inverted.dvs K) (d__law_inverted.kws K) (He.fAd K d__law_inverted.at_) fd
theorem bs__law_inverted (D : D__law_inverted K fd) (s : Shared) (us : List Value) (h : us.length = (["_law_items", "_law_order"] : List Str).length) : BindsTo s fd ⟨us, []⟩ ((["_law_items", "_law_order"] : List Str).zip us) := FunD.bindsA (ps := (["_law_items", "_law_order"] : List Str)) D (fun _ _ _ _ _ _ us hl => match us, hl with | [_, _], _ => rfl) s us h
theorem sc__law_inverted : FnScope (["_law_items", "_law_order", "_law_place", "_law_k", "_law_item", "_law_result", "_law_first", "_law_second"] : List Str) (["_law_items", "_law_order"] : List Str) d__law_inverted.scope := ⟨by kernel_rfl, by kernel_rfl, by kernel_rfl, by decide +kernel, by kernel_rfl, by decide +kernel, by decide +kernel⟩
theorem k__law_inverted (F : Ft fa fn K mg) (D : D__law_inverted K fd) : FnG P w K mg base 1 (He.fAd K d__law_inverted.at_) fd (["_law_items", "_law_order"] : List Str) f__law_inverted := by
  refine fn_g D sc__law_inverted fun cdv A outer s H b => ?_
  exact r_cons (r_set (i := 2) b (by rfl) (.inr (by kernel_rfl)) (s_ty (c_dict b) (gl (by kernel_rfl)) (F.free 50) (by decide +kernel) (s_cons ((s_lc (own := [("_law_k", 3), ("_law_item", 4)]) (t := .tp [.nm 3, .nm 4]) b (i_e (gl (by kernel_rfl)) (F.free 43) (s_cons (s_var (pe_var (i := 1) (by rfl) (.inl (by kernel_rfl)))) (s_nil))) (blk_ok (by kernel_rfl)) (by rfl) (fun s H C cl fp b2 => t_tp b2 (ts_cons (t_nm (i := 3) b2 (by rfl) (.inl (by kernel_rfl))) (ts_cons (t_nm (i := 4) b2 (by rfl) (.inl (by kernel_rfl))) (ts_nil)))) (fun s H C cl fp b2 => ts_yes) (fun s H C cl fp b2 => s_tup (s_cons (s_var (pe_var (i := 4) (by rfl) (.inl (by kernel_rfl)))) (s_cons (s_var (pe_var (i := 3) (by rfl) (.inl (by kernel_rfl)))) (s_nil))))).1) (s_nil))))
    (r_cons (r_set (i := 5) b (by rfl) (.inl (by kernel_rfl)) (s_lst (s_nil)))
    (r_cons (r_for b (i_e (gl (by kernel_rfl)) (F.free 43) (s_cons (s_var (pe_var (i := 0) (by rfl) (.inl (by kernel_rfl)))) (s_nil))) (g_tp b (gs_cons (g_nm (i := 3) b (by rfl) (.inl (by kernel_rfl))) (gs_cons (g_nm (i := 6) b (by rfl) (.inr (by kernel_rfl))) (gs_nil)))) (r_one (r_set (i := 5) b (by rfl) (.inl (by kernel_rfl)) (s_op o_add (s_var (pe_var (i := 5) (by rfl) (.inl (by kernel_rfl)))) ((s_lc (own := [("_law_second", 7)]) (t := .nm 7) b (i_l (s_sl (s_var (pe_var (i := 0) (by rfl) (.inl (by kernel_rfl)))) (s_part (s_op o_add (s_var (pe_var (i := 3) (by rfl) (.inl (by kernel_rfl)))) (s_int))) (s_nopart))) (blk_ok (by kernel_rfl)) (by rfl) (fun s H C cl fp b1 => t_nm (i := 7) b1 (by rfl) (.inl (by kernel_rfl))) (fun s H C cl fp b1 => ts_one (s_tcmp o_lt (s_dix b1.hu1 (s_var (pe_var (i := 2) (by rfl) (.inr (.inl (by kernel_rfl))))) (s_var (pe_var (i := 7) (by rfl) (.inl (by kernel_rfl))))) (s_dix b1.hu1 (s_var (pe_var (i := 2) (by rfl) (.inr (.inl (by kernel_rfl))))) (s_var (pe_var (i := 6) (by rfl) (.inr (.inl (by kernel_rfl)))))) (nomark _))) (fun s H C cl fp b1 => s_tup (s_cons (s_var (pe_var (i := 6) (by rfl) (.inr (.inl (by kernel_rfl))))) (s_cons (s_var (pe_var (i := 7) (by rfl) (.inl (by kernel_rfl)))) (s_nil))))).1)))))
    (r_one (r_rt (s_var (pe_var (i := 5) (by rfl) (.inl (by kernel_rfl))))))))
abbrev D_SwapLog___init__ (K : PySem.W.Frag) (fd : FuncData) : Prop := FunD K d_SwapLog___init__.name d_SwapLog___init__.qual d_SwapLog___init__.params d_SwapLog___init__.body d_SwapLog___init__.scope (d_SwapLog___init__.dvs K) (d_SwapLog___init__.kws K) (He.fAd K d_SwapLog___init__.at_) fd
theorem bs_SwapLog___init__ (D : D_SwapLog___init__ K fd) (s : Shared) (us : List Value) (h : us.length = (["self", "base"] : List Str).length) : BindsTo s fd ⟨us, []⟩ ((["self", "base"] : List Str).zip us) := FunD.bindsA (ps := (["self", "base"] : List Str)) D (fun _ _ _ _ _ _ us hl => match us, hl with | [_, _], _ => rfl) s us h
theorem sc_SwapLog___init__ : FnScope (["self", "base"] : List Str) (["self", "base"] : List Str) d_SwapLog___init__.scope := ⟨by kernel_rfl, by kernel_rfl, by kernel_rfl, by decide +kernel, by kernel_rfl, by decide +kernel, by decide +kernel⟩
theorem k_SwapLog___init__ (F : Ft fa fn K mg) (D : D_SwapLog___init__ K fd) : FnG P w K mg base 2 (He.fAd K d_SwapLog___init__.at_) fd (["self", "base"] : List Str) f_SwapLog___init__ := by
  refine fn_g D sc_SwapLog___init__ fun cdv A outer s H b => ?_
  obtain ⟨fd_Base_names, P_Base_names⟩ := F.says.def_ 0 (d := d_Base_names) rfl
  have K_Base_names := k_Base_names (P := P) (w := w) (base := base) F P_Base_names
  have B_Base_names := bdP (K := K) rfl (bs_Base_names P_Base_names)
  exact r_cons (r_fld (s_var (pe_var (i := 0) (by rfl) (.inl (by kernel_rfl)))) (s_var (pe_var (i := 1) (by rfl) (.inl (by kernel_rfl)))) (F.cls 9) (F.noat 10))
    (r_cons (r_fld (s_var (pe_var (i := 0) (by rfl) (.inl (by kernel_rfl)))) (s_meth0 b (s_var (pe_var (i := 1) (by rfl) (.inl (by kernel_rfl)))) (F.cls 7) (F.meth 12) K_Base_names (by decide) B_Base_names) (F.cls 9) (F.noat 16))
    (r_one (r_fld (s_var (pe_var (i := 0) (by rfl) (.inl (by kernel_rfl)))) (s_lst (s_nil)) (F.cls 9) (F.noat 13))))
abbrev D_SwapLog_require_position (K : PySem.W.Frag) (fd : FuncData) : Prop := FunD K d_SwapLog_require_position.name d_SwapLog_require_position.qual d_SwapLog_require_position.params d_SwapLog_require_position.body d_SwapLog_require_position.scope (d_SwapLog_require_position.dvs K) (d_SwapLog_require_position.kws K) (He.fAd K d_SwapLog_require_position.at_) fd
theorem bs_SwapLog_require_position (D : D_SwapLog_require_position K fd) (s : Shared) (us : List Value) (h : us.length = (["self", "position"] : List Str).length) : BindsTo s fd ⟨us, []⟩ ((["self", "position"] : List Str).zip us) := FunD.bindsA (ps := (["self", "position"] : List Str)) D (fun _ _ _ _ _ _ us hl => match us, hl with | [_, _], _ => rfl) s us h
theorem sc_SwapLog_require_position : FnScope (["self", "position"] : List Str) (["self", "position"] : List Str) d_SwapLog_require_position.scope := ⟨by kernel_rfl, by kernel_rfl, by kernel_rfl, by decide +kernel, by kernel_rfl, by decide +kernel, by decide +kernel⟩
theorem k_SwapLog_require_position (F : Ft fa fn K mg) (D : D_SwapLog_require_position K fd) : FnG P w K mg base 2 (He.fAd K d_SwapLog_require_position.at_) fd (["self", "position"] : List Str) f_SwapLog_require_position := by
  refine fn_g D sc_SwapLog_require_position fun cdv A outer s H b => ?_
  obtain ⟨fd_is_integer, P_is_integer⟩ := F.says.def_ 17 (d := d_is_integer) rfl
  have K_is_integer := k_is_integer (P := P) (w := w) (base := base) F P_is_integer
  have B_is_integer := bdP (K := K) rfl (bs_is_integer P_is_integer)
  exact r_one (r_if ((s_wor (s_tnot (s_tru (s_call b K_is_integer (by decide) (gl (by kernel_rfl)) (F.glo 39) P_is_integer.kp B_is_integer (s_cons (s_var (pe_var (i := 1) (by rfl) (.inl (by kernel_rfl)))) (s_nil)) s_knil))) (s_wor1 (s_tnot (s_tchain o_le o_lt (s_int) (s_var (pe_var (i := 1) (by rfl) (.inl (by kernel_rfl)))) (s_b c_len (gl (by kernel_rfl)) (F.free 4) (by decide +kernel) (s_cons (s_fld (s_var (pe_var (i := 0) (by rfl) (.inl (by kernel_rfl)))) (F.cls 9) (F.noat 13)) (s_nil))))))).pt) (r_one (r_no)) (r_nil))
abbrev D_SwapLog_remove_entry (K : PySem.W.Frag) (fd : FuncData) : Prop := FunD K d_SwapLog_remove_entry.name d_SwapLog_remove_entry.qual d_SwapLog_remove_entry.params d_SwapLog_remove_entry.body d_SwapLog_remove_entry.scope (d_SwapLog_remove_entry.dvs K) (d_SwapLog_remove_entry.kws K) (He.fAd K d_SwapLog_remove_entry.at_) fd
theorem bs_SwapLog_remove_entry (D : D_SwapLog_remove_entry K fd) (s : Shared) (us : List Value) (h : us.length = (["self", "position"] : List Str).length) : BindsTo s fd ⟨us, []⟩ ((["self", "position"] : List Str).zip us) := FunD.bindsA (ps := (["self", "position"] : List Str)) D (fun _ _ _ _ _ _ us hl => match us, hl with | [_, _], _ => rfl) s us h
theorem sc_SwapLog_remove_entry : FnScope (["self", "position", "fresh", "kept", "place", "index", "reason", "cancelled", "gone"] : List Str) (["self", "position"] : List Str) d_SwapLog_remove_entry.scope := ⟨by kernel_rfl, by kernel_rfl, by kernel_rfl, by decide +kernel, by kernel_rfl, by decide +kernel, by decide +kernel⟩
theorem k_SwapLog_remove_entry (F : Ft fa fn K mg) (D : D_SwapLog_remove_entry K fd) : FnG P w K mg base 7 (He.fAd K d_SwapLog_remove_entry.at_) fd (["self", "position"] : List Str) f_SwapLog_remove_entry := by
  refine fn_g D sc_SwapLog_remove_entry fun cdv A outer s H b => ?_
  obtain ⟨fd_SwapLog_apply_swap, P_SwapLog_apply_swap⟩ := F.says.def_ 14 (d := d_SwapLog_apply_swap) rfl
  have K_SwapLog_apply_swap := k_SwapLog_apply_swap (P := P) (w := w) (base := base) F P_SwapLog_apply_swap
  have B_SwapLog_apply_swap := bdP (K := K) rfl (bs_SwapLog_apply_swap P_SwapLog_apply_swap)
  obtain ⟨fd_SwapLog___init__, P_SwapLog___init__⟩ := F.says.def_ 28 (d := d_SwapLog___init__) rfl
  have K_SwapLog___init__ := k_SwapLog___init__ (P := P) (w := w) (base := base) F P_SwapLog___init__
  have B_SwapLog___init__ := bdP (K := K) rfl (bs_SwapLog___init__ P_SwapLog___init__)
  obtain ⟨fd_SwapLog_require_position, P_SwapLog_require_position⟩ := F.says.def_ 29 (d := d_SwapLog_require_position) rfl
  have K_SwapLog_require_position := k_SwapLog_require_position (P := P) (w := w) (base := base) F P_SwapLog_require_position
  have B_SwapLog_require_position := bdP (K := K) rfl (bs_SwapLog_require_position P_SwapLog_require_position)
  exact r_cons (r_ex (s_meth b (s_var (pe_var (i := 0) (by rfl) (.inl (by kernel_rfl)))) (F.cls 9) (F.meth 54) K_SwapLog_require_position (by decide) B_SwapLog_require_position (s_cons (s_var (pe_var (i := 1) (by rfl) (.inl (by kernel_rfl)))) (s_nil)) s_knil))
    (r_cons (r_asg (s_tup (s_cons (s_make (D := "SwapLog") b (F.mkr 52) K_SwapLog___init__ (by decide) (gl (by kernel_rfl)) (F.glo 53) B_SwapLog___init__ (s_cons (s_fld (s_var (pe_var (i := 0) (by rfl) (.inl (by kernel_rfl)))) (F.cls 9) (F.noat 10)) (s_nil)) s_knil) (s_cons (s_lst (s_nil)) (s_nil)))) (g_tp b (gs_cons (g_nm (i := 2) b (by rfl) (.inl (by kernel_rfl))) (gs_cons (g_nm (i := 3) b (by rfl) (.inr (by kernel_rfl))) (gs_nil)))))
    (r_cons (r_for b (i_e (gl (by kernel_rfl)) (F.free 43) (s_cons (s_fld (s_var (pe_var (i := 0) (by rfl) (.inl (by kernel_rfl)))) (F.cls 9) (F.noat 13)) (s_nil))) (g_tp b (gs_cons (g_nm (i := 4) b (by rfl) (.inl (by kernel_rfl))) (gs_cons (g_tp b (gs_cons (g_nm (i := 5) b (by rfl) (.inl (by kernel_rfl))) (gs_cons (g_nm (i := 6) b (by rfl) (.inl (by kernel_rfl))) (gs_nil)))) (gs_nil)))) (r_one (r_if (s_tcmp (o_ne b.hu64) (s_var (pe_var (i := 4) (by rfl) (.inl (by kernel_rfl)))) (s_var (pe_var (i := 1) (by rfl) (.inl (by kernel_rfl)))) (nomark _)) (r_cons (r_set (i := 7) b (by rfl) (.inl (by kernel_rfl)) (s_meth b (s_var (pe_var (i := 2) (by rfl) (.inl (by kernel_rfl)))) (F.cls 9) (F.meth 31) K_SwapLog_apply_swap (by decide) B_SwapLog_apply_swap (s_cons (s_var (pe_var (i := 5) (by rfl) (.inl (by kernel_rfl)))) (s_cons (s_var (pe_var (i := 6) (by rfl) (.inl (by kernel_rfl)))) (s_nil))) s_knil))
    (r_one (r_if (s_tcmp o_isN (s_var (pe_var (i := 7) (by rfl) (.inl (by kernel_rfl)))) (s_non) (nomark _)) (r_one (r_ex (s_bm PySem.F.plainAttrs_list PySem.F.slot_list_append PySem.F.type_list_append m_append (s_var (pe_var (i := 3) (by rfl) (.inr (.inl (by kernel_rfl))))) (s_cons (s_var (pe_var (i := 4) (by rfl) (.inl (by kernel_rfl)))) (s_nil))))) (r_one (r_del (s_var (pe_var (i := 3) (by rfl) (.inr (.inl (by kernel_rfl))))) (s_var (pe_var (i := 7) (by rfl) (.inl (by kernel_rfl))))))))) (r_nil))))
    (r_cons ((s_lc (own := [("place", 4)]) (t := .nm 4) b (i_r1 (gl (by kernel_rfl)) (F.free 1) (s_cons (s_b c_len (gl (by kernel_rfl)) (F.free 4) (by decide +kernel) (s_cons (s_fld (s_var (pe_var (i := 0) (by rfl) (.inl (by kernel_rfl)))) (F.cls 9) (F.noat 13)) (s_nil))) (s_nil))) (blk_ok (by kernel_rfl)) (by rfl) (fun s H C cl fp b1 => t_nm (i := 4) b1 (by rfl) (.inl (by kernel_rfl))) (fun s H C cl fp b1 => ts_one (s_tcmp (o_notin b1.hu) (s_var (pe_var (i := 4) (by rfl) (.inl (by kernel_rfl)))) (s_var (pe_var (i := 3) (by rfl) (.inr (.inl (by kernel_rfl))))) (by kernel_rfl))) (fun s H C cl fp b1 => s_var (pe_var (i := 4) (by rfl) (.inl (by kernel_rfl))))).2 (i := 8) (by rfl) (by kernel_rfl) (by kernel_rfl))
    (r_cons (r_asg (s_tup (s_cons (s_fld (s_var (pe_var (i := 2) (by rfl) (.inl (by kernel_rfl)))) (F.cls 9) (F.noat 16)) (s_cons (s_fld (s_var (pe_var (i := 2) (by rfl) (.inl (by kernel_rfl)))) (F.cls 9) (F.noat 13)) (s_nil)))) (g_tp b (gs_cons (g_fld (s_var (pe_var (i := 0) (by rfl) (.inl (by kernel_rfl)))) (F.cls 9) (F.noat 16)) (gs_cons (g_fld (s_var (pe_var (i := 0) (by rfl) (.inl (by kernel_rfl)))) (F.cls 9) (F.noat 13)) (gs_nil)))))
    (r_one (r_rt (s_var (pe_var (i := 8) (by rfl) (.inl (by kernel_rfl))))))))))
abbrev D_SwapLog_clone (K : PySem.W.Frag) (fd : FuncData) : Prop := FunD K d_SwapLog_clone.name d_SwapLog_clone.qual d_SwapLog_clone.params d_SwapLog_clone.body d_SwapLog_clone.scope (d_SwapLog_clone.dvs K) (d_SwapLog_clone.kws K) (He.fAd K d_SwapLog_clone.at_) fd
theorem bs_SwapLog_clone (D : D_SwapLog_clone K fd) (s : Shared) (us : List Value) (h : us.length = (["self"] : List Str).length) : BindsTo s fd ⟨us, []⟩ ((["self"] : List Str).zip us) := FunD.bindsA (ps := (["self"] : List Str)) D (fun _ _ _ _ _ _ us hl => match us, hl with | [_], _ => rfl) s us h
theorem sc_SwapLog_clone : FnScope (["self", "copy"] : List Str) (["self"] : List Str) d_SwapLog_clone.scope := ⟨by kernel_rfl, by kernel_rfl, by kernel_rfl, by decide +kernel, by kernel_rfl, by decide +kernel, by decide +kernel⟩
theorem k_SwapLog_clone (F : Ft fa fn K mg) (D : D_SwapLog_clone K fd) : FnG P w K mg base 4 (He.fAd K d_SwapLog_clone.at_) fd (["self"] : List Str) f_SwapLog_clone := by
  refine fn_g D sc_SwapLog_clone fun cdv A outer s H b => ?_
  obtain ⟨fd_SwapLog___init__, P_SwapLog___init__⟩ := F.says.def_ 28 (d := d_SwapLog___init__) rfl
  have K_SwapLog___init__ := k_SwapLog___init__ (P := P) (w := w) (base := base) F P_SwapLog___init__
  have B_SwapLog___init__ := bdP (K := K) rfl (bs_SwapLog___init__ P_SwapLog___init__)
  exact r_cons (r_set (i := 1) b (by rfl) (.inl (by kernel_rfl)) (s_make (D := "SwapLog") b (F.mkr 52) K_SwapLog___init__ (by decide) (gl (by kernel_rfl)) (F.glo 53) B_SwapLog___init__ (s_cons (s_fld (s_var (pe_var (i := 0) (by rfl) (.inl (by kernel_rfl)))) (F.cls 9) (F.noat 10)) (s_nil)) s_knil))
    (r_cons (r_asg (s_tup (s_cons (s_ty c_list (gl (by kernel_rfl)) (F.free 6) (by decide +kernel) (s_cons (s_fld (s_var (pe_var (i := 0) (by rfl) (.inl (by kernel_rfl)))) (F.cls 9) (F.noat 16)) (s_nil))) (s_cons (s_ty c_list (gl (by kernel_rfl)) (F.free 6) (by decide +kernel) (s_cons (s_fld (s_var (pe_var (i := 0) (by rfl) (.inl (by kernel_rfl)))) (F.cls 9) (F.noat 13)) (s_nil))) (s_nil)))) (g_tp b (gs_cons (g_fld (s_var (pe_var (i := 1) (by rfl) (.inl (by kernel_rfl)))) (F.cls 9) (F.noat 16)) (gs_cons (g_fld (s_var (pe_var (i := 1) (by rfl) (.inl (by kernel_rfl)))) (F.cls 9) (F.noat 13)) (gs_nil)))))
    (r_one (r_rt (s_var (pe_var (i := 1) (by rfl) (.inl (by kernel_rfl)))))))
abbrev D__law_begun (K : PySem.W.Frag) (fd : FuncData) : Prop := FunD K d__law_begun.name d__law_begun.qual d__law_begun.params d__law_begun.body d__law_begun.scope (d__law_begun.dvs K) (d__law_begun.kws K) (He.fAd K d__law_begun.at_) fd
theorem bs__law_begun (D : D__law_begun K fd) (s : Shared) (us : List Value) (h : us.length = (["_law_items"] : List Str).length) : BindsTo s fd ⟨us, []⟩ ((["_law_items"] : List Str).zip us) := FunD.bindsA (ps := (["_law_items"] : List Str)) D (fun _ _ _ _ _ _ us hl => match us, hl with | [_], _ => rfl) s us h
theorem sc__law_begun : FnScope (["_law_items"] : List Str) (["_law_items"] : List Str) d__law_begun.scope := ⟨by kernel_rfl, by kernel_rfl, by kernel_rfl, by decide +kernel, by kernel_rfl, by decide +kernel, by decide +kernel⟩
theorem k__law_begun (F : Ft fa fn K mg) (D : D__law_begun K fd) : FnG P w K mg base 1 (He.fAd K d__law_begun.at_) fd (["_law_items"] : List Str) f__law_begun := by
  refine fn_g D sc__law_begun fun cdv A outer s H b => ?_
  exact r_one (r_rt (s_disp (ms := [((eC (.str (PySem.Str.ofString "items"))), (eVar 0)), ((eC (.str (PySem.Str.ofString "order"))), (eB bList (aCons (eVar 0) aNil))), ((eC (.str (PySem.Str.ofString "entries"))), (eLst (aNil)))]) (pps_cons (s_str) (s_var (pe_var (i := 0) (by rfl) (.inl (by kernel_rfl)))) (pps_cons (s_str) (s_ty c_list (gl (by kernel_rfl)) (F.free 6) (by decide +kernel) (s_cons (s_var (pe_var (i := 0) (by rfl) (.inl (by kernel_rfl)))) (s_nil))) (pps_cons (s_str) (s_lst (s_nil)) (pps_nil))))))
abbrev D__law_replayed (K : PySem.W.Frag) (fd : FuncData) : Prop := FunD K d__law_replayed.name d__law_replayed.qual d__law_replayed.params d__law_replayed.body d__law_replayed.scope (d__law_replayed.dvs K) (d__law_replayed.kws K) (He.fAd K d__law_replayed.at_) fd
theorem bs__law_replayed (D : D__law_replayed K fd) (s : Shared) (us : List Value) (h : us.length = (["_law_items", "_law_entries", "_law_without"] : List Str).length) : BindsTo s fd ⟨us, []⟩ ((["_law_items", "_law_entries", "_law_without"] : List Str).zip us) := FunD.bindsA (ps := (["_law_items", "_law_entries", "_law_without"] : List Str)) D (fun _ _ _ _ _ _ us hl => match us, hl with | [_, _, _], _ => rfl) s us h
theorem sc__law_replayed : FnScope (["_law_items", "_law_entries", "_law_without", "_law_fresh", "_law_kept", "_law_k", "_law_at", "_law_label_here", "_law_cancelled"] : List Str) (["_law_items", "_law_entries", "_law_without"] : List Str) d__law_replayed.scope := ⟨by kernel_rfl, by kernel_rfl, by kernel_rfl, by decide +kernel, by kernel_rfl, by decide +kernel, by decide +kernel⟩
theorem k__law_replayed (F : Ft fa fn K mg) (D : D__law_replayed K fd) : FnG P w K mg base 3 (He.fAd K d__law_replayed.at_) fd (["_law_items", "_law_entries", "_law_without"] : List Str) f__law_replayed := by
  refine fn_g D sc__law_replayed fun cdv A outer s H b => ?_
  obtain ⟨fd__law_swap_done, P__law_swap_done⟩ := F.says.def_ 22 (d := d__law_swap_done) rfl
  have K__law_swap_done := k__law_swap_done (P := P) (w := w) (base := base) F P__law_swap_done
  have B__law_swap_done := bdP (K := K) rfl (bs__law_swap_done P__law_swap_done)
  obtain ⟨fd__law_begun, P__law_begun⟩ := F.says.def_ 32 (d := d__law_begun) rfl
  have K__law_begun := k__law_begun (P := P) (w := w) (base := base) F P__law_begun
  have B__law_begun := bdP (K := K) rfl (bs__law_begun P__law_begun)
  exact r_cons (r_asg (s_tup (s_cons (s_call b K__law_begun (by decide) (gl (by kernel_rfl)) (F.glo 57) P__law_begun.kp B__law_begun (s_cons (s_var (pe_var (i := 0) (by rfl) (.inl (by kernel_rfl)))) (s_nil)) s_knil) (s_cons (s_lst (s_nil)) (s_nil)))) (g_tp b (gs_cons (g_nm (i := 3) b (by rfl) (.inl (by kernel_rfl))) (gs_cons (g_nm (i := 4) b (by rfl) (.inr (by kernel_rfl))) (gs_nil)))))
    (r_cons (r_for b (i_e (gl (by kernel_rfl)) (F.free 43) (s_cons (s_var (pe_var (i := 1) (by rfl) (.inl (by kernel_rfl)))) (s_nil))) (g_tp b (gs_cons (g_nm (i := 5) b (by rfl) (.inl (by kernel_rfl))) (gs_cons (g_tp b (gs_cons (g_nm (i := 6) b (by rfl) (.inl (by kernel_rfl))) (gs_cons (g_nm (i := 7) b (by rfl) (.inl (by kernel_rfl))) (gs_nil)))) (gs_nil)))) (r_one (r_if (s_tcmp (o_ne b.hu64) (s_var (pe_var (i := 5) (by rfl) (.inl (by kernel_rfl)))) (s_var (pe_var (i := 2) (by rfl) (.inl (by kernel_rfl)))) (nomark _)) (r_cons (r_set (i := 8) b (by rfl) (.inl (by kernel_rfl)) (s_call b K__law_swap_done (by decide) (gl (by kernel_rfl)) (F.glo 45) P__law_swap_done.kp B__law_swap_done (s_cons (s_var (pe_var (i := 3) (by rfl) (.inl (by kernel_rfl)))) (s_cons (s_var (pe_var (i := 6) (by rfl) (.inl (by kernel_rfl)))) (s_cons (s_var (pe_var (i := 7) (by rfl) (.inl (by kernel_rfl)))) (s_nil)))) s_knil))
    (r_one (r_if (s_tcmp o_isN (s_var (pe_var (i := 8) (by rfl) (.inl (by kernel_rfl)))) (s_non) (nomark _)) (r_one (r_ex (s_bm PySem.F.plainAttrs_list PySem.F.slot_list_append PySem.F.type_list_append m_append (s_var (pe_var (i := 4) (by rfl) (.inr (.inl (by kernel_rfl))))) (s_cons (s_var (pe_var (i := 5) (by rfl) (.inl (by kernel_rfl)))) (s_nil))))) (r_one (r_set (i := 4) b (by rfl) (.inr (by kernel_rfl)) (s_op o_add (s_sl (s_var (pe_var (i := 4) (by rfl) (.inr (.inl (by kernel_rfl))))) (s_nopart) (s_part (s_var (pe_var (i := 8) (by rfl) (.inl (by kernel_rfl)))))) (s_sl (s_var (pe_var (i := 4) (by rfl) (.inr (.inl (by kernel_rfl))))) (s_part (s_op o_add (s_var (pe_var (i := 8) (by rfl) (.inl (by kernel_rfl)))) (s_int))) (s_nopart)))))))) (r_nil))))
    (r_one (r_rt (s_tup (s_cons (s_var (pe_var (i := 3) (by rfl) (.inl (by kernel_rfl)))) (s_cons ((s_lc (own := [("_law_k", 5)]) (t := .nm 5) b (i_r1 (gl (by kernel_rfl)) (F.free 1) (s_cons (s_b c_len (gl (by kernel_rfl)) (F.free 4) (by decide +kernel) (s_cons (s_var (pe_var (i := 1) (by rfl) (.inl (by kernel_rfl)))) (s_nil))) (s_nil))) (blk_ok (by kernel_rfl)) (by rfl) (fun s H C cl fp b1 => t_nm (i := 5) b1 (by rfl) (.inl (by kernel_rfl))) (fun s H C cl fp b1 => ts_one (s_tcmp (o_notin b1.hu) (s_var (pe_var (i := 5) (by rfl) (.inl (by kernel_rfl)))) (s_var (pe_var (i := 4) (by rfl) (.inr (.inl (by kernel_rfl))))) (by kernel_rfl))) (fun s H C cl fp b1 => s_var (pe_var (i := 5) (by rfl) (.inl (by kernel_rfl))))).1) (s_nil)))))))
abbrev D__law_removed (K : PySem.W.Frag) (fd : FuncData) : Prop := FunD K d__law_removed.name d__law_removed.qual d__law_removed.params d__law_removed.body d__law_removed.scope (d__law_removed.dvs K) (d__law_removed.kws K) (He.fAd K d__law_removed.at_) fd
theorem bs__law_removed (D : D__law_removed K fd) (s : Shared) (us : List Value) (h : us.length = (["_law_rng_here", "_law_log", "_law_state"] : List Str).length) : BindsTo s fd ⟨us, []⟩ ((["_law_rng_here", "_law_log", "_law_state"] : List Str).zip us) := FunD.bindsA (ps := (["_law_rng_here", "_law_log", "_law_state"] : List Str)) D (fun _ _ _ _ _ _ us hl => match us, hl with | [_, _, _], _ => rfl) s us h
theorem sc__law_removed : FnScope (["_law_rng_here", "_law_log", "_law_state", "_law_many", "_law_place", "_law_fresh", "_law_gone", "_law_copy", "_law_shown", "_law_result"] : List Str) (["_law_rng_here", "_law_log", "_law_state"] : List Str) d__law_removed.scope := ⟨by kernel_rfl, by kernel_rfl, by kernel_rfl, by decide +kernel, by kernel_rfl, by decide +kernel, by decide +kernel⟩
theorem k__law_removed (F : Ft fa fn K mg) (D : D__law_removed K fd) : FnG P w K mg base 8 (He.fAd K d__law_removed.at_) fd (["_law_rng_here", "_law_log", "_law_state"] : List Str) f__law_removed := by
  refine fn_g D sc__law_removed fun cdv A outer s H b => ?_
  obtain ⟨fd__law_is, P__law_is⟩ := F.says.def_ 5 (d := d__law_is) rfl
  have K__law_is := k__law_is (P := P) (w := w) (base := base) F P__law_is
  have B__law_is := bdP (K := K) rfl (bs__law_is P__law_is)
  obtain ⟨fd__law_inverted, P__law_inverted⟩ := F.says.def_ 27 (d := d__law_inverted) rfl
  have K__law_inverted := k__law_inverted (P := P) (w := w) (base := base) F P__law_inverted
  have B__law_inverted := bdP (K := K) rfl (bs__law_inverted P__law_inverted)
  obtain ⟨fd_SwapLog_order, P_SwapLog_order⟩ := F.says.def_ 4 (d := d_SwapLog_order) rfl
  have K_SwapLog_order := k_SwapLog_order (P := P) (w := w) (base := base) F P_SwapLog_order
  have B_SwapLog_order := bdP (K := K) rfl (bs_SwapLog_order P_SwapLog_order)
  obtain ⟨fd_SwapLog___len__, P_SwapLog___len__⟩ := F.says.def_ 2 (d := d_SwapLog___len__) rfl
  have K_SwapLog___len__ := k_SwapLog___len__ (P := P) (w := w) (base := base) F P_SwapLog___len__
  have B_SwapLog___len__ := bdP (K := K) rfl (bs_SwapLog___len__ P_SwapLog___len__)
  have L_SwapLog___len__ : ∀ (s : Shared) (u : Value), BindsTo s fd_SwapLog___len__ ⟨[u], []⟩ [("self", u)] := fun s u => bs_SwapLog___len__ P_SwapLog___len__ s [u] rfl
  obtain ⟨fd_SwapLog_entries, P_SwapLog_entries⟩ := F.says.def_ 3 (d := d_SwapLog_entries) rfl
  have K_SwapLog_entries := k_SwapLog_entries (P := P) (w := w) (base := base) F P_SwapLog_entries
  have B_SwapLog_entries := bdP (K := K) rfl (bs_SwapLog_entries P_SwapLog_entries)
  obtain ⟨fd_SwapLog_remove_entry, P_SwapLog_remove_entry⟩ := F.says.def_ 30 (d := d_SwapLog_remove_entry) rfl
  have K_SwapLog_remove_entry := k_SwapLog_remove_entry (P := P) (w := w) (base := base) F P_SwapLog_remove_entry
  have B_SwapLog_remove_entry := bdP (K := K) rfl (bs_SwapLog_remove_entry P_SwapLog_remove_entry)
  obtain ⟨fd_SwapLog_clone, P_SwapLog_clone⟩ := F.says.def_ 31 (d := d_SwapLog_clone) rfl
  have K_SwapLog_clone := k_SwapLog_clone (P := P) (w := w) (base := base) F P_SwapLog_clone
  have B_SwapLog_clone := bdP (K := K) rfl (bs_SwapLog_clone P_SwapLog_clone)
  obtain ⟨fd__law_replayed, P__law_replayed⟩ := F.says.def_ 33 (d := d__law_replayed) rfl
  have K__law_replayed := k__law_replayed (P := P) (w := w) (base := base) F P__law_replayed
  have B__law_replayed := bdP (K := K) rfl (bs__law_replayed P__law_replayed)
  obtain ⟨fd__law_choice, P__law_choice⟩ := F.says.def_ 23 (d := d__law_choice) rfl
  have K__law_choice := k__law_choice (P := P) (w := w) (base := base) F P__law_choice
  have B__law_choice := bdP (K := K) rfl (bs__law_choice P__law_choice)
  obtain ⟨fd__law_draw, P__law_draw⟩ := F.says.def_ 6 (d := d__law_draw) rfl
  have K__law_draw := k__law_draw (P := P) (w := w) (base := base) F P__law_draw
  have B__law_draw := bdP (K := K) rfl (bs__law_draw P__law_draw)
  exact r_cons (r_set (i := 3) b (by rfl) (.inl (by kernel_rfl)) (s_b c_len (gl (by kernel_rfl)) (F.free 4) (by decide +kernel) (s_cons (s_dix b.hu1 (s_var (pe_var (i := 2) (by rfl) (.inl (by kernel_rfl)))) (s_str)) (s_nil))))
    (r_cons (r_if (s_tcmp (o_eq b.hu64) (s_var (pe_var (i := 3) (by rfl) (.inl (by kernel_rfl)))) (s_int) (nomark _)) (r_one (r_rt (s_bl))) (r_nil))
    (r_cons (r_set (i := 4) b (by rfl) (.inl (by kernel_rfl)) (s_call b K__law_choice (by decide) (gl (by kernel_rfl)) (F.glo 47) P__law_choice.kp B__law_choice (s_cons (s_var (pe_var (i := 0) (by rfl) (.inl (by kernel_rfl)))) (s_cons (s_lst (s_cons (s_int) (s_cons (s_op o_sub (s_var (pe_var (i := 3) (by rfl) (.inl (by kernel_rfl)))) (s_int)) (s_cons (s_call b K__law_draw (by decide) (gl (by kernel_rfl)) (F.glo 20) P__law_draw.kp B__law_draw (s_cons (s_var (pe_var (i := 0) (by rfl) (.inl (by kernel_rfl)))) (s_cons (s_var (pe_var (i := 3) (by rfl) (.inl (by kernel_rfl)))) (s_nil))) s_knil) (s_nil))))) (s_nil))) s_knil))
    (r_cons (r_asg (s_call b K__law_replayed (by decide) (gl (by kernel_rfl)) (F.glo 58) P__law_replayed.kp B__law_replayed (s_cons (s_dix b.hu1 (s_var (pe_var (i := 2) (by rfl) (.inl (by kernel_rfl)))) (s_str)) (s_cons (s_dix b.hu1 (s_var (pe_var (i := 2) (by rfl) (.inl (by kernel_rfl)))) (s_str)) (s_cons (s_var (pe_var (i := 4) (by rfl) (.inl (by kernel_rfl)))) (s_nil)))) s_knil) (g_tp b (gs_cons (g_nm (i := 5) b (by rfl) (.inl (by kernel_rfl))) (gs_cons (g_nm (i := 6) b (by rfl) (.inl (by kernel_rfl))) (gs_nil)))))
    (r_cons (r_par (i := 7) (j := 8) b (by rfl) (by rfl) (by decide) (by kernel_rfl) (by kernel_rfl) (s_cons (s_meth0 b (s_var (pe_var (i := 1) (by rfl) (.inl (by kernel_rfl)))) (F.cls 9) (F.meth 56) K_SwapLog_clone (by decide) B_SwapLog_clone) (s_cons (s_b (c_repr b) (gl (by kernel_rfl)) (F.free 5) (by decide +kernel) (s_cons (s_lst (s_cons (s_meth0 b (s_var (pe_var (i := 1) (by rfl) (.inl (by kernel_rfl)))) (F.cls 9) (F.meth 17) K_SwapLog_order (by decide) B_SwapLog_order) (s_cons (s_meth0 b (s_var (pe_var (i := 1) (by rfl) (.inl (by kernel_rfl)))) (F.cls 9) (F.meth 15) K_SwapLog_entries (by decide) B_SwapLog_entries) (s_nil)))) (s_nil))) (s_nil))) (by kernel_rfl) (by kernel_rfl))
    (r_cons (r_set (i := 9) b (by rfl) (.inl (by kernel_rfl)) (s_meth b (s_var (pe_var (i := 1) (by rfl) (.inl (by kernel_rfl)))) (F.cls 9) (F.meth 55) K_SwapLog_remove_entry (by decide) B_SwapLog_remove_entry (s_cons (s_var (pe_var (i := 4) (by rfl) (.inl (by kernel_rfl)))) (s_nil)) s_knil))
    (r_cons (r_if ((s_wor (s_tcmp (o_ne b.hu64) (s_b (c_repr b) (gl (by kernel_rfl)) (F.free 5) (by decide +kernel) (s_cons (s_var (pe_var (i := 9) (by rfl) (.inl (by kernel_rfl)))) (s_nil))) (s_b (c_repr b) (gl (by kernel_rfl)) (F.free 5) (by decide +kernel) (s_cons (s_var (pe_var (i := 6) (by rfl) (.inl (by kernel_rfl)))) (s_nil))) (nomark _)) (s_wor1 (s_tcmp (o_ne b.hu64) (s_b (c_repr b) (gl (by kernel_rfl)) (F.free 5) (by decide +kernel) (s_cons (s_lst (s_cons (s_meth0 b (s_var (pe_var (i := 7) (by rfl) (.inl (by kernel_rfl)))) (F.cls 9) (F.meth 17) K_SwapLog_order (by decide) B_SwapLog_order) (s_cons (s_meth0 b (s_var (pe_var (i := 7) (by rfl) (.inl (by kernel_rfl)))) (F.cls 9) (F.meth 15) K_SwapLog_entries (by decide) B_SwapLog_entries) (s_nil)))) (s_nil))) (s_var (pe_var (i := 8) (by rfl) (.inl (by kernel_rfl)))) (nomark _)))).pt) (r_one (r_rt (s_bl))) (r_nil))
    (r_cons (r_ex (s_bm PySem.F.plainAttrs_list PySem.F.slot_list_append PySem.F.type_list_append m_append (s_var (pe_var (i := 9) (by rfl) (.inl (by kernel_rfl)))) (s_cons (s_non) (s_nil))))
    (r_cons (r_asg (s_tup (s_cons (s_dix b.hu1 (s_var (pe_var (i := 5) (by rfl) (.inl (by kernel_rfl)))) (s_str)) (s_cons (s_dix b.hu1 (s_var (pe_var (i := 5) (by rfl) (.inl (by kernel_rfl)))) (s_str)) (s_nil)))) (g_tp b (gs_cons (g_put b (s_var (pe_var (i := 2) (by rfl) (.inl (by kernel_rfl)))) (s_str)) (gs_cons (g_put b (s_var (pe_var (i := 2) (by rfl) (.inl (by kernel_rfl)))) (s_str)) (gs_nil)))))
    (r_cons (r_if (s_tcmp (o_ne b.hu64) (s_b c_len (gl (by kernel_rfl)) (F.free 4) (by decide +kernel) (s_cons (s_call b K__law_inverted (by decide) (gl (by kernel_rfl)) (F.glo 51) P__law_inverted.kp B__law_inverted (s_cons (s_dix b.hu1 (s_var (pe_var (i := 2) (by rfl) (.inl (by kernel_rfl)))) (s_str)) (s_cons (s_meth0 b (s_var (pe_var (i := 1) (by rfl) (.inl (by kernel_rfl)))) (F.cls 9) (F.meth 17) K_SwapLog_order (by decide) B_SwapLog_order) (s_nil))) s_knil) (s_nil))) (s_b (c_lenI b K_SwapLog___len__ (by decide) (F.meth 14) L_SwapLog___len__) (gl (by kernel_rfl)) (F.free 4) (by decide +kernel) (s_cons (s_var (pe_var (i := 1) (by rfl) (.inl (by kernel_rfl)))) (s_nil))) (nomark _)) (r_one (r_rt (s_bl))) (r_nil))
    (r_one (r_rt (s_call b K__law_is (by decide) (gl (by kernel_rfl)) (F.glo 18) P__law_is.kp B__law_is (s_cons (s_var (pe_var (i := 1) (by rfl) (.inl (by kernel_rfl)))) (s_cons (s_var (pe_var (i := 2) (by rfl) (.inl (by kernel_rfl)))) (s_nil))) s_knil))))))))))))
abbrev D_check_items (K : PySem.W.Frag) (fd : FuncData) : Prop := FunD K d_check_items.name d_check_items.qual d_check_items.params d_check_items.body d_check_items.scope (d_check_items.dvs K) (d_check_items.kws K) (He.fAd K d_check_items.at_) fd
theorem bs_check_items (D : D_check_items K fd) (s : Shared) (us : List Value) (h : us.length = (["items"] : List Str).length) : BindsTo s fd ⟨us, []⟩ ((["items"] : List Str).zip us) := FunD.bindsA (ps := (["items"] : List Str)) D (fun _ _ _ _ _ _ us hl => match us, hl with | [_], _ => rfl) s us h
theorem sc_check_items : FnScope (["items", "known", "position", "item"] : List Str) (["items"] : List Str) d_check_items.scope := ⟨by kernel_rfl, by kernel_rfl, by kernel_rfl, by decide +kernel, by kernel_rfl, by decide +kernel, by decide +kernel⟩
theorem k_check_items (F : Ft fa fn K mg) (D : D_check_items K fd) : FnG P w K mg base 2 (He.fAd K d_check_items.at_) fd (["items"] : List Str) f_check_items := by
  refine fn_g D sc_check_items fun cdv A outer s H b => ?_
  obtain ⟨fd_is_name, P_is_name⟩ := F.says.def_ 15 (d := d_is_name) rfl
  have K_is_name := k_is_name (P := P) (w := w) (base := base) F P_is_name
  have B_is_name := bdP (K := K) rfl (bs_is_name P_is_name)
  exact r_cons (r_if (s_tnot (s_tru (s_isi (gl (by kernel_rfl)) (F.free 24) (gl (by kernel_rfl)) (F.free 6) (by decide +kernel) (s_var (pe_var (i := 0) (by rfl) (.inl (by kernel_rfl))))))) (r_one (r_no)) (r_nil))
    (r_cons (r_set (i := 1) b (by rfl) (.inl (by kernel_rfl)) (s_dK))
    (r_cons (r_for b (i_e (gl (by kernel_rfl)) (F.free 43) (s_cons (s_var (pe_var (i := 0) (by rfl) (.inl (by kernel_rfl)))) (s_nil))) (g_tp b (gs_cons (g_nm (i := 2) b (by rfl) (.inl (by kernel_rfl))) (gs_cons (g_nm (i := 3) b (by rfl) (.inl (by kernel_rfl))) (gs_nil)))) (r_cons (r_if (s_tnot (s_tru (s_call b K_is_name (by decide) (gl (by kernel_rfl)) (F.glo 34) P_is_name.kp B_is_name (s_cons (s_var (pe_var (i := 3) (by rfl) (.inl (by kernel_rfl)))) (s_nil)) s_knil))) (r_one (r_no)) (r_nil))
    (r_cons (r_if (s_tcmp (o_in b.hu) (s_var (pe_var (i := 3) (by rfl) (.inl (by kernel_rfl)))) (s_var (pe_var (i := 1) (by rfl) (.inl (by kernel_rfl)))) (by kernel_rfl)) (r_one (r_no)) (r_nil))
    (r_one (r_asg (s_bl) (g_put b (s_var (pe_var (i := 1) (by rfl) (.inl (by kernel_rfl)))) (s_var (pe_var (i := 3) (by rfl) (.inl (by kernel_rfl))))))))))
    (r_one (r_if (s_tnot (s_tchain o_le o_le (s_int) (s_b c_len (gl (by kernel_rfl)) (F.free 4) (by decide +kernel) (s_cons (s_var (pe_var (i := 0) (by rfl) (.inl (by kernel_rfl)))) (s_nil))) (s_gint (gl (by kernel_rfl)) (F.int 60)))) (r_one (r_no)) (r_nil)))))
abbrev D_Base___init__ (K : PySem.W.Frag) (fd : FuncData) : Prop := FunD K d_Base___init__.name d_Base___init__.qual d_Base___init__.params d_Base___init__.body d_Base___init__.scope (d_Base___init__.dvs K) (d_Base___init__.kws K) (He.fAd K d_Base___init__.at_) fd
theorem bs_Base___init__ (D : D_Base___init__ K fd) (s : Shared) (us : List Value) (h : us.length = (["self", "items"] : List Str).length) : BindsTo s fd ⟨us, []⟩ ((["self", "items"] : List Str).zip us) := FunD.bindsA (ps := (["self", "items"] : List Str)) D (fun _ _ _ _ _ _ us hl => match us, hl with | [_, _], _ => rfl) s us h
theorem sc_Base___init__ : FnScope (["self", "items", "position", "item"] : List Str) (["self", "items"] : List Str) d_Base___init__.scope := ⟨by kernel_rfl, by kernel_rfl, by kernel_rfl, by decide +kernel, by kernel_rfl, by decide +kernel, by decide +kernel⟩
theorem k_Base___init__ (F : Ft fa fn K mg) (D : D_Base___init__ K fd) : FnG P w K mg base 3 (He.fAd K d_Base___init__.at_) fd (["self", "items"] : List Str) f_Base___init__ := by
  refine fn_g D sc_Base___init__ fun cdv A outer s H b => ?_
  obtain ⟨fd_check_items, P_check_items⟩ := F.says.def_ 35 (d := d_check_items) rfl
  have K_check_items := k_check_items (P := P) (w := w) (base := base) F P_check_items
  have B_check_items := bdP (K := K) rfl (bs_check_items P_check_items)
  exact r_cons (r_ex (s_call b K_check_items (by decide) (gl (by kernel_rfl)) (F.glo 61) P_check_items.kp B_check_items (s_cons (s_var (pe_var (i := 1) (by rfl) (.inl (by kernel_rfl)))) (s_nil)) s_knil))
    (r_cons (r_fld (s_var (pe_var (i := 0) (by rfl) (.inl (by kernel_rfl)))) (s_ty c_list (gl (by kernel_rfl)) (F.free 6) (by decide +kernel) (s_cons (s_var (pe_var (i := 1) (by rfl) (.inl (by kernel_rfl)))) (s_nil))) (F.cls 7) (F.noat 8))
    (r_one (r_fld (s_var (pe_var (i := 0) (by rfl) (.inl (by kernel_rfl)))) ((s_dc (own := [("position", 2), ("item", 3)]) (t := .tp [.nm 2, .nm 3]) b (i_e (gl (by kernel_rfl)) (F.free 43) (s_cons (s_var (pe_var (i := 1) (by rfl) (.inl (by kernel_rfl)))) (s_nil))) (blk_ok (by kernel_rfl)) (by rfl) (fun s H C cl fp b1 => t_tp b1 (ts_cons (t_nm (i := 2) b1 (by rfl) (.inl (by kernel_rfl))) (ts_cons (t_nm (i := 3) b1 (by rfl) (.inl (by kernel_rfl))) (ts_nil)))) (fun s H C cl fp b1 => ts_yes) (fun s H C cl fp b1 => s_var (pe_var (i := 3) (by rfl) (.inl (by kernel_rfl)))) (fun s H C cl fp b1 => s_var (pe_var (i := 2) (by rfl) (.inl (by kernel_rfl))))).1) (F.cls 7) (F.noat 23))))
abbrev D__law_names (K : PySem.W.Frag) (fd : FuncData) : Prop := FunD K d__law_names.name d__law_names.qual d__law_names.params d__law_names.body d__law_names.scope (d__law_names.dvs K) (d__law_names.kws K) (He.fAd K d__law_names.at_) fd
theorem bs__law_names (D : D__law_names K fd) (s : Shared) (us : List Value) (h : us.length = (["_law_rng_here", "_law_many", "_law_used"] : List Str).length) : BindsTo s fd ⟨us, []⟩ ((["_law_rng_here", "_law_many", "_law_used"] : List Str).zip us) := FunD.bindsA (ps := (["_law_rng_here", "_law_many", "_law_used"] : List Str)) D (fun _ _ _ _ _ _ us hl => match us, hl with | [_, _, _], _ => rfl) s us h
theorem sc__law_names : FnScope (["_law_rng_here", "_law_many", "_law_used", "_law_result", "_law_k"] : List Str) (["_law_rng_here", "_law_many", "_law_used"] : List Str) d__law_names.scope := ⟨by kernel_rfl, by kernel_rfl, by kernel_rfl, by decide +kernel, by kernel_rfl, by decide +kernel, by decide +kernel⟩
theorem k__law_names (F : Ft fa fn K mg) (D : D__law_names K fd) : FnG P w K mg base 3 (He.fAd K d__law_names.at_) fd (["_law_rng_here", "_law_many", "_law_used"] : List Str) f__law_names := by
  refine fn_g D sc__law_names fun cdv A outer s H b => ?_
  obtain ⟨fd__law_name, P__law_name⟩ := F.says.def_ 24 (d := d__law_name) rfl
  have K__law_name := k__law_name (P := P) (w := w) (base := base) F P__law_name
  have B__law_name := bdP (K := K) rfl (bs__law_name P__law_name)
  exact r_cons (r_set (i := 3) b (by rfl) (.inl (by kernel_rfl)) (s_lst (s_nil)))
    (r_cons (r_for b (i_r1 (gl (by kernel_rfl)) (F.free 1) (s_cons (s_var (pe_var (i := 1) (by rfl) (.inl (by kernel_rfl)))) (s_nil))) (g_nm (i := 4) b (by rfl) (.inl (by kernel_rfl))) (r_one (r_ex (s_bm PySem.F.plainAttrs_list PySem.F.slot_list_append PySem.F.type_list_append m_append (s_var (pe_var (i := 3) (by rfl) (.inl (by kernel_rfl)))) (s_cons (s_call b K__law_name (by decide) (gl (by kernel_rfl)) (F.glo 46) P__law_name.kp B__law_name (s_cons (s_var (pe_var (i := 0) (by rfl) (.inl (by kernel_rfl)))) (s_cons (s_op o_add (s_var (pe_var (i := 2) (by rfl) (.inl (by kernel_rfl)))) (s_var (pe_var (i := 3) (by rfl) (.inl (by kernel_rfl))))) (s_nil))) s_knil) (s_nil))))))
    (r_one (r_rt (s_var (pe_var (i := 3) (by rfl) (.inl (by kernel_rfl)))))))
abbrev D__law_right (K : PySem.W.Frag) (fd : FuncData) : Prop := FunD K d__law_right.name d__law_right.qual d__law_right.params d__law_right.body d__law_right.scope (d__law_right.dvs K) (d__law_right.kws K) (He.fAd K d__law_right.at_) fd
theorem bs__law_right (D : D__law_right K fd) (s : Shared) (us : List Value) (h : us.length = (["_law_rng_here"] : List Str).length) : BindsTo s fd ⟨us, []⟩ ((["_law_rng_here"] : List Str).zip us) := FunD.bindsA (ps := (["_law_rng_here"] : List Str)) D (fun _ _ _ _ _ _ us hl => match us, hl with | [_], _ => rfl) s us h
theorem sc__law_right : FnScope (["_law_rng_here", "_law_items", "_law_log", "_law_state", "_law_turn", "_law_time"] : List Str) (["_law_rng_here"] : List Str) d__law_right.scope := ⟨by kernel_rfl, by kernel_rfl, by kernel_rfl, by decide +kernel, by kernel_rfl, by decide +kernel, by decide +kernel⟩
theorem k__law_right (F : Ft fa fn K mg) (D : D__law_right K fd) : FnG P w K mg base 9 (He.fAd K d__law_right.at_) fd (["_law_rng_here"] : List Str) f__law_right := by
  refine fn_g D sc__law_right fun cdv A outer s H b => ?_
  obtain ⟨fd__law_is, P__law_is⟩ := F.says.def_ 5 (d := d__law_is) rfl
  have K__law_is := k__law_is (P := P) (w := w) (base := base) F P__law_is
  have B__law_is := bdP (K := K) rfl (bs__law_is P__law_is)
  obtain ⟨fd__law_draw, P__law_draw⟩ := F.says.def_ 6 (d := d__law_draw) rfl
  have K__law_draw := k__law_draw (P := P) (w := w) (base := base) F P__law_draw
  have B__law_draw := bdP (K := K) rfl (bs__law_draw P__law_draw)
  obtain ⟨fd__law_swapped, P__law_swapped⟩ := F.says.def_ 26 (d := d__law_swapped) rfl
  have K__law_swapped := k__law_swapped (P := P) (w := w) (base := base) F P__law_swapped
  have B__law_swapped := bdP (K := K) rfl (bs__law_swapped P__law_swapped)
  obtain ⟨fd__law_removed, P__law_removed⟩ := F.says.def_ 34 (d := d__law_removed) rfl
  have K__law_removed := k__law_removed (P := P) (w := w) (base := base) F P__law_removed
  have B__law_removed := bdP (K := K) rfl (bs__law_removed P__law_removed)
  obtain ⟨fd__law_begun, P__law_begun⟩ := F.says.def_ 32 (d := d__law_begun) rfl
  have K__law_begun := k__law_begun (P := P) (w := w) (base := base) F P__law_begun
  have B__law_begun := bdP (K := K) rfl (bs__law_begun P__law_begun)
  obtain ⟨fd_SwapLog___init__, P_SwapLog___init__⟩ := F.says.def_ 28 (d := d_SwapLog___init__) rfl
  have K_SwapLog___init__ := k_SwapLog___init__ (P := P) (w := w) (base := base) F P_SwapLog___init__
  have B_SwapLog___init__ := bdP (K := K) rfl (bs_SwapLog___init__ P_SwapLog___init__)
  obtain ⟨fd_Base___init__, P_Base___init__⟩ := F.says.def_ 36 (d := d_Base___init__) rfl
  have K_Base___init__ := k_Base___init__ (P := P) (w := w) (base := base) F P_Base___init__
  have B_Base___init__ := bdP (K := K) rfl (bs_Base___init__ P_Base___init__)
  obtain ⟨fd__law_names, P__law_names⟩ := F.says.def_ 37 (d := d__law_names) rfl
  have K__law_names := k__law_names (P := P) (w := w) (base := base) F P__law_names
  have B__law_names := bdP (K := K) rfl (bs__law_names P__law_names)
  exact r_cons (r_set (i := 1) b (by rfl) (.inl (by kernel_rfl)) (s_call b K__law_names (by decide) (gl (by kernel_rfl)) (F.glo 64) P__law_names.kp B__law_names (s_cons (s_var (pe_var (i := 0) (by rfl) (.inl (by kernel_rfl)))) (s_cons (s_ix (s_lst (s_cons (s_op o_add (s_int) (s_call b K__law_draw (by decide) (gl (by kernel_rfl)) (F.glo 20) P__law_draw.kp B__law_draw (s_cons (s_var (pe_var (i := 0) (by rfl) (.inl (by kernel_rfl)))) (s_cons (s_int) (s_nil))) s_knil)) (s_cons (s_int) (s_nil)))) (s_op o_fdiv (s_call b K__law_draw (by decide) (gl (by kernel_rfl)) (F.glo 20) P__law_draw.kp B__law_draw (s_cons (s_var (pe_var (i := 0) (by rfl) (.inl (by kernel_rfl)))) (s_cons (s_int) (s_nil))) s_knil) (s_int))) (s_cons (s_lst (s_nil)) (s_nil)))) s_knil))
    (r_cons (r_par (i := 2) (j := 3) b (by rfl) (by rfl) (by decide) (by kernel_rfl) (by kernel_rfl) (s_cons (s_make (D := "SwapLog") b (F.mkr 52) K_SwapLog___init__ (by decide) (gl (by kernel_rfl)) (F.glo 53) B_SwapLog___init__ (s_cons (s_make (D := "Base") b (F.mkr 62) K_Base___init__ (by decide) (gl (by kernel_rfl)) (F.glo 63) B_Base___init__ (s_cons (s_var (pe_var (i := 1) (by rfl) (.inl (by kernel_rfl)))) (s_nil)) s_knil) (s_nil)) s_knil) (s_cons (s_call b K__law_begun (by decide) (gl (by kernel_rfl)) (F.glo 57) P__law_begun.kp B__law_begun (s_cons (s_var (pe_var (i := 1) (by rfl) (.inl (by kernel_rfl)))) (s_nil)) s_knil) (s_nil))) (by kernel_rfl) (by kernel_rfl))
    (r_cons (r_for b (i_r1 (gl (by kernel_rfl)) (F.free 1) (s_cons (s_call b K__law_draw (by decide) (gl (by kernel_rfl)) (F.glo 20) P__law_draw.kp B__law_draw (s_cons (s_var (pe_var (i := 0) (by rfl) (.inl (by kernel_rfl)))) (s_cons (s_int) (s_nil))) s_knil) (s_nil))) (g_nm (i := 4) b (by rfl) (.inl (by kernel_rfl))) (r_one (r_if (s_tnot (s_tru (s_call b K__law_swapped (by decide) (gl (by kernel_rfl)) (F.glo 49) P__law_swapped.kp B__law_swapped (s_cons (s_var (pe_var (i := 0) (by rfl) (.inl (by kernel_rfl)))) (s_cons (s_var (pe_var (i := 2) (by rfl) (.inl (by kernel_rfl)))) (s_cons (s_var (pe_var (i := 3) (by rfl) (.inl (by kernel_rfl)))) (s_nil)))) s_knil))) (r_one (r_rt (s_bl))) (r_nil))))
    (r_cons (r_for b (i_r1 (gl (by kernel_rfl)) (F.free 1) (s_cons (s_call b K__law_draw (by decide) (gl (by kernel_rfl)) (F.glo 20) P__law_draw.kp B__law_draw (s_cons (s_var (pe_var (i := 0) (by rfl) (.inl (by kernel_rfl)))) (s_cons (s_int) (s_nil))) s_knil) (s_nil))) (g_nm (i := 4) b (by rfl) (.inl (by kernel_rfl))) (r_cons (r_if ((s_wor (s_tnot (s_tru (s_call b K__law_is (by decide) (gl (by kernel_rfl)) (F.glo 18) P__law_is.kp B__law_is (s_cons (s_var (pe_var (i := 2) (by rfl) (.inl (by kernel_rfl)))) (s_cons (s_var (pe_var (i := 3) (by rfl) (.inl (by kernel_rfl)))) (s_nil))) s_knil))) (s_wor1 (s_tnot (s_tru (s_call b K__law_removed (by decide) (gl (by kernel_rfl)) (F.glo 59) P__law_removed.kp B__law_removed (s_cons (s_var (pe_var (i := 0) (by rfl) (.inl (by kernel_rfl)))) (s_cons (s_var (pe_var (i := 2) (by rfl) (.inl (by kernel_rfl)))) (s_cons (s_var (pe_var (i := 3) (by rfl) (.inl (by kernel_rfl)))) (s_nil)))) s_knil))))).pt) (r_one (r_rt (s_bl))) (r_nil))
    (r_one (r_for b (i_r1 (gl (by kernel_rfl)) (F.free 1) (s_cons (s_call b K__law_draw (by decide) (gl (by kernel_rfl)) (F.glo 20) P__law_draw.kp B__law_draw (s_cons (s_var (pe_var (i := 0) (by rfl) (.inl (by kernel_rfl)))) (s_cons (s_int) (s_nil))) s_knil) (s_nil))) (g_nm (i := 5) b (by rfl) (.inl (by kernel_rfl))) (r_one (r_if (s_tnot (s_tru (s_call b K__law_swapped (by decide) (gl (by kernel_rfl)) (F.glo 49) P__law_swapped.kp B__law_swapped (s_cons (s_var (pe_var (i := 0) (by rfl) (.inl (by kernel_rfl)))) (s_cons (s_var (pe_var (i := 2) (by rfl) (.inl (by kernel_rfl)))) (s_cons (s_var (pe_var (i := 3) (by rfl) (.inl (by kernel_rfl)))) (s_nil)))) s_knil))) (r_one (r_rt (s_bl))) (r_nil)))))))
    (r_one (r_rt (s_call b K__law_is (by decide) (gl (by kernel_rfl)) (F.glo 18) P__law_is.kp B__law_is (s_cons (s_var (pe_var (i := 2) (by rfl) (.inl (by kernel_rfl)))) (s_cons (s_var (pe_var (i := 3) (by rfl) (.inl (by kernel_rfl)))) (s_nil))) s_knil))))))
abbrev D__law_rng (K : PySem.W.Frag) (fd : FuncData) : Prop := FunD K d__law_rng.name d__law_rng.qual d__law_rng.params d__law_rng.body d__law_rng.scope (d__law_rng.dvs K) (d__law_rng.kws K) (He.fAd K d__law_rng.at_) fd
theorem bs__law_rng (D : D__law_rng K fd) (s : Shared) (us : List Value) (h : us.length = (["_law_script", "_law_k"] : List Str).length) : BindsTo s fd ⟨us, []⟩ ((["_law_script", "_law_k"] : List Str).zip us) := FunD.bindsA (ps := (["_law_script", "_law_k"] : List Str)) D (fun _ _ _ _ _ _ us hl => match us, hl with | [_, _], _ => rfl) s us h
theorem sc__law_rng : FnScope (["_law_script", "_law_k", "_law_cell"] : List Str) (["_law_script", "_law_k"] : List Str) d__law_rng.scope := ⟨by kernel_rfl, by kernel_rfl, by kernel_rfl, by decide +kernel, by kernel_rfl, by decide +kernel, by decide +kernel⟩
theorem k__law_rng (F : Ft fa fn K mg) (D : D__law_rng K fd) : FnG P w K mg base 1 (He.fAd K d__law_rng.at_) fd (["_law_script", "_law_k"] : List Str) f__law_rng := by
  refine fn_g D sc__law_rng fun cdv A outer s H b => ?_
  exact r_cons (r_set (i := 2) b (by rfl) (.inl (by kernel_rfl)) (s_ife (s_tcmp o_lt (s_var (pe_var (i := 1) (by rfl) (.inl (by kernel_rfl)))) (s_b c_len (gl (by kernel_rfl)) (F.free 4) (by decide +kernel) (s_cons (s_var (pe_var (i := 0) (by rfl) (.inl (by kernel_rfl)))) (s_nil))) (nomark _)) (s_b c_abs (gl (by kernel_rfl)) (F.free 65) (by decide +kernel) (s_cons (s_ix (s_var (pe_var (i := 0) (by rfl) (.inl (by kernel_rfl)))) (s_var (pe_var (i := 1) (by rfl) (.inl (by kernel_rfl))))) (s_nil))) (s_int)))
    (r_one (r_rt (s_lst (s_cons (s_b (c_max b) (gl (by kernel_rfl)) (F.free 2) (by decide +kernel) (s_cons (s_int) (s_cons (s_op o_sub (s_var (pe_var (i := 2) (by rfl) (.inl (by kernel_rfl)))) (s_op o_pow (s_int) (s_int))) (s_nil)))) (s_cons (s_op o_add (s_op o_mod (s_op o_pow (s_op o_add (s_op o_add (s_op o_mod (s_var (pe_var (i := 2) (by rfl) (.inl (by kernel_rfl)))) (s_int)) (s_op o_mul (s_int) (s_var (pe_var (i := 1) (by rfl) (.inl (by kernel_rfl)))))) (s_int)) (s_int)) (s_int)) (s_int)) (s_nil))))))
abbrev D_law (K : PySem.W.Frag) (fd : FuncData) : Prop := FunD K d_law.name d_law.qual d_law.params d_law.body d_law.scope (d_law.dvs K) (d_law.kws K) (He.fAd K d_law.at_) fd
theorem bs_law (D : D_law K fd) (s : Shared) (us : List Value) (h : us.length = (["_law_script"] : List Str).length) : BindsTo s fd ⟨us, []⟩ ((["_law_script"] : List Str).zip us) := FunD.bindsA (ps := (["_law_script"] : List Str)) D (fun _ _ _ _ _ _ us hl => match us, hl with | [_], _ => rfl) s us h
theorem sc_law : FnScope (["_law_script", "_law_k"] : List Str) (["_law_script"] : List Str) d_law.scope := ⟨by kernel_rfl, by kernel_rfl, by kernel_rfl, by decide +kernel, by kernel_rfl, by decide +kernel, by decide +kernel⟩
theorem k_law (F : Ft fa fn K mg) (D : D_law K fd) : FnG P w K mg base 10 (He.fAd K d_law.at_) fd (["_law_script"] : List Str) f_law := by
  refine fn_g D sc_law fun cdv A outer s H b => ?_
  obtain ⟨fd__law_right, P__law_right⟩ := F.says.def_ 38 (d := d__law_right) rfl
  have K__law_right := k__law_right (P := P) (w := w) (base := base) F P__law_right
  have B__law_right := bdP (K := K) rfl (bs__law_right P__law_right)
  obtain ⟨fd__law_rng, P__law_rng⟩ := F.says.def_ 39 (d := d__law_rng) rfl
  have K__law_rng := k__law_rng (P := P) (w := w) (base := base) F P__law_rng
  have B__law_rng := bdP (K := K) rfl (bs__law_rng P__law_rng)
  exact r_one (r_rt (s_b (c_all b) (gl (by kernel_rfl)) (F.free 0) (by decide +kernel) (s_cons ((s_lc (own := [("_law_k", 1)]) (t := .nm 1) b (i_r1 (gl (by kernel_rfl)) (F.free 1) (s_cons (s_b (c_max b) (gl (by kernel_rfl)) (F.free 2) (by decide +kernel) (s_cons (s_int) (s_cons (s_b (c_min b) (gl (by kernel_rfl)) (F.free 3) (by decide +kernel) (s_cons (s_b c_len (gl (by kernel_rfl)) (F.free 4) (by decide +kernel) (s_cons (s_var (pe_var (i := 0) (by rfl) (.inr (.inl (by kernel_rfl))))) (s_nil))) (s_cons (s_int) (s_nil)))) (s_nil)))) (s_nil))) (blk_ok (by kernel_rfl)) (by rfl) (fun s H C cl fp b1 => t_nm (i := 1) b1 (by rfl) (.inl (by kernel_rfl))) (fun s H C cl fp b1 => ts_yes) (fun s H C cl fp b1 => s_call b1 K__law_right (by decide) (gl (by kernel_rfl)) (F.glo 67) P__law_right.kp B__law_right (s_cons (s_call b1 K__law_rng (by decide) (gl (by kernel_rfl)) (F.glo 66) P__law_rng.kp B__law_rng (s_cons (s_var (pe_var (i := 0) (by rfl) (.inr (.inl (by kernel_rfl))))) (s_cons (s_var (pe_var (i := 1) (by rfl) (.inl (by kernel_rfl)))) (s_nil))) s_knil) (s_nil)) s_knil)).1) (s_nil))))
end
def loose : List PySem.Str := [PySem.Str.ofString "_wall", PySem.Str.ofString "__name__", PySem.Str.ofString "OrderError", PySem.Str.ofString "InvalidBase", PySem.Str.ofString "InvalidIndex", PySem.Str.ofString "InvalidReason", PySem.Str.ofString "InvalidPosition", PySem.Str.ofString "UnknownItem", PySem.Str.ofString "MAX_ITEMS", PySem.Str.ofString "MAX_LETTERS", PySem.Str.ofString "LETTERS", PySem.Str.ofString "is_name", PySem.Str.ofString "check_items", PySem.Str.ofString "Base", PySem.Str.ofString "require_item", PySem.Str.ofString "is_integer", PySem.Str.ofString "require_index", PySem.Str.ofString "exchange", PySem.Str.ofString "is_upright", PySem.Str.ofString "NO_REASON", PySem.Str.ofString "require_reason", PySem.Str.ofString "SwapLog", PySem.Str.ofString "_law_rng", PySem.Str.ofString "_law_draw", PySem.Str.ofString "_law_choice", PySem.Str.ofString "_law_name", PySem.Str.ofString "_law_names", PySem.Str.ofString "_law_inverted", PySem.Str.ofString "_law_swapped_entries", PySem.Str.ofString "_law_begun", PySem.Str.ofString "_law_swap_done", PySem.Str.ofString "_law_label", PySem.Str.ofString "_law_swapped", PySem.Str.ofString "_law_is", PySem.Str.ofString "_law_replayed", PySem.Str.ofString "_law_removed", PySem.Str.ofString "_law_right"]
abbrev R : PySem.W.OpenRow := PySem.W.OpenLaw.row PySem.Challenge.rw_ordermerge_k25_whole_entries_removed
abbrev hk : PySem.W.Hook := He.hookD 6 fa fn
def ob (s : PySem.W.SharedT) : He.AlD := He.obsDG 6 fa fn (HandSHeadRun.getT s)
theorem ob_eq (s : PySem.W.SharedT) : ob s = hk.obs s.abs := He.obsDG_eq (HandSHeadRun.getT_eq s)
theorem run (w : World) : HandSHeadRun.RunEq R (PySem.W.view R.prog [41]) hk ob 4000 loose w := by
  intro os
  kernel_rfl
theorem facts {P : Program} {w : World} {K : PySem.W.Frag} {h : Heap} {mg : Str → Option Value} {fa1 : Addr} (KX : K.In h) (G : h.Ns mainGlobals mg) (hfa : mg ("law" : Str) = some (.ref fa1)) (c : He.SaysD fa fn K) :
    ∃ fd : FuncData, (∀ (s : Shared) (v : Value), BindsTo s fd ⟨[v], []⟩ [("_law_script", v)]) ∧ ∀ base : Heap, K.In base → base.Ns mainGlobals mg → FnG P w K mg base 10 fa1 fd ["_law_script"] f_law := by
  have F : Ft fa fn K mg := ⟨c, h, KX, G⟩
  obtain ⟨fd, D⟩ := c.def_ 40 (d := d_law) rfl
  have e := hfa.symm.trans (F.glo 68)
  cases e
  exact ⟨fd, fun s v => bs_law D s [v] rfl, fun base _ _ => k_law F D⟩
end Lw
open PySem PySem.W PySem.Calls PyProof.Rows
theorem PySem.Challenge.cw_ordermerge_k25_whole_entries_removed_holds : PySem.Challenge.rw_ordermerge_k25_whole_entries_removed.Holds := by
  w_on; o_law
  refine HandSHeadRun.head_any (r := OpenLaw.row PySem.Challenge.rw_ordermerge_k25_whole_entries_removed) (q := view (OpenLaw.row PySem.Challenge.rw_ordermerge_k25_whole_entries_removed).prog [41]) (H := Lw.hk) (ob := Lw.ob) (M := 4000) (loose := Lw.loose) (d := HandSHeadRun.topDef (OpenLaw.row PySem.Challenge.rw_ordermerge_k25_whole_entries_removed).prog 41) (kwd := []) Lw.ob_eq
    (by kernel_rfl) (fun s => by kernel_rfl) Lw.run (by kernel_rfl) (by kernel_rfl) (by kernel_rfl) (by rfl) (by first | assumption | decide +kernel) (by decide +kernel) ⟨rfl, rfl, rfl, rfl, rfl, by decide +kernel⟩ ?hw ?hc
  case hw => w_witness2
  case hc =>
    refine O.walk_law (l := PySem.Challenge.rw_ordermerge_k25_whole_entries_removed) (n := 63) (k := 10) (x := "_law_script") (m := Lw.f_law) rfl (by decide) (by kernel_rfl) ⟨rfl, by decide, by decide⟩ Lw.law_true ?F
    intro w mg fa1 h Y G hmg0
    obtain ⟨K, KX, c⟩ := Y
    have hmg : mg ("law" : PySem.Str) = some (.ref fa1) := by
      have e : (HandSHeadRun.topDef (OpenLaw.row PySem.Challenge.rw_ordermerge_k25_whole_entries_removed).prog 41).name = ("law" : PySem.Str) := by kernel_rfl
      rw [← e]
      exact hmg0
    obtain ⟨fd, hb, hF⟩ := Lw.facts (P := (PySem.Challenge.rw_ordermerge_k25_whole_entries_removed).prog) (w := w) KX G hmg c
    exact ⟨K, fd, KX, hb, hF⟩
