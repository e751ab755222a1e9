import PyProof.Rows.All
import Wide.All
import OpenK.AllK
import Wide.FinOn
import HandS.ForMost
import HandS.HeadHook2
import HandS.Defaults
import HandS.SetFor
import HandS.Strs
import PyProof.EqKinds
import PyProof.FactsAll.dict
import HandS.IsInst
import HandS.TupAny
import HandS.TupMul
import KE.KDictPairs
import HandS.DictComp
import HandS.Small
import HandS.Head2
import HandS.HeadEnd
import HandS.EndBits
import HandS.WordsExc
import PyProof.StrLawsIn
import PyProof.Rows.StrFit
import PySem.Challenge.RW_instances_k02_signatures_of_anything_sma
set_option Elab.async false
set_option linter.all false
set_option maxRecDepth 100000
set_option maxHeartbeats 4000000
/-! RX1: values as trees, a partial heap of what may change, and how the layer's abstract heap bears them. -/
namespace RX
open PySem PySem.Spec PyProof.Rows L2
abbrev SV := L2.St

/-- a value as a tree: tuples, lists and dicts that are not written any more are trees; ref: what may be written -/
inductive D where
  | non | bl (b : Bool) | int (i : Int) | str (x : Str) | tup (xs : List D) | lst (xs : List D) | dct (ks : List Key) (ds : List D) | ref (a : Addr) | ty (n : String) | wtp (xs : List D)
/-- what may be written -/
inductive DO where
  | lst (ds : List D) | dct (ks : List Key) (ds : List D) | ins (C : Str) (ks : List Str) (ds : List D)
abbrev MM := Addr → Option DO
def up (M : MM) (a : Addr) (o : DO) : MM := fun b => if b = a then some o else M b
def del (M : MM) (a : Addr) : MM := fun b => if b = a then none else M b
def Sub (M M' : MM) : Prop := ∀ a o, M a = some o → M' a = some o
theorem up_same {M : MM} {a : Addr} {o : DO} : up M a o a = some o := by unfold up; rw [if_pos rfl]
theorem up_ne {M : MM} {a b : Addr} {o : DO} (h : b ≠ a) : up M a o b = M b := by unfold up; rw [if_neg h]
theorem up_up {M : MM} {a : Addr} {o u : DO} : up (up M a o) a u = up M a u := by
  funext b; unfold up; split <;> rfl
theorem Sub.refl {M : MM} : Sub M M := fun _ _ h => h
theorem Sub.trans {M M1 M2 : MM} (a : Sub M M1) (b : Sub M1 M2) : Sub M M2 := fun x o h => b x o (a x o h)
theorem Sub.up {M M' : MM} {p : Addr} {o : DO} (s : Sub M M') (h : M p = none) : Sub M (up M' p o) := fun a u e => by
  have : a ≠ p := fun z => by rw [z, h] at e; cases e
  rw [up_ne this]; exact s a u e
theorem Sub.upd {M M' : MM} {p : Addr} {o : DO} (s : Sub M M') : Sub (RX.up M p o) (RX.up M' p o) := fun a u e => by
  by_cases z : a = p
  · subst z; rw [up_same] at e ⊢; exact e
  · rw [up_ne z] at e ⊢; exact s a u e
theorem Sub.none {M M' : MM} {p : Addr} (s : Sub M M') (h : M' p = none) : M p = none := by
  cases e : M p with
  | none => rfl
  | some o => rw [s p o e] at h; cases h

/-- a list that is not written any more -/
def FzL (K : PySem.W.Frag) (H : Hp) (a : Addr) (vs : List V) : Prop := (∃ o, H a = some (.frz o (.lst vs))) ∨
  ∃ (its : List Value) (n : Nat), K.lookup a = some { cls := .type "list", data := .seq its.toArray n } ∧ vs.length ≤ sizeLine ∧ Vals vs its
def LsR (K : PySem.W.Frag) (H : Hp) (a : Addr) (vs : List V) : Prop := H a = some (.lst vs) ∨ FzL K H a vs
theorem FzL.sql {K : PySem.W.Frag} {H : Hp} {a : Addr} {vs : List V} (h : FzL K H a vs) : SqL K H a vs := by
  rcases h with ⟨o, h⟩ | ⟨its, n, h1, h2, h3⟩
  · exact .inl (.inr ⟨o, h⟩)
  · exact .inr ⟨_, its.toArray, n, h1, rfl, rfl, rfl, by rw [List.size_toArray, ← h3.length]; exact h2, by simpa using h3⟩
theorem LsR.sql {K : PySem.W.Frag} {H : Hp} {a : Addr} {vs : List V} (h : LsR K H a vs) : SqL K H a vs := by
  rcases h with h | h
  · exact .inl (.inl h)
  · exact h.sql
/-- a tuple without a dict of its own -/
def TpS (K : PySem.W.Frag) (H : Hp) (a : Addr) (vs : List V) : Prop := (∃ o, H a = some (.frz o (.tup vs)) ∧ o.dict = none) ∨
  ∃ (o : Obj) (its : Array Value) (n : Nat), K.lookup a = some o ∧ o.cls = .type "tuple" ∧ o.dict = none ∧ o.data = .seq its n ∧ its.size ≤ sizeLine ∧ Vals vs its.toList
theorem TpS.sqt {K : PySem.W.Frag} {H : Hp} {a : Addr} {vs : List V} (h : TpS K H a vs) : SqT K H a vs := by
  rcases h with ⟨o, h, _⟩ | ⟨o, its, n, h1, h2, h3, h4⟩
  · exact .inl (.inr ⟨o, h⟩)
  · exact .inr ⟨o, its, n, h1, h2, h4⟩
mutual
def Rep (K : PySem.W.Frag) (H : Hp) : D → V → Prop
  | .non, v => v = .non
  | .bl b, v => v = .bl b
  | .int i, v => v = .int i
  | .str x, v => v = .str x
  | .ty n, v => v = .ty n
  | .ref a, v => v = .ref a
  | .tup ds, v => ∃ a vs, v = .ref a ∧ TpS K H a vs ∧ RepL K H ds vs
  | .wtp ds, v => ∃ a vs, v = .ref a ∧ SqT K H a vs ∧ RepL K H ds vs
  | .lst ds, v => ∃ a vs, v = .ref a ∧ FzL K H a vs ∧ RepL K H ds vs
  | .dct ks ds, v => ∃ a o vs, v = .ref a ∧ H a = some (.frz o (.dK (ks.zip vs))) ∧ ks.length = vs.length ∧ RepL K H ds vs
def RepL (K : PySem.W.Frag) (H : Hp) : List D → List V → Prop
  | [], vs => vs = []
  | d :: ds, vs => ∃ v r, vs = v :: r ∧ Rep K H d v ∧ RepL K H ds r
end
/-- tuples and what is frozen stay -/
structure KeepF (H H' : Hp) : Prop where
  tup : ∀ a xs, H a = some (.tup xs) → H' a = some (.tup xs)
  frz : ∀ a o u, H a = some (.frz o u) → H' a = some (.frz o u)
theorem KeepF.refl {H : Hp} : KeepF H H := ⟨fun _ _ h => h, fun _ _ _ h => h⟩
theorem KeepF.trans {H H1 H2 : Hp} (a : KeepF H H1) (b : KeepF H1 H2) : KeepF H H2 := ⟨fun x y h => b.tup x y (a.tup x y h), fun x y z h => b.frz x y z (a.frz x y z h)⟩
theorem KeepF.new {H : Hp} {p : Addr} {o : HO} (h : H p = none) : KeepF H (upd H p o) :=
  ⟨fun a xs e => by rw [upd_ne (ne_of_none e h)]; exact e, fun a o u e => by rw [upd_ne (ne_of_none e h)]; exact e⟩
theorem KeepF.mut {H : Hp} {p : Addr} {o : HO} (h : Mut (H p)) : KeepF H (upd H p o) :=
  ⟨fun a xs e => by
    have : a ≠ p := fun z => by rw [z] at e; rw [e] at h; exact h
    rw [upd_ne this]; exact e,
   fun a o u e => by
    have : a ≠ p := fun z => by rw [z] at e; rw [e] at h; exact h
    rw [upd_ne this]; exact e⟩
section
variable {K : PySem.W.Frag} {H H' : Hp}
theorem KeepF.rd {a : Addr} {xs : List V} (k : KeepF H H') (h : Rd H a (.tup xs)) : Rd H' a (.tup xs) := by
  rcases h with h | ⟨o, h⟩
  · exact .inl (k.tup _ _ h)
  · exact .inr ⟨o, k.frz _ _ _ h⟩
theorem KeepF.fzl {a : Addr} {xs : List V} (k : KeepF H H') (h : FzL K H a xs) : FzL K H' a xs := by
  rcases h with ⟨o, h⟩ | h
  · exact .inl ⟨o, k.frz _ _ _ h⟩
  · exact .inr h
theorem KeepF.tps {a : Addr} {xs : List V} (k : KeepF H H') (h : TpS K H a xs) : TpS K H' a xs := by
  rcases h with ⟨o, h, e⟩ | h
  · exact .inl ⟨o, k.frz _ _ _ h, e⟩
  · exact .inr h
theorem KeepF.sqt {a : Addr} {xs : List V} (k : KeepF H H') (h : SqT K H a xs) : SqT K H' a xs := by
  rcases h with h | h
  · exact .inl (k.rd h)
  · exact .inr h
end
mutual
theorem Rep.keep {K : PySem.W.Frag} {H H' : Hp} (k : KeepF H H') : ∀ {d : D} {v : V}, Rep K H d v → Rep K H' d v
  | .non, _, h => h
  | .bl _, _, h => h
  | .int _, _, h => h
  | .str _, _, h => h
  | .ty _, _, h => h
  | .ref _, _, h => h
  | .tup ds, v, h => by
    unfold Rep at h ⊢
    obtain ⟨a, vs, e, s, r⟩ := h
    exact ⟨a, vs, e, k.tps s, RepL.keep k r⟩
  | .wtp ds, v, h => by
    unfold Rep at h ⊢
    obtain ⟨a, vs, e, s, r⟩ := h
    exact ⟨a, vs, e, k.sqt s, RepL.keep k r⟩
  | .lst ds, v, h => by
    unfold Rep at h ⊢
    obtain ⟨a, vs, e, s, r⟩ := h
    exact ⟨a, vs, e, k.fzl s, RepL.keep k r⟩
  | .dct ks ds, v, h => by
    unfold Rep at h ⊢
    obtain ⟨a, o, vs, e, s, l, r⟩ := h
    exact ⟨a, o, vs, e, k.frz _ _ _ s, l, RepL.keep k r⟩
theorem RepL.keep {K : PySem.W.Frag} {H H' : Hp} (k : KeepF H H') : ∀ {ds : List D} {vs : List V}, RepL K H ds vs → RepL K H' ds vs
  | [], _, h => h
  | d :: ds, vs, h => by
    unfold RepL at h ⊢
    obtain ⟨v, r, e, h1, h2⟩ := h
    exact ⟨v, r, e, Rep.keep k h1, RepL.keep k h2⟩
end
section
variable {K : PySem.W.Frag} {H H' : Hp}
theorem RepL.nil : RepL K H [] [] := by unfold RepL; rfl
theorem RepL.cons {d : D} {v : V} {ds : List D} {vs : List V} (h : Rep K H d v) (r : RepL K H ds vs) : RepL K H (d :: ds) (v :: vs) := by
  unfold RepL; exact ⟨v, vs, rfl, h, r⟩
theorem RepL.cons_inv {d : D} {ds : List D} {vs : List V} (h : RepL K H (d :: ds) vs) : ∃ v r, vs = v :: r ∧ Rep K H d v ∧ RepL K H ds r := by
  unfold RepL at h; exact h
theorem RepL.nil_inv {vs : List V} (h : RepL K H [] vs) : vs = [] := by unfold RepL at h; exact h
theorem RepL.length : ∀ {ds : List D} {vs : List V}, RepL K H ds vs → ds.length = vs.length
  | [], _, h => by rw [h.nil_inv]; rfl
  | d :: ds, _, h => by
    obtain ⟨v, r, rfl, _, h2⟩ := h.cons_inv
    rw [List.length_cons, List.length_cons, RepL.length h2]
theorem RepL.append : ∀ {ds es : List D} {vs ws : List V}, RepL K H ds vs → RepL K H es ws → RepL K H (ds ++ es) (vs ++ ws)
  | [], _, _, _, h, g => by rw [h.nil_inv]; exact g
  | d :: ds, _, _, _, h, g => by
    obtain ⟨v, r, rfl, h1, h2⟩ := h.cons_inv
    exact .cons h1 (RepL.append h2 g)
theorem RepL.get : ∀ {ds : List D} {vs : List V} {i : Nat} {d : D}, RepL K H ds vs → ds[i]? = some d → ∃ v, vs[i]? = some v ∧ Rep K H d v
  | [], _, _, _, _, e => by simp at e
  | d :: ds, _, 0, _, h, e => by
    obtain ⟨v, r, rfl, h1, h2⟩ := h.cons_inv
    cases (Option.some.inj e)
    exact ⟨v, rfl, h1⟩
  | d :: ds, _, i + 1, _, h, e => by
    obtain ⟨v, r, rfl, h1, h2⟩ := h.cons_inv
    obtain ⟨v', e1, e2⟩ := RepL.get (i := i) h2 (by simpa using e)
    exact ⟨v', by simpa using e1, e2⟩
theorem RepL.getV : ∀ {ds : List D} {vs : List V} {i : Nat} {v : V}, RepL K H ds vs → vs[i]? = some v → ∃ d, ds[i]? = some d ∧ Rep K H d v
  | [], _, _, _, h, e => by rw [h.nil_inv] at e; simp at e
  | d :: ds, _, 0, _, h, e => by
    obtain ⟨v, r, rfl, h1, h2⟩ := h.cons_inv
    cases (Option.some.inj e)
    exact ⟨d, rfl, h1⟩
  | d :: ds, _, i + 1, _, h, e => by
    obtain ⟨v, r, rfl, h1, h2⟩ := h.cons_inv
    obtain ⟨d', e1, e2⟩ := RepL.getV (i := i) h2 (by simpa using e)
    exact ⟨d', by simpa using e1, e2⟩
theorem RepL.take : ∀ {ds : List D} {vs : List V} (n : Nat), RepL K H ds vs → RepL K H (ds.take n) (vs.take n)
  | _, _, 0, _ => by simpa using RepL.nil
  | [], _, n + 1, h => by rw [h.nil_inv]; simpa using RepL.nil
  | d :: ds, _, n + 1, h => by
    obtain ⟨v, r, rfl, h1, h2⟩ := h.cons_inv
    exact .cons h1 (RepL.take n h2)
theorem RepL.drop : ∀ {ds : List D} {vs : List V} (n : Nat), RepL K H ds vs → RepL K H (ds.drop n) (vs.drop n)
  | _, _, 0, h => by simpa using h
  | [], _, n + 1, h => by rw [h.nil_inv]; simpa using RepL.nil
  | d :: ds, _, n + 1, h => by
    obtain ⟨v, r, rfl, h1, h2⟩ := h.cons_inv
    exact RepL.drop n h2
theorem RepL.set : ∀ {ds : List D} {vs : List V} {d : D} {v : V} (i : Nat), RepL K H ds vs → Rep K H d v → RepL K H (ds.set i d) (vs.set i v)
  | [], _, _, _, _, h, _ => by rw [h.nil_inv]; simpa using RepL.nil
  | d :: ds, _, _, _, 0, h, g => by
    obtain ⟨v, r, rfl, h1, h2⟩ := h.cons_inv
    exact .cons g h2
  | d :: ds, _, _, _, i + 1, h, g => by
    obtain ⟨v, r, rfl, h1, h2⟩ := h.cons_inv
    exact .cons h1 (RepL.set i h2 g)
theorem RepL.reverse : ∀ {ds : List D} {vs : List V}, RepL K H ds vs → RepL K H ds.reverse vs.reverse
  | [], _, h => by rw [h.nil_inv]; simpa using RepL.nil
  | d :: ds, _, h => by
    obtain ⟨v, r, rfl, h1, h2⟩ := h.cons_inv
    rw [List.reverse_cons, List.reverse_cons]
    exact .append (RepL.reverse h2) (.cons h1 .nil)
theorem RepL.eraseIdx {ds : List D} {vs : List V} (n : Nat) (h : RepL K H ds vs) : RepL K H (ds.eraseIdx n) (vs.eraseIdx n) := by
  rw [List.eraseIdx_eq_take_drop_succ, List.eraseIdx_eq_take_drop_succ]
  exact (h.take n).append (h.drop (n + 1))
/-- what may be written, by the abstract heap -/
def RepO (K : PySem.W.Frag) (H : Hp) (a : Addr) : DO → Prop
  | .lst ds => ∃ vs, H a = some (.lst vs) ∧ RepL K H ds vs
  | .dct ks ds => ∃ vs, H a = some (.dK (ks.zip vs)) ∧ ks.length = vs.length ∧ RepL K H ds vs
  | .ins C ks ds => ∃ dx vs, H a = some (.ins (He.ga K C) dx (ks.zip vs)) ∧ ks.length = vs.length ∧ RepL K H ds vs
def RepM (K : PySem.W.Frag) (M : MM) (H : Hp) : Prop := ∀ a o, M a = some o → RepO K H a o
theorem RepO.keep {a : Addr} {o : DO} (h : RepO K H a o) (k : KeepF H H') (e : H' a = H a) : RepO K H' a o := by
  cases o with
  | lst ds => obtain ⟨vs, h1, h2⟩ := h; exact ⟨vs, e.trans h1, h2.keep k⟩
  | dct ks ds => obtain ⟨vs, h1, h2, h3⟩ := h; exact ⟨vs, e.trans h1, h2, h3.keep k⟩
  | ins C ks ds => obtain ⟨dx, vs, h1, h2, h3⟩ := h; exact ⟨dx, vs, e.trans h1, h2, h3.keep k⟩
theorem RepO.some {a : Addr} {o : DO} (h : RepO K H a o) : ∃ u, H a = some u ∧ Mut (some u) := by
  cases o with
  | lst ds => obtain ⟨vs, h1, h2⟩ := h; exact ⟨_, h1, trivial⟩
  | dct ks ds => obtain ⟨vs, h1, h2, h3⟩ := h; exact ⟨_, h1, trivial⟩
  | ins C ks ds => obtain ⟨dx, vs, h1, h2, h3⟩ := h; exact ⟨_, h1, trivial⟩
theorem RepM.free {M : MM} (r : RepM K M H) {p : Addr} (h : H p = none) : M p = none := by
  cases e : M p with
  | none => rfl
  | some o => obtain ⟨u, h1, _⟩ := (r p o e).some; rw [h1] at h; cases h
theorem RepM.mut {M : MM} (r : RepM K M H) {p : Addr} {o : DO} (h : M p = some o) : Mut (H p) := by
  obtain ⟨u, h1, h2⟩ := (r p o h).some; rw [h1]; exact h2
theorem RepM.sub {M M' : MM} (r : RepM K M' H) (s : Sub M M') : RepM K M H := fun a o e => r a o (s a o e)
/-- a new thing that M does not see -/
theorem RepM.hid {M : MM} (r : RepM K M H) {p : Addr} {o : HO} (h : H p = none) : RepM K M (upd H p o) := fun a u e => by
  have : a ≠ p := fun z => by rw [z, r.free h] at e; cases e
  exact (r a u e).keep (.new h) (upd_ne this)
/-- a new thing -/
theorem RepM.new {M : MM} (r : RepM K M H) {p : Addr} {o : HO} {d : DO} (h : H p = none) (n : RepO K (upd H p o) p d) : RepM K (up M p d) (upd H p o) := fun a u e => by
  by_cases z : a = p
  · subst z; rw [up_same] at e; cases e; exact n
  · rw [up_ne z] at e; exact (r a u e).keep (.new h) (upd_ne z)
/-- a thing is written -/
theorem RepM.put {M : MM} (r : RepM K M H) {p : Addr} {o : HO} {d d0 : DO} (h : M p = some d0) (n : RepO K (upd H p o) p d) : RepM K (up M p d) (upd H p o) := fun a u e => by
  by_cases z : a = p
  · subst z; rw [up_same] at e; cases e; exact n
  · rw [up_ne z] at e; exact (r a u e).keep (.mut (r.mut h)) (upd_ne z)
/-- a thing is written, and no more seen -/
theorem RepM.cut {M : MM} (r : RepM K M H) {p : Addr} {o : HO} {d0 : DO} (h : M p = some d0) : RepM K (del M p) (upd H p o) := fun a u e => by
  unfold del at e
  by_cases z : a = p
  · rw [if_pos z] at e; cases e
  · rw [if_neg z] at e; exact (r a u e).keep (.mut (r.mut h)) (upd_ne z)
/-- the slots -/
abbrev DSt := List (Option D)
def RelD (K : PySem.W.Frag) (H : Hp) : Option D → Option V → Prop
  | none, _ => True
  | some d, some v => Rep K H d v
  | some _, none => False
abbrev RepS (K : PySem.W.Frag) (H : Hp) : DSt → SV → Prop := Paired (RelD K H)
theorem RelD.keep {d : Option D} {v : Option V} (k : KeepF H H') (h : RelD K H d v) : RelD K H' d v := by
  cases d with
  | none => trivial
  | some d => cases v with
    | none => exact h
    | some v => exact Rep.keep k h
theorem RepS.keep {σd : DSt} {σ : SV} (k : KeepF H H') (h : RepS K H σd σ) : RepS K H' σd σ := L2.Paired.mapP h fun _ _ r => r.keep k
theorem RepS.get : ∀ {σd : DSt} {σ : SV} {i : Nat} {d : D}, RepS K H σd σ → σd[i]? = some (some d) → ∃ v, σ[i]? = some (some v) ∧ Rep K H d v
  | _, _, _, _, .nil, e => by simp at e
  | _, _, 0, d, .cons (b := b) r _, e => by
    have e' := Option.some.inj e
    subst e'
    cases b with
    | none => exact r.elim
    | some v => exact ⟨v, rfl, r⟩
  | _, _, i + 1, d, .cons _ t, e => by
    obtain ⟨v, e1, e2⟩ := RepS.get (i := i) t (by simpa using e)
    exact ⟨v, by simpa using e1, e2⟩
theorem RepS.set : ∀ {σd : DSt} {σ : SV} {d : Option D} {v : Option V} (i : Nat), RepS K H σd σ → RelD K H d v → RepS K H (σd.set i d) (σ.set i v)
  | _, _, _, _, _, .nil, _ => .nil
  | _, _, _, _, 0, .cons _ t, h => .cons h t
  | _, _, _, _, i + 1, .cons r t, h => .cons r (RepS.set i t h)
def wipeD (σ : DSt) : List Nat → DSt
  | [] => σ
  | v :: vs => (wipeD σ vs).set v none
theorem RepS.wipe {σd : DSt} {σ : SV} (h : RepS K H σd σ) : ∀ vs : List Nat, RepS K H (wipeD σd vs) (wipe σ vs)
  | [] => h
  | v :: vs => (RepS.wipe h vs).set v trivial
theorem RepS.weak : ∀ {σd : DSt} {σ σ' : SV}, RepS K H σd σ → σ.length = σ'.length → (∀ (i : Nat) (v : V), σ[i]? = some (some v) → σd[i]?.join.isSome → σ'[i]? = some (some v)) → RepS K H σd σ'
  | _, _, σ', .nil, hl, _ => by
    cases σ' with
    | nil => exact .nil
    | cons => simp at hl
  | _, _, σ', .cons (a := a) (b := b) r t, hl, h => by
    cases σ' with
    | nil => simp at hl
    | cons v' σ' =>
      refine .cons ?_ (RepS.weak t (by simpa using hl) fun i v e1 e2 => by simpa using h (i + 1) v (by simpa using e1) (by simpa using e2))
      cases a with
      | none => trivial
      | some d => cases b with
        | none => exact r.elim
        | some v =>
          have q := h 0 v rfl rfl
          have q' : v' = some v := by simpa using q
          subst q'
          exact r
end
/-- what M does not see is left as it is, and what comes to be seen is new -/
def Fr (M : MM) (H : Hp) (M' : MM) (H' : Hp) : Prop := ∀ a u, H a = some u → M a = none → H' a = some u ∧ M' a = none
section
variable {K : PySem.W.Frag} {M M1 M2 M' : MM} {H H1 H2 H' : Hp}
theorem Fr.refl : Fr M H M H := fun _ _ h m => ⟨h, m⟩
theorem Fr.trans (a : Fr M H M1 H1) (b : Fr M1 H1 M2 H2) : Fr M H M2 H2 := fun x u h m => let ⟨h1, m1⟩ := a x u h m; b x u h1 m1
theorem Fr.keep (f : Fr M H M' H') (r : RepM K M H) : KeepF H H' := by
  have no : ∀ a u, H a = some u → ¬ Mut (some u) → M a = none := fun a u e nm => by
    cases q : M a with
    | none => rfl
    | some o => have := r.mut q; rw [e] at this; exact absurd this nm
  exact ⟨fun a xs e => (f a _ e (no a _ e fun z => z)).1, fun a o u e => (f a _ e (no a _ e fun z => z)).1⟩
theorem Fr.hid {p : Addr} {o : HO} (h : H p = none) : Fr M H M (upd H p o) := fun a u e m => ⟨by rw [upd_ne (ne_of_none e h)]; exact e, m⟩
theorem Fr.new {p : Addr} {o : HO} {d : DO} (h : H p = none) : Fr M H (up M p d) (upd H p o) := fun a u e m => ⟨by rw [upd_ne (ne_of_none e h)]; exact e, by rw [up_ne (ne_of_none e h)]; exact m⟩
theorem Fr.put {p : Addr} {o : HO} {d d0 : DO} (h : M p = some d0) : Fr M H (up M p d) (upd H p o) := fun a u e m => by
  have : a ≠ p := fun z => by rw [z, h] at m; cases m
  exact ⟨by rw [upd_ne this]; exact e, by rw [up_ne this]; exact m⟩
theorem Fr.cut {p : Addr} {o : HO} {d0 : DO} (h : M p = some d0) : Fr M H (del M p) (upd H p o) := fun a u e m => by
  have : a ≠ p := fun z => by rw [z, h] at m; cases m
  exact ⟨by rw [upd_ne this]; exact e, by unfold del; rw [if_neg this]; exact m⟩
theorem Fr.sub (f : Fr M H M1 H') (s : Sub M' M1) : Fr M H M' H' := fun a u e m => let ⟨h1, m1⟩ := f a u e m; ⟨h1, s.none m1⟩
end
/-! ### wishes over trees -/
abbrev DV := D → MM → Prop
abbrev DE := DSt → MM → DV → Prop
abbrev DT := DSt → MM → (Bool → MM → Prop) → Prop
abbrev DA := DSt → MM → (List D → MM → Prop) → Prop
structure DEnds where
  nx : DSt → MM → Prop
  rt : DV
  bk : DSt → MM → Prop := fun _ _ => False
  ct : DSt → MM → Prop := fun _ _ => False
abbrev DS := DEnds → DSt → MM → Prop
abbrev DG := D → DSt → MM → (DSt → MM → Prop) → Prop
abbrev DGs := List D → DSt → MM → (DSt → MM → Prop) → Prop
abbrev Bs := MM × Hp
/-- what stands ahead of a step -/
structure At (K : PySem.W.Frag) (B : Bs) (H : Hp) (σd : DSt) (M : MM) (σ : SV) : Prop where
  b : Fr B.1 B.2 M H
  s : RepS K H σd σ
  m : RepM K M H
theorem At.go {K : PySem.W.Frag} {B : Bs} {H H' : Hp} {σd : DSt} {M M' : MM} {σ : SV} (a : At K B H σd M σ) (k : Fr M H M' H') (m : RepM K M' H') : At K B H' σd M' σ := ⟨a.b.trans k, a.s.keep (k.keep a.m), m⟩
theorem At.slots {K : PySem.W.Frag} {B : Bs} {H : Hp} {σd σd' : DSt} {M : MM} {σ σ' : SV} (a : At K B H σd M σ) (s : RepS K H σd' σ') : At K B H σd' M σ' := ⟨a.b, s, a.m⟩
theorem At.rep {K : PySem.W.Frag} {B : Bs} {H H' : Hp} {σd : DSt} {M M' : MM} {σ : SV} {d : D} {v : V} (a : At K B H σd M σ) (k : Fr M H M' H') (r : Rep K H d v) : Rep K H' d v := r.keep (k.keep a.m)
theorem At.repL {K : PySem.W.Frag} {B : Bs} {H H' : Hp} {σd : DSt} {M M' : MM} {σ : SV} {d : List D} {v : List V} (a : At K B H σd M σ) (k : Fr M H M' H') (r : RepL K H d v) : RepL K H' d v := r.keep (k.keep a.m)
def LE (K : PySem.W.Frag) (B : Bs) (t : DE) : TE := fun σ H Q => ∃ σd M Qd, At K B H σd M σ ∧ t σd M Qd ∧ ∀ d M' v H', Fr M H M' H' → Rep K H' d v → RepM K M' H' → Qd d M' → Q v H'
def LT (K : PySem.W.Frag) (B : Bs) (t : DT) : TT := fun σ H Q => ∃ σd M Qd, At K B H σd M σ ∧ t σd M Qd ∧ ∀ b M' H', Fr M H M' H' → RepM K M' H' → Qd b M' → Q b H'
def LA (K : PySem.W.Frag) (B : Bs) (t : DA) : TA := fun σ H Q => ∃ σd M Qd, At K B H σd M σ ∧ t σd M Qd ∧ ∀ ds M' vs H', Fr M H M' H' → RepL K H' ds vs → RepM K M' H' → Qd ds M' → Q vs H'
structure EndsOk (K : PySem.W.Frag) (M : MM) (H : Hp) (Dd : DEnds) (E : Ends) : Prop where
  nx : ∀ σd M' σ H', Fr M H M' H' → RepS K H' σd σ → RepM K M' H' → Dd.nx σd M' → E.nx σ H'
  rt : ∀ d M' v H', Fr M H M' H' → Rep K H' d v → RepM K M' H' → Dd.rt d M' → E.rt v H'
  bk : ∀ σd M' σ H', Fr M H M' H' → RepS K H' σd σ → RepM K M' H' → Dd.bk σd M' → E.bk σ H'
  ct : ∀ σd M' σ H', Fr M H M' H' → RepS K H' σd σ → RepM K M' H' → Dd.ct σd M' → E.ct σ H'
theorem EndsOk.go {K : PySem.W.Frag} {M M1 : MM} {H H1 : Hp} {Dd : DEnds} {E : Ends} (e : EndsOk K M H Dd E) (k : Fr M H M1 H1) : EndsOk K M1 H1 Dd E :=
  ⟨fun a b c d x => e.nx a b c d (k.trans x), fun a b c d x => e.rt a b c d (k.trans x), fun a b c d x => e.bk a b c d (k.trans x), fun a b c d x => e.ct a b c d (k.trans x)⟩
def LS (K : PySem.W.Frag) (B : Bs) (t : DS) : TS := fun E σ H => ∃ σd M Dd, At K B H σd M σ ∧ t Dd σd M ∧ EndsOk K M H Dd E
def LG (K : PySem.W.Frag) (B : Bs) (t : DG) : TG := fun v σ H Q => ∃ d σd M Qd, Rep K H d v ∧ At K B H σd M σ ∧ t d σd M Qd ∧ ∀ σd' M' σ' H', Fr M H M' H' → RepS K H' σd' σ' → RepM K M' H' → Qd σd' M' → Q σ' H'
def LGs (K : PySem.W.Frag) (B : Bs) (t : DGs) : TGs := fun vs σ H Q => ∃ ds σd M Qd, RepL K H ds vs ∧ At K B H σd M σ ∧ t ds σd M Qd ∧ ∀ σd' M' σ' H', Fr M H M' H' → RepS K H' σd' σ' → RepM K M' H' → Qd σd' M' → Q σ' H'
/-- what follows, at the states themselves -/
def EPD (X : Cx) (pins : List (Addr × Obj)) (σ : SV) (M : MM) (H : Hp) (Qd : DV) (u : Value) (s' : Shared) : Prop :=
  ∃ d M' v H', Inv X pins σ H' s' ∧ RelV v u ∧ Fr M H M' H' ∧ Rep X.K H' d v ∧ RepM X.K M' H' ∧ Qd d M'
theorem EPD.ep {X : Cx} {pins : List (Addr × Obj)} {σ : SV} {M : MM} {H : Hp} {Qd : DV} {Q : VK} {u : Value} {s' : Shared} (h : EPD X pins σ M H Qd u s') (q : ∀ d M' v H', Fr M H M' H' → Rep X.K H' d v → RepM X.K M' H' → Qd d M' → Q v H') : EP X pins σ Q u s' := by
  obtain ⟨d, M', v, H', I, r, k, rd, rm, qd⟩ := h
  exact ⟨v, H', I, r, q d M' v H' k rd rm qd⟩
theorem EPD.of {X : Cx} {pins : List (Addr × Obj)} {σ : SV} {M : MM} {H : Hp} {Qd : DV} {u : Value} {s' : Shared} (h : EP X pins σ (fun v H' => ∃ d M', Fr M H M' H' ∧ Rep X.K H' d v ∧ RepM X.K M' H' ∧ Qd d M') u s') : EPD X pins σ M H Qd u s' := by
  obtain ⟨v, H', I, r, d, M', k, rd, rm, qd⟩ := h
  exact ⟨d, M', v, H', I, r, k, rd, rm, qd⟩
section
variable {X : Cx} {e : Expr} {B : Bs}
theorem _root_.L2.PE.imp {t t' : TE} (h : PE X e t) (i : ∀ σ H Q, t' σ H Q → t σ H Q) : PE X e t' := ⟨fun pins s σ H Q I q => h.run pins s σ H Q I (i σ H Q q)⟩
theorem _root_.L2.PT.imp {t t' : TT} (h : PT X e t) (i : ∀ σ H Q, t' σ H Q → t σ H Q) : PT X e t' := ⟨fun pins s σ H Q I q => h.run pins s σ H Q I (i σ H Q q)⟩
theorem _root_.L2.PW.imp {t t' : TT} (h : PW X e t) (i : ∀ σ H Q, t' σ H Q → t σ H Q) : PW X e t' := ⟨fun w pins s σ H Q I q => h.run w pins s σ H Q I (i σ H Q q)⟩
theorem _root_.L2.PA.imp {es : List Expr} {t t' : TA} (h : PA X es t) (i : ∀ σ H Q, t' σ H Q → t σ H Q) : PA X es t' := ⟨fun p pins s σ H Q I q => h.run p pins s σ H Q I (i σ H Q q)⟩
theorem _root_.L2.PG.imp {t t' : TG} (h : PG X e t) (i : ∀ v σ H Q, t' v σ H Q → t v σ H Q) : PG X e t' := ⟨fun pins s σ H v u Q I r q => h.run pins s σ H v u Q I r (i v σ H Q q)⟩
theorem _root_.L2.PGs.imp {es : List Expr} {t t' : TGs} (h : PGs X es t) (i : ∀ v σ H Q, t' v σ H Q → t v σ H Q) : PGs X es t' := ⟨fun pins s σ H v u Q I r q => h.run pins s σ H v u Q I r (i v σ H Q q)⟩
theorem _root_.L2.PI.imp {tg : Expr} {t t' : TI} (h : PI X tg e t) (i : ∀ σ H Q, t' σ H Q → t σ H Q) : PI X tg e t' := ⟨fun pins s σ H R I q => h.run pins s σ H R I (i σ H R q)⟩
theorem _root_.L2.PS.imp {st : Stmt} {t t' : TS} (h : PS X st t) (i : ∀ D σ H, t' D σ H → t D σ H) : PS X st t' := ⟨fun pins s σ H D I q => h.run pins s σ H D I (i D σ H q)⟩
theorem _root_.L2.PSs.imp {st : List Stmt} {t t' : TS} (h : PSs X st t) (i : ∀ D σ H, t' D σ H → t D σ H) : PSs X st t' := ⟨fun pins s σ H D I q => h.run pins s σ H D I (i D σ H q)⟩
/-- from and to the states -/
theorem pe_of {t : DE} (h : ∀ pins s σ H σd M Qd, Inv X pins σ H s → At X.K B H σd M σ → t σd M Qd → wpAny (model X.prog X.w) X.A (eval e X.env) (EPD X pins σ M H Qd) X.xe s) : PE X e (LE X.K B t) := by
  refine ⟨fun pins s σ H Q I ⟨σd, M, Qd, a, ht, q⟩ => ?_⟩
  exact thn (h pins s σ H σd M Qd I a ht) fun u s' x => x.ep q
theorem PE.at {t : DE} (h : PE X e (LE X.K B t)) {pins : List (Addr × Obj)} {s : Shared} {σ : SV} {H : Hp} {σd : DSt} {M : MM} {Qd : DV} (I : Inv X pins σ H s) (a : At X.K B H σd M σ) (ht : t σd M Qd) :
    wpAny (model X.prog X.w) X.A (eval e X.env) (EPD X pins σ M H Qd) X.xe s :=
  thn (h.run pins s σ H _ I ⟨σd, M, Qd, a, ht, fun d M' v H' k r m q => ⟨d, M', k, r, m, q⟩⟩) fun u s' x => EPD.of x
end
/-- a new tuple, list, dict that is written no more is frozen: its object is known from here on -/
theorem freeze {X : Cx} {pins : List (Addr × Obj)} {σ : SV} {H : Hp} {s : Shared} {p : Addr} {u : HO} (I : Inv X pins σ H s) (h : H p = some u) (hu : ∀ C dx fs, u ≠ .ins C dx fs) (m : Mut (some u)) : ∃ o, Inv X pins σ (upd H p (.frz o u)) s := by
  have ok := I.hok p u h
  obtain ⟨o, ho⟩ : ∃ o, s.heap.get? p = some o := by
    cases u with
    | lst xs => obtain ⟨_, its, n, _, e⟩ := ok; exact ⟨_, e⟩
    | dK kvs => obtain ⟨_, _, _, _, o, _, _, e, _⟩ := ok; exact ⟨_, e⟩
    | dT kvs => obtain ⟨_, _, _, _, o, _, _, e, _⟩ := ok; exact ⟨_, e⟩
    | set S n => obtain ⟨o, _, _, _, e, _⟩ := ok; exact ⟨_, e⟩
    | ins C dx fs => exact absurd rfl (hu C dx fs)
    | ext φ => obtain ⟨_, ⟨o, e⟩, _⟩ := ok; exact ⟨_, e⟩
    | _ => exact m.elim
  refine ⟨o, ?_⟩
  have mu : Mut (H p) := by rw [h]; exact m
  refine I.un (h' := s.heap) (t' := s.toks) (Un.write (e := p) mu (.inl rfl) (fun b o _ q => q) ⟨o, ho⟩) ?_
  refine I.hok.write mu (.inl rfl) (fun b o _ q => q) ⟨o, ho⟩ ⟨ho, ?_⟩
  refine ok.stay (fun b u _ q => q) (fun b e => ?_) fun b xs e => ?_
  · have : b ≠ p := fun z => by rw [z, h] at e; cases e; exact m
    rw [upd_ne this]; exact e
  · have : b ≠ p := fun z => by rw [z, h] at e; cases e; exact m
    rw [upd_ne this]; exact e
end RX
set_option Elab.async false
set_option linter.all false
set_option maxRecDepth 100000
set_option maxHeartbeats 4000000
/-! RXs: sets made of a list of texts: their number, and the texts in order. -/
namespace RX
open PySem PySem.Spec PyProof.Rows L2
/-- each text once -/
def addS (L : List Str) (z : Str) : List Str := if L.contains z then L else L ++ [z]
def dedup (l : List Str) : List Str := l.foldl addS []
theorem addS_len (L : List Str) (z : Str) : (addS L z).length ≤ L.length + 1 := by
  unfold addS; split <;> simp
theorem addS_nodup {L : List Str} {z : Str} (h : L.Nodup) : (addS L z).Nodup := by
  unfold addS
  split
  · exact h
  · rename_i c
    refine List.nodup_append.mpr ⟨h, by simp, fun a ha b hb e => c ?_⟩
    rw [List.mem_singleton.mp hb] at e
    subst e
    simpa using ha
theorem dedup_take {zs : List Str} {i : Nat} {z : Str} (h : zs[i]? = some z) : dedup (zs.take (i + 1)) = addS (dedup (zs.take i)) z := by
  unfold dedup
  rw [List.take_add_one, h]
  simp
theorem dedup_len (zs : List Str) : (dedup zs).length ≤ zs.length := by
  have g : ∀ (l L : List Str), (l.foldl addS L).length ≤ L.length + l.length := by
    intro l
    induction l with
    | nil => intro L; simp
    | cons z l ih =>
      intro L
      have a := ih (addS L z)
      have b := addS_len L z
      simp only [List.foldl_cons, List.length_cons]
      omega
  simpa [dedup] using g zs []
theorem dedup_nodup (zs : List Str) : (dedup zs).Nodup := by
  have g : ∀ (l L : List Str), L.Nodup → (l.foldl addS L).Nodup := by
    intro l
    induction l with
    | nil => intro L h; exact h
    | cons z l ih => intro L h; exact ih _ (addS_nodup h)
  exact g zs [] (by simp)
/-! ### what such a set is -/
def s0 (w : World) : Obj := { cls := .type "set", dict := none, data := .set #[] 0 (.fresh 0 0 (!w.params.followText "set-order")) }
def sgo (e : Int × Value) : Str := match e.2 with
  | .str z _ => z
  | _ => Str.empty
def SgE (P : Program) (w : World) (e : Int × Value) : Prop := ∃ z τ, e.2 = Value.str z τ ∧ e.1 = (PySem.strKind P w).hash z
/-- the table behind it -/
structure TbOk (w : World) (es : Array (Int × Value)) (t : SetTable) : Prop where
  few : es.size < scanBound
  fit : t.fits es.size = true
  ris : Ris t.place.toList
  led : w.params.followText "set-order" = true ∨ t.led = true
def SsR (P : Program) (w : World) (h : Heap) (a : Addr) (L : List Str) : Prop := ∃ o es ep t, h.get? a = some o ∧ o.ExactSet ∧ o.data = Data.set es ep t ∧ (∀ e ∈ es.toList, SgE P w e) ∧ (es.toList.map sgo).Perm L ∧ L.Nodup ∧ TbOk w es t
section
variable {P : Program} {w : World} {A : Around} {E : Value → Shared → Prop} {s : Shared} {a : Addr} {L : List Str}
theorem SsR.at {h h' : Heap} (R : SsR P w h a L) (k : ∀ o, h.get? a = some o → h'.get? a = some o) : SsR P w h' a L := by
  obtain ⟨o, es, ep, t, e, r⟩ := R; exact ⟨o, es, ep, t, k o e, r⟩
theorem sgE_elems {l : List (Int × Value)} (g : ∀ e ∈ l, SgE P w e) : ElemsOf (PySem.strKind P w) l := fun e m => by
  obtain ⟨z, τ, h1, h2⟩ := g e m
  refine ⟨⟨z, by rw [h1]; exact strKind_is P w z τ, h2⟩, by rw [h1]; rfl⟩
theorem sgE_is {e : Int × Value} (g : SgE P w e) (z : Str) : (PySem.strKind P w).is z e.2 = true ↔ sgo e = z := by
  obtain ⟨y, τ, h1, _⟩ := g
  unfold sgo; rw [h1]
  constructor
  · intro h
    have h : Value.isStrOf z (.str y τ) = true := h
    obtain ⟨t, q⟩ := Value.isStrOf_shape h
    injection q
  · intro h
    have h : y = z := h
    subst h; exact strKind_is P w y τ
theorem sgE_mem {l : List (Int × Value)} (g : ∀ e ∈ l, SgE P w e) (z : Str) : z ∈ l.map sgo ↔ ∃ e ∈ l, (PySem.strKind P w).is z e.2 = true := by
  rw [List.mem_map]
  exact ⟨fun ⟨e, m, q⟩ => ⟨e, m, (sgE_is (g e m) z).2 q⟩, fun ⟨e, m, q⟩ => ⟨e, m, (sgE_is (g e m) z).1 q⟩⟩
/-- the entries laid into the table -/
theorem ss_put {gv : Bool → Sem Unit} (hg : ∀ (b : Bool) (s₁ : Shared) (F : Unit → Shared → Prop), F () s₁ → wpAny (model P w) A (gv b) F E s₁)
    {o : Obj} {es : Array (Int × Value)} {ep : Nat} {t : SetTable} (ho : s.heap.get? a = some o) (hx : o.ExactSet) (hd : o.data = .set es ep t)
    {es1 : Array (Int × Value)} {t2 : SetTable} {L' : List Str} (g1 : ∀ e ∈ es1.toList, SgE P w e) (p1 : (es1.toList.map sgo).Perm L') (n1 : L'.Nodup) (k1 : TbOk w es1 t2) {dm : Bool} {R : Option Bool → Shared → Prop}
    (hR : ∀ h', Heap.SameBut a s.heap h' → SsR P w h' a L' → R (some true) { s with heap := h' }) :
    wpAny (model P w) A (do
        storeSet a es1 t2
        if (!dm && t2.tooFull) = true then do
            gv (relayAll t2 es1 (SetTable.grown es1.size)).2.2
            storeSet a (relayAll t2 es1 (SetTable.grown es1.size)).1 (relayAll t2 es1 (SetTable.grown es1.size)).2.1
            pure (some true)
          else pure (some true)) R E s := by
  refine wpAny_bind (wpAny_storeSet_of ho hd ?_ (fits_of_scanBound k1.few))
  have q1 := store_at (es' := es1) (t' := t2) ho hd; have b1 := Heap.SameBut.update s.heap a (Obj.putSet es1 t2)
  split
  · have pm := relayAll_perm t2 es1 (SetTable.grown es1.size); have f3 := relayAll_fits t2 es1 (SetTable.grown es1.size)
    have r3 := relayAll_ris t2 es1 (SetTable.grown es1.size); have l3 := relayAll_led t2 es1 (SetTable.grown es1.size)
    generalize relayAll t2 es1 (SetTable.grown es1.size) = Y at pm f3 r3 l3 ⊢
    obtain ⟨es2, t3, gave⟩ := Y; dsimp only at pm f3 r3 l3 ⊢
    have z2 : es2.size = es1.size := by rw [← Array.length_toList, pm.length_eq, Array.length_toList]
    have c2 : es2.size < scanBound := by rw [z2]; exact k1.few
    refine wpAny_bind (hg _ _ _ (wpAny_bind (wpAny_storeSet_of q1 rfl ?_ (fits_of_scanBound c2))))
    have q2 := store_at (es' := es2) (t' := t3) q1 rfl
    refine wpAny_pure (hR _ (b1.trans (Heap.SameBut.update _ a _)) ⟨_, es2, _, t3, q2, hx, rfl, fun e m => g1 e (pm.mem_iff.mp m), (pm.map sgo).trans p1, n1, c2, f3, r3, ?_⟩)
    exact k1.led.imp id fun y => by rw [l3]; exact y
  · exact wpAny_pure (hR _ b1 ⟨_, es1, _, t2, q1, hx, rfl, g1, p1, n1, k1⟩)
/-- a text is added -/
theorem ss_add {z : Str} {τ : Tok} {Q : Bool → Shared → Prop} (R : SsR P w s.heap a L) (room : L.length + 1 < scanBound)
    (hQ : ∀ b h', Heap.SameBut a s.heap h' → SsR P w h' a (addS L z) → Q b { s with heap := h' }) :
    wpAny (model P w) A (setAddHashed a (.str z τ) ((PySem.strKind P w).hash z)) Q E s := by
  obtain ⟨o, es, ep, t, ho, hx, hd, g, pm0, nd, tk⟩ := R
  have hkey : (PySem.strKind P w).is z (.str z τ) = true := strKind_is P w z τ
  have hsc : (Value.str z τ).scannable = true := rfl
  have hel := sgE_elems g
  unfold setAddHashed setAddHashedIn
  refine wpAny_holding (wpAny_bind (wpAny_setState_of ho hd tk.fit ?_)); dsimp only
  rw [byScan_of hsc tk.few hel]; simp only [↓reduceIte]
  unfold setAddByScan
  refine wpAny_bind (wpAny_bind (wpAny_rule (wpAny_bind (wpAny_setScan_of hkey ho hd tk.fit hel ?_))))
  have mem : z ∈ L ↔ ∃ e ∈ es.toList, (PySem.strKind P w).is z e.2 = true := by rw [← sgE_mem g z]; exact pm0.mem_iff.symm
  cases hfi : List.findIdx? (fun e => (PySem.strKind P w).is z e.2) es.toList with
  | some j =>
    dsimp only
    obtain ⟨hj, pj, _⟩ := List.findIdx?_eq_some_iff_getElem.mp hfi
    have hz : z ∈ L := mem.2 ⟨es.toList[j], List.getElem_mem hj, pj⟩
    refine wpAny_pure (wpAny_pure (hQ _ s.heap (Heap.SameBut.refl a s.heap) ?_))
    have e1 : addS L z = L := by unfold addS; rw [if_pos (by simpa using hz)]
    rw [e1]; exact ⟨o, es, ep, t, ho, hx, hd, g, pm0, nd, tk⟩
  | none =>
    dsimp only
    have hz : z ∉ L := fun m => by
      obtain ⟨e, he, q⟩ := mem.1 m
      have c := List.findIdx?_eq_none_iff.mp hfi e he
      rw [q] at c; cases c
    have e1 : addS L z = L ++ [z] := by unfold addS; rw [if_neg (by simpa using hz)]
    have n1 : (addS L z).Nodup := addS_nodup nd
    have hgw : ∀ (b : Bool) {s₁ : Shared} {F : Unit → Shared → Prop}, F () s₁ → wpAny (model P w) A (match b with | true => rule "set.scan.the-table-gave-way" | false => pure ()) F E s₁ := fun b s₁ F q => by cases b <;> first | exact wpAny_pure q | exact wpAny_rule q
    have pm := layNew_perm t es ((PySem.strKind P w).hash z) (.str z τ); have f1 := layNew_fits t es ((PySem.strKind P w).hash z) (.str z τ)
    have r1 := layNew_ris t es ((PySem.strKind P w).hash z) (.str z τ) tk.ris; have l1 := layNew_led t es ((PySem.strKind P w).hash z) (.str z τ)
    generalize layNew t es ((PySem.strKind P w).hash z) (.str z τ) = Y at pm f1 r1 l1 ⊢
    obtain ⟨es1, t1, dm, gave⟩ := Y; dsimp only at pm f1 r1 l1 ⊢
    rw [Array.toList_push] at pm
    have pc : es1.toList.Perm (((PySem.strKind P w).hash z, Value.str z τ) :: es.toList) := pm.trans (List.perm_append_singleton _ _)
    have p1 : (es1.toList.map sgo).Perm (addS L z) := by
      rw [e1]
      exact ((pc.map sgo).trans (List.Perm.cons z pm0)).trans (List.perm_append_singleton _ _).symm
    have g1 : ∀ e ∈ es1.toList, SgE P w e := fun e he => by
      rcases List.mem_cons.mp (pc.mem_iff.mp he) with y | y
      · rw [y]; exact ⟨z, τ, rfl, rfl⟩
      · exact g e y
    have z1 : es1.size = L.length + 1 := by
      have := p1.length_eq
      rw [List.length_map, Array.length_toList, e1] at this
      simpa using this
    have c1 : es1.size < scanBound := by rw [z1]; exact room
    have d1 : w.params.followText "set-order" = true ∨ t1.led = true := tk.led.imp id fun y => by rw [l1]; exact y
    refine wpAny_bind (hgw _ ?_)
    have gv : ∀ (b : Bool) (s₁ : Shared) (F : Unit → Shared → Prop), F () s₁ → wpAny (model P w) A (match b with | true => rule "set.scan.the-table-gave-way" | false => pure ()) F E s₁ := fun b s₁ F q => hgw b q
    split
    · refine wpAny_bind ?_
      rw [hashByValue_scannable 8 hsc]
      refine wpAny_pure (ss_put ?_ ho hx hd g1 p1 n1 ⟨c1, ?_, ?_, ?_⟩ fun h' sb r => ?_)
      · intro b s₁ F q; cases b <;> first | exact wpAny_pure q | exact wpAny_rule q
      · first | (split <;> first | exact f1 | exact SetTable.fits_plain_off f1) | exact f1
      · first | (split <;> exact r1) | exact r1
      · first | (split <;> exact d1) | exact d1
      · dsimp only; exact wpAny_pure (hQ _ h' sb r)
    · refine wpAny_bind (wpAny_pure ?_)
      simp only [↓reduceIte]
      refine ss_put ?_ ho hx hd g1 p1 n1 ⟨c1, f1, r1, d1⟩ fun h' sb r => ?_
      · intro b s₁ F q; cases b <;> first | exact wpAny_pure q | exact wpAny_rule q
      · dsimp only; exact wpAny_pure (hQ _ h' sb r)
/-! ### set(list of texts) -/
theorem ss_zero {h : Heap} (e : h.get? a = some (s0 w)) : SsR P w h a [] := by
  refine ⟨_, #[], 0, _, e, ⟨rfl, rfl, rfl⟩, rfl, (fun e m => by simp at m), by simp, by simp, ⟨by decide, by rfl, List.Pairwise.nil, ?_⟩⟩
  show _ ∨ (!w.params.followText "set-order") = true
  cases w.params.followText "set-order" <;> simp
theorem ss_loop {I : Addr} {fp wr : List Addr} {G : Array GenState → Array GenState → Prop} {n : Nat} {Pv : Nat → Value → Prop} {St : Nat → Shared → Prop} {R : Result → Shared → Prop}
    (W : WalksS P w A.in1 I fp wr G n Pv St) (S : Addr) (hSf : S ∉ fp) (zs : List Str) (hn : n = zs.length) (hb : zs.length + 1 < scanBound) (hv : ∀ i v, Pv i v → ∃ z t, zs[i]? = some z ∧ v = .str z t) :
    ∀ (k i : Nat) (s : Shared), n - i = k → i ≤ n → St i s → SsR P w s.heap S (dedup (zs.take i)) →
      (∀ s', Moved (S :: wr) G s s' → SsR P w s'.heap S (dedup zs) → R (.ok (.ret .none)) s') → codeAny (model P w) A (.builtin "set.update.loop" ⟨[.ref S, .ref I], []⟩) R s := by
  have nw : S ∉ wr := fun h => hSf (W.sub _ h)
  have sb : ∀ b ∈ wr, b ∈ S :: wr := fun b hb => List.mem_cons_of_mem _ hb
  intro k
  induction k with
  | zero =>
    intro i s hk hi st hS hR
    have e0 : i = n := by omega
    subst e0
    refine codeAny_builtin F.entry_set_update_loop ?_; rw [Around.under_plainId F.plain_set_update_loop _]
    show wpAny _ A.in1 (pyNext (.ref I) >>= _) _ _ s
    refine wpAny_bind (W.done s _ _ st fun s' m => ?_)
    show wpAny _ A.in1 (ret Value.none) _ _ s'
    rw [List.take_of_length_le (by omega)] at hS
    exact wpAny_pure (hR s' (m.mono sb) (hS.at fun o e => m.heap S o nw e))
  | succ k ih =>
    intro i s hk hi st hS hR
    have lt : i < n := by omega
    refine codeAny_builtin F.entry_set_update_loop ?_; rw [Around.under_plainId F.plain_set_update_loop _]
    show wpAny _ A.in1 (pyNext (.ref I) >>= _) _ _ s
    refine wpAny_bind (W.item i s _ _ lt st fun v s' hP st' m => ?_)
    obtain ⟨z, t, hz, rfl⟩ := hv i v hP
    have hS' : SsR P w s'.heap S (dedup (zs.take i)) := hS.at fun o e => m.heap S o nw e
    show wpAny _ A.in1 (holding [Value.str z t] (setAdd S (.str z t)) >>= _) _ _ s'
    refine wpAny_bind (wpAny_holding ?_); unfold setAdd
    refine wpAny_holding (wpAny_bind ((PySem.strKind P w).pyHash (k := z) (strKind_is _ _ _ _) ?_))
    have small : (dedup (zs.take i)).length + 1 < scanBound := by
      have := dedup_len (zs.take i)
      rw [List.length_take] at this
      omega
    refine ss_add (s := { s' with toks := s'.toks + 1 }) hS' small fun b h' ob hS2 => ?_
    rw [← dedup_take hz] at hS2
    refine wpAny_pure ⟨plainId_quiet F.plain_set_update_loop _, ih (i + 1) _ (by omega) lt (W.frame _ s' _ _ st' (Nat.le_succ _) fun b hb o e => ?_) hS2 fun s2 m2 hS3 => ?_⟩
    · rw [ob.2 b (fun h : b = S => hSf (h ▸ hb))]; exact e
    · refine hR s2 (Moved.trans W.gtrans ((m.mono sb).then_heap (Nat.le_succ _) fun b o hb e => ?_) m2) hS3
      rw [ob.2 b (fun h : b = S => hb (h ▸ List.mem_cons_self))]; exact e
theorem strs_get {zs : List Str} {us : List Value} (h : Vals (zs.map V.str) us) : ∀ (i : Nat) (v : Value), us[i]? = some v → ∃ z t, zs[i]? = some z ∧ v = .str z t := by
  induction zs generalizing us with
  | nil => cases h; intro i v e; simp at e
  | cons z zs ih =>
    cases h with
    | cons r t =>
      obtain ⟨τ, rfl⟩ := r
      intro i v e
      cases i with
      | zero => simp at e; exact ⟨z, τ, rfl, e.symm⟩
      | succ i => simp at e; simpa using ih t i v e
set_option maxHeartbeats 8000000 in
theorem ss_call {l : Addr} {its : Array Value} (zs : List Str) {Q : Value → Shared → Prop} (hh : A.handled = none) (hl : s.heap.IsList l its) (hv : Vals (zs.map V.str) its.toList) (hb : zs.length + 1 < scanBound)
    (h : ∀ (h' : Heap) (tk : Nat), SsR P w h' s.heap.objs.size (dedup zs) → (∀ b o, s.heap.get? b = some o → h'.get? b = some o) → Q (.ref s.heap.objs.size) { s with heap := h', toks := tk }) :
    wpAny (model P w) A (call (.type "set") [.ref l]) Q E s := by
  have sz : its.size = zs.length := by
    have q := hv.length
    rw [List.length_map, Array.length_toList] at q
    exact q.symm
  obtain ⟨cc, tl, hmro⟩ := F.called_set.mro
  have x1 := F.called_set.made; have x2 := F.called_set.sub
  refine wpAny_call (codeAny_of_tree ?_)
  show wpAny _ _ (callAny (.type "set") _) _ _ _
  refine wpAny_pure ⟨Code.quiet_builtin _ (by decide +kernel), codeAny_builtin F.entry_type_call ?_⟩; rw [Around.under_plain (weight_type_call_type "set" [.ref l] []) rfl]
  have x3 := F.called_set.notType; have x4 := F.called_set.canCreate; have x5 := F.typeCall_set_1 (.ref l)
  repeat (any_goals (first | assumption | wp_step))
  refine codeAny_mono (code_set_led1 (.ref l) (E := E) (Q₁ := fun ob s₁ => ob = .ref s.heap.objs.size ∧ s₁ = { s with heap := s.heap.push (s0 w) }) ⟨rfl, rfl⟩) fun r s₁ hr => ?_
  cases r with
  | error e => exact hr
  | ok fl =>
    cases fl with
    | ret ob =>
      obtain ⟨rfl, rfl⟩ := hr
      have hS : (s.heap.push (s0 w)).get? s.heap.objs.size = some (s0 w) := Heap.get?_push_size _ rfl
      have hT : Shared.TypeIs { s with heap := s.heap.push (s0 w) } (.ref s.heap.objs.size) "set" := ⟨_, hS, rfl⟩
      have x6 := F.called_set.init.lookup; have x7 := F.called_set.init.bind (.ref s.heap.objs.size)
      repeat (any_goals (first | assumption | wp_step))
      refine codeAny_mono (codeAny_call_builtin (R := wants (fun r s₂ => r = .none ∧ ∃ h' tk, s₂ = { s with heap := h', toks := tk } ∧ SsR P w h' s.heap.objs.size (dedup zs) ∧ (∀ b o, s.heap.get? b = some o → h'.get? b = some o)) E) F.called_set.init.plain F.entry_set_init (check_set_init_1 hT ?_)) fun r₂ s₂ hr₂ => ?_
      · obtain ⟨⟨oc, od, odt, osl⟩, hol, hcl, nl, hdl⟩ := hl
        simp only at hcl hdl; subst hcl; subst hdl
        have hol2 : (s.heap.push (s0 w)).get? l = some { cls := .type "list", dict := od, data := .seq its nl, slots := osl } := Heap.get?_push_of_some _ hol
        have y1 := F.sub_list_set; have y2 := F.sub_list_frozenset
        have y3 : (Value.type "list" == Value.type "dict") = false := by decide
        have l1 : (s.heap.push (s0 w)).IsList l its := ⟨_, hol2, rfl, nl, rfl⟩
        unfold Builtin.«set.__init__» noKeywords Builtin.Frozenset.updateFrom
        generalize hPI : pyIter = PI
        wp_walk
        subst hPI
        refine wpAny_pyIter_list l1 (wpAny_bind (wpAny_runValue ?_))
        have ll : l < s.heap.objs.size := Heap.lt_size hol
        have h3 : A.in1.in1.in1.handled = none := by simp [hh]
        have z1 : (s.heap.push (s0 w)).objs.size = s.heap.objs.size + 1 := Heap.size_push ..
        have neI : l ≠ (s.heap.push (s0 w)).objs.size := by rw [z1]; exact Nat.ne_of_lt (Nat.lt_succ_of_lt ll)
        have hSf : s.heap.objs.size ∉ [(s.heap.push (s0 w)).objs.size, l] := by
          rw [z1]; simp only [List.mem_cons, List.not_mem_nil, or_false, not_or]
          exact ⟨Nat.ne_of_lt (Nat.lt_succ_self _), Nat.ne_of_gt ll⟩
        refine ss_loop ((Walks.list h3 _ l neI its).toS) s.heap.objs.size hSf zs sz hb (fun i v hv' => strs_get hv i v (by rw [Array.getElem?_toList]; exact hv')) (its.size - 0) 0 _ (by omega) (Nat.zero_le _) ⟨⟨_, Heap.get?_push_size _ rfl, rfl, rfl⟩, (l1.push _)⟩ ?z0 ?zR
        case z0 => exact ss_zero (Heap.get?_push_of_some _ hS)
        case zR =>
          intro s' m hS'
          obtain ⟨h', g2, d', tk', os'⟩ := s'
          have eg : g2 = s.gens := m.gens; have ed : d' = s.drawn := m.drawn; have eo : os' = s.os := m.os
          subst eg; subst ed; subst eo
          show wpAny _ _ _ _ _ _
          refine wpAny_pure ?_
          show wpAny _ _ (ret Value.none) _ _ _
          refine wpAny_pure ⟨rfl, h', tk', rfl, hS', fun b o e => ?_⟩
          have b0 : b < s.heap.objs.size := Heap.lt_size e
          refine m.heap b o ?_ (Heap.get?_push_of_some _ (Heap.get?_push_of_some _ e))
          rw [z1]; simp only [List.mem_cons, List.not_mem_nil, or_false, not_or]
          exact ⟨Nat.ne_of_lt b0, Nat.ne_of_lt (Nat.lt_succ_of_lt b0)⟩
      · cases r₂ with
        | error e => exact hr₂
        | ok fl₂ =>
          cases fl₂ with
          | ret r =>
            obtain ⟨rfl, h', tk, rfl, hS', hk'⟩ := hr₂
            repeat (any_goals (first | assumption | wp_step))
            exact h _ _ hS' hk'
          | _ => exact hr₂.elim
    | _ => exact hr.elim
/-! ### sorted(set) -/
theorem strs_keys : ∀ (l : List (Int × Value)), (∀ e ∈ l, SgE P w e) → ∀ vs : List Value, vs.Perm (l.map (·.2)) → ∃ ss : List Str, PyProof.Rows.StrsAre vs ss ∧ ss.Perm (l.map sgo) := by
  intro l g vs pm
  refine ⟨vs.map fun v => (sgo (0, v)), ?_, ?_⟩
  · have all : ∀ v ∈ vs, ∃ z t, v = Value.str z t := fun v hv => by
      obtain ⟨e, he, q⟩ := List.mem_map.mp (pm.mem_iff.mp hv)
      obtain ⟨z, τ, h1, _⟩ := g e he
      exact ⟨z, τ, by rw [← q]; exact h1⟩
    clear pm
    induction vs with
    | nil => exact .nil
    | cons v vs ih =>
      obtain ⟨z, t, rfl⟩ := all v List.mem_cons_self
      exact .cons z t (ih fun u hu => all u (List.mem_cons_of_mem _ hu))
  · have q := pm.map fun v => (sgo (0, v))
    rw [List.map_map] at q
    exact q
theorem ss_sorted {Q : Value → Shared → Prop} (R : SsR P w s.heap a L) (hh : A.handled = none) (few : L.length < 64)
    (hQ : ∀ s' p (out : Array Value) (c : Nat) (ys : List Str), (∀ b o, s.heap.get? b = some o → s'.heap.get? b = some o) → s'.gens = s.gens → s'.os = s.os → s.heap.objs.size ≤ p →
      s'.heap.get? p = some (seqObj "list" out c) → PyProof.Rows.StrsAre out.toList ys → ys.Perm L → PyProof.Rows.sortedS ys = true → Q (.ref p) s') :
    wpAny (model P w) A (call (.builtin "sorted") [.ref a]) Q E s := by
  obtain ⟨o, es, ep, t, ho, hx, hd, g, pm0, nd, tk⟩ := R
  refine Calls.call_function_entry kind_sorted plain_sorted entry_sorted (args_sorted1 _) ?_
  unfold Builtin.«sorted»
  refine wpAny_bind (m := checkCount "sorted" 1 1 _) (wpAny_pure ?_)
  refine wpAny_bind (collect_set (A := A.in1) hh ⟨o, ho, hx.1, hd⟩ tk.fit tk.few tk.ris tk.led fun s1 vs k1 hz g1 o1 pm => ?_)
  obtain ⟨ss, hs, ps⟩ := strs_keys es.toList g vs pm
  have lv : vs.length < 64 := by
    rw [pm.length_eq, List.length_map]
    have := pm0.length_eq
    rw [List.length_map] at this
    omega
  refine wpAny_bind (wpAny_newList ?_ (by rw [sizeLine_eq]; omega))
  have hoL : (s1.heap.push (seqObj "list" vs.toArray 0)).get? s1.heap.objs.size = some (seqObj "list" vs.toArray 0) := Heap.get?_push_size _ rfl
  refine wpAny_bind (wpAny_holding (wpAny_call_entry slot_list_sort ⟨_, hoL, rfl⟩ entry_list_sort (PyProof.Rows.list_sort_treeK PyProof.Rows.strKind_oneLt hoL hs.keysOf (fun v₁ v₂ rest e => PyProof.Rows.keyKind_strs (by rw [← e]; exact hs)) lv fun st' hp hso => ⟨_, rfl, ?_⟩) (args_list_sort _)))
  obtain ⟨ys, h1, h2, h3⟩ := PyProof.Rows.sorted_out_str hs hp hso
  obtain ⟨c, hc⟩ := sortedHeap_at (vs := vs) (out := (arrOf st').map (·.2)) hoL
  refine wpAny_pure ⟨_, rfl, hQ _ s1.heap.objs.size _ c ys (fun b u e => ?_) g1 o1 hz hc h1 (h2.trans (ps.trans pm0)) h3⟩
  have q := k1 b u e; have lt := Heap.lt_size q
  show (sortedHeap (s1.heap.push (seqObj "list" vs.toArray 0)) s1.heap.objs.size vs ((arrOf st').map (·.2))).get? b = some u
  rw [sortedHeap_old (Nat.ne_of_lt lt) (by rw [size_push']; exact Nat.lt_succ_of_lt lt)]; exact Heap.get?_push_of_some _ q
end
end RX
set_option Elab.async false
set_option linter.all false
set_option maxRecDepth 100000
set_option maxHeartbeats 4000000
/-! RX2: a compact syntax and its wishes. -/
namespace RX
open PySem PySem.Spec PyProof.Rows L2

inductive Ty where
  | bt (n : String) | own (C : Str)
  deriving DecidableEq
/-- built-in functions and types that are called by name -/
inductive BF where
  | len | int | str | tuple | list | abs | all | any | sum | sorted | repr | min | max | divmod | dict
  deriving DecidableEq
/-- methods of built-in types -/
inductive BM where
  | append | extend | pop0 | pop1 | get2 | setdefault | upper | index | count
  deriving DecidableEq

mutual
inductive CE where
  | var (i : Nat) | glb (x : Str) | int (i : Int) | str (x : Str) | bl (b : Bool) | non
  | bin (o : Operator) (fz : Bool) (a b : CE)
  | neg (a : CE)
  | tst (t : CT)
  | ifx (c : CT) (a b : CE)
  | tup (es : CEs)
  | lst (fz : Bool) (es : CEs)
  | dct (fz : Bool) (ks vs : CEs)
  | lc (fz : Bool) (elt : CE) (g : CG) (it : CI) (ifs : CTs) (own : List (Str × Nat))
  | dc (fz : Bool) (k v : CE) (g : CG) (it : CI) (own : List (Str × Nat))
  | call (f : Str) (args : CEs)
  | callk (f : Str) (args : CEs) (ks : List Str) (kws : CEs)
  | make (C : Str) (args : CEs)
  | meth (m : Str) (o : CE) (args : CEs)
  | fld (o : CE) (f : Str)
  | ix (a b : CE)
  | slc (fz : Bool) (a : CE) (lo hi : CO)
  | rev (fz : Bool) (a : CE)
  | fn (b : BF) (fz : Bool) (args : CEs)
  | bm (m : BM) (o : CE) (args : CEs)
  | frz (e : CE)
  | lenset (e : CE)
  | sortset (fz : Bool) (e : CE)
inductive CO where
  | no | yes (e : CE)
inductive CEs where
  | nil | cons (e : CE) (es : CEs) | star (e : CE) (es : CEs)
inductive CT where
  | val (e : CE) | tru (e : CE)
  | cmp (o : CmpOp) (a b : CE)
  | chain (o o' : CmpOp) (a b c : CE)
  | and (a b : CT) | or (a b : CT) | not (a : CT)
  | isi (e : CE) (ts : List Ty)
inductive CTs where
  | nil | cons (t : CT) (ts : CTs)
inductive CI where
  | seq (e : CE) | range1 (a : CE) | range2 (a b : CE) | enum (e : CE) | zip (a b : CE) | items (e : CE) | values (e : CE)
inductive CG where
  | name (i : Nat) | tup (gs : CGs) | sub (o i : CE)
inductive CGs where
  | nil | cons (g : CG) (gs : CGs)
end
mutual
inductive CS where
  | expr (e : CE)
  | asg (g : CG) (e : CE)
  | setLc (i : Nat) (fz : Bool) (elt : CE) (g : CG) (it : CI) (ifs : CTs) (own : List (Str × Nat))
  | setf (o : CE) (f : Str) (e : CE)
  | par2 (i j : Nat) (a b : CE)
  | aug (i : Nat) (o : Operator) (e : CE)
  | ret (e : CE) | retN
  | ite (c : CT) (a b : CSs)
  | for_ (g : CG) (it : CI) (b : CSs)
  | while_ (c : CT) (b : CSs)
  | pass | brk | cont
  | never
inductive CSs where
  | nil | cons (s : CS) (ss : CSs)
end

/-! ### what the operations ask -/
abbrev XD := Str → List Str → List D → MM → Prop
abbrev ED := Str → List Str → List D → DSt → MM → Prop
abbrev EF0 : ED := fun _ _ _ _ _ => False
abbrev CallT := List D → MM → DV → XD → Prop
/-- what is known of the defs and of the module's names -/
structure Gam where
  par : Str → List Str
  has : Str → Str → Bool
  call : Str → CallT
  meth : Str → Str → CallT
  init : Str → CallT
  glob : Str → Option D
  fld : Str → Str → Bool

def lsOf (M : MM) : D → Option (List D)
  | .lst ds => some ds
  | .ref a => match M a with
    | some (.lst ds) => some ds
    | _ => none
  | _ => none
def sqOf (M : MM) : D → Option (List D)
  | .tup ds => some ds
  | x => lsOf M x
def dcOf (M : MM) : D → Option (List Key × List D)
  | .dct ks ds => some (ks, ds)
  | .ref a => match M a with
    | some (.dct ks ds) => some (ks, ds)
    | _ => none
  | _ => none
def keyOf : D → Option Key
  | .int i => some (.inl i)
  | .str x => some (.inr x)
  | _ => none
def kD : Key → D
  | .inl i => .int i
  | .inr x => .str x
def getKD (ks : List Key) (ds : List D) (k : Key) : Option D := ((ks.zip ds).find? fun kv => decide (kv.1 = k)).map (·.2)
def hasK (ks : List Key) (k : Key) : Bool := ks.any fun k' => decide (k' = k)
def putKD (ks : List Key) (ds : List D) (k : Key) (d : D) : List Key × List D :=
  if hasK ks k then (ks, List.zipWith (fun k' d' => if k' = k then d else d') ks ds) else (ks ++ [k], ds ++ [d])
def getFD (ks : List Str) (ds : List D) (f : Str) : Option D := (ks.zip ds).lookup f
def putFD : List Str → List D → Str → D → List Str × List D
  | k :: ks, d :: ds, f, x => if k = f then (k :: ks, x :: ds) else (k :: (putFD ks ds f x).1, d :: (putFD ks ds f x).2)
  | _, _, f, x => ([f], [x])
def newL (fz : Bool) (ds : List D) (M : MM) (Q : DV) : Prop := match fz with
  | true => Q (.lst ds) M
  | false => ∀ p, M p = none → Q (.ref p) (up M p (.lst ds))
def newD (fz : Bool) (ks : List Key) (ds : List D) (M : MM) (Q : DV) : Prop := match fz with
  | true => Q (.dct ks ds) M
  | false => ∀ p, M p = none → Q (.ref p) (up M p (.dct ks ds))
/-! a value as data -/
mutual
inductive Vw (M : MM) : D → PyData → Prop where
  | non : Vw M .non .none
  | bl (b : Bool) : Vw M (.bl b) (.bool b)
  | int (i : Int) : Vw M (.int i) (.int i)
  | str (x : Str) : Vw M (.str x) (.str x)
  | tup {ds : List D} {ps : List PyData} : VwL M ds ps → Vw M (.tup ds) (.tuple ps)
  | lst {ds : List D} {ps : List PyData} : VwL M ds ps → Vw M (.lst ds) (.list ps)
  | ref {a : Addr} {ds : List D} {ps : List PyData} : M a = some (.lst ds) → VwL M ds ps → Vw M (.ref a) (.list ps)
inductive VwL (M : MM) : List D → List PyData → Prop where
  | nil : VwL M [] []
  | cons {d : D} {p : PyData} {ds : List D} {ps : List PyData} : Vw M d p → VwL M ds ps → VwL M (d :: ds) (p :: ps)
end
/-- == tells b -/
inductive EqR (M : MM) : D → D → Bool → Prop where
  | dat {x y : D} {p q : PyData} : Vw M x p → Vw M y q → SeqAt.shaped p = true → SeqAt.shaped q = true → EqR M x y (PyData.eqv p q)
/-- a value's kind: a built-in type's name, or a class of one's own -/
def tyOf (M : MM) : D → Option Ty
  | .non => some (.bt "NoneType") | .bl _ => some (.bt "bool") | .int _ => some (.bt "int") | .str _ => some (.bt "str") | .tup _ => some (.bt "tuple") | .lst _ => some (.bt "list") | .dct _ _ => some (.bt "dict")
  | .ref a => (match M a with
    | some (.lst _) => some (.bt "list")
    | some (.dct _ _) => some (.bt "dict")
    | some (.ins C _ _) => some (.own C)
    | none => none)
  | .ty _ => none
  | .wtp _ => some (.bt "tuple")
inductive InR (M : MM) (x : D) (ys : List D) : Bool → Prop where
  | dat {ps : List PyData} {p : PyData} : VwL M ys ps → Vw M x p → PyData.canLayAll0 ps = true → SeqAt.shaped p = true → InR M x ys (ps.any fun q => PyData.eqv q p)
  | txt {z : Str} {zs : List Str} : x = .str z → ys = zs.map D.str → InR M x ys (decide (z ∈ zs))
  | odd {n : String} {zs : List Str} : tyOf M x = some (.bt n) → n ≠ "str" → ys = zs.map D.str → InR M x ys false
def inS (i j : Str) : Bool := !(Builtin.Str.occurrences j i 0 j.length 1).isEmpty
def rdEq (x y : D) (M : MM) (Q : Bool → MM → Prop) : Prop := match x, y with
  | .int i, .int j => Q (decide (i = j)) M
  | .str i, .str j => Q (decide (i = j)) M
  | x, y => ∃ b, EqR M x y b ∧ Q b M
def rdIn (x y : D) (M : MM) (Q : Bool → MM → Prop) : Prop := match y with
  | .str j => ∃ i, x = .str i ∧ Q (inS i j) M
  | .tup ys => ∃ b, InR M x ys b ∧ Q b M
  | .lst ys => ∃ b, InR M x ys b ∧ Q b M
  | .dct ks ds => ∃ k, keyOf x = some k ∧ Q (hasK ks k) M
  | y => (∃ ys b, lsOf M y = some ys ∧ InR M x ys b ∧ Q b M) ∨ ∃ ks ds k, dcOf M y = some (ks, ds) ∧ keyOf x = some k ∧ Q (hasK ks k) M
def rdCmp : CmpOp → D → D → MM → (Bool → MM → Prop) → Prop
  | .Eq, x, y, M, Q => rdEq x y M Q
  | .NotEq, x, y, M, Q => rdEq x y M fun b M' => Q (!b) M'
  | .Lt, x, y, M, Q => ∃ i j, x = .int i ∧ y = .int j ∧ Q (decide (i < j)) M
  | .LtE, x, y, M, Q => ∃ i j, x = .int i ∧ y = .int j ∧ Q (decide (i ≤ j)) M
  | .Gt, x, y, M, Q => ∃ i j, x = .int i ∧ y = .int j ∧ Q (decide (j < i)) M
  | .GtE, x, y, M, Q => ∃ i j, x = .int i ∧ y = .int j ∧ Q (decide (j ≤ i)) M
  | .Is, x, y, M, Q => y = .non ∧ ∃ b, (x = .non ↔ b = true) ∧ Q b M
  | .IsNot, x, y, M, Q => y = .non ∧ ∃ b, (x = .non ↔ b = true) ∧ Q (!b) M
  | .In, x, y, M, Q => rdIn x y M Q
  | .NotIn, x, y, M, Q => rdIn x y M fun b M' => Q (!b) M'
def rdAdd (fz : Bool) (x y : D) (M : MM) (Q : DV) : Prop := match x, y with
  | .int i, .int j => Q (.int (i + j)) M
  | .str i, .str j => i.length + j.length ≤ sizeLine ∧ Q (.str (i ++ j)) M
  | .tup xs, .tup ys => xs.length + ys.length ≤ sizeLine ∧ Q (.tup (xs ++ ys)) M
  | x, y => ∃ xs ys, lsOf M x = some xs ∧ lsOf M y = some ys ∧ xs.length + ys.length ≤ sizeLine ∧ newL fz (xs ++ ys) M Q
def rdMul (x y : D) (M : MM) (Q : DV) : Prop := match x, y with
  | .int i, .int j => CMul i j ∧ Q (.int (i * j)) M
  | .tup xs, .int k => xs ≠ [] ∧ 2 ≤ k ∧ k ≤ 1000 ∧ xs.length ≤ 1000 ∧ Q (.tup (List.replicate k.toNat xs).flatten) M
  | .str z, .int k => (2 ≤ k ∧ k ≤ 1000 ∧ 1 ≤ z.length ∧ z.length ≤ 1000) ∧ Q (.str ⟨(List.replicate k.toNat z.cps).foldl (· ++ ·) #[]⟩) M
  | _, _ => False
def rdBin : Operator → Bool → D → D → MM → DV → Prop
  | .Add, fz, x, y, M, Q => rdAdd fz x y M Q
  | .Sub, _, x, y, M, Q => ∃ i j, x = .int i ∧ y = .int j ∧ Q (.int (i - j)) M
  | .Mult, _, x, y, M, Q => rdMul x y M Q
  | .FloorDiv, _, x, y, M, Q => ∃ i j, x = .int i ∧ y = .int j ∧ CDiv i j ∧ Q (.int (i / j)) M
  | .Mod, _, x, y, M, Q => ∃ i j, x = .int i ∧ y = .int j ∧ 0 < j ∧ Q (.int (i % j)) M
  | .Pow, _, x, y, M, Q => ∃ i j, x = .int i ∧ y = .int j ∧ CPow i j ∧ Q (.int (i ^ j.toNat)) M
  | _, _, _, _, _, _ => False
def rdIx (x y : D) (M : MM) (Q : DV) : Prop := match x, y with
  | .str z, .int i => ∃ c, z.length ≤ sizeLine ∧ atI z.cps.toList i = some c ∧ Q (.str ⟨#[c]⟩) M
  | .tup xs, .int i => ∃ d, atI xs i = some d ∧ Q d M
  | .lst xs, .int i => ∃ d, atI xs i = some d ∧ Q d M
  | .dct ks ds, y => ∃ k d, keyOf y = some k ∧ getKD ks ds k = some d ∧ Q d M
  | x, y => (∃ xs i d, lsOf M x = some xs ∧ y = .int i ∧ atI xs i = some d ∧ Q d M) ∨ ∃ ks ds k d, dcOf M x = some (ks, ds) ∧ keyOf y = some k ∧ getKD ks ds k = some d ∧ Q d M
def cutD (xs : List D) (lo hi : Option Int) : List D := (xs.drop (HT.sIx xs.length 0 lo)).take (HT.sIx xs.length xs.length hi - HT.sIx xs.length 0 lo)
def rdSl (fz : Bool) (x : D) (lo hi : Option Int) (M : MM) (Q : DV) : Prop := match x with
  | .tup xs => Q (.tup (cutD xs lo hi)) M
  | .str z => z.length ≤ sizeLine ∧ Q (.str (cutS z lo hi)) M
  | x => ∃ xs, lsOf M x = some xs ∧ newL fz (cutD xs lo hi) M Q
def rdRev (fz : Bool) (x : D) (M : MM) (Q : DV) : Prop := match x with
  | .tup xs => Q (.tup xs.reverse) M
  | x => ∃ xs, lsOf M x = some xs ∧ newL fz xs.reverse M Q
def isTy : Ty → Ty → Bool
  | .bt a, .bt b => a == b || (a == "bool" && b == "int")
  | .own a, .own b => a == b
  | _, _ => false
def rdIsi (ts : List Ty) (x : D) (M : MM) (Q : Bool → MM → Prop) : Prop := ∃ n, tyOf M x = some (.bt n) ∧ Q (ts.any (isTy (.bt n))) M
def truD (M : MM) : D → Option Bool
  | .non => some false | .bl b => some b | .int i => some (i != 0) | .str x => some (x.length != 0) | .tup xs => some (!xs.isEmpty) | .lst xs => some (!xs.isEmpty)
  | .ref a => (match M a with
    | some (.lst xs) => some (!xs.isEmpty)
    | _ => none)
  | _ => none
def rdLen (x : D) (M : MM) (Q : DV) : Prop := match x with
  | .str z => z.length ≤ sizeLine ∧ Q (.int z.length) M
  | .tup xs => Q (.int xs.length) M
  | .lst xs => Q (.int xs.length) M
  | .dct ks _ => Q (.int ks.length) M
  | x => (∃ xs, lsOf M x = some xs ∧ Q (.int xs.length) M) ∨ ∃ ks ds, dcOf M x = some (ks, ds) ∧ Q (.int ks.length) M
def rdInt1 (x : D) (M : MM) (Q : DV) : Prop := match x with
  | .int i => Q (.int i) M
  | .bl b => Q (.int (if b then 1 else 0)) M
  | _ => False
def rdTup1 (x : D) (M : MM) (Q : DV) : Prop := match x with
  | .tup xs => Q (.tup xs) M
  | x => ∃ xs, lsOf M x = some xs ∧ Q (.tup xs) M
def rdMin2 (x y : D) (M : MM) (Q : DV) : Prop := ∃ i j, x = .int i ∧ y = .int j ∧ Q (.int (if j < i then j else i)) M
def rdMax2 (x y : D) (M : MM) (Q : DV) : Prop := ∃ i j, x = .int i ∧ y = .int j ∧ Q (.int (if j > i then j else i)) M
def rdDivmod (x y : D) (M : MM) (Q : DV) : Prop := ∃ i j, x = .int i ∧ y = .int j ∧ CDiv i j ∧ Q (.wtp [.int (i / j), .int (i % j)]) M
def rdRepr (x : D) (M : MM) (Q : DV) : Prop := ∃ p, Vw M x p ∧ PyData.showable p = true ∧ p.depth ≤ 64 ∧ p.shown.length ≤ sizeLine ∧ Q (.str p.shown) M
/-- pairs -/
def prD : List D → Option (List (Key × D))
  | [] => some []
  | .tup [k, v] :: r => match keyOf k, prD r with
    | some k, some l => some ((k, v) :: l)
    | _, _ => none
  | _ => none
def mergeD (ks : List Key) (ds : List D) : List (Key × D) → List Key × List D
  | [] => (ks, ds)
  | kv :: r => mergeD (putKD ks ds kv.1 kv.2).1 (putKD ks ds kv.1 kv.2).2 r
def rdDict (fz : Bool) (x : D) (M : MM) (Q : DV) : Prop := match x with
  | .dct ks ds => newD fz ks ds M Q
  | x => (∃ xs l, sqOf M x = some xs ∧ prD xs = some l ∧ newD fz (mergeD [] [] l).1 (mergeD [] [] l).2 M Q)
def rdLenSet (x : D) (M : MM) (Q : DV) : Prop := ∃ zs : List Str, lsOf M x = some (zs.map D.str) ∧ zs.length < 1000 ∧ Q (.int (dedup zs).length) M
def rdSortSet (fz : Bool) (x : D) (M : MM) (Q : DV) : Prop := ∃ zs : List Str, lsOf M x = some (zs.map D.str) ∧ zs.length < 64 ∧ ∀ ys : List Str, ys.Perm (dedup zs) → sortedS ys = true → newL fz (ys.map D.str) M Q
def rdF : BF → Bool → List D → MM → DV → Prop
  | .len, _, [x], M, Q => rdLen x M Q
  | .int, _, [x], M, Q => rdInt1 x M Q
  | .str, _, [x], M, Q => ∃ i, x = .int i ∧ i.natAbs.log2 < 1920 ∧ Q (.str (toString i)) M
  | .tuple, _, [x], M, Q => rdTup1 x M Q
  | .list, fz, [x], M, Q => ∃ xs, sqOf M x = some xs ∧ newL fz xs M Q
  | .abs, _, [x], M, Q => ∃ i, x = .int i ∧ Q (.int (if i < 0 then -i else i)) M
  | .all, _, [x], M, Q => ∃ bs : List Bool, lsOf M x = some (bs.map D.bl) ∧ Q (.bl (bs.all id)) M
  | .any, _, [x], M, Q => ∃ bs : List Bool, lsOf M x = some (bs.map D.bl) ∧ Q (.bl (bs.any id)) M
  | .sum, _, [x], M, Q => ∃ is : List Int, lsOf M x = some (is.map D.int) ∧ Q (.int is.sum) M
  | .min, _, [x, y], M, Q => rdMin2 x y M Q
  | .max, _, [x, y], M, Q => rdMax2 x y M Q
  | .divmod, _, [x, y], M, Q => rdDivmod x y M Q
  | .repr, _, [x], M, Q => rdRepr x M Q
  | .dict, fz, [x], M, Q => rdDict fz x M Q
  | _, _, _, _, _ => False
def rdM : BM → D → List D → MM → DV → Prop
  | .append, o, [x], M, Q => ∃ p xs, o = .ref p ∧ M p = some (.lst xs) ∧ xs.length < sizeLine ∧ Q .non (up M p (.lst (xs ++ [x])))
  | .extend, o, [x], M, Q => ∃ p xs ys, o = .ref p ∧ M p = some (.lst xs) ∧ lsOf M x = some ys ∧ xs.length + ys.length ≤ sizeLine ∧ Q .non (up M p (.lst (xs ++ ys)))
  | .pop0, o, [], M, Q => ∃ p xs y, o = .ref p ∧ M p = some (.lst xs) ∧ xs[xs.length - 1]? = some y ∧ Q y (up M p (.lst xs.dropLast))
  | .pop1, o, [i], M, Q => ∃ p xs k y, o = .ref p ∧ M p = some (.lst xs) ∧ i = .int (k : Nat) ∧ k < 2 ^ 62 ∧ xs[k]? = some y ∧ Q y (up M p (.lst (xs.eraseIdx k)))
  | .upper, o, [], M, Q => ∃ z, o = .str z ∧ z.length ≤ 5592405 ∧ Q (.str (Txt.upper z)) M
  | _, _, _, _, _ => False
/-- the receiver of a built-in type's method -/
def rcvD : BM → D → MM → Prop
  | .append, x, M => ∃ xs, lsOf M x = some xs
  | .extend, x, M => ∃ xs, lsOf M x = some xs
  | .pop0, x, M => ∃ xs, lsOf M x = some xs
  | .pop1, x, M => ∃ xs, lsOf M x = some xs
  | .upper, x, _ => ∃ z, x = .str z
  | _, _, _ => False
/-- positional arguments, then keywords by name -/
def kwArr {α : Type} (ps : List Str) (us : List α) (ks : List Str) (ws : List α) : List α := us ++ (ps.drop us.length).filterMap fun p => (ks.zip ws).lookup p
/-! ### wishes -/
def subD (x y d : D) (σ : DSt) (M : MM) (Q : DSt → MM → Prop) : Prop := match x, y with
  | .ref p, .int k => (∃ xs j, M p = some (.lst xs) ∧ ixN xs.length k = some j ∧ Q σ (up M p (.lst (xs.set j d))))
  | .ref p, .str k => ∃ ks ds, M p = some (.dct ks ds) ∧ ks.length < sizeLine ∧ Q σ (up M p (.dct (putKD ks ds (.inr k) d).1 (putKD ks ds (.inr k) d).2))
  | _, _ => False
def CGs.len : CGs → Nat
  | .nil => 0
  | .cons _ gs => gs.len + 1
/-- a bool that is asked -/
def Bif (k : Bool) (A B : Prop) : Prop := (k = true → A) ∧ (k = false → B)
theorem Bif_t {A B : Prop} : Bif true A B = A := propext (Iff.intro (fun h => h.1 rfl) (fun h => And.intro (fun _ => h) (fun z => nomatch z)))
theorem Bif_f {A B : Prop} : Bif false A B = B := propext (Iff.intro (fun h => h.2 rfl) (fun h => And.intro (fun z => nomatch z) (fun _ => h)))
theorem Bif_of {k : Bool} {A B : Prop} (h1 : k = true → A) (h2 : k = false → B) : Bif k A B := And.intro h1 h2
def forD (stab : MM → Prop) (g : DG) (b : DS) (E : DEnds) : List D → DSt → MM → Prop
  | [], σ, M => stab M ∧ E.nx σ M
  | x :: xs, σ, M => stab M ∧ g x σ M fun σ1 M1 => b { E with nx := forD stab g b E xs, ct := forD stab g b E xs, bk := E.nx } σ1 M1
def lcD (stab : MM → Prop) (g : DG) (tt : DT) (te : DE) (own : List Nat) (σ : DSt) (Q : List D → MM → Prop) : List D → List D → MM → Prop
  | [], acc, M => stab M ∧ Q acc M
  | x :: xs, acc, M => stab M ∧ acc.length < sizeLine ∧ g x (wipeD σ own) M fun σ2 M2 => tt σ2 M2 fun b M3 => Bif b (te σ2 M3 fun y M4 => lcD stab g tt te own σ Q xs (acc ++ [y]) M4) (lcD stab g tt te own σ Q xs acc M3)
def dcD (stab : MM → Prop) (g : DG) (tk te : DE) (own : List Nat) (σ : DSt) (Q : List Key → List D → MM → Prop) : List D → List Key → List D → MM → Prop
  | [], ks, ds, M => stab M ∧ Q ks ds M
  | x :: xs, ks, ds, M => stab M ∧ ks.length < sizeLine ∧ g x (wipeD σ own) M fun σ2 M2 => tk σ2 M2 fun kd M3 => ∃ k, keyOf kd = some k ∧ te σ2 M3 fun y M4 =>
    dcD stab g tk te own σ Q xs (putKD ks ds k y).1 (putKD ks ds k y).2 M4
/-- while: n turns at most -/
def whD (t : DT) (b : DS) (E : DEnds) : Nat → DSt → MM → Prop
  | 0, _, _ => False
  | n + 1, σ, M => t σ M fun c M1 => Bif c (b { E with nx := whD t b E n, ct := whD t b E n, bk := E.nx } σ M1) (E.nx σ M1)
def pairD (xs : List D) : Nat → List D
  | k => match xs with
    | [] => []
    | x :: r => .wtp [.int k, x] :: pairD r (k + 1)
def zipD : List D → List D → List D
  | x :: xs, y :: ys => .wtp [x, y] :: zipD xs ys
  | _, _ => []
def rngD (lo : Int) : Nat → List D
  | 0 => []
  | n + 1 => .int lo :: rngD (lo + 1) n
def strD (z : Str) : List D := z.cps.toList.map fun c => .str ⟨#[c]⟩
/-- what is walked: the items, and what must stay so -/
def itD (x : D) (M : MM) (R : List D → (MM → Prop) → Prop) : Prop := match x with
  | .tup xs => R xs fun _ => True
  | .lst xs => R xs fun _ => True
  | .str z => R (strD z) fun _ => True
  | .ref a => ∃ xs, M a = some (.lst xs) ∧ R xs fun M' => M' a = some (.lst xs)
  | _ => False
def seqD (x : D) (M : MM) (R : List D → (MM → Prop) → Prop) : Prop := match x with
  | .lst xs => R xs fun _ => True
  | .ref a => ∃ xs, M a = some (.lst xs) ∧ R xs fun M' => M' a = some (.lst xs)
  | _ => False
section
variable (Γ : Gam)
mutual
def wpE (E : ED) : CE → DSt → MM → DV → Prop
  | .var i, σ, M, Q => ∃ d, σ[i]? = some (some d) ∧ Q d M
  | .glb x, σ, M, Q => ∃ d, Γ.glob x = some d ∧ Q d M
  | .int i, _, M, Q => Q (.int i) M
  | .str x, _, M, Q => Q (.str x) M
  | .bl b, _, M, Q => Q (.bl b) M
  | .non, _, M, Q => Q .non M
  | .bin o fz a b, σ, M, Q => wpE E a σ M fun x M1 => wpE E b σ M1 fun y M2 => rdBin o fz x y M2 Q
  | .neg a, σ, M, Q => wpE E a σ M fun x M1 => ∃ i, x = .int i ∧ Q (.int (-i)) M1
  | .tst t, σ, M, Q => wpT E t σ M fun b M1 => Q (.bl b) M1
  | .ifx c a b, σ, M, Q => wpT E c σ M fun k M1 => Bif k (wpE E a σ M1 Q) (wpE E b σ M1 Q)
  | .tup es, σ, M, Q => wpEs E es σ M fun ds M1 => ds.length ≤ sizeLine ∧ Q (.tup ds) M1
  | .lst fz es, σ, M, Q => wpEs E es σ M fun ds M1 => ds.length ≤ sizeLine ∧ newL fz ds M1 Q
  | .dct fz ks vs, σ, M, Q => wpEs E ks σ M fun ds M1 => ds = [] ∧ newD fz [] [] M1 Q
  | .lc fz e g it ifs own, σ, M, Q => wpI E it σ M fun xs stab M1 => lcD stab (wpG EF0 g) (wpTs EF0 ifs) (wpE EF0 e) (own.map (·.2)) σ (fun acc M2 => newL fz acc M2 Q) xs [] M1
  | .dc fz k v g it own, σ, M, Q => wpI E it σ M fun xs stab M1 => dcD stab (wpG EF0 g) (wpE EF0 k) (wpE EF0 v) (own.map (·.2)) σ (fun ks ds M2 => newD fz ks ds M2 Q) xs [] [] M1
  | .call f args, σ, M, Q => wpEs E args σ M fun ds M1 => Γ.call f ds M1 Q fun C ks vs M2 => E C ks vs σ M2
  | .callk f args ks kws, σ, M, Q => wpEs E args σ M fun ds M1 => wpEs E kws σ M1 fun es M2 => (ds.length + es.length = (Γ.par f).length ∧ es.length = ks.length) ∧ Γ.call f (kwArr (Γ.par f) ds ks es) M2 Q fun C ks vs M3 => E C ks vs σ M3
  | .make C args, σ, M, Q => wpEs E args σ M fun ds M1 => (ds.length + 1 = (Γ.par C).length) ∧ ∀ p, M1 p = none → Γ.init C (.ref p :: ds) (up M1 p (.ins C [] [])) (fun d M2 => d = .non ∧ Q (.ref p) M2) fun C ks vs M2 => E C ks vs σ M2
  | .meth m o args, σ, M, Q => wpE E o σ M fun x M1 => ∃ p C ks vs, x = .ref p ∧ M1 p = some (.ins C ks vs) ∧ m ∉ ks ∧ Γ.has C m = true ∧ wpEs E args σ M1 fun ds M2 => Γ.meth C m (x :: ds) M2 Q fun C ks vs M2 => E C ks vs σ M2
  | .fld o f, σ, M, Q => wpE E o σ M fun x M1 => ∃ p C ks vs d, x = .ref p ∧ M1 p = some (.ins C ks vs) ∧ Γ.fld C f = true ∧ getFD ks vs f = some d ∧ Q d M1
  | .ix a b, σ, M, Q => wpE E a σ M fun x M1 => wpE E b σ M1 fun y M2 => rdIx x y M2 Q
  | .slc fz a lo hi, σ, M, Q => wpE E a σ M fun x M1 => wpO E lo σ M1 fun i M2 => wpO E hi σ M2 fun j M3 => rdSl fz x i j M3 Q
  | .rev fz a, σ, M, Q => wpE E a σ M fun x M1 => rdRev fz x M1 Q
  | .fn b fz args, σ, M, Q => wpEs E args σ M fun ds M1 => rdF b fz ds M1 Q
  | .bm m o args, σ, M, Q => wpE E o σ M fun x M1 => rcvD m x M1 ∧ wpEs E args σ M1 fun ds M2 => rdM m x ds M2 Q
  | .lenset e, σ, M, Q => wpE E e σ M fun x M1 => rdLenSet x M1 Q
  | .sortset fz e, σ, M, Q => wpE E e σ M fun x M1 => rdSortSet fz x M1 Q
  | .frz e, σ, M, Q => wpE E e σ M fun x M1 => ∃ p ds, x = .ref p ∧ M1 p = some (.lst ds) ∧ Q (.lst ds) (del M1 p)
def wpO (E : ED) : CO → DSt → MM → (Option Int → MM → Prop) → Prop
  | .no, _, M, Q => Q none M
  | .yes e, σ, M, Q => wpE E e σ M fun x M1 => ∃ i, x = .int i ∧ Q (some i) M1
def wpEs (E : ED) : CEs → DSt → MM → (List D → MM → Prop) → Prop
  | .nil, _, M, Q => Q [] M
  | .cons e es, σ, M, Q => wpE E e σ M fun x M1 => wpEs E es σ M1 fun xs M2 => Q (x :: xs) M2
  | .star e es, σ, M, Q => wpE E e σ M fun x M1 => ∃ ys, sqOf M1 x = some ys ∧ wpEs E es σ M1 fun xs M2 => Q (ys ++ xs) M2
def wpT (E : ED) : CT → DSt → MM → (Bool → MM → Prop) → Prop
  | .val e, σ, M, Q => wpE E e σ M fun x M1 => ∃ b, x = .bl b ∧ Q b M1
  | .tru e, σ, M, Q => wpE E e σ M fun x M1 => (∀ z, x = .str z → z.length ≤ sizeLine) ∧ ∃ b, truD M1 x = some b ∧ Q b M1
  | .cmp o a b, σ, M, Q => wpE E a σ M fun x M1 => wpE E b σ M1 fun y M2 => rdCmp o x y M2 Q
  | .chain o o' a b c, σ, M, Q => wpE E a σ M fun x M1 => wpE E b σ M1 fun y M2 => rdCmp o x y M2 fun k M3 => Bif k (wpE E c σ M3 fun z M4 => rdCmp o' y z M4 Q) (Q false M3)
  | .and a b, σ, M, Q => wpT E a σ M fun k M1 => Bif k (wpT E b σ M1 Q) (Q false M1)
  | .or a b, σ, M, Q => wpT E a σ M fun k M1 => Bif k (Q true M1) (wpT E b σ M1 Q)
  | .not a, σ, M, Q => wpT E a σ M fun k M1 => Q (!k) M1
  | .isi e ts, σ, M, Q => wpE E e σ M fun x M1 => rdIsi ts x M1 Q
def wpTs (E : ED) : CTs → DSt → MM → (Bool → MM → Prop) → Prop
  | .nil, _, M, Q => Q true M
  | .cons t ts, σ, M, Q => wpT E t σ M fun b M1 => Bif b (wpTs E ts σ M1 Q) (Q false M1)
def wpI (E : ED) : CI → DSt → MM → (List D → (MM → Prop) → MM → Prop) → Prop
  | .seq e, σ, M, R => wpE E e σ M fun x M1 => itD x M1 fun xs stab => R xs stab M1
  | .range1 a, σ, M, R => wpE E a σ M fun x M1 => ∃ j, x = .int j ∧ -(2 ^ 62) ≤ j ∧ j < 2 ^ 62 ∧ R (rngD 0 j.toNat) (fun _ => True) M1
  | .range2 a b, σ, M, R => wpE E a σ M fun x M1 => wpE E b σ M1 fun y M2 => ∃ i j, x = .int i ∧ y = .int j ∧ (-(2 ^ 62) ≤ i ∧ i < 2 ^ 62 ∧ -(2 ^ 62) ≤ j ∧ j < 2 ^ 62) ∧ R (rngD i (j - i).toNat) (fun _ => True) M2
  | .enum e, σ, M, R => wpE E e σ M fun x M1 => seqD x M1 fun xs stab => R (pairD xs 0) stab M1
  | .zip a b, σ, M, R => wpE E a σ M fun x M1 => wpE E b σ M1 fun y M2 => seqD x M2 fun xs s1 => seqD y M2 fun ys s2 => R (zipD xs ys) (fun M' => s1 M' ∧ s2 M') M2
  | .items e, σ, M, R => False
  | .values e, σ, M, R => False
def wpG (E : ED) : CG → D → DSt → MM → (DSt → MM → Prop) → Prop
  | .name i, d, σ, M, Q => Q (σ.set i (some d)) M
  | .tup gs, d, σ, M, Q => match d with
    | .tup ds => ds.length = gs.len ∧ wpGs E gs ds σ M Q
    | .wtp ds => ds.length = gs.len ∧ wpGs E gs ds σ M Q
    | _ => False
  | .sub o i, d, σ, M, Q => wpE E o σ M fun x M1 => wpE E i σ M1 fun y M2 => subD x y d σ M2 Q
def wpGs (E : ED) : CGs → List D → DSt → MM → (DSt → MM → Prop) → Prop
  | .nil, ds, σ, M, Q => ds = [] ∧ Q σ M
  | .cons g gs, ds, σ, M, Q => ∃ d r, ds = d :: r ∧ wpG E g d σ M fun σ1 M1 => wpGs E gs r σ1 M1 Q
end
end
end RX
namespace RX
open PySem PySem.Spec PyProof.Rows L2
structure CFun where
  ps : List Str
  N : List Str
  body : CSs
section
variable (Γ : Gam)
mutual
def wpS (E : ED) : CS → DEnds → DSt → MM → Prop
  | .expr e, D, σ, M => wpE Γ E e σ M fun _ M1 => D.nx σ M1
  | .asg g e, D, σ, M => wpE Γ E e σ M fun x M1 => wpG Γ E g x σ M1 D.nx
  | .setLc i fz e g it ifs own, D, σ, M => wpI Γ E it σ M fun xs stab M1 => lcD stab (wpG Γ EF0 g) (wpTs Γ EF0 ifs) (wpE Γ EF0 e) (own.map (·.2)) σ (fun acc M2 => newL fz acc M2 fun d M3 => D.nx (σ.set i (some d)) M3) xs [] M1
  | .setf o f e, D, σ, M => wpE Γ E e σ M fun y M1 => wpE Γ E o σ M1 fun x M2 => ∃ p C ks vs, x = .ref p ∧ M2 p = some (.ins C ks vs) ∧ Γ.fld C f = true ∧ ks.length < 1000 ∧ D.nx σ (up M2 p (.ins C (putFD ks vs f y).1 (putFD ks vs f y).2))
  | .par2 i j a b, D, σ, M => wpE Γ E a σ M fun x M1 => wpE Γ E b σ M1 fun y M2 => D.nx ((σ.set i (some x)).set j (some y)) M2
  | .aug i o e, D, σ, M => ∃ x, σ[i]? = some (some x) ∧ wpE Γ E e σ M fun y M1 => rdBin o true x y M1 fun z M2 => D.nx (σ.set i (some z)) M2
  | .ret e, D, σ, M => wpE Γ E e σ M D.rt
  | .retN, D, _, M => D.rt .non M
  | .ite c a b, D, σ, M => wpT Γ E c σ M fun k M1 => Bif k (wpSs E a D σ M1) (wpSs E b D σ M1)
  | .for_ g it b, D, σ, M => wpI Γ E it σ M fun xs stab M1 => forD stab (wpG Γ E g) (wpSs E b) D xs σ M1
  | .while_ c b, D, σ, M => ∃ n, whD (wpT Γ E c) (wpSs E b) D n σ M
  | .pass, D, σ, M => D.nx σ M
  | .brk, D, σ, M => D.bk σ M
  | .cont, D, σ, M => D.ct σ M
  | .never, _, _, _ => False
def wpSs (E : ED) : CSs → DEnds → DSt → MM → Prop
  | .nil, D, σ, M => D.nx σ M
  | .cons s ss, D, σ, M => wpS E s { D with nx := wpSs E ss D } σ M
end
end
/-- what is known of the defs -/
abbrev FId := Str × Option Str
def startD (f : CFun) (ds : List D) : DSt := ds.map some ++ List.replicate (f.N.length - ds.length) none
def retD (Q : DV) : DV := fun d M' => ∃ M'', Sub M'' M' ∧ Q d M''
def wpBody (Γ : Gam) (f : CFun) : CallT := fun ds M Q E => ds.length = f.ps.length ∧
  wpSs Γ (fun C ks vs _ M' => ∃ M'', Sub M'' M' ∧ E C ks vs M'') f.body { nx := fun _ M' => retD Q .non M', rt := retD Q } (startD f ds) M
/-- one level: calls go to p, the making of instances to q -/
def stepF (T : FId → Option CFun) (gl : Str → Option D) (fl : Str → Str → Bool) (p q : FId → CallT) : FId → CallT := fun id => match T id with
  | some f => wpBody ⟨fun x => match T (x, none) with | some c => c.ps | none => (match T (x, some "__init__") with | some c => c.ps | none => []), fun C m => (T (C, some m)).isSome, fun x => p (x, none), fun C m => p (C, some m), fun C => q (C, some "__init__"), gl, fl⟩ f
  | none => fun _ _ _ _ => False
def wpFF (T : FId → Option CFun) (gl : Str → Option D) (fl : Str → Str → Bool) : Nat → (FId → CallT) × (FId → CallT)
  | 0 => (fun _ _ _ _ _ => False, fun _ _ _ _ _ => False)
  | n + 1 => (stepF T gl fl (wpFF T gl fl n).1 (wpFF T gl fl n).2, (wpFF T gl fl n).1)
def wpF (T : FId → Option CFun) (gl : Str → Option D) (fl : Str → Str → Bool) (n : Nat) : FId → CallT := (wpFF T gl fl n).1
end RX
set_option Elab.async false
set_option linter.all false
set_option maxRecDepth 100000
set_option maxHeartbeats 4000000
/-! RX3: the operations by values keep what is asked. -/
namespace RX
open PySem PySem.Spec PyProof.Rows L2

abbrev RD2 := D → D → MM → DV → Prop
def LR (K : PySem.W.Frag) (rd : RD2) : R2 := fun x y H Q => ∃ dx dy M Qd, Rep K H dx x ∧ Rep K H dy y ∧ RepM K M H ∧ rd dx dy M Qd ∧ ∀ d M' v H', Fr M H M' H' → Rep K H' d v → RepM K M' H' → Qd d M' → Q v H'
def OpD (X : Cx) (f : Value → Value → Sem Value) (rd : RD2) : Prop := ∀ (pins : List (Addr × Obj)) (s : Shared) (σ : SV) (H : Hp) (x y : V) (v u : Value) (dx dy : D) (M : MM) (Qd : DV),
  Inv X pins σ H s → RelV x v → RelV y u → Rep X.K H dx x → Rep X.K H dy y → RepM X.K M H → rd dx dy M Qd → wpAny (model X.prog X.w) X.A (f v u) (EPD X pins σ M H Qd) X.xe s
theorem opr_of {X : Cx} {f : Value → Value → Sem Value} {rd : RD2} (h : OpD X f rd) : OpR X f (LR X.K rd) := by
  intro pins s σ H x y v u Q I rx ry ⟨dx, dy, M, Qd, h1, h2, m, r, q⟩
  exact thn (h pins s σ H x y v u dx dy M Qd I rx ry h1 h2 m r) fun u s' e => e.ep q
/-- from a rule of the layer -/
theorem opd_of {X : Cx} {f : Value → Value → Sem Value} {r : R2} {pins : List (Addr × Obj)} {s : Shared} {σ : SV} {H : Hp} {x y : V} {v u : Value} {M : MM} {Qd : DV} (h : OpR X f r) (I : Inv X pins σ H s) (rx : RelV x v) (ry : RelV y u)
    (q : r x y H fun v H' => ∃ d M', Fr M H M' H' ∧ Rep X.K H' d v ∧ RepM X.K M' H' ∧ Qd d M') : wpAny (model X.prog X.w) X.A (f v u) (EPD X pins σ M H Qd) X.xe s :=
  thn (h pins s σ H x y v u _ I rx ry q) fun u s' e => .of e

section
variable {X : Cx} {pins : List (Addr × Obj)} {s : Shared} {σ : SV} {H : Hp} {M : MM} {Qd : DV} {K : PySem.W.Frag}
theorem rep_int {i : Int} {x : V} (h : Rep K H (.int i) x) : x = .int i := by unfold Rep at h; exact h
theorem rep_str {i : Str} {x : V} (h : Rep K H (.str i) x) : x = .str i := by unfold Rep at h; exact h
theorem rep_bl {i : Bool} {x : V} (h : Rep K H (.bl i) x) : x = .bl i := by unfold Rep at h; exact h
theorem rep_non {x : V} (h : Rep K H .non x) : x = .non := by unfold Rep at h; exact h
theorem rep_ref {a : Addr} {x : V} (h : Rep K H (.ref a) x) : x = .ref a := by unfold Rep at h; exact h
theorem rep_tup {ds : List D} {x : V} (h : Rep K H (.tup ds) x) : ∃ a vs, x = .ref a ∧ SqT K H a vs ∧ RepL K H ds vs := by
  unfold Rep at h
  obtain ⟨a, vs, e, h, r⟩ := h
  exact ⟨a, vs, e, h.sqt, r⟩
theorem rep_tupS {ds : List D} {x : V} (h : Rep K H (.tup ds) x) : ∃ a vs, x = .ref a ∧ TpS K H a vs ∧ RepL K H ds vs := by unfold Rep at h; exact h
theorem rep_wtp {ds : List D} {x : V} (h : Rep K H (.wtp ds) x) : ∃ a vs, x = .ref a ∧ SqT K H a vs ∧ RepL K H ds vs := by unfold Rep at h; exact h
theorem rep_lst {ds : List D} {x : V} (h : Rep K H (.lst ds) x) : ∃ a vs, x = .ref a ∧ FzL K H a vs ∧ RepL K H ds vs := by unfold Rep at h; exact h
theorem rep_dct {ks : List Key} {ds : List D} {x : V} (h : Rep K H (.dct ks ds) x) : ∃ a o vs, x = .ref a ∧ H a = some (.frz o (.dK (ks.zip vs))) ∧ ks.length = vs.length ∧ RepL K H ds vs := by unfold Rep at h; exact h
theorem mk_int (i : Int) : Rep K H (.int i) (.int i) := by unfold Rep; rfl
theorem mk_str (i : Str) : Rep K H (.str i) (.str i) := by unfold Rep; rfl
theorem mk_bl (i : Bool) : Rep K H (.bl i) (.bl i) := by unfold Rep; rfl
theorem mk_non : Rep K H .non .non := by unfold Rep; rfl
theorem mk_ref (a : Addr) : Rep K H (.ref a) (.ref a) := by unfold Rep; rfl
theorem mk_wtp {ds : List D} {a : Addr} {vs : List V} (h : SqT K H a vs) (r : RepL K H ds vs) : Rep K H (.wtp ds) (.ref a) := by unfold Rep; exact ⟨a, vs, rfl, h, r⟩
theorem mk_tup {ds : List D} {a : Addr} {vs : List V} (h : TpS K H a vs) (r : RepL K H ds vs) : Rep K H (.tup ds) (.ref a) := by unfold Rep; exact ⟨a, vs, rfl, h, r⟩
theorem mk_lst {ds : List D} {a : Addr} {vs : List V} (h : FzL K H a vs) (r : RepL K H ds vs) : Rep K H (.lst ds) (.ref a) := by unfold Rep; exact ⟨a, vs, rfl, h, r⟩
theorem mk_dct {ks : List Key} {ds : List D} {a : Addr} {o : Obj} {vs : List V} (h : H a = some (.frz o (.dK (ks.zip vs)))) (l : ks.length = vs.length) (r : RepL K H ds vs) : Rep K H (.dct ks ds) (.ref a) := by unfold Rep; exact ⟨a, o, vs, rfl, h, l, r⟩
/-- nothing changed -/
theorem fin_ {d : D} {v : V} {u : Value} (I : Inv X pins σ H s) (rv : RelV v u) (m : RepM X.K M H) (r : Rep X.K H d v) (q : Qd d M) : EPD X pins σ M H Qd u s := ⟨d, M, v, H, I, rv, .refl, r, m, q⟩
/-- a list, by what may be written or is frozen -/
theorem lsOf_rep {d : D} {ds : List D} {x : V} (e : lsOf M d = some ds) (r : Rep K H d x) (m : RepM K M H) : ∃ a vs, x = .ref a ∧ LsR K H a vs ∧ RepL K H ds vs := by
  unfold lsOf at e
  split at e
  · cases e
    obtain ⟨a, vs, e1, h, h2⟩ := rep_lst r
    exact ⟨a, vs, e1, .inr h, h2⟩
  · rename_i a
    split at e
    · rename_i ds' q
      cases e
      obtain ⟨vs, h1, h2⟩ := m _ _ q
      exact ⟨a, vs, rep_ref r, .inl h1, h2⟩
    · cases e
  · cases e
theorem sqOf_rep {d : D} {ds : List D} {x : V} (e : sqOf M d = some ds) (r : Rep K H d x) (m : RepM K M H) : ∃ a vs, x = .ref a ∧ (SqL K H a vs ∨ SqT K H a vs) ∧ RepL K H ds vs := by
  unfold sqOf at e
  split at e
  · cases e
    obtain ⟨a, vs, e1, h, h2⟩ := rep_tup r
    exact ⟨a, vs, e1, .inr h, h2⟩
  · obtain ⟨a, vs, e1, h, h2⟩ := lsOf_rep e r m
    exact ⟨a, vs, e1, .inl h.sql, h2⟩
theorem dcOf_rep {d : D} {ks : List Key} {ds : List D} {x : V} (e : dcOf M d = some (ks, ds)) (r : Rep K H d x) (m : RepM K M H) : ∃ a vs, x = .ref a ∧ Rd H a (.dK (ks.zip vs)) ∧ ks.length = vs.length ∧ RepL K H ds vs := by
  unfold dcOf at e
  split at e
  · cases e
    obtain ⟨a, o, vs, e1, h, l, h2⟩ := rep_dct r
    exact ⟨a, vs, e1, .inr ⟨o, h⟩, l, h2⟩
  · rename_i a
    split at e
    · rename_i ks' ds' q
      cases e
      obtain ⟨vs, h1, l, h2⟩ := m _ _ q
      exact ⟨a, vs, rep_ref r, .inl h1, l, h2⟩
    · cases e
  · cases e
theorem rawL {a : Addr} {vs : List V} (I : Inv X pins σ H s) (h : LsR X.K H a vs) : vs.length ≤ sizeLine ∧ ∃ (its : List Value) (n : Nat), Vals vs its ∧ s.heap.get? a = some { cls := .type "list", data := .seq its.toArray n } := by
  rcases h with h | ⟨o, h⟩ | ⟨its, n, h1, h2, h3⟩
  · obtain ⟨z, its, n, r, e⟩ := (Rd.of h).ok I.hok
    exact ⟨z, its, n, r, e⟩
  · obtain ⟨z, its, n, r, e⟩ := (show Rd H a (.lst vs) from .inr ⟨o, h⟩).ok I.hok
    exact ⟨z, its, n, r, e⟩
  · exact ⟨h2, its, n, h3, I.kIn _ _ h1⟩
/-- a new list has been laid at p -/
theorem fin_newL {fz : Bool} {ds : List D} {vs : List V} {p : Addr} {s' : Shared} (I : Inv X pins σ (upd H p (.lst vs)) s') (hp : H p = none) (m : RepM X.K M H) (r : RepL X.K H ds vs) (q : newL fz ds M Qd) : EPD X pins σ M H Qd (.ref p) s' := by
  have k : KeepF H (upd H p (.lst vs)) := .new hp
  cases fz with
  | false =>
    exact ⟨.ref p, up M p (.lst ds), .ref p, _, I, rfl, .new hp, mk_ref p, m.new hp ⟨vs, upd_same, r.keep k⟩, q p (m.free hp)⟩
  | true =>
    obtain ⟨o, I'⟩ := freeze I upd_same (fun _ _ _ z => nomatch z) trivial
    rw [upd_upd] at I'
    exact ⟨.lst ds, M, .ref p, _, I', rfl, .hid hp, mk_lst (.inl ⟨o, upd_same⟩) (r.keep (.new hp)), m.hid hp, q⟩
/-- a new tuple: its object is known -/
theorem fin_newT {ds : List D} {vs : List V} {its : List Value} {h' : Heap} (I : Inv X pins σ H { s with heap := h' }) (m : RepM X.K M H) (r : RepL X.K H ds vs) (rv : Vals vs its) (hz : vs.length ≤ sizeLine) (q : Qd (.tup ds) M) :
    EPD X pins σ M H Qd (.ref h'.objs.size) { s with heap := h'.push { cls := .type "tuple", data := .seq its.toArray } } := by
  have hp : H h'.objs.size = none := I.hok.fresh (Nat.le_refl _)
  have k : KeepF H (upd H h'.objs.size (.frz { cls := .type "tuple", data := .seq its.toArray } (.tup vs))) := .new hp
  refine ⟨.tup ds, M, .ref h'.objs.size, _, I.laid (t' := s.toks) (o := .frz { cls := .type "tuple", data := .seq its.toArray } (.tup vs)) (fun b ob q => Heap.get?_push_of_some _ q) (Nat.le_refl _) ?_, rfl, .hid hp, mk_tup (.inl ⟨_, upd_same, rfl⟩) (r.keep k), m.hid hp, q⟩
  exact ⟨Heap.get?_push_size _ rfl, hz, its, rv, IsTup.new _ _⟩
/-- at the wish of a rule of the layer -/
theorem wish_same {d : D} {v : V} (m : RepM K M H) (r : Rep K H d v) (q : Qd d M) : ∃ d M', Fr M H M' H ∧ Rep K H d v ∧ RepM K M' H ∧ Qd d M' := ⟨d, M, .refl, r, m, q⟩
theorem wish_wtp {ds : List D} {vs : List V} {p : Addr} (hp : H p = none) (m : RepM K M H) (r : RepL K H ds vs) (q : Qd (.wtp ds) M) : ∃ d M', Fr M H M' (upd H p (.tup vs)) ∧ Rep K (upd H p (.tup vs)) d (.ref p) ∧ RepM K M' (upd H p (.tup vs)) ∧ Qd d M' :=
  ⟨.wtp ds, M, .hid hp, mk_wtp (.inl (.of upd_same)) (r.keep (.new hp)), m.hid hp, q⟩

theorem RepL.rep {ds : List D} {vs : List V} (r : RepL K H ds vs) : ∀ n : Nat, RepL K H (List.replicate n ds).flatten (List.replicate n vs).flatten
  | 0 => .nil
  | n + 1 => by
    rw [List.replicate_succ, List.replicate_succ, List.flatten_cons, List.flatten_cons]
    exact r.append (RepL.rep r n)
theorem add_lists {a b : Addr} {vs ws : List V} {ds es : List D} {fz : Bool} (I : Inv X pins σ H s) (m : RepM X.K M H) (ha : LsR X.K H a vs) (hb : LsR X.K H b ws) (ra : RepL X.K H ds vs) (rb : RepL X.K H es ws) (hz : ds.length + es.length ≤ sizeLine) (q : newL fz (ds ++ es) M Qd) :
    wpAny (model X.prog X.w) X.A (binaryOp .Add (.ref a) (.ref b)) (EPD X pins σ M H Qd) X.xe s := by
  obtain ⟨_, its, n, r, e⟩ := rawL I ha
  obtain ⟨_, its2, n2, r2, e2⟩ := rawL I hb
  have l1 := ra.length.trans r.length
  have l2 := rb.length.trans r2.length
  refine PySem.P.add_list e e2 ?_ (by rw [List.size_toArray, List.size_toArray]; omega)
  have ea : its.toArray ++ its2.toArray = (its ++ its2).toArray := by simp
  rw [ea]
  exact fin_newL (I.lnew (t' := s.toks) (r.append r2) (by rw [List.length_append, ← ra.length, ← rb.length]; exact hz)) I.fresh m (ra.append rb) q
theorem d_add {fz : Bool} : OpD X (binaryOp .Add) (rdBin .Add fz) := by
  intro pins s σ H x y v u dx dy M Qd I rx ry hx hy m h
  have lists : (∃ xs ys, lsOf M dx = some xs ∧ lsOf M dy = some ys ∧ xs.length + ys.length ≤ sizeLine ∧ newL fz (xs ++ ys) M Qd) → wpAny (model X.prog X.w) X.A (binaryOp .Add v u) (EPD X pins σ M H Qd) X.xe s := by
    intro ⟨xs, ys, e1, e2, hz, q⟩
    obtain ⟨a, vs, rfl, ha, ra⟩ := lsOf_rep e1 hx m
    obtain ⟨b, ws, rfl, hb, rb⟩ := lsOf_rep e2 hy m
    cases rx
    cases ry
    exact add_lists I m ha hb ra rb hz q
  change rdAdd fz dx dy M Qd at h
  unfold rdAdd at h
  split at h
  · rename_i i j
    have e1 := rep_int hx
    have e2 := rep_int hy
    exact opd_of op_add I rx ry ⟨i, j, e1, e2, wish_same m (mk_int _) h⟩
  · rename_i i j
    have e1 := rep_str hx
    have e2 := rep_str hy
    exact opd_of op_add_str I rx ry ⟨i, j, e1, e2, h.1, wish_same m (mk_str _) h.2⟩
  · rename_i xs ys
    obtain ⟨a, vs, e1, ha, ra⟩ := rep_tupS hx
    obtain ⟨b, ws, e2, hb, rb⟩ := rep_tupS hy
    subst e1 e2
    cases rx
    cases ry
    obtain ⟨its, r1, p1, _⟩ := I.tuple ha.sqt
    obtain ⟨its2, r2, p2, _⟩ := I.tuple hb.sqt
    by_cases z : xs = []
    · subst z
      cases ra.nil_inv
      cases r1
      exact cat_tup0 p1 p2 (fin_ (v := .ref b) I rfl m (mk_tup hb rb) h.2)
    · have hz : its.length + its2.length ≤ sizeLine := by rw [← r1.length, ← r2.length, ← ra.length, ← rb.length]; exact h.1
      refine HT.cat_tup p1 p2 (fun w => z (List.eq_nil_of_length_eq_zero ?_)) (fun w => ?_) (fun w => ?_) hz
      · rw [ra.length, r1.nil_iff.mp w]; rfl
      · have e : ys = [] := List.eq_nil_of_length_eq_zero (by rw [rb.length, r2.nil_iff.mp w]; rfl)
        have q := h.2
        rw [e, List.append_nil] at q
        exact fin_ (v := .ref a) I rfl m (mk_tup ha ra) q
      · exact fin_newT I m (ra.append rb) (r1.append r2) (by rw [List.length_append, r1.length, r2.length]; exact hz) h.2
  · exact lists h
theorem d_sub {fz : Bool} : OpD X (binaryOp .Sub) (rdBin .Sub fz) := by
  intro pins s σ H x y v u dx dy M Qd I rx ry hx hy m h
  obtain ⟨i, j, rfl, rfl, q⟩ := h
  exact opd_of op_sub I rx ry ⟨i, j, rep_int hx, rep_int hy, wish_same m (mk_int _) q⟩
theorem mul_tup {l : Addr} {ds : List D} {xs : List V} {k : Int} {t : Tok} (I : Inv X pins σ H s) (m : RepM X.K M H) (hT : SqT X.K H l xs) (ra : RepL X.K H ds xs) (h1 : ds ≠ []) (h2 : 2 ≤ k) (h3 : k ≤ 1000) (h4 : ds.length ≤ 1000) (q : Qd (.tup (List.replicate k.toNat ds).flatten) M) :
    wpAny (model X.prog X.w) X.A (binaryOp .Mult (.ref l) (.int k t)) (EPD X pins σ M H Qd) X.xe s := by
  obtain ⟨its, r, ⟨⟨cls, dd, data, sl⟩, ho, hc, n, hd⟩, hs⟩ := I.tuple hT
  simp only at hc hd
  subst hc hd
  have hle : its.length = xs.length := r.length.symm
  have hz : xs.length ≤ 1000 := by rw [← ra.length]; exact h4
  have hi : its.toArray.isEmpty = false := by
    cases its with
    | nil => exact absurd (List.eq_nil_of_length_eq_zero (by rw [ra.length, ← hle]; rfl)) h1
    | cons a b => rfl
  have hsz0 : its.toArray.size = xs.length := by rw [List.size_toArray, hle]
  have a1 : k.toNat * xs.length ≤ 1000 * 1000 := Nat.mul_le_mul (by omega) hz
  have a2 : ((xs.length : Nat) : Int) * k ≤ 1000 * k := Int.mul_le_mul_of_nonneg_right (by omega) (by omega)
  have hm : ((its.toArray.size : Nat) : Int) * k ≤ 1000000 := by rw [hsz0]; omega
  have flen : (List.replicate k.toNat its).flatten.length ≤ sizeLine := by rw [PyProof.Rows.lm_len_rep_flat, hle, sizeLine_eq]; omega
  have c0 : (decide (k < -(2 ^ 63)) || decide (k ≥ 2 ^ 63)) = false := by rw [decide_eq_false (by omega), decide_eq_false (by omega)]; rfl
  have c1 : (its.toArray.isEmpty || k == 1) = false := by rw [hi, Bool.false_or]; exact beq_eq_false_iff_ne.mpr (by omega)
  have c2 : (decide (k ≤ 0) || its.toArray.isEmpty) = false := by rw [hi, Bool.or_false]; exact decide_eq_false (by omega)
  have c4 : Builtin.Tuple.tupleTooMany (((its.toArray.size : Nat) : Int) * k) = false := by unfold Builtin.Tuple.tupleTooMany; rw [sizeLine_eq]; exact decide_eq_false (by omega)
  refine wpAny_binaryOp_repeat_ref (T := "tuple") (U := "int") (by decide) ⟨_, ho, rfl⟩ (fun s' => typeIs_int s' k t) noFill_tuple_mul F.fills_int_mul F.slot_int_rmul repeat_tuple F.slot_int_index.lookup
    (call_meets F.slot_int_rmul (typeIs_int s k t) F.entry_int_rmul (F.args_int_rmul_2 _ _) (int_rmul_tuple k t l its.toArray n dd sl)
      ⟨ho, rfl, ⟨_, ho, rfl⟩, call_meets F.slot_tuple_mul ⟨_, ho, rfl⟩ F.entry_tuple_mul (F.args_tuple_mul_2 _ _) (tuple_mulW l its.toArray n dd sl k t c0 c1 c2 (by omega) c4 (by rw [size_rep, List.size_toArray]; exact flen)) ⟨ho, ?_⟩⟩)
  rw [size_rep]
  exact fin_newT (h' := s.heap) I m (RX.RepL.rep ra k.toNat) (r.rep k.toNat) (by rw [PyProof.Rows.lm_len_rep_flat, sizeLine_eq]; omega) q
theorem rep_len (xs : Array Nat) : ∀ (n : Nat) (acc : Array Nat), ((List.replicate n xs).foldl (· ++ ·) acc).size = acc.size + n * xs.size
  | 0, acc => by simp
  | n + 1, acc => by
    rw [List.replicate_succ, List.foldl_cons, rep_len xs n, Array.size_append, Nat.succ_mul]
    omega
theorem d_mul {fz : Bool} : OpD X (binaryOp .Mult) (rdBin .Mult fz) := by
  intro pins s σ H x y v u dx dy M Qd I rx ry hx hy m h
  change rdMul dx dy M Qd at h
  unfold rdMul at h
  split at h
  · rename_i i j
    exact opd_of op_mul I rx ry ⟨i, j, rep_int hx, rep_int hy, h.1, wish_same m (mk_int _) h.2⟩
  · rename_i xs k
    obtain ⟨a, vs, e1, ha, ra⟩ := rep_tup hx
    obtain ⟨h1, h2, h3, h4, h5⟩ := h
    subst e1
    cases rx
    cases (rep_int hy)
    obtain ⟨t, rfl⟩ := ry
    exact mul_tup I m ha ra h1 h2 h3 h4 h5
  · rename_i z k
    obtain ⟨⟨h1, h2, h3, h4⟩, q⟩ := h
    cases (rep_str hx)
    obtain ⟨τ, rfl⟩ := rx
    cases (rep_int hy)
    obtain ⟨t, rfl⟩ := ry
    have c1 : ¬ k < 1 := by omega
    have c2 : (k == 1 || z.length == 0) = false := by
      have a1 : (k == 1) = false := beq_eq_false_iff_ne.mpr (by omega)
      have a2 : (z.length == 0) = false := beq_eq_false_iff_ne.mpr (by omega)
      rw [a1, a2]; rfl
    have c3 : z.length * k.toNat ≤ 1000 * 1000 := Nat.mul_le_mul h4 (by omega)
    refine PySem.P.mul_str ?_ (fun _ _ => ?_) (fun _ _ => ?_) ?_
    · rw [decide_eq_false (by omega), decide_eq_false (by omega)]; rfl
    · have : (1000 : Int) ≤ (2 ^ 63 - 1) / k := by
        refine Int.le_ediv_of_mul_le (by omega) ?_
        omega
      omega
    · unfold Builtin.Str.tooLong
      rw [sizeLine_eq]
      exact decide_eq_false (by omega)
    · rw [if_neg c1, if_neg (by rw [c2]; exact Bool.false_ne_true)]
      refine ⟨?_, fin_ (v := .str _) (I.tok _) ⟨_, rfl⟩ m (mk_str _) q⟩
      show ((List.replicate k.toNat z.cps).foldl (· ++ ·) #[]).size ≤ sizeLine
      rw [rep_len, sizeLine_eq]
      have e : z.cps.size * k.toNat ≤ 1000 * 1000 := c3
      rw [Nat.mul_comm] at e
      simp only [Array.size_empty]
      omega
  · exact h.elim
theorem d_fdiv {fz : Bool} : OpD X (binaryOp .FloorDiv) (rdBin .FloorDiv fz) := by
  intro pins s σ H x y v u dx dy M Qd I rx ry hx hy m h
  obtain ⟨i, j, rfl, rfl, c, q⟩ := h
  exact opd_of op_fdiv I rx ry ⟨i, j, rep_int hx, rep_int hy, c, wish_same m (mk_int _) q⟩
theorem d_mod {fz : Bool} : OpD X (binaryOp .Mod) (rdBin .Mod fz) := by
  intro pins s σ H x y v u dx dy M Qd I rx ry hx hy m h
  obtain ⟨i, j, rfl, rfl, c, q⟩ := h
  exact opd_of op_mod I rx ry ⟨i, j, rep_int hx, rep_int hy, c, wish_same m (mk_int _) q⟩
theorem d_pow {fz : Bool} : OpD X (binaryOp .Pow) (rdBin .Pow fz) := by
  intro pins s σ H x y v u dx dy M Qd I rx ry hx hy m h
  obtain ⟨i, j, rfl, rfl, c, q⟩ := h
  exact opd_of op_pow I rx ry ⟨i, j, rep_int hx, rep_int hy, c, wish_same m (mk_int _) q⟩
theorem d_bin (o : Operator) (fz : Bool) : OpD X (binaryOp o) (rdBin o fz) := by
  cases o with
  | Add => exact d_add
  | Sub => exact d_sub
  | Mult => exact d_mul
  | FloorDiv => exact d_fdiv
  | Mod => exact d_mod
  | Pow => exact d_pow
  | _ => intro pins s σ H x y v u dx dy M Qd I rx ry hx hy m h; exact h.elim

/-! ### comparisons -/
mutual
theorem Vw.dp {M : MM} (m : RepM K M H) : ∀ {d : D} {p : PyData} {v : V}, Vw M d p → Rep K H d v → Dp K H v p
  | _, _, _, .non, r => by rw [rep_non r]; exact .non
  | _, _, _, .bl b, r => by rw [rep_bl r]; exact .bl b
  | _, _, _, .int i, r => by rw [rep_int r]; exact .int i
  | _, _, _, .str x, r => by rw [rep_str r]; exact .str x
  | _, _, _, .tup h, r => by
    obtain ⟨a, vs, e, hs, rl⟩ := rep_tup r
    rw [e]; exact .tup hs (VwL.dp m h rl)
  | _, _, _, .lst h, r => by
    obtain ⟨a, vs, e, hs, rl⟩ := rep_lst r
    rw [e]; exact .lst hs.sql (VwL.dp m h rl)
  | _, _, _, .ref (a := a) e h, r => by
    obtain ⟨vs, hs, rl⟩ := m _ _ e
    rw [rep_ref r]; exact .lst (.inl (.inl hs)) (VwL.dp m h rl)
theorem VwL.dp {M : MM} (m : RepM K M H) : ∀ {ds : List D} {ps : List PyData} {vs : List V}, VwL M ds ps → RepL K H ds vs → DpAll K H vs ps
  | _, _, _, .nil, r => by rw [r.nil_inv]; exact .nil
  | _, _, _, .cons h1 h2, r => by
    obtain ⟨v, vs, e, r1, r2⟩ := r.cons_inv
    rw [e]; exact .cons (Vw.dp m h1 r1) (VwL.dp m h2 r2)
end
theorem eqS {i j : Str} : decide (V.str i = V.str j) = decide (i = j) := decide_eq_decide.mpr ⟨fun h => V.str.inj h, fun h => by rw [h]⟩
theorem eqI {i j : Int} : decide (V.int i = V.int j) = decide (i = j) := decide_eq_decide.mpr ⟨fun h => V.int.inj h, fun h => by rw [h]⟩
abbrev bD (r : D → D → MM → (Bool → MM → Prop) → Prop) : RD2 := fun x y M Q => r x y M fun b M' => Q (.bl b) M'
theorem d_eq (hu : X.A.units + 64 < cLine) : OpD X (compareOp .Eq) (bD (rdCmp .Eq)) := by
  intro pins s σ H x y v u dx dy M Qd I rx ry hx hy m h
  change rdEq dx dy M (fun b M' => Qd (.bl b) M') at h
  unfold rdEq at h
  split at h
  · rename_i i j
    have e1 := rep_int hx; have e2 := rep_int hy
    refine opd_of op_eq I rx ry ⟨by rw [e1, e2]; rfl, ?_⟩
    rw [e1, e2, eqI]
    exact wish_same m (mk_bl _) h
  · rename_i i j
    have e1 := rep_str hx; have e2 := rep_str hy
    refine opd_of op_eq I rx ry ⟨by rw [e1, e2]; rfl, ?_⟩
    rw [e1, e2, eqS]
    exact wish_same m (mk_bl _) h
  · obtain ⟨b, e, q⟩ := h
    cases e with
    | dat h1 h2 h3 h4 => exact opd_of (op_eqD hu) I rx ry ⟨_, _, h1.dp m hx, h2.dp m hy, h3, h4, wish_same m (mk_bl _) q⟩
theorem d_ne (hu : X.A.units + 64 < cLine) : OpD X (compareOp .NotEq) (bD (rdCmp .NotEq)) := by
  intro pins s σ H x y v u dx dy M Qd I rx ry hx hy m h
  change rdEq dx dy M (fun b M' => Qd (.bl (!b)) M') at h
  unfold rdEq at h
  split at h
  · rename_i i j
    have e1 := rep_int hx; have e2 := rep_int hy
    refine opd_of op_ne I rx ry ⟨by rw [e1, e2]; rfl, ?_⟩
    rw [e1, e2, eqI]
    exact wish_same m (mk_bl _) h
  · rename_i i j
    have e1 := rep_str hx; have e2 := rep_str hy
    refine opd_of op_ne I rx ry ⟨by rw [e1, e2]; rfl, ?_⟩
    rw [e1, e2, eqS]
    exact wish_same m (mk_bl _) h
  · obtain ⟨b, e, q⟩ := h
    cases e with
    | dat h1 h2 h3 h4 => exact opd_of (op_neD hu) I rx ry ⟨_, _, h1.dp m hx, h2.dp m hy, h3, h4, wish_same m (mk_bl _) q⟩
theorem getK_val : ∀ {ks : List Key} {ds : List D} {vs : List V} {k : Key}, ks.length = vs.length → RepL K H ds vs → (match getKD ks ds k with
    | some d => ∃ v, valV (ks.zip vs) k = some v ∧ Rep K H d v
    | none => valV (ks.zip vs) k = none)
  | [], ds, vs, k, _, _ => by simp [getKD, valV]
  | k' :: ks, ds, [], k, hl, _ => by simp at hl
  | k' :: ks, [], v :: vs, k, hl, r => by have := r.nil_inv; cases this
  | k' :: ks, d :: ds, v :: vs, k, hl, r => by
    obtain ⟨v', vs', e, r1, r2⟩ := r.cons_inv
    cases e
    have ih := getK_val (ks := ks) (k := k) (by simpa using hl) r2
    by_cases hk : k' = k
    · simp only [getKD, valV, List.zip_cons_cons, List.find?_cons, hk, decide_true, Option.map_some]
      exact ⟨v, rfl, r1⟩
    · simp only [getKD, valV, List.zip_cons_cons, List.find?_cons, hk, decide_false]
      exact ih
theorem hasK_val {ks : List Key} {vs : List V} {k : Key} (hl : ks.length = vs.length) : (valV (ks.zip vs) k).isSome = hasK ks k := by
  induction ks generalizing vs with
  | nil => simp [valV, hasK]
  | cons k' ks ih =>
    cases vs with
    | nil => simp at hl
    | cons v vs =>
      have := ih (vs := vs) (by simpa using hl)
      by_cases hk : k' = k
      · simp [valV, hasK, List.find?_cons, hk]
      · simpa [valV, hasK, List.find?_cons, hk] using this
theorem keyOf_rep {d : D} {k : Key} {x : V} (e : keyOf d = some k) (r : Rep K H d x) : x = kV k := by
  unfold keyOf at e
  split at e
  · cases e; exact rep_int r
  · cases e; exact rep_str r
  · cases e
theorem kD_rep (k : Key) : Rep K H (kD k) (kV k) := by
  cases k with
  | inl i => exact mk_int i
  | inr x => exact mk_str x
section odd
open PySem.SeqAt
theorem str_eq_declines_dict (b : Str) (u : Tok) (l : Addr) (c : Value) (es : Array DictEntry) (n : Nat) (dd : Option Addr) (sl : Array (Option Value)) :
    Meets (Builtin.«str.__eq__» ⟨[.str b u, .ref l], []⟩) (fun _ R s => s.heap.get? l = some { cls := c, dict := dd, data := .dict es n, slots := sl } ∧ R (.ok (.ret .notImplemented)) s) :=
  .of_wp fun prog w A R s h => by obtain ⟨hp, g, d, tk, os⟩ := s; obtain ⟨hl, h⟩ := h; wp_walk using AutoSeq1.wpAny_loadPart' hl, wpAny_load hl; exact ⟨_, rfl, h⟩
theorem dict_eq_declines_str (l : Addr) (es : Array DictEntry) (n : Nat) (dd : Option Addr) (sl : Array (Option Value)) (b : Str) (u : Tok) :
    Meets (Builtin.«dict.__eq__» ⟨[.ref l, .str b u], []⟩) (fun _ R s => s.heap.get? l = some { cls := .type "dict", dict := dd, data := .dict es n, slots := sl } ∧ R (.ok (.ret .notImplemented)) s) :=
  .of_wp fun prog w A R s h => by obtain ⟨hp, g, d, tk, os⟩ := s; obtain ⟨hl, h⟩ := h; have f1 := F.sub_str_dict; wp_walk using AutoSeq1.wpAny_loadPart' hl; exact ⟨_, rfl, h⟩
def DicO (h : Heap) (a : Addr) : Prop := ∃ (es : Array DictEntry) (n : Nat) (dd : Option Addr) (sl : Array (Option Value)), h.get? a = some { cls := .type "dict", dict := dd, data := .dict es n, slots := sl }
theorem rc_str_dict {A : Around} {s : Shared} {l : Addr} (b : Str) (u : Tok) (hl : DicO s.heap l) (hu : A.units < cLine) : RcAt A s (.str b u) (.ref l) false := fun prog w E Q h => by
  obtain ⟨es, n, dd, sl, ho⟩ := hl
  exact rc_eq_decline_or (k := false) (typeIs_str s b u) ⟨_, ho, rfl⟩ (by decide) F.sub_dict_str F.slot_str_eq F.slot_dict_eq_refl
    (fun _ hq => call_meets F.slot_str_eq (typeIs_str s b u) F.entry_str_eq (F.args_str_eq_2 _ _) (str_eq_declines_dict b u l (.type "dict") es n dd sl) ⟨ho, hq⟩)
    (fun _ hq => call_meets F.slot_dict_eq_refl ⟨_, ho, rfl⟩ F.entry_dict_eq (F.args_dict_eq_2 _ _) (dict_eq_declines_str l es n dd sl b u) ⟨ho, hq⟩)
    (fun _ hq => wpAny_of_eq (rfl : isSame (.str b u) (.ref l) = pure false) hq) (.inr hu) h
theorem eq_str_dict {A : Around} {s : Shared} {l : Addr} (b : Str) (u : Tok) (hl : DicO s.heap l) (hu : A.units < cLine) : EqAt A s (.str b u) (.ref l) false := fun prog w E Q h => by
  unfold eqBool
  refine wpAny_holding ?_
  refine wpAny_ite_split (fun hab => absurd (eq_of_beq hab) nofun) (fun _ => ?_)
  exact wpAny_bind (rc_str_dict b u hl hu prog w E _ (wpAny_truthy_bool h))
theorem dicO_ok {P : Program} {w : World} {H : Hp} {h : Heap} {a : Addr} {kvs : List (Key × V)} (k : ObjOk P w H h a (.dK kvs)) : DicO h a := by
  obtain ⟨_, _, vs, _, o, es, ep, e, ⟨h1, h2, h3⟩, h4, _⟩ := k
  obtain ⟨oc, od, odt, osl⟩ := o
  simp only at h1 h4
  subst h1 h4
  exact ⟨es, ep, od, osl, e⟩
theorem dicO_rd {a : Addr} {kvs : List (Key × V)} (I : Inv X pins σ H s) (h : Rd H a (.dK kvs)) : DicO s.heap a := by
  rcases h with h | ⟨o, h⟩
  · exact dicO_ok (I.hok a _ h)
  · exact dicO_ok (I.hok a _ h).2
theorem plainL_is {h : Heap} {a : Addr} {its : Array Value} (p : PlainL h a its) : h.IsList a its := by
  obtain ⟨o, n, e, c, _, d⟩ := p
  exact ⟨o, e, c, n, d⟩
theorem isTup_is {h : Heap} {a : Addr} {its : Array Value} (p : IsTup h a its) : h.IsTuple a its := p
/-- a text is none of the other kinds -/
theorem eq_odd {A : Around} {dx : D} {x : V} {u : Value} {n : String} (hu : A.units < cLine) (I : Inv X pins σ H s) (m : RepM X.K M H) (hx : Rep X.K H dx x) (rx : RelV x u) (ht : tyOf M dx = some (.bt n)) (hn : n ≠ "str") (z : Str) (t : Tok) :
    EqAt A s (.str z t) u false := by
  have L {a : Addr} {vs : List V} (h : SqL X.K H a vs) : EqAt A s (.str z t) (.ref a) false := by
    obtain ⟨its, _, p, _⟩ := I.list h
    exact EqAt.str_list z t (plainL_is p) hu
  have T {a : Addr} {vs : List V} (h : SqT X.K H a vs) : EqAt A s (.str z t) (.ref a) false := by
    obtain ⟨its, _, p, _⟩ := I.tuple h
    exact EqAt.str_tuple z t (isTup_is p) hu
  cases dx with
  | non => cases rep_non hx; cases rx; exact EqAt.str_none z t
  | bl b => cases rep_bl hx; cases rx; exact EqAt.str_bool z t b
  | int i => cases rep_int hx; obtain ⟨t', rfl⟩ := rx; exact EqAt.str_int z t i t'
  | str y => exact absurd (by cases ht; rfl) hn
  | tup ds => obtain ⟨a, vs, rfl, h, _⟩ := rep_tup hx; cases rx; exact T h
  | wtp ds => obtain ⟨a, vs, rfl, h, _⟩ := rep_wtp hx; cases rx; exact T h
  | lst ds => obtain ⟨a, vs, rfl, h, _⟩ := rep_lst hx; cases rx; exact L h.sql
  | dct ks ds => obtain ⟨a, o, vs, rfl, h, _⟩ := rep_dct hx; cases rx; exact eq_str_dict z t (dicO_rd I (.inr ⟨o, h⟩)) hu
  | ref a =>
    cases rep_ref hx
    cases rx
    unfold tyOf at ht
    simp only at ht
    split at ht
    · rename_i ds e
      obtain ⟨vs, h1, _⟩ := m a _ e
      exact L (.inl (.inl h1))
    · rename_i ks ds e
      obtain ⟨vs, h1, _⟩ := m a _ e
      exact eq_str_dict z t (dicO_rd I (.inl h1)) hu
    · cases ht
    · cases ht
  | ty k => cases ht
theorem strs_vals {K : PySem.W.Frag} : ∀ {zs : List Str} {vs : List V} {its : List Value}, RepL K H (zs.map D.str) vs → Vals vs its → ∀ y ∈ its, ∃ z t, y = .str z t
  | [], vs, its, r, v, y, hy => by
    have := r.nil_inv
    subst this
    cases v
    cases hy
  | z :: zs, vs, its, r, v, y, hy => by
    obtain ⟨v', vs', e, r1, r2⟩ := RepL.cons_inv r
    subst e
    cases rep_str r1
    cases v with
    | cons h1 h2 =>
      rcases List.mem_cons.mp hy with e | e
      · obtain ⟨t, rfl⟩ := h1
        exact ⟨z, t, e⟩
      · exact strs_vals r2 h2 y e
def eqT (z : Str) (v : Value) : Bool := match v with
  | .str y _ => y == z
  | _ => false
theorem eqT_any {K : PySem.W.Frag} {z : Str} : ∀ {zs : List Str} {vs : List V} {its : List Value}, RepL K H (zs.map D.str) vs → Vals vs its → its.any (eqT z) = decide (z ∈ zs)
  | [], vs, its, r, v => by
    have := r.nil_inv
    subst this
    cases v
    simp
  | y :: zs, vs, its, r, v => by
    obtain ⟨v', vs', e, r1, r2⟩ := RepL.cons_inv r
    subst e
    cases rep_str r1
    cases v with
    | cons h1 h2 =>
      obtain ⟨t, rfl⟩ := h1
      rw [List.any_cons, eqT_any r2 h2]
      show (y == z || decide (z ∈ zs)) = _
      by_cases h : y = z
      · subst h; simp
      · have : z ≠ y := fun k => h k.symm
        simp [h, this]
end odd
/-- in: what the sequence's items tell -/
theorem in_seq {u w : Value} {dx : D} {ys : List D} {vs : List V} {p : Addr} {b neg : Bool} {x : V} (hu : X.A.units + 65 < cLine) (I : Inv X pins σ H s) (m : RepM X.K M H) (hx : Rep X.K H dx x) (rx : RelV x u) (hs : SqL X.K H p vs ∨ SqT X.K H p vs) (rl : RepL X.K H ys vs) (e : InR M dx ys b)
    (q : Qd (.bl (if neg then !b else b)) M) : wpAny (model X.prog X.w) X.A (compareOp (if neg then .NotIn else .In) u (.ref p)) (EPD X pins σ M H Qd) X.xe s := by
  cases e with
  | dat h1 h2 h3 h4 =>
    rename_i ps q'
    have d1 := VwL.dp m h1 rl
    have d2 := Vw.dp m h2 hx
    obtain ⟨bs, r2⟩ := Dp.reads I q' x u d2 rx
    have canA : PyData.canLayAll0 ps = true := h3
    have canD := SeqAt.canLay_of_shaped h4
    have hd := SeqAt.depth_of_shaped h4
    have room : X.A.units + 1 + min (PyData.depthAll ps) q'.depth < cLine := by
      have h2 : min (PyData.depthAll ps) q'.depth ≤ q'.depth := Nat.min_le_right _ _
      omega
    rcases hs with hs | hs
    · obtain ⟨as, r1⟩ := Dp.reads I (.list ps) (.ref p) (.ref p) (.lst hs d1) rfl
      cases neg with
      | false => exact SeqAt.in_list_reads r1 r2 canA canD room (fin_ (v := .bl _) I rfl m (mk_bl _) q)
      | true => exact SeqAt.notIn_list_reads r1 r2 canA canD room (fin_ (v := .bl _) I rfl m (mk_bl _) q)
    · obtain ⟨as, r1⟩ := Dp.reads I (.tuple ps) (.ref p) (.ref p) (.tup hs d1) rfl
      cases neg with
      | false => exact SeqAt.in_tuple_reads r1 r2 canA canD room (fin_ (v := .bl _) I rfl m (mk_bl _) q)
      | true => exact SeqAt.notIn_tuple_reads r1 r2 canA canD room (fin_ (v := .bl _) I rfl m (mk_bl _) q)
  | txt ex ey =>
    subst ex ey
    rename_i z zs
    cases rep_str hx
    obtain ⟨τ, rfl⟩ := rx
    rcases hs with hs | hs
    · obtain ⟨its, rv, p, _⟩ := I.list hs
      have he : ∀ y, y ∈ its.toArray → SeqAt.EqAt X.A.in1 s y (.str z τ) (eqT z y) := fun y hy => by
        obtain ⟨z', t, rfl⟩ := strs_vals rl rv y (by simpa using hy)
        exact SeqAt.EqAt.str_str z' t z τ
      have ea : its.toArray.any (eqT z) = decide (z ∈ zs) := by rw [List.any_toArray]; exact eqT_any rl rv
      cases neg with
      | false => exact SeqAt.in_listAt (eqT z) (plainL_is p) he (by rw [ea]; exact fin_ (v := .bl _) I rfl m (mk_bl _) q)
      | true => exact SeqAt.notIn_listAt (eqT z) (plainL_is p) he (by rw [ea]; exact fin_ (v := .bl _) I rfl m (mk_bl _) q)
    · obtain ⟨its, rv, p, _⟩ := I.tuple hs
      have he : ∀ y, y ∈ its.toArray → SeqAt.EqAt X.A.in1 s y (.str z τ) (eqT z y) := fun y hy => by
        obtain ⟨z', t, rfl⟩ := strs_vals rl rv y (by simpa using hy)
        exact SeqAt.EqAt.str_str z' t z τ
      have ea : its.toArray.any (eqT z) = decide (z ∈ zs) := by rw [List.any_toArray]; exact eqT_any rl rv
      cases neg with
      | false => exact SeqAt.in_tupleAt (eqT z) (isTup_is p) he (by rw [ea]; exact fin_ (v := .bl _) I rfl m (mk_bl _) q)
      | true => exact SeqAt.notIn_tupleAt (eqT z) (isTup_is p) he (by rw [ea]; exact fin_ (v := .bl _) I rfl m (mk_bl _) q)
  | odd ht hn ey =>
    subst ey
    rename_i n zs
    rcases hs with hs | hs
    · obtain ⟨its, rv, p, _⟩ := I.list hs
      have he : ∀ y, y ∈ its.toArray → SeqAt.EqAt X.A.in1 s y u false := fun y hy => by
        obtain ⟨z, t, rfl⟩ := strs_vals rl rv y (by simpa using hy)
        exact eq_odd (show X.A.units + 1 < cLine by omega) I m hx rx ht hn z t
      have ea : its.toArray.any (fun _ => false) = false := by simp
      cases neg with
      | false => exact SeqAt.in_listAt (fun _ => false) (plainL_is p) he (by rw [ea]; exact fin_ (v := .bl _) I rfl m (mk_bl _) q)
      | true => exact SeqAt.notIn_listAt (fun _ => false) (plainL_is p) he (by rw [ea]; exact fin_ (v := .bl _) I rfl m (mk_bl _) q)
    · obtain ⟨its, rv, p, _⟩ := I.tuple hs
      have he : ∀ y, y ∈ its.toArray → SeqAt.EqAt X.A.in1 s y u false := fun y hy => by
        obtain ⟨z, t, rfl⟩ := strs_vals rl rv y (by simpa using hy)
        exact eq_odd (show X.A.units + 1 < cLine by omega) I m hx rx ht hn z t
      have ea : its.toArray.any (fun _ => false) = false := by simp
      cases neg with
      | false => exact SeqAt.in_tupleAt (fun _ => false) (isTup_is p) he (by rw [ea]; exact fin_ (v := .bl _) I rfl m (mk_bl _) q)
      | true => exact SeqAt.notIn_tupleAt (fun _ => false) (isTup_is p) he (by rw [ea]; exact fin_ (v := .bl _) I rfl m (mk_bl _) q)
theorem in_dict {u w : Value} {dx : D} {ks : List Key} {vs : List V} {p : Addr} {k : Key} {neg : Bool} {x : V} (hu : X.A.units + 65 < cLine) (I : Inv X pins σ H s) (m : RepM X.K M H) (hx : Rep X.K H dx x) (rx : RelV x u) (ek : keyOf dx = some k) (hs : Rd H p (.dK (ks.zip vs))) (hl : ks.length = vs.length)
    (q : Qd (.bl (if neg then !hasK ks k else hasK ks k)) M) : wpAny (model X.prog X.w) X.A (compareOp (if neg then .NotIn else .In) u (.ref p)) (EPD X pins σ M H Qd) X.xe s := by
  have g : DGet H p x (valV (ks.zip vs) k) := .inl ⟨_, k, hs, keyOf_rep ek hx, rfl⟩
  cases neg with
  | false =>
    refine d_in (by omega) I g rx fun s' I' => fin_ (v := .bl _) I' rfl m (mk_bl _) ?_
    rw [hasK_val hl]; exact q
  | true =>
    refine d_notIn (by omega) I g rx fun s' I' => fin_ (v := .bl _) I' rfl m (mk_bl _) ?_
    rw [hasK_val hl]; exact q
theorem d_in_ (neg : Bool) (hu : X.A.units + 65 < cLine) : OpD X (compareOp (if neg then .NotIn else .In)) (fun x y M Q => rdIn x y M fun b M' => Q (.bl (if neg then !b else b)) M') := by
  intro pins s σ H x y v u dx dy M Qd I rx ry hx hy m h
  change rdIn dx dy M (fun b M' => Qd (.bl (if neg then !b else b)) M') at h
  unfold rdIn at h
  split at h
  · rename_i j
    obtain ⟨i, rfl, q⟩ := h
    cases neg with
    | false => exact opd_of op_in_str I rx ry ⟨i, j, rep_str hx, rep_str hy, wish_same m (mk_bl _) q⟩
    | true => exact opd_of op_notin_str I rx ry ⟨i, j, rep_str hx, rep_str hy, wish_same m (mk_bl _) q⟩
  · obtain ⟨b, e, q⟩ := h
    obtain ⟨a, vs, rfl, hs, rl⟩ := rep_tup hy
    cases ry
    exact in_seq (w := v) hu I m hx rx (.inr hs) rl e q
  · obtain ⟨b, e, q⟩ := h
    obtain ⟨a, vs, rfl, hs, rl⟩ := rep_lst hy
    cases ry
    exact in_seq (w := v) hu I m hx rx (.inl hs.sql) rl e q
  · obtain ⟨k, e, q⟩ := h
    obtain ⟨a, o, vs, rfl, hs, hl, rl⟩ := rep_dct hy
    cases ry
    exact in_dict (w := v) hu I m hx rx e (.inr ⟨o, hs⟩) hl q
  · rcases h with ⟨ys, b, e1, e, q⟩ | ⟨ks, ds, k, e1, e, q⟩
    · obtain ⟨a, vs, rfl, hs, rl⟩ := lsOf_rep e1 hy m
      cases ry
      exact in_seq (w := v) hu I m hx rx (.inl hs.sql) rl e q
    · obtain ⟨a, vs, rfl, hs, hl, rl⟩ := dcOf_rep e1 hy m
      cases ry
      exact in_dict (w := v) hu I m hx rx e hs hl q
theorem rep_non_iff {d : D} {x : V} (r : Rep K H d x) : x = .non ↔ d = .non := by
  refine ⟨fun e => ?_, fun e => by subst e; exact rep_non r⟩
  subst e
  cases d with
  | non => rfl
  | bl b => have := rep_bl r; cases this
  | int b => have := rep_int r; cases this
  | str b => have := rep_str r; cases this
  | tup ds => obtain ⟨_, _, e, _⟩ := rep_tup r; cases e
  | wtp ds => obtain ⟨_, _, e, _⟩ := rep_wtp r; cases e
  | lst ds => obtain ⟨_, _, e, _⟩ := rep_lst r; cases e
  | dct ks ds => obtain ⟨_, _, _, e, _⟩ := rep_dct r; cases e
  | ref a => have := rep_ref r; cases this
  | ty n => unfold Rep at r; cases r
theorem d_cmp (o : CmpOp) (hu : X.A.units + 65 < cLine) : OpD X (compareOp o) (bD (rdCmp o)) := by
  cases o with
  | Eq => exact d_eq (by omega)
  | NotEq => exact d_ne (by omega)
  | Lt => intro pins s σ H x y v u dx dy M Qd I rx ry hx hy m ⟨i, j, e1, e2, q⟩; subst e1 e2; exact opd_of op_lt I rx ry ⟨i, j, rep_int hx, rep_int hy, wish_same m (mk_bl _) q⟩
  | LtE => intro pins s σ H x y v u dx dy M Qd I rx ry hx hy m ⟨i, j, e1, e2, q⟩; subst e1 e2; exact opd_of op_le I rx ry ⟨i, j, rep_int hx, rep_int hy, wish_same m (mk_bl _) q⟩
  | Gt => intro pins s σ H x y v u dx dy M Qd I rx ry hx hy m ⟨i, j, e1, e2, q⟩; subst e1 e2; exact opd_of op_gt I rx ry ⟨i, j, rep_int hx, rep_int hy, wish_same m (mk_bl _) q⟩
  | GtE => intro pins s σ H x y v u dx dy M Qd I rx ry hx hy m ⟨i, j, e1, e2, q⟩; subst e1 e2; exact opd_of op_ge I rx ry ⟨i, j, rep_int hx, rep_int hy, wish_same m (mk_bl _) q⟩
  | Is =>
    intro pins s σ H x y v u dx dy M Qd I rx ry hx hy m ⟨e1, b, eb, q⟩
    subst e1
    refine opd_of op_isN I rx ry ⟨rep_non hy, ?_⟩
    have : decide (x = .non) = b := by
      rw [Bool.eq_iff_iff, decide_eq_true_eq, rep_non_iff hx, eb]
    rw [this]
    exact wish_same m (mk_bl _) q
  | IsNot =>
    intro pins s σ H x y v u dx dy M Qd I rx ry hx hy m ⟨e1, b, eb, q⟩
    subst e1
    refine opd_of op_notN I rx ry ⟨rep_non hy, ?_⟩
    have : decide (x = .non) = b := by
      rw [Bool.eq_iff_iff, decide_eq_true_eq, rep_non_iff hx, eb]
    rw [this]
    exact wish_same m (mk_bl _) q
  | In => exact d_in_ false hu
  | NotIn => exact d_in_ true hu
end
end RX
set_option Elab.async false
set_option linter.all false
set_option maxRecDepth 100000
set_option maxHeartbeats 4000000
/-! RX4: subscripts, slices, built-in functions and methods by values. -/
namespace RX
open PySem PySem.Spec PyProof.Rows L2

/-! ### subscripts -/
def IxD (X : Cx) (rd : RD2) : Prop := ∀ (value slice : Expr) (pins : List (Addr × Obj)) (s : Shared) (σ : SV) (H : Hp) (x y : V) (v u : Value) (dx dy : D) (M : MM) (Qd : DV),
  Inv X pins σ H s → RelV x v → RelV y u → Rep X.K H dx x → Rep X.K H dy y → RepM X.K M H → rd dx dy M Qd → subscripted slice false v u = operate [v, u] (getItem v u) → wpAny (model X.prog X.w) X.A (subscriptTail value slice v u) (EPD X pins σ M H Qd) X.xe s
section
variable {X : Cx} {pins : List (Addr × Obj)} {s : Shared} {σ : SV} {H : Hp} {M : MM} {Qd : DV} {K : PySem.W.Frag}
theorem ixr_of {rd : RD2} (h : IxD X rd) : IxR X (LR X.K rd) := by
  intro value slice pins s σ H x y v u Q I rx ry ⟨dx, dy, M, Qd, h1, h2, m, r, q⟩ hs
  exact thn (h value slice pins s σ H x y v u dx dy M Qd I rx ry h1 h2 m r hs) fun u s' e => e.ep q
theorem ixd_of {r : R2} {value slice : Expr} {x y : V} {v u : Value} (h : IxR X r) (I : Inv X pins σ H s) (rx : RelV x v) (ry : RelV y u) (hs : subscripted slice false v u = operate [v, u] (getItem v u))
    (q : r x y H fun v H' => ∃ d M', Fr M H M' H' ∧ Rep X.K H' d v ∧ RepM X.K M' H' ∧ Qd d M') : wpAny (model X.prog X.w) X.A (subscriptTail value slice v u) (EPD X pins σ M H Qd) X.xe s :=
  thn (h value slice pins s σ H x y v u _ I rx ry q hs) fun u s' e => .of e
theorem atI_rep {ds : List D} {vs : List V} {i : Int} {d : D} (r : RepL K H ds vs) (h : atI ds i = some d) : ∃ v, atI vs i = some v ∧ Rep K H d v := by
  unfold atI at h ⊢
  rw [r.length] at h
  cases e : ixN vs.length i with
  | none => rw [e] at h; cases h
  | some j => rw [e] at h; exact r.get h
theorem ix_dict {value slice : Expr} {p : Addr} {ks : List Key} {ds : List D} {vs : List V} {k : Key} {d dy : D} {y : V} {u : Value} (hu : X.A.units + 65 < cLine) (I : Inv X pins σ H s) (m : RepM X.K M H) (hy : Rep X.K H dy y) (ry : RelV y u) (hs : Rd H p (.dK (ks.zip vs))) (hl : ks.length = vs.length)
    (rl : RepL X.K H ds vs) (ek : keyOf dy = some k) (g : getKD ks ds k = some d) (q : Qd d M) (hsub : subscripted slice false (.ref p) u = operate [.ref p, u] (getItem (.ref p) u)) : wpAny (model X.prog X.w) X.A (subscriptTail value slice (.ref p) u) (EPD X pins σ M H Qd) X.xe s := by
  have z := getK_val (k := k) hl rl
  rw [g] at z
  obtain ⟨v, hv, rv⟩ := z
  have g' : DGet H p y (some v) := .inl ⟨_, k, hs, keyOf_rep ek hy, hv.symm⟩
  exact tail_any (isD_at I (.inl ⟨_, hs⟩)).1 PySem.F.slot_dict_getitem.lookup (d_getItem (by omega) I g' ry fun w' s' I' rw' => fin_ I' rw' m rv q) hsub
theorem d_ix (hu : X.A.units + 65 < cLine) : IxD X rdIx := by
  intro value slice pins s σ H x y v u dx dy M Qd I rx ry hx hy m h hsub
  have lists : ∀ {xs : List D} {i : Int} {d : D}, lsOf M dx = some xs → dy = .int i → atI xs i = some d → Qd d M → wpAny (model X.prog X.w) X.A (subscriptTail value slice v u) (EPD X pins σ M H Qd) X.xe s := by
    intro xs i d e1 e2 e3 q
    subst e2
    obtain ⟨a, vs, rfl, hs, rl⟩ := lsOf_rep e1 hx m
    obtain ⟨z, ez, rz⟩ := atI_rep rl e3
    exact ixd_of ix_list I rx ry hsub ⟨a, vs, i, z, rfl, rep_int hy, hs.sql, ez, wish_same m rz q⟩
  have dicts : ∀ {ks : List Key} {ds : List D} {k : Key} {d : D}, dcOf M dx = some (ks, ds) → keyOf dy = some k → getKD ks ds k = some d → Qd d M → wpAny (model X.prog X.w) X.A (subscriptTail value slice v u) (EPD X pins σ M H Qd) X.xe s := by
    intro ks ds k d e1 e2 e3 q
    obtain ⟨a, vs, rfl, hs, hl, rl⟩ := dcOf_rep e1 hx m
    cases rx
    exact ix_dict hu I m hy ry hs hl rl e2 e3 q hsub
  unfold rdIx at h
  split at h
  · rename_i z i
    obtain ⟨c, hz, e, q⟩ := h
    exact ixd_of ix_str I rx ry hsub ⟨z, i, c, rep_str hx, rep_int hy, hz, e, wish_same m (mk_str _) q⟩
  · rename_i xs i
    obtain ⟨d, e, q⟩ := h
    obtain ⟨a, vs, e1, hs, rl⟩ := rep_tup hx
    obtain ⟨z, ez, rz⟩ := atI_rep rl e
    exact ixd_of ix_tup I rx ry hsub ⟨a, vs, i, z, e1, rep_int hy, hs, ez, wish_same m rz q⟩
  · obtain ⟨d, e, q⟩ := h
    exact lists rfl rfl e q
  · obtain ⟨k, d, ek, e, q⟩ := h
    exact dicts rfl ek e q
  · rcases h with ⟨xs, i, d, e1, e2, e3, q⟩ | ⟨ks, ds, k, d, e1, e2, e3, q⟩
    · exact lists e1 e2 e3 q
    · exact dicts e1 e2 e3 q
/-! ### slices -/
theorem RepL.cut {ds : List D} {vs : List V} (r : RepL K H ds vs) (lo hi : Option Int) : RepL K H (cutD ds lo hi) (cutV vs lo hi) := by
  unfold cutD cutV
  rw [r.length]
  exact (r.drop _).take _
abbrev RDS := D → Option Int → Option Int → MM → DV → Prop
def SlD (X : Cx) (rd : RDS) : Prop :=
  ∀ (pins : List (Addr × Obj)) (s : Shared) (σ : SV) (H : Hp) (x : V) (v vl vu : Value) (lo hi : Option Int) (sl : Addr) (dx : D) (M : MM) (Qd : DV), Inv X pins σ H s → RelV x v → s.heap.IsSliceOf sl vl vu .none → IsPart vl lo → IsPart vu hi → Rep X.K H dx x → RepM X.K M H → rd dx lo hi M Qd →
    ∃ T id, typeLookup (.type T) "__getitem__" = pure (some (.builtin id)) ∧ s.TypeIs v T ∧ wpAny (model X.prog X.w) X.A (getItem v (.ref sl)) (EPD X pins σ M H Qd) X.xe s
def LRs (K : PySem.W.Frag) (rd : RDS) : V → Option Int → Option Int → Hp → VK → Prop := fun x lo hi H Q => ∃ dx M Qd, Rep K H dx x ∧ RepM K M H ∧ rd dx lo hi M Qd ∧ ∀ d M' v H', Fr M H M' H' → Rep K H' d v → RepM K M' H' → Qd d M' → Q v H'
theorem slr_of {rd : RDS} (h : SlD X rd) : SlR X (LRs X.K rd) := by
  intro pins s σ H x v vl vu lo hi sl Q I rx hs pl pu ⟨dx, M, Qd, h1, m, r, q⟩
  obtain ⟨T, id, a, b, c⟩ := h pins s σ H x v vl vu lo hi sl dx M Qd I rx hs pl pu h1 m r
  exact ⟨T, id, a, b, thn c fun u s' e => e.ep q⟩
theorem sld_of {r : V → Option Int → Option Int → Hp → VK → Prop} {x : V} {v vl vu : Value} {lo hi : Option Int} {sl : Addr} (h : SlR X r) (I : Inv X pins σ H s) (rx : RelV x v) (hs : s.heap.IsSliceOf sl vl vu .none) (pl : IsPart vl lo) (pu : IsPart vu hi)
    (q : r x lo hi H fun v H' => ∃ d M', Fr M H M' H' ∧ Rep X.K H' d v ∧ RepM X.K M' H' ∧ Qd d M') : ∃ T id, typeLookup (.type T) "__getitem__" = pure (some (.builtin id)) ∧ s.TypeIs v T ∧ wpAny (model X.prog X.w) X.A (getItem v (.ref sl)) (EPD X pins σ M H Qd) X.xe s := by
  obtain ⟨T, id, a, b, c⟩ := h pins s σ H x v vl vu lo hi sl _ I rx hs pl pu q
  exact ⟨T, id, a, b, thn c fun u s' e => .of e⟩
/-- behind a rule that lays a new list: frozen if wished -/
theorem frz_after {fz : Bool} {ds : List D} {vs : List V} {u : Value} {s' : Shared} (m : RepM X.K M H) (r : RepL X.K H ds vs) (q : newL fz ds M Qd) (h : EP X pins σ (fun v H' => ∃ p, v = .ref p ∧ H p = none ∧ H' = upd H p (.lst vs)) u s') : EPD X pins σ M H Qd u s' := by
  obtain ⟨v, H', I, rv, p, rfl, hp, rfl⟩ := h
  cases rv
  exact fin_newL I hp m r q
theorem d_sl {fz : Bool} : SlD X (rdSl fz) := by
  intro pins s σ H x v vl vu lo hi sl dx M Qd I rx hs pl pu hx m h
  unfold rdSl at h
  split at h
  · rename_i xs
    obtain ⟨a, vs, rfl, ht, rl⟩ := rep_tupS hx
    cases rx
    obtain ⟨its, r, tt, hz⟩ := I.tuple ht.sqt
    have hlen : its.toArray.size = vs.length := by rw [List.size_toArray]; exact r.length.symm
    refine ⟨"tuple", _, PyProof.Rows.slot_tuple_getitem.lookup, tt.typeIs, ?_⟩
    by_cases hw : HT.sIx vs.length 0 lo = 0 ∧ HT.sIx vs.length vs.length hi = vs.length
    · have e : cutD xs lo hi = xs := by
        unfold cutD
        rw [rl.length, hw.1, hw.2, List.drop_zero, Nat.sub_zero, ← rl.length, List.take_length]
      rw [e] at h
      exact getItem_tuple_whole tt hs pl pu (by rw [hlen]; exact hw) (fin_ (v := .ref a) I rfl m (mk_tup ht rl) h)
    · refine HT.getItem_tuple_cut tt hs pl pu (by rw [hlen]; exact hw) ?_ (by rw [hlen]; exact hz)
      rw [hlen]
      exact fin_newT (h' := s.heap) I m (rl.cut lo hi) ((r.drop (HT.sIx vs.length 0 lo)).take (HT.sIx vs.length vs.length hi - HT.sIx vs.length 0 lo)) (Nat.le_trans (cutV_length vs lo hi) hz) h
  · rename_i z
    exact sld_of sl_str I rx hs pl pu ⟨z, rep_str hx, h.1, wish_same m (mk_str _) h.2⟩
  · obtain ⟨xs, e1, q⟩ := h
    obtain ⟨a, vs, rfl, hl, rl⟩ := lsOf_rep e1 hx m
    obtain ⟨T, id, h1, h2, h3⟩ := sl_list pins s σ H (.ref a) v vl vu lo hi sl (fun v H' => ∃ p, v = .ref p ∧ H p = none ∧ H' = upd H p (.lst (cutV vs lo hi))) I rx hs pl pu ⟨a, vs, rfl, hl.sql, fun p hp => ⟨p, rfl, hp, rfl⟩⟩
    exact ⟨T, id, h1, h2, thn h3 fun u s' e => frz_after m (rl.cut lo hi) q e⟩
/-! ### built-in functions -/
abbrev RDF := List D → MM → DV → Prop
def CallD (X : Cx) (f : Value) (rd : RDF) : Prop := ∀ (pins : List (Addr × Obj)) (s : Shared) (σ : SV) (H : Hp) (xs : List V) (us : List Value) (ds : List D) (M : MM) (Qd : DV), Inv X pins σ H s → Vals xs us → RepL X.K H ds xs → RepM X.K M H → rd ds M Qd →
  wpAny (model X.prog X.w) X.A (call f us) (EPD X pins σ M H Qd) X.xe s
def LRf (K : PySem.W.Frag) (rd : RDF) : List V → Hp → VK → Prop := fun xs H Q => ∃ ds M Qd, RepL K H ds xs ∧ RepM K M H ∧ rd ds M Qd ∧ ∀ d M' v H', Fr M H M' H' → Rep K H' d v → RepM K M' H' → Qd d M' → Q v H'
theorem cr_of {f : Value} {rd : RDF} (h : CallD X f rd) : CallR X f (LRf X.K rd) := by
  intro pins s σ H xs us Q I r ⟨ds, M, Qd, h1, m, rr, q⟩
  exact thn (h pins s σ H xs us ds M Qd I r h1 m rr) fun u s' e => e.ep q
theorem cd_of {f : Value} {r : List V → Hp → VK → Prop} {xs : List V} {us : List Value} (h : CallR X f r) (I : Inv X pins σ H s) (rv : Vals xs us) (q : r xs H fun v H' => ∃ d M', Fr M H M' H' ∧ Rep X.K H' d v ∧ RepM X.K M' H' ∧ Qd d M') :
    wpAny (model X.prog X.w) X.A (call f us) (EPD X pins σ M H Qd) X.xe s := thn (h pins s σ H xs us _ I rv q) fun u s' e => .of e
theorem repL1 {d : D} {vs : List V} (r : RepL K H [d] vs) : ∃ v, vs = [v] ∧ Rep K H d v := by
  obtain ⟨v, r', e, h1, h2⟩ := r.cons_inv
  rw [h2.nil_inv] at e
  exact ⟨v, e, h1⟩
theorem repL2 {d e : D} {vs : List V} (r : RepL K H [d, e] vs) : ∃ v w, vs = [v, w] ∧ Rep K H d v ∧ Rep K H e w := by
  obtain ⟨v, r', e1, h1, h2⟩ := r.cons_inv
  obtain ⟨w, e2, h3⟩ := repL1 h2
  subst e2
  exact ⟨v, w, e1, h1, h3⟩
theorem repL_map {α : Type} {f : α → D} {g : α → V} (hf : ∀ a v, Rep K H (f a) v → v = g a) : ∀ {l : List α} {vs : List V}, RepL K H (l.map f) vs → vs = l.map g
  | [], vs, r => r.nil_inv
  | a :: l, vs, r => by
    obtain ⟨v, r', e, h1, h2⟩ := RepL.cons_inv (d := f a) (ds := l.map f) r
    rw [e, hf a v h1, repL_map hf h2]; rfl
theorem d1 {rd : D → MM → DV → Prop} {f : Value} (h : ∀ (pins : List (Addr × Obj)) (s : Shared) (σ : SV) (H : Hp) (x : V) (u : Value) (d : D) (M : MM) (Qd : DV), Inv X pins σ H s → RelV x u → Rep X.K H d x → RepM X.K M H → rd d M Qd →
    wpAny (model X.prog X.w) X.A (call f [u]) (EPD X pins σ M H Qd) X.xe s) : CallD X f (fun ds M Q => match ds with | [d] => rd d M Q | _ => False) := by
  intro pins s σ H xs us ds M Qd I rv rl m q
  match ds, q with
  | [d], q =>
    obtain ⟨v, rfl, r⟩ := repL1 rl
    obtain ⟨u, rfl, ru⟩ := vals1 rv
    exact h pins s σ H v u d M Qd I ru r m q
  | [], q => exact q.elim
  | _ :: _ :: _, q => exact q.elim
theorem d2 {rd : D → D → MM → DV → Prop} {f : Value} (h : ∀ (pins : List (Addr × Obj)) (s : Shared) (σ : SV) (H : Hp) (x y : V) (u w : Value) (d e : D) (M : MM) (Qd : DV), Inv X pins σ H s → RelV x u → RelV y w → Rep X.K H d x → Rep X.K H e y → RepM X.K M H → rd d e M Qd →
    wpAny (model X.prog X.w) X.A (call f [u, w]) (EPD X pins σ M H Qd) X.xe s) : CallD X f (fun ds M Q => match ds with | [d, e] => rd d e M Q | _ => False) := by
  intro pins s σ H xs us ds M Qd I rv rl m q
  match ds, q with
  | [d, e], q =>
    obtain ⟨v, z, rfl, r1, r2⟩ := repL2 rl
    obtain ⟨u, w, rfl, ru, rw'⟩ := vals2 rv
    exact h pins s σ H v z u w d e M Qd I ru rw' r1 r2 m q
  | [], q => exact q.elim
  | [_], q => exact q.elim
  | _ :: _ :: _ :: _, q => exact q.elim
theorem v1 {x : V} {u : Value} (r : RelV x u) : Vals [x] [u] := .cons r .nil
theorem v2 {x y : V} {u w : Value} (r : RelV x u) (t : RelV y w) : Vals [x, y] [u, w] := .cons r (.cons t .nil)
theorem c_len : CallD X (.builtin "len") (fun ds M Q => match ds with | [d] => rdLen d M Q | _ => False) := by
  refine d1 ?_
  intro pins s σ H x u d M Qd I rx r m h
  have lists : ∀ {ys : List D}, lsOf M d = some ys → Qd (.int ys.length) M → wpAny (model X.prog X.w) X.A (call (.builtin "len") [u]) (EPD X pins σ M H Qd) X.xe s := by
    intro ys e q
    obtain ⟨a, vs, rfl, hs, r2⟩ := lsOf_rep e r m
    exact cd_of call_len_seq I (v1 rx) ⟨a, vs, rfl, .inl hs.sql, by rw [← r2.length]; exact wish_same m (mk_int _) q⟩
  have dicts : ∀ {ks : List Key} {ds : List D}, dcOf M d = some (ks, ds) → Qd (.int ks.length) M → wpAny (model X.prog X.w) X.A (call (.builtin "len") [u]) (EPD X pins σ M H Qd) X.xe s := by
    intro ks ds e q
    obtain ⟨a, vs, rfl, hs, hl, r2⟩ := dcOf_rep e r m
    have hz : (ks.zip vs).length = ks.length := by rw [List.length_zip, ← hl, Nat.min_self]
    cases rx
    refine d_len I hs fun t s' I' => ?_
    rw [hz]
    exact fin_ (v := .int ks.length) I' ⟨t, rfl⟩ m (mk_int _) q
  unfold rdLen at h
  split at h
  · rename_i z
    exact cd_of call_len_str I (v1 rx) ⟨z, by rw [rep_str r], h.1, wish_same m (mk_int _) h.2⟩
  · obtain ⟨a, vs, rfl, hs, r2⟩ := rep_tup r
    exact cd_of call_len_seq I (v1 rx) ⟨a, vs, rfl, .inr hs, by rw [← r2.length]; exact wish_same m (mk_int _) h⟩
  · exact lists rfl h
  · exact dicts rfl h
  · rcases h with ⟨ys, e, q⟩ | ⟨ks, ds, e, q⟩
    · exact lists e q
    · exact dicts e q
theorem c_int : CallD X (.type "int") (fun ds M Q => match ds with | [d] => rdInt1 d M Q | _ => False) := by
  refine d1 ?_
  intro pins s σ H x u d M Qd I rx r m h
  unfold rdInt1 at h
  split at h
  · rename_i i
    exact cd_of call_int1 I (v1 rx) (.inl ⟨i, by rw [rep_int r], wish_same m (mk_int _) h⟩)
  · rename_i b
    exact cd_of call_int1 I (v1 rx) (.inr ⟨b, by rw [rep_bl r], wish_same m (mk_int _) h⟩)
  · exact h.elim
theorem c_str : CallD X (.type "str") (fun ds M Q => match ds with | [d] => (∃ i, d = .int i ∧ i.natAbs.log2 < 1920 ∧ Q (.str (toString i)) M) | _ => False) := by
  refine d1 (rd := fun d M Q => ∃ i, d = .int i ∧ i.natAbs.log2 < 1920 ∧ Q (.str (toString i)) M) ?_
  intro pins s σ H x u d M Qd I rx r m ⟨i, e, hi, q⟩
  subst e
  exact cd_of call_str_int I (v1 rx) ⟨i, by rw [rep_int r], hi, wish_same m (mk_str _) q⟩
theorem c_tuple : CallD X (.type "tuple") (fun ds M Q => match ds with | [d] => rdTup1 d M Q | _ => False) := by
  refine d1 ?_
  intro pins s σ H x u d M Qd I rx r m h
  have lists : ∀ {ys : List D}, lsOf M d = some ys → Qd (.tup ys) M → wpAny (model X.prog X.w) X.A (call (.type "tuple") [u]) (EPD X pins σ M H Qd) X.xe s := by
    intro ys e q
    obtain ⟨a, vs, rfl, hs, r2⟩ := lsOf_rep e r m
    cases rx
    obtain ⟨its, rv, pl, hz⟩ := I.list hs.sql
    have hlen := rv.length
    refine call_tuple_list pl.isList (fun h' kp => ?_) (by simp only [List.size_toArray]; omega)
    exact fin_newT (I.kept (t' := s.toks) kp) m r2 rv hz q
  unfold rdTup1 at h
  split at h
  · obtain ⟨a, vs, rfl, hs, r2⟩ := rep_tupS r
    exact cd_of call_tupleT I (v1 rx) ⟨a, vs, rfl, hs.sqt, wish_same m (mk_tup hs r2) h⟩
  · obtain ⟨ys, e, q⟩ := h
    exact lists e q
theorem c_list {fz : Bool} : CallD X (.type "list") (fun ds M Q => match ds with | [d] => (∃ xs, sqOf M d = some xs ∧ newL fz xs M Q) | _ => False) := by
  refine d1 (rd := fun d M Q => ∃ xs, sqOf M d = some xs ∧ newL fz xs M Q) ?_
  intro pins s σ H x u d M Qd I rx r m ⟨ys, e, q⟩
  obtain ⟨a, vs, rfl, hs, r2⟩ := sqOf_rep e r m
  exact thn (call_list_of pins s σ H _ _ (fun v H' => ∃ p, v = .ref p ∧ H p = none ∧ H' = upd H p (.lst vs)) I (v1 rx) ⟨a, vs, rfl, hs, fun l hl => ⟨l, rfl, hl, rfl⟩⟩) fun u s' e => frz_after m r2 q e
theorem c_abs : CallD X (.builtin "abs") (fun ds M Q => match ds with | [d] => (∃ i, d = .int i ∧ Q (.int (if i < 0 then -i else i)) M) | _ => False) := by
  refine d1 (rd := fun d M Q => ∃ i, d = .int i ∧ Q (.int (if i < 0 then -i else i)) M) ?_
  intro pins s σ H x u d M Qd I rx r m ⟨i, e, q⟩
  subst e
  exact cd_of call_abs I (v1 rx) ⟨i, by rw [rep_int r], wish_same m (mk_int _) q⟩
theorem c_all (hc : X.calm = true) : CallD X (.builtin "all") (fun ds M Q => match ds with | [d] => (∃ bs : List Bool, lsOf M d = some (bs.map D.bl) ∧ Q (.bl (bs.all id)) M) | _ => False) := by
  refine d1 (rd := fun d M Q => ∃ bs : List Bool, lsOf M d = some (bs.map D.bl) ∧ Q (.bl (bs.all id)) M) ?_
  intro pins s σ H x u d M Qd I rx r m ⟨bs, e, q⟩
  obtain ⟨a, vs, rfl, hs, r2⟩ := lsOf_rep e r m
  have ev := repL_map (g := V.bl) (fun b v h => rep_bl h) r2
  subst ev
  exact cd_of (cr_all hc) I (v1 rx) ⟨a, bs, rfl, hs.sql, wish_same m (mk_bl _) q⟩
theorem c_any (hc : X.calm = true) : CallD X (.builtin "any") (fun ds M Q => match ds with | [d] => (∃ bs : List Bool, lsOf M d = some (bs.map D.bl) ∧ Q (.bl (bs.any id)) M) | _ => False) := by
  refine d1 (rd := fun d M Q => ∃ bs : List Bool, lsOf M d = some (bs.map D.bl) ∧ Q (.bl (bs.any id)) M) ?_
  intro pins s σ H x u d M Qd I rx r m ⟨bs, e, q⟩
  obtain ⟨a, vs, rfl, hs, r2⟩ := lsOf_rep e r m
  have ev := repL_map (g := V.bl) (fun b v h => rep_bl h) r2
  subst ev
  exact cd_of (cr_any hc) I (v1 rx) ⟨a, bs, rfl, hs.sql, wish_same m (mk_bl _) q⟩
theorem c_sum (hc : X.calm = true) : CallD X (.builtin "sum") (fun ds M Q => match ds with | [d] => (∃ is : List Int, lsOf M d = some (is.map D.int) ∧ Q (.int is.sum) M) | _ => False) := by
  refine d1 (rd := fun d M Q => ∃ is : List Int, lsOf M d = some (is.map D.int) ∧ Q (.int is.sum) M) ?_
  intro pins s σ H x u d M Qd I rx r m ⟨bs, e, q⟩
  obtain ⟨a, vs, rfl, hs, r2⟩ := lsOf_rep e r m
  have ev := repL_map (g := V.int) (fun b v h => rep_int h) r2
  subst ev
  exact cd_of (cr_sum hc) I (v1 rx) ⟨a, bs, rfl, hs.sql, wish_same m (mk_int _) q⟩
theorem c_min (hc : X.calm = true) : CallD X (.builtin "min") (fun ds M Q => match ds with | [d, e] => rdMin2 d e M Q | _ => False) := by
  refine d2 ?_
  intro pins s σ H x y u w d e M Qd I rx ry r1 r2 m ⟨i, j, e1, e2, q⟩
  subst e1 e2
  exact cd_of (call_min2 hc) I (v2 rx ry) ⟨i, j, by rw [rep_int r1, rep_int r2], wish_same m (mk_int _) q⟩
theorem c_max (hc : X.calm = true) : CallD X (.builtin "max") (fun ds M Q => match ds with | [d, e] => rdMax2 d e M Q | _ => False) := by
  refine d2 ?_
  intro pins s σ H x y u w d e M Qd I rx ry r1 r2 m ⟨i, j, e1, e2, q⟩
  subst e1 e2
  exact cd_of (call_max2 hc) I (v2 rx ry) ⟨i, j, by rw [rep_int r1, rep_int r2], wish_same m (mk_int _) q⟩
theorem c_divmod : CallD X (.builtin "divmod") (fun ds M Q => match ds with | [d, e] => rdDivmod d e M Q | _ => False) := by
  refine d2 ?_
  intro pins s σ H x y u w d e M Qd I rx ry r1 r2 m ⟨i, j, e1, e2, hc, q⟩
  subst e1 e2
  exact cd_of call_divmod I (v2 rx ry) ⟨i, j, by rw [rep_int r1, rep_int r2], hc, fun p hp => wish_wtp hp m (.cons (mk_int _) (.cons (mk_int _) .nil)) q⟩
/-! ### methods -/
abbrev RDM := D → List D → MM → DV → Prop
def MtD (X : Cx) (id : String) (rd : RDM) : Prop := ∀ (pins : List (Addr × Obj)) (s : Shared) (σ : SV) (H : Hp) (x : V) (xs : List V) (v : Value) (us : List Value) (dx : D) (ds : List D) (M : MM) (Qd : DV), Inv X pins σ H s → RelV x v → Vals xs us →
  Rep X.K H dx x → RepL X.K H ds xs → RepM X.K M H → rd dx ds M Qd → wpAny (model X.prog X.w) X.A (call (.builtin id) (v :: us)) (EPD X pins σ M H Qd) X.xe s
theorem RepL.dropLast {ds : List D} {vs : List V} (r : RepL K H ds vs) : RepL K H ds.dropLast vs.dropLast := by
  rw [List.dropLast_eq_take, List.dropLast_eq_take, r.length]
  exact r.take _
/-- a list is written -/
theorem fin_set {p : Addr} {d0 : DO} {ds : List D} {vs : List V} {d : D} {v : V} {u : Value} {s' : Shared} (I : Inv X pins σ (upd H p (.lst vs)) s') (rv : RelV v u) (m : RepM X.K M H) (e : M p = some d0) (r : RepL X.K H ds vs) (rd : Rep X.K H d v) (q : Qd d (up M p (.lst ds))) : EPD X pins σ M H Qd u s' := by
  have k : KeepF H (upd H p (.lst vs)) := .mut (m.mut e)
  exact ⟨d, up M p (.lst ds), v, _, I, rv, .put e, rd.keep k, m.put (d := .lst ds) e ⟨vs, upd_same, r.keep k⟩, q⟩
theorem m_append : MtD X "list.append" (rdM .append) := by
  intro pins s σ H x xs v us dx ds M Qd I rx rxs r rl m h
  match ds, h with
  | [y], h =>
    obtain ⟨p, ys, e1, e2, hz, q⟩ := h
    subst e1
    obtain ⟨w, rfl, rw'⟩ := repL1 rl
    obtain ⟨vs, hs, r2⟩ := m _ _ e2
    refine thn (mt_append pins s σ H x [w] v us (fun v H' => v = .non ∧ H' = upd H p (.lst (vs ++ [w]))) I rx rxs ⟨p, vs, w, rep_ref r, rfl, hs, by rw [← r2.length]; exact hz, rfl, rfl⟩) fun u s' ⟨v, H', I', rv, ev, eH⟩ => ?_
    subst ev eH
    exact fin_set I' rv m e2 (r2.append (.cons rw' .nil)) mk_non q
  | [], h => exact h.elim
  | _ :: _ :: _, h => exact h.elim
theorem m_extend : MtD X "list.extend" (rdM .extend) := by
  intro pins s σ H x xs v us dx ds M Qd I rx rxs r rl m h
  match ds, h with
  | [y], h =>
    obtain ⟨p, ys, zs, e1, e2, e3, hz, q⟩ := h
    subst e1
    obtain ⟨w, rfl, rw'⟩ := repL1 rl
    obtain ⟨vs, hs, r2⟩ := m _ _ e2
    obtain ⟨b, ws, rfl, hb, r3⟩ := lsOf_rep e3 rw' m
    cases (rep_ref r)
    cases rx
    obtain ⟨u, rfl, ru⟩ := vals1 rxs
    cases ru
    obtain ⟨z, its, n, rr, hl, e⟩ := I.lstM hs
    obtain ⟨z2, its2, n2, rr2, e'⟩ := rawL I hb
    have l1 := r2.length
    have l2 := r3.length.trans rr2.length
    have hsz : its.toArray.size + its2.toArray.size ≤ sizeLine := by rw [List.size_toArray, List.size_toArray]; omega
    have hlong : ¬ (!its.toArray.isEmpty && Builtin.List.listTooLong (its.toArray.size + its2.toArray.size)) = true := by
      rw [notLongL hsz, Bool.and_false]
      exact Bool.false_ne_true
    refine call_meets F.slot_list_extend ⟨_, e, rfl⟩ F.entry_list_extend (F.args_list_extend_2 _ _)
      (AutoSeq1.list_extend_list_list_0 p its.toArray n b its2.toArray n2 hlong (by rw [List.size_toArray]; omega) (by omega)) ⟨e, e', ?_⟩
    refine fin_set (v := .non) (vs := vs ++ ws) (I.lset (its' := its ++ its2) hs e (by simp) (rr.append rr2) ?_) rfl m e2 (r2.append r3) mk_non q
    rw [List.length_append, ← r2.length, ← r3.length]
    exact hz
  | [], h => exact h.elim
  | _ :: _ :: _, h => exact h.elim
theorem m_pop0 : MtD X "list.pop" (rdM .pop0) := by
  intro pins s σ H x xs v us dx ds M Qd I rx rxs r rl m h
  match ds, h with
  | [], h =>
    obtain ⟨p, ys, y, e1, e2, hy, q⟩ := h
    subst e1
    cases rl.nil_inv
    obtain ⟨vs, hs, r2⟩ := m _ _ e2
    obtain ⟨w, hw, rw'⟩ := r2.get hy
    refine thn (mt_pop pins s σ H x [] v us (fun v H' => v = w ∧ H' = upd H p (.lst vs.dropLast)) I rx rxs ⟨p, vs, w, rep_ref r, rfl, hs, by rw [← r2.length]; exact hw, rfl, rfl⟩) fun u s' ⟨v, H', I', rv, ev, eH⟩ => ?_
    subst ev eH
    exact fin_set I' rv m e2 r2.dropLast rw' q
  | _ :: _, h => exact h.elim
theorem m_pop1 : MtD X "list.pop" (rdM .pop1) := by
  intro pins s σ H x xs v us dx ds M Qd I rx rxs r rl m h
  match ds, h with
  | [i], h =>
    obtain ⟨p, ys, k, y, e1, e2, ei, hk, hy, q⟩ := h
    subst e1 ei
    obtain ⟨z, rfl, rz⟩ := repL1 rl
    obtain ⟨vs, hs, r2⟩ := m _ _ e2
    obtain ⟨w, hw, rw'⟩ := r2.get hy
    have hk2 : k < vs.length := (List.getElem?_eq_some_iff.mp hw).1
    have hi : seqIndex? (k : Int) vs.length = some k := by
      unfold seqIndex?
      simp
      omega
    refine thn (mt_popAt pins s σ H x [z] v us (fun v H' => v = w ∧ H' = upd H p (.lst (vs.eraseIdx k))) I rx rxs ⟨p, vs, k, k, w, rep_ref r, by rw [rep_int rz], hs, by omega, by omega, hi, hw, rfl, rfl⟩) fun u s' ⟨v, H', I', rv, ev, eH⟩ => ?_
    subst ev eH
    exact fin_set I' rv m e2 (r2.eraseIdx k) rw' q
  | [], h => exact h.elim
  | _ :: _ :: _, h => exact h.elim
theorem m_upper : MtD X "str.upper" (rdM .upper) := by
  intro pins s σ H x xs v us dx ds M Qd I rx rxs r rl m h
  match ds, h with
  | [], h =>
    obtain ⟨z, e1, hz, q⟩ := h
    subst e1
    cases rl.nil_inv
    exact thn (mt_upper pins s σ H x [] v us _ I rx rxs ⟨z, rep_str r, rfl, hz, wish_same m (mk_str _) q⟩) fun u s' e => .of e
  | _ :: _, h => exact h.elim
end
end RX
set_option Elab.async false
set_option linter.all false
set_option maxRecDepth 100000
set_option maxHeartbeats 4000000
/-! RX4b: isinstance, truth, repr, reversal, dict of pairs. -/
namespace RX
open PySem PySem.Spec PyProof.Rows L2
section
variable {X : Cx} {pins : List (Addr × Obj)} {s : Shared} {σ : SV} {H : Hp} {M : MM} {Qd : DV} {K : PySem.W.Frag}
/-! ### isinstance -/
def tyNames : List String := ["NoneType", "bool", "int", "str", "tuple", "list", "dict"]
theorem kit_all : (tyNames.all fun a => ["bool", "int", "str", "tuple", "list", "dict"].all fun b => kitB a b == some (isTy (.bt a) (.bt b))) = true := by decide +kernel
theorem kit_of2 {a b : String} (ha : a ∈ tyNames) (hb : b ∈ ["bool", "int", "str", "tuple", "list", "dict"]) : PySem.W.kitOne K (.type a) (.type b) = some (isTy (.bt a) (.bt b)) := by
  have h := kit_all
  rw [List.all_eq_true] at h
  have h2 := h a ha
  rw [List.all_eq_true] at h2
  exact kit_ty (eq_of_beq (h2 b hb))
theorem tyOf_rep {d : D} {x : V} {n : String} (e : tyOf M d = some (.bt n)) (r : Rep K H d x) (m : RepM K M H) : n ∈ tyNames ∧ TyX K H x (.type n) := by
  unfold tyOf at e
  have tupX : ∀ {a : Addr} {vs : List V}, SqT K H a vs → TyX K H (.ref a) (.type "tuple") := fun {a vs} hs => by
    rcases hs with (h | ⟨o, h⟩) | ⟨o, its, n, h1, h2, _⟩
    · exact .base (.tup h)
    · exact .fTuple h
    · exact .kTuple h1 h2
  have lstX : ∀ {a : Addr} {vs : List V}, LsR K H a vs → TyX K H (.ref a) (.type "list") := fun {a vs} hs => by
    rcases hs with h | ⟨o, h⟩ | ⟨its, n, h1, _⟩
    · exact .base (.lst h)
    · exact .base (.frz h)
    · exact .kList h1 rfl
  cases d with
  | non => cases e; rw [rep_non r]; exact ⟨by decide, .base .non⟩
  | bl b => cases e; rw [rep_bl r]; exact ⟨by decide, .base (.bl b)⟩
  | int b => cases e; rw [rep_int r]; exact ⟨by decide, .base (.int b)⟩
  | str b => cases e; rw [rep_str r]; exact ⟨by decide, .base (.str b)⟩
  | tup ds =>
    cases e
    obtain ⟨a, vs, rfl, hs, _⟩ := rep_tup r
    exact ⟨by decide, tupX hs⟩
  | wtp ds =>
    cases e
    obtain ⟨a, vs, rfl, hs, _⟩ := rep_wtp r
    exact ⟨by decide, tupX hs⟩
  | lst ds =>
    cases e
    obtain ⟨a, vs, rfl, hs, _⟩ := rep_lst r
    exact ⟨by decide, lstX (.inr hs)⟩
  | dct ks ds =>
    cases e
    obtain ⟨a, o, vs, rfl, hs, _⟩ := rep_dct r
    exact ⟨by decide, .fDict hs⟩
  | ref a =>
    cases (rep_ref r)
    simp only at e
    split at e
    · rename_i xs q
      cases e
      obtain ⟨vs, h1, _⟩ := m _ _ q
      exact ⟨by decide, lstX (.inl h1)⟩
    · rename_i ks ds q
      cases e
      obtain ⟨vs, h1, _⟩ := m _ _ q
      exact ⟨by decide, .base (.dK h1)⟩
    · cases e
    · cases e
  | ty n => cases e
/-! ### truth -/
theorem truD_rep {d : D} {x : V} {b : Bool} (e : truD M d = some b) (r : Rep K H d x) (m : RepM K M H) (hz : ∀ z, d = .str z → z.length ≤ sizeLine) : TruV K x H b := by
  have em : ∀ {ds : List D} {vs : List V}, RepL K H ds vs → (!ds.isEmpty) = !vs.isEmpty := fun {ds vs} rl => by
    have := rl.length
    cases ds <;> cases vs <;> simp_all
  unfold truD at e
  cases d with
  | non => cases e; rw [rep_non r]; exact (rfl : false = false)
  | bl b => cases e; rw [rep_bl r]; exact (rfl : b = b)
  | int b => cases e; rw [rep_int r]; exact rfl
  | str b =>
    cases e
    rw [rep_str r]
    refine ⟨hz b rfl, ?_⟩
    rw [Bool.eq_iff_iff]
    simp
  | tup ds =>
    cases e
    obtain ⟨a, vs, rfl, hs, rl⟩ := rep_tup r
    exact .inr (.inl ⟨vs, hs, em rl⟩)
  | lst ds =>
    cases e
    obtain ⟨a, vs, rfl, hs, rl⟩ := rep_lst r
    exact .inl ⟨vs, hs.sql, em rl⟩
  | ref a =>
    cases (rep_ref r)
    simp only at e
    split at e
    · rename_i xs q
      cases e
      obtain ⟨vs, h1, rl⟩ := m _ _ q
      exact .inl ⟨vs, .inl (.inl h1), em rl⟩
    · cases e
  | dct ks ds => cases e
  | ty n => cases e
  | wtp n => cases e
/-! ### repr -/
mutual
theorem Vw.nodict : ∀ {d : D} {p : PyData}, Vw M d p → PyData.hasDict p = false
  | _, _, .non => by simp only [PyData.hasDict]
  | _, _, .bl b => by simp only [PyData.hasDict]
  | _, _, .int b => by simp only [PyData.hasDict]
  | _, _, .str b => by simp only [PyData.hasDict]
  | _, _, .tup h => by simp only [PyData.hasDict]; exact VwL.nodict h
  | _, _, .lst h => by simp only [PyData.hasDict]; exact VwL.nodict h
  | _, _, .ref _ h => by simp only [PyData.hasDict]; exact VwL.nodict h
theorem VwL.nodict : ∀ {d : List D} {p : List PyData}, VwL M d p → PyData.hasDictAll p = false
  | _, _, .nil => by simp only [PyData.hasDictAll]
  | _, _, .cons h1 h2 => by simp only [PyData.hasDictAll, Vw.nodict h1, VwL.nodict h2, Bool.or_self]
end
theorem c_repr (hgd : X.A.guards = some []) (hu : X.A.units + 70 < cLine) : CallD X (.builtin "repr") (fun ds M Q => match ds with | [d] => rdRepr d M Q | _ => False) := by
  refine d1 ?_
  intro pins s σ H x u d M Qd I rx r m ⟨p, hv, hs, hd, hz, q⟩
  have dp := hv.dp m r
  have big : ∀ a, u = .ref a → wpAny (model X.prog X.w) X.A (call (.builtin "repr") [u]) (EPD X pins σ M H Qd) X.xe s := fun a e => by
    obtain ⟨as, rd⟩ := Dp.reads I _ _ _ dp rx
    subst e
    refine repr_of_reads' rd hs (PyData.noDict_hsm hv.nodict) hgd (by omega) (fun _ _ e => e) (fun h' t tk hk => ?_) hz
    exact fin_ (v := .str p.shown) (I.kept hk) ⟨t, rfl⟩ m (mk_str _) q
  cases hv with
  | non =>
    cases (rep_non r)
    cases rx
    exact PySem.P.repr_of_none (fin_ (v := .str "None") (I.tok _) ⟨_, rfl⟩ m (mk_str _) q)
  | bl b =>
    cases (rep_bl r)
    cases rx
    exact PySem.P.repr_of_bool (fin_ (v := .str (if b then "True" else "False")) (I.tok _) ⟨_, rfl⟩ m (mk_str _) q)
  | int i =>
    cases (rep_int r)
    obtain ⟨t, rfl⟩ := rx
    have hi : i.natAbs.log2 < 1920 := of_decide_eq_true hs
    exact PySem.P.repr_of_int hi (fin_ (v := .str (toString i)) (I.tok _) ⟨_, rfl⟩ m (mk_str _) q)
  | str z =>
    cases (rep_str r)
    obtain ⟨t, rfl⟩ := rx
    exact PySem.P.repr_of_str (fin_ (v := .str (reprText z)) (I.tok _) ⟨_, rfl⟩ m (mk_str _) q) hz
  | tup h =>
    obtain ⟨a, vs, rfl, _⟩ := rep_tup r
    cases rx
    exact big a rfl
  | lst h =>
    obtain ⟨a, vs, rfl, _⟩ := rep_lst r
    cases rx
    exact big a rfl
  | ref e h =>
    cases (rep_ref r)
    cases rx
    exact big _ rfl
end
/-! ### [::-1] -/
section
variable {prog : Program} {w : World} {A : Around} {E : Value → Shared → Prop} {s : Shared}
theorem sliceApplied_rev {sl : Addr} {n : Nat} {u : Tok} {Q : Int × Int × Nat → Shared → Prop} (hs : s.heap.IsSliceOf sl .none .none (.int (-1) u)) (h : Q ((n : Int) - 1, -1, n) s) : wpAny (model prog w) A (Builtin.Slice.sliceApplied (.ref sl) (pure (n : Int))) Q E s := by
  obtain ⟨os, hos, hcs, hds⟩ := id hs
  unfold Builtin.Slice.sliceApplied Builtin.Slice.sliceFields
  refine wpAny_bind (wpAny_bind (wpAny_field hos hds (x := .none) rfl (wpAny_bind (wpAny_field hos hds (x := .none) rfl (wpAny_bind (wpAny_field hos hds (x := .int (-1) u) rfl (wpAny_pure ?_)))))))
  refine wpAny_bind (slicePart_int ?_)
  show wpAny _ _ (if ((-1 : Int) == 0) = true then _ else _) _ _ s
  rw [if_neg (by decide)]
  refine wpAny_bind (slicePart_none (wpAny_bind (slicePart_none (wpAny_bind (wpAny_pure ?_)))))
  show wpAny _ _ (match Builtin.Slice.sliceAdjust none none (-1) (n : Int) with | (lo, hi) => pure (lo, (-1 : Int), Builtin.Slice.slicePlaces lo hi (-1))) _ _ s
  have e1 : Builtin.Slice.sliceAdjust none none (-1) (n : Int) = ((n : Int) - 1, -1) := by
    unfold Builtin.Slice.sliceAdjust
    simp
  have e2 : Builtin.Slice.slicePlaces ((n : Int) - 1) (-1) (-1) = n := by
    unfold Builtin.Slice.slicePlaces
    rw [if_neg (by decide)]
    by_cases hn : n = 0
    · subst hn; decide
    · rw [if_pos (by omega)]
      have : ((n : Int) - 1 - -1 - 1) / (- -1) + 1 = n := by
        rw [show (- -1 : Int) = 1 from rfl, Int.ediv_one]
        omega
      rw [this]
      exact Int.toNat_natCast n
  rw [e1]
  show wpAny _ _ (pure ((n : Int) - 1, (-1 : Int), Builtin.Slice.slicePlaces ((n : Int) - 1) (-1) (-1))) _ _ s
  rw [e2]
  exact wpAny_pure h
theorem pick_rev (xs : List Value) : ((List.range xs.length).filterMap fun (k : Nat) => xs.toArray[(((xs.length : Int) - 1) + (k : Int) * (-1)).toNat]?) = xs.reverse := by
  have h : ∀ n, n ≤ xs.length → ((List.range n).filterMap fun (k : Nat) => xs.toArray[(((xs.length : Int) - 1) + (k : Int) * (-1)).toNat]?) = xs.reverse.take n := by
    intro n
    induction n with
    | zero => intro _; simp
    | succ n ih =>
      intro hn
      rw [List.range_succ, List.filterMap_append, ih (by omega)]
      have hi : (((xs.length : Int) - 1) + (n : Int) * (-1)).toNat = xs.length - 1 - n := by omega
      have hlt : n < xs.reverse.length := by rw [List.length_reverse]; omega
      rw [List.take_succ_eq_append_getElem hlt]
      congr 1
      simp only [List.filterMap_cons, List.filterMap_nil, hi]
      have e : xs.toArray[xs.length - 1 - n]? = some (xs.reverse[n]) := by
        rw [List.getElem?_toArray, List.getElem_reverse, List.getElem?_eq_getElem (by omega)]
      rw [e]
  have := h xs.length (Nat.le_refl _)
  rw [this, List.take_of_length_le (by rw [List.length_reverse]; exact Nat.le_refl _)]
theorem getItem_tuple_rev {t sl : Addr} {its : List Value} {u : Tok} {Q : Value → Shared → Prop} (ht : IsTup s.heap t its.toArray) (hs : s.heap.IsSliceOf sl .none .none (.int (-1) u)) (hsz : its.length ≤ sizeLine)
    (h : Q (.ref s.heap.objs.size) { s with heap := s.heap.push { cls := .type "tuple", data := .seq its.reverse.toArray } }) : wpAny (model prog w) A (getItem (.ref t) (.ref sl)) Q E s := by
  have htake : sizeOk (.seq its.reverse.toArray) := by
    show its.reverse.toArray.size ≤ sizeLine
    rw [List.size_toArray, List.length_reverse]
    exact hsz
  obtain ⟨os, hos, hcs, hds⟩ := id hs
  have hTs : s.TypeIs (.ref sl) "slice" := ⟨os, hos, hcs⟩
  unfold getItem
  try with_reducible refine wpAny_holding ?_
  first | refine wpAny_bind (wpAny_pure ?_) | skip
  refine wpAny_bind (wpAny_sequenceKey ht.typeIs (by decide) ?_)
  refine wpAny_bind (wpAny_callSpecial?_slot (name := Str.ofString "__getitem__") ht.typeIs PyProof.Rows.slot_tuple_getitem
    (wpAny_call_entry PyProof.Rows.slot_tuple_getitem ht.typeIs entry_tuple_getitem ?_ (args_tuple_getitem _ _)))
  show wpAny _ _ (Builtin.Tuple.tupleItemsOf (.ref t) >>= _) _ _ s
  refine wpAny_bind (PyProof.Rows.tupleItemsOf_ ht ?_)
  refine wpAny_bind (wpAny_typeOf hTs ?_)
  rw [if_pos (by decide)]
  refine wpAny_bind (sliceApplied_rev (n := its.toArray.size) hs ?_)
  show wpAny _ _ (if ((((its.toArray.size : Nat) : Int) - 1 == 0 && (-1 : Int) == 1 && its.toArray.size == its.toArray.size)) = true then _ else _) _ _ s
  have hno : ¬ (((((its.toArray.size : Nat) : Int) - 1 == 0 && (-1 : Int) == 1 && its.toArray.size == its.toArray.size)) = true) := by simp
  rw [if_neg hno]
  have hp : ((List.range its.toArray.size).filterMap fun (k : Nat) => its.toArray[((((its.toArray.size : Nat) : Int) - 1) + (k : Int) * (-1)).toNat]?) = its.reverse := by
    rw [List.size_toArray]
    exact pick_rev its
  rw [hp]
  first
    | exact wpAny_bind (m := Builtin.Tuple.tupleExact _) (wpAny_newObj_type (wpAny_pure ⟨_, rfl, wpAny_pure h⟩) htake)
    | exact wpAny_bind (m := Builtin.Tuple.tupleExact _) (wpAny_newObj_type (wpAny_bind (wpAny_pure (wpAny_pure ⟨_, rfl, wpAny_pure h⟩))) htake)
    | exact wpAny_bind (wpAny_bind (m := Builtin.Tuple.tupleExact _) (wpAny_newObj_type (wpAny_pure (wpAny_pure ⟨_, rfl, wpAny_pure h⟩)) htake))
    | exact wpAny_bind (wpAny_bind (m := Builtin.Tuple.tupleExact _) (wpAny_newObj_type (wpAny_pure ⟨_, rfl, wpAny_pure h⟩) htake))
end
section
variable {X : Cx} {B : Bs}
theorem pe_rev {fz : Bool} {e : Expr} {te : DE} {k : Nat} {p1 p2 p3 pos : Pos} (he : PE X e (LE X.K B te)) :
    PE X (.Subscript e (.Slice none none (some (.UnaryOp .USub (.Constant (.int 1) k p1) p2)) p3) pos) (LE X.K B fun σ M Q => te σ M fun x M1 => rdRev fz x M1 Q) := by
  refine pe_of fun pins s σ H σd M Qd I a ht => ?_
  refine Subscript_ (thn (RX.PE.at he I a ht) fun v s1 ⟨d, M1, x, H1, I1, r1, f1, rd, m1, q⟩ => ?_)
  have hst : PO X (some (.UnaryOp .USub (.Constant (.int 1) k p1) p2)) (tPart (tUn (rU fun i => .int (-i)) (tC (.int 1)))) := po_some (pe_un un_neg pe_int)
  refine wpAny_Slice (thn (po_none.run pins s1 σ H1 (fun o H2 => o = none ∧ H2 = H1) I1 ⟨rfl, rfl⟩) fun vl s2 ⟨l, H2, I2, pl, el, e2⟩ => ?_)
  subst el e2
  refine thn (po_none.run pins s2 σ H2 (fun o H3 => o = none ∧ H3 = H2) I2 ⟨rfl, rfl⟩) fun vu s3 ⟨u, H3, I3, pu, eu, e3⟩ => ?_
  subst eu e3
  refine thn (hst.run pins s3 σ H3 (fun o H4 => o = some (-1) ∧ H4 = H3) I3 ⟨1, rfl, -1, rfl, rfl, rfl⟩) fun vs s4 ⟨o, H4, I4, ps, eo, e4⟩ => ?_
  subst eo e4
  have I5 : Inv X pins σ H4 { s4 with heap := s4.heap.push { cls := .type "slice", data := .fields #[vl, vu, vs] } } := I4.kept (t' := s4.toks) fun b ob q => Heap.get?_push_of_some _ q
  show wpAny (model X.prog X.w) X.A (subscriptTail e (.Slice none none (some (.UnaryOp .USub (.Constant (.int 1) k p1) p2)) p3) v (.ref s4.heap.objs.size)) (EPD X pins σ M H Qd) X.xe { s4 with heap := s4.heap.push { cls := .type "slice", data := .fields #[vl, vu, vs] } }
  have go : ∀ {u : Value} {s' : Shared}, EPD X pins σ M1 H4 Qd u s' → EPD X pins σ M H Qd u s' := fun ⟨d, M', v, H', i, r, f, rr, mm, qq⟩ => ⟨d, M', v, H', i, r, f1.trans f, rr, mm, qq⟩
  have lists : ∀ {ys : List D}, lsOf M1 d = some ys → newL fz ys.reverse M1 Qd → wpAny (model X.prog X.w) X.A (subscriptTail e (.Slice none none (some (.UnaryOp .USub (.Constant (.int 1) k p1) p2)) p3) v (.ref s4.heap.objs.size)) (EPD X pins σ M H Qd) X.xe { s4 with heap := s4.heap.push { cls := .type "slice", data := .fields #[vl, vu, vs] } } := by
    intro ys e' q
    obtain ⟨p, ws, rfl, hl, rl⟩ := lsOf_rep e' rd m1
    cases r1
    obtain ⟨its, r, ht, hz⟩ := I5.list hl.sql
    have hlen := r.length
    refine tail_any (ops := [.ref p, .ref s4.heap.objs.size]) ht.isList.typeIs (PySem.slot_list_getitem.lookup) ?_ (by with_unfolding_all rfl)
    refine wpAny_getItem_list_slice ht.isList (Heap.IsSliceOf.new _ vl vu vs) pl pu ps (by decide) ?_ (by rw [List.size_toArray]; omega)
    rw [PySem.W.krv_pick]
    exact go (fin_newL (I5.lnew (t' := s4.toks) r.reverse (by rw [List.length_reverse]; exact hz)) I5.fresh m1 rl.reverse q)
  have q : rdRev fz d M1 Qd := q
  unfold rdRev at q
  split at q
  · rename_i xs
    obtain ⟨p, ws, rfl, hp, rl⟩ := rep_tup rd
    cases r1
    obtain ⟨its, r, ht, hz⟩ := I5.tuple hp
    have hlen := r.length
    cases pl
    cases pu
    cases ps
    refine tail_any (ops := [.ref p, .ref s4.heap.objs.size]) ht.typeIs (PyProof.Rows.slot_tuple_getitem.lookup) ?_ (by with_unfolding_all rfl)
    exact getItem_tuple_rev ht (Heap.IsSliceOf.new _ _ _ _) (by omega) (go (fin_newT (h' := s4.heap.push _) I5 m1 rl.reverse r.reverse (by rw [List.length_reverse]; exact hz) q))
  · obtain ⟨ys, e', q⟩ := q
    exact lists e' q
end
end RX
set_option Elab.async false
set_option linter.all false
set_option maxRecDepth 100000
set_option maxHeartbeats 4000000
/-! RX5: defs as promises over trees (the stack is known to hold no repr), and their calls. -/
namespace RX
open PySem PySem.Spec PyProof.Rows L2

abbrev XF : XD := fun _ _ _ _ => False
abbrev EF : ED := EF0
/-- the wish at the values -/
def KQ (K : PySem.W.Frag) (M : MM) (H : Hp) (Qd : DV) : VK := fun v H' => ∃ d M', Fr M H M' H' ∧ Rep K H' d v ∧ RepM K M' H' ∧ Qd d M'
structure FnG (P : Program) (w : World) (K : PySem.W.Frag) (mg : Str → Option Value) (base : Heap) (k : Nat) (f : Addr) (fd : FuncData) (ps : List Str) (g : CallT) : Prop where
  len : ∀ ds M Q E, g ds M Q E → ds.length = ps.length
  run : ∀ (A : Around) (outer : List Env) (s : Shared) (H : Hp) (args : Args) (us : List Value) (vs : List V) (ds : List D) (M : MM) (Qd : DV), Room k A → A.guards = some [] → Env0 P w K mg base A outer s H → BindsTo s fd args (ps.zip us) → Vals vs us →
    RepL K H ds vs → RepM K M H → g ds M Qd XF → codeAny (model P w) A (.call (.ref f) args) (CR CX0 outer P w H s (KQ K M H Qd) E0) s
theorem FnG.mono {P : Program} {w : World} {K : PySem.W.Frag} {mg : Str → Option Value} {base : Heap} {j k : Nat} {f : Addr} {fd : FuncData} {ps : List Str} {g : CallT} (F : FnG P w K mg base j f fd ps g) (h : j ≤ k) : FnG P w K mg base k f fd ps g :=
  ⟨F.len, fun A outer s H args us vs ds M Qd r => F.run A outer s H args us vs ds M Qd (r.mono h)⟩
/-- a def by its body -/
theorem fnG_of {P : Program} {w : World} {K : PySem.W.Frag} {mg : Str → Option Value} {base : Heap} {k : Nat} {x qual : Str} {params : Arguments} {body : List Stmt} {scope : Scope} {f : Addr} {fd : FuncData} {N ps : List Str} {g : CallT}
    (F : FunD K x qual params body scope [] [] f fd) (S : FnScope N ps scope) (len : ∀ ds M Q E, g ds M Q E → ds.length = ps.length)
    (hbody : ∀ (cdv : Value) (A : Around) (outer : List Env) (s : Shared) (H : Hp) (vs : List V) (ds : List D) (M : MM) (Qd : DV), Room k (A.deeper (envOfC qual scope s.heap.objs.size f cdv)) → A.guards = some [] → RepL K H ds vs → RepM K M H → g ds M Qd XF →
      ∃ t, PSs (cxOf CX0 P w K mg base N qual scope f cdv A outer s H E0) body t ∧ t { nx := fun _ H' => KQ K M H Qd .non H', rt := KQ K M H Qd } (start N vs) H) : FnG P w K mg base (k + 1) f fd ps g := by
  refine ⟨len, fun A outer s H args us vs ds M Qd hr hgd e0 hb r rl rm hg => ?_⟩
  let sp : Sp := fun vs' H' Q _ => RepL K H' ds vs' ∧ RepM K M H' ∧ (∀ v H2, KQ K M H' Qd v H2 → Q v H2) ∧ vs' = vs ∧ H' = H
  obtain ⟨oc, od, dV, kV, doc, pm, an, cdv, ct, osl, rfl, lk, hcd, _, _⟩ := F.ex
  have hl : vs.length = ps.length := by rw [← rl.length]; exact len _ _ _ _ hg
  have KX : K.In s.heap := e0.mod.kin.keeps fun b o e => (e0.bs b o e).1
  have lim : s.heap.NoLimit := e0.mod.nolimit.keeps fun b o e => (e0.bs b o e).1
  have hkind : ∀ y ∈ ps.zip us, scope.names.lookup y.1 = some .local ∨ (scope.names.lookup y.1 = some .cell ∧ ((cellsFrom (s.heap.objs.size + 1) scope.names []).lookup y.1).isSome = true) := fun ⟨n, v⟩ hy => by
    rcases S.par n (List.of_mem_zip hy).1 with q | q
    · exact .inl q
    · exact .inr ⟨q, PySem.W.cellsFrom_some _ _ _ (.inl q)⟩
  refine codeAny_call_function hr.depth (KX _ _ lk) rfl S.co S.gen rfl (PySem.W.codeRec_of KX hcd) (hb _ _ _ _ ?_)
  refine wpAny_newFunctionEnv_cells S.kind hkind fun env he s1 x => ?_
  subst he
  refine ⟨lim.keeps x.toInCall.keep, codeAny_func ?_⟩
  obtain ⟨t, ht, hq⟩ := hbody cdv A outer s H vs ds M Qd (hr.deeper _) hgd rl rm hg
  have I : Inv (cxOf CX0 P w K mg base N qual scope f cdv A outer s H E0) [] (start N vs) H s1 := inv_start S hr.hd e0 hl r x
  refine wpAny_mono (ht.run [] s1 (start N vs) H _ I hq) (fun fl s' hs => ?_) fun e s' hs => hs
  have fin : ∀ {σ' : SV} {H' : Hp} {v : V} {u : Value}, Inv (cxOf CX0 P w K mg base N qual scope f cdv A outer s H E0) [] σ' H' s' → RelV v u → KQ K M H Qd v H' → L2.CE outer P w H s (KQ K M H Qd) u s' :=
    fun {σ' H' v u} J rv q => ⟨v, H', J.os, J.bare, J.base, J.hok, rv, q⟩
  cases fl with
  | ret u =>
    obtain ⟨v, σ', H', J, rv, q⟩ := hs
    exact fin J rv q
  | next =>
    obtain ⟨σ', H', J, q⟩ := hs
    exact fin (v := V.non) (u := Value.none) J rfl q
  | brk =>
    obtain ⟨_, _, _, q⟩ := hs
    exact False.elim q
  | cont =>
    obtain ⟨_, _, _, q⟩ := hs
    exact False.elim q

section
variable {X : Cx} {k : Nat} {f C : Addr} {fd : FuncData} {ps : List Str} {g : CallT} {pins : List (Addr × Obj)} {σ : SV} {H : Hp} {s : Shared} {M : MM} {Qd : DV}
/-- the callee runs -/
theorem run_g {us : List Value} {vs : List V} {ds : List D} {kw : List (Str × Value)} {bs : List Value} (F : FnG X.prog X.w X.K X.mg X.base k f fd ps g) (hr : Room k X.A) (hgd : X.A.guards = some []) (I : Inv X pins σ H s)
    (hb : BindsTo s fd ⟨us, kw⟩ (ps.zip bs)) (r : Vals vs bs) (rl : RepL X.K H ds vs) (rm : RepM X.K M H) (q : g ds M Qd XF) : wpAny (model X.prog X.w) X.A (call (.ref f) us kw) (EPD X pins σ M H Qd) X.xe s := by
  refine wpAny_call (codeAny_mono (F.run X.A X.stack s H ⟨us, kw⟩ bs vs ds M Qd hr hgd I.env0 hb r rl rm q) fun r s' hq => ?_)
  cases r with
  | error e => exact hq.elim
  | ok fl =>
    cases fl with
    | ret u => exact .of (I.after hq)
    | next => exact False.elim hq
    | brk => exact False.elim hq
    | cont => exact False.elim hq
/-- C(..): a new instance, then its __init__ -/
theorem run_mk {us : List Value} {vs : List V} {ds : List D} {Cn : Str} {kw : List (Str × Value)} {bs : Value → List Value} (hC : C = He.ga X.K Cn) (Mk0 : Mk X.K C f) (F : FnG X.prog X.w X.K X.mg X.base k f fd ps g) (hr : Room (k + 1) X.A) (hgd : X.A.guards = some [])
    (I : Inv X pins σ H s) (hb : ∀ (s : Shared) (y : Value), X.K.In s.heap → BindsTo s fd ⟨y :: us, kw⟩ (ps.zip (bs y))) (r : ∀ y u, RelV y u → Vals (y :: vs) (bs u)) (rl : RepL X.K H ds vs) (rm : RepM X.K M H)
    (q : ∀ p, M p = none → g (.ref p :: ds) (up M p (.ins Cn [] [])) (fun d M2 => d = .non ∧ Qd (.ref p) M2) XF) : wpAny (model X.prog X.w) X.A (call (.ref C) us kw) (EPD X pins σ M H Qd) X.xe s := by
  have f1 : H (s.heap.objs.size + 1) = none := I.hok.fresh (Nat.le_succ _)
  have f0 : H s.heap.objs.size = none := I.hok.fresh (Nat.le_refl _)
  have ne : s.heap.objs.size + 1 ≠ s.heap.objs.size := Nat.succ_ne_self _
  have f2 : upd H s.heap.objs.size (.own (s.heap.objs.size + 1)) (s.heap.objs.size + 1) = none := by rw [upd_ne ne]; exact f1
  have I2 := Inv.made (C := C) I
  have m2 : RepM X.K (up M (s.heap.objs.size + 1) (.ins Cn [] [])) (upd (upd H s.heap.objs.size (.own (s.heap.objs.size + 1))) (s.heap.objs.size + 1) (.ins C s.heap.objs.size [])) :=
    (rm.hid f0).new f2 ⟨s.heap.objs.size, [], by rw [upd_same, hC]; rfl, rfl, .nil⟩
  have fr : Fr M H (up M (s.heap.objs.size + 1) (.ins Cn [] [])) (upd (upd H s.heap.objs.size (.own (s.heap.objs.size + 1))) (s.heap.objs.size + 1) (.ins C s.heap.objs.size [])) := (Fr.hid f0).trans (Fr.new f2)
  have rl2 := rl.keep (fr.keep rm)
  refine wpAny_call (make_map (f := f) I.kIn Mk0.makes Mk0.init (beq_iff_eq.mp Mk0.fn) (codeAny_mono (F.run _ X.stack _ _ ⟨Value.ref (s.heap.objs.size + 1) :: us, kw⟩ (bs (Value.ref (s.heap.objs.size + 1))) (V.ref (s.heap.objs.size + 1) :: vs) (.ref (s.heap.objs.size + 1) :: ds) _ _
    (hr.make C us kw) ?_ (I2.env0.make C us kw) (hb _ _ I2.kIn) (r _ _ rfl) (.cons (mk_ref _) rl2) m2 (q _ (rm.free f1))) fun r s' hq' => ?_))
  · simp only [Around.under, hgd]
    first | rfl | simp [Code.guards, Code.isGuard, guardIds, pushGuards] | decide +kernel
  · cases r with
    | error e => exact hq'.elim
    | ok fl =>
      cases fl with
      | ret u =>
        obtain ⟨v, H', I3, rv, d, M', f3, r3, m3, ed, q3⟩ := I2.after hq'
        subst ed
        cases (rep_non r3)
        exact ⟨rv, ⟨.ref (s.heap.objs.size + 1), M', V.ref (s.heap.objs.size + 1), H', I3, rfl, fr.trans f3, mk_ref _, m3, q3⟩⟩
      | next => exact False.elim hq'
      | brk => exact False.elim hq'
      | cont => exact False.elim hq'
end
end RX
set_option Elab.async false
set_option linter.all false
set_option maxRecDepth 100000
set_option maxHeartbeats 4000000
/-! RX6: the layer's rules with wishes over trees. -/
namespace RX
open PySem PySem.Spec PyProof.Rows L2

/-- nothing but these slots is written -/
structure Same (vs : List Nat) (σ σ' : SV) : Prop where
  len : σ'.length = σ.length
  eq : ∀ i, i ∉ vs → σ'[i]? = σ[i]?
theorem Same.refl {vs : List Nat} {σ : SV} : Same vs σ σ := ⟨rfl, fun _ _ => rfl⟩
theorem Same.trans {vs ws : List Nat} {σ σ1 σ2 : SV} (a : Same vs σ σ1) (b : Same ws σ1 σ2) : Same (vs ++ ws) σ σ2 :=
  ⟨b.len.trans a.len, fun i h => by
    rw [List.mem_append, not_or] at h
    exact (b.eq i h.2).trans (a.eq i h.1)⟩
theorem Same.set {i : Nat} {σ : SV} {v : Option V} : Same [i] σ (σ.set i v) := ⟨List.length_set, fun j h => by
  rw [List.mem_singleton] at h
  exact List.getElem?_set_ne fun e => h e.symm⟩
theorem wipe_get (σ : SV) (i : Nat) : ∀ vs : List Nat, (wipe σ vs)[i]? = if i ∈ vs then (σ[i]?).map fun _ => none else σ[i]?
  | [] => by simp [wipe]
  | v :: vs => by
    unfold wipe
    by_cases h : i = v
    · subst h
      rw [if_pos (by simp)]
      by_cases hl : i < (wipe σ vs).length
      · rw [List.getElem?_set_self hl]
        rw [wipe_length] at hl
        rw [List.getElem?_eq_getElem hl]
        rfl
      · have hl2 : ¬ i < σ.length := by rw [wipe_length] at hl; exact hl
        rw [List.getElem?_eq_none (by rw [List.length_set]; omega), List.getElem?_eq_none (by omega)]
        rfl
    · rw [List.getElem?_set_ne (fun e => h e.symm), wipe_get σ i vs]
      simp [h]
theorem Same.wipe {ws vs : List Nat} {σ σ' : SV} (s : Same ws (L2.wipe σ vs) σ') (h : ∀ i ∈ ws, i ∈ vs) : L2.wipe σ' vs = L2.wipe σ vs := by
  refine List.ext_getElem? fun i => ?_
  rw [wipe_get, wipe_get]
  by_cases hi : i ∈ vs
  · rw [if_pos hi, if_pos hi]
    have e : σ'.length = σ.length := by rw [s.len, wipe_length]
    by_cases hl : i < σ.length
    · rw [List.getElem?_eq_getElem hl, List.getElem?_eq_getElem (by rw [e]; exact hl)]
      rfl
    · rw [List.getElem?_eq_none (by omega), List.getElem?_eq_none (by omega)]
  · rw [if_neg hi, if_neg hi, s.eq i fun z => hi (h i z), wipe_get, if_neg hi]

abbrev DI := DSt → MM → (List D → (MM → Prop) → MM → Prop) → Prop
/-- the iterator yields xs, as long as stab holds -/
structure ItOk (K : PySem.W.Frag) (M0 : MM) (H0 : Hp) (J : It) (xs : List D) (stab : MM → Prop) : Prop where
  go : ∀ i M H, Fr M0 H0 M H → RepM K M H → stab M → i < xs.length → J.go i H
  stop : ∀ M H, Fr M0 H0 M H → RepM K M H → stab M → J.stop xs.length H
  yld : ∀ i M H x H', Fr M0 H0 M H → RepM K M H → stab M → i < xs.length → J.yld i H x H' → ∃ d, xs[i]? = some d ∧ Rep K H' d x ∧ Fr M H M H' ∧ RepM K M H'
def LI (K : PySem.W.Frag) (B : Bs) (t : DI) : TI := fun σ H R => ∃ σd M Rd, At K B H σd M σ ∧ t σd M Rd ∧ ∀ xs stab M' J H', Fr M H M' H' → RepM K M' H' → ItOk K M' H' J xs stab → Rd xs stab M' → R J H'
def LGw (K : PySem.W.Frag) (B : Bs) (ws : List Nat) (t : DG) : TG := fun v σ H Q => ∃ d σd M Qd, Rep K H d v ∧ At K B H σd M σ ∧ t d σd M Qd ∧ ∀ σd' M' σ' H', Same ws σ σ' → Fr M H M' H' → RepS K H' σd' σ' → RepM K M' H' → Qd σd' M' → Q σ' H'
def LGsw (K : PySem.W.Frag) (B : Bs) (ws : List Nat) (t : DGs) : TGs := fun vs σ H Q => ∃ ds σd M Qd, RepL K H ds vs ∧ At K B H σd M σ ∧ t ds σd M Qd ∧ ∀ σd' M' σ' H', Same ws σ σ' → Fr M H M' H' → RepS K H' σd' σ' → RepM K M' H' → Qd σd' M' → Q σ' H'

section
variable {X : Cx} {B : Bs} {pos : Pos}
theorem le_tv {v : V} {d : D} {e : Expr} (h : PE X e (tC v)) (r : ∀ H, Rep X.K H d v) : PE X e (LE X.K B fun _ M Q => Q d M) :=
  h.imp fun σ H Q ⟨σd, M, Qd, a, q, k⟩ => k d M v H .refl (r H) a.m q
theorem le_var {i : Nat} {x : Str} (h : PE X (.Name x pos) (tVar i)) : PE X (.Name x pos) (LE X.K B fun σ M Q => ∃ d, σ[i]? = some (some d) ∧ Q d M) :=
  h.imp fun σ H Q ⟨σd, M, Qd, a, ⟨d, e, q⟩, k⟩ => by
    obtain ⟨v, e1, r⟩ := a.s.get e
    exact ⟨v, e1, k d M v H .refl r a.m q⟩
theorem LE.seq {K : PySem.W.Frag} {ta : DE} {σ : SV} {H : Hp} {σd : DSt} {M : MM} {Qd : DV} {Q : VK} (a : At K B H σd M σ) (t : ta σd M Qd) (k : ∀ d M' v H', Fr M H M' H' → At K B H' σd M' σ → Rep K H' d v → Qd d M' → Q v H') : LE K B ta σ H Q :=
  ⟨σd, M, Qd, a, t, fun d M' v H' f r m q => k d M' v H' f (a.go f m) r q⟩
theorem le_bin {o : Operator} {fz : Bool} {a b : Expr} {ta tb : DE} (ha : PE X a (LE X.K B ta)) (hb : PE X b (LE X.K B tb)) :
    PE X (.BinOp a o b pos) (LE X.K B fun σ M Q => ta σ M fun x M1 => tb σ M1 fun y M2 => rdBin o fz x y M2 Q) :=
  (pe_op (opr_of (d_bin o fz)) ha hb).imp fun σ H Q ⟨σd, M, Qd, a, t, k⟩ => LE.seq a t fun d1 M1 v1 H1 f1 a1 r1 q1 => LE.seq a1 q1 fun d2 M2 v2 H2 f2 a2 r2 q2 =>
    ⟨d1, d2, M2, Qd, a1.rep f2 r1, r2, a2.m, q2, fun d3 M3 v3 H3 f3 r3 m3 q3 => k d3 M3 v3 H3 ((f1.trans f2).trans f3) r3 m3 q3⟩
theorem le_cmp {o : CmpOp} {a b : Expr} {ta tb : DE} (hu : X.A.units + 65 < cLine) (ha : PE X a (LE X.K B ta)) (hb : PE X b (LE X.K B tb)) (hm : behindInMarks o b = false) :
    PE X (.Compare a [o] [b] pos) (LE X.K B fun σ M Q => ta σ M fun x M1 => tb σ M1 fun y M2 => rdCmp o x y M2 fun c M3 => Q (.bl c) M3) :=
  (pe_cmpR (opr_of (d_cmp o hu)) ha hb hm).imp fun σ H Q ⟨σd, M, Qd, a, t, k⟩ => LE.seq a t fun d1 M1 v1 H1 f1 a1 r1 q1 => LE.seq a1 q1 fun d2 M2 v2 H2 f2 a2 r2 q2 =>
    ⟨d1, d2, M2, Qd, a1.rep f2 r1, r2, a2.m, q2, fun d3 M3 v3 H3 f3 r3 m3 q3 => k d3 M3 v3 H3 ((f1.trans f2).trans f3) r3 m3 q3⟩
/-- a value that is a bool, as a test -/
theorem lt_val {e : Expr} {t : DT} (h : PE X e (LE X.K B fun σ M Q => t σ M fun b M' => Q (.bl b) M')) (he : ∀ whole, isTrue e X.env whole = (do let v ← whole; standAt e.pos; holding [v] (truthy v))) : PT X e (LT X.K B t) := by
  refine ⟨fun pins s σ H Q I ⟨σd, M, Qd, a, ht, k⟩ => ?_⟩
  refine (pt_val h he).run pins s σ H Q I ?_
  refine ⟨σd, M, fun d M' => ∃ b, d = .bl b ∧ Qd b M', a, ?_, fun d M' v H' f r m ⟨b, e, q⟩ => ⟨b, by rw [e] at r; exact rep_bl r, k b M' H' f m q⟩⟩
  have e : (fun b M' => ∃ b', D.bl b = .bl b' ∧ Qd b' M') = Qd := by funext b M'; exact propext ⟨fun ⟨b', e, q⟩ => by cases e; exact q, fun q => ⟨b, rfl, q⟩⟩
  show t σd M (fun b M' => ∃ b', D.bl b = .bl b' ∧ Qd b' M')
  rw [e]
  exact ht
/-- from the value's own wish -/
theorem lt_valE {e : Expr} {t : DE} (h : PE X e (LE X.K B t)) (he : ∀ whole, isTrue e X.env whole = (do let v ← whole; standAt e.pos; holding [v] (truthy v))) : PT X e (LT X.K B fun σ M Q => t σ M fun x M1 => ∃ b, x = .bl b ∧ Q b M1) := by
  refine ⟨fun pins s σ H Q I ⟨σd, M, Qd, a, t, k⟩ => ?_⟩
  exact (pt_val h he).run pins s σ H Q I ⟨σd, M, _, a, t, fun d M' v H' f r m ⟨b, e, q⟩ => ⟨b, by rw [e] at r; exact rep_bl r, k b M' H' f m q⟩⟩
theorem lv_valE {e : Expr} {t : DE} (h : PE X e (LE X.K B t)) : PE X e (LE X.K B fun σ M Q => t σ M fun x M1 => ∃ b, x = .bl b ∧ Q (.bl b) M1) :=
  h.imp fun σ H Q ⟨σd, M, Qd, a, t, k⟩ => ⟨σd, M, _, a, t, fun d M' v H' f r m ⟨b, e, q⟩ => k d M' v H' f r m (by rw [e]; exact q)⟩
theorem lt_tru {e : Expr} {t : DE} (h : PE X e (LE X.K B t)) (he : ∀ whole, isTrue e X.env whole = (do let v ← whole; standAt e.pos; holding [v] (truthy v))) : PT X e (LT X.K B fun σ M Q => t σ M fun x M1 => (∀ z, x = .str z → z.length ≤ sizeLine) ∧ ∃ b, truD M1 x = some b ∧ Q b M1) := by
  refine ⟨fun pins s σ H Q I ⟨σd, M, Qd, a, t, k⟩ => ?_⟩
  exact (pt_truth h he).run pins s σ H Q I ⟨σd, M, _, a, t, fun d M' v H' f r m ⟨hz, b, e, q⟩ => ⟨b, truD_rep e r m hz, k b M' H' f m q⟩⟩
theorem lt_cmp {o : CmpOp} {a b : Expr} {ta tb : DE} (hu : X.A.units + 65 < cLine) (ha : PE X a (LE X.K B ta)) (hb : PE X b (LE X.K B tb)) (hm : behindInMarks o b = false) :
    PT X (.Compare a [o] [b] pos) (LT X.K B fun σ M Q => ta σ M fun x M1 => tb σ M1 fun y M2 => rdCmp o x y M2 Q) := by
  have h := pt_cmpR (pos := pos) (opr_of (d_cmp o hu)) ha hb hm
  refine h.imp fun σ H Q ⟨σd, M, Qd, a, t, k⟩ => LE.seq a t fun d1 M1 v1 H1 f1 a1 r1 q1 => LE.seq a1 q1 fun d2 M2 v2 H2 f2 a2 r2 q2 => ?_
  refine ⟨d1, d2, M2, fun d M' => ∃ b, d = .bl b ∧ Qd b M', a1.rep f2 r1, r2, a2.m, ?_, fun d3 M3 v3 H3 f3 r3 m3 ⟨b, e, q3⟩ => ⟨b, by rw [e] at r3; exact rep_bl r3, k b M3 H3 ((f1.trans f2).trans f3) m3 q3⟩⟩
  have e : (fun b M' => ∃ b', D.bl b = .bl b' ∧ Qd b' M') = Qd := by funext b M'; exact propext ⟨fun ⟨b', e, q⟩ => by cases e; exact q, fun q => ⟨b, rfl, q⟩⟩
  show rdCmp o d1 d2 M2 (fun b M' => ∃ b', D.bl b = .bl b' ∧ Qd b' M')
  rw [e]
  exact q2
def chD (o o' : CmpOp) (ta tb tc : DE) : DT := fun σ M Q => ta σ M fun x M1 => tb σ M1 fun y M2 => rdCmp o x y M2 fun k M3 => Bif k (tc σ M3 fun z M4 => rdCmp o' y z M4 Q) (Q false M3)
theorem le_chain {o o' : CmpOp} {a b c : Expr} {ta tb tc : DE} (hu : X.A.units + 65 < cLine) (ha : PE X a (LE X.K B ta)) (hb : PE X b (LE X.K B tb)) (hc : PE X c (LE X.K B tc)) (hm : lastMarks [o, o'] [b, c] = false) :
    PE X (.Compare a [o, o'] [b, c] pos) (LE X.K B fun σ M Q => chD o o' ta tb tc σ M fun b M' => Q (.bl b) M') :=
  (pe_chain (opr_of (d_cmp o hu)) (opr_of (d_cmp o' hu)) ha hb hc hm).imp fun σ H Q ⟨σd, M, Qd, a, t, k⟩ => LE.seq a t fun d1 M1 v1 H1 f1 a1 r1 q1 => LE.seq a1 q1 fun d2 M2 v2 H2 f2 a2 r2 q2 =>
    ⟨d1, d2, M2, fun d M' => ∃ b, d = .bl b ∧ Bif b (tc σd M' fun z M4 => rdCmp o' d2 z M4 fun b M' => Qd (.bl b) M') (Qd (.bl false) M'), a1.rep f2 r1, r2, a2.m, by
      have e : (fun b M' => ∃ b', D.bl b = .bl b' ∧ Bif b' (tc σd M' fun z M4 => rdCmp o' d2 z M4 fun b M' => Qd (.bl b) M') (Qd (.bl false) M')) = fun k M3 => Bif k (tc σd M3 fun z M4 => rdCmp o' d2 z M4 fun b M' => Qd (.bl b) M') (Qd (.bl false) M3) := by
        funext b M'; exact propext ⟨fun ⟨b', e, q⟩ => by cases e; exact q, fun q => ⟨b, rfl, q⟩⟩
      show rdCmp o d1 d2 M2 _
      rw [e]
      exact q2, fun d3 M3 v3 H3 f3 r3 m3 ⟨b, e, q3⟩ => by
      subst e
      refine ⟨b, rep_bl r3, ?_⟩
      cases b with
      | false => exact k (.bl false) M3 _ H3 ((f1.trans f2).trans f3) (mk_bl false) m3 (q3.2 rfl)
      | true =>
        rw [if_pos rfl]
        exact LE.seq (a2.go f3 m3) (q3.1 rfl) fun d4 M4 v4 H4 f4 a4 r4 q4 => ⟨d2, d4, M4, Qd, (a2.go f3 m3).rep f4 (a2.rep f3 r2), r4, a4.m, q4, fun d5 M5 v5 H5 f5 r5 m5 q5 => k d5 M5 v5 H5 ((((f1.trans f2).trans f3).trans f4).trans f5) r5 m5 q5⟩⟩
theorem lt_chain {o o' : CmpOp} {a b c : Expr} {ta tb tc : DE} (hu : X.A.units + 65 < cLine) (ha : PE X a (LE X.K B ta)) (hb : PE X b (LE X.K B tb)) (hc : PE X c (LE X.K B tc)) (hm : lastMarks [o, o'] [b, c] = false) :
    PT X (.Compare a [o, o'] [b, c] pos) (LT X.K B (chD o o' ta tb tc)) := by
  have h := pt_chain (pos := pos) (opr_of (d_cmp o hu)) (opr_of (d_cmp o' hu)) ha hb hc hm
  refine ⟨fun pins s σ H Q I ⟨σd, M, Qd, a, t, k⟩ => h.run pins s σ H Q I ?_⟩
  refine LE.seq a t fun d1 M1 v1 H1 f1 a1 r1 q1 => LE.seq a1 q1 fun d2 M2 v2 H2 f2 a2 r2 q2 => ?_
  refine ⟨d1, d2, M2, fun d M' => ∃ b, d = .bl b ∧ Bif b (tc σd M' fun z M4 => rdCmp o' d2 z M4 Qd) (Qd false M'), a1.rep f2 r1, r2, a2.m, ?_, fun d3 M3 v3 H3 f3 r3 m3 ⟨b, e, q3⟩ => ?_⟩
  · have e : (fun b M' => ∃ b', D.bl b = .bl b' ∧ Bif b' (tc σd M' fun z M4 => rdCmp o' d2 z M4 Qd) (Qd false M')) = fun k M3 => Bif k (tc σd M3 fun z M4 => rdCmp o' d2 z M4 Qd) (Qd false M3) := by
      funext b M'; exact propext ⟨fun ⟨b', e, q⟩ => by cases e; exact q, fun q => ⟨b, rfl, q⟩⟩
    show rdCmp o d1 d2 M2 _
    rw [e]
    exact q2
  · subst e
    refine ⟨b, rep_bl r3, ?_⟩
    cases b with
    | false => exact ⟨false, rfl, k false M3 H3 ((f1.trans f2).trans f3) m3 (q3.2 rfl)⟩
    | true =>
      rw [if_pos rfl]
      refine LE.seq (a2.go f3 m3) (q3.1 rfl) fun d4 M4 v4 H4 f4 a4 r4 q4 => ?_
      refine ⟨d2, d4, M4, fun d M' => ∃ b, d = .bl b ∧ Qd b M', (a2.go f3 m3).rep f4 (a2.rep f3 r2), r4, a4.m, ?_, fun d5 M5 v5 H5 f5 r5 m5 ⟨b, e, q5⟩ => ⟨b, by rw [e] at r5; exact rep_bl r5, k b M5 H5 ((((f1.trans f2).trans f3).trans f4).trans f5) m5 q5⟩⟩
      have e : (fun b M' => ∃ b', D.bl b = .bl b' ∧ Qd b' M') = Qd := by funext b M'; exact propext ⟨fun ⟨b', e, q⟩ => by cases e; exact q, fun q => ⟨b, rfl, q⟩⟩
      show rdCmp o' d2 d4 M4 (fun b M' => ∃ b', D.bl b = .bl b' ∧ Qd b' M')
      rw [e]
      exact q4
/-! and, or, not -/
def anD (ta tb : DT) : DT := fun σ M Q => ta σ M fun k M1 => Bif k (tb σ M1 Q) (Q false M1)
def orD (ta tb : DT) : DT := fun σ M Q => ta σ M fun k M1 => Bif k (Q true M1) (tb σ M1 Q)
theorem LT.seq {K : PySem.W.Frag} {ta : DT} {σ : SV} {H : Hp} {σd : DSt} {M : MM} {Qd : Bool → MM → Prop} {Q : Bool → Hp → Prop} (a : At K B H σd M σ) (t : ta σd M Qd) (k : ∀ b M' H', Fr M H M' H' → At K B H' σd M' σ → Qd b M' → Q b H') : LT K B ta σ H Q :=
  ⟨σd, M, Qd, a, t, fun d M' H' f m q => k d M' H' f (a.go f m) q⟩
theorem pw_pt {op : BoolOp} {es : List Expr} (h : PT X (.BoolOp op es pos) t) : PW X (.BoolOp op es pos) t := ⟨fun w pins s σ H Q I q => h.run pins s σ H Q I q⟩
theorem pt_pw {op : BoolOp} {es : List Expr} (h : PW X (.BoolOp op es pos) t) : PT X (.BoolOp op es pos) t := ⟨fun pins s σ H Q I q => h.run _ pins s σ H Q I q⟩
theorem lt_and {a b : Expr} {rest : List Expr} {ta tb : DT} (ha : PT X a (LT X.K B ta)) (hb : PW X (.BoolOp .And (b :: rest) pos) (LT X.K B tb)) : PW X (.BoolOp .And (a :: b :: rest) pos) (LT X.K B (anD ta tb)) :=
  (pw_and ha hb).imp fun σ H Q ⟨σd, M, Qd, a, t, k⟩ => LT.seq a t fun b M1 H1 f1 a1 q1 => by
    cases b with
    | true => rw [if_pos rfl]; exact LT.seq a1 (q1.1 rfl) fun b M2 H2 f2 a2 q2 => k b M2 H2 (f1.trans f2) a2.m q2
    | false => rw [if_neg Bool.false_ne_true]; exact k false M1 H1 f1 a1.m (q1.2 rfl)
theorem lt_or {a b : Expr} {rest : List Expr} {ta tb : DT} (ha : PT X a (LT X.K B ta)) (hb : PW X (.BoolOp .Or (b :: rest) pos) (LT X.K B tb)) : PW X (.BoolOp .Or (a :: b :: rest) pos) (LT X.K B (orD ta tb)) :=
  (pw_or ha hb).imp fun σ H Q ⟨σd, M, Qd, a, t, k⟩ => LT.seq a t fun b M1 H1 f1 a1 q1 => by
    cases b with
    | false => rw [if_neg Bool.false_ne_true]; exact LT.seq a1 (q1.2 rfl) fun b M2 H2 f2 a2 q2 => k b M2 H2 (f1.trans f2) a2.m q2
    | true => rw [if_pos rfl]; exact k true M1 H1 f1 a1.m (q1.1 rfl)
theorem lt_not {a : Expr} {ta : DT} (ha : PT X a (LT X.K B ta)) : PT X (.UnaryOp .Not a pos) (LT X.K B fun σ M Q => ta σ M fun k M1 => Q (!k) M1) :=
  (pt_not ha).imp fun σ H Q ⟨σd, M, Qd, a, t, k⟩ => LT.seq a t fun b M1 H1 f1 a1 q1 => k (!b) M1 H1 f1 a1.m q1
/-- as values -/
abbrev VT (t : DT) : DE := fun σ M Q => t σ M fun b M' => Q (.bl b) M'
theorem lv_seq {K : PySem.W.Frag} {ta : DT} {σ : SV} {H : Hp} {σd : DSt} {M : MM} {Qd : Bool → MM → Prop} {Q : VK} (a : At K B H σd M σ) (t : ta σd M Qd) (k : ∀ b M' H', Fr M H M' H' → At K B H' σd M' σ → Qd b M' → Q (.bl b) H') : LE K B (VT ta) σ H Q := by
  refine ⟨σd, M, fun d M' => ∃ b, d = .bl b ∧ Qd b M', a, ?_, fun d M' v H' f r m ⟨b, e, q⟩ => ?_⟩
  · have e : (fun b M' => ∃ b', D.bl b = .bl b' ∧ Qd b' M') = Qd := by funext b M'; exact propext ⟨fun ⟨b', e, q⟩ => by cases e; exact q, fun q => ⟨b, rfl, q⟩⟩
    show ta σd M (fun b M' => ∃ b', D.bl b = .bl b' ∧ Qd b' M')
    rw [e]
    exact t
  · subst e
    rw [rep_bl r]
    exact k b M' H' f (a.go f m) q
theorem lv_one {op} {a : Expr} {t : TE} (h : PE X a t) : PE X (.BoolOp op [a] pos) t := pe_one h
theorem lv_and {a b : Expr} {rest : List Expr} {ta tb : DT} (ha : PE X a (LE X.K B (VT ta))) (hb : PE X (.BoolOp .And (b :: rest) pos) (LE X.K B (VT tb))) : PE X (.BoolOp .And (a :: b :: rest) pos) (LE X.K B (VT (anD ta tb))) :=
  (pe_and ha hb).imp fun σ H Q ⟨σd, M, Qd, a, t, k⟩ => lv_seq a t fun b M1 H1 f1 a1 q1 => by
    refine ⟨b, rfl, ?_⟩
    cases b with
    | true => rw [if_pos rfl]; exact LE.seq (ta := VT tb) a1 (q1.1 rfl) fun d M2 v H2 f2 a2 r2 q2 => k d M2 v H2 (f1.trans f2) r2 a2.m q2
    | false => rw [if_neg Bool.false_ne_true]; exact k _ M1 _ H1 f1 (mk_bl false) a1.m (q1.2 rfl)
theorem lv_or {a b : Expr} {rest : List Expr} {ta tb : DT} (ha : PE X a (LE X.K B (VT ta))) (hb : PE X (.BoolOp .Or (b :: rest) pos) (LE X.K B (VT tb))) : PE X (.BoolOp .Or (a :: b :: rest) pos) (LE X.K B (VT (orD ta tb))) :=
  (pe_or ha hb).imp fun σ H Q ⟨σd, M, Qd, a, t, k⟩ => lv_seq a t fun b M1 H1 f1 a1 q1 => by
    refine ⟨b, rfl, ?_⟩
    cases b with
    | false => rw [if_neg Bool.false_ne_true]; exact LE.seq (ta := VT tb) a1 (q1.2 rfl) fun d M2 v H2 f2 a2 r2 q2 => k d M2 v H2 (f1.trans f2) r2 a2.m q2
    | true => rw [if_pos rfl]; exact k _ M1 _ H1 f1 (mk_bl true) a1.m (q1.1 rfl)
theorem lv_not {a : Expr} {ta : DT} (ha : PE X a (LE X.K B (VT ta))) : PE X (.UnaryOp .Not a pos) (LE X.K B (VT fun σ M Q => ta σ M fun k M1 => Q (!k) M1)) :=
  (pe_not ha).imp fun σ H Q ⟨σd, M, Qd, a, t, k⟩ => lv_seq a t fun b M1 H1 f1 a1 q1 => ⟨b, rfl, k _ M1 _ H1 f1 (mk_bl _) a1.m q1⟩
theorem le_ifx {c a b : Expr} {tc : DT} {ta tb : DE} (hc : PT X c (LT X.K B tc)) (ha : PE X a (LE X.K B ta)) (hb : PE X b (LE X.K B tb)) : PE X (.IfExp c a b pos) (LE X.K B fun σ M Q => tc σ M fun k M1 => Bif k (ta σ M1 Q) (tb σ M1 Q)) :=
  (pe_ifExp hc ha hb).imp fun σ H Q ⟨σd, M, Qd, a, t, k⟩ => LT.seq a t fun b M1 H1 f1 a1 q1 => by
    cases b with
    | true => rw [if_pos rfl]; exact LE.seq a1 (q1.1 rfl) fun d M2 v H2 f2 a2 r2 q2 => k d M2 v H2 (f1.trans f2) r2 a2.m q2
    | false => rw [if_neg Bool.false_ne_true]; exact LE.seq a1 (q1.2 rfl) fun d M2 v H2 f2 a2 r2 q2 => k d M2 v H2 (f1.trans f2) r2 a2.m q2
theorem le_neg {a : Expr} {ta : DE} (ha : PE X a (LE X.K B ta)) : PE X (.UnaryOp .USub a pos) (LE X.K B fun σ M Q => ta σ M fun x M1 => ∃ i, x = .int i ∧ Q (.int (-i)) M1) :=
  (pe_un un_neg ha).imp fun σ H Q ⟨σd, M, Qd, a, t, k⟩ => LE.seq a t fun d M1 v H1 f1 a1 r1 ⟨i, e, q⟩ => ⟨i, by rw [e] at r1; exact rep_int r1, k _ M1 _ H1 f1 (mk_int _) a1.m q⟩
/-! ### arguments, displays -/
theorem la_nil : PA X [] (LA X.K B fun _ M Q => Q [] M) := pa_nil.imp fun σ H Q ⟨σd, M, Qd, a, t, k⟩ => k [] M [] H .refl .nil a.m t
theorem la_cons {e : Expr} {es : List Expr} {te : DE} {t : DA} (ha : PE X e (LE X.K B te)) (hr : PA X es (LA X.K B t)) (hs : starEach (e :: es) X.env = (false, eval e X.env) :: starEach es X.env) : PA X (e :: es) (LA X.K B fun σ M Q => te σ M fun x M1 => t σ M1 fun xs M2 => Q (x :: xs) M2) :=
  (pa_cons ha hr hs).imp fun σ H Q ⟨σd, M, Qd, a, t, k⟩ => LE.seq a t fun d1 M1 v1 H1 f1 a1 r1 q1 =>
    ⟨σd, M1, _, a1, q1, fun ds M2 vs H2 f2 r2 m2 q2 => k (d1 :: ds) M2 (v1 :: vs) H2 (f1.trans f2) (.cons (a1.rep f2 r1) r2) m2 q2⟩
theorem la_run {es : List Expr} {t : DA} (h : PA X es (LA X.K B t)) {pins : List (Addr × Obj)} {s : Shared} {σ : SV} {H : Hp} {σd : DSt} {M : MM} {Qd : List D → MM → Prop} (I : Inv X pins σ H s) (a : At X.K B H σd M σ) (ht : t σd M Qd) (pos : Pos) :
    wpAny (model X.prog X.w) X.A (spliced (backTo pos (starEach es X.env))) (fun us s' => ∃ ds M' vs H', Inv X pins σ H' s' ∧ Vals vs us ∧ Fr M H M' H' ∧ RepL X.K H' ds vs ∧ RepM X.K M' H' ∧ Qd ds M') X.xe s :=
  thn (h.run pos pins s σ H (fun vs H' => ∃ ds M', Fr M H M' H' ∧ RepL X.K H' ds vs ∧ RepM X.K M' H' ∧ Qd ds M') I ⟨σd, M, Qd, a, ht, fun ds M' vs H' f r m q => ⟨ds, M', f, r, m, q⟩⟩) fun us s' ⟨vs, H', I', r, ds, M', f, rr, m, q⟩ => ⟨ds, M', vs, H', I', r, f, rr, m, q⟩
theorem EPD.pre {pins : List (Addr × Obj)} {σ : SV} {M M1 : MM} {H H1 : Hp} {Qd : DV} {u : Value} {s' : Shared} (f1 : Fr M H M1 H1) (h : EPD X pins σ M1 H1 Qd u s') : EPD X pins σ M H Qd u s' := by
  obtain ⟨d, M', v, H', i, r, f, rr, mm, qq⟩ := h
  exact ⟨d, M', v, H', i, r, f1.trans f, rr, mm, qq⟩
theorem le_tup {es : List Expr} {t : DA} {x1} (h : PA X es (LA X.K B t)) : PE X (.Tuple es x1 pos) (LE X.K B fun σ M Q => t σ M fun ds M1 => ds.length ≤ sizeLine ∧ Q (.tup ds) M1) := by
  refine pe_of fun pins s σ H σd M Qd I a ht => ?_
  refine wpAny_Tuple_spliced (thn (la_run h I a ht pos) fun us s1 ⟨ds, M1, vs, H1, I1, rv, f1, rl, m1, hz, q⟩ => ⟨by rw [← rv.length, ← rl.length]; exact hz, ?_⟩)
  exact EPD.pre f1 (fin_newT (h' := s1.heap) I1 m1 rl rv (by rw [← rl.length]; exact hz) q)
theorem le_lst {fz : Bool} {es : List Expr} {t : DA} (h : PA X es (LA X.K B t)) : PE X (.List es pos) (LE X.K B fun σ M Q => t σ M fun ds M1 => ds.length ≤ sizeLine ∧ newL fz ds M1 Q) := by
  refine pe_of fun pins s σ H σd M Qd I a ht => ?_
  refine wpAny_List_spliced (thn (la_run h I a ht pos) fun us s1 ⟨ds, M1, vs, H1, I1, rv, f1, rl, m1, hz, q⟩ => ⟨by rw [← rv.length, ← rl.length]; exact hz, ?_⟩)
  exact EPD.pre f1 (fin_newL (I1.lnew (t' := s1.toks) rv (by rw [← rl.length]; exact hz)) I1.fresh m1 rl q)
/-- a new dict has been laid at p -/
theorem fin_newD {pins : List (Addr × Obj)} {s' : Shared} {σ : SV} {H : Hp} {M : MM} {Qd : DV} {fz : Bool} {ks : List Key} {ds : List D} {vs : List V} {p : Addr} (I : Inv X pins σ (upd H p (.dK (ks.zip vs))) s') (hp : H p = none) (m : RepM X.K M H) (hl : ks.length = vs.length) (r : RepL X.K H ds vs) (q : newD fz ks ds M Qd) : EPD X pins σ M H Qd (.ref p) s' := by
  have k : KeepF H (upd H p (.dK (ks.zip vs))) := .new hp
  cases fz with
  | false => exact ⟨.ref p, up M p (.dct ks ds), .ref p, _, I, rfl, .new hp, mk_ref p, m.new hp ⟨vs, upd_same, hl, r.keep k⟩, q p (m.free hp)⟩
  | true =>
    obtain ⟨o, I'⟩ := freeze I upd_same (fun _ _ _ z => nomatch z) trivial
    rw [upd_upd] at I'
    exact ⟨.dct ks ds, M, .ref p, _, I', rfl, .hid hp, mk_dct upd_same hl (r.keep (.new hp)), m.hid hp, q⟩
theorem le_dct0 {fz : Bool} : PE X (.Dict [] [] pos) (LE X.K B fun σ M Q => newD fz [] [] M Q) := by
  refine pe_of fun pins s σ H σd M Qd I a ht => ?_
  refine thn (pe_dnewK.run pins s σ H (fun v H' => ∃ p, v = .ref p ∧ H p = none ∧ H' = upd H p (.dK [])) I fun p hp => ⟨p, rfl, hp, rfl⟩) fun u s' ⟨v, H', I', rv, p, ev, hp, eH⟩ => ?_
  subst ev eH
  cases rv
  exact fin_newD (ks := []) (vs := []) I' hp a.m rfl .nil ht
/-! ### subscripts, slices, calls of built-ins -/
theorem le_ix {a b : Expr} {ta tb : DE} (hu : X.A.units + 65 < cLine) (ha : PE X a (LE X.K B ta)) (hb : PE X b (LE X.K B tb)) (hs : PlainIx b) : PE X (.Subscript a b pos) (LE X.K B fun σ M Q => ta σ M fun x M1 => tb σ M1 fun y M2 => rdIx x y M2 Q) :=
  (pe_ix (ixr_of (d_ix hu)) ha hb hs).imp fun σ H Q ⟨σd, M, Qd, a, t, k⟩ => LE.seq a t fun d1 M1 v1 H1 f1 a1 r1 q1 => LE.seq a1 q1 fun d2 M2 v2 H2 f2 a2 r2 q2 =>
    ⟨d1, d2, M2, Qd, a1.rep f2 r1, r2, a2.m, q2, fun d3 M3 v3 H3 f3 r3 m3 q3 => k d3 M3 v3 H3 ((f1.trans f2).trans f3) r3 m3 q3⟩
abbrev DO1 := DSt → MM → (Option Int → MM → Prop) → Prop
def LO (K : PySem.W.Frag) (B : Bs) (t : DO1) : TO := fun σ H Q => ∃ σd M Qd, At K B H σd M σ ∧ t σd M Qd ∧ ∀ o M' H', Fr M H M' H' → RepM K M' H' → Qd o M' → Q o H'
theorem lo_no : PO X none (LO X.K B fun _ M Q => Q none M) := ⟨fun pins s σ H Q I ⟨σd, M, Qd, a, t, k⟩ => po_none.run pins s σ H Q I (k none M H .refl a.m t)⟩
theorem lo_yes {e : Expr} {te : DE} (h : PE X e (LE X.K B te)) : PO X (some e) (LO X.K B fun σ M Q => te σ M fun x M1 => ∃ i, x = .int i ∧ Q (some i) M1) :=
  ⟨fun pins s σ H Q I ⟨σd, M, Qd, a, t, k⟩ => (po_some h).run pins s σ H Q I (LE.seq a t fun d M1 v H1 f1 a1 r1 ⟨i, e, q⟩ => ⟨i, by rw [e] at r1; exact rep_int r1, k (some i) M1 H1 f1 a1.m q⟩)⟩
theorem LO.seq {K : PySem.W.Frag} {ta : DO1} {σ : SV} {H : Hp} {σd : DSt} {M : MM} {Qd : Option Int → MM → Prop} {Q : Option Int → Hp → Prop} (a : At K B H σd M σ) (t : ta σd M Qd) (k : ∀ o M' H', Fr M H M' H' → At K B H' σd M' σ → Qd o M' → Q o H') : LO K B ta σ H Q :=
  ⟨σd, M, Qd, a, t, fun o M' H' f m q => k o M' H' f (a.go f m) q⟩
theorem le_slc {fz : Bool} {e : Expr} {lo hi : Option Expr} {te : DE} {tl th : DO1} {p2 : Pos} (he : PE X e (LE X.K B te)) (hl : PO X lo (LO X.K B tl)) (hh : PO X hi (LO X.K B th)) :
    PE X (.Subscript e (.Slice lo hi none p2) pos) (LE X.K B fun σ M Q => te σ M fun x M1 => tl σ M1 fun i M2 => th σ M2 fun j M3 => rdSl fz x i j M3 Q) :=
  (pe_slice (slr_of (d_sl (fz := fz))) he hl hh).imp fun σ H Q ⟨σd, M, Qd, a, t, k⟩ => LE.seq a t fun d1 M1 v1 H1 f1 a1 r1 q1 => LO.seq a1 q1 fun i M2 H2 f2 a2 q2 => LO.seq a2 q2 fun j M3 H3 f3 a3 q3 =>
    ⟨d1, M3, Qd, a2.rep f3 (a1.rep f2 r1), a3.m, q3, fun d4 M4 v4 H4 f4 r4 m4 q4 => k d4 M4 v4 H4 (((f1.trans f2).trans f3).trans f4) r4 m4 q4⟩
theorem le_callB {id : String} {x : Str} {es : List Expr} {e : Expr} {t : DA} {rd : RDF} {p : Pos} (hc : CallD X (.builtin id) rd) (hg : Gl X x) (hm : X.mg x = none) (hv : bootBuiltins x = some (.builtin id)) (ha : PA X (e :: es) (LA X.K B t)) (hn : x ≠ "__name__") (hdb : (x == ("__debug__" : Str)) = false)
    (he : starEach (e :: es) X.env = (false, eval e X.env) :: starEach es X.env) (hpl : (backTo pos (starEach es X.env)).any (·.1) = false) : PE X (.Call (.Name x p) (e :: es) [] pos) (LE X.K B fun σ M Q => t σ M fun ds M1 => rd ds M1 Q) :=
  (pe_callB (cr_of hc) hg hm hv ha hn hdb he hpl).imp fun σ H Q ⟨σd, M, Qd, a, t, k⟩ => ⟨σd, M, _, a, t, fun ds M1 vs H1 f1 r1 m1 q1 => ⟨ds, M1, Qd, r1, m1, q1, fun d M2 v H2 f2 r2 m2 q2 => k d M2 v H2 (f1.trans f2) r2 m2 q2⟩⟩
theorem le_callTy {T : String} {x : Str} {es : List Expr} {e : Expr} {t : DA} {rd : RDF} {p : Pos} (hc : CallD X (.type T) rd) (hg : Gl X x) (hm : X.mg x = none) (hv : bootBuiltins x = some (.type T)) (ha : PA X (e :: es) (LA X.K B t)) (hn : x ≠ "__name__") (hdb : (x == ("__debug__" : Str)) = false)
    (he : starEach (e :: es) X.env = (false, eval e X.env) :: starEach es X.env) (hpl : (backTo pos (starEach es X.env)).any (·.1) = false) : PE X (.Call (.Name x p) (e :: es) [] pos) (LE X.K B fun σ M Q => t σ M fun ds M1 => rd ds M1 Q) :=
  (pe_callTy (cr_of hc) hg hm hv ha hn hdb he hpl).imp fun σ H Q ⟨σd, M, Qd, a, t, k⟩ => ⟨σd, M, _, a, t, fun ds M1 vs H1 f1 r1 m1 q1 => ⟨ds, M1, Qd, r1, m1, q1, fun d M2 v H2 f2 r2 m2 q2 => k d M2 v H2 (f1.trans f2) r2 m2 q2⟩⟩
def LRm (K : PySem.W.Frag) (rd : RDM) : V → List V → Hp → VK → Prop := fun x xs H Q => ∃ dx ds M Qd, Rep K H dx x ∧ RepL K H ds xs ∧ RepM K M H ∧ rd dx ds M Qd ∧ ∀ d M' v H', Fr M H M' H' → Rep K H' d v → RepM K M' H' → Qd d M' → Q v H'
theorem mr_of {id : String} {rd : RDM} (h : MtD X id rd) : MtR X id (LRm X.K rd) := by
  intro pins s σ H x xs v us Q I rx rxs ⟨dx, ds, M, Qd, h1, h2, m, r, q⟩
  exact thn (h pins s σ H x xs v us dx ds M Qd I rx rxs h1 h2 m r) fun u s' e => e.ep q
theorem le_bm {T id : String} {name : Str} {o e : Expr} {es : List Expr} {to : DE} {t : DA} {rd : RDM} {rcv : D → MM → Prop} {apos : Pos} (pa : PlainAttrs T) (slot : Slot T name id) (hty : typeOf (.builtin id) = pure (.type "method_descriptor")) (hm : MtD X id rd)
    (hr : ∀ d M H v, rcv d M → Rep X.K H d v → RepM X.K M H → tyV X.K T v H) (ho : PE X o (LE X.K B to)) (ha : PA X (e :: es) (LA X.K B t)) (hbase : attributeBase o name X.env (eval o X.env) = eval o X.env)
    (hfew : ((backTo pos (starEach (e :: es) X.env)).all (fun x => !x.1) && (backToKw pos (keywordEach [] X.env)).all (fun x => x.1.isSome) && decide ((e :: es).length + ([] : List Keyword).length + (if ([] : List Keyword).isEmpty then 0 else 1) < 30)) = true)
    (hline : (apos.endLine == pos.line) = true) (hs : starEach (e :: es) X.env = (false, eval e X.env) :: starEach es X.env) (hplain : (backTo pos (starEach es X.env)).any (·.1) = false) :
    PE X (.Call (.Attribute o name apos) (e :: es) [] pos) (LE X.K B fun σ M Q => to σ M fun x M1 => rcv x M1 ∧ t σ M1 fun ds M2 => rd x ds M2 Q) :=
  (pe_bm pa slot hty (mr_of hm) ho ha hbase hfew hline hs hplain).imp fun σ H Q ⟨σd, M, Qd, a, t, k⟩ => LE.seq a t fun d1 M1 v1 H1 f1 a1 r1 ⟨rc, q1⟩ => ⟨hr _ _ _ _ rc r1 a1.m,
    ⟨σd, M1, _, a1, q1, fun ds M2 vs H2 f2 r2 m2 q2 => ⟨d1, ds, M2, Qd, a1.rep f2 r1, r2, m2, q2, fun d M3 v H3 f3 r3 m3 q3 => k d M3 v H3 ((f1.trans f2).trans f3) r3 m3 q3⟩⟩⟩
theorem le_bm0 {T id : String} {name : Str} {o : Expr} {to : DE} {rd : RDM} {rcv : D → MM → Prop} {apos : Pos} (pa : PlainAttrs T) (slot : Slot T name id) (hty : typeOf (.builtin id) = pure (.type "method_descriptor")) (hm : MtD X id rd)
    (hr : ∀ d M H v, rcv d M → Rep X.K H d v → RepM X.K M H → tyV X.K T v H) (ho : PE X o (LE X.K B to)) (hbase : attributeBase o name X.env (eval o X.env) = eval o X.env) (hline : (apos.endLine == pos.line) = true) :
    PE X (.Call (.Attribute o name apos) [] [] pos) (LE X.K B fun σ M Q => to σ M fun x M1 => rcv x M1 ∧ rd x [] M1 Q) :=
  (pe_bm0 pa slot hty (mr_of hm) ho hbase hline).imp fun σ H Q ⟨σd, M, Qd, a, t, k⟩ => LE.seq a t fun d1 M1 v1 H1 f1 a1 r1 ⟨rc, q1⟩ => ⟨hr _ _ _ _ rc r1 a1.m,
    ⟨d1, [], M1, Qd, r1, .nil, a1.m, q1, fun d M3 v H3 f3 r3 m3 q3 => k d M3 v H3 (f1.trans f3) r3 m3 q3⟩⟩
/-! ### fields -/
theorem lookup_zip {f : Str} : ∀ {ks : List Str} {ds : List D} {vs : List V} {H : Hp}, ks.length = vs.length → RepL X.K H ds vs → (match getFD ks ds f with
    | some d => ∃ v, (ks.zip vs).lookup f = some v ∧ Rep X.K H d v
    | none => (ks.zip vs).lookup f = none)
  | [], ds, vs, H, _, _ => by simp [getFD]
  | k :: ks, ds, [], H, hl, _ => by simp at hl
  | k :: ks, [], v :: vs, H, hl, r => by have := r.nil_inv; cases this
  | k :: ks, d :: ds, v :: vs, H, hl, r => by
    obtain ⟨v', vs', e, r1, r2⟩ := r.cons_inv
    cases e
    have ih := lookup_zip (f := f) (ks := ks) (by simpa using hl) r2
    by_cases hk : f = k
    · subst hk
      simp only [getFD, List.zip_cons_cons, List.lookup_cons, beq_self_eq_true]
      exact ⟨v, rfl, r1⟩
    · have hb : (f == k) = false := beq_eq_false_iff_ne.mpr hk
      simp only [getFD, List.zip_cons_cons, List.lookup_cons, hb]
      exact ih
theorem le_fld {e : Expr} {f : Str} {te : DE} {fl : Str → Str → Bool} (hf : ∀ C, fl C f = true → Cls X.K (He.ga X.K C) ∧ NoAttr X.K (He.ga X.K C) f) (he : PE X e (LE X.K B te)) (hb : attributeBase e f X.env (eval e X.env) = eval e X.env) :
    PE X (.Attribute e f pos) (LE X.K B fun σ M Q => te σ M fun x M1 => ∃ p C ks vs d, x = .ref p ∧ M1 p = some (.ins C ks vs) ∧ fl C f = true ∧ getFD ks vs f = some d ∧ Q d M1) :=
  (pe_fld he hb).imp fun σ H Q ⟨σd, M, Qd, a, t, k⟩ => LE.seq a t fun d1 M1 v1 H1 f1 a1 r1 ⟨p, C, ks, ds, d, e1, e2, e3, e4, q⟩ => by
    subst e1
    obtain ⟨dx, vs, h1, hl, rl⟩ := a1.m _ _ e2
    have z := lookup_zip (X := X) (f := f) hl rl
    rw [e4] at z
    obtain ⟨v, hv, rv⟩ := z
    obtain ⟨c, n⟩ := hf C e3
    exact ⟨p, _, dx, _, v, rep_ref r1, h1, c, n, hv, k d M1 v H1 f1 rv a1.m q⟩
/-- ghost: a list is read only from here on -/
theorem le_frz {e : Expr} {te : DE} (he : PE X e (LE X.K B te)) : PE X e (LE X.K B fun σ M Q => te σ M fun x M1 => ∃ p ds, x = .ref p ∧ M1 p = some (.lst ds) ∧ Q (.lst ds) (del M1 p)) := by
  refine pe_of fun pins s σ H σd M Qd I a ht => ?_
  refine thn (RX.PE.at he I a ht) fun u s1 ⟨d, M1, v, H1, I1, rv, f1, rd, m1, p, ds, e, eM, q⟩ => ?_
  subst e
  cases (rep_ref rd)
  obtain ⟨vs, h1, rl⟩ := m1 _ _ eM
  obtain ⟨o, I2⟩ := freeze I1 h1 (fun _ _ _ z => nomatch z) trivial
  have k : KeepF H1 (upd H1 p (.frz o (.lst vs))) := .mut (m1.mut eM)
  exact ⟨.lst ds, del M1 p, .ref p, _, I2, rv, f1.trans (.cut eM), mk_lst (.inl ⟨o, upd_same⟩) (rl.keep k), m1.cut eM, q⟩
end
end RX
set_option Elab.async false
set_option linter.all false
set_option maxRecDepth 100000
set_option maxHeartbeats 4000000
/-! RX7: calls of defs, methods, classes; walks; comprehensions; statements. -/
namespace RX
open PySem PySem.Spec PyProof.Rows L2

theorem evalArgs_gen {M : Model} {A : Around} {E : Value → Shared → Prop} {s : Shared} {f : Value} {trees : List (Bool × Sem Value)} {Q : Args → Shared → Prop} (hp : trees.any (·.1) = false)
    (h : wpAny M A (spliced trees) (fun vs s' => Q ⟨vs, []⟩ s') E s) : wpAny M A (evalArgs f true trees []) Q E s := by
  match trees, hp with
  | [], _ =>
    unfold evalArgs
    show wpAny M A (spliced [] >>= _) Q E s
    refine wpAny_bind (wpAny_mono h (fun vs s' h' => ?_) fun _ _ x => x)
    refine wpAny_bind (wpAny_pure ?_)
    refine wpAny_holding ?_
    exact wpAny_bind (wpAny_pure (wpAny_bind (wpAny_pure (wpAny_pure h'))))
  | (false, x) :: rest, _ => exact Calls.evalArgs_plain h
  | (true, x) :: rest, hp => cases hp
theorem evalArgs_kwg {M : Model} {A : Around} {E : Value → Shared → Prop} {s : Shared} {f : Value} {trees : List (Bool × Sem Value)} {keywords : List (Option Str × Sem Value)} {Q : Args → Shared → Prop} (hp : trees.any (·.1) = false) (hall : keywords.all (·.1.isSome) = true)
    (h : wpAny M A (spliced trees) (fun vs s₁ => wpAny M A (evalAll (keywords.map (·.2))) (fun ks s₂ => Q ⟨vs, (keywords.filterMap (·.1)).zip ks⟩ s₂) E s₁) E s) : wpAny M A (evalArgs f true trees keywords) Q E s := by
  match trees, hp with
  | [], _ =>
    unfold evalArgs
    show wpAny M A (spliced [] >>= _) Q E s
    refine wpAny_bind (wpAny_mono h (fun vs s₁ h₁ => ?_) fun _ _ x => x)
    refine wpAny_bind (wpAny_pure ?_)
    refine wpAny_holding ?_
    simp only [hall, if_true]
    refine wpAny_bind (wpAny_mono h₁ (fun ks s₂ h₂ => ?_) fun _ _ x => x)
    exact wpAny_bind (wpAny_pure (wpAny_pure h₂))
  | (false, x) :: rest, _ => exact evalArgs_kw hall h
  | (true, x) :: rest, hp => cases hp
theorem any_back {pos : Pos} : ∀ {l : List (Bool × Sem Value)}, l.any (·.1) = false → (backTo pos l).any (·.1) = false
  | [], _ => rfl
  | (b, x) :: l, h => by
    have h1 : b = false ∧ l.any (·.1) = false := by simpa using h
    show (b || (backTo pos l).any (·.1)) = false
    rw [any_back h1.2, h1.1]; rfl
section
variable {X : Cx} {B : Bs} {pos : Pos}
/-! ### calls of defs -/
theorem bind_all {K : PySem.W.Frag} {fd : FuncData} {ps : List Str} {s : Shared} {us : List Value} (hb : Binds K fd ps []) (hk : K.In s.heap) (hl : us.length = ps.length) : BindsTo s fd ⟨us, []⟩ (ps.zip us) := by
  have := hb s us hk (by rw [List.append_nil]; exact hl)
  rw [List.append_nil] at this
  exact this
theorem le_call {k : Nat} {fa : Addr} {fd : FuncData} {ps : List Str} {g : CallT} {x : Str} {es : List Expr} {t : DA} {p : Pos} (F : FnG X.prog X.w X.K X.mg X.base k fa fd ps g) (hr : Room k X.A) (hgd : X.A.guards = some []) (hg : Gl X x) (hm : X.mg x = some (.ref fa)) (hk : PySem.W.keepIn X.K (.ref fa) = true)
    (hb : Binds X.K fd ps []) (ha : PA X es (LA X.K B t)) (hdb : (x == ("__debug__" : Str)) = false) (hst : (starEach es X.env).any (·.1) = false) :
    PE X (.Call (.Name x p) es [] pos) (LE X.K B fun σ M Q => t σ M fun ds M1 => g ds M1 Q XF) := by
  refine pe_of fun pins s σ H σd M Qd I a ht => ?_
  refine wpAny_Call_Name_kw (ld_glob I hg hm ?_ hdb)
  refine PySem.W.callWith_of (by rw [any_back hst]; rfl) (PySem.W.keeps_K hk) (evalArgs_gen (any_back hst) (thn (la_run ha I a ht pos) fun us s1 ⟨ds, M1, vs, H1, I1, rv, f1, rl, m1, q⟩ => ⟨I1.kIn, ?_⟩))
  exact thn (run_g F hr hgd I1 (bind_all hb I1.kIn (by rw [List.nil_append, ← rv.length, ← rl.length]; exact F.len _ _ _ _ q)) rv rl m1 q) fun u s' h => EPD.pre f1 h
/-- keywords -/
def LK (K : PySem.W.Frag) (B : Bs) (t : DA) : TA := LA K B t
theorem lk_nil : PK X [] (LA X.K B fun _ M Q => Q [] M) := ⟨fun pos pins s σ H Q I ⟨σd, M, Qd, a, t, k⟩ => pk_nil.run pos pins s σ H Q I (k [] M [] H .refl .nil a.m t)⟩
theorem lk_cons {e : Expr} {nm : Option Str} {kpos : Pos} {kws : List Keyword} {te : DE} {t : DA} (ha : PE X e (LE X.K B te)) (hr : PK X kws (LA X.K B t)) : PK X (⟨nm, e, kpos⟩ :: kws) (LA X.K B fun σ M Q => te σ M fun x M1 => t σ M1 fun xs M2 => Q (x :: xs) M2) :=
  ⟨fun pos pins s σ H Q I ⟨σd, M, Qd, a, ht, k⟩ => (pk_cons ha hr).run pos pins s σ H Q I (LE.seq a ht fun d1 M1 v1 H1 f1 a1 r1 q1 =>
    ⟨σd, M1, _, a1, q1, fun ds M2 vs H2 f2 r2 m2 q2 => k (d1 :: ds) M2 (v1 :: vs) H2 (f1.trans f2) (.cons (a1.rep f2 r1) r2) m2 q2⟩)⟩
theorem lk_run {kws : List Keyword} {t : DA} (h : PK X kws (LA X.K B t)) {pins : List (Addr × Obj)} {s : Shared} {σ : SV} {H : Hp} {σd : DSt} {M : MM} {Qd : List D → MM → Prop} (I : Inv X pins σ H s) (a : At X.K B H σd M σ) (ht : t σd M Qd) (pos : Pos) :
    wpAny (model X.prog X.w) X.A (evalAll ((backToKw pos (keywordEach kws X.env)).map (·.2))) (fun us s' => ∃ ds M' vs H', Inv X pins σ H' s' ∧ Vals vs us ∧ Fr M H M' H' ∧ RepL X.K H' ds vs ∧ RepM X.K M' H' ∧ Qd ds M') X.xe s :=
  thn (h.run pos pins s σ H (fun vs H' => ∃ ds M', Fr M H M' H' ∧ RepL X.K H' ds vs ∧ RepM X.K M' H' ∧ Qd ds M') I ⟨σd, M, Qd, a, ht, fun ds M' vs H' f r m q => ⟨ds, M', f, r, m, q⟩⟩) fun us s' ⟨vs, H', I', r, ds, M', f, rr, m, q⟩ => ⟨ds, M', vs, H', I', r, f, rr, m, q⟩
/-- what a call with n positional values and keywords ks binds -/
def KwB (K : PySem.W.Frag) (fd : FuncData) (ps ks : List Str) : Prop := ∀ (s : Shared) (us ws : List Value), K.In s.heap → us.length + ws.length = ps.length → ws.length = ks.length → BindsTo s fd ⟨us, ks.zip ws⟩ (ps.zip (kwArr ps us ks ws))
theorem lookup_zipV : ∀ {ks : List Str} {vs : List V} {us : List Value} (p : Str), Vals vs us → (match (ks.zip vs).lookup p with
    | some v => ∃ u, (ks.zip us).lookup p = some u ∧ RelV v u
    | none => (ks.zip us).lookup p = none)
  | [], _, _, _, _ => by simp
  | k :: ks, [], _, p, r => by cases r; simp
  | k :: ks, v :: vs, _, p, .cons (b := u) h t => by
    by_cases e : p = k
    · subst e
      simp only [List.zip_cons_cons, List.lookup_cons, beq_self_eq_true]
      exact ⟨u, rfl, h⟩
    · have hb : (p == k) = false := beq_eq_false_iff_ne.mpr e
      simp only [List.zip_cons_cons, List.lookup_cons, hb]
      exact lookup_zipV p t
theorem lookup_zipR {K : PySem.W.Frag} {H : Hp} : ∀ {ks : List Str} {ds : List D} {vs : List V} (p : Str), RepL K H ds vs → (match (ks.zip ds).lookup p with
    | some d => ∃ v, (ks.zip vs).lookup p = some v ∧ Rep K H d v
    | none => (ks.zip vs).lookup p = none)
  | [], _, _, _, _ => by simp
  | k :: ks, [], vs, p, r => by rw [r.nil_inv]; simp
  | k :: ks, d :: ds, vs, p, r => by
    obtain ⟨v, vr, rfl, h, t⟩ := r.cons_inv
    by_cases e : p = k
    · subst e
      simp only [List.zip_cons_cons, List.lookup_cons, beq_self_eq_true]
      exact ⟨v, rfl, h⟩
    · have hb : (p == k) = false := beq_eq_false_iff_ne.mpr e
      simp only [List.zip_cons_cons, List.lookup_cons, hb]
      exact lookup_zipR p t
theorem kw_vals {ps ks : List Str} {vs zs : List V} {us ws : List Value} (r : Vals vs us) (rz : Vals zs ws) : Vals (kwArr ps vs ks zs) (kwArr ps us ks ws) := by
  unfold kwArr
  rw [r.length]
  refine r.append ?_
  generalize ps.drop us.length = l
  induction l with
  | nil => exact .nil
  | cons p l ih =>
    have z := lookup_zipV (ks := ks) p rz
    rw [List.filterMap_cons, List.filterMap_cons]
    cases e : (ks.zip zs).lookup p with
    | none => rw [e] at z; rw [z]; exact ih
    | some v =>
      rw [e] at z
      obtain ⟨u, e2, ru⟩ := z
      rw [e2]
      exact .cons ru ih
theorem kw_reps {K : PySem.W.Frag} {H : Hp} {ps ks : List Str} {ds es : List D} {vs zs : List V} (r : RepL K H ds vs) (rz : RepL K H es zs) : RepL K H (kwArr ps ds ks es) (kwArr ps vs ks zs) := by
  unfold kwArr
  rw [r.length]
  refine r.append ?_
  generalize ps.drop vs.length = l
  induction l with
  | nil => exact .nil
  | cons p l ih =>
    have z := lookup_zipR (ks := ks) p rz
    rw [List.filterMap_cons, List.filterMap_cons]
    cases e : (ks.zip es).lookup p with
    | none => rw [e] at z; rw [z]; exact ih
    | some v =>
      rw [e] at z
      obtain ⟨u, e2, ru⟩ := z
      rw [e2]
      exact .cons ru ih
theorem le_callk {k : Nat} {ks : List Str} {fa : Addr} {fd : FuncData} {ps : List Str} {g : CallT} {x : Str} {es : List Expr} {kws : List Keyword} {t tk : DA} {p : Pos} (F : FnG X.prog X.w X.K X.mg X.base k fa fd ps g) (hr : Room k X.A) (hgd : X.A.guards = some []) (hg : Gl X x) (hm : X.mg x = some (.ref fa)) (hk : PySem.W.keepIn X.K (.ref fa) = true)
    (hb : KwB X.K fd ps ks) (ha : PA X es (LA X.K B t)) (hkw : PK X kws (LA X.K B tk)) (hdb : (x == ("__debug__" : Str)) = false) (hst : (starEach es X.env).any (·.1) = false)
    (hall : (backToKw pos (keywordEach kws X.env)).all (·.1.isSome) = true) (hks : (backToKw pos (keywordEach kws X.env)).filterMap (·.1) = ks) :
    PE X (.Call (.Name x p) es kws pos) (LE X.K B fun σ M Q => t σ M fun ds M1 => tk σ M1 fun es M2 => (ds.length + es.length = ps.length ∧ es.length = ks.length) ∧ g (kwArr ps ds ks es) M2 Q XF) := by
  refine pe_of fun pins s σ H σd M Qd I a ht => ?_
  refine wpAny_Call_Name_kw (ld_glob I hg hm ?_ hdb)
  have hno : (backToKw pos (keywordEach kws X.env)).any (·.1.isNone) = false := by
    cases e : (backToKw pos (keywordEach kws X.env)).any (·.1.isNone) with
    | false => rfl
    | true =>
      obtain ⟨y, hy, h1⟩ := List.any_eq_true.mp e
      have h2 := (List.all_eq_true.mp hall) y hy
      cases q : y.1 <;> simp [q] at h1 h2
  refine PySem.W.callWith_of (by rw [any_back hst, hno]; rfl) (PySem.W.keeps_K hk) (evalArgs_kwg (any_back hst) hall (thn (la_run ha I a ht pos) fun us s1 ⟨ds, M1, vs, H1, I1, rv, f1, rl, m1, q⟩ => ?_))
  refine thn (lk_run hkw I1 (a.go f1 m1) q pos) fun ws s2 ⟨es', M2, zs, H2, I2, rz, f2, rl2, m2, ⟨hl, hl2⟩, q2⟩ => ⟨I2.kIn, ?_⟩
  rw [hks]
  exact thn (run_g F hr hgd I2 (hb _ _ _ I2.kIn (by rw [List.nil_append, ← rv.length, ← rl.length, ← rz.length, ← rl2.length]; exact hl) (by rw [← rz.length, ← rl2.length]; exact hl2)) (kw_vals rv rz) (kw_reps (rl.keep (f2.keep m1)) rl2) m2 q2) fun u s' h => EPD.pre (f1.trans f2) h
/-- o.m(..) -/
theorem meth_eq {o : Expr} {m : Str} {apos : Pos} {es : List Expr} {env : Env} (hb : attributeBase o m env (eval o env) = eval o env) (hst : (starEach es env).any (·.1) = false) (hn : es.length < 30) (hl : (apos.endLine == pos.line) = true) :
    eval (.Call (.Attribute o m apos) es [] pos) env = (do
      let ov ← eval o env
      standAt apos.atName
      let (f, first) ← holding [ov] (getMethod ov m (do return (← importBound o env).getD true))
      callWith pos f first (backTo pos (starEach es env)) (backToKw pos (keywordEach [] env))) := by
  rw [arm_eval_Call, hb]
  have hf : methodCallForm (es.length + ([] : List Keyword).length) (backTo pos (starEach es env)) (backToKw pos (keywordEach [] env)) = true := by
    unfold methodCallForm
    have h1 : (backTo pos (starEach es env)).all (fun x => !x.1) = true := by
      rw [← List.not_any_eq_all_not, any_back hst]; rfl
    rw [h1]
    show (true && true && decide (es.length + 0 + 0 < 30)) = true
    simp [hn]
  unfold methodCall methodCallPos calleeOf
  simp only [hf, hl, if_true, Bool.not_true, Bool.false_or, pure_bind]
theorem le_meth {k : Nat} {g : Str → CallT} {m : Str} {o : Expr} {es : List Expr} {to : DE} {t : DA} {apos : Pos} {ok : Str → Prop}
    (W : ∀ C, ok C → ∃ fa fd ps, Cls X.K (He.ga X.K C) ∧ Meth X.K (He.ga X.K C) m fa ∧ Binds X.K fd ps [] ∧ FnG X.prog X.w X.K X.mg X.base k fa fd ps (g C)) (hr : Room k X.A) (hgd : X.A.guards = some [])
    (ho : PE X o (LE X.K B to)) (ha : PA X es (LA X.K B t)) (hbase : attributeBase o m X.env (eval o X.env) = eval o X.env) (hst : (starEach es X.env).any (·.1) = false) (hn : es.length < 30) (hl : (apos.endLine == pos.line) = true) :
    PE X (.Call (.Attribute o m apos) es [] pos) (LE X.K B fun σ M Q => to σ M fun x M1 => ∃ p C ks vs, x = .ref p ∧ M1 p = some (.ins C ks vs) ∧ m ∉ ks ∧ ok C ∧ t σ M1 fun ds M2 => g C (x :: ds) M2 Q XF) := by
  refine pe_of fun pins s σ H σd M Qd I a ht => ?_
  refine PySem.W.methodCall_KW (thn (RX.PE.at ho I a ht) fun u s1 ⟨d, M1, v, H1, I1, rv, f1, rd, m1, p, C, ks, ds, e, eM, hno, hok, q⟩ => ?_) (meth_eq hbase hst hn hl)
  subst e
  cases (rep_ref rd)
  obtain rfl : u = Value.ref p := rv
  obtain ⟨fa, fd, ps, c, hm, hb, F⟩ := W C hok
  obtain ⟨dx, vs, h1, hl1, rl1⟩ := m1 _ _ eM
  have hlk : (ks.zip vs).lookup m = none := by
    rw [List.lookup_eq_none_iff]
    intro y hy
    have z : y.1 ∈ ks := (List.of_mem_zip (a := y.1) (b := y.2) hy).1
    have ne : m ≠ y.1 := fun e => hno (by rw [e]; exact z)
    first
      | exact beq_eq_false_iff_ne.mpr ne
      | exact ne
      | simpa using ne
  refine getmeth_ok I1 h1 c hm hlk ?_
  refine PySem.W.callWith_of (by rw [any_back hst]; rfl) (PySem.W.keeps_K hm.kp) (evalArgs_gen (any_back hst) (thn (la_run ha I1 (a.go f1 m1) q pos) fun us s2 ⟨es', M2, ws, H2, I2, rw', f2, rl2, m2, q2⟩ => ⟨I2.kIn, ?_⟩))
  refine thn (run_g (us := .ref p :: us) (vs := .ref p :: ws) (ds := .ref p :: es') F hr hgd I2 (bind_all hb I2.kIn ?_) (.cons rfl rw') (.cons (mk_ref p) rl2) m2 q2) fun u s' h => EPD.pre (f1.trans f2) h
  have := F.len _ _ _ _ q2
  rw [List.length_cons] at this ⊢
  rw [← rw'.length, ← rl2.length]
  exact this
/-- C(..) -/
theorem le_make {k : Nat} {fa : Addr} {fd : FuncData} {ps : List Str} {g : CallT} {C : Str} {es : List Expr} {t : DA} {p : Pos} (F : FnG X.prog X.w X.K X.mg X.base k fa fd ps g) (hM : Mk X.K (He.ga X.K C) fa) (hr : Room (k + 1) X.A) (hgd : X.A.guards = some []) (hg : Gl X C) (hm : X.mg C = some (.ref (He.ga X.K C)))
    (hb : Binds X.K fd ps []) (ha : PA X es (LA X.K B t)) (hdb : (C == ("__debug__" : Str)) = false) (hst : (starEach es X.env).any (·.1) = false) :
    PE X (.Call (.Name C p) es [] pos) (LE X.K B fun σ M Q => t σ M fun ds M1 => (ds.length + 1 = ps.length) ∧ ∀ p, M1 p = none → g (.ref p :: ds) (up M1 p (.ins C [] [])) (fun d M2 => d = .non ∧ Q (.ref p) M2) XF) := by
  refine pe_of fun pins s σ H σd M Qd I a ht => ?_
  refine wpAny_Call_Name_kw (ld_glob I hg hm ?_ hdb)
  refine PySem.W.callWith_of (by rw [any_back hst]; rfl) (PySem.W.keeps_K hM.kp) (evalArgs_gen (any_back hst) (thn (la_run ha I a ht pos) fun us s1 ⟨ds, M1, vs, H1, I1, rv, f1, rl, m1, hl, q⟩ => ⟨I1.kIn, ?_⟩))
  exact thn (run_mk (us := us) (vs := vs) (bs := fun y => y :: us) rfl hM F hr hgd I1 (fun s' y hk => bind_all hb hk (by rw [List.length_cons, ← rv.length, ← rl.length]; exact hl)) (fun y u r => .cons r rv) rl m1 q) fun u s' h => EPD.pre f1 h
end
end RX
set_option Elab.async false
set_option linter.all false
set_option maxRecDepth 100000
set_option maxHeartbeats 4000000
/-! RX8: walks, targets, comprehensions, statements. -/
namespace RX
open PySem PySem.Spec PyProof.Rows L2

section
variable {K : PySem.W.Frag}
theorem it_vals {M0 : MM} {H0 : Hp} {xs : List D} {vs : List V} {J : It} {stab : MM → Prop} (at_ : ∀ M H, Fr M0 H0 M H → RepM K M H → stab M → ∃ vs, RepL K H xs vs ∧ (∀ i, i < vs.length → J.go i H) ∧ J.stop vs.length H ∧ ∀ i x H', J.yld i H x H' → H' = H ∧ vs[i]? = some x) : ItOk K M0 H0 J xs stab where
  go := fun i M H f m s hi => by
    obtain ⟨vs, r, h1, _⟩ := at_ M H f m s
    exact h1 i (by rw [← r.length]; exact hi)
  stop := fun M H f m s => by
    obtain ⟨vs, r, _, h2, _⟩ := at_ M H f m s
    rw [r.length]; exact h2
  yld := fun i M H x H' f m s hi y => by
    obtain ⟨vs, r, _, _, h3⟩ := at_ M H f m s
    obtain ⟨e, hv⟩ := h3 i x H' y
    subst e
    obtain ⟨d, hd, rd⟩ := r.getV hv
    exact ⟨d, hd, rd, .refl, m⟩
theorem it_list {M0 : MM} {H0 : Hp} {xs : List D} {a : Addr} {stab : MM → Prop} (h : ∀ M H, Fr M0 H0 M H → RepM K M H → stab M → ∃ vs, RepL K H xs vs ∧ SqL K H a vs) : ItOk K M0 H0 (Itl K a) xs stab :=
  it_vals (vs := []) fun M H f m s => by
    obtain ⟨vs, r, hs⟩ := h M H f m s
    exact ⟨vs, r, fun i hi => ⟨vs, vs[i], hs, by simp [hi]⟩, ⟨vs, hs, Nat.le_refl _⟩, fun i x H' ⟨e, y⟩ => ⟨e, y vs hs⟩⟩
theorem it_tup {M0 : MM} {H0 : Hp} {xs : List D} {a : Addr} {stab : MM → Prop} (h : ∀ M H, Fr M0 H0 M H → RepM K M H → stab M → ∃ vs, RepL K H xs vs ∧ SqT K H a vs) : ItOk K M0 H0 (Itt K a) xs stab :=
  it_vals (vs := []) fun M H f m s => by
    obtain ⟨vs, r, hs⟩ := h M H f m s
    exact ⟨vs, r, fun i hi => ⟨vs, vs[i], hs, by simp [hi]⟩, ⟨vs, hs, Nat.le_refl _⟩, fun i x H' ⟨e, y⟩ => ⟨e, y vs hs⟩⟩
theorem rngD_get : ∀ (n : Nat) (lo : Int) (i : Nat), i < n → (rngD lo n)[i]? = some (.int (lo + i))
  | n + 1, lo, 0, _ => by simp [rngD]
  | n + 1, lo, i + 1, h => by
    simp only [rngD, List.getElem?_cons_succ]
    rw [rngD_get n (lo + 1) i (by omega)]
    congr 2
    omega
theorem rngD_len : ∀ (n : Nat) (lo : Int), (rngD lo n).length = n
  | 0, _ => rfl
  | n + 1, lo => by rw [rngD, List.length_cons, rngD_len n]
theorem it_rng {M0 : MM} {H0 : Hp} {lo : Int} {n : Nat} : ItOk K M0 H0 (Itr lo n) (rngD lo n) fun _ => True where
  go := fun i M H f m s hi => by rw [rngD_len] at hi; exact hi
  stop := fun M H f m s => by rw [rngD_len]; exact Nat.le_refl _
  yld := fun i M H x H' f m s hi ⟨e, ex⟩ => by
    subst e ex
    rw [rngD_len] at hi
    exact ⟨_, rngD_get n lo i hi, mk_int _, .refl, m⟩
theorem strD_len (z : Str) : (strD z).length = z.cps.size := by simp [strD]
theorem it_str {M0 : MM} {H0 : Hp} {z : Str} : ItOk K M0 H0 (Its z) (strD z) fun _ => True where
  go := fun i M H f m s hi => by rw [strD_len] at hi; exact hi
  stop := fun M H f m s => by rw [strD_len]; exact Nat.le_refl _
  yld := fun i M H x H' f m s hi ⟨e, c, hc, ex⟩ => by
    subst e ex
    refine ⟨.str ⟨#[c]⟩, ?_, mk_str _, .refl, m⟩
    unfold strD
    rw [List.getElem?_map, Array.getElem?_toList, hc]
    rfl
theorem pairD_get : ∀ (xs : List D) (k i : Nat), (pairD xs k)[i]? = (xs[i]?).map fun d => D.wtp [.int ((k + i : Nat) : Int), d]
  | [], k, i => by simp [pairD]
  | x :: xs, k, 0 => by simp [pairD]
  | x :: xs, k, i + 1 => by
    simp only [pairD, List.getElem?_cons_succ]
    rw [pairD_get xs (k + 1) i]
    congr 1
    funext d
    rw [show k + 1 + i = k + (i + 1) by omega]
theorem pairD_len : ∀ (xs : List D) (k : Nat), (pairD xs k).length = xs.length
  | [], _ => rfl
  | x :: xs, k => by rw [pairD, List.length_cons, pairD_len, List.length_cons]
theorem it_enum {M0 : MM} {H0 : Hp} {xs : List D} {a : Addr} {stab : MM → Prop} (h : ∀ M H, Fr M0 H0 M H → RepM K M H → stab M → ∃ vs, RepL K H xs vs ∧ SqL K H a vs) : ItOk K M0 H0 (Ite K a) (pairD xs 0) stab where
  go := fun i M H f m s hi => by
    obtain ⟨vs, r, hs⟩ := h M H f m s
    rw [pairD_len, r.length] at hi
    exact ⟨vs, vs[i], hs, by simp [hi]⟩
  stop := fun M H f m s => by
    obtain ⟨vs, r, hs⟩ := h M H f m s
    rw [pairD_len, r.length]
    exact ⟨vs, hs, Nat.le_refl _⟩
  yld := fun i M H x H' f m s hi ⟨T, y, ex, hT, eH, hy⟩ => by
    obtain ⟨vs, r, hs⟩ := h M H f m s
    subst ex eH
    obtain ⟨d, hd, rd⟩ := r.getV (hy vs hs)
    have k : KeepF H (upd H T (.tup [.int (i : Nat), y])) := .new hT
    refine ⟨.wtp [.int (i : Nat), d], ?_, mk_wtp (.inl (.of upd_same)) (.cons (mk_int _) (.cons (rd.keep k) .nil)), .hid hT, m.hid hT⟩
    rw [pairD_get, hd]
    simp
theorem zipD_get : ∀ (xs ys : List D) (i : Nat) (x y : D), xs[i]? = some x → ys[i]? = some y → (zipD xs ys)[i]? = some (.wtp [x, y])
  | [], _, _, _, _, h, _ => by simp at h
  | _ :: _, [], _, _, _, _, h => by simp at h
  | a :: xs, b :: ys, 0, x, y, h1, h2 => by
    cases (Option.some.inj h1)
    cases (Option.some.inj h2)
    rfl
  | a :: xs, b :: ys, i + 1, x, y, h1, h2 => by
    simp only [zipD, List.getElem?_cons_succ] at h1 h2 ⊢
    exact zipD_get xs ys i x y h1 h2
theorem zipD_len : ∀ (xs ys : List D), (zipD xs ys).length = min xs.length ys.length
  | [], ys => by simp [zipD]
  | _ :: _, [] => by simp [zipD]
  | a :: xs, b :: ys => by rw [zipD, List.length_cons, zipD_len, List.length_cons, List.length_cons]; omega
theorem it_zip {M0 : MM} {H0 : Hp} {xs ys : List D} {a b : Addr} {s1 s2 : MM → Prop} (h1 : ∀ M H, Fr M0 H0 M H → RepM K M H → s1 M → ∃ vs, RepL K H xs vs ∧ SqL K H a vs) (h2 : ∀ M H, Fr M0 H0 M H → RepM K M H → s2 M → ∃ vs, RepL K H ys vs ∧ SqL K H b vs) :
    ItOk K M0 H0 (Itz K a b) (zipD xs ys) (fun M => s1 M ∧ s2 M) where
  go := fun i M H f m s hi => by
    obtain ⟨vs, r, hs⟩ := h1 M H f m s.1
    obtain ⟨ws, r2, hs2⟩ := h2 M H f m s.2
    rw [zipD_len, r.length, r2.length] at hi
    exact ⟨vs, ws, vs[i]'(by omega), ws[i]'(by omega), hs, hs2, List.getElem?_eq_getElem _, List.getElem?_eq_getElem _⟩
  stop := fun M H f m s => by
    obtain ⟨vs, r, hs⟩ := h1 M H f m s.1
    obtain ⟨ws, r2, hs2⟩ := h2 M H f m s.2
    rw [zipD_len, r.length, r2.length]
    exact ⟨vs, ws, hs, hs2, by omega⟩
  yld := fun i M H x H' f m s hi ⟨T, y, z, ex, hT, eH, hy, hz⟩ => by
    obtain ⟨vs, r, hs⟩ := h1 M H f m s.1
    obtain ⟨ws, r2, hs2⟩ := h2 M H f m s.2
    subst ex eH
    obtain ⟨d, hd, rd⟩ := r.getV (hy vs hs)
    obtain ⟨e, he, re⟩ := r2.getV (hz ws hs2)
    have k : KeepF H (upd H T (.tup [y, z])) := .new hT
    exact ⟨.wtp [d, e], zipD_get _ _ _ _ _ hd he, mk_wtp (.inl (.of upd_same)) (.cons (rd.keep k) (.cons (re.keep k) .nil)), .hid hT, m.hid hT⟩
end
section
variable {X : Cx} {B : Bs} {pos : Pos}
/-- a value that is walked -/
theorem seqD_at {K : PySem.W.Frag} {M : MM} {H : Hp} {d : D} {v : V} {R : List D → (MM → Prop) → Prop} (h : seqD d M R) (r : Rep K H d v) (m : RepM K M H) : ∃ a xs stab, v = .ref a ∧ (∃ vs, SqL K H a vs) ∧ R xs stab ∧ ∀ M' H', Fr M H M' H' → RepM K M' H' → stab M' → ∃ vs, RepL K H' xs vs ∧ SqL K H' a vs := by
  unfold seqD at h
  split at h
  · rename_i xs
    obtain ⟨a, vs, e, hs, rl⟩ := rep_lst r
    refine ⟨a, xs, _, e, ⟨vs, hs.sql⟩, h, fun M' H' f m' _ => ⟨vs, rl.keep (f.keep m), ((f.keep m).fzl hs).sql⟩⟩
  · rename_i a
    obtain ⟨xs, e, q⟩ := h
    obtain ⟨vs, hs, rl⟩ := m _ _ e
    refine ⟨a, xs, _, rep_ref r, ⟨vs, .inl (.inl hs)⟩, q, fun M' H' f m' e' => ?_⟩
    obtain ⟨ws, hs', rl'⟩ := m' _ _ e'
    exact ⟨ws, rl', .inl (.inl hs')⟩
  · exact h.elim
theorem li_seq {tg e : Expr} {te : DE} (he : PE X e (LE X.K B te)) : PI X tg e (LI X.K B fun σ M R => te σ M fun x M1 => itD x M1 fun xs stab => R xs stab M1) := by
  refine ⟨fun pins s σ H R I ⟨σd, M, Rd, a, t, k⟩ => ?_⟩
  refine thn (RX.PE.at he I a t) fun u s1 ⟨d, M1, v, H1, I1, rv, f1, rd, m1, q0⟩ => ?_
  have q : itD d M1 fun xs stab => Rd xs stab M1 := q0
  clear q0
  have lists : ∀ {p : Addr} {xs : List D} {stab : MM → Prop}, v = .ref p → (∃ vs, SqL X.K H1 p vs) → Rd xs stab M1 → (∀ M' H', Fr M1 H1 M' H' → RepM X.K M' H' → stab M' → ∃ vs, RepL X.K H' xs vs ∧ SqL X.K H' p vs) →
      wpAny (model X.prog X.w) X.A (pyIter u) (PIE X pins σ tg R) X.xe s1 := by
    intro p xs stab e ⟨vs, hs⟩ q h
    subst e
    cases rv
    obtain ⟨its, rv, pl, hz⟩ := I1.list hs
    refine wpAny_pyIter_list pl.isList ?_
    exact pi_one (tk := s1.toks) I1 _ (turn_list p _) ⟨_, Heap.get?_push_size _ rfl, rfl, rfl⟩ (k xs stab M1 _ H1 f1 m1 (it_list h) q)
  unfold itD at q
  split at q
  · rename_i xs
    obtain ⟨p, vs, e, hs, rl⟩ := rep_tup rd
    subst e
    cases rv
    obtain ⟨its, rv, pl, hz⟩ := I1.tuple hs
    refine wpAny_pyIter_tuple (show s1.heap.IsTuple p its.toArray from pl) ?_
    exact pi_one (tk := s1.toks) I1 _ (turn_tuple p _) ⟨_, Heap.get?_push_size _ rfl, rfl, rfl⟩ (k xs _ M1 _ H1 f1 m1 (it_tup fun M' H' f m' _ => ⟨vs, rl.keep (f.keep m1), (f.keep m1).sqt hs⟩) q)
  · rename_i xs
    obtain ⟨p, vs, e, hs, rl⟩ := rep_lst rd
    exact lists e ⟨vs, hs.sql⟩ q fun M' H' f m' _ => ⟨vs, rl.keep (f.keep m1), ((f.keep m1).fzl hs).sql⟩
  · rename_i z
    cases (rep_str rd)
    obtain ⟨t', rfl⟩ := rv
    have z1 := k (strD z) _ M1 _ H1 f1 m1 it_str q
    cases ha : z.cps.all (· < 128)
    · exact wpAny_pyIter_wide ha (pi_one (tk := s1.toks) I1 _ (turn_str _ z t' "str_iterator" (.inr rfl)) ⟨_, Heap.get?_push_size _ rfl, rfl, rfl⟩ z1)
    · exact wpAny_pyIter_ascii ha (pi_one (tk := s1.toks) I1 _ (turn_str _ z t' "str_ascii_iterator" (.inl rfl)) ⟨_, Heap.get?_push_size _ rfl, rfl, rfl⟩ z1)
  · rename_i p
    obtain ⟨xs, e, q⟩ := q
    obtain ⟨vs, hs, rl⟩ := m1 _ _ e
    refine lists (rep_ref rd) ⟨vs, .inl (.inl hs)⟩ q fun M' H' f m' e' => ?_
    obtain ⟨ws, hs', rl'⟩ := m' _ _ e'
    exact ⟨ws, rl', .inl (.inl hs')⟩
  · exact q.elim
theorem li_range1 {tg a : Expr} {ta : DE} {p : Pos} (hg : Gl X "range") (hm : X.mg "range" = none) (ha : PE X a (LE X.K B ta)) (hs : starEach [a] X.env = [(false, eval a X.env)]) :
    PI X tg (.Call (.Name "range" p) [a] [] pos) (LI X.K B fun σ M R => ta σ M fun x M1 => ∃ j, x = .int j ∧ -(2 ^ 62) ≤ j ∧ j < 2 ^ 62 ∧ R (rngD 0 j.toNat) (fun _ => True) M1) := by
  refine ⟨fun pins s σ H R I ⟨σd, M, Rd, a', t, k⟩ => (pi_range1 hg hm (pa_cons ha pa_nil hs) hs).run pins s σ H R I ?_⟩
  exact LE.seq a' t fun d M1 v H1 f1 a1 r1 ⟨j, e, h1, h2, q⟩ => ⟨j, by rw [e] at r1; rw [rep_int r1], h1, h2, k _ _ M1 _ H1 f1 a1.m it_rng q⟩
theorem li_range2 {tg a b : Expr} {ta tb : DE} {p : Pos} (hg : Gl X "range") (hm : X.mg "range" = none) (ha : PE X a (LE X.K B ta)) (hb : PE X b (LE X.K B tb)) (hs : starEach [a, b] X.env = [(false, eval a X.env), (false, eval b X.env)]) (hs2 : starEach [b] X.env = [(false, eval b X.env)]) :
    PI X tg (.Call (.Name "range" p) [a, b] [] pos) (LI X.K B fun σ M R => ta σ M fun x M1 => tb σ M1 fun y M2 => ∃ i j, x = .int i ∧ y = .int j ∧ (-(2 ^ 62) ≤ i ∧ i < 2 ^ 62 ∧ -(2 ^ 62) ≤ j ∧ j < 2 ^ 62) ∧ R (rngD i (j - i).toNat) (fun _ => True) M2) := by
  refine ⟨fun pins s σ H R I ⟨σd, M, Rd, a', t, k⟩ => (pi_range2 hg hm (pa_cons ha (pa_cons hb pa_nil hs2) (hs.trans (by rw [hs2]))) hs hs2).run pins s σ H R I ?_⟩
  exact LE.seq a' t fun d M1 v H1 f1 a1 r1 q1 => LE.seq a1 q1 fun d2 M2 v2 H2 f2 a2 r2 ⟨i, j, e1, e2, hb, q⟩ => ⟨i, j, by rw [e1] at r1; rw [e2] at r2; rw [rep_int r1, rep_int r2], hb, k _ _ M2 _ H2 (f1.trans f2) a2.m it_rng q⟩
theorem li_enum {e : Expr} {te : DE} {p tpos : Pos} {elts : List Expr} {kk : Nat} (hg : Gl X "enumerate") (hm : X.mg "enumerate" = none) (he : PE X e (LE X.K B te)) (hs : starEach [e] X.env = [(false, eval e X.env)]) :
    PI X (.Tuple elts kk tpos) (.Call (.Name "enumerate" p) [e] [] pos) (LI X.K B fun σ M R => te σ M fun x M1 => seqD x M1 fun xs stab => R (pairD xs 0) stab M1) := by
  refine ⟨fun pins s σ H R I ⟨σd, M, Rd, a', t, k⟩ => (pi_enum hg hm (pa_cons he pa_nil hs) hs).run pins s σ H R I ?_⟩
  refine LE.seq a' t fun d M1 v H1 f1 a1 r1 q => ?_
  obtain ⟨p, xs, stab, e, ⟨vs, hv⟩, q2, h⟩ := seqD_at q r1 a1.m
  exact ⟨p, vs, by rw [e], hv, k _ _ M1 _ H1 f1 a1.m (it_enum h) q2⟩
theorem li_zip {e e2 : Expr} {te tf : DE} {p tpos : Pos} {elts : List Expr} {kk : Nat} (hg : Gl X "zip") (hm : X.mg "zip" = none) (he : PE X e (LE X.K B te)) (hf : PE X e2 (LE X.K B tf)) (hs : starEach [e, e2] X.env = (false, eval e X.env) :: starEach [e2] X.env) (hs2 : starEach [e2] X.env = [(false, eval e2 X.env)]) :
    PI X (.Tuple elts kk tpos) (.Call (.Name "zip" p) [e, e2] [] pos) (LI X.K B fun σ M R => te σ M fun x M1 => tf σ M1 fun y M2 => seqD x M2 fun xs s1 => seqD y M2 fun ys s2 => R (zipD xs ys) (fun M' => s1 M' ∧ s2 M') M2) := by
  refine ⟨fun pins s σ H R I ⟨σd, M, Rd, a', t, k⟩ => (pi_zip hg hm (pa_cons he (pa_cons hf pa_nil hs2) hs) hs (by rw [hs2]; rfl)).run pins s σ H R I ?_⟩
  refine LE.seq a' t fun d M1 v H1 f1 a1 r1 q1 => LE.seq a1 q1 fun d2 M2 v2 H2 f2 a2 r2 q => ?_
  obtain ⟨p, xs, s1, e, ⟨vs, hv⟩, q2, h⟩ := seqD_at q (a1.rep f2 r1) a2.m
  obtain ⟨p2, ys, s2, e2, ⟨ws, hw⟩, q3, h2⟩ := seqD_at q2 r2 a2.m
  exact ⟨p, p2, vs, ws, by rw [e, e2], hv, hw, k _ _ M2 _ H2 (f1.trans f2) a2.m (it_zip h h2) q3⟩
/-! ### targets -/
theorem lg_name {i : Nat} {x : Str} (h : PG X (.Name x pos) (gName i)) : PG X (.Name x pos) (LGw X.K B [i] fun d σ M Q => Q (σ.set i (some d)) M) :=
  h.imp fun v σ H Q ⟨d, σd, M, Qd, r, a, q, k⟩ => k _ M _ H .set .refl (a.s.set i (show RelD X.K H (some d) (some v) from r)) a.m q
theorem lgs_nil : PGs X [] (LGsw X.K B [] fun ds σ M Q => ds = [] ∧ Q σ M) :=
  pgs_nil.imp fun vs σ H Q ⟨ds, σd, M, Qd, r, a, ⟨e, q⟩, k⟩ => ⟨by subst e; exact r.nil_inv, k _ M _ H .refl .refl a.s a.m q⟩
theorem lgs_cons {e : Expr} {es : List Expr} {ws vs : List Nat} {t : DG} {u : DGs} (h1 : PG X e (LGw X.K B ws t)) (h2 : PGs X es (LGsw X.K B vs u)) (hs : (assignEach (e :: es) X.env).map (·.2) = assign e X.env :: (assignEach es X.env).map (·.2)) :
    PGs X (e :: es) (LGsw X.K B (ws ++ vs) fun ds σ M Q => ∃ d r, ds = d :: r ∧ t d σ M fun σ1 M1 => u r σ1 M1 Q) :=
  (pgs_cons h1 h2 hs).imp fun zs σ H Q ⟨ds, σd, M, Qd, r, a, ⟨d, rest, e, q⟩, k⟩ => by
    subst e
    obtain ⟨v, vr, e, r1, r2⟩ := r.cons_inv
    exact ⟨v, vr, e, d, σd, M, _, r1, a, q, fun σd1 M1 σ1 H1 s1 f1 rs1 m1 q1 => ⟨rest, σd1, M1, Qd, a.repL f1 r2, ⟨a.b.trans f1, rs1, m1⟩, q1, fun σd2 M2 σ2 H2 s2 f2 rs2 m2 q2 => k σd2 M2 σ2 H2 (s1.trans s2) (f1.trans f2) rs2 m2 q2⟩⟩
theorem lg_tup {es : List Expr} {kk n : Nat} {ws : List Nat} {t : DGs} (hc : X.calm = true) (h : PGs X es (LGsw X.K B ws t)) (hn : (assignEach es X.env).length = n) (hst : (assignEach es X.env).findIdx? (·.1) = none) :
    PG X (.Tuple es kk pos) (LGw X.K B ws fun d σ M Q => match d with
      | .tup ds => ds.length = n ∧ t ds σ M Q
      | .wtp ds => ds.length = n ∧ t ds σ M Q
      | _ => False) :=
  (pg_tup hc h hn hst).imp fun v σ H Q ⟨d, σd, M, Qd, r, a, q, k⟩ => by
    cases d with
    | tup ds =>
      obtain ⟨p, vs, e, hs, rl⟩ := rep_tup r
      exact ⟨p, vs, e, hs, by rw [← rl.length]; exact q.1, ds, σd, M, Qd, rl, a, q.2, k⟩
    | wtp ds =>
      obtain ⟨p, vs, e, hs, rl⟩ := rep_wtp r
      exact ⟨p, vs, e, hs, by rw [← rl.length]; exact q.1, ds, σd, M, Qd, rl, a, q.2, k⟩
    | _ => exact q.elim
end
end RX
set_option Elab.async false
set_option linter.all false
set_option maxRecDepth 100000
set_option maxHeartbeats 4000000
/-! RX9: stores into lists and dicts, comprehensions, statements. -/
namespace RX
open PySem PySem.Spec PyProof.Rows L2

/-! ### what an expression is not -/
def nSl : Expr → Bool
  | .Slice .. => false
  | _ => true
def nSt : Expr → Bool
  | .Starred .. => false
  | _ => true
def nStL : List Expr → Bool
  | [] => true
  | e :: es => nSt e && nStL es
def nBase : Expr → Bool
  | .Call .. => false
  | _ => true
def plT : Expr → Bool
  | .UnaryOp .. => false
  | .BoolOp .. => false
  | .IfExp .. => false
  | .Compare .. => false
  | _ => true
def nComp : Expr → Bool
  | .ListComp .. => false
  | .SetComp .. => false
  | .DictComp .. => false
  | _ => true
def nTup : Expr → Bool
  | .Tuple .. => false
  | _ => true
def nSet : Expr → Bool
  | .Set .. => false
  | _ => true
section
variable {env : Env}
theorem plainIx_of {b : Expr} (h : nSl b = true) : PlainIx b := by
  intro o i
  cases b <;> first | rfl | cases h
theorem star_cons {e : Expr} {es : List Expr} (h : nSt e = true) : starEach (e :: es) env = (false, eval e env) :: starEach es env := by
  cases e <;> first | rfl | cases h
theorem star_any : ∀ {es : List Expr}, nStL es = true → (starEach es env).any (·.1) = false
  | [], _ => rfl
  | e :: es, h => by
    have h' : nSt e = true ∧ nStL es = true := by simpa [nStL] using h
    rw [star_cons h'.1]
    show (false || (starEach es env).any (·.1)) = false
    rw [star_any h'.2]; rfl
theorem base_of {o : Expr} {m : Str} (h : nBase o = true) : attributeBase o m env (eval o env) = eval o env := by
  cases o <;> first | rfl | cases h
theorem true_of {e : Expr} (h : plT e = true) : ∀ whole, isTrue e env whole = (do let v ← whole; standAt e.pos; holding [v] (truthy v)) := by
  intro whole
  cases e <;> first | rfl | cases h
theorem sw_of {e : Expr} {t : Option Expr} {l : Nat} (h : nComp e = true) : swapsWith e t l env = pure false := by
  cases e <;> first | rfl | cases h
theorem sw_attr {e o : Expr} {f : Str} {p : Pos} {l : Nat} : swapsWith e (some (.Attribute o f p)) l env = pure false := by
  cases e <;> rfl
theorem sw_cell {e : Expr} {x : Str} {p : Pos} {l : Nat} (h : env.scope.names.lookup x ≠ some .local) : swapsWith e (some (.Name x p)) l env = pure false := by
  have hk : (env.kindOf x == some .local) = false := beq_eq_false_iff_ne.mpr h
  cases e <;> first
    | rfl
    | (unfold swapsWith
       simp only [hk, Bool.and_false, Bool.false_and]
       done)
    | (unfold swapsWith
       simp only [hk, Bool.and_false, Bool.false_and]
       rfl)
theorem sws_of {e t : Expr} {l : Nat} (h : nComp e = true) : swapsWithSole [t] e l env = pure false := by
  show swapsWith e (some t) l env = pure false
  exact sw_of h
theorem stores_of {e t : Expr} (h : nTup e = true) : swappedStores [t] e env = pure none := by
  unfold swappedStores
  cases e <;> first | (cases t <;> rfl) | cases h
theorem fold_of {e : Expr} (h : nSet e = true) : ∀ x, foldedSetIterable e env x = pure x := by
  intro x
  cases e <;> first | rfl | cases h
theorem mark_of {o : CmpOp} {e : Expr} (h : nSet e = true) : behindInMarks o e = false := by
  cases e <;> first | rfl | cases h
theorem marks_of {o o' : CmpOp} {e e' : Expr} (h : nSet e' = true) : lastMarks [o, o'] [e, e'] = false := by
  show behindInMarks o' e' = false
  exact mark_of h
theorem asg_each {e : Expr} {es : List Expr} (h : nSt e = true) : assignEach (e :: es) env = (false, assign e env) :: assignEach es env := by
  cases e <;> first | rfl | cases h
theorem asg_len : ∀ {es : List Expr}, (assignEach es env).length = es.length
  | [] => rfl
  | e :: es => by
    cases hs : nSt e with
    | true => rw [asg_each hs, List.length_cons, List.length_cons, asg_len]
    | false =>
      cases e <;> first | cases hs | skip
      rw [show ∀ t p, assignEach (.Starred t p :: es) env = (true, assign t env) :: assignEach es env from fun _ _ => rfl, List.length_cons, List.length_cons, asg_len]
theorem asg_star : ∀ {es : List Expr}, nStL es = true → (assignEach es env).findIdx? (·.1) = none
  | [], _ => rfl
  | e :: es, h => by
    have h' : nSt e = true ∧ nStL es = true := by simpa [nStL] using h
    rw [asg_each h'.1, List.findIdx?_cons, asg_star h'.2]
    rfl
end
theorem putK_zip {k : Key} {d : D} {v : V} {K : PySem.W.Frag} {H : Hp} (rv : Rep K H d v) : ∀ {ks : List Key} {ds : List D} {vs : List V}, ks.length = vs.length → RepL K H ds vs →
    ∃ ws, putK (ks.zip vs) k v = (putKD ks ds k d).1.zip ws ∧ (putKD ks ds k d).1.length = ws.length ∧ RepL K H (putKD ks ds k d).2 ws := by
  intro ks ds vs hl r
  have hany : ((ks.zip vs).any fun kv => decide (kv.1 = k)) = hasK ks k := by
    unfold hasK
    induction ks generalizing vs ds with
    | nil => simp
    | cons k' ks ih =>
      cases vs with
      | nil => simp at hl
      | cons v' vs =>
        cases ds with
        | nil => have := r.nil_inv; cases this
        | cons d' ds =>
          obtain ⟨_, _, e, _, r2⟩ := r.cons_inv
          cases e
          simp only [List.zip_cons_cons, List.any_cons]
          rw [ih (by simpa using hl) r2]
  unfold putK putKD
  rw [hany]
  cases hk : hasK ks k with
  | true =>
    rw [if_pos rfl, if_pos rfl]
    refine ⟨List.zipWith (fun k' v' => if k' = k then v else v') ks vs, ?_, ?_, ?_⟩
    · clear hany hk
      induction ks generalizing vs ds with
      | nil => simp
      | cons k' ks ih =>
        cases vs with
        | nil => simp at hl
        | cons v' vs =>
          cases ds with
          | nil => have := r.nil_inv; cases this
          | cons d' ds =>
            obtain ⟨_, _, e, _, r2⟩ := r.cons_inv
            cases e
            simp only [List.zip_cons_cons, List.map_cons, List.zipWith_cons_cons]
            rw [ih (by simpa using hl) r2]
            congr 1
            split <;> rfl
    · rw [List.length_zipWith, ← hl, Nat.min_self]
    · clear hany hk
      induction ks generalizing vs ds with
      | nil => simp; exact .nil
      | cons k' ks ih =>
        cases vs with
        | nil => simp at hl
        | cons v' vs =>
          cases ds with
          | nil => have := r.nil_inv; cases this
          | cons d' ds =>
            obtain ⟨_, _, e, r1, r2⟩ := r.cons_inv
            cases e
            simp only [List.zipWith_cons_cons]
            refine .cons ?_ (ih (by simpa using hl) r2)
            split
            · exact rv
            · exact r1
  | false =>
    rw [if_neg Bool.false_ne_true, if_neg Bool.false_ne_true]
    refine ⟨vs ++ [v], ?_, by simp [hl], r.append (.cons rv .nil)⟩
    rw [List.zip_append hl]
    rfl
theorem pset_or {X : Cx} {a b : TSet} (ha : PSet X a) (hb : PSet X b) : PSet X (fun o i v H Q => a o i v H Q ∨ b o i v H Q) := by
  intro pins s σ H o i v ov iv u Q I r1 r2 r3 h
  rcases h with h | h
  · exact ha pins s σ H o i v ov iv u Q I r1 r2 r3 h
  · exact hb pins s σ H o i v ov iv u Q I r1 r2 r3 h
section
variable {X : Cx} {B : Bs} {pos : Pos}
theorem lg_sub {o i : Expr} {to ti : DE} (hns : nSl i = true) (hu : X.A.units + 1 < cLine) (ho : PE X o (LE X.K B to)) (hi : PE X i (LE X.K B ti)) : PG X (.Subscript o i pos) (LGw X.K B [] fun d σ M Q => to σ M fun x M1 => ti σ M1 fun y M2 => subD x y d σ M2 Q) := by
  refine (pg_sub ho hi (pset_or set_list (set_dict hu)) (by intro v; cases i <;> first | rfl | cases hns)).imp fun v σ H Q ⟨d, σd, M, Qd, r, a, q, k⟩ => ?_
  refine LE.seq a q fun d1 M1 v1 H1 f1 a1 r1 q1 => LE.seq a1 q1 fun d2 M2 v2 H2 f2 a2 r2 q2 => ?_
  have rd : Rep X.K H2 d v := a1.rep f2 (a.rep f1 r)
  have f : Fr M H M2 H2 := f1.trans f2
  have q3 : subD d1 d2 d σd M2 Qd := q2
  clear q2
  unfold subD at q3
  split at q3
  · rename_i p k'
    obtain ⟨xs, j, e, hj, q3⟩ := q3
    obtain ⟨vs, hs, rl⟩ := a2.m _ _ e
    have k2 : KeepF H2 (upd H2 p (.lst (vs.set j v))) := .mut (a2.m.mut e)
    refine .inl ⟨p, vs, k', j, rep_ref r1, rep_int r2, hs, by rw [← rl.length]; exact hj, ?_⟩
    exact k σd _ σ _ .refl (f.trans (.put e)) (a2.s.keep k2) (a2.m.put (d := .lst (xs.set j d)) e ⟨_, upd_same, (rl.set j rd).keep k2⟩) q3
  · rename_i p k'
    obtain ⟨ks, ds, e, hz, q3⟩ := q3
    obtain ⟨vs, hs, hl, rl⟩ := a2.m _ _ e
    obtain ⟨ws, e2, hl2, rl2⟩ := putK_zip (k := .inr k') rd hl rl
    have k2 : KeepF H2 (upd H2 p (.dK ((putKD ks ds (.inr k') d).1.zip ws))) := .mut (a2.m.mut e)
    have hz2 : (ks.zip vs).length < sizeLine := by rw [List.length_zip, ← hl, Nat.min_self]; exact hz
    refine .inr ⟨p, _, rep_ref r1, .inl ⟨_, .inr k', hs, rep_str r2, hz2, rfl⟩, ?_⟩
    rw [e2]
    exact k σd _ σ _ .refl (f.trans (.put e)) (a2.s.keep k2) (a2.m.put (d := .dct (putKD ks ds (.inr k') d).1 (putKD ks ds (.inr k') d).2) e ⟨ws, upd_same, hl2, rl2.keep k2⟩) q3
  · exact q3.elim
end
end RX
set_option Elab.async false
set_option linter.all false
set_option maxRecDepth 100000
set_option maxHeartbeats 4000000
/-! RX10: comprehensions and statements. -/
namespace RX
open PySem PySem.Spec PyProof.Rows L2

theorem drop_cases {xs : List D} {i : Nat} : (i < xs.length ∧ ∃ x, xs[i]? = some x ∧ xs.drop i = x :: xs.drop (i + 1)) ∨ (xs.length ≤ i ∧ xs.drop i = []) := by
  by_cases h : i < xs.length
  · exact .inl ⟨h, xs[i], List.getElem?_eq_getElem h, (List.drop_eq_getElem_cons h)⟩
  · exact .inr ⟨by omega, List.drop_eq_nil_of_le (by omega)⟩
section
variable {K : PySem.W.Frag} {B : Bs}
/-- a hidden thing grows -/
theorem hid_upd {M0 M : MM} {H0 H : Hp} {p : Addr} {u u' : HO} (f : Fr M0 H0 M H) (m : RepM K M H) (h0 : H0 p = none) (hM : M p = none) (hu : H p = some u) (mu : Mut (some u)) :
    Fr M0 H0 M (upd H p u') ∧ RepM K M (upd H p u') ∧ KeepF H (upd H p u') := by
  have k : KeepF H (upd H p u') := .mut (by rw [hu]; exact mu)
  refine ⟨fun a v e hm => ?_, fun a o e => ?_, k⟩
  · have ne : a ≠ p := fun z => by rw [z, h0] at e; cases e
    obtain ⟨h1, h2⟩ := f a v e hm
    exact ⟨by rw [upd_ne ne]; exact h1, h2⟩
  · have ne : a ≠ p := fun z => by rw [z, hM] at e; cases e
    exact (m a o e).keep k (upd_ne ne)
/-- the end of a list comprehension -/
def LcEnd (K : PySem.W.Frag) (M : MM) (H : Hp) (Qn : List D → MM → Prop) : VK := fun v H' => ∃ p vs acc M', v = .ref p ∧ (∀ u, H p = some u → M p = none → False) ∧ H' p = some (.lst vs) ∧ M' p = none ∧ Fr M H M' H' ∧ RepM K M' H' ∧ RepL K H' acc vs ∧ Qn acc M'
theorem lc_wish {tI : DI} {g : DG} {tt : DT} {te : DE} {vs ws : List Nat} {σ : SV} {H : Hp} {σd : DSt} {M : MM} {Qn : List D → MM → Prop} (hw : ∀ i ∈ ws, i ∈ vs) (a : At K B H σd M σ)
    (t : tI σd M fun xs stab M1 => lcD stab g tt te vs σd Qn xs [] M1) : tLc (LI K B tI) (LGw K B ws g) (LT K B tt) (LE K B te) vs σ H (LcEnd K M H Qn) := by
  refine ⟨σd, M, _, a, t, fun xs stab M1 J H1 f1 m1 ok r => fun p hp => ?_⟩
  have m1p : M1 p = none := m1.free hp
  refine ⟨fun i m Hc => ∃ Mc acc us, m = xs.length - i ∧ i ≤ xs.length ∧ Fr M1 H1 Mc Hc ∧ Mc p = none ∧ Hc p = some (.lst us) ∧ RepL K Hc acc us ∧ RepM K Mc Hc ∧ lcD stab g tt te vs σd Qn (xs.drop i) acc Mc,
    ⟨xs.length, M1, [], [], by simp, Nat.zero_le _, .hid hp, m1p, upd_same, .nil, m1.hid hp, r⟩, ?_⟩
  rintro i m Hc ⟨Mc, acc, us, rfl, hi, fc, pc, hc, rc, mc, q⟩
  rcases drop_cases (xs := xs) (i := i) with ⟨hlt, x, hx, ed⟩ | ⟨hge, ed⟩
  · rw [ed] at q
    unfold lcD at q
    obtain ⟨hst, hz, q⟩ := q
    refine .inr ⟨ok.go i Mc Hc fc mc hst hlt, fun Hn => ∃ Mn acc us, i + 1 ≤ xs.length ∧ Fr M1 H1 Mn Hn ∧ Mn p = none ∧ Hn p = some (.lst us) ∧ RepL K Hn acc us ∧ RepM K Mn Hn ∧ lcD stab g tt te vs σd Qn (xs.drop (i + 1)) acc Mn,
      fun Hn ⟨Mn, ac, us', h1, h2⟩ => ⟨xs.length - (i + 1), by omega, Mn, ac, us', rfl, h1, h2⟩, fun xv H' y => ?_⟩
    obtain ⟨d, hd, rd, f', m'⟩ := ok.yld i Mc Hc xv H' fc mc hst hlt y
    rw [hx] at hd
    cases hd
    have p1 := f' p _ hc pc
    have F1 : Fr M H Mc H' := (f1.trans fc).trans f'
    refine ⟨x, wipeD σd vs, Mc, _, rd, ⟨a.b.trans F1, (a.s.keep (F1.keep a.m)).wipe vs, m'⟩, q, fun σ2d M2 σ2 H2 sm f2 s2 m2 q2 => ⟨sm.wipe hw, ?_⟩⟩
    have p2 := f2 p _ p1.1 p1.2
    have F2 := F1.trans f2
    refine LT.seq (B := B) ⟨a.b.trans F2, s2, m2⟩ q2 fun b M3 H3 f3 a3 q3 => ?_
    have p3 := f3 p _ p2.1 p2.2
    have F3 := F2.trans f3
    cases b with
    | true =>
      rw [if_pos rfl]
      refine LE.seq a3 (q3.1 rfl) fun dy M4 v4 H4 f4 a4 r4 q4 => ?_
      have p4 := f4 p _ p3.1 p3.2
      have G : Fr M1 H1 M4 H4 := (((fc.trans f').trans f2).trans f3).trans f4
      obtain ⟨g1, g2, g3⟩ := hid_upd (u' := .lst (us ++ [v4])) G a4.m hp p4.2 p4.1 trivial
      have kc : KeepF Hc H4 := (((f'.trans f2).trans f3).trans f4).keep mc
      refine ⟨us, p4.1, by rw [← rc.length]; exact hz, M4, acc ++ [dy], us ++ [v4], hlt, g1, p4.2, upd_same, ((rc.keep kc).append (.cons r4 .nil)).keep g3, g2, q4⟩
    | false =>
      rw [if_neg Bool.false_ne_true]
      have G : Fr M1 H1 M3 H3 := ((fc.trans f').trans f2).trans f3
      exact ⟨M3, acc, us, hlt, G, p3.2, p3.1, rc.keep (((f'.trans f2).trans f3).keep mc), a3.m, q3.2 rfl⟩
  · have e : i = xs.length := by omega
    subst e
    rw [ed] at q
    unfold lcD at q
    obtain ⟨hst, q⟩ := q
    have h0 : ∀ u, H p = some u → M p = none → False := fun u e e2 => by
      have z := (f1 p u e e2).1
      rw [hp] at z
      cases z
    exact .inl ⟨ok.stop Mc Hc fc mc hst, p, us, acc, Mc, rfl, h0, hc, pc, f1.trans fc, mc, rc, q⟩
/-- from there: a list that may be written, or not -/
theorem lc_done0 {X : Cx} {pins : List (Addr × Obj)} {σ : SV} {M : MM} {H H' : Hp} {fz : Bool} {Qd : DV} {v : V} {s' : Shared} (I : Inv X pins σ H' s') (h : LcEnd X.K M H (fun acc M2 => newL fz acc M2 Qd) v H') : ∃ d M' H'', Inv X pins σ H'' s' ∧ Fr M H M' H'' ∧ Rep X.K H'' d v ∧ RepM X.K M' H'' ∧ Qd d M' := by
  obtain ⟨p, vs, acc, M', e, h0, hp, mp, f, m, r, q⟩ := h
  subst e
  cases fz with
  | false =>
    refine ⟨.ref p, up M' p (.lst acc), H', I, fun a u e e2 => ?_, mk_ref p, fun a o e => ?_, q p mp⟩
    · have ne : a ≠ p := fun z => h0 u (by rw [← z]; exact e) (by rw [← z]; exact e2)
      obtain ⟨h1, h2⟩ := f a u e e2
      exact ⟨h1, by rw [up_ne ne]; exact h2⟩
    · by_cases z : a = p
      · subst z; rw [up_same] at e; cases e; exact ⟨vs, hp, r⟩
      · rw [up_ne z] at e; exact m a o e
  | true =>
    obtain ⟨o, I'⟩ := freeze I hp (fun _ _ _ z => nomatch z) trivial
    have k : KeepF H' (upd H' p (.frz o (.lst vs))) := .mut (by rw [hp]; trivial)
    refine ⟨.lst acc, M', _, I', fun a u e e2 => ?_, mk_lst (.inl ⟨o, upd_same⟩) (r.keep k), fun a o' e => ?_, q⟩
    · have ne : a ≠ p := fun z => h0 u (by rw [← z]; exact e) (by rw [← z]; exact e2)
      obtain ⟨h1, h2⟩ := f a u e e2
      exact ⟨by rw [upd_ne ne]; exact h1, h2⟩
    · have ne : a ≠ p := fun z => by rw [z, mp] at e; cases e
      exact (m a o' e).keep k (upd_ne ne)
theorem lc_done {X : Cx} {pins : List (Addr × Obj)} {σ : SV} {M : MM} {H H' : Hp} {fz : Bool} {Qd : DV} {v : V} {u : Value} {s' : Shared} (I : Inv X pins σ H' s') (rv : RelV v u) (h : LcEnd X.K M H (fun acc M2 => newL fz acc M2 Qd) v H') : EPD X pins σ M H Qd u s' := by
  obtain ⟨d, M', H'', I', f, r, m, q⟩ := lc_done0 I h
  exact ⟨d, M', v, H'', I', rv, f, r, m, q⟩
/-- {k: v for ..} -/
def DcEnd (K : PySem.W.Frag) (M : MM) (H : Hp) (Qn : List Key → List D → MM → Prop) : VK := fun v H' => ∃ p vs ks acc M', v = .ref p ∧ (∀ u, H p = some u → M p = none → False) ∧ H' p = some (.dK (ks.zip vs)) ∧ ks.length = vs.length ∧ M' p = none ∧ Fr M H M' H' ∧ RepM K M' H' ∧ RepL K H' acc vs ∧ Qn ks acc M'
theorem dc_wish {tI : DI} {g : DG} {tk te : DE} {vs ws : List Nat} {σ : SV} {H : Hp} {σd : DSt} {M : MM} {Qn : List Key → List D → MM → Prop} (hw : ∀ i ∈ ws, i ∈ vs) (a : At K B H σd M σ)
    (t : tI σd M fun xs stab M1 => dcD stab g tk te vs σd Qn xs [] [] M1) : tDc (LI K B tI) (LGw K B ws g) tYes (LE K B tk) (LE K B te) vs σ H (DcEnd K M H Qn) := by
  refine ⟨σd, M, _, a, t, fun xs stab M1 J H1 f1 m1 ok r => fun p hp => ?_⟩
  have m1p : M1 p = none := m1.free hp
  refine ⟨fun i m Hc => ∃ Mc ks acc us, m = xs.length - i ∧ i ≤ xs.length ∧ Fr M1 H1 Mc Hc ∧ Mc p = none ∧ Hc p = some (.dK (ks.zip us)) ∧ ks.length = us.length ∧ RepL K Hc acc us ∧ RepM K Mc Hc ∧ dcD stab g tk te vs σd Qn (xs.drop i) ks acc Mc,
    ⟨xs.length, M1, [], [], [], by simp, Nat.zero_le _, .hid hp, m1p, upd_same, rfl, .nil, m1.hid hp, r⟩, ?_⟩
  rintro i m Hc ⟨Mc, ks, acc, us, rfl, hi, fc, pc, hc, hl, rc, mc, q⟩
  rcases drop_cases (xs := xs) (i := i) with ⟨hlt, x, hx, ed⟩ | ⟨hge, ed⟩
  · rw [ed] at q
    unfold dcD at q
    obtain ⟨hst, hz, q⟩ := q
    refine .inr ⟨ok.go i Mc Hc fc mc hst hlt, fun Hn => ∃ Mn ks acc us, i + 1 ≤ xs.length ∧ Fr M1 H1 Mn Hn ∧ Mn p = none ∧ Hn p = some (.dK (ks.zip us)) ∧ ks.length = us.length ∧ RepL K Hn acc us ∧ RepM K Mn Hn ∧ dcD stab g tk te vs σd Qn (xs.drop (i + 1)) ks acc Mn,
      fun Hn ⟨Mn, ks', ac, us', h1, h2⟩ => ⟨xs.length - (i + 1), by omega, Mn, ks', ac, us', rfl, h1, h2⟩, fun xv H' y => ?_⟩
    obtain ⟨d, hd, rd, f', m'⟩ := ok.yld i Mc Hc xv H' fc mc hst hlt y
    rw [hx] at hd
    cases hd
    have p1 := f' p _ hc pc
    have F1 : Fr M H Mc H' := (f1.trans fc).trans f'
    refine ⟨x, wipeD σd vs, Mc, _, rd, ⟨a.b.trans F1, (a.s.keep (F1.keep a.m)).wipe vs, m'⟩, q, fun σ2d M2 σ2 H2 sm f2 s2 m2 q2 => ⟨sm.wipe hw, ?_⟩⟩
    have p2 := f2 p _ p1.1 p1.2
    have F2 := F1.trans f2
    unfold tYes
    dsimp only
    rw [if_pos rfl]
    have a2 : At K B H2 σ2d M2 σ2 := ⟨a.b.trans F2, s2, m2⟩
    refine LE.seq a2 q2 fun dk M3 v3 H3 f3 a3 r3 ⟨key, hk, q3⟩ => ?_
    have p3 := f3 p _ p2.1 p2.2
    refine LE.seq a3 q3 fun dy M4 v4 H4 f4 a4 r4 q4 => ?_
    have p4 := f4 p _ p3.1 p3.2
    have G : Fr M1 H1 M4 H4 := (((fc.trans f').trans f2).trans f3).trans f4
    have kc : KeepF Hc H4 := (((f'.trans f2).trans f3).trans f4).keep mc
    obtain ⟨ws', e1, e2, e3⟩ := putK_zip (k := key) r4 hl (rc.keep kc)
    obtain ⟨g1, g2, g3⟩ := hid_upd (u' := .dK ((putKD ks acc key dy).1.zip ws')) G a4.m hp p4.2 p4.1 trivial
    have hz2 : (ks.zip us).length < sizeLine := by rw [List.length_zip, ← hl, Nat.min_self]; exact hz
    refine ⟨ks.zip us, key, keyOf_rep hk r3, p4.1, hz2, ?_⟩
    rw [e1]
    exact ⟨M4, _, _, ws', hlt, g1, p4.2, upd_same, e2, e3.keep g3, g2, q4⟩
  · have e : i = xs.length := by omega
    subst e
    rw [ed] at q
    unfold dcD at q
    obtain ⟨hst, q⟩ := q
    have h0 : ∀ u, H p = some u → M p = none → False := fun u e e2 => by
      have z := (f1 p u e e2).1
      rw [hp] at z
      cases z
    exact .inl ⟨ok.stop Mc Hc fc mc hst, p, us, ks, acc, Mc, rfl, h0, hc, hl, pc, f1.trans fc, mc, rc, q⟩
theorem dc_done {X : Cx} {pins : List (Addr × Obj)} {σ : SV} {M : MM} {H H' : Hp} {fz : Bool} {Qd : DV} {v : V} {u : Value} {s' : Shared} (I : Inv X pins σ H' s') (rv : RelV v u) (h : DcEnd X.K M H (fun ks acc M2 => newD fz ks acc M2 Qd) v H') : EPD X pins σ M H Qd u s' := by
  obtain ⟨p, vs, ks, acc, M', e, h0, hp, hl, mp, f, m, r, q⟩ := h
  subst e
  cases fz with
  | false =>
    refine ⟨.ref p, up M' p (.dct ks acc), .ref p, H', I, rv, fun a u e e2 => ?_, mk_ref p, fun a o e => ?_, q p mp⟩
    · have ne : a ≠ p := fun z => h0 u (by rw [← z]; exact e) (by rw [← z]; exact e2)
      obtain ⟨h1, h2⟩ := f a u e e2
      exact ⟨h1, by rw [up_ne ne]; exact h2⟩
    · by_cases z : a = p
      · subst z; rw [up_same] at e; cases e; exact ⟨vs, hp, hl, r⟩
      · rw [up_ne z] at e; exact m a o e
  | true =>
    obtain ⟨o, I'⟩ := freeze I hp (fun _ _ _ z => nomatch z) trivial
    have k : KeepF H' (upd H' p (.frz o (.dK (ks.zip vs)))) := .mut (by rw [hp]; trivial)
    refine ⟨.dct ks acc, M', .ref p, _, I', rv, fun a u e e2 => ?_, mk_dct upd_same hl (r.keep k), fun a o' e => ?_, q⟩
    · have ne : a ≠ p := fun z => h0 u (by rw [← z]; exact e) (by rw [← z]; exact e2)
      obtain ⟨h1, h2⟩ := f a u e e2
      exact ⟨by rw [upd_ne ne]; exact h1, h2⟩
    · have ne : a ≠ p := fun z => by rw [z, mp] at e; cases e
      exact (m a o' e).keep k (upd_ne ne)
end
section
variable {X : Cx} {B : Bs} {pos : Pos}
/-- every context of the block -/
def AllBlk (X : Cx) (scope : Scope) (P : Cx → Prop) : Prop := ∀ (s : Shared) (H : Hp) (C : Addr) (cl : List (Str × Addr)) (fp : List Addr), P (X.blk s H scope (compEnvC scope cl C X.env) fp)
theorem le_lc {fz : Bool} {elt tg iter : Expr} {ifs : List Expr} {scope : Scope} {own : List (Str × Nat)} {tI : DI} {g : DG} {tt : DT} {te : DE} {ws : List Nat} (hc : X.calm = true) (hN : X.N.Nodup) (hi : PI X tg iter (LI X.K B tI)) (ok : BlkOk X.N X.env.scope scope own)
    (hw : ∀ i ∈ ws, i ∈ own.map (·.2)) (hg : AllBlk X scope fun Y => PG Y tg (LGw Y.K B ws g)) (ht : AllBlk X scope fun Y => PTs Y ifs (LT Y.K B tt)) (he : AllBlk X scope fun Y => PE Y elt (LE Y.K B te)) (hs : ∀ x, foldedSetIterable iter X.env x = pure x) :
    PE X (.ListComp elt [⟨tg, iter, ifs, 0⟩] scope pos) (LE X.K B fun σ M Q => tI σ M fun xs stab M1 => lcD stab g tt te (own.map (·.2)) σ (fun acc M2 => newL fz acc M2 Q) xs [] M1) := by
  refine pe_of fun pins s σ H σd M Qd I a t => ?_
  exact thn ((pe_lc (g := LGw X.K B ws g) (tt := LT X.K B tt) (te := LE X.K B te) hc hN hi ok (fun s H C cl fp => hg s H C cl fp) (fun s H C cl fp => ht s H C cl fp) (fun s H C cl fp => he s H C cl fp) hs).run pins s σ H _ I (lc_wish hw a t)) fun u s' ⟨v, H', I', rv, q⟩ => lc_done I' rv q
theorem le_dc {fz : Bool} {kx elt tg iter : Expr} {scope : Scope} {own : List (Str × Nat)} {tI : DI} {g : DG} {tk te : DE} {ws : List Nat} (hc : X.calm = true) (hN : X.N.Nodup) (hi : PI X tg iter (LI X.K B tI)) (ok : BlkOk X.N X.env.scope scope own)
    (hw : ∀ i ∈ ws, i ∈ own.map (·.2)) (hg : AllBlk X scope fun Y => PG Y tg (LGw Y.K B ws g)) (hk : AllBlk X scope fun Y => PE Y kx (LE Y.K B tk)) (he : AllBlk X scope fun Y => PE Y elt (LE Y.K B te)) (hs : ∀ x, foldedSetIterable iter X.env x = pure x) :
    PE X (.DictComp kx elt [⟨tg, iter, [], 0⟩] scope pos) (LE X.K B fun σ M Q => tI σ M fun xs stab M1 => dcD stab g tk te (own.map (·.2)) σ (fun ks acc M2 => newD fz ks acc M2 Q) xs [] [] M1) := by
  refine pe_of fun pins s σ H σd M Qd I a t => ?_
  exact thn ((pe_dc (g := LGw X.K B ws g) (tt := tYes) (tk := LE X.K B tk) (tv := LE X.K B te) hc hN hi ok (fun s H C cl fp => hg s H C cl fp) (fun s H C cl fp => pts_nil) (fun s H C cl fp => hk s H C cl fp) (fun s H C cl fp => he s H C cl fp) hs).run pins s σ H _ I (dc_wish hw a t)) fun u s' ⟨v, H', I', rv, q⟩ => dc_done I' rv q
/-- name = [..] on one line -/
theorem ls_setLc {fz : Bool} {i : Nat} {y : Str} {py : Pos} {elt tg iter : Expr} {ifs : List Expr} {scope : Scope} {own : List (Str × Nat)} {spos : Pos} {tI : DI} {g : DG} {tt : DT} {te : DE} {ws : List Nat} (hc : X.calm = true) (hN : X.N.Nodup) (hy : X.N[i]? = some y) (hyl : X.env.scope.names.lookup y = some .local)
    (hsw : swapsWith (.ListComp elt [⟨tg, iter, ifs, 0⟩] scope pos) (some (.Name y py)) spos.line X.env = pure true) (hi : PI X tg iter (LI X.K B tI)) (ok : BlkOk X.N X.env.scope scope own)
    (hw : ∀ i ∈ ws, i ∈ own.map (·.2)) (hg : AllBlk X scope fun Y => PG Y tg (LGw Y.K B ws g)) (ht : AllBlk X scope fun Y => PTs Y ifs (LT Y.K B tt)) (he : AllBlk X scope fun Y => PE Y elt (LE Y.K B te)) (hs : ∀ x, foldedSetIterable iter X.env x = pure x) :
    PS X (.Assign [.Name y py] (.ListComp elt [⟨tg, iter, ifs, 0⟩] scope pos) spos) (LS X.K B fun E σ M => tI σ M fun xs stab M1 => lcD stab g tt te (own.map (·.2)) σ (fun acc M2 => newL fz acc M2 fun d M3 => E.nx (σ.set i (some d)) M3) xs [] M1) := by
  refine ⟨fun pins s σ H E I ⟨σd, M, Dd, a, t, k⟩ => ?_⟩
  have h := (ps_setLc (g := LGw X.K B ws g) (tt := LT X.K B tt) (te := LE X.K B te) hc hN hy hyl hsw hi ok (fun s H C cl fp => hg s H C cl fp) (fun s H C cl fp => ht s H C cl fp) (fun s H C cl fp => he s H C cl fp) hs).run pins s σ H
    { nx := fun σ' H' => ∃ v, σ' = σ.set i (some v) ∧ LcEnd X.K M H (fun acc M2 => newL fz acc M2 fun d M3 => Dd.nx (σd.set i (some d)) M3) v H', rt := fun _ _ => False, bk := fun _ _ => False, ct := fun _ _ => False } I
  have key : ∀ {Q Q' : VK}, (∀ v H', Q v H' → Q' v H') → tLc (LI X.K B tI) (LGw X.K B ws g) (LT X.K B tt) (LE X.K B te) (own.map (·.2)) σ H Q → tLc (LI X.K B tI) (LGw X.K B ws g) (LT X.K B tt) (LE X.K B te) (own.map (·.2)) σ H Q' := by
    intro Q Q' hQ ⟨σd, M, Rd, a, t, k⟩
    refine ⟨σd, M, Rd, a, t, fun xs stab M' J H' f m o r p hp => ?_⟩
    obtain ⟨W, w0, turn⟩ := k xs stab M' J H' f m o r p hp
    refine ⟨W, w0, fun i m H w => ?_⟩
    rcases turn i m H w with ⟨h1, h2⟩ | h2
    · exact .inl ⟨h1, hQ _ _ h2⟩
    · exact .inr h2
  refine thn (h (key (fun v H' q => ⟨v, rfl, q⟩) (lc_wish hw a t))) fun f s' hq => ?_
  cases f with
  | next =>
    obtain ⟨σ', H', I', v, e, q⟩ := hq
    subst e
    obtain ⟨d, M', H'', I2, f2, r2, m2, q2⟩ := lc_done0 I' q
    exact ⟨_, H'', I2, k.nx _ _ _ _ f2 ((a.s.keep (f2.keep a.m)).set i (show RelD X.K H'' (some d) (some v) from r2)) m2 q2⟩
  | ret v =>
    obtain ⟨_, _, _, _, _, q⟩ := hq
    exact q.elim
  | brk =>
    obtain ⟨_, _, _, q⟩ := hq
    exact q.elim
  | cont =>
    obtain ⟨_, _, _, q⟩ := hq
    exact q.elim
/-! ### statements -/
theorem SPD {pins : List (Addr × Obj)} {D D' : Ends} {f : Flow} {s' : Shared} (h : SP X pins D f s') (nx : ∀ σ H, Inv X pins σ H s' → D.nx σ H → ∃ σ' H', Inv X pins σ' H' s' ∧ D'.nx σ' H') (rt : D.rt = D'.rt) (bk : D.bk = D'.bk) (ct : D.ct = D'.ct) : SP X pins D' f s' := by
  cases f with
  | next =>
    obtain ⟨σ', H', I', q⟩ := h
    exact nx σ' H' I' q
  | ret v =>
    obtain ⟨x, σ', H', I', r, q⟩ := h
    exact ⟨x, σ', H', I', r, rt ▸ q⟩
  | brk =>
    obtain ⟨σ', H', I', q⟩ := h
    exact ⟨σ', H', I', bk ▸ q⟩
  | cont =>
    obtain ⟨σ', H', I', q⟩ := h
    exact ⟨σ', H', I', ct ▸ q⟩
theorem ls_expr {e : Expr} {te : DE} (he : PE X e (LE X.K B te)) (hs : nComp e = true) : PS X (.Expr e pos) (LS X.K B fun E σ M => te σ M fun _ M1 => E.nx σ M1) :=
  (ps_expr he (sw_of hs)).imp fun E σ H ⟨σd, M, Dd, a, t, k⟩ => LE.seq a t fun d M1 v H1 f1 a1 r1 q => k.nx _ _ _ _ f1 a1.s a1.m q
theorem ls_ret {e : Expr} {te : DE} (he : PE X e (LE X.K B te)) : PS X (.Return (some e) pos) (LS X.K B fun E σ M => te σ M E.rt) :=
  (ps_ret he).imp fun E σ H ⟨σd, M, Dd, a, t, k⟩ => LE.seq a t fun d M1 v H1 f1 a1 r1 q => k.rt _ _ _ _ f1 r1 a1.m q
theorem ls_retN : PS X (.Return none pos) (LS X.K B fun E σ M => E.rt .non M) :=
  ps_retN.imp fun E σ H ⟨σd, M, Dd, a, t, k⟩ => k.rt _ M _ H .refl mk_non a.m t
theorem ls_pass : PS X (.Pass pos) (LS X.K B fun E σ M => E.nx σ M) := ps_pass.imp fun E σ H ⟨σd, M, Dd, a, t, k⟩ => k.nx _ M _ H .refl a.s a.m t
theorem ls_brk : PS X (.Break pos) (LS X.K B fun E σ M => E.bk σ M) := ps_break.imp fun E σ H ⟨σd, M, Dd, a, t, k⟩ => k.bk _ M _ H .refl a.s a.m t
theorem ls_cont : PS X (.Continue pos) (LS X.K B fun E σ M => E.ct σ M) := ps_continue.imp fun E σ H ⟨σd, M, Dd, a, t, k⟩ => k.ct _ M _ H .refl a.s a.m t
theorem ls_never {st : Stmt} : PS X st (LS X.K B fun _ _ _ => False) := ps_never.imp fun E σ H ⟨σd, M, Dd, a, t, k⟩ => t
theorem ls_if {c : Expr} {a b : List Stmt} {tc : DT} {ta tb : DS} (hc : PT X c (LT X.K B tc)) (ha : PSs X a (LS X.K B ta)) (hb : PSs X b (LS X.K B tb)) : PS X (.If c a b pos) (LS X.K B fun E σ M => tc σ M fun k M1 => Bif k (ta E σ M1) (tb E σ M1)) :=
  (ps_if hc ha hb).imp fun E σ H ⟨σd, M, Dd, a, t, k⟩ => LT.seq a t fun b M1 H1 f1 a1 q => by
    cases b with
    | true => rw [if_pos rfl]; exact ⟨σd, M1, Dd, a1, q.1 rfl, k.go f1⟩
    | false => rw [if_neg Bool.false_ne_true]; exact ⟨σd, M1, Dd, a1, q.2 rfl, k.go f1⟩
theorem lss_nil : PSs X [] (LS X.K B fun E σ M => E.nx σ M) := pss_nil.imp fun E σ H ⟨σd, M, Dd, a, t, k⟩ => k.nx _ M _ H .refl a.s a.m t
theorem lss_cons {st : Stmt} {rest : List Stmt} {t u : DS} (h1 : PS X st (LS X.K B t)) (h2 : PSs X rest (LS X.K B u)) : PSs X (st :: rest) (LS X.K B fun E σ M => t { E with nx := u E } σ M) :=
  (pss_cons h1 h2).imp fun E σ H ⟨σd, M, Dd, a, t, k⟩ => ⟨σd, M, { Dd with nx := u Dd }, a, t, ⟨fun σd' M' σ' H' f s m q => ⟨σd', M', Dd, ⟨a.b.trans f, s, m⟩, q, k.go f⟩, k.rt, k.bk, k.ct⟩⟩
theorem ls_asg {tg e : Expr} {te : DE} {g : DG} {ws : List Nat} (he : PE X e (LE X.K B te)) (hg : PG X tg (LGw X.K B ws g)) (hs : swapsWithSole [tg] e pos.line X.env = pure false) (hw : swappedStores [tg] e X.env = pure none) (h1 : nSt tg = true) : PS X (.Assign [tg] e pos) (LS X.K B fun E σ M => te σ M fun x M1 => g x σ M1 E.nx) :=
  (ps_asg he hg hs hw (by rw [asg_each h1]; rfl)).imp fun E σ H ⟨σd, M, Dd, a, t, k⟩ => LE.seq a t fun d M1 v H1 f1 a1 r1 q =>
    ⟨d, σd, M1, _, r1, a1, q, fun σd' M' σ' H' _ f2 s2 m2 q2 => k.nx _ _ _ _ (f1.trans f2) s2 m2 q2⟩
theorem ls_set {i : Nat} {x : Str} {e : Expr} {te : DE} {pos' : Pos} (h : PS X (.Assign [.Name x pos'] e pos) (tAsg (LE X.K B te) (gName i))) : PS X (.Assign [.Name x pos'] e pos) (LS X.K B fun E σ M => te σ M fun x M1 => E.nx (σ.set i (some x)) M1) :=
  h.imp fun E σ H ⟨σd, M, Dd, a, t, k⟩ => LE.seq a t fun d M1 v H1 f1 a1 r1 q => k.nx _ _ _ _ f1 (a1.s.set i (show RelD X.K H1 (some d) (some v) from r1)) a1.m q
theorem ls_par {i j : Nat} {x y : Str} {a b : Expr} {ta : DA} {px py pt pt2 : Pos} {kt k2} (h : PS X (.Assign [.Tuple [.Name x px, .Name y py] kt pt] (.Tuple [a, b] k2 pt2) pos) (tPar i j (LA X.K B ta))) :
    PS X (.Assign [.Tuple [.Name x px, .Name y py] kt pt] (.Tuple [a, b] k2 pt2) pos) (LS X.K B fun E σ M => ta σ M fun ds M1 => ∃ d e, ds = [d, e] ∧ E.nx ((σ.set i (some d)).set j (some e)) M1) :=
  h.imp fun E σ H ⟨σd, M, Dd, a, t, k⟩ => ⟨σd, M, _, a, t, fun ds M1 vs H1 f1 r1 m1 ⟨d, e, ed, q⟩ => by
    subst ed
    obtain ⟨v, w, ev, r2, r3⟩ := repL2 r1
    exact ⟨v, w, ev, k.nx _ _ _ _ f1 (((a.s.keep (f1.keep a.m)).set i (show RelD X.K H1 (some d) (some v) from r2)).set j (show RelD X.K H1 (some e) (some w) from r3)) m1 q⟩⟩
/-- o.f = value -/
theorem putF_zip {f : Str} {d : D} {v : V} {K : PySem.W.Frag} {H : Hp} (rv : Rep K H d v) : ∀ {ks : List Str} {ds : List D} {vs : List V}, ks.length = vs.length → RepL K H ds vs →
    ∃ ws, putF f v (ks.zip vs) = (putFD ks ds f d).1.zip ws ∧ (putFD ks ds f d).1.length = ws.length ∧ RepL K H (putFD ks ds f d).2 ws
  | [], ds, vs, hl, r => by
    cases vs with
    | nil => exact ⟨[v], rfl, rfl, .cons rv .nil⟩
    | cons => simp at hl
  | k :: ks, ds, [], hl, _ => by simp at hl
  | k :: ks, [], v' :: vs, hl, r => by have := r.nil_inv; cases this
  | k :: ks, d' :: ds, v' :: vs, hl, r => by
    obtain ⟨_, _, e, r1, r2⟩ := r.cons_inv
    cases e
    unfold putFD
    show ∃ ws, putF f v ((k, v') :: ks.zip vs) = _ ∧ _
    unfold putF
    by_cases hk : k = f
    · rw [if_pos hk, if_pos hk]
      exact ⟨v :: vs, rfl, hl, .cons rv r2⟩
    · rw [if_neg hk, if_neg hk]
      obtain ⟨ws, h1, h2, h3⟩ := putF_zip (f := f) rv (ks := ks) (by simpa using hl) r2
      refine ⟨v' :: ws, ?_, by rw [List.length_cons, List.length_cons, h2], .cons r1 h3⟩
      rw [h1]
      rfl
theorem ls_fld {o e : Expr} {f : Str} {pos' : Pos} {to te : DE} {fl : Str → Str → Bool} (hf : ∀ C, fl C f = true → Cls X.K (He.ga X.K C) ∧ NoAttr X.K (He.ga X.K C) f) (ho : PE X o (LE X.K B to)) (he : PE X e (LE X.K B te)) :
    PS X (.Assign [.Attribute o f pos'] e pos) (LS X.K B fun E σ M => te σ M fun y M1 => to σ M1 fun x M2 => ∃ p C ks vs, x = .ref p ∧ M2 p = some (.ins C ks vs) ∧ fl C f = true ∧ ks.length < 1000 ∧ E.nx σ (up M2 p (.ins C (putFD ks vs f y).1 (putFD ks vs f y).2))) :=
  (ps_fld ho he sw_attr).imp fun E σ H ⟨σd, M, Dd, a, t, k⟩ => LE.seq a t fun d M1 v H1 f1 a1 r1 q1 => LE.seq a1 q1 fun d2 M2 v2 H2 f2 a2 r2 ⟨p, C, ks, ds, e1, e2, e3, hz, q⟩ => by
    subst e1
    obtain ⟨dx, vs, hs, hl, rl⟩ := a2.m _ _ e2
    obtain ⟨c, n⟩ := hf C e3
    have rd : Rep X.K H2 d v := a1.rep f2 r1
    obtain ⟨ws, h1, h2, h3⟩ := putF_zip (f := f) rd hl rl
    have k2 : KeepF H2 (upd H2 p (.ins (He.ga X.K C) dx ((putFD ks ds f d).1.zip ws))) := .mut (a2.m.mut e2)
    refine ⟨p, _, dx, _, rep_ref r2, hs, c, n, by rw [List.length_zip, ← hl, Nat.min_self]; exact hz, ?_⟩
    rw [h1]
    exact k.nx _ _ _ _ ((f1.trans f2).trans (.put e2)) (a2.s.keep k2) (a2.m.put (d := .ins C (putFD ks ds f d).1 (putFD ks ds f d).2) e2 ⟨dx, ws, upd_same, h2, h3.keep k2⟩) q
/-! loops -/
theorem ls_while {c : Expr} {body : List Stmt} {tc : DT} {tb : DS} (hp : PassesOwn (model X.prog X.w) X.A X.env X.xe) (hc : PT X c (LT X.K B tc)) (hb : PSs X body (LS X.K B tb)) : PS X (.While c body [] pos) (LS X.K B fun E σ M => ∃ n, whD tc tb E n σ M) := by
  refine (ps_while hp hc hb).imp fun E σ H ⟨σd, M, Dd, a, ⟨n, t⟩, k⟩ => ?_
  refine ⟨fun m σ' H' => ∃ σd' M', Fr M H M' H' ∧ At X.K B H' σd' M' σ' ∧ whD tc tb Dd m σd' M', ⟨n, σd, M, .refl, a, t⟩, ?_⟩
  rintro m σ1 H1 ⟨σd1, M1, f1, a1, q⟩
  cases m with
  | zero => exact q.elim
  | succ m =>
    refine LT.seq a1 q fun b M2 H2 f2 a2 q2 => ?_
    cases b with
    | true =>
      rw [if_pos rfl]
      refine ⟨fun σ' H' => ∃ σd' M', Fr M H M' H' ∧ At X.K B H' σd' M' σ' ∧ whD tc tb Dd m σd' M', fun σ' H' h => ⟨m, Nat.lt_succ_self m, h⟩, σd1, M2, _, a2, q2.1 rfl, ?_⟩
      have F := f1.trans f2
      exact ⟨fun σd' M' σ' H' f s m q => ⟨σd', M', F.trans f, ⟨a2.b.trans f, s, m⟩, q⟩, fun d M' v H' f => k.rt d M' v H' (F.trans f), fun σd' M' σ' H' f => k.nx σd' M' σ' H' (F.trans f),
        fun σd' M' σ' H' f s m q => ⟨σd', M', F.trans f, ⟨a2.b.trans f, s, m⟩, q⟩⟩
    | false =>
      rw [if_neg Bool.false_ne_true]
      exact k.nx _ _ _ _ (f1.trans f2) a2.s a2.m (q2.2 rfl)
theorem ls_for {tg iter : Expr} {body : List Stmt} {tI : DI} {g : DG} {tb : DS} {ws : List Nat} (hp : PassesOwn (model X.prog X.w) X.A X.env X.xe) (hc : X.calm = true) (hi : PI X tg iter (LI X.K B tI)) (hg : PG X tg (LGw X.K B ws g)) (hb : PSs X body (LS X.K B tb)) (hs : ∀ x, foldedSetIterable iter X.env x = pure x) :
    PS X (.For tg iter body [] pos) (LS X.K B fun E σ M => tI σ M fun xs stab M1 => forD stab g tb E xs σ M1) := by
  refine (ps_for hp hc hi hg hb hs).imp fun E σ H ⟨σd, M, Dd, a, t, k⟩ => ?_
  refine ⟨σd, M, _, a, t, fun xs stab M1 J H1 f1 m1 ok r => ?_⟩
  refine ⟨fun i m σ' H' => ∃ σd' M', m = xs.length - i ∧ i ≤ xs.length ∧ Fr M1 H1 M' H' ∧ At X.K B H' σd' M' σ' ∧ forD stab g tb Dd (xs.drop i) σd' M', ⟨xs.length, σd, M1, by simp, Nat.zero_le _, .refl, a.go f1 m1, r⟩, ?_⟩
  rintro i m σ1 Hc ⟨σd1, Mc, rfl, hi, fc, ac, q⟩
  rcases drop_cases (xs := xs) (i := i) with ⟨hlt, x, hx, ed⟩ | ⟨hge, ed⟩
  · rw [ed] at q
    unfold forD at q
    obtain ⟨hst, q⟩ := q
    refine .inr ⟨ok.go i Mc Hc fc ac.m hst hlt, fun σ' H' => ∃ σd' M', i + 1 ≤ xs.length ∧ Fr M1 H1 M' H' ∧ At X.K B H' σd' M' σ' ∧ forD stab g tb Dd (xs.drop (i + 1)) σd' M', fun σ' H' ⟨σd', M', h⟩ => ⟨xs.length - (i + 1), by omega, σd', M', rfl, h⟩, fun xv H' y => ?_⟩
    obtain ⟨d, hd, rd, f', m'⟩ := ok.yld i Mc Hc xv H' fc ac.m hst hlt y
    rw [hx] at hd
    cases hd
    have F1 : Fr M H Mc H' := (f1.trans fc).trans f'
    refine ⟨x, σd1, Mc, _, rd, ac.go f' m', q, fun σd2 M2 σ2 H2 _ f2 s2 m2 q2 => ⟨σd2, M2, _, ⟨(ac.b.trans f').trans f2, s2, m2⟩, q2, ?_⟩⟩
    have F2 := F1.trans f2
    have G2 := (fc.trans f').trans f2
    have b2 := (ac.b.trans f').trans f2
    exact ⟨fun σd' M' σ' H' f s m q => ⟨σd', M', hlt, G2.trans f, ⟨b2.trans f, s, m⟩, q⟩, fun d M' v H' f => k.rt d M' v H' (F2.trans f), fun σd' M' σ' H' f => k.nx σd' M' σ' H' (F2.trans f),
      fun σd' M' σ' H' f s m q => ⟨σd', M', hlt, G2.trans f, ⟨b2.trans f, s, m⟩, q⟩⟩
  · have e : i = xs.length := by omega
    subst e
    rw [ed] at q
    exact .inl ⟨ok.stop Mc Hc fc ac.m q.1, k.nx _ _ _ _ (f1.trans fc) ac.s ac.m q.2⟩
end
end RX
set_option Elab.async false
set_option linter.all false
set_option maxRecDepth 100000
set_option maxHeartbeats 4000000
/-! RX11: a checker: does this program's tree read as that compact text? -/
namespace RX
open PySem PySem.Spec PyProof.Rows L2

structure Inf where
  N : List Str
  sc : Scope
  fsc : Option Scope
/-- the world of the defs: the table, the module's values, the fields, the names of keywords that are used -/
structure Wd where
  T : FId → Option CFun
  gl : Str → Option D
  fl : Str → Str → Bool
  kw : List (Str × List Str)
def badNames : List Str := ["__debug__", "__name__", "__classdict__"]
def glB (I : Inf) (x : Str) : Bool := decide (I.sc.names.lookup x = some .globalImplicit) && !(badNames.contains x)
def visB (I : Inf) (i : Nat) (x : Str) : Bool := decide (I.N[i]? = some x) && (match I.sc.names.lookup x with
  | some .local => true
  | some .cell => true
  | some .free => true
  | _ => false) && !(badNames.contains x)
def stoB (I : Inf) (i : Nat) (x : Str) : Bool := decide (I.N[i]? = some x) && (match I.sc.names.lookup x with
  | some .local => true
  | some .cell => (match I.fsc with
    | none => true
    | some s => decide (s.names.lookup x = some .cell))
  | _ => false)
def Inf.blk (I : Inf) (scope : Scope) : Inf := ⟨I.N, relS scope I.sc, some scope⟩
def bfName : BF → Option Str
  | .len => some "len" | .int => some "int" | .str => some "str" | .tuple => some "tuple" | .list => some "list" | .abs => some "abs" | .all => some "all" | .any => some "any" | .sum => some "sum"
  | .repr => some "repr" | .min => some "min" | .max => some "max" | .divmod => some "divmod" | .dict => some "dict" | _ => none
def bmName : BM → Option Str
  | .append => some "append" | .extend => some "extend" | .pop0 => some "pop" | .pop1 => some "pop" | .upper => some "upper" | _ => none
def CEs.none? : CEs → Bool
  | .nil => true
  | _ => false
def isTys : List String := ["bool", "int", "str", "tuple", "list", "dict"]
def mTy1 (I : Inf) : Ty → Expr → Bool
  | .bt n, .Name y _ => decide (y = (n : Str)) && glB I y && decide (n ∈ isTys)
  | _, _ => false
def mTyL (I : Inf) : List Ty → List Expr → Bool
  | [], [] => true
  | t :: ts, e :: es => mTy1 I t e && mTyL I ts es
  | _, _ => false
def mTy (I : Inf) (ts : List Ty) (e : Expr) : Bool := match ts with
  | [t] => mTy1 I t e
  | ts => (match e with
    | .Tuple es _ _ => mTyL I ts es && decide (es.length < 10)
    | _ => false)
def gSlots : CG → List Nat
  | .name i => [i]
  | .tup gs => gSlotsL gs
  | .sub _ _ => []
where gSlotsL : CGs → List Nat
  | .nil => []
  | .cons g gs => gSlots g ++ gSlotsL gs
def CG.isTup : CG → Bool
  | .tup _ => true
  | _ => false
def kwNames (kws : List Keyword) : List (Option Str) := kws.map fun | ⟨n, _, _⟩ => n
section
variable (W : Wd)
mutual
def mE : CE → Inf → Expr → Bool
  | .var i, I, e => (match e with
    | .Name x _ => visB I i x
    | _ => false)
  | .glb y, I, e => (match e with
    | .Name x _ => decide (x = y) && glB I x
    | _ => false)
  | .int i, _, e => (match e with
    | .Constant (.int j) _ _ => decide (i = j)
    | _ => false)
  | .str i, _, e => (match e with
    | .Constant (.str j) _ _ => decide (i = j)
    | _ => false)
  | .bl i, _, e => (match e with
    | .Constant (.bool j) _ _ => decide (i = j)
    | _ => false)
  | .non, _, e => (match e with
    | .Constant .none _ _ => true
    | _ => false)
  | .bin o _ a b, I, e => (match e with
    | .BinOp l op r _ => decide (op = o) && mE a I l && mE b I r
    | _ => false)
  | .neg a, I, e => (match e with
    | .UnaryOp .USub x _ => mE a I x
    | _ => false)
  | .tst t, I, e => mT t true I e
  | .ifx c a b, I, e => (match e with
    | .IfExp t x y _ => mT c false I t && mE a I x && mE b I y
    | _ => false)
  | .tup es, I, e => (match e with
    | .Tuple xs _ _ => mEs es I xs
    | _ => false)
  | .lst _ es, I, e => (match e with
    | .List xs _ => mEs es I xs
    | _ => false)
  | .dct _ ks vs, I, e => ks.none? && vs.none? && (match e with
    | .Dict [] [] _ => true
    | _ => false)
  | .lc _ elt g it ifs own, I, e => (match e with
    | .ListComp x [⟨tg, iter, tests, 0⟩] scope _ => mI it I g.isTup iter && nSet iter && blkC I.N I.sc scope own && ((gSlots g).all fun i => decide (i ∈ own.map (·.2))) && (match tg with | .Tuple _ _ _ => g.isTup | _ => !g.isTup) && mG g (I.blk scope) tg && mTs ifs (I.blk scope) tests && mE elt (I.blk scope) x
    | _ => false)
  | .dc _ k v g it own, I, e => (match e with
    | .DictComp y x [⟨tg, iter, [], 0⟩] scope _ => mI it I g.isTup iter && nSet iter && blkC I.N I.sc scope own && ((gSlots g).all fun i => decide (i ∈ own.map (·.2))) && (match tg with | .Tuple _ _ _ => g.isTup | _ => !g.isTup) && mG g (I.blk scope) tg && mE k (I.blk scope) y && mE v (I.blk scope) x
    | _ => false)
  | .call f args, I, e => (match e with
    | .Call (.Name x _) xs [] _ => decide (x = f) && glB I x && (W.T (f, none)).isSome && mEs args I xs && nStL xs
    | _ => false)
  | .callk f args ks kws, I, e => (match e with
    | .Call (.Name x _) xs (k1 :: kr) _ => decide (x = f) && glB I x && (W.T (f, none)).isSome && mEs args I xs && nStL xs && decide (kwNames (k1 :: kr) = ks.map some) && decide ((f, ks) ∈ W.kw) && mK kws I (k1 :: kr)
    | _ => false)
  | .make C args, I, e => (match e with
    | .Call (.Name x _) xs [] _ => decide (x = C) && glB I x && (W.T (C, none)).isNone && (W.T (C, some "__init__")).isSome && mEs args I xs && nStL xs
    | _ => false)
  | .meth m o args, I, e => (match e with
    | .Call (.Attribute oe name apos) xs [] pos => decide (name = m) && nBase oe && mE o I oe && mEs args I xs && nStL xs && decide (xs.length < 30) && (apos.endLine == pos.line)
    | _ => false)
  | .fld o f, I, e => (match e with
    | .Attribute oe name _ => decide (name = f) && nBase oe && mE o I oe
    | _ => false)
  | .ix a b, I, e => (match e with
    | .Subscript x i _ => nSl i && mE a I x && mE b I i
    | _ => false)
  | .slc _ a lo hi, I, e => (match e with
    | .Subscript x (.Slice l h none _) _ => mE a I x && mO lo I l && mO hi I h
    | _ => false)
  | .rev _ a, I, e => (match e with
    | .Subscript x (.Slice none none (some (.UnaryOp .USub (.Constant (.int 1) _ _) _)) _) _ => mE a I x
    | _ => false)
  | .fn b _ args, I, e => (match e with
    | .Call (.Name x _) (y :: ys) [] _ => decide (bfName b = some x) && glB I x && mEs args I (y :: ys) && nStL (y :: ys)
    | _ => false)
  | .bm m o args, I, e => (match e with
    | .Call (.Attribute oe name apos) xs [] pos => decide (bmName m = some name) && nBase oe && mE o I oe && mEs args I xs && nStL xs && decide (xs.length < 29) && (apos.endLine == pos.line)
    | _ => false)
  | .frz a, I, e => mE a I e
  | .lenset a, I, e => (match e with
    | .Call (.Name x _) [.Call (.Name y _) [z] [] _] [] _ => decide (x = "len") && decide (y = "set") && glB I x && glB I y && mE a I z && nSt z
    | _ => false)
  | .sortset _ a, I, e => (match e with
    | .Call (.Name x _) [.Call (.Name y _) [z] [] _] [] _ => decide (x = "sorted") && decide (y = "set") && glB I x && glB I y && mE a I z && nSt z
    | _ => false)
def mO : CO → Inf → Option Expr → Bool
  | .no, _, o => o.isNone
  | .yes a, I, o => (match o with
    | some x => mE a I x
    | none => false)
def mEs : CEs → Inf → List Expr → Bool
  | .nil, _, l => l.isEmpty
  | .cons a as, I, l => (match l with
    | x :: xs => nSt x && mE a I x && mEs as I xs
    | [] => false)
  | .star _ _, _, _ => false
def mK : CEs → Inf → List Keyword → Bool
  | .nil, _, l => l.isEmpty
  | .cons a as, I, l => (match l with
    | ⟨_, x, _⟩ :: xs => mE a I x && mK as I xs
    | [] => false)
  | .star _ _, _, _ => false
def mT : CT → Bool → Inf → Expr → Bool
  | .val a, v, I, e => mE a I e && (v || plT e)
  | .tru a, v, I, e => !v && mE a I e && plT e
  | .cmp o a b, _, I, e => (match e with
    | .Compare l [op] [r] _ => decide (op = o) && mE a I l && mE b I r && nSet r
    | _ => false)
  | .chain o o' a b c, _, I, e => (match e with
    | .Compare l [op, op'] [r, s] _ => decide (op = o) && decide (op' = o') && mE a I l && mE b I r && mE c I s && nSet s
    | _ => false)
  | .and a b, v, I, e => (match e with
    | .BoolOp .And [x, y] _ => mT a v I x && mT b v I y
    | .BoolOp .And (x :: y :: z :: r) pos => mT a v I x && mT b v I (.BoolOp .And (y :: z :: r) pos)
    | _ => false)
  | .or a b, v, I, e => (match e with
    | .BoolOp .Or [x, y] _ => mT a v I x && mT b v I y
    | .BoolOp .Or (x :: y :: z :: r) pos => mT a v I x && mT b v I (.BoolOp .Or (y :: z :: r) pos)
    | _ => false)
  | .not a, v, I, e => (match e with
    | .UnaryOp .Not x _ => mT a v I x
    | _ => false)
  | .isi a ts, _, I, e => (match e with
    | .Call (.Name f _) [x, t] [] _ => decide (f = "isinstance") && glB I f && mE a I x && nSt x && nSt t && mTy I ts t
    | _ => false)
def mTs : CTs → Inf → List Expr → Bool
  | .nil, _, l => l.isEmpty
  | .cons t ts, I, l => (match ts, l with
    | .nil, [x] => mT t false I x
    | _, _ => false)
def mI : CI → Inf → Bool → Expr → Bool
  | .seq a, I, _, e => mE a I e
  | .range1 a, I, _, e => (match e with
    | .Call (.Name f _) [x] [] _ => decide (f = "range") && glB I f && mE a I x && nSt x
    | _ => false)
  | .range2 a b, I, _, e => (match e with
    | .Call (.Name f _) [x, y] [] _ => decide (f = "range") && glB I f && mE a I x && mE b I y && nSt x && nSt y
    | _ => false)
  | .enum a, I, t, e => t && (match e with
    | .Call (.Name f _) [x] [] _ => decide (f = "enumerate") && glB I f && mE a I x && nSt x
    | _ => false)
  | .zip a b, I, t, e => t && (match e with
    | .Call (.Name f _) [x, y] [] _ => decide (f = "zip") && glB I f && mE a I x && mE b I y && nSt x && nSt y
    | _ => false)
  | _, _, _, _ => false
def mG : CG → Inf → Expr → Bool
  | .name i, I, e => (match e with
    | .Name x _ => stoB I i x
    | _ => false)
  | .tup gs, I, e => (match e with
    | .Tuple es _ _ => mGs gs I es && nStL es
    | _ => false)
  | .sub o i, I, e => (match e with
    | .Subscript x y _ => nSl y && mE o I x && mE i I y
    | _ => false)
def mGs : CGs → Inf → List Expr → Bool
  | .nil, _, l => l.isEmpty
  | .cons g gs, I, l => (match l with
    | x :: xs => nSt x && mG g I x && mGs gs I xs
    | [] => false)
end
/-- a store of two plain names -/
def parB (I : Inf) (i j : Nat) (x y : Str) (px py : Pos) (a b : Expr) : Bool :=
  decide (I.N[i]? = some x) && decide (I.N[j]? = some y) && decide (i ≠ j) && decide (I.sc.names.lookup x = some .local) && decide (I.sc.names.lookup y = some .local) && decide (x ≠ y) && (px.line == py.line) && nSt a && nSt b && !([a, b].all (foldedForSure 8)) && !([a, b].all (constantsAlone 8))
def swB (I : Inf) (x : Str) (px cp : Pos) (scope : Scope) : Bool := decide (I.sc.names.lookup x = some .local) && (px.line == cp.line) && !(scope.names.any fun (n, k) => n == x && (k == .local || k == .cell))
def cellB (I : Inf) : Expr → Bool
  | .Name x _ => !decide (I.sc.names.lookup x = some .local)
  | _ => false
mutual
def mS : CS → Inf → Stmt → Bool
  | .expr a, I, s => (match s with
    | .Expr e _ => mE W a I e && nComp e
    | _ => false)
  | .asg g a, I, s => (match s with
    | .Assign [tg] e _ => mE W a I e && mG W g I tg && (nComp e || cellB I tg) && (match tg with | .Tuple _ _ _ => nTup e | _ => true) && nSt tg
    | _ => false)
  | .setLc i _ elt g it ifs own, I, s => (match s with
    | .Assign [.Name y py] (.ListComp x [⟨tg, iter, tests, 0⟩] scope cp) _ => decide (I.N[i]? = some y) && swB I y py cp scope && mI W it I g.isTup iter && nSet iter && blkC I.N I.sc scope own && ((gSlots g).all fun i => decide (i ∈ own.map (·.2))) && (match tg with | .Tuple _ _ _ => g.isTup | _ => !g.isTup) && mG W g (I.blk scope) tg && mTs W ifs (I.blk scope) tests && mE W elt (I.blk scope) x
    | _ => false)
  | .setf o f a, I, s => (match s with
    | .Assign [.Attribute oe name _] e _ => decide (name = f) && mE W o I oe && mE W a I e
    | _ => false)
  | .par2 i j a b, I, s => (match s with
    | .Assign [.Tuple [.Name x px, .Name y py] _ _] (.Tuple [u, v] _ _) _ => parB I i j x y px py u v && mE W a I u && mE W b I v
    | _ => false)
  | .aug _ _ _, _, _ => false
  | .ret a, I, s => (match s with
    | .Return (some e) _ => mE W a I e
    | _ => false)
  | .retN, _, s => (match s with
    | .Return none _ => true
    | _ => false)
  | .ite c a b, I, s => (match s with
    | .If t u v _ => mT W c false I t && mSs a I u && mSs b I v
    | _ => false)
  | .for_ g it b, I, s => (match s with
    | .For tg iter body [] _ => mI W it I g.isTup iter && nSet iter && (match tg with | .Tuple _ _ _ => g.isTup | _ => !g.isTup) && mG W g I tg && mSs b I body
    | _ => false)
  | .while_ c b, I, s => (match s with
    | .While t body [] _ => mT W c false I t && mSs b I body
    | _ => false)
  | .pass, _, s => (match s with
    | .Pass _ => true
    | _ => false)
  | .brk, _, s => (match s with
    | .Break _ => true
    | _ => false)
  | .cont, _, s => (match s with
    | .Continue _ => true
    | _ => false)
  | .never, _, _ => true
def mSs : CSs → Inf → List Stmt → Bool
  | .nil, _, l => l.isEmpty
  | .cons s ss, I, l => (match l with
    | x :: xs => mS s I x && mSs ss I xs
    | [] => false)
end
end
end RX
set_option Elab.async false
set_option linter.all false
set_option maxRecDepth 100000
set_option maxHeartbeats 4000000
namespace RX
open PySem PySem.Spec PyProof.Rows L2
section
variable {X : Cx} {B : Bs} {fz : Bool} {a : Expr} {ta : DE} {p p2 q pos : Pos}
theorem strs_of {K : PySem.W.Frag} {H : Hp} {zs : List Str} {vs : List V} (r : RepL K H (zs.map D.str) vs) : vs = zs.map V.str := repL_map (g := V.str) (fun b v h => rep_str h) r
theorem set_len {es : Array (Int × Value)} {L : List Str} (p : (es.toList.map sgo).Perm L) : es.size = L.length := by
  have := p.length_eq
  rw [List.length_map, Array.length_toList] at this
  exact this
theorem le_lenset (hc : X.calm = true) (hg : Gl X "len") (hm : X.mg "len" = none) (hg2 : Gl X "set") (hm2 : X.mg "set" = none) (ha : PE X a (LE X.K B ta)) (na : starEach [a] X.env = (false, eval a X.env) :: starEach [] X.env) :
    PE X (.Call (.Name "len" p) [.Call (.Name "set" p2) [a] [] q] [] pos) (LE X.K B fun σ M Q => ta σ M fun x M1 => rdLenSet x M1 Q) := by
  refine pe_of fun pins s σ H σd M Qd I at' ht => ?_
  refine Call_ (ld_blt I hg hm boot_len (PyProof.Rows.callWith_builtin1 (PyProof.Rows.args_cons ?_ rfl) rfl rfl))
  refine Call_ (ld_blt I hg2 hm2 boot_set ?_)
  refine PyProof.Rows.callWith_type1 (PyProof.Rows.args_cons (thn (PE.at ha I at' ht) fun v s1 ⟨d, M1, x, H1, I1, r1, f1, rr, m1, zs, e, hz, q1⟩ => PyProof.Rows.args_nil ?_) na) na rfl
  obtain ⟨l, vs, rfl, hl, rl⟩ := lsOf_rep e rr m1
  cases strs_of rl
  cases r1
  obtain ⟨its, rv, pl, _⟩ := I1.list hl.sql
  refine ss_call zs (I1.ok.hd hc) pl.isList (by simpa using rv) (by unfold scanBound; omega) fun h' tk R k => ?_
  refine PyProof.Rows.args_nil ?_
  obtain ⟨o, es, ep, t, ho, hx, hd, _, p1, _, tb⟩ := R
  have I2 : Inv X pins σ H1 { s1 with heap := h', toks := tk } := I1.kept fun b o e => k b o e
  have hsz := set_len p1
  have hdl := dedup_len zs
  refine call_len_set ho hx hd tb.fit (by omega) ?_
  rw [← hsz] at q1
  exact EPD.pre f1 (fin_ (v := .int _) (I2.tok _) ⟨_, rfl⟩ m1 (mk_int _) q1)
theorem set_sorted {pins : List (Addr × Obj)} {σ : SV} {H1 : Hp} {s2 : Shared} {M1 : MM} {Qd : DV} {zs : List Str} {p : Addr} (hc : X.calm = true) (I2 : Inv X pins σ H1 s2) (m1 : RepM X.K M1 H1) (R : SsR X.prog X.w s2.heap p (dedup zs)) (hz : zs.length < 64)
    (q1 : ∀ ys : List Str, ys.Perm (dedup zs) → sortedS ys = true → newL fz (ys.map D.str) M1 Qd) : wpAny (model X.prog X.w) X.A (call (.builtin "sorted") [.ref p]) (EPD X pins σ M1 H1 Qd) X.xe s2 := by
  have hdl := dedup_len zs
  refine ss_sorted R (I2.ok.hd hc) (by omega) fun s' p out c ys k2 g o hp hg2 hs pm so => ?_
  have hn : H1 p = none := I2.hok.fresh hp
  have hl2 := pm.length_eq
  have hv : Vals (ys.map V.str) out.toList := by
    clear pm so hl2 q1
    generalize out.toList = us at hs
    induction hs with
    | nil => exact .nil
    | cons z t _ ih => exact .cons ⟨t, rfl⟩ ih
  have J : Inv X pins σ (upd H1 p (.lst (ys.map V.str))) { s2 with heap := s'.heap, gens := s'.gens, drawn := s'.drawn, toks := s'.toks } :=
    I2.call (ch := []) (Un.laid k2 hp hn) (I2.hok.laid k2 hp ⟨by rw [List.length_map, sizeLine_eq]; omega, out.toList, c, hv, hg2⟩) (by rw [g]; exact I2.bare) (fun _ z => nomatch z)
  have e2 : s' = { s2 with heap := s'.heap, gens := s'.gens, drawn := s'.drawn, toks := s'.toks } := by
    cases s'; cases s2; cases o; rfl
  rw [e2]
  have rs : RepL X.K H1 (ys.map D.str) (ys.map V.str) := by
    clear hv J pm so hl2 hs
    induction ys with
    | nil => exact .nil
    | cons y ys ih => exact .cons (mk_str y) ih
  exact fin_newL J hn m1 rs (q1 ys pm so)
theorem le_sortset (hc : X.calm = true) (hg : Gl X "sorted") (hm : X.mg "sorted" = none) (hg2 : Gl X "set") (hm2 : X.mg "set" = none) (ha : PE X a (LE X.K B ta)) (na : starEach [a] X.env = (false, eval a X.env) :: starEach [] X.env) :
    PE X (.Call (.Name "sorted" p) [.Call (.Name "set" p2) [a] [] q] [] pos) (LE X.K B fun σ M Q => ta σ M fun x M1 => rdSortSet fz x M1 Q) := by
  refine pe_of fun pins s σ H σd M Qd I at' ht => ?_
  refine Call_ (ld_blt I hg hm boot_sorted (PyProof.Rows.callWith_builtin1 (PyProof.Rows.args_cons ?_ rfl) rfl rfl))
  refine Call_ (ld_blt I hg2 hm2 boot_set ?_)
  refine PyProof.Rows.callWith_type1 (PyProof.Rows.args_cons (thn (PE.at ha I at' ht) fun v s1 ⟨d, M1, x, H1, I1, r1, f1, rr, m1, zs, e, hz, q1⟩ => PyProof.Rows.args_nil ?_) na) na rfl
  obtain ⟨l, vs, rfl, hl, rl⟩ := lsOf_rep e rr m1
  cases strs_of rl
  cases r1
  obtain ⟨its, rv, pl, _⟩ := I1.list hl.sql
  refine ss_call zs (I1.ok.hd hc) pl.isList (by simpa using rv) (by unfold scanBound; omega) fun h' tk R k => ?_
  refine PyProof.Rows.args_nil ?_
  have I2 : Inv X pins σ H1 { s1 with heap := h', toks := tk } := I1.kept fun b o e => k b o e
  exact wpAny_mono (set_sorted (fz := fz) (Qd := Qd) hc I2 m1 R hz q1) (fun _ _ h => EPD.pre f1 h) (fun _ _ h => h)
end
end RX
set_option Elab.async false
set_option linter.all false
set_option maxRecDepth 100000
set_option maxHeartbeats 4000000
/-! RX11c: dict of pairs, dict of a dict. -/
namespace RX
open PySem PySem.Spec PyProof.Rows L2
section
variable {X : Cx}
theorem prs_of {pins : List (Addr × Obj)} {σ : SV} {H : Hp} {s : Shared} (I : Inv X pins σ H s) : ∀ {l : List (Key × D)} {xs : List D} {vs : List V}, prD xs = some l → RepL X.K H xs vs →
    ∃ (as : List Addr) (us : List Value) (prs : List (Key × Value)) (ws : List V), vs = as.map V.ref ∧ as.length = l.length ∧ us.length = l.length ∧ ws.length = l.length ∧ KV ((l.map (·.1)).zip ws) prs ∧ RepL X.K H (l.map (·.2)) ws ∧
      ∀ (j : Nat) (q : Key × Value), prs[j]? = some q → ∃ (b : Addr) (u : Value), as[j]? = some b ∧ us[j]? = some u ∧ s.heap.IsTuple b #[u, q.2] ∧ (mixKind X.prog X.w).is q.1 u = true
  | l, [], vs, e, r => by
    have := r.nil_inv
    subst this
    cases e
    exact ⟨[], [], [], [], rfl, rfl, rfl, rfl, .nil, .nil, fun j q e => by simp at e⟩
  | l, x :: xs, vs, e, r => by
    obtain ⟨v, vs', ev, r1, r2⟩ := r.cons_inv
    subst ev
    unfold prD at e
    split at e
    · rename_i he
      cases he
    · rename_i k v' xs' he
      injection he with e1 e2
      subst e1 e2
      split at e
      · rename_i key l' hk hl
        cases e
        obtain ⟨as, us, prs, ws, ea, h1, h2, h3, kv, rl, hp⟩ := prs_of I hl r2
        obtain ⟨a, ts, ev, ht, rt⟩ := rep_tup r1
        subst ev
        obtain ⟨x1, ts1, et, q1, rt1⟩ := rt.cons_inv
        subst et
        obtain ⟨x2, ts2, et, q2, rt2⟩ := rt1.cons_inv
        subst et
        have := rt2.nil_inv
        subst this
        obtain ⟨its, rv, htu, _⟩ := I.tuple ht
        obtain ⟨u, y, ei, ru, ry⟩ := vals2 rv
        subst ei
        subst ea
        have ek := keyOf_rep hk q1
        subst ek
        refine ⟨a :: as, u :: us, (key, y) :: prs, x2 :: ws, rfl, by simp [h1], by simp [h2], by simp [h3], .cons ⟨rfl, ry⟩ kv, .cons q2 rl, fun j q e => ?_⟩
        cases j with
        | zero =>
          have e' : (key, y) = q := Option.some.inj e
          subst e'
          exact ⟨a, u, rfl, rfl, isTup_is htu, kV_is ru⟩
        | succ j =>
          obtain ⟨b, u', g1, g2, g3, g4⟩ := hp j q (by simpa using e)
          exact ⟨b, u', by simpa using g1, by simpa using g2, g3, g4⟩
      · cases e
    · cases e
theorem mergeD_zip {K : PySem.W.Frag} {H : Hp} : ∀ {l : List (Key × D)} {ws : List V} {ks : List Key} {ds : List D} {vs : List V}, ws.length = l.length → RepL K H (l.map (·.2)) ws → ks.length = vs.length → RepL K H ds vs →
    ∃ us, mergeK (ks.zip vs) ((l.map (·.1)).zip ws) = (mergeD ks ds l).1.zip us ∧ (mergeD ks ds l).1.length = us.length ∧ RepL K H (mergeD ks ds l).2 us
  | [], ws, ks, ds, vs, e, r, hl, rl => by
    refine ⟨vs, ?_, hl, rl⟩
    simp [mergeK, mergeD]
  | kv :: l, ws, ks, ds, vs, e, r, hl, rl => by
    cases ws with
    | nil => simp at e
    | cons w ws =>
      obtain ⟨v', ws', ev, r1, r2⟩ := RepL.cons_inv r
      cases ev
      obtain ⟨us, e1, e2, e3⟩ := putK_zip (k := kv.1) r1 hl rl
      obtain ⟨us2, g1, g2, g3⟩ := mergeD_zip (l := l) (by simpa using e) r2 e2 e3
      refine ⟨us2, ?_, g2, g3⟩
      show mergeK (putK (ks.zip vs) kv.1 w) ((l.map (·.1)).zip ws) = (mergeD (putKD ks ds kv.1 kv.2).1 (putKD ks ds kv.1 kv.2).2 l).1.zip us2
      rw [e1]
      exact g1
theorem pairsSeq {pins : List (Addr × Obj)} {σ : SV} {H : Hp} {s : Shared} {as : List Addr} {us : List Value} {prs : List (Key × Value)} {n : Nat} (h1 : as.length = n) (h2 : us.length = n) (h3 : prs.length = n)
    (hp : ∀ (j : Nat) (q : Key × Value), prs[j]? = some q → ∃ (b : Addr) (u : Value), as[j]? = some b ∧ us[j]? = some u ∧ s.heap.IsTuple b #[u, q.2] ∧ (mixKind X.prog X.w).is q.1 u = true) :
    PairItems s.heap (as.map Value.ref).toArray (fun j => as.getD j sysModules) (us.zip (prs.map (·.2))) ∧ PairsHave (mixKind X.prog X.w) (us.zip (prs.map (·.2))).length (PairRel (us.zip (prs.map (·.2)))) prs := by
  have hz : (us.zip (prs.map (·.2))).length = n := by simp [h2, h3]
  have at' : ∀ (j : Nat) (k v : Value), (us.zip (prs.map (·.2)))[j]? = some (k, v) → ∃ q, prs[j]? = some q ∧ us[j]? = some k ∧ q.2 = v := fun j k v e => by
    rw [List.getElem?_zip_eq_some] at e
    obtain ⟨g1, g2⟩ := e
    rw [List.getElem?_map] at g2
    obtain ⟨q, g3, g4⟩ := Option.map_eq_some_iff.mp g2
    exact ⟨q, g3, g1, g4⟩
  refine ⟨⟨by simp [h1, hz], fun j k v e => ?_⟩, by rw [hz, h3], fun i key v e => ?_⟩
  · obtain ⟨q, g1, g2, g3⟩ := at' j k v e
    obtain ⟨b, u, c1, c2, c3, c4⟩ := hp j q g1
    rw [g2] at c2
    cases c2
    subst g3
    refine ⟨by simp [c1], .inl ?_⟩
    show s.heap.IsTuple (as.getD j sysModules) _
    rw [List.getD_eq_getElem?_getD, c1]
    exact c3
  · obtain ⟨q, g1, g2, g3⟩ := at' i key v e
    obtain ⟨b, u, c1, c2, c3, c4⟩ := hp i q g1
    rw [g2] at c2
    cases c2
    subst g3
    exact ⟨q.1, g1, c4⟩
theorem c_dict (hc : X.calm = true) {fz : Bool} : CallD X (.type "dict") (fun ds M Q => match ds with | [d] => rdDict fz d M Q | _ => False) := by
  refine d1 (rd := fun d M Q => rdDict fz d M Q) ?_
  intro pins s σ H x u d M Qd I rx r m q
  have pairs : (∃ xs l, sqOf M d = some xs ∧ prD xs = some l ∧ newD fz (mergeD [] [] l).1 (mergeD [] [] l).2 M Qd) → wpAny (model X.prog X.w) X.A (call (.type "dict") [u]) (EPD X pins σ M H Qd) X.xe s := by
    rintro ⟨xs, l, e, hl, q⟩
    have key : ∃ (a : Addr) (vs : List V), x = .ref a ∧ RepL X.K H xs vs ∧ ∃ its : List Value, Vals vs its ∧ vs.length ≤ sizeLine ∧ (PlainSeq "list" s.heap a its.toArray ∨ PlainSeq "tuple" s.heap a its.toArray) := by
      unfold sqOf at e
      split at e
      · cases e
        obtain ⟨a, vs, e1, ht, r2⟩ := rep_tupS r
        refine ⟨a, vs, e1, r2, ?_⟩
        rcases ht with ⟨o, ho, hd⟩ | ⟨o, its, n, hk, hcl, hd, hdat, hz, rv⟩
        · obtain ⟨h1, z, its, rv, o', h2, h3, n, h4⟩ := I.hok a _ ho
          rw [h1] at h2
          cases h2
          exact ⟨its, rv, z, .inr ⟨o, n, h1, h3, hd, h4⟩⟩
        · exact ⟨its.toList, rv, by rw [rv.length, Array.length_toList]; exact hz, .inr ⟨o, n, I.kIn a o hk, hcl, hd, by simpa using hdat⟩⟩
      · obtain ⟨a, vs, e1, h, r2⟩ := lsOf_rep e r m
        obtain ⟨its, rv, ⟨o, n, ho, hcl, hd, hdat⟩, hz⟩ := I.list h.sql
        exact ⟨a, vs, e1, r2, its, rv, hz, .inl ⟨o, n, ho, hcl, hd, hdat⟩⟩
    obtain ⟨a, vs, ex, r2, its, rv, hz, ps⟩ := key
    subst ex
    cases rx
    obtain ⟨as, us, prs, ws, ea, h1, h2, h3, kv, rl, hp⟩ := prs_of I hl r2
    subst ea
    have ei := refs_at rv
    subst ei
    have hlen : prs.length = l.length := by
      have := kv.length
      rw [List.length_zip, List.length_map, h3, Nat.min_self] at this
      exact this.symm
    obtain ⟨pi, ph⟩ := pairsSeq (X := X) (pins := pins) (σ := σ) (H := H) (s := s) h1 h2 hlen hp
    have hz2 : (us.zip (prs.map (·.2))).length ≤ sizeLine := by
      rw [List.length_map, h1] at hz
      simp only [List.length_zip, List.length_map, h2, hlen, Nat.min_self]
      exact hz
    have fin : ∀ (h' : Heap) (tk : Nat), h'.DictOf (mixKind X.prog X.w) s.heap.objs.size (merged [] prs) → (∀ b o, b ∉ ([] : List Addr) → s.heap.get? b = some o → h'.get? b = some o) → EPD X pins σ M H Qd (.ref s.heap.objs.size) { s with heap := h', toks := tk } := fun h' tk hd' k => by
      obtain ⟨ys, e1, e2, e3⟩ := mergeD_zip (K := X.K) (H := H) (ks := []) (ds := []) (vs := []) h3 rl rfl .nil
      have hm : (s.heap.objs.size == sysModules) = false := beq_eq_false_iff_ne.mpr (Nat.ne_of_gt I.big)
      have hn : H s.heap.objs.size = none := I.hok.fresh (Nat.le_refl _)
      have hlen2 : (mergeK [] ((l.map (·.1)).zip ws)).length ≤ sizeLine := by
        refine Nat.le_trans (length_mergeK _ []) ?_
        simp only [List.length_nil, List.length_zip, List.length_map, h3, Nat.min_self, Nat.zero_add]
        rw [List.length_map, h1] at hz
        exact hz
      have e1 : mergeK [] ((l.map (·.1)).zip ws) = (mergeD [] [] l).1.zip ys := e1
      have J : Inv X pins σ (upd H s.heap.objs.size (.dK ((mergeD [] [] l).1.zip ys))) { s with heap := h', toks := tk } := I.laid (t' := tk) (fun b o e => k b o (by simp) e) (Nat.le_refl _)
        (show ObjOk X.prog X.w _ _ _ (.dK ((mergeD [] [] l).1.zip ys)) from ⟨by rw [← e1]; exact hlen2, hm, merged [] prs, by rw [← e1]; exact KV.merge kv .nil, hd'⟩)
      exact fin_newD J hn m e2 e3 q
    rcases ps with ps | ps
    · exact PySem.call_dict_pairs (PairArg.list (prog := X.prog) (w := X.w) a _ (fun j => as.getD j sysModules) _) (I.ok.hd hc) ⟨ps, pi⟩ ph hz2 fin
    · exact PySem.call_dict_pairs (PairArg.tuple (prog := X.prog) (w := X.w) a _ (fun j => as.getD j sysModules) _) (I.ok.hd hc) ⟨ps, pi⟩ ph hz2 fin
  unfold rdDict at q
  split at q
  · obtain ⟨a, o, vs, ex, h, hl, r2⟩ := rep_dct r
    subst ex
    refine thn (call_dictD pins s σ H _ _ (fun v H' => ∃ p, v = .ref p ∧ H p = none ∧ H' = upd H p _) I (v1 rx) ⟨a, _, rfl, .inr ⟨o, h⟩, fun p hp => ⟨p, rfl, hp, rfl⟩⟩) fun u s' e => ?_
    obtain ⟨v, H', J, rv, p, rfl, hp, rfl⟩ := e
    cases rv
    exact fin_newD J hp m hl r2 q
  · exact pairs q
end
end RX
set_option Elab.async false
set_option linter.all false
set_option maxRecDepth 100000
set_option maxHeartbeats 4000000
/-! RX12: what the checker takes is sound. -/
namespace RX
open PySem PySem.Spec PyProof.Rows L2

def bNames : List Str := ["len", "int", "str", "tuple", "list", "abs", "all", "any", "sum", "repr", "min", "max", "divmod", "dict", "range", "enumerate", "zip", "isinstance", "bool", "set", "sorted"]
def gamW (W : Wd) (p q : FId → CallT) : Gam := ⟨fun x => match W.T (x, none) with | some c => c.ps | none => (match W.T (x, some "__init__") with | some c => c.ps | none => []), fun C m => (W.T (C, some m)).isSome, fun x => p (x, none), fun C m => p (C, some m), fun C => q (C, some "__init__"), W.gl, W.fl⟩
structure WOk (P : Program) (w : World) (K : PySem.W.Frag) (mg : Str → Option Value) (base : Heap) (W : Wd) (p q : FId → CallT) (k : Nat) : Prop where
  fn : ∀ f c, W.T (f, none) = some c → ∃ fa fd, mg f = some (.ref fa) ∧ PySem.W.keepIn K (.ref fa) = true ∧ Binds K fd c.ps [] ∧ (∀ ks, (f, ks) ∈ W.kw → KwB K fd c.ps ks) ∧ FnG P w K mg base k fa fd c.ps (p (f, none))
  meth : ∀ C m c, W.T (C, some m) = some c → ∃ fa fd, Cls K (He.ga K C) ∧ Meth K (He.ga K C) m fa ∧ Binds K fd c.ps [] ∧ FnG P w K mg base k fa fd c.ps (p (C, some m))
  init : ∀ C c, W.T (C, some "__init__") = some c → ∃ j fa fd, j + 1 ≤ k ∧ mg C = some (.ref (He.ga K C)) ∧ Mk K (He.ga K C) fa ∧ Binds K fd c.ps [] ∧ FnG P w K mg base j fa fd c.ps (q (C, some "__init__"))
  glob : ∀ x d, W.gl x = some d → ∃ u v, mg x = some u ∧ RelV v u ∧ ∀ H, Rep K H d v
  fld : ∀ C f, W.fl C f = true → Cls K (He.ga K C) ∧ NoAttr K (He.ga K C) f
  bn : ∀ x ∈ bNames, mg x = none
structure Okk (X : Cx) (I : Inf) (k : Nat) : Prop where
  calm : X.calm = true
  gd : X.A.guards = some []
  room : Room k X.A
  N : X.N = I.N
  nd : I.N.Nodup
  sc : X.env.scope = I.sc
  fn : ∀ x, (match I.fsc with | none => true | some s => decide (s.names.lookup x = some .cell)) = true → X.fn x = true
  own : PassesOwn (model X.prog X.w) X.A X.env X.xe
theorem Okk.blk {X : Cx} {I : Inf} {k : Nat} (O : Okk X I k) (scope : Scope) (s : Shared) (H : Hp) (C : Addr) (cl : List (Str × Addr)) (fp : List Addr) : Okk (X.blk s H scope (compEnvC scope cl C X.env) fp) (I.blk scope) k where
  calm := O.calm
  gd := O.gd
  room := O.room
  N := O.N
  nd := O.nd
  sc := by
    show relS scope X.env.scope = relS scope I.sc
    rw [O.sc]
  fn := fun x h => by
    show (scope.names.lookup x == some .cell) = true
    have h' : decide (scope.names.lookup x = some .cell) = true := h
    rw [beq_iff_eq]
    exact of_decide_eq_true h'
  own := PassesOwn.never
section
variable {X : Cx} {I : Inf} {k : Nat}
theorem notBad {x : Str} (h : (!(badNames.contains x)) = true) : (x == ("__debug__" : Str)) = false ∧ x ≠ "__name__" ∧ (x == ("__classdict__" : Str)) = false := by
  have h' : x ∉ badNames := by simpa using h
  simp only [badNames, List.mem_cons, List.not_mem_nil, or_false, not_or] at h'
  exact ⟨beq_eq_false_iff_ne.mpr h'.1, h'.2.1, beq_eq_false_iff_ne.mpr h'.2.2⟩
theorem gl_of {x : Str} (O : Okk X I k) (h : glB I x = true) : Gl X x ∧ (x == ("__debug__" : Str)) = false ∧ x ≠ "__name__" := by
  unfold glB at h
  rw [Bool.and_eq_true] at h
  obtain ⟨h1, h2, _⟩ := notBad h.2
  refine ⟨?_, h1, h2⟩
  show X.env.scope.names.lookup x = _
  rw [O.sc]
  exact of_decide_eq_true h.1
theorem vis_of {i : Nat} {x : Str} (O : Okk X I k) (h : visB I i x = true) : X.N[i]? = some x ∧ Vis X.env.scope x ∧ (x == ("__debug__" : Str)) = false ∧ (x == ("__classdict__" : Str)) = false := by
  unfold visB at h
  rw [Bool.and_eq_true, Bool.and_eq_true] at h
  obtain ⟨h1, _, h2⟩ := notBad h.2
  refine ⟨by rw [O.N]; exact of_decide_eq_true h.1.1, ?_, h1, h2⟩
  unfold Vis
  rw [O.sc]
  have h3 := h.1.2
  split at h3
  · exact .inl (by assumption)
  · exact .inr (.inl (by assumption))
  · exact .inr (.inr (by assumption))
  · cases h3
theorem sto_of {i : Nat} {x : Str} (O : Okk X I k) (h : stoB I i x = true) : X.N[i]? = some x ∧ L2.Loc X.env.scope x ∧ (X.fn x = true ∨ X.env.scope.names.lookup x = some .local) := by
  unfold stoB at h
  rw [Bool.and_eq_true] at h
  refine ⟨by rw [O.N]; exact of_decide_eq_true h.1, ?_⟩
  unfold L2.Loc
  rw [O.sc]
  have h3 := h.2
  split at h3
  · exact ⟨.inl (by assumption), .inr (by assumption)⟩
  · exact ⟨.inr (by assumption), .inl (O.fn x h3)⟩
  · cases h3
end
theorem cd_imp {X : Cx} {f : Value} {rd rd' : RDF} (h : CallD X f rd) (i : ∀ ds M Q, rd' ds M Q → rd ds M Q) : CallD X f rd' := fun pins s σ H xs us ds M Qd I rv rl m q => h pins s σ H xs us ds M Qd I rv rl m (i _ _ _ q)
inductive BfV : BF → Value → Prop where
  | b {b : BF} {id : String} (n : bfName b = some (Str.ofString id)) (h : bootBuiltins (Str.ofString id) = some (.builtin id)) : BfV b (.builtin id)
  | t {b : BF} {T : String} (n : bfName b = some (Str.ofString T)) (h : bootBuiltins (Str.ofString T) = some (.type T)) : BfV b (.type T)
theorem bf_call {X : Cx} {k : Nat} (hc : X.calm = true) (hgd : X.A.guards = some []) (hr : Room k X.A) (b : BF) (fz : Bool) (n : Str) (hn : bfName b = some n) : ∃ v, BfV b v ∧ n ∈ bNames ∧ CallD X v (rdF b fz) := by
  have hu := hr.units
  have hu2 := hr.un
  cases b with
  | len => cases hn; exact ⟨_, .b rfl boot_len, by decide, cd_imp c_len fun ds M Q q => by match ds, q with | [d], q => exact q | [], q => exact q | _ :: _ :: _, q => exact q⟩
  | int => cases hn; exact ⟨_, .t rfl PyProof.Rows.boot_int, by decide, cd_imp c_int fun ds M Q q => by match ds, q with | [d], q => exact q | [], q => exact q | _ :: _ :: _, q => exact q⟩
  | str => cases hn; exact ⟨_, .t rfl PyProof.Rows.boot_str, by decide, cd_imp c_str fun ds M Q q => by match ds, q with | [d], q => exact q | [], q => exact q | _ :: _ :: _, q => exact q⟩
  | tuple => cases hn; exact ⟨_, .t rfl PyProof.Rows.boot_tuple, by decide, cd_imp c_tuple fun ds M Q q => by match ds, q with | [d], q => exact q | [], q => exact q | _ :: _ :: _, q => exact q⟩
  | list => cases hn; exact ⟨_, .t rfl PyProof.Rows.boot_list, by decide, cd_imp (c_list (fz := fz)) fun ds M Q q => by match ds, q with | [d], q => exact q | [], q => exact q | _ :: _ :: _, q => exact q⟩
  | abs => cases hn; exact ⟨_, .b rfl boot_abs, by decide, cd_imp c_abs fun ds M Q q => by match ds, q with | [d], q => exact q | [], q => exact q | _ :: _ :: _, q => exact q⟩
  | all => cases hn; exact ⟨_, .b rfl boot_all, by decide, cd_imp (c_all hc) fun ds M Q q => by match ds, q with | [d], q => exact q | [], q => exact q | _ :: _ :: _, q => exact q⟩
  | any => cases hn; exact ⟨_, .b rfl boot_any, by decide, cd_imp (c_any hc) fun ds M Q q => by match ds, q with | [d], q => exact q | [], q => exact q | _ :: _ :: _, q => exact q⟩
  | sum => cases hn; exact ⟨_, .b rfl boot_sum, by decide, cd_imp (c_sum hc) fun ds M Q q => by match ds, q with | [d], q => exact q | [], q => exact q | _ :: _ :: _, q => exact q⟩
  | repr => cases hn; exact ⟨_, .b rfl boot_repr, by decide, cd_imp (c_repr hgd (by omega)) fun ds M Q q => by match ds, q with | [d], q => exact q | [], q => exact q | _ :: _ :: _, q => exact q⟩
  | min => cases hn; exact ⟨_, .b rfl boot_min, by decide, cd_imp (c_min hc) fun ds M Q q => by match ds, q with | [d, e], q => exact q | [], q => exact q | [_], q => exact q | _ :: _ :: _ :: _, q => exact q⟩
  | max => cases hn; exact ⟨_, .b rfl boot_max, by decide, cd_imp (c_max hc) fun ds M Q q => by match ds, q with | [d, e], q => exact q | [], q => exact q | [_], q => exact q | _ :: _ :: _ :: _, q => exact q⟩
  | divmod => cases hn; exact ⟨_, .b rfl boot_divmod, by decide, cd_imp c_divmod fun ds M Q q => by match ds, q with | [d, e], q => exact q | [], q => exact q | [_], q => exact q | _ :: _ :: _ :: _, q => exact q⟩
  | dict => cases hn; exact ⟨_, .t rfl boot_dict, by decide, cd_imp (c_dict hc) fun ds M Q q => by match ds, q with | [d], q => exact q | [], q => exact q | _ :: _ :: _, q => exact q⟩
  | sorted => cases hn

theorem ty_val {X : Cx} {I : Inf} {k : Nat} {P : Program} {w : World} {K : PySem.W.Frag} {mg : Str → Option Value} {base : Heap} {W : Wd} {p q : FId → CallT} (O : Okk X I k) (hb : ∀ x ∈ bNames, X.mg x = none) {t : Ty} {e : Expr} (h : mTy1 I t e = true) : ∃ n, t = .bt n ∧ n ∈ isTys ∧ PE X e (tC (.ty n)) := by
  unfold mTy1 at h
  split at h
  · rename_i n y pos
    simp only [Bool.and_eq_true] at h
    obtain ⟨⟨h1, h2⟩, h3⟩ := h
    have e1 := of_decide_eq_true h1
    subst e1
    have hn := of_decide_eq_true h3
    obtain ⟨g1, g2, g3⟩ := gl_of O h2
    refine ⟨n, rfl, hn, pe_bltn g1 ?_ ?_ rfl g3 g2⟩
    · refine hb _ ?_
      simp only [isTys, List.mem_cons, List.not_mem_nil, or_false] at hn
      rcases hn with rfl | rfl | rfl | rfl | rfl | rfl <;> decide
    · simp only [isTys, List.mem_cons, List.not_mem_nil, or_false] at hn
      rcases hn with rfl | rfl | rfl | rfl | rfl | rfl <;> decide +kernel
  · cases h
theorem kit_any {K : PySem.W.Frag} {n : String} (hn : n ∈ tyNames) : ∀ {ns : List String}, (∀ m ∈ ns, m ∈ isTys) → PySem.W.kitAny K (.type n) (ns.map Value.type) = some ((ns.map Ty.bt).any (isTy (.bt n)))
  | [], _ => kitAny_nil
  | m :: ns, h => by
    refine kitAny_cons (kit_of2 hn (h m (by simp))) (fun hb => ?_) fun hb => ?_
    · rw [List.map_cons, List.any_cons, hb, Bool.false_or]
      exact kit_any hn fun m hm => h m (List.mem_cons_of_mem _ hm)
    · rw [List.map_cons, List.any_cons, hb, Bool.true_or]
theorem tys_vals {X : Cx} {I : Inf} {k : Nat} (O : Okk X I k) (hb : ∀ x ∈ bNames, X.mg x = none) : ∀ {ts : List Ty} {es : List Expr}, mTyL I ts es = true → ∃ ns : List String, ts = ns.map Ty.bt ∧ (∀ m ∈ ns, m ∈ isTys) ∧ ns.length = es.length ∧ PA X es (fun _ H Q => Q (ns.map V.ty) H)
  | [], [], _ => ⟨[], rfl, fun m hm => absurd hm List.not_mem_nil, rfl, pa_nil⟩
  | t :: ts, e :: es, h => by
    unfold mTyL at h
    rw [Bool.and_eq_true] at h
    obtain ⟨n, e1, hn, he⟩ := ty_val (P := X.prog) (w := X.w) (K := X.K) (mg := X.mg) (base := X.base) (W := ⟨fun _ => none, fun _ => none, fun _ _ => false, []⟩) (p := fun _ _ _ _ _ => False) (q := fun _ _ _ _ _ => False) O hb h.1
    obtain ⟨ns, e2, hns, hl, hes⟩ := tys_vals O hb h.2
    subst e1 e2
    refine ⟨n :: ns, rfl, fun m hm => ?_, by rw [List.length_cons, List.length_cons, hl], (pa_cons he hes ?_).imp fun σ H Q q => q⟩
    · rcases List.mem_cons.mp hm with e | hm
      · rw [e]; exact hn
      · exact hns m hm
    · have h1 := h.1
      unfold mTy1 at h1
      split at h1
      · rfl
      · cases h1
  | [], _ :: _, h => by unfold mTyL at h; cases h
  | _ :: _, [], h => by unfold mTyL at h; cases h
theorem cls_vals {ns : List String} : Paired ClsV (ns.map V.ty) (ns.map Value.type) := by
  induction ns with
  | nil => exact .nil
  | cons n ns ih => exact .cons (.ty n) ih
theorem le_isi {X : Cx} {B : Bs} {I : Inf} {k : Nat} {W : Wd} {p q : FId → CallT} {pf pos : Pos} {x t : Expr} {tx : DE} {ts : List Ty} (O : Okk X I k) (hW : WOk X.prog X.w X.K X.mg X.base W p q k) (hg : glB I "isinstance" = true) (hx : PE X x (LE X.K B tx)) (hs : nSt x = true) (hs2 : nSt t = true) (ht : mTy I ts t = true) :
    PE X (.Call (.Name "isinstance" pf) [x, t] [] pos) (LE X.K B (VT fun σ M Q => tx σ M fun y M1 => rdIsi ts y M1 Q)) := by
  obtain ⟨g1, g2, g3⟩ := gl_of O hg
  have hm := hW.bn "isinstance" (by decide)
  have hst : starEach [x, t] X.env = (false, eval x X.env) :: starEach [t] X.env := star_cons hs
  have hst2 : starEach [t] X.env = (false, eval t X.env) :: starEach [] X.env := star_cons hs2
  have hpl : (backTo pos (starEach [t] X.env)).any (·.1) = false := by rw [hst2]; rfl
  unfold mTy at ht
  split at ht
  · rename_i t1
    obtain ⟨n, e1, hn, he⟩ := ty_val (P := X.prog) (w := X.w) (K := X.K) (mg := X.mg) (base := X.base) (W := W) (p := p) (q := q) O hW.bn ht
    subst e1
    refine (pe_callB call_isi g1 hm PyProof.Rows.boot_isinstance (pa_cons hx (pa_cons he pa_nil hst2) hst) g3 g2 hst hpl).imp fun σ H Q ⟨σd, M, Qd, a, tt, kk⟩ => ?_
    refine LE.seq a tt fun d M1 v H1 f1 a1 r1 ⟨m, em, q⟩ => ?_
    obtain ⟨hm, ty⟩ := tyOf_rep em r1 a1.m
    refine ⟨v, .ty n, .type m, .type n, _, rfl, .ty n, ty, kit_of2 hm hn, ?_⟩
    refine kk _ M1 _ H1 f1 (mk_bl _) a1.m ?_
    have e : [Ty.bt n].any (isTy (.bt m)) = isTy (.bt m) (.bt n) := by simp
    rw [e] at q
    exact q
  · split at ht
    · rename_i es _ _
      rw [Bool.and_eq_true] at ht
      obtain ⟨ns, e1, hns, hl, hes⟩ := tys_vals O hW.bn ht.1
      have hle := of_decide_eq_true ht.2
      subst e1
      refine (pe_callB call_isiT g1 hm PyProof.Rows.boot_isinstance (pa_cons hx (pa_cons (pe_tup hes) pa_nil hst2) hst) g3 g2 hst hpl).imp fun σ H Q ⟨σd, M, Qd, a, tt, kk⟩ => ?_
      refine LE.seq a tt fun d M1 v H1 f1 a1 r1 ⟨m, em, q⟩ => ?_
      obtain ⟨hm, ty⟩ := tyOf_rep em r1 a1.m
      refine ⟨?_, fun p hp => ?_⟩
      · rw [List.length_map, hl, sizeLine_eq]; omega
      · have k1 : KeepF H1 (upd H1 p (.tup (ns.map V.ty))) := .new hp
        have r1' := r1.keep k1
        have m1' := a1.m.hid (o := .tup (ns.map V.ty)) hp
        obtain ⟨_, ty'⟩ := tyOf_rep em r1' m1'
        refine ⟨v, p, _, .type m, _, _, rfl, upd_same, cls_vals, ty', kit_any hm hns, ?_⟩
        exact kk _ M1 _ _ (f1.trans (.hid hp)) (mk_bl _) m1' q
    · cases ht
structure OkW (W : Wd) (p q : FId → CallT) (k : Nat) (X : Cx) (I : Inf) : Prop where
  o : Okk X I k
  w : WOk X.prog X.w X.K X.mg X.base W p q k
theorem OkW.blk {W : Wd} {p q : FId → CallT} {k : Nat} {X : Cx} {I : Inf} (O : OkW W p q k X I) (scope : Scope) (s : Shared) (H : Hp) (C : Addr) (cl : List (Str × Addr)) (fp : List Addr) : OkW W p q k (X.blk s H scope (compEnvC scope cl C X.env) fp) (I.blk scope) := ⟨O.o.blk scope s H C cl fp, O.w⟩
abbrev TV (X : Cx) (B : Bs) (v : Bool) (e : Expr) (t : DT) : Prop := match v with
  | false => PT X e (LT X.K B t)
  | true => PE X e (LE X.K B (VT t))
theorem lst_rcv {K : PySem.W.Frag} : ∀ d M H v, (∃ xs, lsOf M d = some xs) → Rep K H d v → RepM K M H → tyV K "list" v H := fun d M H v ⟨xs, e⟩ r m => by
  obtain ⟨a, vs, rfl, hs, _⟩ := lsOf_rep e r m
  exact .inl ⟨rfl, vs, hs.sql⟩
theorem str_rcv {K : PySem.W.Frag} : ∀ d M H v, (∃ z, d = .str z) → Rep K H d v → RepM K M H → tyV K "str" v H := fun d (M : MM) H v ⟨z, e⟩ r m => by
  subst e
  rw [rep_str r]
  exact (rfl : "str" = "str")
section
variable {W : Wd} {p q : FId → CallT} {k : Nat}
mutual
theorem sE : ∀ (c : CE) (I : Inf) (e : Expr) (X : Cx) (B : Bs), mE W c I e = true → OkW W p q k X I → PE X e (LE X.K B (wpE (gamW W p q) EF c))
  | .var i, I, e, X, B, h, O => by
    unfold mE at h
    split at h
    · obtain ⟨h1, h2, h3, h4⟩ := vis_of O.o h
      exact le_var (pe_var h1 h2 h3 h4)
    · cases h
  | .glb y, I, e, X, B, h, O => by
    unfold mE at h
    split at h
    · rename_i x pos
      rw [Bool.and_eq_true] at h
      have e1 := of_decide_eq_true h.1
      subst e1
      obtain ⟨h1, h2, _⟩ := gl_of O.o h.2
      cases hg : W.gl x with
      | none =>
        refine ⟨fun pins s σ H Q I ⟨σd, M, Qd, a, t, k⟩ => ?_⟩
        obtain ⟨d, e, _⟩ := (show ∃ d, W.gl x = some d ∧ Qd d M from t)
        rw [hg] at e
        cases e
      | some d =>
        obtain ⟨u, v, hm, r, hd⟩ := O.w.glob x d hg
        refine (le_tv (pe_glob h1 hm r h2) hd).imp fun σ H Q ⟨σd, M, Qd, a, t, k⟩ => ⟨σd, M, Qd, a, ?_, k⟩
        obtain ⟨d', e, q⟩ := (show ∃ d, W.gl x = some d ∧ Qd d M from t)
        rw [hg] at e
        cases e
        exact q
    · cases h
  | .int i, I, e, X, B, h, O => by
    unfold mE at h
    split at h
    · have e1 := of_decide_eq_true h
      subst e1
      exact le_tv pe_int fun H => mk_int i
    · cases h
  | .str i, I, e, X, B, h, O => by
    unfold mE at h
    split at h
    · have e1 := of_decide_eq_true h
      subst e1
      exact le_tv pe_str fun H => mk_str i
    · cases h
  | .bl i, I, e, X, B, h, O => by
    unfold mE at h
    split at h
    · have e1 := of_decide_eq_true h
      subst e1
      exact le_tv pe_bl fun H => mk_bl i
    · cases h
  | .non, I, e, X, B, h, O => by
    unfold mE at h
    split at h
    · exact le_tv pe_non fun H => mk_non
    · cases h
  | .bin o fz a b, I, e, X, B, h, O => by
    unfold mE at h
    split at h
    · simp only [Bool.and_eq_true] at h
      have e1 := of_decide_eq_true h.1.1
      subst e1
      exact le_bin (sE a I _ X B h.1.2 O) (sE b I _ X B h.2 O)
    · cases h
  | .neg a, I, e, X, B, h, O => by
    unfold mE at h
    split at h
    · exact le_neg (sE a I _ X B h O)
    · cases h
  | .tst t, I, e, X, B, h, O => by
    unfold mE at h
    exact sT t true I e X B h O
  | .ifx c a b, I, e, X, B, h, O => by
    unfold mE at h
    split at h
    · simp only [Bool.and_eq_true] at h
      exact le_ifx (sT c false I _ X B h.1.1 O) (sE a I _ X B h.1.2 O) (sE b I _ X B h.2 O)
    · cases h
  | .tup es, I, e, X, B, h, O => by
    unfold mE at h
    split at h
    · exact le_tup (sEs es I _ X B h O)
    · cases h
  | .lst fz es, I, e, X, B, h, O => by
    unfold mE at h
    split at h
    · exact le_lst (sEs es I _ X B h O)
    · cases h
  | .dct fz ks vs, I, e, X, B, h, O => by
    unfold mE at h
    simp only [Bool.and_eq_true] at h
    obtain ⟨⟨h1, h2⟩, h3⟩ := h
    split at h3
    · cases ks with
      | nil => exact le_dct0.imp fun σ H Q ⟨σd, M, Qd, a, t, k⟩ => ⟨σd, M, Qd, a, (show ([] : List D) = [] ∧ newD fz [] [] M Qd from t).2, k⟩
      | cons a b => cases h1
      | star a b => cases h1
    · cases h3
  | .lc fz elt g it ifs own, I, e, X, B, h, O => by
    unfold mE at h
    split at h
    · rename_i x tg iter tests scope pos
      simp only [Bool.and_eq_true] at h
      obtain ⟨⟨⟨⟨⟨⟨⟨h1, h2⟩, h3⟩, h4⟩, h5⟩, h6⟩, h7⟩, h8⟩ := h
      have hb : BlkOk X.N X.env.scope scope own := by rw [O.o.N, O.o.sc]; exact blkOk_by h3
      refine le_lc O.o.calm (by rw [O.o.N]; exact O.o.nd) (sI it I g.isTup iter tg X B h1 ?_ O) hb (fun i hi => of_decide_eq_true (List.all_eq_true.mp h4 i hi)) ?_ ?_ ?_ (fold_of h2)
      · intro ht
        split at h5
        · exact ⟨_, _, _, rfl⟩
        · rw [ht] at h5; cases h5
      · exact fun s H C cl fp => sG g (I.blk scope) tg _ B h6 (O.blk scope s H C cl fp)
      · exact fun s H C cl fp => sTs ifs (I.blk scope) tests _ B h7 (O.blk scope s H C cl fp)
      · exact fun s H C cl fp => sE elt (I.blk scope) x _ B h8 (O.blk scope s H C cl fp)
    · cases h
  | .dc fz kk v g it own, I, e, X, B, h, O => by
    unfold mE at h
    split at h
    · rename_i y x tg iter scope pos
      simp only [Bool.and_eq_true] at h
      obtain ⟨⟨⟨⟨⟨⟨⟨h1, h2⟩, h3⟩, h4⟩, h5⟩, h6⟩, h7⟩, h8⟩ := h
      have hb : BlkOk X.N X.env.scope scope own := by rw [O.o.N, O.o.sc]; exact blkOk_by h3
      refine le_dc O.o.calm (by rw [O.o.N]; exact O.o.nd) (sI it I g.isTup iter tg X B h1 ?_ O) hb (fun i hi => of_decide_eq_true (List.all_eq_true.mp h4 i hi)) ?_ ?_ ?_ (fold_of h2)
      · intro ht
        split at h5
        · exact ⟨_, _, _, rfl⟩
        · rw [ht] at h5; cases h5
      · exact fun s H C cl fp => sG g (I.blk scope) tg _ B h6 (O.blk scope s H C cl fp)
      · exact fun s H C cl fp => sE kk (I.blk scope) y _ B h7 (O.blk scope s H C cl fp)
      · exact fun s H C cl fp => sE v (I.blk scope) x _ B h8 (O.blk scope s H C cl fp)
    · cases h
  | .call f args, I, e, X, B, h, O => by
    unfold mE at h
    split at h
    · simp only [Bool.and_eq_true] at h
      obtain ⟨⟨⟨⟨h1, h2⟩, h3⟩, h4⟩, h5⟩ := h
      have e1 := of_decide_eq_true h1
      subst e1
      obtain ⟨g1, g2, _⟩ := gl_of O.o h2
      obtain ⟨c, hc⟩ := Option.isSome_iff_exists.mp h3
      obtain ⟨fa, fd, hm, hk, hb, _, F⟩ := O.w.fn _ _ hc
      exact le_call F O.o.room O.o.gd g1 hm hk hb (sEs args I _ X B h4 O) g2 (star_any h5)
    · cases h
  | .callk f args ks kws, I, e, X, B, h, O => by
    unfold mE at h
    split at h
    · rename_i x px xs k1 kr pos
      simp only [Bool.and_eq_true] at h
      obtain ⟨⟨⟨⟨⟨⟨⟨h1, h2⟩, h3⟩, h4⟩, h5⟩, h6⟩, h7⟩, h8⟩ := h
      have e1 := of_decide_eq_true h1
      subst e1
      obtain ⟨g1, g2, _⟩ := gl_of O.o h2
      obtain ⟨c, hc⟩ := Option.isSome_iff_exists.mp h3
      obtain ⟨fa, fd, hm, hk, hb, hkw, F⟩ := O.w.fn _ _ hc
      have h6' := of_decide_eq_true h6
      have names : (backToKw pos (keywordEach (k1 :: kr) X.env)).map (·.1) = ks.map some := by
        rw [← h6']
        generalize (k1 :: kr) = l
        induction l with
        | nil => rfl
        | cons a l ih =>
          obtain ⟨n, v, p⟩ := a
          show n :: (backToKw pos (keywordEach l X.env)).map (·.1) = n :: kwNames l
          rw [ih]
      have hall : (backToKw pos (keywordEach (k1 :: kr) X.env)).all (·.1.isSome) = true := by
        have : ((backToKw pos (keywordEach (k1 :: kr) X.env)).map (·.1)).all Option.isSome = true := by rw [names]; simp
        rw [List.all_map] at this
        exact this
      have hks : (backToKw pos (keywordEach (k1 :: kr) X.env)).filterMap (·.1) = ks := by
        have : ((backToKw pos (keywordEach (k1 :: kr) X.env)).map (·.1)).filterMap id = ks := by rw [names]; simp
        rw [List.filterMap_map] at this
        exact this
      have hp : (gamW W p q).par x = c.ps := by show (match W.T (x, none) with | some c => c.ps | none => _) = c.ps; rw [hc]
      have z := le_callk (pos := pos) (p := px) F O.o.room O.o.gd g1 hm hk (hkw ks (of_decide_eq_true h7)) (sEs args I _ X B h4 O) (sK kws I _ X B h8 O) g2 (star_any h5) hall hks
      rw [← hp] at z
      exact z
    · cases h
  | .make C args, I, e, X, B, h, O => by
    unfold mE at h
    split at h
    · rename_i x px xs pos
      simp only [Bool.and_eq_true] at h
      obtain ⟨⟨⟨⟨⟨h1, h2⟩, h3⟩, h3'⟩, h4⟩, h5⟩ := h
      have e1 := of_decide_eq_true h1
      subst e1
      obtain ⟨g1, g2, _⟩ := gl_of O.o h2
      have hn := Option.isNone_iff_eq_none.mp h3
      obtain ⟨c, hc⟩ := Option.isSome_iff_exists.mp h3'
      obtain ⟨j, fa, fd, hj, hm, hM, hb, F⟩ := O.w.init _ _ hc
      have hp : (gamW W p q).par x = c.ps := by show (match W.T (x, none) with | some c => c.ps | none => _) = c.ps; rw [hn, hc]
      have z := le_make (pos := pos) (p := px) F hM (O.o.room.mono hj) O.o.gd g1 hm hb (sEs args I _ X B h4 O) g2 (star_any h5)
      rw [← hp] at z
      exact z
    · cases h
  | .meth m o args, I, e, X, B, h, O => by
    unfold mE at h
    split at h
    · simp only [Bool.and_eq_true] at h
      obtain ⟨⟨⟨⟨⟨⟨h1, h2⟩, h3⟩, h4⟩, h5⟩, h6⟩, h7⟩ := h
      have e1 := of_decide_eq_true h1
      subst e1
      exact le_meth (ok := fun C => (W.T (C, some _)).isSome = true) (g := fun C => p (C, some _)) (fun C hC => by
        obtain ⟨c, hc⟩ := Option.isSome_iff_exists.mp hC
        obtain ⟨fa, fd, hcl, hm, hb, F⟩ := O.w.meth _ _ _ hc
        exact ⟨fa, fd, c.ps, hcl, hm, hb, F⟩) O.o.room O.o.gd (sE o I _ X B h3 O) (sEs args I _ X B h4 O) (base_of h2) (star_any h5) (of_decide_eq_true h6) h7
    · cases h
  | .fld o f, I, e, X, B, h, O => by
    unfold mE at h
    split at h
    · simp only [Bool.and_eq_true] at h
      have e1 := of_decide_eq_true h.1.1
      subst e1
      exact le_fld (fl := W.fl) (fun C hC => O.w.fld C _ hC) (sE o I _ X B h.2 O) (base_of h.1.2)
    · cases h
  | .ix a b, I, e, X, B, h, O => by
    unfold mE at h
    split at h
    · simp only [Bool.and_eq_true] at h
      exact le_ix (by have := O.o.room.un; omega) (sE a I _ X B h.1.2 O) (sE b I _ X B h.2 O) (plainIx_of h.1.1)
    · cases h
  | .slc fz a lo hi, I, e, X, B, h, O => by
    unfold mE at h
    split at h
    · simp only [Bool.and_eq_true] at h
      exact le_slc (sE a I _ X B h.1.1 O) (sO lo I _ X B h.1.2 O) (sO hi I _ X B h.2 O)
    · cases h
  | .rev fz a, I, e, X, B, h, O => by
    unfold mE at h
    split at h
    · exact pe_rev (sE a I _ X B h O)
    · cases h
  | .fn b fz args, I, e, X, B, h, O => by
    unfold mE at h
    split at h
    · rename_i xn pn y ys pos
      simp only [Bool.and_eq_true] at h
      obtain ⟨⟨⟨h1, h2⟩, h3⟩, h4⟩ := h
      obtain ⟨g1, g2, g3⟩ := gl_of O.o h2
      obtain ⟨v, hv, hb, C⟩ := bf_call O.o.calm O.o.gd O.o.room b fz _ (of_decide_eq_true h1)
      have hm := O.w.bn _ hb
      have hs : nSt y = true ∧ nStL ys = true := by simpa [nStL] using h4
      have hn := of_decide_eq_true h1
      cases hv with
      | b n hbt =>
        rw [hn] at n
        cases n
        exact le_callB C g1 hm hbt (sEs args I _ X B h3 O) g3 g2 (star_cons hs.1) (any_back (star_any hs.2))
      | t n hbt =>
        rw [hn] at n
        cases n
        exact le_callTy C g1 hm hbt (sEs args I _ X B h3 O) g3 g2 (star_cons hs.1) (any_back (star_any hs.2))
    · cases h
  | .bm m o args, I, e, X, B, h, O => by
    unfold mE at h
    split at h
    · rename_i oe name apos xs pos
      simp only [Bool.and_eq_true] at h
      obtain ⟨⟨⟨⟨⟨⟨h1, h2⟩, h3⟩, h4⟩, h5⟩, h6⟩, h7⟩ := h
      have hn := of_decide_eq_true h1
      have ho := sE o I _ X B h3 O
      have hst := star_any (env := X.env) h5
      have hl : xs.length < 29 := of_decide_eq_true h6
      cases xs with
      | nil =>
        have e0 : args = .nil := by
          cases args with
          | nil => rfl
          | cons a b => unfold mEs at h4; cases h4
          | star a b => unfold mEs at h4; cases h4
        subst e0
        cases m with
        | append => cases hn; exact le_bm0 F.plainAttrs_list F.slot_list_append F.type_list_append m_append lst_rcv ho (base_of h2) h7
        | extend => cases hn; exact le_bm0 F.plainAttrs_list F.slot_list_extend F.type_list_extend m_extend lst_rcv ho (base_of h2) h7
        | pop0 => cases hn; exact le_bm0 F.plainAttrs_list F.slot_list_pop F.type_list_pop m_pop0 lst_rcv ho (base_of h2) h7
        | pop1 => cases hn; exact le_bm0 F.plainAttrs_list F.slot_list_pop F.type_list_pop m_pop1 lst_rcv ho (base_of h2) h7
        | upper => cases hn; exact le_bm0 F.plainAttrs_str F.slot_str_upper F.type_str_upper m_upper str_rcv ho (base_of h2) h7
        | _ => cases hn
      | cons y ys =>
        have hs : nSt y = true ∧ nStL ys = true := by simpa [nStL] using h5
        have hfew : ((backTo pos (starEach (y :: ys) X.env)).all (fun x => !x.1) && (backToKw pos (keywordEach [] X.env)).all (fun x => x.1.isSome) && decide ((y :: ys).length + ([] : List Keyword).length + (if ([] : List Keyword).isEmpty then 0 else 1) < 30)) = true := by
          have h1 : (backTo pos (starEach (y :: ys) X.env)).all (fun x => !x.1) = true := by
            rw [← List.not_any_eq_all_not, any_back hst]; rfl
          rw [h1]
          show (true && true && decide ((y :: ys).length + 0 + 0 < 30)) = true
          simp only [Bool.and_true, Bool.true_and, decide_eq_true_eq]
          omega
        have ha := sEs args I _ X B h4 O
        cases m with
        | append => cases hn; exact le_bm F.plainAttrs_list F.slot_list_append F.type_list_append m_append lst_rcv ho ha (base_of h2) hfew h7 (star_cons hs.1) (any_back (star_any hs.2))
        | extend => cases hn; exact le_bm F.plainAttrs_list F.slot_list_extend F.type_list_extend m_extend lst_rcv ho ha (base_of h2) hfew h7 (star_cons hs.1) (any_back (star_any hs.2))
        | pop0 => cases hn; exact le_bm F.plainAttrs_list F.slot_list_pop F.type_list_pop m_pop0 lst_rcv ho ha (base_of h2) hfew h7 (star_cons hs.1) (any_back (star_any hs.2))
        | pop1 => cases hn; exact le_bm F.plainAttrs_list F.slot_list_pop F.type_list_pop m_pop1 lst_rcv ho ha (base_of h2) hfew h7 (star_cons hs.1) (any_back (star_any hs.2))
        | upper => cases hn; exact le_bm F.plainAttrs_str F.slot_str_upper F.type_str_upper m_upper str_rcv ho ha (base_of h2) hfew h7 (star_cons hs.1) (any_back (star_any hs.2))
        | _ => cases hn
    · cases h
  | .frz a, I, e, X, B, h, O => by
    unfold mE at h
    exact le_frz (sE a I e X B h O)
  | .lenset a, I, e, X, B, h, O => by
    unfold mE at h
    split at h
    · simp only [Bool.and_eq_true] at h
      obtain ⟨⟨⟨⟨⟨h1, h2⟩, h3⟩, h4⟩, h5⟩, h6⟩ := h
      have e1 := of_decide_eq_true h1
      have e2 := of_decide_eq_true h2
      subst e1 e2
      exact le_lenset O.o.calm (gl_of O.o h3).1 (O.w.bn _ (by decide)) (gl_of O.o h4).1 (O.w.bn _ (by decide)) (sE a I _ X B h5 O) (star_cons h6)
    · cases h
  | .sortset fz a, I, e, X, B, h, O => by
    unfold mE at h
    split at h
    · simp only [Bool.and_eq_true] at h
      obtain ⟨⟨⟨⟨⟨h1, h2⟩, h3⟩, h4⟩, h5⟩, h6⟩ := h
      have e1 := of_decide_eq_true h1
      have e2 := of_decide_eq_true h2
      subst e1 e2
      exact le_sortset O.o.calm (gl_of O.o h3).1 (O.w.bn _ (by decide)) (gl_of O.o h4).1 (O.w.bn _ (by decide)) (sE a I _ X B h5 O) (star_cons h6)
    · cases h
theorem sO : ∀ (c : CO) (I : Inf) (e : Option Expr) (X : Cx) (B : Bs), mO W c I e = true → OkW W p q k X I → PO X e (LO X.K B (wpO (gamW W p q) EF c))
  | .no, I, e, X, B, h, O => by
    unfold mO at h
    have e1 := Option.isNone_iff_eq_none.mp h
    subst e1
    exact lo_no
  | .yes a, I, e, X, B, h, O => by
    unfold mO at h
    split at h
    · exact lo_yes (sE a I _ X B h O)
    · cases h
theorem sEs : ∀ (c : CEs) (I : Inf) (es : List Expr) (X : Cx) (B : Bs), mEs W c I es = true → OkW W p q k X I → PA X es (LA X.K B (wpEs (gamW W p q) EF c))
  | .nil, I, es, X, B, h, O => by
    unfold mEs at h
    have e1 := List.isEmpty_iff.mp h
    subst e1
    exact la_nil
  | .cons a as, I, es, X, B, h, O => by
    unfold mEs at h
    split at h
    · simp only [Bool.and_eq_true] at h
      exact la_cons (sE a I _ X B h.1.2 O) (sEs as I _ X B h.2 O) (star_cons h.1.1)
    · cases h
  | .star a as, I, es, X, B, h, O => by
    unfold mEs at h
    cases h
theorem sK : ∀ (c : CEs) (I : Inf) (es : List Keyword) (X : Cx) (B : Bs), mK W c I es = true → OkW W p q k X I → PK X es (LA X.K B (wpEs (gamW W p q) EF c))
  | .nil, I, es, X, B, h, O => by
    unfold mK at h
    have e1 := List.isEmpty_iff.mp h
    subst e1
    exact lk_nil
  | .cons a as, I, es, X, B, h, O => by
    unfold mK at h
    split at h
    · simp only [Bool.and_eq_true] at h
      exact lk_cons (sE a I _ X B h.1 O) (sK as I _ X B h.2 O)
    · cases h
  | .star a as, I, es, X, B, h, O => by
    unfold mK at h
    cases h
theorem sT : ∀ (c : CT) (v : Bool) (I : Inf) (e : Expr) (X : Cx) (B : Bs), mT W c v I e = true → OkW W p q k X I → TV X B v e (wpT (gamW W p q) EF c)
  | .val a, v, I, e, X, B, h, O => by
    unfold mT at h
    simp only [Bool.and_eq_true] at h
    have ha := sE a I e X B h.1 O
    cases v with
    | true => exact lv_valE ha
    | false => exact lt_valE ha (true_of (by simpa using h.2))
  | .tru a, v, I, e, X, B, h, O => by
    unfold mT at h
    simp only [Bool.and_eq_true] at h
    cases v with
    | true => cases h.1.1
    | false => exact lt_tru (sE a I e X B h.1.2 O) (true_of h.2)
  | .cmp o a b, v, I, e, X, B, h, O => by
    unfold mT at h
    split at h
    · simp only [Bool.and_eq_true] at h
      have e1 := of_decide_eq_true h.1.1.1
      subst e1
      have hu : X.A.units + 65 < cLine := by have := O.o.room.un; omega
      cases v with
      | true => exact le_cmp hu (sE a I _ X B h.1.1.2 O) (sE b I _ X B h.1.2 O) (mark_of h.2)
      | false => exact lt_cmp hu (sE a I _ X B h.1.1.2 O) (sE b I _ X B h.1.2 O) (mark_of h.2)
    · cases h
  | .chain o o' a b c, v, I, e, X, B, h, O => by
    unfold mT at h
    split at h
    · simp only [Bool.and_eq_true] at h
      obtain ⟨⟨⟨⟨⟨h1, h2⟩, h3⟩, h4⟩, h5⟩, h6⟩ := h
      have e1 := of_decide_eq_true h1
      have e2 := of_decide_eq_true h2
      subst e1 e2
      have hu : X.A.units + 65 < cLine := by have := O.o.room.un; omega
      cases v with
      | true => exact le_chain hu (sE a I _ X B h3 O) (sE b I _ X B h4 O) (sE c I _ X B h5 O) (marks_of h6)
      | false => exact lt_chain hu (sE a I _ X B h3 O) (sE b I _ X B h4 O) (sE c I _ X B h5 O) (marks_of h6)
    · cases h
  | .and a b, v, I, e, X, B, h, O => by
    unfold mT at h
    split at h
    · simp only [Bool.and_eq_true] at h
      have ha := sT a v I _ X B h.1 O
      have hb := sT b v I _ X B h.2 O
      cases v with
      | true => exact lv_and ha (lv_one hb)
      | false => exact pt_pw (lt_and ha (pw_and1 hb))
    · simp only [Bool.and_eq_true] at h
      have ha := sT a v I _ X B h.1 O
      have hb := sT b v I _ X B h.2 O
      cases v with
      | true => exact lv_and ha hb
      | false => exact pt_pw (lt_and ha (pw_pt hb))
    · cases h
  | .or a b, v, I, e, X, B, h, O => by
    unfold mT at h
    split at h
    · simp only [Bool.and_eq_true] at h
      have ha := sT a v I _ X B h.1 O
      have hb := sT b v I _ X B h.2 O
      cases v with
      | true => exact lv_or ha (lv_one hb)
      | false => exact pt_pw (lt_or ha (pw_or1 hb))
    · simp only [Bool.and_eq_true] at h
      have ha := sT a v I _ X B h.1 O
      have hb := sT b v I _ X B h.2 O
      cases v with
      | true => exact lv_or ha hb
      | false => exact pt_pw (lt_or ha (pw_pt hb))
    · cases h
  | .not a, v, I, e, X, B, h, O => by
    unfold mT at h
    split at h
    · have ha := sT a v I _ X B h O
      cases v with
      | true => exact lv_not ha
      | false => exact lt_not ha
    · cases h
  | .isi a ts, v, I, e, X, B, h, O => by
    unfold mT at h
    split at h
    · rename_i f pf x t pos
      simp only [Bool.and_eq_true] at h
      obtain ⟨⟨⟨⟨⟨h1, h2⟩, h3⟩, h4⟩, h5⟩, h6⟩ := h
      have e1 := of_decide_eq_true h1
      subst e1
      have z := le_isi (pf := pf) (pos := pos) O.o O.w h2 (sE a I _ X B h3 O) h4 h5 h6
      cases v with
      | true => exact z
      | false => exact lt_val z (true_of rfl)
    · cases h
theorem sTs : ∀ (c : CTs) (I : Inf) (es : List Expr) (X : Cx) (B : Bs), mTs W c I es = true → OkW W p q k X I → PTs X es (LT X.K B (wpTs (gamW W p q) EF c))
  | .nil, I, es, X, B, h, O => by
    unfold mTs at h
    have e1 := List.isEmpty_iff.mp h
    subst e1
    exact ⟨fun pins s σ H Q I ⟨σd, M, Qd, a, t, k⟩ => pts_nil.run pins s σ H Q I (k true M H .refl a.m t)⟩
  | .cons t ts, I, es, X, B, h, O => by
    unfold mTs at h
    split at h
    · have ht := sT t false I _ X B h O
      refine ⟨fun pins s σ H Q I ⟨σd, M, Qd, a, tt, k⟩ => (pts_one ht).run pins s σ H Q I ⟨σd, M, Qd, a, ?_, k⟩⟩
      have e : (fun b M1 => Bif b (wpTs (gamW W p q) EF .nil σd M1 Qd) (Qd false M1)) = Qd := by
        funext b M1
        cases b with
        | true => exact propext (Iff.intro (fun h => h.1 rfl) (fun h => And.intro (fun _ => h) (fun z => nomatch z)))
        | false => exact propext (Iff.intro (fun h => h.2 rfl) (fun h => And.intro (fun z => nomatch z) (fun _ => h)))
      have tt' : wpT (gamW W p q) EF t σd M (fun b M1 => Bif b (wpTs (gamW W p q) EF .nil σd M1 Qd) (Qd false M1)) := tt
      rw [e] at tt'
      exact tt'
    · cases h
theorem sI : ∀ (c : CI) (I : Inf) (t : Bool) (e tg : Expr) (X : Cx) (B : Bs), mI W c I t e = true → (t = true → ∃ es k p, tg = .Tuple es k p) → OkW W p q k X I → PI X tg e (LI X.K B (wpI (gamW W p q) EF c))
  | .seq a, I, t, e, tg, X, B, h, ht, O => by
    unfold mI at h
    exact li_seq (sE a I e X B h O)
  | .range1 a, I, t, e, tg, X, B, h, ht, O => by
    unfold mI at h
    split at h
    · simp only [Bool.and_eq_true] at h
      obtain ⟨⟨⟨h1, h2⟩, h3⟩, h4⟩ := h
      have e1 := of_decide_eq_true h1
      subst e1
      exact li_range1 (gl_of O.o h2).1 (O.w.bn _ (by decide)) (sE a I _ X B h3 O) (star_cons h4)
    · cases h
  | .range2 a b, I, t, e, tg, X, B, h, ht, O => by
    unfold mI at h
    split at h
    · simp only [Bool.and_eq_true] at h
      obtain ⟨⟨⟨⟨⟨h1, h2⟩, h3⟩, h4⟩, h5⟩, h6⟩ := h
      have e1 := of_decide_eq_true h1
      subst e1
      exact li_range2 (gl_of O.o h2).1 (O.w.bn _ (by decide)) (sE a I _ X B h3 O) (sE b I _ X B h4 O) ((star_cons h5).trans (by rw [star_cons h6]; rfl)) (star_cons h6)
    · cases h
  | .enum a, I, t, e, tg, X, B, h, ht, O => by
    unfold mI at h
    rw [Bool.and_eq_true] at h
    obtain ⟨es, kk, pp, et⟩ := ht h.1
    subst et
    have h := h.2
    split at h
    · simp only [Bool.and_eq_true] at h
      obtain ⟨⟨⟨h1, h2⟩, h3⟩, h4⟩ := h
      have e1 := of_decide_eq_true h1
      subst e1
      exact li_enum (gl_of O.o h2).1 (O.w.bn _ (by decide)) (sE a I _ X B h3 O) (star_cons h4)
    · cases h
  | .zip a b, I, t, e, tg, X, B, h, ht, O => by
    unfold mI at h
    rw [Bool.and_eq_true] at h
    obtain ⟨es, kk, pp, et⟩ := ht h.1
    subst et
    have h := h.2
    split at h
    · simp only [Bool.and_eq_true] at h
      obtain ⟨⟨⟨⟨⟨h1, h2⟩, h3⟩, h4⟩, h5⟩, h6⟩ := h
      have e1 := of_decide_eq_true h1
      subst e1
      exact li_zip (gl_of O.o h2).1 (O.w.bn _ (by decide)) (sE a I _ X B h3 O) (sE b I _ X B h4 O) (star_cons h5) (star_cons h6)
    · cases h
  | .items a, I, t, e, tg, X, B, h, ht, O => by unfold mI at h; cases h
  | .values a, I, t, e, tg, X, B, h, ht, O => by unfold mI at h; cases h
theorem sG : ∀ (c : CG) (I : Inf) (e : Expr) (X : Cx) (B : Bs), mG W c I e = true → OkW W p q k X I → PG X e (LGw X.K B (gSlots c) (wpG (gamW W p q) EF c))
  | .name i, I, e, X, B, h, O => by
    unfold mG at h
    split at h
    · obtain ⟨h1, h2, h3⟩ := sto_of O.o h
      exact lg_name (pg_name (by rw [O.o.N]; exact O.o.nd) h1 h2 h3)
    · cases h
  | .tup gs, I, e, X, B, h, O => by
    unfold mG at h
    split at h
    · rename_i es kk pos
      rw [Bool.and_eq_true] at h
      obtain ⟨z, hl⟩ := sGs gs I es X B h.1 O
      exact lg_tup O.o.calm z (asg_len.trans hl) (asg_star h.2)
    · cases h
  | .sub o i, I, e, X, B, h, O => by
    unfold mG at h
    split at h
    · simp only [Bool.and_eq_true] at h
      exact lg_sub h.1.1 (by have := O.o.room.un; omega) (sE o I _ X B h.1.2 O) (sE i I _ X B h.2 O)
    · cases h
theorem sGs : ∀ (c : CGs) (I : Inf) (es : List Expr) (X : Cx) (B : Bs), mGs W c I es = true → OkW W p q k X I → PGs X es (LGsw X.K B (gSlots.gSlotsL c) (wpGs (gamW W p q) EF c)) ∧ es.length = c.len
  | .nil, I, es, X, B, h, O => by
    unfold mGs at h
    have e1 := List.isEmpty_iff.mp h
    subst e1
    exact ⟨lgs_nil, rfl⟩
  | .cons g gs, I, es, X, B, h, O => by
    unfold mGs at h
    split at h
    · simp only [Bool.and_eq_true] at h
      obtain ⟨z, hl⟩ := sGs gs I _ X B h.2 O
      exact ⟨lgs_cons (sG g I _ X B h.1.2 O) z (by rw [asg_each h.1.1]; rfl), by rw [List.length_cons, hl]; rfl⟩
    · cases h
end
end
end RX
set_option Elab.async false
set_option linter.all false
set_option maxRecDepth 100000
set_option maxHeartbeats 4000000
/-! RX13: statements; the whole table. -/
namespace RX
open PySem PySem.Spec PyProof.Rows L2

theorem par_of {env : Env} {I : Inf} {i j : Nat} {x y : Str} {px py pt pt2 : Pos} {kt k2} {a b : Expr} (hk : env.scope.kind = .function) (hs : env.scope = I.sc) (h : parB I i j x y px py a b = true) :
    swappedStores [.Tuple [.Name x px, .Name y py] kt pt] (.Tuple [a, b] k2 pt2) env = pure (some [x, y]) := by
  unfold parB at h
  simp only [Bool.and_eq_true, Bool.not_eq_true'] at h
  obtain ⟨⟨⟨⟨⟨⟨⟨⟨⟨⟨h1, h2⟩, h3⟩, h4⟩, h5⟩, h6⟩, h7⟩, h8⟩, h9⟩, h10⟩, h11⟩ := h
  have hb : env.blockKind = .function := by unfold Env.blockKind; rw [hk]; rfl
  have kx : env.kindOf x = some .local := by
    show env.scope.names.lookup x = _
    rw [hs]; exact of_decide_eq_true h4
  have ky : env.kindOf y = some .local := by
    show env.scope.names.lookup y = _
    rw [hs]; exact of_decide_eq_true h5
  have hxy : x ≠ y := of_decide_eq_true h6
  have h7' : (py.line == px.line) = true := by rw [beq_iff_eq] at h7 ⊢; exact h7.symm
  have hst : ([a, b].any fun | .Starred .. => true | _ => false) = false := by
    cases a <;> cases b <;> first | rfl | exact absurd h8 Bool.false_ne_true | exact absurd h9 Bool.false_ne_true
  unfold swappedStores
  simp only [hb, List.length_cons, List.length_nil]
  rw [if_neg (by decide), if_neg (by rw [Bool.not_eq_true]; exact hst)]
  simp only [List.head?_cons, Option.map_some, Option.getD_some, Expr.pos, List.filterMap_cons, List.filterMap_nil, kx, ky, h7', beq_self_eq_true, Bool.and_self, if_true, List.length_cons, List.length_nil]
  have he : [x, y].eraseDups = [x, y] := by
    rw [List.eraseDups_cons]
    have : (List.filter (fun b => !(b == x)) [y]) = [y] := by
      have hb : (y == x) = false := beq_eq_false_iff_ne.mpr fun e => hxy e.symm
      simp [hb]
    rw [this]
    simp [List.eraseDups_cons]
  rw [he]
  simp only [List.length_cons, List.length_nil, bne_self_eq_false, Bool.or_self, Bool.false_eq_true, if_false]
  rw [h10, h11]
  rfl
section
variable {W : Wd} {p q : FId → CallT} {k : Nat}
mutual
theorem sS : ∀ (c : CS) (I : Inf) (s : Stmt) (X : Cx) (B : Bs), mS W c I s = true → OkW W p q k X I → I.sc.kind = .function → PS X s (LS X.K B (wpS (gamW W p q) EF c))
  | .expr a, I, s, X, B, h, O, hk => by
    unfold mS at h
    split at h
    · rw [Bool.and_eq_true] at h
      exact ls_expr (sE a I _ X B h.1 O) h.2
    · cases h
  | .asg g a, I, s, X, B, h, O, hk => by
    unfold mS at h
    split at h
    · rename_i tg e pos
      simp only [Bool.and_eq_true] at h
      obtain ⟨⟨⟨⟨h1, h2⟩, h3⟩, h4⟩, h5⟩ := h
      have hs : swapsWithSole [tg] e pos.line X.env = pure false := by
        rw [Bool.or_eq_true] at h3
        rcases h3 with h3 | h3
        · exact sws_of h3
        · unfold cellB at h3
          split at h3
          · refine sw_cell (p := _) (l := pos.line) (e := e) ?_
            rw [O.o.sc]
            simpa using h3
          · cases h3
      refine ls_asg (sE a I _ X B h1 O) (sG g I _ X B h2 O) hs ?_ h5
      split at h4
      · exact stores_of h4
      · rename_i hno
        unfold swappedStores
        cases tg <;> first | rfl | (exfalso; exact hno _ _ _ rfl) | (cases g <;> (unfold mG at h2; cases h2))
    · cases h
  | .setLc i fz elt g it ifs own, I, s, X, B, h, O, hk => by
    unfold mS at h
    split at h
    · rename_i y py x tg iter tests scope cp pos
      simp only [Bool.and_eq_true] at h
      obtain ⟨⟨⟨⟨⟨⟨⟨⟨⟨h0, hsw⟩, h1⟩, h2⟩, h3⟩, h4⟩, h5⟩, h6⟩, h7⟩, h8⟩ := h
      have hb : BlkOk X.N X.env.scope scope own := by rw [O.o.N, O.o.sc]; exact blkOk_by h3
      unfold swB at hsw
      simp only [Bool.and_eq_true, Bool.not_eq_true'] at hsw
      have hl := of_decide_eq_true hsw.1.1
      refine ls_setLc O.o.calm (by rw [O.o.N]; exact O.o.nd) (by rw [O.o.N]; exact of_decide_eq_true h0) (by rw [O.o.sc]; exact hl) (sw_true (by rw [O.o.sc]; exact hk) (by rw [O.o.sc]; exact hl) hsw.1.2 hsw.2) (sI it I g.isTup iter tg X B h1 ?_ O) hb (fun i hi => of_decide_eq_true (List.all_eq_true.mp h4 i hi)) ?_ ?_ ?_ (fold_of h2)
      · intro ht
        split at h5
        · exact ⟨_, _, _, rfl⟩
        · rw [ht] at h5; cases h5
      · exact fun s H C cl fp => sG g (I.blk scope) tg _ B h6 (O.blk scope s H C cl fp)
      · exact fun s H C cl fp => sTs ifs (I.blk scope) tests _ B h7 (O.blk scope s H C cl fp)
      · exact fun s H C cl fp => sE elt (I.blk scope) x _ B h8 (O.blk scope s H C cl fp)
    · cases h
  | .setf o f a, I, s, X, B, h, O, hk => by
    unfold mS at h
    split at h
    · simp only [Bool.and_eq_true] at h
      obtain ⟨⟨h1, h2⟩, h3⟩ := h
      have e1 := of_decide_eq_true h1
      subst e1
      exact ls_fld (fl := W.fl) (fun C hC => O.w.fld C _ hC) (sE o I _ X B h2 O) (sE a I _ X B h3 O)
    · cases h
  | .par2 i j a b, I, s, X, B, h, O, hk => by
    unfold mS at h
    split at h
    · rename_i x px y py kt pt u v k2 pt2 pos
      simp only [Bool.and_eq_true] at h
      obtain ⟨⟨hp, h1⟩, h2⟩ := h
      have hw := par_of (kt := kt) (pt := pt) (k2 := k2) (pt2 := pt2) (env := X.env) (by rw [O.o.sc]; exact hk) O.o.sc hp
      unfold parB at hp
      simp only [Bool.and_eq_true] at hp
      obtain ⟨⟨⟨⟨⟨⟨⟨⟨⟨⟨p1, p2⟩, p3⟩, p4⟩, p5⟩, p6⟩, p7⟩, p8⟩, p9⟩, p10⟩, p11⟩ := hp
      have ha : PA X [u, v] (LA X.K B (fun σ M Q => wpE (gamW W p q) EF a σ M fun d M1 => (fun σ M Q => wpE (gamW W p q) EF b σ M fun e M2 => (fun (_ : DSt) M Q => Q [] M) σ M2 fun xs M3 => Q (e :: xs) M3) σ M1 fun xs M2 => Q (d :: xs) M2)) :=
        la_cons (sE a I _ X B h1 O) (la_cons (sE b I _ X B h2 O) la_nil (star_cons p9)) (star_cons p8)
      have z := ls_par (B := B) (ps_par (pos := pos) O.o.calm (by rw [O.o.N]; exact O.o.nd) (by rw [O.o.N]; exact of_decide_eq_true p1) (by rw [O.o.N]; exact of_decide_eq_true p2) (of_decide_eq_true p3) (by rw [O.o.sc]; exact of_decide_eq_true p4) (by rw [O.o.sc]; exact of_decide_eq_true p5) ha hw rfl)
      refine z.imp fun E σ H ⟨σd, M, Dd, a', t, k⟩ => ⟨σd, M, Dd, a', ?_, k⟩
      have e : ∀ (d : D) M1, (wpE (gamW W p q) EF b σd M1 fun e M2 => ∃ d' e', [d, e] = [d', e'] ∧ Dd.nx ((σd.set i (some d')).set j (some e')) M2) = (wpE (gamW W p q) EF b σd M1 fun e M2 => Dd.nx ((σd.set i (some d)).set j (some e)) M2) := by
        intro d M1
        congr 1
        funext e M2
        exact propext ⟨fun ⟨d', e', h, q⟩ => by cases h; exact q, fun q => ⟨d, e, rfl, q⟩⟩
      show wpE (gamW W p q) EF a σd M fun d M1 => wpE (gamW W p q) EF b σd M1 fun e M2 => ∃ d' e', [d, e] = [d', e'] ∧ Dd.nx ((σd.set i (some d')).set j (some e')) M2
      simp only [e]
      exact t
    · cases h
  | .aug _ _ _, I, s, X, B, h, O, hk => by unfold mS at h; cases h
  | .ret a, I, s, X, B, h, O, hk => by
    unfold mS at h
    split at h
    · exact ls_ret (sE a I _ X B h O)
    · cases h
  | .retN, I, s, X, B, h, O, hk => by
    unfold mS at h
    split at h
    · exact ls_retN
    · cases h
  | .ite c a b, I, s, X, B, h, O, hk => by
    unfold mS at h
    split at h
    · simp only [Bool.and_eq_true] at h
      exact ls_if (sT c false I _ X B h.1.1 O) (sSs a I _ X B h.1.2 O hk) (sSs b I _ X B h.2 O hk)
    · cases h
  | .for_ g it b, I, s, X, B, h, O, hk => by
    unfold mS at h
    split at h
    · rename_i tg iter body pos
      simp only [Bool.and_eq_true] at h
      obtain ⟨⟨⟨⟨h1, h2⟩, h5⟩, h6⟩, h7⟩ := h
      refine ls_for O.o.own O.o.calm (sI it I g.isTup iter tg X B h1 ?_ O) (sG g I tg X B h6 O) (sSs b I body X B h7 O hk) (fold_of h2)
      intro ht
      split at h5
      · exact ⟨_, _, _, rfl⟩
      · rw [ht] at h5; cases h5
    · cases h
  | .while_ c b, I, s, X, B, h, O, hk => by
    unfold mS at h
    split at h
    · simp only [Bool.and_eq_true] at h
      exact ls_while O.o.own (sT c false I _ X B h.1 O) (sSs b I _ X B h.2 O hk)
    · cases h
  | .pass, I, s, X, B, h, O, hk => by
    unfold mS at h
    split at h
    · exact ls_pass
    · cases h
  | .brk, I, s, X, B, h, O, hk => by
    unfold mS at h
    split at h
    · exact ls_brk
    · cases h
  | .cont, I, s, X, B, h, O, hk => by
    unfold mS at h
    split at h
    · exact ls_cont
    · cases h
  | .never, I, s, X, B, h, O, hk => ls_never
theorem sSs : ∀ (c : CSs) (I : Inf) (ss : List Stmt) (X : Cx) (B : Bs), mSs W c I ss = true → OkW W p q k X I → I.sc.kind = .function → PSs X ss (LS X.K B (wpSs (gamW W p q) EF c))
  | .nil, I, ss, X, B, h, O, hk => by
    unfold mSs at h
    have e1 := List.isEmpty_iff.mp h
    subst e1
    exact lss_nil
  | .cons s ss, I, l, X, B, h, O, hk => by
    unfold mSs at h
    split at h
    · rw [Bool.and_eq_true] at h
      have z := lss_cons (sS s I _ X B h.1 O hk) (sSs ss I _ X B h.2 O hk)
      exact z
    · cases h
end
end

/-! ### the whole table -/
/-- what stands behind the top for a def of the table: its parameters' names, its body, its scope -/
structure DefIn (K : PySem.W.Frag) (W : Wd) (c : CFun) (fa : Addr) (fd : FuncData) : Prop where
  ex : ∃ x qual params body scope, FunD K x qual params body scope [] [] fa fd ∧ FnScope c.N c.ps scope ∧ mSs W c.body ⟨c.N, scope, none⟩ body = true
  bd : Binds K fd c.ps []
structure Ready (K : PySem.W.Frag) (mg : Str → Option Value) (W : Wd) : Prop where
  fn : ∀ f c, W.T (f, none) = some c → ∃ fa fd, mg f = some (.ref fa) ∧ PySem.W.keepIn K (.ref fa) = true ∧ (∀ ks, (f, ks) ∈ W.kw → KwB K fd c.ps ks) ∧ DefIn K W c fa fd
  meth : ∀ C m c, W.T (C, some m) = some c → ∃ fa fd, Cls K (He.ga K C) ∧ Meth K (He.ga K C) m fa ∧ DefIn K W c fa fd ∧ (m = "__init__" → mg C = some (.ref (He.ga K C)) ∧ Mk K (He.ga K C) fa)
  glob : ∀ x d, W.gl x = some d → ∃ u v, mg x = some u ∧ RelV v u ∧ ∀ H, Rep K H d v
  fld : ∀ C f, W.fl C f = true → Cls K (He.ga K C) ∧ NoAttr K (He.ga K C) f
  bn : ∀ x ∈ bNames, mg x = none
theorem startD_rep {K : PySem.W.Frag} {H : Hp} {c : CFun} {ds : List D} {vs : List V} (r : RepL K H ds vs) : RepS K H (startD c ds) (start c.N vs) := by
  unfold startD L2.start
  have e : ds.length = vs.length := r.length
  rw [e]
  have h1 : ∀ {ds : List D} {vs : List V}, RepL K H ds vs → RepS K H (ds.map some) (vs.map some) := by
    intro ds
    induction ds with
    | nil => intro vs r; rw [r.nil_inv]; exact .nil
    | cons d ds ih =>
      intro vs r
      obtain ⟨v, rr, e, h1, h2⟩ := r.cons_inv
      subst e
      exact .cons (show RelD K H (some d) (some v) from h1) (ih h2)
  have h2 : ∀ n, RepS K H (List.replicate n none) (List.replicate n (none : Option V)) := by
    intro n
    induction n with
    | zero => exact .nil
    | succ n ih => exact .cons trivial ih
  have h3 : ∀ {a b : DSt} {c d : SV}, RepS K H a c → RepS K H b d → RepS K H (a ++ b) (c ++ d) := by
    intro a b c d x y
    induction x with
    | nil => exact y
    | cons h t ih => exact .cons h ih
  exact h3 (h1 r) (h2 _)
theorem body_ok {P : Program} {w : World} {K : PySem.W.Frag} {mg : Str → Option Value} {base : Heap} {W : Wd} {p q : FId → CallT} {k : Nat} {c : CFun} {fa : Addr} {fd : FuncData} (hW : WOk P w K mg base W p q k) (Dn : DefIn K W c fa fd) : FnG P w K mg base (k + 1) fa fd c.ps (wpBody (gamW W p q) c) := by
  obtain ⟨x, qual, params, body, scope, F, S, hm⟩ := Dn.ex
  refine fnG_of F S (fun ds M Q E h => h.1) fun cdv A outer s H vs ds M Qd hr hgd rl rm hg => ?_
  have O : OkW W p q k (cxOf CX0 P w K mg base c.N qual scope fa cdv A outer s H E0) ⟨c.N, scope, none⟩ :=
    ⟨⟨rfl, hgd, hr, rfl, S.nd, rfl, fun _ _ => rfl, passes_of rfl⟩, hW⟩
  have z := sSs c.body ⟨c.N, scope, none⟩ body (cxOf CX0 P w K mg base c.N qual scope fa cdv A outer s H E0) (M, H) hm O S.kind
  have e : (fun (C : Str) (ks : List Str) (vs : List D) (_ : DSt) (M' : MM) => ∃ M'', Sub M'' M' ∧ XF C ks vs M'') = EF := by
    funext C ks vs _ M'
    exact propext ⟨fun ⟨_, _, h⟩ => h, fun h => h.elim⟩
  have hb := hg.2
  rw [e] at hb
  refine ⟨_, z, startD c ds, M, _, ⟨.refl, startD_rep rl, rm⟩, hb, ?_⟩
  refine ⟨fun σd M' σ H' f _ m ⟨M'', sb, q⟩ => ⟨.non, M'', f.sub sb, mk_non, m.sub sb, q⟩, fun d M' v H' f r m ⟨M'', sb, q⟩ => ⟨d, M'', f.sub sb, r, m.sub sb, q⟩, fun _ _ _ _ _ _ _ q => q.elim, fun _ _ _ _ _ _ _ q => q.elim⟩
theorem all_ok {P : Program} {w : World} {K : PySem.W.Frag} {mg : Str → Option Value} {base : Heap} {W : Wd} (R : Ready K mg W) : ∀ n,
    (∀ id c fa fd, W.T id = some c → DefIn K W c fa fd → FnG P w K mg base (n + 1) fa fd c.ps ((wpFF W.T W.gl W.fl n).1 id)) ∧
    (∀ id c fa fd, W.T id = some c → DefIn K W c fa fd → FnG P w K mg base n fa fd c.ps ((wpFF W.T W.gl W.fl n).2 id))
  | 0 => ⟨fun id c fa fd _ _ => ⟨fun _ _ _ _ h => h.elim, fun _ _ _ _ _ _ _ _ _ _ _ _ _ _ _ _ _ h => h.elim⟩, fun id c fa fd _ _ => ⟨fun _ _ _ _ h => h.elim, fun _ _ _ _ _ _ _ _ _ _ _ _ _ _ _ _ _ h => h.elim⟩⟩
  | n + 1 => by
    obtain ⟨h1, h2⟩ := all_ok R n
    refine ⟨fun id c fa fd hc Dn => ?_, fun id c fa fd hc Dn => h1 id c fa fd hc Dn⟩
    have hW : WOk P w K mg base W (wpFF W.T W.gl W.fl n).1 (wpFF W.T W.gl W.fl n).2 (n + 1) := by
      refine ⟨fun f c hc => ?_, fun C m c hc => ?_, fun C c hc => ?_, R.glob, R.fld, R.bn⟩
      · obtain ⟨fa, fd, hm, hk, hkw, Dn⟩ := R.fn f c hc
        exact ⟨fa, fd, hm, hk, Dn.bd, hkw, h1 _ _ _ _ hc Dn⟩
      · obtain ⟨fa, fd, hcl, hm, Dn, _⟩ := R.meth C m c hc
        exact ⟨fa, fd, hcl, hm, Dn.bd, h1 _ _ _ _ hc Dn⟩
      · obtain ⟨fa, fd, hcl, hm, Dn, hi⟩ := R.meth C "__init__" c hc
        obtain ⟨g1, g2⟩ := hi rfl
        exact ⟨n, fa, fd, Nat.le_refl _, g1, g2, Dn.bd, h2 _ _ _ _ hc Dn⟩
    have e : (wpFF W.T W.gl W.fl (n + 1)).1 id = wpBody (gamW W (wpFF W.T W.gl W.fl n).1 (wpFF W.T W.gl W.fl n).2) c := by
      show stepF W.T W.gl W.fl (wpFF W.T W.gl W.fl n).1 (wpFF W.T W.gl W.fl n).2 id = _
      unfold stepF
      rw [hc]
      rfl
    rw [e]
    exact body_ok hW Dn
end RX
set_option Elab.async false
set_option linter.all false
set_option maxRecDepth 100000
set_option maxHeartbeats 4000000
/-! RX14: the law's call behind the top. -/
namespace RX
open PySem PySem.Spec PyProof.Rows L2

def M0 : MM := fun _ => none
theorem law_callG {P : Program} {w : World} {K : PySem.W.Frag} {mg mb : Str → Option Value} {k : Nat} {fa a : Addr} {fd : FuncData} {x : Str} {g : CallT} {s₁ : Shared} {vs : List Value} {ns : List Int}
    (KX : K.In s₁.heap) (hns : s₁.heap.Ns mainGlobals mg) (hb : s₁.heap.Ns builtinsNs mb) (hbb : ∀ x : Str, x ≠ "__name__" → mb x = bootBuiltins x) (hlim : s₁.heap.NoLimit) (hg : s₁.gens = #[])
    (ha : s₁.heap.get? a = some { cls := .type "list", data := .seq vs.toArray }) (hi : IntsAre vs ns) (hl : ns.length ≤ sizeLine) (hr : Room k callerA)
    (F : ∀ base : Heap, K.In base → base.Ns mainGlobals mg → FnG P w K mg base k fa fd [x] g) (hbind : ∀ (s : Shared) (u : Value), BindsTo s fd ⟨[u], []⟩ [(x, u)])
    (hsp : g [.lst (ns.map D.int)] M0 (fun d _ => d = .bl true) XF) :
    codeAny (model P w) callerA (.call (.ref fa) ⟨[.ref a], []⟩) (fun r s' => r = .ok (.ret (.bool true)) ∧ OldK s₁.heap s'.heap ∧ s'.os = s₁.os ∧ AllBare s'.gens) s₁ := by
  have rv := vals_ints hi
  have lenV := hi.length
  have reps : ∀ H : Hp, RepL K H (ns.map D.int) (ns.map V.int) := fun H => by
    clear hsp lenV rv hi hl
    induction ns with
    | nil => exact .nil
    | cons n ns ih => exact .cons (mk_int n) ih
  have core : ∀ H : Hp, Only H → FzL K H a (ns.map V.int) → HOk P w H s₁.heap → (∀ b, H b ≠ none → b = a) → (H a ≠ none → K.lookup a = none) →
      codeAny (model P w) callerA (.call (.ref fa) ⟨[.ref a], []⟩) (fun r s' => r = .ok (.ret (.bool true)) ∧ OldK s₁.heap s'.heap ∧ s'.os = s₁.os ∧ AllBare s'.gens) s₁ := by
    intro H hO hS hok hA hK
    have base_of : ∀ {b : Addr} {o : Obj}, s₁.heap.get? b = some o → H b = none → (hidT s₁.heap H).get? b = some o := fun e n => hidT_get e n
    have noA : ∀ {b : Addr} {o : Obj} {es : Array DictEntry} {ep : Nat}, s₁.heap.get? b = some o → o.data = .dict es ep → H b = none := fun {b o es ep} e d => by
      cases q : H b with
      | none => rfl
      | some u =>
        have e' : b = a := hA b (by rw [q]; simp)
        subst e'
        rw [ha] at e; cases e
        have d' : Data.seq vs.toArray _ = Data.dict es ep := d
        cases d'
    have nsK : ∀ {b : Addr} {m : Str → Option Value}, s₁.heap.Ns b m → (hidT s₁.heap H).Ns b m := fun {b m} ⟨o, es, ep, e, d, r⟩ => ⟨o, es, ep, base_of e (noA e d), d, r⟩
    have hKb : K.In (hidT s₁.heap H) := fun b o e => base_of (KX b o e) (by
      cases q : H b with
      | none => rfl
      | some u =>
        have e' : b = a := hA b (by rw [q]; simp)
        subst e'
        rw [hK (by rw [q]; simp)] at e; cases e)
    have hM : Mod K mg (hidT s₁.heap H) := ⟨hKb, nsK hns, ⟨mb, nsK hb, hbb⟩, let ⟨mc, h1, h2⟩ := hlim; ⟨mc, nsK h1, h2⟩⟩
    have e0 : Env0 P w K mg (hidT s₁.heap H) callerA [] s₁ H := ⟨rfl, hM, fun b o e => of_hidT e, Nat.le_of_eq (hidT_size _ _), trivial, fun b hb => absurd (show b ∈ ([] : List Addr) from hb) (by simp), hok, .of_eq hg⟩
    refine codeAny_mono ((F _ hKb (nsK hns)).run callerA [] s₁ H ⟨[.ref a], []⟩ [.ref a] [.ref a] [.lst (ns.map D.int)] M0 _ hr rfl e0 (hbind s₁ (.ref a)) (.cons rfl .nil) (.cons (mk_lst hS (reps H)) .nil) (fun a o e => by cases e) hsp) fun r s' h => ?_
    cases r with
    | error e => exact h.elim
    | ok fl =>
      cases fl with
      | next => exact False.elim h
      | brk => exact False.elim h
      | cont => exact False.elim h
      | ret u =>
        obtain ⟨v, H', os, bare, un, hok', r', d, M', _, rd, _, q⟩ := h
        subst q
        have q' : v = .bl true := rep_bl rd
        subst q'
        obtain rfl : u = Value.bool true := r'
        refine ⟨rfl, OldK.of_keep fun b o e => ?_, os, bare⟩
        cases q : H b with
        | none => exact un.keep b o e q (by intro z; exact absurd (show b ∈ ([] : List Addr) from z) (by simp)) (by simp)
        | some u =>
          rcases hO b with z | ⟨ob, xs, z⟩
          · rw [q] at z; cases z
          · have z2 := un.frzs b ob _ z
            obtain ⟨e1, _⟩ := hok b _ z
            obtain ⟨e2, _⟩ := hok' b _ z2
            rw [e] at e1; cases e1
            exact e2
  cases hk : K.lookup a with
  | some o =>
    have e := KX a o hk
    rw [ha] at e
    cases e
    exact core (fun _ => none) (fun _ => .inl rfl) (.inr ⟨vs, _, hk, by rw [List.length_map]; exact hl, rv⟩) (fun b u z => by have z' : (none : Option HO) = some u := z; cases z') (fun b z => absurd rfl z) fun z => absurd rfl z
  | none =>
    refine core (fun b => if b = a then some (.frz { cls := .type "list", data := .seq vs.toArray } (.lst (ns.map V.int))) else none) (fun b => ?_) (.inl ⟨{ cls := .type "list", data := .seq vs.toArray }, if_pos rfl⟩) (fun b u z => ?_) (fun b z => ?_) fun _ => hk
    · by_cases hb : b = a
      · exact .inr ⟨_, _, if_pos hb⟩
      · exact .inl (if_neg hb)
    · by_cases hb : b = a
      · have z' := (if_pos hb).symm.trans z
        cases z'
        subst hb
        exact ⟨ha, by rw [List.length_map]; exact hl, vs, _, rv, ha⟩
      · have z' := (if_neg hb).symm.trans z
        cases z'
    · by_cases hb : b = a
      · exact hb
      · exact absurd (if_neg hb) z
theorem walk_G {l : PySem.W.OpenLaw} {n k : Nat} {q : Program} {loose : List Str} {XP : (Str → Option Value) → Heap → Prop} {YP : World → Heap → Prop} {d : DefRec} {x : Str}
    (hn : l.most = some n) (hn2 : n ≤ sizeLine) (hdf : d.params.defaults = []) (hr : Room k callerA)
    (F : ∀ (w : World) (mg : Str → Option Value) (fa : Addr) (h : Heap), YP w h → h.Ns mainGlobals mg → mg d.name = some (.ref fa) →
      ∃ (K : PySem.W.Frag) (fd : FuncData) (g : CallT), K.In h ∧ (∀ (s : Shared) (u : Value), BindsTo s fd ⟨[u], []⟩ [(x, u)]) ∧
        (∀ (ns : List Int), ns.length ≤ n → (∀ z ∈ ns, Builtin.Int.intBits z ≤ 1048576) → g [.lst (ns.map D.int)] M0 (fun d _ => d = .bl true) XF) ∧
        ∀ base : Heap, K.In base → base.Ns mainGlobals mg → FnG l.prog w K mg base k fa fd [x] g) :
    PySem.W.WalkO q loose XP YP l.row.toRowW d [] (fun f vs => PySem.call f vs) := by
  refine Att.attach_callB hn hdf fun w s₀ s₁ mg mb fa o pm cd doc a vs ns G Y ho hd hcd hmg hobj hints hlen hbits hg => ?_
  obtain ⟨K, fd, g, KX, hb, hsp, hF⟩ := F w mg fa _ Y G.T.g hmg
  exact law_callG KX G.T.g G.T.b G.T.builtins G.T.nolimit hg hobj hints (Nat.le_trans hlen hn2) hr hF hb (hsp ns hlen hbits)
end RX
set_option Elab.async false
set_option linter.all false
set_option maxRecDepth 100000
set_option maxHeartbeats 4000000
/-! RX15: a law's data, and what the head's facts make of them. -/
namespace RX
open PySem PySem.Spec PyProof.Rows L2

structure Ent where
  id : FId
  c : CFun
  name : Str
  qual : Str
  st : Stmt
structure Law where
  tab : List Ent
  cls : List Str
  flds : List (Str × Str)
  gcs : List (Str × (Int ⊕ Str))
  kw : List (Str × List Str)
def Ent.dd (e : Ent) : He.DefD := ⟨e.id, e.name, e.qual, defArgs e.st, defBody e.st, defScope e.st, [], []⟩
def gcD : Int ⊕ Str → D
  | .inl i => .int i
  | .inr x => .str x
def Law.T (L : Law) : FId → Option CFun := fun id => (L.tab.find? fun e => decide (e.id = id)).map (·.c)
def Law.gl (L : Law) : Str → Option D := fun x => (L.gcs.find? fun g => decide (g.1 = x)).map fun g => gcD g.2
def Law.fl (L : Law) : Str → Str → Bool := fun C f => decide ((C, f) ∈ L.flds)
def Law.W (L : Law) : Wd := ⟨L.T, L.gl, L.fl, L.kw⟩
def entFa (e : Ent) : He.Fa := match e.id with
  | (f, none) => .glo f
  | (C, some m) => .meth C m
def gcFa : Str × (Int ⊕ Str) → He.Fa
  | (x, .inl i) => .int x i
  | (x, .inr z) => .str x z
def initN : Str := "__init__"
def Law.fa (L : Law) : List He.Fa := L.tab.map entFa ++ (L.cls.flatMap (fun C => [.glo C, .cls C]) ++ ((L.tab.filterMap fun e => match e.id with
  | (C, some m) => if m = initN then some (.mkr C) else none
  | _ => none) ++ (L.flds.map (fun p => .noat p.1 p.2) ++ (L.gcs.map gcFa ++ bNames.map .free))))
def Law.fn (L : Law) : List He.DefD := L.tab.map Ent.dd
def fnScopeB (N ps : List Str) (sc : Scope) : Bool := (match sc.kind with | .function => true | _ => false) && !sc.isCoroutine && !sc.isGenerator && decide N.Nodup && decide (N.take ps.length = ps) && (ps.all fun x => decide (sc.names.lookup x = some .local) || decide (sc.names.lookup x = some .cell)) && (sc.names.all fun y => match y.2 with | .free => false | _ => true)
theorem fnScope_of {N ps : List Str} {sc : Scope} (h : fnScopeB N ps sc = true) : FnScope N ps sc := by
  unfold fnScopeB at h
  simp only [Bool.and_eq_true, Bool.not_eq_true', List.all_eq_true, Bool.or_eq_true, decide_eq_true_eq] at h
  obtain ⟨⟨⟨⟨⟨⟨h1, h2⟩, h3⟩, h4⟩, h5⟩, h6⟩, h7⟩ := h
  refine ⟨?_, h2, h3, h4, h5, h6, fun y hy e => ?_⟩
  · split at h1
    · assumption
    · cases h1
  · have := h7 y hy
    rw [e] at this
    cases this
theorem len0 {α : Type} (l : List α) (h : l.length = 0) : ∃ _ : Unit, l = [] := ⟨(), List.eq_nil_of_length_eq_zero h⟩
theorem len1 {α : Type} (l : List α) (h : l.length = 1) : ∃ a, l = [a] := match l, h with | [a], _ => ⟨a, rfl⟩
theorem len2 {α : Type} (l : List α) (h : l.length = 2) : ∃ a b, l = [a, b] := match l, h with | [a, b], _ => ⟨a, b, rfl⟩
theorem len3 {α : Type} (l : List α) (h : l.length = 3) : ∃ a b c, l = [a, b, c] := match l, h with | [a, b, c], _ => ⟨a, b, c, rfl⟩
theorem len4 {α : Type} (l : List α) (h : l.length = 4) : ∃ a b c d, l = [a, b, c, d] := match l, h with | [a, b, c, d], _ => ⟨a, b, c, d, rfl⟩
theorem len5 {α : Type} (l : List α) (h : l.length = 5) : ∃ a b c d e, l = [a, b, c, d, e] := match l, h with | [a, b, c, d, e], _ => ⟨a, b, c, d, e, rfl⟩
/-- what is looked at for each def -/
def Law.entB (L : Law) (e : Ent) : Bool := fnScopeB e.c.N e.c.ps (defScope e.st) && mSs L.W e.c.body ⟨e.c.N, defScope e.st, none⟩ (defBody e.st) && (match e.id with
  | (_, none) => true
  | (C, some _) => decide (C ∈ L.cls))
def Law.fldB (L : Law) : Bool := L.flds.all fun p => decide (p.1 ∈ L.cls)
def Law.kwOf (L : Law) (f : Str) : List (List Str) := (L.kw.filter fun p => decide (p.1 = f)).map (·.2)
/-- how a def's arguments are bound -/
structure EntBd (L : Law) (e : Ent) : Prop where
  bd : ∀ (kV doc pm : Value) (an : Option Addr) (cdv ct : Value) (us : List Value), us.length = e.c.ps.length → bindArgs (PySem.W.fnOf e.name e.qual (defArgs e.st) (defBody e.st) (defScope e.st) .none kV doc pm an cdv ct) ⟨us, []⟩ = pure (e.c.ps.zip us)
  kb : ∀ ks ∈ L.kwOf e.id.1, e.id.2 = none → ∀ (kV doc pm : Value) (an : Option Addr) (cdv ct : Value) (us ws : List Value), us.length + ws.length = e.c.ps.length → ws.length = ks.length →
    bindArgs (PySem.W.fnOf e.name e.qual (defArgs e.st) (defBody e.st) (defScope e.st) .none kV doc pm an cdv ct) ⟨us, ks.zip ws⟩ = pure (e.c.ps.zip (kwArr e.c.ps us ks ws))
section
variable {L : Law} {K : PySem.W.Frag} {h : Heap} {mg : Str → Option Value}
theorem fact_of {fa : List He.Fa} {fn : List He.DefD} (c : He.SaysD fa fn K) {f : He.Fa} (hf : f ∈ fa) : f.ok K = true := by
  obtain ⟨i, hi⟩ := List.getElem?_of_mem hf
  exact c.fact i hi
theorem T_mem {id : FId} {c : CFun} (hc : L.T id = some c) : ∃ e ∈ L.tab, e.id = id ∧ e.c = c := by
  unfold Law.T at hc
  obtain ⟨e, he, e2⟩ := Option.map_eq_some_iff.mp hc
  exact ⟨e, List.mem_of_find?_eq_some he, of_decide_eq_true (List.find?_some (p := fun e : Ent => decide (e.id = id)) he), e2⟩
theorem defIn_of (c : He.SaysD L.fa L.fn K) {e : Ent} (he : e ∈ L.tab) (hb : EntBd L e) (hk : L.entB e = true) : ∃ fd, DefIn K L.W e.c (He.fAd K e.id) fd ∧ PySem.W.keepIn K (.ref (He.fAd K e.id)) = true ∧ (∀ ks, (e.id.1, ks) ∈ L.kw → e.id.2 = none → KwB K fd e.c.ps ks) := by
  obtain ⟨i, hi⟩ := List.getElem?_of_mem he
  have hd : L.fn[i]? = some e.dd := by unfold Law.fn; rw [List.getElem?_map, hi]; rfl
  obtain ⟨fd, F⟩ := c.def_ i hd
  have F' : FunD K e.name e.qual (defArgs e.st) (defBody e.st) (defScope e.st) [] [] (He.fAd K e.id) fd := F
  unfold Law.entB at hk
  simp only [Bool.and_eq_true] at hk
  refine ⟨fd, ⟨⟨_, _, _, _, _, F', fnScope_of hk.1.1, hk.1.2⟩, F'.bindsN hb.bd⟩, F'.kp, fun ks hks hn => ?_⟩
  obtain ⟨oc, od, dV, kV, doc, pm, an, cdv, ct, osl, rfl, lk, hcd, hD, hK⟩ := F'.ex
  rcases hD with ⟨_, rfl⟩ | ⟨e, _⟩
  · exact fun s us ws _ h1 h2 => .of_eq (hb.kb ks (List.mem_map.mpr ⟨_, List.mem_filter.mpr ⟨hks, decide_eq_true rfl⟩, rfl⟩) hn kV doc pm an cdv ct us ws h1 h2)
  · exact absurd rfl e
theorem ready_of (X : K.In h) (G : h.Ns mainGlobals mg) (c : He.SaysD L.fa L.fn K) (hb : ∀ e ∈ L.tab, EntBd L e) (hk : (L.tab.all L.entB && L.fldB) = true) : Ready K mg L.W := by
  rw [Bool.and_eq_true] at hk
  obtain ⟨hk, hk2⟩ := hk
  have hkE : ∀ e ∈ L.tab, L.entB e = true := fun e he => List.all_eq_true.mp hk e he
  have clsF : ∀ C ∈ L.cls, mg C = some (.ref (He.ga K C)) ∧ Cls K (He.ga K C) := fun C hC => by
    refine ⟨He.glo_ok X G (fact_of c ?_), He.cls_ok (fact_of c ?_)⟩
    · unfold Law.fa
      refine List.mem_append_right _ (List.mem_append_left _ (List.mem_flatMap.mpr ⟨C, hC, by simp⟩))
    · unfold Law.fa
      refine List.mem_append_right _ (List.mem_append_left _ (List.mem_flatMap.mpr ⟨C, hC, by simp⟩))
  refine ⟨fun f cf hc => ?_, fun C m cf hc => ?_, fun x d hx => ?_, fun C f hf => ?_, fun x hx => ?_⟩
  · obtain ⟨e, he, e1, e2⟩ := T_mem hc
    subst e2
    obtain ⟨fd, Dn, kp, kw⟩ := defIn_of c he (hb e he) (hkE e he)
    rw [e1] at Dn kp kw
    have hm := He.glo_ok X G (x := f) (fact_of c (by
      unfold Law.fa
      refine List.mem_append_left _ (List.mem_map.mpr ⟨e, he, ?_⟩)
      unfold entFa
      rw [e1]))
    exact ⟨_, fd, hm, kp, fun ks hks => kw ks hks rfl, Dn⟩
  · obtain ⟨e, he, e1, e2⟩ := T_mem hc
    subst e2
    have hE := hkE e he
    obtain ⟨fd, Dn, kp, kw⟩ := defIn_of c he (hb e he) hE
    rw [e1] at Dn
    unfold Law.entB at hE
    rw [e1] at hE
    simp only [Bool.and_eq_true] at hE
    have hC : C ∈ L.cls := of_decide_eq_true hE.2
    have hM := He.meth_ok (x := C) (m := m) (fact_of c (by
      unfold Law.fa
      refine List.mem_append_left _ (List.mem_map.mpr ⟨e, he, ?_⟩)
      unfold entFa
      rw [e1]))
    refine ⟨_, fd, (clsF C hC).2, hM, Dn, fun hi => ⟨(clsF C hC).1, ?_⟩⟩
    subst hi
    exact He.mkr_ok (fact_of c (by
      unfold Law.fa
      refine List.mem_append_right _ (List.mem_append_right _ (List.mem_append_left _ (List.mem_filterMap.mpr ⟨e, he, ?_⟩)))
      rw [e1]
      exact if_pos rfl))
  · have hx' : L.gl x = some d := hx
    unfold Law.gl at hx'
    obtain ⟨g, hg, e2⟩ := Option.map_eq_some_iff.mp hx'
    have e1 : g.1 = x := of_decide_eq_true (List.find?_some (p := fun g : Str × (Int ⊕ Str) => decide (g.1 = x)) hg)
    have hmem := List.mem_of_find?_eq_some hg
    have hfa : gcFa g ∈ L.fa := by
      unfold Law.fa
      exact List.mem_append_right _ (List.mem_append_right _ (List.mem_append_right _ (List.mem_append_right _ (List.mem_append_left _ (List.mem_map.mpr ⟨g, hmem, rfl⟩)))))
    obtain ⟨y, v⟩ := g
    have e1 : y = x := e1
    subst e1
    subst e2
    cases v with
    | inl i =>
      obtain ⟨t, ht⟩ := He.int_ok X G (fact_of c hfa)
      exact ⟨_, .int i, ht, ⟨t, rfl⟩, fun H => mk_int i⟩
    | inr z =>
      obtain ⟨t, ht⟩ := He.str_ok X G (fact_of c hfa)
      exact ⟨_, .str z, ht, ⟨t, rfl⟩, fun H => mk_str z⟩
  · have hf' : (C, f) ∈ L.flds := of_decide_eq_true hf
    have hC : C ∈ L.cls := of_decide_eq_true (List.all_eq_true.mp hk2 (C, f) hf')
    refine ⟨(clsF C hC).2, He.noat_ok (fact_of c ?_)⟩
    unfold Law.fa
    exact List.mem_append_right _ (List.mem_append_right _ (List.mem_append_right _ (List.mem_append_left _ (List.mem_map.mpr ⟨(C, f), hf', rfl⟩))))
  · refine He.free_ok X G (fact_of c ?_)
    unfold Law.fa
    exact List.mem_append_right _ (List.mem_append_right _ (List.mem_append_right _ (List.mem_append_right _ (List.mem_append_right _ (List.mem_map.mpr ⟨x, hx, rfl⟩)))))
end
/-- the law of the text: its promise from the contracts -/
theorem law_of {L : Law} {K : PySem.W.Frag} {P : Program} {w : World} {h : Heap} {mg : Str → Option Value} {fa : Addr} {e : Ent} {x : Str} {n : Nat} (X : K.In h) (G : h.Ns mainGlobals mg) (c : He.SaysD L.fa L.fn K) (hb : ∀ e ∈ L.tab, EntBd L e) (hk : (L.tab.all L.entB && L.fldB) = true)
    (he : e ∈ L.tab) (hT : L.T e.id = some e.c) (hps : e.c.ps = [x]) (hid : e.id.2 = none) (hfa : mg e.id.1 = some (.ref fa)) :
    ∃ fd : FuncData, (∀ (s : Shared) (v : Value), BindsTo s fd ⟨[v], []⟩ [(x, v)]) ∧ ∀ base : Heap, K.In base → base.Ns mainGlobals mg → FnG P w K mg base (n + 1) fa fd [x] (wpF L.T L.gl L.fl n e.id) := by
  have R := ready_of X G c hb hk
  obtain ⟨⟨f, o⟩, cf, nm, ql, st⟩ := e
  cases hid
  have hT' : L.W.T (f, none) = some cf := hT
  obtain ⟨fd, Dn, kp, kw⟩ := defIn_of c he (hb _ he) (List.all_eq_true.mp (Bool.and_eq_true_iff.mp hk).1 _ he)
  have hm : mg f = some (.ref (He.ga K f)) := He.glo_ok X G (fact_of c (by
    unfold Law.fa
    exact List.mem_append_left _ (List.mem_map.mpr ⟨_, he, rfl⟩)))
  have e2 : fa = He.ga K f := by
    have := hfa.symm.trans hm
    cases this
    rfl
  subst e2
  have hps : cf.ps = [x] := hps
  obtain ⟨i, hi⟩ := List.getElem?_of_mem he
  obtain ⟨fd2, F⟩ := c.def_ i (show L.fn[i]? = some _ by unfold Law.fn; rw [List.getElem?_map, hi]; rfl)
  have F' : FunD K nm ql (defArgs st) (defBody st) (defScope st) [] [] (He.ga K f) fd2 := F
  refine ⟨fd2, fun s v => ?_, fun base _ _ => ?_⟩
  · have z := FunD.bindsA (ps := cf.ps) F' (hb _ he).bd s [v] (by rw [hps]; rfl)
    rw [hps] at z
    exact z
  · have hE := List.all_eq_true.mp (Bool.and_eq_true_iff.mp hk).1 _ he
    unfold Law.entB at hE
    simp only [Bool.and_eq_true] at hE
    have Dn2 : DefIn K L.W cf (He.ga K f) fd2 := ⟨⟨_, _, _, _, _, F', fnScope_of hE.1.1, hE.1.2⟩, F'.bindsN (hb _ he).bd⟩
    have z := ((all_ok (P := P) (w := w) (base := base) R n).1 (f, none) cf (He.ga K f) fd2 hT' Dn2)
    rw [hps] at z
    exact z
end RX
set_option Elab.async false
set_option linter.all false
set_option maxRecDepth 100000
set_option maxHeartbeats 4000000
/-! RX16: how contracts are shown. -/
namespace RX
open PySem PySem.Spec PyProof.Rows L2
@[irreducible] def Law.cl (L : Law) (n : Nat) : FId → CallT := (wpFF L.T L.gl L.fl n).1
@[irreducible] def Law.ini (L : Law) (n : Nat) : FId → CallT := (wpFF L.T L.gl L.fl n).2
@[irreducible] def Law.gx (L : Law) : Str → Option D := L.gl
@[irreducible] def Law.fx (L : Law) : Str → Str → Bool := L.fl
@[irreducible] def Law.px (L : Law) (x : Str) : List Str := match L.T (x, none) with | some c => c.ps | none => (match L.T (x, some "__init__") with | some c => c.ps | none => [])
@[irreducible] def Law.hx (L : Law) (C m : Str) : Bool := (L.T (C, some m)).isSome
@[irreducible] def Law.gm (L : Law) (n : Nat) : Gam := ⟨L.px, L.hx, fun x => L.cl n (x, none), fun C m => L.cl n (C, some m), fun C => L.ini n (C, some "__init__"), L.gx, L.fx⟩
theorem Law.gm_eq (L : Law) (n : Nat) : L.gm n = ⟨L.px, L.hx, fun x => L.cl n (x, none), fun C m => L.cl n (C, some m), fun C => L.ini n (C, some "__init__"), L.gx, L.fx⟩ := by unfold Law.gm; rfl
theorem Law.stp {L : Law} {n : Nat} {id : FId} {c : CFun} (h : L.T id = some c) : L.cl (n + 1) id = wpBody ⟨L.px, L.hx, fun x => L.cl n (x, none), fun C m => L.cl n (C, some m), fun C => L.ini n (C, some "__init__"), L.gx, L.fx⟩ c := by
  unfold Law.cl Law.ini Law.px Law.hx Law.gx Law.fx
  show stepF _ _ _ _ _ _ = _
  unfold stepF
  rw [h] <;> rfl
theorem Law.ini_s {L : Law} {n : Nat} {id : FId} : L.ini (n + 1) id = L.cl n id := by
  unfold Law.cl Law.ini
  rfl
theorem bT {k : Bool} {A B : Prop} (h : k = true) (a : A) : (k = true → A) ∧ (k = false → B) := And.intro (fun _ => a) (fun z => nomatch h.symm.trans z)
theorem bF {k : Bool} {A B : Prop} (h : k = false) (b : B) : (k = true → A) ∧ (k = false → B) := And.intro (fun z => nomatch h.symm.trans z) (fun _ => b)
def lcStep (g : DG) (tt : DT) (te : DE) (own : List Nat) (σ : DSt) (x : D) (M : MM) (Y : D → MM → Prop) (N : MM → Prop) : Prop := g x (wipeD σ own) M fun σ2 M2 => tt σ2 M2 fun b M3 => Bif b (te σ2 M3 Y) (N M3)
theorem lc_filter {g : DG} {tt : DT} {te : DE} {own : List Nat} {σ : DSt} {Q : List D → MM → Prop} {stab : MM → Prop} {M : MM} (f : D → Option D) (hs : stab M) : ∀ (xs acc : List D), acc.length + xs.length ≤ sizeLine →
    (∀ x ∈ xs, ∀ Y N, (match f x with | some y => Y y M | none => N M) → lcStep g tt te own σ x M Y N) → Q (acc ++ xs.filterMap f) M → lcD stab g tt te own σ Q xs acc M
  | [], acc, _, _, q => by
    rw [List.filterMap_nil, List.append_nil] at q
    exact ⟨hs, q⟩
  | x :: xs, acc, hl, h, q => by
    refine ⟨hs, by simp only [List.length_cons] at hl; omega, h x (List.mem_cons_self ..) _ _ ?_⟩
    cases e : f x with
    | some y =>
      refine lc_filter f hs xs (acc ++ [y]) (by simp only [List.length_cons, List.length_append, List.length_nil] at hl ⊢; omega) (fun x hx => h x (List.mem_cons_of_mem _ hx)) ?_
      rw [List.filterMap_cons_some e] at q
      rw [List.append_assoc]
      exact q
    | none =>
      refine lc_filter f hs xs acc (by simp only [List.length_cons] at hl ⊢; omega) (fun x hx => h x (List.mem_cons_of_mem _ hx)) ?_
      rw [List.filterMap_cons_none e] at q
      exact q
theorem lc_map {g : DG} {tt : DT} {te : DE} {own : List Nat} {σ : DSt} {Q : List D → MM → Prop} {stab : MM → Prop} {M : MM} (f : D → D) (hs : stab M) {xs : List D} (hl : xs.length ≤ sizeLine)
    (h : ∀ x ∈ xs, ∀ Y N, Y (f x) M → lcStep g tt te own σ x M Y N) (q : Q (xs.map f) M) : lcD stab g tt te own σ Q xs [] M := by
  refine lc_filter (fun x => some (f x)) hs xs [] (by simpa using hl) (fun x hx Y N q => h x hx Y N q) ?_
  rw [List.nil_append, List.filterMap_eq_map']
  exact q
end RX
set_option Elab.async false
set_option linter.all false
set_option maxRecDepth 1000000
set_option maxHeartbeats 4000000
/-! SG1: the defs about signatures, and plain specs. -/
namespace RX
open PySem PySem.Spec PyProof.Rows L2
/-! names -/
def lettersS : Str := "abcdefghijklmnopqrstuvwxyz"
def figuresS : Str := "0123456789"
def restS : Str := "abcdefghijklmnopqrstuvwxyz0123456789_"
def signOk (c : Nat) : Bool := decide (c ∈ restS.cps.toList)
def nameOk (z : Str) : Bool := decide (1 ≤ z.length) && decide (z.length ≤ 12) && (match z.cps.toList with | c :: _ => decide (c ∈ lettersS.cps.toList) | [] => false) && z.cps.toList.all signOk
theorem inS_one (c : Nat) (j : Str) : inS ⟨#[c]⟩ j = decide (c ∈ j.cps.toList) := StrLaws.found_one j c
theorem str_one (c : Nat) : decide ((⟨#[c]⟩ : Str) = "_") = decide (c = 95) := by
  by_cases h : c = 95
  · subst h; rfl
  · have : (⟨#[c]⟩ : Str) ≠ "_" := fun e => h (by
      have h1 : [c] = ("_" : Str).cps.toList := congrArg (fun z : Str => z.cps.toList) e
      have h2 : ("_" : Str).cps.toList = [95] := by decide +kernel
      rw [h2] at h1
      injection h1)
    simp [h, this]
theorem rest_or (c : Nat) : signOk c = (decide (c ∈ lettersS.cps.toList) || (decide (c ∈ figuresS.cps.toList) || decide (c = 95))) := by
  have e : restS.cps.toList = lettersS.cps.toList ++ (figuresS.cps.toList ++ [95]) := by decide +kernel
  unfold signOk
  rw [e]
  simp
/-- the kinds of values that are handed about -/
inductive Tm (M : MM) : D → Prop where
  | non : Tm M .non
  | bl (b : Bool) : Tm M (.bl b)
  | int (i : Int) : Tm M (.int i)
  | str {z : Str} : z.length ≤ 1000 → Tm M (.str z)
  | tup {ds : List D} : ds.length ≤ 1000 → (∀ d ∈ ds, Tm M d) → Tm M (.tup ds)
  | lst {a : Addr} {ds : List D} : M a = some (.lst ds) → Tm M (.ref a)
  | dct {a : Addr} : M a = some (.dct [] []) → Tm M (.ref a)
  | flst (ds : List D) : Tm M (.lst ds)
  | fdct (ks : List Key) (ds : List D) : Tm M (.dct ks ds)
theorem ty_lst {M : MM} {a : Addr} {ds : List D} (h : M a = some (.lst ds)) : tyOf M (.ref a) = some (.bt "list") := by unfold tyOf; simp only [h]
theorem ty_dct {M : MM} {a : Addr} {ks : List Key} {ds : List D} (h : M a = some (.dct ks ds)) : tyOf M (.ref a) = some (.bt "dict") := by unfold tyOf; simp only [h]
theorem atI_nat {α : Type} {xs : List α} {k : Nat} {y : α} (h : xs[k]? = some y) : atI xs (k : Int) = some y := by
  have hk := (List.getElem?_eq_some_iff.mp h).1
  unfold atI ixN
  rw [if_pos (by omega), if_pos (by omega)]
  exact h
theorem atI_0 {α : Type} {x : α} {xs : List α} : atI (x :: xs) 0 = some x := atI_nat (k := 0) rfl
theorem atI_1 {α : Type} {x y : α} {xs : List α} : atI (x :: y :: xs) 1 = some y := atI_nat (k := 1) rfl
theorem atI_2 {α : Type} {x y z : α} {xs : List α} : atI (x :: y :: z :: xs) 2 = some z := atI_nat (k := 2) rfl
def nameD : D → Bool
  | .str z => nameOk z
  | _ => false
theorem rt_ {Q : DV} {d : D} {M : MM} (q : Q d M) : ∃ M'', Sub M'' M ∧ Q d M'' := ⟨M, .refl, q⟩
theorem lc_str {g : DG} {tt : DT} {te : DE} {own : List Nat} {σ : DSt} {Q : List D → MM → Prop} {stab : MM → Prop} {M : MM} {z : Str} (f : Nat → Bool) (hs : stab M) (hl : z.length ≤ sizeLine)
    (h : ∀ c, ∀ Y N, Y (.bl (f c)) M → lcStep g tt te own σ (.str ⟨#[c]⟩) M Y N) (q : Q ((z.cps.toList.map f).map D.bl) M) : lcD stab g tt te own σ Q (strD z) [] M := by
  have e : ∃ F : D → D, (∀ c, F (.str ⟨#[c]⟩) = .bl (f c)) := ⟨fun d => match d with | .str z => .bl (f (z.cps.toList.headD 0)) | _ => .non, fun c => rfl⟩
  obtain ⟨F, hF⟩ := e
  refine lc_map F hs (by unfold strD; rw [List.length_map, Array.length_toList]; exact hl) (fun x hx Y N y => ?_) ?_
  · unfold strD at hx
    obtain ⟨c, _, rfl⟩ := List.mem_map.mp hx
    rw [hF] at y
    exact h c Y N y
  · unfold strD
    rw [List.map_map]
    rw [List.map_map] at q
    have : (F ∘ fun c => D.str ⟨#[c]⟩) = (D.bl ∘ f) := funext fun c => hF c
    rw [this]
    exact q
end RX

namespace RX
open PySem PySem.Spec PyProof.Rows L2
theorem lc_gen {α : Type} {g : DG} {tt : DT} {te : DE} {own : List Nat} {σ : DSt} {Q : List D → MM → Prop} {stab : MM → Prop} {M : MM} (emb : α → D) (f : α → Option D) (hs : stab M) : ∀ (l : List α) (acc : List D), acc.length + l.length ≤ sizeLine →
    (∀ x ∈ l, ∀ Y N, (match f x with | some y => Y y M | none => N M) → lcStep g tt te own σ (emb x) M Y N) → Q (acc ++ l.filterMap f) M → lcD stab g tt te own σ Q (l.map emb) acc M
  | [], acc, _, _, q => by
    rw [List.filterMap_nil, List.append_nil] at q
    exact ⟨hs, q⟩
  | x :: l, acc, hl, h, q => by
    refine ⟨hs, by simp only [List.length_cons] at hl; omega, h x (List.mem_cons_self ..) _ _ ?_⟩
    cases e : f x with
    | some y =>
      refine lc_gen emb f hs l (acc ++ [y]) (by simp only [List.length_cons, List.length_append, List.length_nil] at hl ⊢; omega) (fun x hx => h x (List.mem_cons_of_mem _ hx)) ?_
      rw [List.filterMap_cons_some e] at q
      rw [List.append_assoc]
      exact q
    | none =>
      refine lc_gen emb f hs l acc (by simp only [List.length_cons] at hl ⊢; omega) (fun x hx => h x (List.mem_cons_of_mem _ hx)) ?_
      rw [List.filterMap_cons_none e] at q
      exact q
theorem lc_genM {α : Type} {g : DG} {tt : DT} {te : DE} {own : List Nat} {σ : DSt} {Q : List D → MM → Prop} {stab : MM → Prop} {M : MM} (emb : α → D) (f : α → D) (hs : stab M) {l : List α} (hl : l.length ≤ sizeLine)
    (h : ∀ x ∈ l, ∀ Y N, Y (f x) M → lcStep g tt te own σ (emb x) M Y N) (q : Q (l.map f) M) : lcD stab g tt te own σ Q (l.map emb) [] M := by
  refine lc_gen emb (fun x => some (f x)) hs l [] (by simpa using hl) (fun x hx Y N q => h x hx Y N q) ?_
  rw [List.nil_append, List.filterMap_eq_map']
  exact q
theorem lc_genB {α : Type} {g : DG} {tt : DT} {te : DE} {own : List Nat} {σ : DSt} {Q : List D → MM → Prop} {stab : MM → Prop} {M : MM} (emb : α → D) (f : α → Bool) (hs : stab M) {l : List α} (hl : l.length ≤ sizeLine)
    (h : ∀ x ∈ l, ∀ Y N, Y (.bl (f x)) M → lcStep g tt te own σ (emb x) M Y N) (q : Q ((l.map f).map D.bl) M) : lcD stab g tt te own σ Q (l.map emb) [] M := by
  refine lc_genM emb (fun x => .bl (f x)) hs hl h ?_
  rw [List.map_map] at q
  exact q
/-- while: n turns at most -/
theorem wh_inv {t : DT} {b : DS} {E : DEnds} (I : Nat → DSt → MM → Prop)
    (h : ∀ n (K : DSt → MM → Prop) σ M, (∀ n' σ' M', n = n' + 1 → I n' σ' M' → K σ' M') → I n σ M → t σ M fun c M1 => Bif c (b { E with nx := K, ct := K, bk := E.nx } σ M1) (E.nx σ M1)) : ∀ n σ M, I n σ M → whD t b E (n + 1) σ M
  | 0, σ, M, i => h 0 (whD t b E 0) σ M (fun n' _ _ e => by cases e) i
  | n + 1, σ, M, i => h (n + 1) (whD t b E (n + 1)) σ M (fun n' σ' M' e i' => by cases e; exact wh_inv I h n σ' M' i') i
/-- for: I i before the item i -/
theorem fo_inv {stab : MM → Prop} {g : DG} {b : DS} {E : DEnds} (xs : List D) (I : Nat → DSt → MM → Prop) (hs : ∀ i σ M, I i σ M → stab M)
    (h : ∀ i x, xs[i]? = some x → ∀ (K : DSt → MM → Prop) σ M, I i σ M → (∀ σ' M', I (i + 1) σ' M' → K σ' M') → g x σ M fun σ1 M1 => b { E with nx := K, ct := K, bk := E.nx } σ1 M1)
    (he : ∀ σ M, I xs.length σ M → E.nx σ M) : ∀ (k i : Nat) σ M, k + i = xs.length → I i σ M → forD stab g b E (xs.drop i) σ M
  | 0, i, σ, M, e, hi => by
    have : i = xs.length := by omega
    subst this
    rw [List.drop_length]
    exact ⟨hs _ σ M hi, he σ M hi⟩
  | k + 1, i, σ, M, e, hi => by
    have hl : i < xs.length := by omega
    rw [List.drop_eq_getElem_cons hl]
    exact ⟨hs _ σ M hi, h i _ (List.getElem?_eq_getElem hl) _ σ M hi fun σ' M' hi' => fo_inv xs I hs h he k (i + 1) σ' M' (by omega) hi'⟩
theorem fo_all {stab : MM → Prop} {g : DG} {b : DS} {E : DEnds} {xs : List D} {σ : DSt} {M : MM} (I : Nat → DSt → MM → Prop) (hs : ∀ i σ M, I i σ M → stab M)
    (h : ∀ i x, xs[i]? = some x → ∀ (K : DSt → MM → Prop) σ M, I i σ M → (∀ σ' M', I (i + 1) σ' M' → K σ' M') → g x σ M fun σ1 M1 => b { E with nx := K, ct := K, bk := E.nx } σ1 M1)
    (he : ∀ σ M, I xs.length σ M → E.nx σ M) (i0 : I 0 σ M) : forD stab g b E xs σ M := by
  have := fo_inv xs I hs h he xs.length 0 σ M (by omega) i0
  rwa [List.drop_zero] at this
theorem szA {α : Type} {xs : List α} {B : Prop} (h : decide (xs.length ≤ sizeLine) = true) (b : B) : xs.length ≤ sizeLine ∧ B := ⟨of_decide_eq_true h, b⟩
theorem lc_bl {g : DG} {tt : DT} {te : DE} {own : List Nat} {σ : DSt} {Q : List D → MM → Prop} {stab : MM → Prop} {M : MM} (f : D → Bool) (hs : stab M) {xs : List D} (hl : xs.length ≤ sizeLine)
    (h : ∀ x ∈ xs, ∀ Y N, Y (.bl (f x)) M → lcStep g tt te own σ x M Y N) (q : Q ((xs.map f).map D.bl) M) : lcD stab g tt te own σ Q xs [] M := by
  refine lc_map (fun x => .bl (f x)) hs hl h ?_
  rw [List.map_map] at q
  exact q
theorem all_id {α : Type} (xs : List α) (f : α → Bool) : (xs.map f).all id = xs.all f := by
  induction xs with
  | nil => rfl
  | cons x xs ih => simp only [List.map_cons, List.all_cons, ih, id]
/-! x in (texts) -/
theorem inR_str {M : MM} (z : Str) (zs : List Str) : InR M (.str z) (zs.map D.str) (decide (z ∈ zs)) := .txt rfl rfl
def inSt (zs : List Str) : D → Bool
  | .str z => decide (z ∈ zs)
  | _ => false
theorem Tm.ty {M : MM} {x : D} (t : Tm M x) : (∃ z, x = .str z ∧ z.length ≤ 1000) ∨ ((∀ z, x ≠ .str z) ∧ ∃ n, tyOf M x = some (.bt n) ∧ n ≠ "str") := by
  cases t with
  | str h => exact .inl ⟨_, rfl, h⟩
  | lst h => exact .inr ⟨(fun _ z => nomatch z), "list", ty_lst h, by decide⟩
  | dct h => exact .inr ⟨(fun _ z => nomatch z), "dict", ty_dct h, by decide⟩
  | non => exact .inr ⟨(fun _ z => nomatch z), "NoneType", rfl, by decide⟩
  | bl b => exact .inr ⟨(fun _ z => nomatch z), "bool", rfl, by decide⟩
  | int i => exact .inr ⟨(fun _ z => nomatch z), "int", rfl, by decide⟩
  | tup h1 h2 => exact .inr ⟨(fun _ z => nomatch z), "tuple", rfl, by decide⟩
  | flst ds => exact .inr ⟨(fun _ z => nomatch z), "list", rfl, by decide⟩
  | fdct ks ds => exact .inr ⟨(fun _ z => nomatch z), "dict", rfl, by decide⟩
theorem inR_tm {M : MM} {x : D} (t : Tm M x) (zs : List Str) : InR M x (zs.map D.str) (inSt zs x) := by
  rcases t.ty with ⟨z, e, _⟩ | ⟨h, n, e, hn⟩
  · subst e
    exact inR_str z zs
  · have e2 : inSt zs x = false := by
      unfold inSt
      split
      · exact absurd rfl (h _)
      · rfl
    rw [e2]
    exact .odd e hn rfl
theorem isi_str {n : String} (h : n ≠ "str") : ([Ty.bt "str"].any (isTy (Ty.bt n))) = false := by
  have e : ("str" == "int") = false := by decide
  simp [isTy, h, e]
theorem isi_tup {n : String} (h : n ≠ "tuple") : ([Ty.bt "tuple"].any (isTy (Ty.bt n))) = false := by
  have e : ("tuple" == "int") = false := by decide
  simp [isTy, h, e]
/-- tuple or not -/
theorem Tm.tupOr {M : MM} {x : D} (t : Tm M x) : (∃ ds, x = .tup ds ∧ ds.length ≤ 1000 ∧ ∀ d ∈ ds, Tm M d) ∨ ((∀ ds, x ≠ .tup ds) ∧ ∃ n, tyOf M x = some (.bt n) ∧ n ≠ "tuple") := by
  cases t with
  | tup h1 h2 => exact .inl ⟨_, rfl, h1, h2⟩
  | lst h => exact .inr ⟨(fun _ z => nomatch z), "list", ty_lst h, by decide⟩
  | dct h => exact .inr ⟨(fun _ z => nomatch z), "dict", ty_dct h, by decide⟩
  | non => exact .inr ⟨(fun _ z => nomatch z), "NoneType", rfl, by decide⟩
  | bl b => exact .inr ⟨(fun _ z => nomatch z), "bool", rfl, by decide⟩
  | int i => exact .inr ⟨(fun _ z => nomatch z), "int", rfl, by decide⟩
  | str h => exact .inr ⟨(fun _ z => nomatch z), "str", rfl, by decide⟩
  | flst ds => exact .inr ⟨(fun _ z => nomatch z), "list", rfl, by decide⟩
  | fdct ks ds => exact .inr ⟨(fun _ z => nomatch z), "dict", rfl, by decide⟩
/-! no two the same -/
theorem fold_addS : ∀ (zs L : List Str), (zs.foldl addS L).length ≤ L.length + zs.length ∧ ((zs.foldl addS L).length = L.length + zs.length ↔ zs.Nodup ∧ ∀ z ∈ zs, z ∉ L)
  | [], L => by simp
  | z :: zs, L => by
    obtain ⟨h1, h2⟩ := fold_addS zs (addS L z)
    rw [List.foldl_cons]
    by_cases hz : z ∈ L
    · have e : addS L z = L := by unfold addS; rw [if_pos (by simpa using hz)]
      rw [e] at h1 h2 ⊢
      simp only [List.length_cons]
      refine ⟨by omega, fun k => by omega, fun k => absurd hz (k.2 z (by simp))⟩
    · have e : addS L z = L ++ [z] := by unfold addS; rw [if_neg (by simpa using hz)]
      rw [e] at h1 h2 ⊢
      simp only [List.length_cons, List.length_append, List.length_nil] at h1 h2 ⊢
      refine ⟨by omega, ?_⟩
      have : (List.foldl addS (L ++ [z]) zs).length = L.length + (zs.length + 1) ↔ (List.foldl addS (L ++ [z]) zs).length = L.length + (0 + 1) + zs.length := by omega
      rw [this, h2]
      have m1 : ∀ y : Str, y ∈ L ++ [z] ↔ y ∈ L ∨ y = z := fun y => by simp
      constructor
      · rintro ⟨a, b⟩
        refine ⟨List.nodup_cons.mpr ⟨fun k => b z k ((m1 z).mpr (.inr rfl)), a⟩, fun y hy => ?_⟩
        rcases List.mem_cons.mp hy with e | hy
        · rw [e]; exact hz
        · exact fun k => b y hy ((m1 y).mpr (.inl k))
      · rintro ⟨a, c⟩
        obtain ⟨a, b⟩ := List.nodup_cons.mp a
        refine ⟨b, fun y hy k => ?_⟩
        rcases (m1 y).mp k with k | k
        · exact c y (List.mem_cons_of_mem _ hy) k
        · exact a (k ▸ hy)
theorem dedup_iff (zs : List Str) : (dedup zs).length = zs.length ↔ zs.Nodup := by
  have h := (fold_addS zs []).2
  simp only [List.length_nil, Nat.zero_add] at h
  unfold dedup
  rw [h]
  simp
/-! specs -/
structure Sig where
  kinds : List (Str × Bool)
  makers : List (Str × List Str × Str)
def wordD (b : Bool) : Str := if b then "open" else "closed"
def kP (p : Str × Bool) : D := .tup [.str p.1, .str (wordD p.2)]
def mP (m : Str × List Str × Str) : D := .tup [.str m.1, .tup (m.2.1.map D.str), .str m.2.2]
def sigD (g : Sig) : D := .tup [.tup (g.kinds.map kP), .tup (g.makers.map mP)]
inductive Made (g : Sig) : Str → Prop where
  | opn {k : Str} : (k, true) ∈ g.kinds → Made g k
  | mk {n : Str} {as : List Str} {k : Str} : (n, as, k) ∈ g.makers → (∀ a ∈ as, Made g a) → Made g k

def wordsS : List Str := ["open", "closed"]
def kpD : D → Bool
  | .tup [a, b] => nameD a && inSt wordsS b
  | _ => false
def rowD (ks : List Str) (lo hi : Nat) : D → Bool
  | .tup ds => decide (lo ≤ ds.length) && decide (ds.length ≤ hi) && ds.all (inSt ks)
  | _ => false
def mkD (ks : List Str) : D → Bool
  | .tup [a, b, c] => nameD a && rowD ks 0 3 b && inSt ks c
  | _ => false
end RX
namespace RX.Sg
open PySem PySem.Spec PyProof.Rows L2 RX
def f_is_name : CFun := { ps := ["value"], N := ["value", "sign"], body :=
  (.cons (.ite (.or (.not (.isi (.var 0) [(.bt "str")])) (.or (.not (.chain .LtE .LtE (.int 1) (.fn .len true (.cons (.var 0) .nil)) (.glb "MOST_NAME"))) (.cmp .NotIn (.ix (.var 0) (.int 0)) (.glb "LETTERS")))) (.cons (.ret (.bl false)) .nil) .nil) (.cons (.ret (.fn .all true (.cons (.lc true (.tst (.or (.cmp .In (.var 1) (.glb "LETTERS")) (.or (.cmp .In (.var 1) (.glb "FIGURES")) (.cmp .Eq (.var 1) (.str "_"))))) (.name 1) (.seq (.var 0)) .nil [("sign", 1)]) .nil))) .nil)) }
def f_are_unlike : CFun := { ps := ["values"], N := ["values"], body :=
  (.cons (.ret (.tst (.cmp .Eq (.lenset (.var 0)) (.fn .len true (.cons (.var 0) .nil))))) .nil) }
def f_Signs____init : CFun := { ps := ["self", "signature"], N := ["self", "signature", "kind", "_", "name", "args"], body :=
  (.cons (.setf (.var 0) "words" (.fn .dict true (.cons (.ix (.var 1) (.int 0)) .nil))) (.cons (.setf (.var 0) "kinds" (.lc true (.var 2) (.tup (.cons (.name 2) (.cons (.name 3) .nil))) (.seq (.ix (.var 1) (.int 0))) .nil [("kind", 2), ("_", 3)])) (.cons (.setf (.var 0) "makers" (.dc true (.var 4) (.tup (.cons (.var 5) (.cons (.var 2) .nil))) (.tup (.cons (.name 4) (.cons (.name 5) (.cons (.name 2) .nil)))) (.seq (.ix (.var 1) (.int 1))) [("name", 4), ("args", 5), ("kind", 2)])) (.cons (.setf (.var 0) "of_kind" (.dc true (.var 2) (.lst false .nil) (.name 2) (.seq (.fld (.var 0) "kinds")) [("kind", 2)])) (.cons (.for_ (.tup (.cons (.name 4) (.cons (.name 5) (.cons (.name 2) .nil)))) (.seq (.ix (.var 1) (.int 1))) (.cons (.expr (.bm .append (.ix (.fld (.var 0) "of_kind") (.var 2)) (.cons (.tup (.cons (.var 4) (.cons (.var 5) .nil))) .nil))) .nil)) (.cons (.setf (.var 0) "small" (.lst true .nil)) (.cons (.expr (.meth "find_small" (.var 0) .nil)) .nil))))))) }
def f_Signs__is_open : CFun := { ps := ["self", "kind"], N := ["self", "kind"], body :=
  (.cons (.ret (.tst (.cmp .Eq (.ix (.fld (.var 0) "words") (.var 1)) (.str "open")))) .nil) }
def f_Signs__is_small : CFun := { ps := ["self", "kind"], N := ["self", "kind"], body :=
  (.cons (.ret (.tst (.cmp .In (.var 1) (.fld (.var 0) "small")))) .nil) }
def f_Signs__find_small : CFun := { ps := ["self"], N := ["self", "more", "kind"], body :=
  (.cons (.setLc 1 true (.var 2) (.name 2) (.seq (.fld (.var 0) "kinds")) (.cons (.val (.meth "turns_small" (.var 0) (.cons (.var 2) .nil))) .nil) [("kind", 2)]) (.cons (.while_ (.cmp .NotEq (.var 1) (.lst true .nil)) (.cons (.setf (.var 0) "small" (.bin .Add true (.fld (.var 0) "small") (.var 1))) (.cons (.setLc 1 true (.var 2) (.name 2) (.seq (.fld (.var 0) "kinds")) (.cons (.val (.meth "turns_small" (.var 0) (.cons (.var 2) .nil))) .nil) [("kind", 2)]) .nil))) .nil)) }
def f_Signs__turns_small : CFun := { ps := ["self", "kind"], N := ["self", "kind", "_", "args", "arg"], body :=
  (.cons (.ite (.or (.val (.meth "is_open" (.var 0) (.cons (.var 1) .nil))) (.cmp .In (.var 1) (.fld (.var 0) "small"))) (.cons (.ret (.bl false)) .nil) .nil) (.cons (.ret (.fn .all true (.cons (.lc true (.fn .all true (.cons (.lc true (.tst (.cmp .In (.var 4) (.fld (.var 0) "small"))) (.name 4) (.seq (.var 3)) .nil [("arg", 4)]) .nil)) (.tup (.cons (.name 2) (.cons (.name 3) .nil))) (.seq (.ix (.fld (.var 0) "of_kind") (.var 1))) .nil [("_", 2), ("args", 3)]) .nil))) .nil)) }
def f_is_kind_pair : CFun := { ps := ["value"], N := ["value"], body :=
  (.cons (.ret (.tst (.and (.isi (.var 0) [(.bt "tuple")]) (.and (.cmp .Eq (.fn .len true (.cons (.var 0) .nil)) (.int 2)) (.and (.val (.call "is_name" (.cons (.ix (.var 0) (.int 0)) .nil))) (.cmp .In (.ix (.var 0) (.int 1)) (.tup (.cons (.str "open") (.cons (.str "closed") .nil))))))))) .nil) }
def f_is_kinds_row : CFun := { ps := ["value", "kinds", "least", "most"], N := ["value", "kinds", "least", "most", "each"], body :=
  (.cons (.ite (.or (.not (.isi (.var 0) [(.bt "tuple")])) (.not (.chain .LtE .LtE (.var 2) (.fn .len true (.cons (.var 0) .nil)) (.var 3)))) (.cons (.ret (.bl false)) .nil) .nil) (.cons (.ret (.fn .all true (.cons (.lc true (.tst (.and (.isi (.var 4) [(.bt "str")]) (.cmp .In (.var 4) (.var 1)))) (.name 4) (.seq (.var 0)) .nil [("each", 4)]) .nil))) .nil)) }
def f_is_maker : CFun := { ps := ["value", "kinds"], N := ["value", "kinds"], body :=
  (.cons (.ite (.or (.not (.isi (.var 0) [(.bt "tuple")])) (.or (.cmp .NotEq (.fn .len true (.cons (.var 0) .nil)) (.int 3)) (.not (.val (.call "is_name" (.cons (.ix (.var 0) (.int 0)) .nil)))))) (.cons (.ret (.bl false)) .nil) .nil) (.cons (.ret (.tst (.and (.val (.call "is_kinds_row" (.cons (.ix (.var 0) (.int 1)) (.cons (.var 1) (.cons (.int 0) (.cons (.glb "MOST_ARGS") .nil)))))) (.and (.isi (.ix (.var 0) (.int 2)) [(.bt "str")]) (.cmp .In (.ix (.var 0) (.int 2)) (.var 1)))))) .nil)) }
def f_made_kinds : CFun := { ps := ["signature"], N := ["signature", "found", "kind", "word", "more", "fresh", "_", "args", "arg"], body :=
  (.cons (.asg (.name 1) (.lc true (.var 2) (.tup (.cons (.name 2) (.cons (.name 3) .nil))) (.seq (.ix (.var 0) (.int 0))) (.cons (.cmp .Eq (.var 3) (.str "open")) .nil) [("kind", 2), ("word", 3)])) (.cons (.asg (.name 4) (.bl true)) (.cons (.while_ (.val (.var 4)) (.cons (.setLc 5 true (.var 2) (.tup (.cons (.name 6) (.cons (.name 7) (.cons (.name 2) .nil)))) (.seq (.ix (.var 0) (.int 1))) (.cons (.and (.cmp .NotIn (.var 2) (.var 1)) (.val (.fn .all true (.cons (.lc true (.tst (.cmp .In (.var 8) (.var 1))) (.name 8) (.seq (.var 7)) .nil [("arg", 8)]) .nil)))) .nil) [("_", 6), ("args", 7), ("kind", 2)]) (.cons (.asg (.name 1) (.bin .Add true (.var 1) (.var 5))) (.cons (.asg (.name 4) (.tst (.cmp .NotEq (.var 5) (.lst true .nil)))) .nil)))) (.cons (.ret (.var 1)) .nil)))) }
def f_is_signature_by : CFun := { ps := ["value"], N := ["value", "part", "pair", "kinds", "kind", "_", "each", "maker", "made"], body :=
  (.cons (.ite (.or (.not (.isi (.var 0) [(.bt "tuple")])) (.or (.cmp .NotEq (.fn .len true (.cons (.var 0) .nil)) (.int 2)) (.not (.val (.fn .all true (.cons (.lc true (.tst (.isi (.var 1) [(.bt "tuple")])) (.name 1) (.seq (.var 0)) .nil [("part", 1)]) .nil)))))) (.cons (.ret (.bl false)) .nil) .nil) (.cons (.ite (.or (.not (.chain .LtE .LtE (.int 1) (.fn .len true (.cons (.ix (.var 0) (.int 0)) .nil)) (.glb "MOST_KINDS"))) (.not (.val (.fn .all true (.cons (.lc true (.call "is_kind_pair" (.cons (.var 2) .nil)) (.name 2) (.seq (.ix (.var 0) (.int 0))) .nil [("pair", 2)]) .nil))))) (.cons (.ret (.bl false)) .nil) .nil) (.cons (.asg (.name 3) (.lc true (.var 4) (.tup (.cons (.name 4) (.cons (.name 5) .nil))) (.seq (.ix (.var 0) (.int 0))) .nil [("kind", 4), ("_", 5)])) (.cons (.ite (.or (.not (.val (.call "are_unlike" (.cons (.var 3) .nil)))) (.or (.cmp .Gt (.fn .len true (.cons (.ix (.var 0) (.int 1)) .nil)) (.glb "MOST_MAKERS")) (.not (.val (.fn .all true (.cons (.lc true (.call "is_maker" (.cons (.var 6) (.cons (.var 3) .nil))) (.name 6) (.seq (.ix (.var 0) (.int 1))) .nil [("each", 6)]) .nil)))))) (.cons (.ret (.bl false)) .nil) .nil) (.cons (.ite (.not (.val (.call "are_unlike" (.cons (.lc true (.ix (.var 7) (.int 0)) (.name 7) (.seq (.ix (.var 0) (.int 1))) .nil [("maker", 7)]) .nil)))) (.cons (.ret (.bl false)) .nil) .nil) (.cons (.asg (.name 8) (.call "made_kinds" (.cons (.var 0) .nil))) (.cons (.ret (.fn .all true (.cons (.lc true (.tst (.cmp .In (.var 4) (.var 8))) (.name 4) (.seq (.var 3)) .nil [("kind", 4)]) .nil))) .nil))))))) }
def f_check_signature : CFun := { ps := ["value"], N := ["value"], body :=
  (.cons (.ite (.not (.val (.call "is_signature_by" (.cons (.var 0) .nil)))) (.cons .never .nil) .nil) (.cons (.ret (.make "Signs" (.cons (.var 0) .nil))) .nil)) }
def f_check_kind : CFun := { ps := ["signs", "value"], N := ["signs", "value"], body :=
  (.cons (.ite (.or (.not (.isi (.var 1) [(.bt "str")])) (.cmp .NotIn (.var 1) (.fld (.var 0) "kinds"))) (.cons .never .nil) .nil) .nil) }
def f_is_signature : CFun := { ps := ["value"], N := ["value"], body :=
  (.cons (.ret (.call "is_signature_by" (.cons (.var 0) .nil))) .nil) }
def f_is_small : CFun := { ps := ["signature", "kind"], N := ["signature", "kind", "signs"], body :=
  (.cons (.asg (.name 2) (.call "check_signature" (.cons (.var 0) .nil))) (.cons (.expr (.call "check_kind" (.cons (.var 2) (.cons (.var 1) .nil)))) (.cons (.ret (.meth "is_small" (.var 2) (.cons (.var 1) .nil))) .nil))) }
end RX.Sg
set_option Elab.async false
set_option linter.all false
set_option maxRecDepth 1000000
set_option maxHeartbeats 4000000
/-! SG1b: plain facts: kinds that have a closed term. -/
namespace RX
open PySem PySem.Spec PyProof.Rows L2
theorem rest_small : ∀ c ∈ restS.cps.toList, c < 0x110000 := by decide +kernel
theorem nameOk_ok {z : Str} (h : nameOk z = true) : PyData.strOk z = true := by
  unfold nameOk at h
  simp only [Bool.and_eq_true] at h
  have h := h.2
  unfold PyData.strOk
  rw [← Array.all_toList]
  rw [List.all_eq_true] at h ⊢
  intro c hc
  have := h c hc
  unfold signOk at this
  exact decide_eq_true (rest_small c (of_decide_eq_true this))
theorem layNames : ∀ {l : List Str}, (∀ z ∈ l, nameOk z = true) → PyData.canLayAll0 (l.map PyData.str) = true
  | [], _ => rfl
  | z :: l, h => by
    simp only [List.map_cons, PyData.canLayAll0, PyData.canLay0, Bool.and_eq_true]
    exact ⟨nameOk_ok (h z (by simp)), layNames fun y hy => h y (List.mem_cons_of_mem _ hy)⟩
theorem depNames : ∀ (l : List Str), PyData.depthAll (l.map PyData.str) = 0
  | [] => rfl
  | z :: l => by simp only [List.map_cons, PyData.depthAll, PyData.depth, depNames l, Nat.max_self]
theorem shNames {l : List Str} (h : ∀ z ∈ l, nameOk z = true) : SeqAt.shaped (.list (l.map PyData.str)) = true := by
  unfold SeqAt.shaped
  rw [Bool.and_eq_true]
  refine ⟨?_, decide_eq_true ?_⟩
  · simp only [PyData.canLay0]
    exact layNames h
  · simp only [PyData.depth, depNames]
    omega
theorem vwNames {M : MM} : ∀ (l : List Str), VwL M (l.map D.str) (l.map PyData.str)
  | [] => .nil
  | z :: l => .cons (.str z) (vwNames l)
theorem eqr_nil {M : MM} {l : List Str} (h : ∀ z ∈ l, nameOk z = true) : EqR M (.lst (l.map D.str)) (.lst []) l.isEmpty := by
  have e := EqR.dat (M := M) (Vw.lst (vwNames l)) (Vw.lst .nil) (shNames h) (shNames (l := []) (by simp))
  have e2 : PyData.eqv (.list (l.map PyData.str)) (.list []) = l.isEmpty := by
    cases l <;> simp [PyData.eqv, PyData.eqvAll]
  rw [e2] at e
  exact e
/-! kinds that have a closed term -/
def Sig.ks (g : Sig) : List Str := g.kinds.map (·.1)
def fresh1 (f : List Str) (m : Str × List Str × Str) : Bool := decide (m.2.2 ∉ f) && m.2.1.all (fun a => decide (a ∈ f))
def freshS (g : Sig) (f : List Str) : List Str := (g.makers.filter (fresh1 f)).map (·.2.2)
def missS (g : Sig) (f : List Str) : List Str := g.ks.filter fun k => decide (k ∉ f)
def openS (g : Sig) : List Str := (g.kinds.filter (·.2)).map (·.1)
theorem filter_lt {α : Type} {p q : α → Bool} : ∀ {l : List α}, (∀ x ∈ l, q x = true → p x = true) → (∃ x ∈ l, p x = true ∧ q x = false) → (l.filter q).length < (l.filter p).length
  | [], _, ⟨x, h, _⟩ => by cases h
  | a :: l, h, ⟨x, hx, h1, h2⟩ => by
    have le : ∀ l : List α, (∀ x ∈ l, q x = true → p x = true) → (l.filter q).length ≤ (l.filter p).length := by
      intro l
      induction l with
      | nil => intro _; simp
      | cons b l ih =>
        intro h
        have := ih fun x hx => h x (List.mem_cons_of_mem _ hx)
        rw [List.filter_cons, List.filter_cons]
        by_cases hq : q b = true
        · rw [if_pos hq, if_pos (h b (by simp) hq)]; simp; omega
        · rw [if_neg hq]; split <;> simp <;> omega
    have hr : ∀ x ∈ l, q x = true → p x = true := fun x hx => h x (List.mem_cons_of_mem _ hx)
    rw [List.filter_cons, List.filter_cons]
    rcases List.mem_cons.mp hx with e | hx
    · subst e
      rw [if_pos h1, if_neg (by rw [h2]; exact Bool.false_ne_true)]
      have := le l hr
      simp; omega
    · have ih := filter_lt hr ⟨x, hx, h1, h2⟩
      by_cases hq : q a = true
      · rw [if_pos hq, if_pos (h a (by simp) hq)]; simp; omega
      · rw [if_neg hq]; split <;> simp <;> omega
structure MkOk (g : Sig) : Prop where
  kl : g.kinds.length ≤ 8
  ml : g.makers.length ≤ 24
  nm : ∀ k ∈ g.ks, nameOk k = true
  mkk : ∀ m ∈ g.makers, m.2.2 ∈ g.ks ∧ (∀ a ∈ m.2.1, a ∈ g.ks) ∧ m.2.1.length ≤ 3
structure LvInv (g : Sig) (f : List Str) : Prop where
  md : ∀ k ∈ f, Made g k
  op : ∀ k, (k, true) ∈ g.kinds → k ∈ f
  ks : ∀ k ∈ f, k ∈ g.ks
theorem fresh_mem {g : Sig} {f : List Str} {k : Str} : k ∈ freshS g f ↔ ∃ m ∈ g.makers, m.2.2 = k ∧ k ∉ f ∧ ∀ a ∈ m.2.1, a ∈ f := by
  unfold freshS fresh1
  rw [List.mem_map]
  constructor
  · rintro ⟨m, hm, rfl⟩
    obtain ⟨h1, h2⟩ := List.mem_filter.mp hm
    rw [Bool.and_eq_true, List.all_eq_true] at h2
    exact ⟨m, h1, rfl, of_decide_eq_true h2.1, fun a ha => of_decide_eq_true (h2.2 a ha)⟩
  · rintro ⟨m, h1, rfl, h2, h3⟩
    refine ⟨m, List.mem_filter.mpr ⟨h1, ?_⟩, rfl⟩
    rw [Bool.and_eq_true, List.all_eq_true]
    exact ⟨decide_eq_true h2, fun a ha => decide_eq_true (h3 a ha)⟩
theorem LvInv.step {g : Sig} (k : MkOk g) {f : List Str} (i : LvInv g f) : LvInv g (f ++ freshS g f) := by
  refine ⟨fun x hx => ?_, fun x hx => List.mem_append_left _ (i.op x hx), fun x hx => ?_⟩
  · rcases List.mem_append.mp hx with h | h
    · exact i.md x h
    · obtain ⟨⟨n, as, y⟩, h1, h2, _, h3⟩ := fresh_mem.mp h
      cases h2
      exact .mk h1 fun a ha => i.md a (h3 a ha)
  · rcases List.mem_append.mp hx with h | h
    · exact i.ks x h
    · obtain ⟨m, h1, h2, _⟩ := fresh_mem.mp h
      rw [← h2]
      exact (k.mkk m h1).1
theorem LvInv.done {g : Sig} {f : List Str} (i : LvInv g f) (h : freshS g f = []) (k : Str) : k ∈ f ↔ Made g k := by
  refine ⟨i.md k, fun m => ?_⟩
  induction m with
  | opn h => exact i.op _ h
  | mk h1 _ ih =>
    rename_i n as x
    apply Classical.byContradiction
    intro hn
    have := fresh_mem.mpr ⟨_, h1, rfl, hn, ih⟩
    rw [h] at this
    cases this
theorem miss_lt {g : Sig} (k : MkOk g) {f : List Str} (h : freshS g f ≠ []) : (missS g (f ++ freshS g f)).length < (missS g f).length := by
  unfold missS
  refine filter_lt (fun x _ hx => ?_) ?_
  · have := of_decide_eq_true hx
    exact decide_eq_true fun z => this (List.mem_append_left _ z)
  · obtain ⟨x, hx⟩ := List.exists_mem_of_ne_nil _ h
    obtain ⟨m, h1, h2, h3, _⟩ := fresh_mem.mp hx
    refine ⟨x, by rw [← h2]; exact (k.mkk m h1).1, decide_eq_true h3, decide_eq_false ?_⟩
    exact fun z => z (List.mem_append_right _ hx)
theorem fresh_len {g : Sig} (k : MkOk g) (f : List Str) : (freshS g f).length ≤ 24 := by
  unfold freshS
  rw [List.length_map]
  exact Nat.le_trans (List.length_filter_le _ _) k.ml
theorem openS_inv {g : Sig} : LvInv g (openS g) := by
  refine ⟨fun k h => ?_, fun k h => ?_, fun k h => ?_⟩
  · unfold openS at h
    obtain ⟨⟨x, b⟩, h1, rfl⟩ := List.mem_map.mp h
    obtain ⟨h2, h3⟩ := List.mem_filter.mp h1
    cases h3
    exact .opn h2
  · unfold openS
    exact List.mem_map.mpr ⟨(k, true), List.mem_filter.mpr ⟨h, rfl⟩, rfl⟩
  · unfold openS at h
    obtain ⟨⟨x, b⟩, h1, rfl⟩ := List.mem_map.mp h
    obtain ⟨h2, h3⟩ := List.mem_filter.mp h1
    exact List.mem_map.mpr ⟨_, h2, rfl⟩
theorem wordD_open (b : Bool) : decide (wordD b = "open") = b := by
  cases b with
  | true => rfl
  | false => rfl
theorem filterMap_if {α β : Type} (p : α → Bool) (e : α → β) (l : List α) : (l.filterMap fun x => if p x then some (e x) else none) = (l.filter p).map e := by
  induction l with
  | nil => rfl
  | cons x l ih =>
    by_cases h : p x = true
    · rw [List.filter_cons_of_pos h, List.map_cons, ← ih, List.filterMap_cons, if_pos h]
    · rw [List.filter_cons_of_neg h, ← ih, List.filterMap_cons, if_neg h]
end RX
set_option Elab.async false
set_option linter.all false
set_option maxRecDepth 1000000
set_option maxHeartbeats 4000000
/-! SG1c: what a signature is. -/
namespace RX
open PySem PySem.Spec PyProof.Rows L2
structure SigOk (g : Sig) : Prop where
  k1 : 1 ≤ g.kinds.length
  mo : MkOk g
  nd : g.ks.Nodup
  nm : ∀ m ∈ g.makers, nameOk m.1 = true
  nn : (g.makers.map (·.1)).Nodup
  md : ∀ k ∈ g.ks, Made g k
def SigP (x : D) : Prop := ∃ g, x = sigD g ∧ SigOk g
theorem wordD_inj {a b : Bool} (h : wordD a = wordD b) : a = b := by
  have h1 := wordD_open a
  have h2 := wordD_open b
  rw [h] at h1
  exact h1.symm.trans h2
theorem kP_inj {p q : Str × Bool} (h : kP p = kP q) : p = q := by
  unfold kP at h
  injection h with h
  injection h with h1 h2
  injection h1 with h1
  injection h2 with h2 _
  injection h2 with h2
  exact Prod.ext h1 (wordD_inj h2)
theorem mapS_inj : ∀ {l l' : List Str}, l.map D.str = l'.map D.str → l = l'
  | [], [], _ => rfl
  | [], _ :: _, h => by cases h
  | _ :: _, [], h => by cases h
  | x :: l, y :: l', h => by
    injection h with h1 h2
    injection h1 with h1
    rw [h1, mapS_inj h2]
theorem mP_inj {p q : Str × List Str × Str} (h : mP p = mP q) : p = q := by
  unfold mP at h
  injection h with h
  injection h with h1 h2
  injection h1 with h1
  injection h2 with h2 h3
  injection h2 with h2
  injection h3 with h3 _
  injection h3 with h3
  exact Prod.ext h1 (Prod.ext (mapS_inj h2) h3)
theorem map_inj' {α β : Type} {f : α → β} (hf : ∀ a b, f a = f b → a = b) : ∀ {l l' : List α}, l.map f = l'.map f → l = l'
  | [], [], _ => rfl
  | [], _ :: _, h => by cases h
  | _ :: _, [], h => by cases h
  | x :: l, y :: l', h => by
    injection h with h1 h2
    rw [hf _ _ h1, map_inj' hf h2]
theorem sigD_inj {g g' : Sig} (h : sigD g = sigD g') : g = g' := by
  unfold sigD at h
  injection h with h
  injection h with h1 h2
  injection h1 with h1
  injection h2 with h2 _
  injection h2 with h2
  cases g
  cases g'
  cases map_inj' (fun _ _ => kP_inj) h1
  cases map_inj' (fun _ _ => mP_inj) h2
  rfl
theorem inSt_str {zs : List Str} {x : D} (h : inSt zs x = true) : ∃ z, x = .str z ∧ z ∈ zs := by
  unfold inSt at h
  split at h
  · exact ⟨_, rfl, of_decide_eq_true h⟩
  · cases h
theorem nameD_str {x : D} (h : nameD x = true) : ∃ z, x = .str z ∧ nameOk z = true := by
  unfold nameD at h
  split at h
  · exact ⟨_, rfl, h⟩
  · cases h
theorem kpD_inv {x : D} (h : kpD x = true) : ∃ p : Str × Bool, x = kP p ∧ nameOk p.1 = true := by
  unfold kpD at h
  split at h
  · rename_i a b
    rw [Bool.and_eq_true] at h
    obtain ⟨z, rfl, hz⟩ := nameD_str h.1
    obtain ⟨w, rfl, hw⟩ := inSt_str h.2
    unfold wordsS at hw
    rcases List.mem_cons.mp hw with e | hw
    · subst e; exact ⟨(z, true), rfl, hz⟩
    · have e := List.mem_singleton.mp hw
      subst e; exact ⟨(z, false), rfl, hz⟩
  · cases h
theorem kpD_kP {p : Str × Bool} (h : nameOk p.1 = true) : kpD (kP p) = true := by
  obtain ⟨z, b⟩ := p
  show (nameOk z && inSt wordsS (.str (wordD b))) = true
  rw [show nameOk z = true from h, Bool.true_and]
  cases b <;> decide +kernel
theorem parseK : ∀ {ps : List D}, ps.all kpD = true → ∃ kinds : List (Str × Bool), ps = kinds.map kP ∧ ∀ p ∈ kinds, nameOk p.1 = true
  | [], _ => ⟨[], rfl, fun _ h => by cases h⟩
  | x :: ps, h => by
    rw [List.all_cons, Bool.and_eq_true] at h
    obtain ⟨p, e, hp⟩ := kpD_inv h.1
    obtain ⟨kinds, e2, hk⟩ := parseK h.2
    refine ⟨p :: kinds, by rw [e, e2]; rfl, fun q hq => ?_⟩
    rcases List.mem_cons.mp hq with z | z
    · rw [z]; exact hp
    · exact hk q z
theorem rowD_inv {ks : List Str} {lo hi : Nat} {x : D} (h : rowD ks lo hi x = true) : ∃ as : List Str, x = .tup (as.map D.str) ∧ lo ≤ as.length ∧ as.length ≤ hi ∧ ∀ a ∈ as, a ∈ ks := by
  unfold rowD at h
  split at h
  · rename_i ds
    rw [Bool.and_eq_true, Bool.and_eq_true] at h
    obtain ⟨⟨h1, h2⟩, h3⟩ := h
    have : ∀ ds : List D, ds.all (inSt ks) = true → ∃ as : List Str, ds = as.map D.str ∧ ∀ a ∈ as, a ∈ ks := by
      intro ds
      induction ds with
      | nil => intro _; exact ⟨[], rfl, fun _ h => by cases h⟩
      | cons d ds ih =>
        intro h
        rw [List.all_cons, Bool.and_eq_true] at h
        obtain ⟨z, e, hz⟩ := inSt_str h.1
        obtain ⟨as, e2, ha⟩ := ih h.2
        refine ⟨z :: as, by rw [e, e2]; rfl, fun a hm => ?_⟩
        rcases List.mem_cons.mp hm with y | y
        · rw [y]; exact hz
        · exact ha a y
    obtain ⟨as, e, ha⟩ := this ds h3
    subst e
    rw [List.length_map] at h1 h2
    exact ⟨as, rfl, of_decide_eq_true h1, of_decide_eq_true h2, ha⟩
  · cases h
theorem allIn {ks as : List Str} (h : ∀ a ∈ as, a ∈ ks) : (as.map D.str).all (inSt ks) = true := by
  rw [List.all_map, List.all_eq_true]
  exact fun a ha => decide_eq_true (h a ha)
theorem rowD_of {ks as : List Str} {lo hi : Nat} (h1 : lo ≤ as.length) (h2 : as.length ≤ hi) (h : ∀ a ∈ as, a ∈ ks) : rowD ks lo hi (.tup (as.map D.str)) = true := by
  show (decide (lo ≤ (as.map D.str).length) && decide ((as.map D.str).length ≤ hi) && (as.map D.str).all (inSt ks)) = true
  rw [allIn h, List.length_map, decide_eq_true h1, decide_eq_true h2]
  rfl
theorem mkD_inv {ks : List Str} {x : D} (h : mkD ks x = true) : ∃ m : Str × List Str × Str, x = mP m ∧ nameOk m.1 = true ∧ m.2.2 ∈ ks ∧ (∀ a ∈ m.2.1, a ∈ ks) ∧ m.2.1.length ≤ 3 := by
  unfold mkD at h
  split at h
  · rename_i a b c
    rw [Bool.and_eq_true, Bool.and_eq_true] at h
    obtain ⟨⟨h1, h2⟩, h3⟩ := h
    obtain ⟨z, rfl, hz⟩ := nameD_str h1
    obtain ⟨as, rfl, _, hl, ha⟩ := rowD_inv h2
    obtain ⟨w, rfl, hw⟩ := inSt_str h3
    exact ⟨(z, as, w), rfl, hz, hw, ha, hl⟩
  · cases h
theorem mkD_mP {ks : List Str} {m : Str × List Str × Str} (h1 : nameOk m.1 = true) (h2 : m.2.2 ∈ ks) (h3 : ∀ a ∈ m.2.1, a ∈ ks) (h4 : m.2.1.length ≤ 3) : mkD ks (mP m) = true := by
  obtain ⟨z, as, w⟩ := m
  show (nameOk z && rowD ks 0 3 (.tup (as.map D.str)) && decide (w ∈ ks)) = true
  rw [show nameOk z = true from h1, rowD_of (Nat.zero_le _) h4 h3, decide_eq_true h2]
  rfl
theorem parseM {ks : List Str} : ∀ {ms : List D}, ms.all (mkD ks) = true → ∃ makers : List (Str × List Str × Str), ms = makers.map mP ∧ ∀ m ∈ makers, nameOk m.1 = true ∧ m.2.2 ∈ ks ∧ (∀ a ∈ m.2.1, a ∈ ks) ∧ m.2.1.length ≤ 3
  | [], _ => ⟨[], rfl, fun _ h => by cases h⟩
  | x :: ms, h => by
    rw [List.all_cons, Bool.and_eq_true] at h
    obtain ⟨p, e, hp⟩ := mkD_inv h.1
    obtain ⟨makers, e2, hk⟩ := parseM h.2
    refine ⟨p :: makers, by rw [e, e2]; rfl, fun q hq => ?_⟩
    rcases List.mem_cons.mp hq with z | z
    · rw [z]; exact hp
    · exact hk q z
theorem all_kpD {g : Sig} (h : ∀ k ∈ g.ks, nameOk k = true) : (g.kinds.map kP).all kpD = true := by
  rw [List.all_map, List.all_eq_true]
  exact fun p hp => kpD_kP (h _ (List.mem_map.mpr ⟨p, hp, rfl⟩))
theorem all_mkD {g : Sig} (h : SigOk g) : (g.makers.map mP).all (mkD g.ks) = true := by
  rw [List.all_map, List.all_eq_true]
  intro m hm
  obtain ⟨a, b, c⟩ := h.mo.mkk m hm
  exact mkD_mP (h.nm m hm) a b c
/-- the shapes -/
theorem sigP_tup {x : D} (h : SigP x) : ∃ ps ms, x = .tup [.tup ps, .tup ms] := by
  obtain ⟨g, e, _⟩ := h
  exact ⟨_, _, e⟩
theorem sigP_g {g : Sig} : SigP (sigD g) ↔ SigOk g := by
  refine ⟨fun ⟨g', e, h⟩ => ?_, fun h => ⟨g, rfl, h⟩⟩
  rw [sigD_inj e]
  exact h
def isTupB : D → Bool
  | .tup _ => true
  | _ => false
theorem isTupB_inv {x : D} (h : isTupB x = true) : ∃ ds, x = .tup ds := by
  unfold isTupB at h
  split at h
  · exact ⟨_, rfl⟩
  · cases h
end RX
set_option Elab.async false
set_option linter.all false
set_option maxRecDepth 1000000
set_option maxHeartbeats 4000000
/-! SG1d: small kinds; dicts of texts. -/
namespace RX
open PySem PySem.Spec PyProof.Rows L2
inductive SmallK (g : Sig) : Str → Prop where
  | mk {k : Str} : k ∈ g.ks → (k, true) ∉ g.kinds → (∀ m ∈ g.makers, m.2.2 = k → ∀ a ∈ m.2.1, SmallK g a) → SmallK g k
def openB (g : Sig) (k : Str) : Bool := decide ((k, true) ∈ g.kinds)
def ofK (g : Sig) (k : Str) : List (Str × List Str × Str) := g.makers.filter fun m => decide (m.2.2 = k)
def turnsB (g : Sig) (sm : List Str) (k : Str) : Bool := !openB g k && !decide (k ∈ sm) && (ofK g k).all fun m => m.2.1.all fun a => decide (a ∈ sm)
def roundS (g : Sig) (sm : List Str) : List Str := g.ks.filter (turnsB g sm)
structure SmInv (g : Sig) (sm : List Str) : Prop where
  small : ∀ k ∈ sm, SmallK g k
  ks : ∀ k ∈ sm, k ∈ g.ks
theorem turns_iff {g : Sig} {sm : List Str} {k : Str} : turnsB g sm k = true ↔ (k, true) ∉ g.kinds ∧ k ∉ sm ∧ ∀ m ∈ g.makers, m.2.2 = k → ∀ a ∈ m.2.1, a ∈ sm := by
  unfold turnsB openB ofK
  simp only [Bool.and_eq_true, Bool.not_eq_true', decide_eq_false_iff_not, List.all_eq_true, List.mem_filter, decide_eq_true_eq, and_imp, and_assoc]
theorem SmInv.step {g : Sig} {sm : List Str} (i : SmInv g sm) : SmInv g (sm ++ roundS g sm) := by
  refine ⟨fun k hk => ?_, fun k hk => ?_⟩
  · rcases List.mem_append.mp hk with h | h
    · exact i.small k h
    · obtain ⟨h1, h2⟩ := List.mem_filter.mp h
      obtain ⟨a, b, c⟩ := turns_iff.mp h2
      exact .mk h1 a fun m hm e x hx => i.small x (c m hm e x hx)
  · rcases List.mem_append.mp hk with h | h
    · exact i.ks k h
    · exact (List.mem_filter.mp h).1
theorem SmInv.done {g : Sig} {sm : List Str} (i : SmInv g sm) (h : roundS g sm = []) (k : Str) : k ∈ sm ↔ SmallK g k := by
  refine ⟨i.small k, fun m => ?_⟩
  induction m with
  | mk h1 h2 _ ih =>
    rename_i k _
    apply Classical.byContradiction
    intro hn
    have : k ∈ roundS g sm := List.mem_filter.mpr ⟨h1, turns_iff.mpr ⟨h2, hn, fun m hm e a ha => ih m hm e a ha⟩⟩
    rw [h] at this
    cases this
theorem missR_lt {g : Sig} {sm : List Str} (h : roundS g sm ≠ []) : (missS g (sm ++ roundS g sm)).length < (missS g sm).length := by
  unfold missS
  refine filter_lt (fun x _ hx => ?_) ?_
  · have := of_decide_eq_true hx
    exact decide_eq_true fun z => this (List.mem_append_left _ z)
  · obtain ⟨x, hx⟩ := List.exists_mem_of_ne_nil _ h
    obtain ⟨h1, h2⟩ := List.mem_filter.mp hx
    obtain ⟨_, h3, _⟩ := turns_iff.mp h2
    exact ⟨x, h1, decide_eq_true h3, decide_eq_false fun z => z (List.mem_append_right _ hx)⟩
theorem round_len {g : Sig} (k : MkOk g) (sm : List Str) : (roundS g sm).length ≤ 8 := by
  refine Nat.le_trans (List.length_filter_le _ _) ?_
  unfold Sig.ks
  rw [List.length_map]
  exact k.kl
/-! dicts whose keys are unlike -/
theorem hasK_not {ks : List Key} {k : Key} (h : k ∉ ks) : hasK ks k = false := by
  unfold hasK
  rw [List.any_eq_false]
  intro x hx
  simp only [decide_eq_true_eq]
  exact fun e => h (e ▸ hx)
theorem putKD_new {ks : List Key} {ds : List D} {k : Key} {d : D} (h : k ∉ ks) : putKD ks ds k d = (ks ++ [k], ds ++ [d]) := by
  unfold putKD
  rw [hasK_not h]
  rfl
theorem mergeD_new : ∀ {l : List (Key × D)} {ks : List Key} {ds : List D}, (ks ++ l.map (·.1)).Nodup → mergeD ks ds l = (ks ++ l.map (·.1), ds ++ l.map (·.2))
  | [], ks, ds, _ => by simp [mergeD]
  | kv :: l, ks, ds, h => by
    have hk : kv.1 ∉ ks := fun z => by
      have := (List.nodup_append.mp h).2.2 _ z kv.1 (by simp)
      exact this rfl
    show mergeD (putKD ks ds kv.1 kv.2).1 (putKD ks ds kv.1 kv.2).2 l = _
    rw [putKD_new hk]
    have h2 : ((ks ++ [kv.1]) ++ l.map (·.1)).Nodup := by simpa using h
    rw [mergeD_new h2]
    simp
theorem inr_nodup {l : List Str} (h : l.Nodup) : (l.map (Sum.inr : Str → Key)).Nodup := by
  refine List.pairwise_map.mpr (List.Pairwise.imp (fun hn e => ?_) h)
  injection e with e
  exact hn e
theorem getKD_at {α : Type} {kf : α → Str} {df : α → D} : ∀ {l : List α} {x : α}, x ∈ l → (l.map kf).Nodup → getKD (l.map fun y => (Sum.inr (kf y) : Key)) (l.map df) (.inr (kf x)) = some (df x)
  | y :: l, x, h, nd => by
    rw [List.map_cons] at nd
    obtain ⟨n1, n2⟩ := List.nodup_cons.mp nd
    unfold getKD
    simp only [List.map_cons, List.zip_cons_cons, List.find?_cons]
    by_cases e : kf y = kf x
    · rw [show decide ((Sum.inr (kf y) : Key) = Sum.inr (kf x)) = true from decide_eq_true (by rw [e])]
      rcases List.mem_cons.mp h with z | z
      · subst z; rfl
      · exact absurd (List.mem_map.mpr ⟨x, z, e.symm⟩) n1
    · rw [show decide ((Sum.inr (kf y) : Key) = Sum.inr (kf x)) = false from decide_eq_false (fun z => by injection z with z; exact e z)]
      rcases List.mem_cons.mp h with z | z
      · exact absurd (by rw [z]) e
      · exact getKD_at z n2
/-- a dict comprehension, with what holds before the item i -/
theorem dc_inv {stab : MM → Prop} {g : DG} {tk te : DE} {own : List Nat} {σ : DSt} {Q : List Key → List D → MM → Prop} (xs : List D) (I : Nat → List Key → List D → MM → Prop) (hs : ∀ i ks ds M, I i ks ds M → stab M ∧ ks.length < sizeLine)
    (h : ∀ i x, xs[i]? = some x → ∀ ks ds M (K : List Key → List D → MM → Prop), I i ks ds M → (∀ ks' ds' M', I (i + 1) ks' ds' M' → K ks' ds' M') → g x (wipeD σ own) M fun σ2 M2 => tk σ2 M2 fun kd M3 => ∃ k, keyOf kd = some k ∧ te σ2 M3 fun y M4 => K (putKD ks ds k y).1 (putKD ks ds k y).2 M4)
    (he : ∀ ks ds M, I xs.length ks ds M → Q ks ds M) : ∀ (k i : Nat) ks ds M, k + i = xs.length → I i ks ds M → dcD stab g tk te own σ Q (xs.drop i) ks ds M
  | 0, i, ks, ds, M, e, hi => by
    have : i = xs.length := by omega
    subst this
    rw [List.drop_length]
    exact ⟨(hs _ ks ds M hi).1, he ks ds M hi⟩
  | k + 1, i, ks, ds, M, e, hi => by
    have hl : i < xs.length := by omega
    rw [List.drop_eq_getElem_cons hl]
    exact ⟨(hs _ ks ds M hi).1, (hs _ ks ds M hi).2, h i _ (List.getElem?_eq_getElem hl) ks ds M _ hi fun ks' ds' M' hi' => dc_inv xs I hs h he k (i + 1) ks' ds' M' (by omega) hi'⟩
theorem dc_all {stab : MM → Prop} {g : DG} {tk te : DE} {own : List Nat} {σ : DSt} {Q : List Key → List D → MM → Prop} {xs : List D} {M : MM} (I : Nat → List Key → List D → MM → Prop) (hs : ∀ i ks ds M, I i ks ds M → stab M ∧ ks.length < sizeLine)
    (h : ∀ i x, xs[i]? = some x → ∀ ks ds M (K : List Key → List D → MM → Prop), I i ks ds M → (∀ ks' ds' M', I (i + 1) ks' ds' M' → K ks' ds' M') → g x (wipeD σ own) M fun σ2 M2 => tk σ2 M2 fun kd M3 => ∃ k, keyOf kd = some k ∧ te σ2 M3 fun y M4 => K (putKD ks ds k y).1 (putKD ks ds k y).2 M4)
    (he : ∀ ks ds M, I xs.length ks ds M → Q ks ds M) (i0 : I 0 [] [] M) : dcD stab g tk te own σ Q xs [] [] M := by
  have := dc_inv xs I hs h he xs.length 0 [] [] M (by omega) i0
  rwa [List.drop_zero] at this
end RX
set_option Elab.async false
set_option linter.all false
set_option maxRecDepth 1000000
set_option maxHeartbeats 4000000
/-! SG2: contracts of the defs about signatures. -/
namespace RX.Sg
open PySem PySem.Spec PyProof.Rows L2 RX
local macro_rules | `(tactic| walk_at "w") => `(tactic| ((conv => whnf); repeat ((first | refine bT rfl ?_ | refine bF rfl ?_ | refine ⟨_, rfl, ?_⟩ | refine ⟨_, _, rfl, rfl, ?_⟩ | refine ⟨_, _, rfl, ?_⟩ | refine ⟨rfl, ?_⟩ | refine szA rfl ?_); (conv => whnf))))
/-- what the law knows of these defs -/
structure SgL (L : Law) : Prop where
  is_name : L.T ("is_name", none) = some f_is_name
  are_unlike : L.T ("are_unlike", none) = some f_are_unlike
  is_kind_pair : L.T ("is_kind_pair", none) = some f_is_kind_pair
  is_kinds_row : L.T ("is_kinds_row", none) = some f_is_kinds_row
  is_maker : L.T ("is_maker", none) = some f_is_maker
  made_kinds : L.T ("made_kinds", none) = some f_made_kinds
  is_signature_by : L.T ("is_signature_by", none) = some f_is_signature_by
  init : L.T ("Signs", some "__init__") = some f_Signs____init
  is_open : L.T ("Signs", some "is_open") = some f_Signs__is_open
  small : L.T ("Signs", some "is_small") = some f_Signs__is_small
  find_small : L.T ("Signs", some "find_small") = some f_Signs__find_small
  turns_small : L.T ("Signs", some "turns_small") = some f_Signs__turns_small
  tS : L.T ("Signs", none) = none
  fw : L.fl "Signs" "words" = true
  fk : L.fl "Signs" "kinds" = true
  fm : L.fl "Signs" "makers" = true
  fo : L.fl "Signs" "of_kind" = true
  fs : L.fl "Signs" "small" = true
  LETTERS : L.gl "LETTERS" = some (.str lettersS)
  FIGURES : L.gl "FIGURES" = some (.str figuresS)
  MOST_NAME : L.gl "MOST_NAME" = some (.int 12)
  MOST_KINDS : L.gl "MOST_KINDS" = some (.int 8)
  MOST_MAKERS : L.gl "MOST_MAKERS" = some (.int 24)
  MOST_ARGS : L.gl "MOST_ARGS" = some (.int 3)
theorem gx {L : Law} {x : Str} {d : D} (h : L.gl x = some d) : L.gx x = some d := by unfold Law.gx; exact h
section
variable {L : Law} (S : SgL L)
include S
theorem ct_is_name {n : Nat} {x : D} {M : MM} {Q : DV} {E : XD} (t : Tm M x) (q : Q (.bl (nameD x)) M) : L.cl (n + 1) ("is_name", none) [x] M Q E := by
  rw [Law.stp S.is_name]
  cases t with
  | str hl =>
    rename_i z
    have hs : z.length ≤ sizeLine := Nat.le_trans hl (by decide)
    have q : Q (.bl (nameOk z)) M := q
    walk_at "w"
    refine ⟨hs, ?_⟩
    walk_at "w"
    by_cases h1 : 1 ≤ z.length
    · refine bT (decide_eq_true (by omega)) ?_
      walk_at "w"
      refine ⟨_, gx S.MOST_NAME, ?_⟩
      walk_at "w"
      by_cases h2 : z.length ≤ 12
      · have hk : decide ((z.length : Int) ≤ 12) = true := decide_eq_true (by omega)
        refine bF (by rw [hk]; rfl) ?_
        have ⟨c, r, hz⟩ : ∃ c r, z.cps.toList = c :: r := by
          cases e : z.cps.toList with
          | nil => exfalso; unfold Str.length at h1; rw [← Array.length_toList, e] at h1; cases h1
          | cons c r => exact ⟨c, r, rfl⟩
        walk_at "w"
        refine ⟨c, hs, by rw [hz]; exact atI_0, ?_⟩
        walk_at "w"
        refine ⟨_, gx S.LETTERS, ?_⟩
        walk_at "w"
        have e1 := inS_one c lettersS
        by_cases h3 : c ∈ lettersS.cps.toList
        · refine bF (by rw [e1, decide_eq_true h3]; rfl) ?_
          walk_at "w"
          refine lc_str signOk trivial hs (fun c Y N y => ?_) ?_
          · walk_at "w"
            refine ⟨_, gx S.LETTERS, ?_⟩
            walk_at "w"
            have e1 := inS_one c lettersS
            have e2 := inS_one c figuresS
            have e3 := str_one c
            have e4 := rest_or c
            rw [← e1, ← e2, ← e3] at e4
            cases k1 : inS ⟨#[c]⟩ lettersS with
            | true =>
              refine bT rfl ?_
              rw [e4, k1] at y
              exact y
            | false =>
              refine bF rfl ?_
              walk_at "w"
              refine ⟨_, gx S.FIGURES, ?_⟩
              walk_at "w"
              cases k2 : inS ⟨#[c]⟩ figuresS with
              | true =>
                refine bT rfl ?_
                rw [e4, k1, k2] at y
                exact y
              | false =>
                refine bF rfl ?_
                walk_at "w"
                rw [e4, k1, k2] at y
                exact y
          · walk_at "w"
            refine rt_ ?_
            have e : nameOk z = z.cps.toList.all signOk := by
              unfold nameOk
              rw [hz, decide_eq_true h1, decide_eq_true h2]
              simp only [decide_eq_true h3, Bool.and_self, Bool.true_and]
            rw [e] at q
            rw [List.all_map]
            exact q
        · refine bT (by rw [e1, decide_eq_false h3]; rfl) ?_
          walk_at "w"
          refine rt_ ?_
          have e : nameOk z = false := by unfold nameOk; rw [hz]; simp [h3]
          rw [e] at q
          exact q
      · have hk : decide ((z.length : Int) ≤ 12) = false := decide_eq_false (by omega)
        refine bT (by rw [hk]; rfl) ?_
        walk_at "w"
        refine rt_ ?_
        have e : nameOk z = false := by unfold nameOk; simp [h2]
        rw [e] at q
        exact q
    · refine bF (decide_eq_false (by omega)) ?_
      walk_at "w"
      refine rt_ ?_
      have e : nameOk z = false := by unfold nameOk; simp [h1]
      rw [e] at q
      exact q
  | lst h => walk_at "w"; refine ⟨_, ty_lst h, ?_⟩; walk_at "w"; exact rt_ q
  | dct h => walk_at "w"; refine ⟨_, ty_dct h, ?_⟩; walk_at "w"; exact rt_ q
  | _ => walk_at "w"; exact rt_ q
theorem ct_is_kind_pair {n : Nat} {x : D} {M : MM} {Q : DV} {E : XD} (t : Tm M x) (q : Q (.bl (kpD x)) M) : L.cl (n + 2) ("is_kind_pair", none) [x] M Q E := by
  rw [Law.stp S.is_kind_pair]
  cases t with
  | tup hl ht =>
    rename_i ds
    walk_at "w"
    by_cases h2 : ds.length = 2
    · match ds, h2, ht, q with
      | [a, b], _, ht, q =>
        walk_at "w"
        refine ct_is_name S (ht a (by simp)) ?_
        have q : Q (.bl (nameD a && inSt wordsS b)) M := q
        cases hn : nameD a with
        | false =>
          rw [hn] at q
          walk_at "w"
          exact rt_ q
        | true =>
          rw [hn] at q
          walk_at "w"
          refine ⟨_, inR_tm (ht b (by simp)) wordsS, ?_⟩
          exact rt_ q
    · refine bF (decide_eq_false (by omega)) ?_
      walk_at "w"
      refine rt_ ?_
      have e : kpD (.tup ds) = false := by
        match ds, h2 with
        | [], _ => rfl
        | [_], _ => rfl
        | [_, _], h => exact absurd rfl h
        | _ :: _ :: _ :: _, _ => rfl
      rw [e] at q
      exact q
  | lst h => walk_at "w"; refine ⟨_, ty_lst h, ?_⟩; walk_at "w"; exact rt_ q
  | dct h => walk_at "w"; refine ⟨_, ty_dct h, ?_⟩; walk_at "w"; exact rt_ q
  | _ => walk_at "w"; exact rt_ q
theorem ct_is_kinds_row {n : Nat} {x : D} {ks : List Str} {lo hi : Nat} {M : MM} {Q : DV} {E : XD} (t : Tm M x) (q : Q (.bl (rowD ks lo hi x)) M) : L.cl (n + 1) ("is_kinds_row", none) [x, .lst (ks.map D.str), .int lo, .int hi] M Q E := by
  rw [Law.stp S.is_kinds_row]
  rcases t.tupOr with ⟨ds, rfl, hl, ht⟩ | ⟨h, ty, e, hn⟩
  · have q : Q (.bl (decide (lo ≤ ds.length) && decide (ds.length ≤ hi) && ds.all (inSt ks))) M := q
    walk_at "w"
    by_cases h1 : lo ≤ ds.length
    · refine bT (decide_eq_true (by omega)) ?_
      walk_at "w"
      by_cases h2 : ds.length ≤ hi
      · have hk : decide ((ds.length : Int) ≤ (hi : Int)) = true := decide_eq_true (by omega)
        refine bF (by rw [hk]; rfl) ?_
        walk_at "w"
        refine lc_bl (inSt ks) trivial (Nat.le_trans hl (by decide)) (fun y hy Y N k => ?_) ?_
        · rcases (ht y hy).ty with ⟨z, rfl, _⟩ | ⟨hns, ty, e, hn⟩
          · walk_at "w"
            refine ⟨_, inR_str z ks, ?_⟩
            exact k
          · walk_at "w"
            refine ⟨_, e, ?_⟩
            refine bF (isi_str hn) ?_
            have e2 : inSt ks y = false := by
              unfold inSt
              split
              · exact absurd rfl (hns _)
              · rfl
            rw [e2] at k
            exact k
        · walk_at "w"
          refine rt_ ?_
          rw [all_id]
          rw [decide_eq_true h1, decide_eq_true h2] at q
          exact q
      · have hk : decide ((ds.length : Int) ≤ (hi : Int)) = false := decide_eq_false (by omega)
        refine bT (by rw [hk]; rfl) ?_
        walk_at "w"
        refine rt_ ?_
        rw [decide_eq_true h1, decide_eq_false h2] at q
        exact q
    · refine bF (decide_eq_false (by omega)) ?_
      walk_at "w"
      refine rt_ ?_
      rw [decide_eq_false h1] at q
      exact q
  · walk_at "w"
    refine ⟨_, e, ?_⟩
    refine bT (by rw [isi_tup hn]; rfl) ?_
    walk_at "w"
    refine rt_ ?_
    have e2 : rowD ks lo hi x = false := by
      unfold rowD
      split
      · exact absurd rfl (h _)
      · rfl
    rw [e2] at q
    exact q
theorem ct_is_maker {n : Nat} {x : D} {ks : List Str} {M : MM} {Q : DV} {E : XD} (t : Tm M x) (q : Q (.bl (mkD ks x)) M) : L.cl (n + 2) ("is_maker", none) [x, .lst (ks.map D.str)] M Q E := by
  rw [Law.stp S.is_maker]
  rcases t.tupOr with ⟨ds, rfl, hl, ht⟩ | ⟨h, ty, e, hn⟩
  · walk_at "w"
    by_cases h2 : ds.length = 3
    · match ds, h2, ht, q with
      | [a, b, c], _, ht, q =>
        have q : Q (.bl (nameD a && rowD ks 0 3 b && inSt ks c)) M := q
        walk_at "w"
        refine ct_is_name S (ht a (by simp)) ?_
        cases hn : nameD a with
        | false =>
          rw [hn] at q
          walk_at "w"
          exact rt_ q
        | true =>
          rw [hn] at q
          walk_at "w"
          refine ⟨_, gx S.MOST_ARGS, ?_⟩
          walk_at "w"
          refine ct_is_kinds_row S (lo := 0) (hi := 3) (ht b (by simp)) ?_
          cases hr : rowD ks 0 3 b with
          | false =>
            rw [hr] at q
            walk_at "w"
            exact rt_ q
          | true =>
            rw [hr] at q
            walk_at "w"
            rcases (ht c (by simp)).ty with ⟨z, rfl, _⟩ | ⟨hns, ty, e, hn⟩
            · walk_at "w"
              refine ⟨_, inR_str z ks, ?_⟩
              exact rt_ q
            · refine ⟨_, e, ?_⟩
              refine bF (isi_str hn) ?_
              have e2 : inSt ks c = false := by
                unfold inSt
                split
                · exact absurd rfl (hns _)
                · rfl
              rw [e2] at q
              exact rt_ q
    · have hk : decide ((ds.length : Int) = 3) = false := decide_eq_false (by omega)
      refine bT (by rw [hk]; rfl) ?_
      walk_at "w"
      refine rt_ ?_
      have e : mkD ks (.tup ds) = false := by
        match ds, h2 with
        | [], _ => rfl
        | [_], _ => rfl
        | [_, _], _ => rfl
        | [_, _, _], h => exact absurd rfl h
        | _ :: _ :: _ :: _ :: _, _ => rfl
      rw [e] at q
      exact q
  · walk_at "w"
    refine ⟨_, e, ?_⟩
    refine bT (by rw [isi_tup hn]; rfl) ?_
    walk_at "w"
    refine rt_ ?_
    have e2 : mkD ks x = false := by
      unfold mkD
      split
      · exact absurd rfl (h _)
      · rfl
    rw [e2] at q
    exact q
theorem ct_are_unlike {n : Nat} {zs : List Str} {M : MM} {Q : DV} {E : XD} (hz : zs.length < 1000) (q : Q (.bl (decide zs.Nodup)) M) : L.cl (n + 1) ("are_unlike", none) [.lst (zs.map D.str)] M Q E := by
  rw [Law.stp S.are_unlike]
  walk_at "w"
  refine ⟨hz, ?_⟩
  walk_at "w"
  refine rt_ ?_
  have e : decide (((dedup zs).length : Int) = ((zs.map D.str).length : Int)) = decide zs.Nodup := by
    rw [List.length_map]
    have := dedup_iff zs
    refine decide_eq_decide.mpr ⟨fun h => this.mp (by omega), fun h => by have := this.mpr h; omega⟩
  rw [e]
  exact q
/-- all([x in texts for x in texts]) -/
theorem ct_made_kinds {n : Nat} {g : Sig} {M : MM} {Q : DV} {E : XD} (k : MkOk g) (q : ∀ f : List Str, (∀ x, x ∈ f ↔ Made g x) → (∀ x ∈ f, x ∈ g.ks) → Q (.lst (f.map D.str)) M) : L.cl (n + 1) ("made_kinds", none) [sigD g] M Q E := by
  rw [Law.stp S.made_kinds]
  have z8 := k.kl
  have z24 := k.ml
  walk_at "w"
  refine lc_gen kP (fun p => if p.2 then some (.str p.1) else none) trivial g.kinds [] (by simp only [List.length_nil, sizeLine]; omega) (fun p hp Y N h => ?_) ?_
  · obtain ⟨x, b⟩ := p
    walk_at "w"
    have e := wordD_open b
    refine Bif_of (fun hk => ?_) (fun hk => ?_)
    · rw [e] at hk
      subst hk
      walk_at "w"
      exact h
    · rw [e] at hk
      subst hk
      walk_at "w"
      exact h
  rw [List.nil_append, filterMap_if]
  walk_at "w"
  have f0 : (g.kinds.filter (·.2)).map (fun p => D.str p.1) = (openS g).map D.str := by unfold openS; rw [List.map_map]; rfl
  rw [f0]
  have l0 : (openS g).length ≤ 8 := by
    unfold openS
    rw [List.length_map]
    exact Nat.le_trans (List.length_filter_le _ _) z8
  have lk : g.ks.length ≤ 8 := by unfold Sig.ks; rw [List.length_map]; exact z8
  have lm : ∀ f, (missS g f).length ≤ 8 := fun f => Nat.le_trans (List.length_filter_le _ _) lk
  refine ⟨_, wh_inv (fun n σ M' => M' = M ∧ ∃ (f : List Str) (more : Bool) (o : Option D), σ = [some (sigD g), some (.lst (f.map D.str)), none, none, some (.bl more), o, none, none, none] ∧ LvInv g f ∧ (more = false → freshS g f = []) ∧
    (missS g f).length + (if more then 1 else 0) ≤ n ∧ f.length + 24 * (missS g f).length ≤ 200) ?_ 9 _ _ ⟨rfl, openS g, true, none, rfl, openS_inv, (fun z => nomatch z), ?_, ?_⟩⟩
  · intro n K σ M' hK ⟨eM, f, more, o, eσ, i, c, h1, h2⟩
    subst eM eσ
    cases more with
    | false =>
      walk_at "w"
      exact rt_ (q f (fun x => i.done (c rfl) x) i.ks)
    | true =>
      walk_at "w"
      refine lc_gen mP (fun m => if fresh1 f m then some (.str m.2.2) else none) trivial g.makers [] (by simp only [List.length_nil, sizeLine]; omega) (fun m hm Y N h => ?_) ?_
      · obtain ⟨nm, as, x⟩ := m
        have h : match (if fresh1 f (nm, as, x) then some (D.str x) else none) with | some y => Y y M' | none => N M' := h
        unfold fresh1 at h
        walk_at "w"
        refine ⟨_, inR_str x f, ?_⟩
        by_cases hx : x ∈ f
        · refine bF (by rw [decide_eq_true hx]; rfl) ?_
          rw [decide_eq_false (by simpa using hx)] at h
          walk_at "w"
          exact h
        · refine bT (by rw [decide_eq_false hx]; rfl) ?_
          rw [decide_eq_true hx] at h
          walk_at "w"
          refine lc_genB D.str (fun a => decide (a ∈ f)) trivial (by have := (k.mkk _ hm).2.2; simp only [sizeLine]; simp only at this; omega) (fun a ha Y N h => ?_) ?_
          · walk_at "w"
            refine ⟨_, inR_str a f, ?_⟩
            exact h
          · walk_at "w"
            rw [all_id]
            cases e : as.all (fun a => decide (a ∈ f)) with
            | true =>
              simp only [e] at h
              refine bT rfl ?_
              walk_at "w"
              exact h
            | false =>
              simp only [e] at h
              refine bF rfl ?_
              walk_at "w"
              exact h
      rw [List.nil_append, filterMap_if]
      have f1 : (g.makers.filter (fresh1 f)).map (fun m => D.str m.2.2) = (freshS g f).map D.str := by unfold freshS; rw [List.map_map]; rfl
      rw [f1]
      walk_at "w"
      have lf := fresh_len k f
      have ks2 : ∀ z ∈ freshS g f, nameOk z = true := fun z hz => by
        obtain ⟨m, h1, h2, _⟩ := fresh_mem.mp hz
        rw [← h2]
        exact k.nm _ (k.mkk m h1).1
      refine ⟨by simp only [List.length_map, sizeLine]; omega, ?_⟩
      walk_at "w"
      refine ⟨_, eqr_nil ks2, ?_⟩
      walk_at "w"
      simp only [if_true] at h1
      cases n with
      | zero => omega
      | succ n' =>
        refine hK n' _ _ rfl ⟨rfl, f ++ freshS g f, !(freshS g f).isEmpty, some (.lst ((freshS g f).map D.str)), by rw [List.map_append]; rfl, i.step k, fun e => ?_, ?_, ?_⟩
        · have e2 : freshS g f = [] := by simpa using e
          rw [e2, List.append_nil]
          exact e2
        · cases e2 : freshS g f with
          | nil => simp only [List.append_nil, List.isEmpty_nil, Bool.not_true, Bool.false_eq_true, if_false]; omega
          | cons y ys =>
            have := miss_lt k (f := f) (by rw [e2]; simp)
            rw [e2] at this
            simp only [List.isEmpty_cons, Bool.not_false, if_true]
            omega
        · cases e2 : freshS g f with
          | nil => rw [List.append_nil]; exact h2
          | cons y ys =>
            have := miss_lt k (f := f) (by rw [e2]; simp)
            rw [e2] at this lf
            rw [List.length_append]
            omega
  · have := lm (openS g)
    simp only [if_true]
    omega
  · have := lm (openS g)
    omega
theorem ct_is_signature_by {n : Nat} {x : D} {M : MM} {Q : DV} {E : XD} (t : Tm M x) (q : ∀ b : Bool, (b = true ↔ SigP x) → Q (.bl b) M) : L.cl (n + 3) ("is_signature_by", none) [x] M Q E := by
  rw [Law.stp S.is_signature_by]
  have no : ¬ SigP x → Q (.bl false) M := fun h => q false ⟨fun z => (nomatch z), fun z => absurd z h⟩
  rcases t.tupOr with ⟨ds, rfl, hl, ht⟩ | ⟨h, ty, e, hn⟩
  · walk_at "w"
    by_cases h2 : ds.length = 2
    · have hk : decide ((ds.length : Int) = 2) = true := decide_eq_true (by omega)
      refine bF (by rw [hk]; rfl) ?_
      walk_at "w"
      refine lc_bl isTupB trivial (Nat.le_trans hl (by decide)) (fun y hy Y N k => ?_) ?_
      · rcases (ht y hy).tupOr with ⟨es, rfl, _, _⟩ | ⟨hns, ty, e, hn⟩
        · walk_at "w"
          exact k
        · walk_at "w"
          refine ⟨_, e, ?_⟩
          rw [isi_tup hn]
          have e2 : isTupB y = false := by
            unfold isTupB
            split
            · exact absurd rfl (hns _)
            · rfl
          rw [e2] at k
          exact k
      walk_at "w"
      rw [all_id]
      match ds, h2, hl, ht, no, q with
      | [a, b], _, hl, ht, no, q =>
      cases hab : [a, b].all isTupB with
      | false =>
        refine bT rfl ?_
        walk_at "w"
        refine rt_ (no fun z => ?_)
        obtain ⟨ps, ms, e⟩ := sigP_tup z
        cases e
        cases hab
      | true =>
        refine bF rfl ?_
        have hab2 : (isTupB a && (isTupB b && true)) = true := hab
        rw [Bool.and_true, Bool.and_eq_true] at hab2
        obtain ⟨ps, rfl⟩ := isTupB_inv hab2.1
        obtain ⟨ms, rfl⟩ := isTupB_inv hab2.2
        have tp : ps.length ≤ 1000 ∧ ∀ d ∈ ps, Tm M d := by
          have := ht (.tup ps) (by simp)
          cases this with | tup h1 h2 => exact ⟨h1, h2⟩
        have tm : ms.length ≤ 1000 ∧ ∀ d ∈ ms, Tm M d := by
          have := ht (.tup ms) (by simp)
          cases this with | tup h1 h2 => exact ⟨h1, h2⟩
        have inv : ∀ {C : Prop}, (∀ g : Sig, ps = g.kinds.map kP → ms = g.makers.map mP → SigOk g → C) → SigP (.tup [.tup ps, .tup ms]) → C := fun f ⟨g, e, ok⟩ => by
          unfold sigD at e
          injection e with e
          injection e with e1 e2
          injection e1 with e1
          injection e2 with e2 _
          injection e2 with e2
          exact f g e1 e2 ok
        walk_at "w"
        by_cases c1 : 1 ≤ ps.length
        case neg =>
          refine bF (decide_eq_false (by omega)) ?_
          walk_at "w"
          refine rt_ (no (inv fun g e1 e2 ok => ?_))
          have := ok.k1
          rw [e1, List.length_map] at c1
          exact c1 this
        refine bT (decide_eq_true (by omega)) ?_
        walk_at "w"
        refine ⟨_, gx S.MOST_KINDS, ?_⟩
        walk_at "w"
        by_cases c2 : ps.length ≤ 8
        case neg =>
          have hk : decide ((ps.length : Int) ≤ 8) = false := decide_eq_false (by omega)
          refine bT (by rw [hk]; rfl) ?_
          walk_at "w"
          refine rt_ (no (inv fun g e1 e2 ok => ?_))
          have := ok.mo.kl
          rw [e1, List.length_map] at c2
          exact c2 this
        have hk : decide ((ps.length : Int) ≤ 8) = true := decide_eq_true (by omega)
        refine bF (by rw [hk]; rfl) ?_
        walk_at "w"
        refine lc_bl kpD trivial (Nat.le_trans tp.1 (by decide)) (fun y hy Y N k => ?_) ?_
        · walk_at "w"
          exact ct_is_kind_pair S (tp.2 y hy) k
        walk_at "w"
        rw [all_id]
        cases c3 : ps.all kpD with
        | false =>
          refine bT rfl ?_
          walk_at "w"
          refine rt_ (no (inv fun g e1 e2 ok => ?_))
          rw [e1, all_kpD ok.mo.nm] at c3
          cases c3
        | true =>
        refine bF rfl ?_
        obtain ⟨kinds, rfl, kn⟩ := parseK c3
        rw [List.length_map] at c1 c2
        walk_at "w"
        refine lc_genM kP (fun p => .str p.1) trivial (by simp only [sizeLine]; omega) (fun p hp Y N k => ?_) ?_
        · walk_at "w"
          exact k
        walk_at "w"
        have ek : kinds.map (fun p => D.str p.1) = (kinds.map (·.1)).map D.str := by rw [List.map_map]; rfl
        rw [ek]
        refine ct_are_unlike S (by rw [List.length_map]; omega) ?_
        by_cases c4 : (kinds.map (·.1)).Nodup
        case neg =>
          rw [decide_eq_false c4]
          walk_at "w"
          refine rt_ (no (inv fun g e1 e2 ok => ?_))
          cases map_inj' (fun _ _ => kP_inj) e1
          exact c4 ok.nd
        rw [decide_eq_true c4]
        walk_at "w"
        refine ⟨_, gx S.MOST_MAKERS, ?_⟩
        walk_at "w"
        by_cases c5 : ms.length ≤ 24
        case neg =>
          refine bT (decide_eq_true (by omega)) ?_
          walk_at "w"
          refine rt_ (no (inv fun g e1 e2 ok => ?_))
          have := ok.mo.ml
          rw [e2, List.length_map] at c5
          exact c5 this
        refine bF (decide_eq_false (by omega)) ?_
        walk_at "w"
        refine lc_bl (mkD (kinds.map (·.1))) trivial (Nat.le_trans tm.1 (by decide)) (fun y hy Y N k => ?_) ?_
        · walk_at "w"
          exact ct_is_maker S (tm.2 y hy) k
        walk_at "w"
        rw [all_id]
        cases c6 : ms.all (mkD (kinds.map (·.1))) with
        | false =>
          refine bT rfl ?_
          walk_at "w"
          refine rt_ (no (inv fun g e1 e2 ok => ?_))
          cases map_inj' (fun _ _ => kP_inj) e1
          have := all_mkD ok
          rw [← e2] at this
          exact absurd (c6.symm.trans this) (by decide)
        | true =>
        refine bF rfl ?_
        obtain ⟨makers, rfl, mn⟩ := parseM c6
        rw [List.length_map] at c5
        walk_at "w"
        refine lc_genM mP (fun m => .str m.1) trivial (by simp only [sizeLine]; omega) (fun p hp Y N k => ?_) ?_
        · walk_at "w"
          exact k
        walk_at "w"
        have em : makers.map (fun p => D.str p.1) = (makers.map (·.1)).map D.str := by rw [List.map_map]; rfl
        rw [em]
        refine ct_are_unlike S (by rw [List.length_map]; omega) ?_
        by_cases c7 : (makers.map (·.1)).Nodup
        case neg =>
          rw [decide_eq_false c7]
          walk_at "w"
          refine rt_ (no (inv fun g e1 e2 ok => ?_))
          cases map_inj' (fun _ _ => mP_inj) e2
          exact c7 ok.nn
        rw [decide_eq_true c7]
        walk_at "w"
        have mo : MkOk ⟨kinds, makers⟩ := ⟨c2, c5, fun k hk => by
          obtain ⟨p, hp, rfl⟩ := List.mem_map.mp hk
          exact kn p hp, fun m hm => (mn m hm).2⟩
        refine ct_made_kinds S (g := ⟨kinds, makers⟩) mo fun f hf hfk => ?_
        walk_at "w"
        refine lc_genB D.str (fun k => decide (k ∈ f)) trivial (by rw [List.length_map]; simp only [sizeLine]; omega) (fun p hp Y N k => ?_) ?_
        · walk_at "w"
          refine ⟨_, inR_str p f, ?_⟩
          exact k
        walk_at "w"
        rw [all_id]
        refine rt_ (q _ ?_)
        show _ ↔ SigP (sigD ⟨kinds, makers⟩)
        rw [sigP_g, List.all_eq_true]
        constructor
        · intro h
          exact ⟨c1, mo, c4, fun m hm => (mn m hm).1, c7, fun k hk => (hf k).mp (of_decide_eq_true (h k hk))⟩
        · intro ok k hk
          exact decide_eq_true ((hf k).mpr (ok.md k hk))
    · have hk : decide ((ds.length : Int) = 2) = false := decide_eq_false (by omega)
      refine bT (by rw [hk]; rfl) ?_
      walk_at "w"
      refine rt_ (no fun z => ?_)
      obtain ⟨ps, ms, e⟩ := sigP_tup z
      cases e
      exact h2 rfl
  · walk_at "w"
    refine ⟨_, e, ?_⟩
    refine bT (by rw [isi_tup hn]; rfl) ?_
    walk_at "w"
    refine rt_ (no fun z => ?_)
    obtain ⟨ps, ms, e⟩ := sigP_tup z
    exact h _ e
end
end RX.Sg
set_option Elab.async false
set_option linter.all false
set_option maxRecDepth 1000000
set_option maxHeartbeats 4000000
/-! SG3: contracts of Signs. -/
namespace RX
open PySem PySem.Spec PyProof.Rows L2
def fN : List Str := ["words", "kinds", "makers", "of_kind", "small"]
def wdD (g : Sig) : D := .dct (g.kinds.map fun p => .inr p.1) (g.kinds.map fun p => .str (wordD p.2))
def mkrD (g : Sig) : D := .dct (g.makers.map fun m => .inr m.1) (g.makers.map fun m => .tup [.tup (m.2.1.map D.str), .str m.2.2])
def rowP (m : Str × List Str × Str) : D := .tup [.str m.1, .tup (m.2.1.map D.str)]
def sgO (g : Sig) (rs : List Addr) (sm : List Str) : DO := .ins "Signs" fN [wdD g, .lst (g.ks.map D.str), mkrD g, .dct (g.ks.map Sum.inr) (rs.map D.ref), .lst (sm.map D.str)]
structure SgAt (g : Sig) (rs : List Addr) (sm : List Str) (p : Addr) (M : MM) : Prop where
  ob : M p = some (sgO g rs sm)
  len : rs.length = g.ks.length
  row : ∀ (i : Nat) (k : Str) (a : Addr), g.ks[i]? = some k → rs[i]? = some a → M a = some (.lst ((ofK g k).map rowP))
theorem gf0 {a b c d e : D} : getFD fN [a, b, c, d, e] "words" = some a := by kernel_rfl
theorem gf1 {a b c d e : D} : getFD fN [a, b, c, d, e] "kinds" = some b := by kernel_rfl
theorem gf2 {a b c d e : D} : getFD fN [a, b, c, d, e] "makers" = some c := by kernel_rfl
theorem gf3 {a b c d e : D} : getFD fN [a, b, c, d, e] "of_kind" = some d := by kernel_rfl
theorem gf4 {a b c d e : D} : getFD fN [a, b, c, d, e] "small" = some e := by kernel_rfl
theorem pf4 {a b c d e x : D} : putFD fN [a, b, c, d, e] "small" x = (fN, [a, b, c, d, x]) := by kernel_rfl
theorem no_is_open : ("is_open" : Str) ∉ fN := by decide +kernel
theorem no_is_small : ("is_small" : Str) ∉ fN := by decide +kernel
theorem no_find_small : ("find_small" : Str) ∉ fN := by decide +kernel
theorem no_turns_small : ("turns_small" : Str) ∉ fN := by decide +kernel
theorem open_of {g : Sig} {k : Str} {b : Bool} (h : (k, b) ∈ g.kinds) (nd : g.ks.Nodup) : openB g k = b := by
  unfold openB
  cases b with
  | true => exact decide_eq_true h
  | false =>
    refine decide_eq_false fun h2 => ?_
    have : ∀ (l : List (Str × Bool)), (l.map (·.1)).Nodup → (k, false) ∈ l → (k, true) ∈ l → False := by
      intro l
      induction l with
      | nil => intro _ h; cases h
      | cons x l ih =>
        intro nd h1 h2
        obtain ⟨n1, n2⟩ := List.nodup_cons.mp nd
        rcases List.mem_cons.mp h1 with e | h1
        · rcases List.mem_cons.mp h2 with e2 | h2
          · rw [← e] at e2; cases e2
          · exact n1 (List.mem_map.mpr ⟨_, h2, by rw [← e]⟩)
        · rcases List.mem_cons.mp h2 with e2 | h2
          · exact n1 (List.mem_map.mpr ⟨_, h1, by rw [← e2]⟩)
          · exact ih n2 h1 h2
    exact this _ nd h h2
theorem ks_bool {g : Sig} {k : Str} (h : k ∈ g.ks) : ∃ b, (k, b) ∈ g.kinds := by
  obtain ⟨⟨x, b⟩, h2, rfl⟩ := List.mem_map.mp h
  exact ⟨b, h2⟩
end RX
namespace RX.Sg
open PySem PySem.Spec PyProof.Rows L2 RX
local macro_rules | `(tactic| walk_at "w") => `(tactic| ((conv => whnf); repeat ((first | refine bT rfl ?_ | refine bF rfl ?_ | refine ⟨_, rfl, ?_⟩ | refine ⟨_, _, rfl, rfl, ?_⟩ | refine ⟨_, _, rfl, ?_⟩ | refine ⟨rfl, ?_⟩ | refine szA rfl ?_); (conv => whnf))))
theorem fx {L : Law} {C f : Str} (h : L.fl C f = true) : L.fx C f = true := by unfold Law.fx; exact h
theorem hx {L : Law} {C m : Str} {c : CFun} (h : L.T (C, some m) = some c) : L.hx C m = true := by unfold Law.hx; rw [h]; rfl
section
variable {L : Law} (S : SgL L)
include S
theorem ct_is_open {n : Nat} {g : Sig} {rs : List Addr} {sm : List Str} {p : Addr} {k : Str} {M : MM} {Q : DV} {E : XD} (A : SgAt g rs sm p M) (nd : g.ks.Nodup) (hk : k ∈ g.ks) (q : Q (.bl (openB g k)) M) : L.cl (n + 1) ("Signs", some "is_open") [.ref p, .str k] M Q E := by
  rw [Law.stp S.is_open]
  obtain ⟨b, hb⟩ := ks_bool hk
  rw [open_of hb nd] at q
  walk_at "w"
  refine ⟨p, _, _, _, _, rfl, A.ob, fx S.fw, gf0, ?_⟩
  walk_at "w"
  have e := getKD_at (kf := fun p : Str × Bool => p.1) (df := fun p => D.str (wordD p.2)) hb nd
  refine ⟨_, _, rfl, e, ?_⟩
  walk_at "w"
  rw [wordD_open]
  exact rt_ q
theorem ct_small {n : Nat} {g : Sig} {rs : List Addr} {sm : List Str} {p : Addr} {k : Str} {M : MM} {Q : DV} {E : XD} (A : SgAt g rs sm p M) (q : Q (.bl (decide (k ∈ sm))) M) : L.cl (n + 1) ("Signs", some "is_small") [.ref p, .str k] M Q E := by
  rw [Law.stp S.small]
  walk_at "w"
  refine ⟨p, _, _, _, _, rfl, A.ob, fx S.fs, gf4, ?_⟩
  walk_at "w"
  refine ⟨_, inR_str k sm, ?_⟩
  exact rt_ q
theorem ct_turns {n : Nat} {g : Sig} {rs : List Addr} {sm : List Str} {p : Addr} {k : Str} {M : MM} {Q : DV} {E : XD} (mo : MkOk g) (A : SgAt g rs sm p M) (nd : g.ks.Nodup) (hk : k ∈ g.ks) (q : Q (.bl (turnsB g sm k)) M) : L.cl (n + 2) ("Signs", some "turns_small") [.ref p, .str k] M Q E := by
  rw [Law.stp S.turns_small]
  unfold turnsB at q
  walk_at "w"
  refine ⟨p, _, _, _, rfl, A.ob, no_is_open, hx S.is_open, ?_⟩
  walk_at "w"
  refine ct_is_open S A nd hk ?_
  cases ho : openB g k with
  | true =>
    rw [ho] at q
    walk_at "w"
    exact rt_ q
  | false =>
    rw [ho] at q
    walk_at "w"
    refine ⟨p, _, _, _, _, rfl, A.ob, fx S.fs, gf4, ?_⟩
    walk_at "w"
    refine ⟨_, inR_str k sm, ?_⟩
    by_cases hs : k ∈ sm
    · refine bT (decide_eq_true hs) ?_
      rw [decide_eq_true hs] at q
      walk_at "w"
      exact rt_ q
    · refine bF (decide_eq_false hs) ?_
      rw [decide_eq_false hs] at q
      walk_at "w"
      refine ⟨p, _, _, _, _, rfl, A.ob, fx S.fo, gf3, ?_⟩
      walk_at "w"
      obtain ⟨i, hi⟩ := List.getElem?_of_mem hk
      have hil : i < rs.length := by rw [A.len]; exact (List.getElem?_eq_some_iff.mp hi).1
      have hr := A.row i k rs[i] hi (List.getElem?_eq_getElem hil)
      have e : getKD (g.ks.map (Sum.inr : Str → Key)) (rs.map D.ref) (.inr k) = some (.ref rs[i]) := by
        have z := getKD_at (kf := fun p : Str × Addr => p.1) (df := fun p => D.ref p.2) (l := g.ks.zip rs) (x := (k, rs[i])) (List.mem_iff_getElem?.mpr ⟨i, by rw [List.getElem?_zip_eq_some]; exact ⟨hi, List.getElem?_eq_getElem hil⟩⟩)
          (by rw [List.map_fst_zip (by rw [A.len]; exact Nat.le_refl _)]; exact nd)
        have e1 : (g.ks.zip rs).map (fun p => (Sum.inr p.1 : Key)) = g.ks.map Sum.inr := by
          have : (fun p : Str × Addr => (Sum.inr p.1 : Key)) = Sum.inr ∘ Prod.fst := rfl
          rw [this, ← List.map_map, List.map_fst_zip (by rw [A.len]; exact Nat.le_refl _)]
        have e2 : (g.ks.zip rs).map (fun p => D.ref p.2) = rs.map D.ref := by
          have : (fun p : Str × Addr => D.ref p.2) = D.ref ∘ Prod.snd := rfl
          rw [this, ← List.map_map, List.map_snd_zip (by rw [A.len]; exact Nat.le_refl _)]
        rw [e1, e2] at z
        exact z
      refine ⟨_, _, rfl, e, ?_⟩
      walk_at "w"
      refine ⟨_, hr, ?_⟩
      walk_at "w"
      have lf : (ofK g k).length ≤ sizeLine := by
        have := mo.ml
        have : (ofK g k).length ≤ g.makers.length := List.length_filter_le _ _
        simp only [sizeLine]
        omega
      refine lc_genB rowP (fun m => m.2.1.all fun a => decide (a ∈ sm)) hr lf (fun m hm Y N h => ?_) ?_
      · have hm2 := (List.mem_filter.mp hm).1
        walk_at "w"
        refine lc_genB D.str (fun a => decide (a ∈ sm)) trivial (by have := (mo.mkk _ hm2).2.2; simp only [sizeLine]; omega) (fun a ha Y N h => ?_) ?_
        · walk_at "w"
          refine ⟨p, _, _, _, _, rfl, A.ob, fx S.fs, gf4, ?_⟩
          walk_at "w"
          refine ⟨_, inR_str a sm, ?_⟩
          exact h
        · walk_at "w"
          rw [all_id]
          exact h
      · walk_at "w"
        rw [all_id]
        exact rt_ q
theorem SgAt.put {g : Sig} {rs : List Addr} {sm sm' : List Str} {p : Addr} {M : MM} (A : SgAt g rs sm p M) (hp : p ∉ rs) : SgAt g rs sm' p (up M p (sgO g rs sm')) :=
  ⟨up_same, A.len, fun i k a h1 h2 => by
    have ne : a ≠ p := fun e => hp (by rw [← e]; exact List.mem_of_getElem? h2)
    rw [up_ne ne]
    exact A.row i k a h1 h2⟩
theorem ct_find_small {n : Nat} {g : Sig} {rs : List Addr} {p : Addr} {M : MM} {Q : DV} {E : XD} (mo : MkOk g) (A : SgAt g rs [] p M) (hp : p ∉ rs) (nd : g.ks.Nodup) (q : ∀ sm M', (∀ k, k ∈ sm ↔ SmallK g k) → SgAt g rs sm p M' → (∀ a, a ≠ p → M' a = M a) → Q .non M') : L.cl (n + 3) ("Signs", some "find_small") [.ref p] M Q E := by
  rw [Law.stp S.find_small]
  have lk : g.ks.length ≤ 8 := by unfold Sig.ks; rw [List.length_map]; exact mo.kl
  have lm : ∀ f, (missS g f).length ≤ 8 := fun f => Nat.le_trans (List.length_filter_le _ _) lk
  walk_at "w"
  refine ⟨p, _, _, _, _, rfl, A.ob, fx S.fk, gf1, ?_⟩
  walk_at "w"
  refine lc_gen D.str (fun k => if turnsB g [] k then some (.str k) else none) trivial g.ks [] (by simp only [List.length_nil, sizeLine]; omega) (fun k hk Y N h => ?_) ?_
  · walk_at "w"
    refine ⟨p, _, _, _, rfl, A.ob, no_turns_small, hx S.turns_small, ?_⟩
    walk_at "w"
    refine ct_turns S mo A nd hk ?_
    cases e : turnsB g [] k with
    | true =>
      simp only [e] at h
      walk_at "w"
      exact h
    | false =>
      simp only [e] at h
      walk_at "w"
      exact h
  rw [List.nil_append, filterMap_if]
  walk_at "w"
  have names : ∀ sm, ∀ z ∈ roundS g sm, nameOk z = true := fun sm z hz => mo.nm z (List.mem_filter.mp hz).1
  refine ⟨_, wh_inv (fun n σ M' => ∃ sm : List Str, σ = [some (.ref p), some (.lst ((roundS g sm).map D.str)), none] ∧ SgAt g rs sm p M' ∧ (∀ a, a ≠ p → M' a = M a) ∧ SmInv g sm ∧ (missS g sm).length ≤ n ∧ sm.length + 8 * (missS g sm).length ≤ 64) ?_ 8 _ _ ⟨[], rfl, A, (fun _ _ => rfl), ⟨(fun _ z => nomatch z), (fun _ z => nomatch z)⟩, lm [], by have := lm []; simp only [List.length_nil]; omega⟩⟩
  intro n K σ M' hK ⟨sm, eσ, A, hM, i, h1, h2⟩
  subst eσ
  walk_at "w"
  refine ⟨_, eqr_nil (names sm), ?_⟩
  cases e0 : roundS g sm with
  | nil =>
    walk_at "w"
    exact rt_ (q sm M' (fun k => i.done e0 k) A hM)
  | cons y ys =>
    rw [← e0]
    have ne : roundS g sm ≠ [] := by rw [e0]; simp
    have lt := missR_lt ne
    have lr := round_len mo sm
    have eE : (roundS g sm).isEmpty = false := by rw [e0]; rfl
    refine bT (by rw [eE]; rfl) ?_
    walk_at "w"
    refine ⟨p, _, _, _, _, rfl, A.ob, fx S.fs, gf4, ?_⟩
    walk_at "w"
    refine ⟨by simp only [List.length_map, sizeLine]; omega, ?_⟩
    walk_at "w"
    refine ⟨p, _, _, _, rfl, A.ob, fx S.fs, (by decide), ?_⟩
    have A2 : SgAt g rs (sm ++ roundS g sm) p (up M' p (sgO g rs (sm ++ roundS g sm))) := SgAt.put S A hp
    have eo : DO.ins "Signs" (putFD fN [wdD g, .lst (g.ks.map D.str), mkrD g, .dct (g.ks.map Sum.inr) (rs.map D.ref), .lst (sm.map D.str)] "small" (.lst (sm.map D.str ++ (roundS g sm).map D.str))).1 (putFD fN [wdD g, .lst (g.ks.map D.str), mkrD g, .dct (g.ks.map Sum.inr) (rs.map D.ref), .lst (sm.map D.str)] "small" (.lst (sm.map D.str ++ (roundS g sm).map D.str))).2 = sgO g rs (sm ++ roundS g sm) := by
      rw [pf4, ← List.map_append]
      rfl
    rw [eo]
    walk_at "w"
    refine ⟨p, _, _, _, _, rfl, A2.ob, fx S.fk, gf1, ?_⟩
    walk_at "w"
    refine lc_gen D.str (fun k => if turnsB g (sm ++ roundS g sm) k then some (.str k) else none) trivial g.ks [] (by simp only [List.length_nil, sizeLine]; omega) (fun k hk Y N h => ?_) ?_
    · walk_at "w"
      refine ⟨p, _, _, _, rfl, A2.ob, no_turns_small, hx S.turns_small, ?_⟩
      walk_at "w"
      refine ct_turns S mo A2 nd hk ?_
      cases e : turnsB g (sm ++ roundS g sm) k with
      | true =>
        simp only [e] at h
        walk_at "w"
        exact h
      | false =>
        simp only [e] at h
        walk_at "w"
        exact h
    rw [List.nil_append, filterMap_if]
    walk_at "w"
    cases n with
    | zero => omega
    | succ n' =>
      refine hK n' _ _ rfl ⟨sm ++ roundS g sm, rfl, A2, fun a ha => ?_, i.step, by omega, by rw [List.length_append]; omega⟩
      rw [up_ne ha]
      exact hM a ha
end
end RX.Sg
set_option Elab.async false
set_option linter.all false
set_option maxRecDepth 1000000
set_option maxHeartbeats 4000000
/-! SG4: Signs is made. -/
namespace RX
open PySem PySem.Spec PyProof.Rows L2
abbrev n1 : List Str := ["words"]
abbrev n2 : List Str := ["words", "kinds"]
abbrev n3 : List Str := ["words", "kinds", "makers"]
abbrev n4 : List Str := ["words", "kinds", "makers", "of_kind"]
theorem pa0 {x : D} : putFD [] [] "words" x = (n1, [x]) := rfl
theorem pa1 {a x : D} : putFD n1 [a] "kinds" x = (n2, [a, x]) := by kernel_rfl
theorem pa2 {a b x : D} : putFD n2 [a, b] "makers" x = (n3, [a, b, x]) := by kernel_rfl
theorem pa3 {a b c x : D} : putFD n3 [a, b, c] "of_kind" x = (n4, [a, b, c, x]) := by kernel_rfl
theorem pa4 {a b c d x : D} : putFD n4 [a, b, c, d] "small" x = (fN, [a, b, c, d, x]) := by kernel_rfl
theorem ga1 {a b c : D} : getFD n3 [a, b, c] "kinds" = some b := by kernel_rfl
theorem ga3 {a b c d : D} : getFD n4 [a, b, c, d] "of_kind" = some d := by kernel_rfl
theorem prD_k : ∀ (l : List (Str × Bool)), prD (l.map kP) = some (l.map fun p => (Sum.inr p.1, D.str (wordD p.2)))
  | [] => rfl
  | p :: l => by
    rw [List.map_cons, List.map_cons]
    show (match keyOf (.str p.1), prD (l.map kP) with | some k, some l => some ((k, D.str (wordD p.2)) :: l) | _, _ => none) = _
    rw [prD_k l]
    rfl
theorem lsOf_ref {M : MM} {a : Addr} {xs : List D} (h : M a = some (.lst xs)) : lsOf M (.ref a) = some xs := by unfold lsOf; simp only [h]
theorem getKD_zip {ks : List Str} {rs : List Addr} {i : Nat} {k : Str} {a : Addr} (hl : rs.length = ks.length) (nd : ks.Nodup) (h1 : ks[i]? = some k) (h2 : rs[i]? = some a) : getKD (ks.map (Sum.inr : Str → Key)) (rs.map D.ref) (.inr k) = some (.ref a) := by
  have z := getKD_at (kf := fun p : Str × Addr => p.1) (df := fun p => D.ref p.2) (l := ks.zip rs) (x := (k, a)) (List.mem_iff_getElem?.mpr ⟨i, by rw [List.getElem?_zip_eq_some]; exact ⟨h1, h2⟩⟩)
    (by rw [List.map_fst_zip (by rw [hl]; exact Nat.le_refl _)]; exact nd)
  have e1 : (ks.zip rs).map (fun p => (Sum.inr p.1 : Key)) = ks.map Sum.inr := by
    have : (fun p : Str × Addr => (Sum.inr p.1 : Key)) = Sum.inr ∘ Prod.fst := rfl
    rw [this, ← List.map_map, List.map_fst_zip (by rw [hl]; exact Nat.le_refl _)]
  have e2 : (ks.zip rs).map (fun p => D.ref p.2) = rs.map D.ref := by
    have : (fun p : Str × Addr => D.ref p.2) = D.ref ∘ Prod.snd := rfl
    rw [this, ← List.map_map, List.map_snd_zip (by rw [hl]; exact Nat.le_refl _)]
  rw [e1, e2] at z
  exact z
theorem nd_at {α : Type} {l : List α} (nd : l.Nodup) {i j : Nat} {x : α} (h1 : l[i]? = some x) (h2 : l[j]? = some x) : i = j := by
  obtain ⟨a1, b1⟩ := List.getElem?_eq_some_iff.mp h1
  obtain ⟨a2, b2⟩ := List.getElem?_eq_some_iff.mp h2
  rcases Nat.lt_trichotomy i j with h | h | h
  · exact absurd (b1.trans b2.symm) (List.pairwise_iff_getElem.mp nd i j a1 a2 h)
  · exact h
  · exact absurd (b2.trans b1.symm) (List.pairwise_iff_getElem.mp nd j i a2 a1 h)
theorem take_filter {α : Type} {l : List α} {i : Nat} {x : α} (h : l[i]? = some x) (p : α → Bool) : (l.take (i + 1)).filter p = (l.take i).filter p ++ if p x then [x] else [] := by
  rw [List.take_add_one, h, List.filter_append]
  simp only [Option.toList]
  rw [List.filter_cons, List.filter_nil]
theorem take_map {α β : Type} {l : List α} {i : Nat} {x : α} (h : l[i]? = some x) (f : α → β) : (l.take (i + 1)).map f = (l.take i).map f ++ [f x] := by
  rw [List.take_add_one, h, List.map_append]
  rfl
theorem not_take {l : List Str} (nd : l.Nodup) {i : Nat} {x : Str} (h : l[i]? = some x) : x ∉ l.take i := fun m => by
  obtain ⟨j, hj⟩ := List.getElem?_of_mem m
  obtain ⟨h1, h2⟩ := List.getElem?_eq_some_iff.mp hj
  rw [List.length_take] at h1
  have hj2 : l[j]? = some x := by
    rw [List.getElem?_take] at hj
    split at hj
    · exact hj
    · cases hj
  have := nd_at nd h hj2
  omega
end RX
namespace RX.Sg
open PySem PySem.Spec PyProof.Rows L2 RX
local macro_rules | `(tactic| walk_at "w") => `(tactic| ((conv => whnf); repeat ((first | refine bT rfl ?_ | refine bF rfl ?_ | refine ⟨_, rfl, ?_⟩ | refine ⟨_, _, rfl, rfl, ?_⟩ | refine ⟨_, _, rfl, ?_⟩ | refine ⟨rfl, ?_⟩ | refine szA rfl ?_); (conv => whnf))))
section
variable {L : Law} (S : SgL L)
include S
theorem ct_init {n : Nat} {g : Sig} {p : Addr} {M : MM} {Q : DV} {E : XD} (ok : SigOk g) (h0 : M p = some (.ins "Signs" [] [])) (q : ∀ rs sm M', (∀ k, k ∈ sm ↔ SmallK g k) → SgAt g rs sm p M' → (∀ a o, a ≠ p → M a = some o → M' a = some o) → Q .non M') : L.cl (n + 4) ("Signs", some "__init__") [.ref p, sigD g] M Q E := by
  rw [Law.stp S.init]
  have mo := ok.mo
  have z8 := mo.kl
  have z24 := mo.ml
  have lk : g.ks.length ≤ 8 := by unfold Sig.ks; rw [List.length_map]; exact z8
  walk_at "w"
  refine ⟨_, g.kinds.map fun p => (Sum.inr p.1, D.str (wordD p.2)), rfl, prD_k _, ?_⟩
  have e1 : mergeD [] [] (g.kinds.map fun p => ((Sum.inr p.1 : Key), D.str (wordD p.2))) = (g.kinds.map fun p => Sum.inr p.1, g.kinds.map fun p => D.str (wordD p.2)) := by
    have nd2 : ((g.kinds.map fun p => ((Sum.inr p.1 : Key), D.str (wordD p.2))).map (·.1)).Nodup := by
      have := inr_nodup ok.nd
      unfold Sig.ks at this
      rw [List.map_map] at this ⊢
      exact this
    rw [mergeD_new (by simpa using nd2)]
    simp [List.map_map, Function.comp_def]
  rw [e1]
  walk_at "w"
  refine ⟨p, _, _, _, rfl, h0, fx S.fw, by decide, ?_⟩
  rw [pa0]
  walk_at "w"
  refine lc_genM kP (fun p => .str p.1) trivial (by simp only [sizeLine]; omega) (fun p hp Y N k => ?_) ?_
  · walk_at "w"
    exact k
  walk_at "w"
  have ek : g.kinds.map (fun p => D.str p.1) = g.ks.map D.str := by unfold Sig.ks; rw [List.map_map]; rfl
  rw [ek]
  refine ⟨p, _, _, _, rfl, up_same, fx S.fk, (show n1.length < 1000 by decide), ?_⟩
  rw [pa1, up_up]
  walk_at "w"
  refine dc_all (fun i ks ds M' => M' = up M p (.ins "Signs" n2 [wdD g, .lst (g.ks.map D.str)]) ∧ i ≤ 24 ∧ ks = (g.makers.take i).map (fun m => Sum.inr m.1) ∧ ds = (g.makers.take i).map fun m => D.tup [.tup (m.2.1.map D.str), .str m.2.2]) ?_ ?_ ?_ ⟨rfl, by omega, rfl, rfl⟩
  · intro i ks ds M' ⟨_, hi, e, _⟩
    refine ⟨trivial, ?_⟩
    rw [e, List.length_map, List.length_take]
    simp only [sizeLine]
    omega
  · intro i x hx ks ds M' K ⟨eM, hi, e, e2⟩ hK
    rw [List.getElem?_map] at hx
    obtain ⟨m, hm, rfl⟩ := Option.map_eq_some_iff.mp hx
    have hil := (List.getElem?_eq_some_iff.mp hm).1
    walk_at "w"
    have hn : (Sum.inr m.1 : Key) ∉ ks := by
      rw [e]
      intro z
      obtain ⟨m', h1, h2⟩ := List.mem_map.mp z
      injection h2 with h2
      refine not_take ok.nn (i := i) (x := m.1) (by rw [List.getElem?_map, hm]; rfl) ?_
      rw [← List.map_take]
      exact List.mem_map.mpr ⟨m', h1, h2⟩
    rw [putKD_new hn]
    exact hK _ _ _ ⟨eM, by omega, by rw [take_map hm, e], by rw [take_map hm, e2]⟩
  intro ks ds M' ⟨eM, _, e, e2⟩
  subst eM e e2
  rw [List.length_map, List.take_length]
  walk_at "w"
  refine ⟨p, _, _, _, rfl, up_same, fx S.fm, (show n2.length < 1000 by decide), ?_⟩
  rw [pa2, up_up]
  walk_at "w"
  refine ⟨p, _, _, _, _, rfl, up_same, fx S.fk, ga1, ?_⟩
  walk_at "w"
  show dcD _ _ _ _ _ _ _ _ _ _ (up M p (.ins "Signs" n3 [wdD g, .lst (g.ks.map D.str), mkrD g]))
  generalize eM0 : up M p (.ins "Signs" n3 [wdD g, .lst (g.ks.map D.str), mkrD g]) = M0
  have hM0 : M0 p = some (.ins "Signs" n3 [wdD g, .lst (g.ks.map D.str), mkrD g]) := by rw [← eM0]; exact up_same
  refine dc_all (fun i ks ds M' => ∃ rs : List Addr, ks = (g.ks.take i).map Sum.inr ∧ i ≤ 8 ∧ ds = rs.map D.ref ∧ rs.length = i ∧ rs.Nodup ∧ (∀ a ∈ rs, M0 a = none ∧ M' a = some (.lst [])) ∧ ∀ a, a ∉ rs → M' a = M0 a) ?_ ?_ ?_ ⟨[], rfl, by omega, rfl, rfl, .nil, (fun _ z => nomatch z), fun _ _ => rfl⟩
  · intro i ks ds M' ⟨rs, e, hi, _⟩
    refine ⟨trivial, ?_⟩
    rw [e, List.length_map, List.length_take]
    simp only [sizeLine]
    omega
  · intro i x hx ks ds M' K ⟨rs, e, hi, e2, hl, nd, h1, h2⟩ hK
    rw [List.getElem?_map] at hx
    obtain ⟨k, hk, rfl⟩ := Option.map_eq_some_iff.mp hx
    have hil := (List.getElem?_eq_some_iff.mp hk).1
    walk_at "w"
    have hn : (Sum.inr k : Key) ∉ ks := by
      rw [e]
      intro z
      obtain ⟨m', h1, h2⟩ := List.mem_map.mp z
      injection h2 with h2
      subst h2
      exact not_take ok.nd hk h1
    intro a ha
    have har : a ∉ rs := fun z => by rw [(h1 a z).2] at ha; cases ha
    rw [putKD_new hn]
    refine hK _ _ _ ⟨rs ++ [a], by rw [take_map hk, e], by omega, by rw [e2, List.map_append]; rfl, by simp [hl], ?_, fun b hb => ?_, fun b hb => ?_⟩
    · refine List.nodup_append.mpr ⟨nd, by simp, fun x hx y hy e => har ?_⟩
      rw [List.mem_singleton.mp hy] at e
      rw [← e]
      exact hx
    · rcases List.mem_append.mp hb with hb | hb
      · have ne : b ≠ a := fun e => har (by rw [← e]; exact hb)
        rw [up_ne ne]
        exact h1 b hb
      · have e := List.mem_singleton.mp hb
        subst e
        exact ⟨(h2 b har).symm.trans ha, up_same⟩
    · have ne : b ≠ a := fun e => hb (by rw [e]; simp)
      rw [up_ne ne]
      exact h2 b fun z => hb (List.mem_append_left _ z)
  intro ks ds M1 ⟨rs, e, _, e2, hl, ndr, h1, h2⟩
  subst e e2
  rw [List.length_map] at hl
  rw [List.length_map, List.take_length]
  have hpr : p ∉ rs := fun z => by
    have := (h1 p z).1
    rw [hM0] at this
    cases this
  walk_at "w"
  refine ⟨p, _, _, _, rfl, (h2 p hpr).trans hM0, fx S.fo, (show n3.length < 1000 by decide), ?_⟩
  rw [pa3]
  walk_at "w"
  show forD _ _ _ _ (g.makers.map mP) _ (up M1 p (.ins "Signs" n4 [wdD g, .lst (g.ks.map D.str), mkrD g, .dct (g.ks.map Sum.inr) (rs.map D.ref)]))
  generalize eM2 : up M1 p (.ins "Signs" n4 [wdD g, .lst (g.ks.map D.str), mkrD g, .dct (g.ks.map Sum.inr) (rs.map D.ref)]) = M2
  have p2 : M2 p = some (.ins "Signs" n4 [wdD g, .lst (g.ks.map D.str), mkrD g, .dct (g.ks.map Sum.inr) (rs.map D.ref)]) := by rw [← eM2]; exact up_same
  have r2 : ∀ a ∈ rs, M2 a = some (.lst []) := fun a ha => by
    have ne : a ≠ p := fun e => hpr (by rw [← e]; exact ha)
    rw [← eM2, up_ne ne]
    exact (h1 a ha).2
  have o2 : ∀ a, a ≠ p → a ∉ rs → M2 a = M a := fun a ne ha => by rw [← eM2, up_ne ne, h2 a ha, ← eM0, up_ne ne]
  have f2 : ∀ a ∈ rs, M a = none := fun a ha => by
    have ne : a ≠ p := fun e => hpr (by rw [← e]; exact ha)
    have := (h1 a ha).1
    rw [← eM0, up_ne ne] at this
    exact this
  refine fo_all (fun i σ M' => (∃ o2 o3 o4 o5, σ = [some (.ref p), some (sigD g), o2, o3, o4, o5]) ∧ M' p = M2 p ∧ (∀ (j : Nat) (k : Str) (a : Addr), g.ks[j]? = some k → rs[j]? = some a → M' a = some (.lst (((g.makers.take i).filter fun m => decide (m.2.2 = k)).map rowP))) ∧ ∀ a, a ∉ rs → M' a = M2 a) ?_ ?_ ?_
    ⟨⟨_, _, _, _, rfl⟩, rfl, (fun j k a _ ha => r2 a (List.mem_of_getElem? ha)), fun _ _ => rfl⟩
  · intro i σ M' _
    exact trivial
  · intro i x hx K σ M' ⟨⟨s2, s3, s4, s5, eσ⟩, c1, c2, c3⟩ hK
    subst eσ
    rw [List.getElem?_map] at hx
    obtain ⟨m, hm, rfl⟩ := Option.map_eq_some_iff.mp hx
    have hmk := mo.mkk m (List.mem_of_getElem? hm)
    obtain ⟨j, hj⟩ := List.getElem?_of_mem hmk.1
    have hjl : j < rs.length := by rw [hl]; exact (List.getElem?_eq_some_iff.mp hj).1
    have ha : rs[j]? = some rs[j] := List.getElem?_eq_getElem hjl
    have hMa := c2 j _ _ hj ha
    have har : rs[j] ∈ rs := List.mem_of_getElem? ha
    walk_at "w"
    refine ⟨p, _, _, _, _, rfl, c1.trans p2, fx S.fo, ga3, ?_⟩
    walk_at "w"
    refine ⟨_, _, rfl, getKD_zip hl ok.nd hj ha, ?_⟩
    walk_at "w"
    refine ⟨⟨_, lsOf_ref hMa⟩, ?_⟩
    walk_at "w"
    refine ⟨_, _, rfl, hMa, ?_, ?_⟩
    · rw [List.length_map]
      have e1 : ((g.makers.take i).filter fun x => decide (x.2.2 = m.2.2)).length ≤ (g.makers.take i).length := List.length_filter_le _ _
      rw [List.length_take] at e1
      simp only [sizeLine]
      omega
    walk_at "w"
    refine hK _ _ ⟨⟨_, _, _, _, rfl⟩, ?_, ?_, ?_⟩
    · rw [up_ne (fun e => hpr (by rw [e]; exact har))]
      exact c1
    · intro j' k' a' hj' ha'
      rw [take_filter hm]
      by_cases e : j' = j
      · subst e
        rw [ha] at ha'
        cases ha'
        rw [hj] at hj'
        cases hj'
        rw [up_same, if_pos (decide_eq_true rfl), List.map_append]
        rfl
      · have ne : a' ≠ rs[j] := fun z => e (nd_at ndr ha' (by rw [ha, z]))
        have nk : ¬ m.2.2 = k' := fun z => e (nd_at ok.nd hj' (by rw [hj, z]))
        rw [up_ne ne, if_neg (by simpa using nk), List.append_nil]
        exact c2 j' k' a' hj' ha'
    · intro a haa
      rw [up_ne (fun e => haa (by rw [e]; exact har))]
      exact c3 a haa
  · intro σ M3 ⟨⟨s2, s3, s4, s5, eσ⟩, c1, c2, c3⟩
    subst eσ
    walk_at "w"
    refine ⟨p, _, _, _, rfl, c1.trans p2, fx S.fs, (show n4.length < 1000 by decide), ?_⟩
    rw [pa4]
    walk_at "w"
    have A : SgAt g rs [] p (up M3 p (sgO g rs [])) := by
      refine ⟨up_same, hl, fun i k a h1 h2 => ?_⟩
      have ne : a ≠ p := fun e => hpr (by rw [← e]; exact List.mem_of_getElem? h2)
      rw [up_ne ne, c2 i k a h1 h2, List.length_map, List.take_length]
      rfl
    refine ⟨p, _, _, _, rfl, A.ob, no_find_small, hx S.find_small, ?_⟩
    walk_at "w"
    refine ct_find_small S mo A hpr ok.nd fun sm M4 hs A4 h4 => ?_
    walk_at "w"
    refine rt_ (q rs sm M4 hs A4 fun a o ne hM => ?_)
    have har : a ∉ rs := fun z => by rw [f2 a z] at hM; cases hM
    rw [h4 a ne, up_ne ne, c3 a har, o2 a ne har]
    exact hM
end
end RX.Sg
set_option Elab.async false
set_option linter.all false
set_option maxRecDepth 1000000
set_option maxHeartbeats 4000000
/-! SG5: is_signature, is_small, where nothing is refused. -/
namespace RX.Sg
open PySem PySem.Spec PyProof.Rows L2 RX
local macro_rules | `(tactic| walk_at "w") => `(tactic| ((conv => whnf); repeat ((first | refine bT rfl ?_ | refine bF rfl ?_ | refine ⟨_, rfl, ?_⟩ | refine ⟨_, _, rfl, rfl, ?_⟩ | refine ⟨_, _, rfl, ?_⟩ | refine ⟨rfl, ?_⟩ | refine szA rfl ?_); (conv => whnf))))
structure ShL (L : Law) : Prop where
  sg : SgL L
  check_signature : L.T ("check_signature", none) = some f_check_signature
  check_kind : L.T ("check_kind", none) = some f_check_kind
  is_signature : L.T ("is_signature", none) = some f_is_signature
  is_small : L.T ("is_small", none) = some f_is_small
section
variable {L : Law} (S : ShL L)
include S
theorem px_Signs : L.px "Signs" = (["self", "signature"] : List Str) := by
  unfold Law.px
  rw [S.sg.tS]
  show (match L.T ("Signs", some "__init__") with | some c => c.ps | none => []) = _
  rw [S.sg.init]
  rfl
theorem ct_check_signature {n : Nat} {g : Sig} {M : MM} {Q : DV} {E : XD} (t : Tm M (sigD g)) (ok : SigOk g) (q : ∀ p rs sm M', Sub M M' → (∀ k, k ∈ sm ↔ SmallK g k) → SgAt g rs sm p M' → Q (.ref p) M') : L.cl (n + 6) ("check_signature", none) [sigD g] M Q E := by
  rw [Law.stp S.check_signature]
  walk_at "w"
  refine ct_is_signature_by S.sg t fun b hb => ?_
  have e : b = true := hb.mpr (sigP_g.mpr ok)
  subst e
  walk_at "w"
  refine ⟨by show _ = (L.px "Signs").length; rw [px_Signs S]; rfl, ?_⟩
  walk_at "w"
  intro p hp
  show L.ini (n + 5) ("Signs", some "__init__") _ _ _ _
  rw [Law.ini_s]
  refine ct_init S.sg ok up_same fun rs sm M' hs A hM => ?_
  walk_at "w"
  refine rt_ (q p rs sm M' (fun a o h => ?_) hs A)
  have ne : a ≠ p := fun e => by rw [e, hp] at h; cases h
  exact hM a o ne (by rw [up_ne ne]; exact h)
theorem ct_check_kind {n : Nat} {g : Sig} {rs : List Addr} {sm : List Str} {p : Addr} {k : Str} {M : MM} {Q : DV} {E : XD} (A : SgAt g rs sm p M) (hk : k ∈ g.ks) (q : Q .non M) : L.cl (n + 1) ("check_kind", none) [.ref p, .str k] M Q E := by
  rw [Law.stp S.check_kind]
  walk_at "w"
  refine ⟨p, _, _, _, _, rfl, A.ob, fx S.sg.fk, gf1, ?_⟩
  walk_at "w"
  refine ⟨_, inR_str k g.ks, ?_⟩
  refine bF (by rw [decide_eq_true hk]; rfl) ?_
  walk_at "w"
  exact rt_ q
theorem ct_is_signature {n : Nat} {x : D} {M : MM} {Q : DV} {E : XD} (t : Tm M x) (q : ∀ b : Bool, (b = true ↔ SigP x) → Q (.bl b) M) : L.cl (n + 4) ("is_signature", none) [x] M Q E := by
  rw [Law.stp S.is_signature]
  walk_at "w"
  exact ct_is_signature_by S.sg t fun b hb => rt_ (q b hb)
theorem ct_is_small {n : Nat} {g : Sig} {k : Str} {M : MM} {Q : DV} {E : XD} (t : Tm M (sigD g)) (ok : SigOk g) (hk : k ∈ g.ks) (q : ∀ b : Bool, (b = true ↔ SmallK g k) → Q (.bl b) M) : L.cl (n + 7) ("is_small", none) [sigD g, .str k] M Q E := by
  rw [Law.stp S.is_small]
  walk_at "w"
  refine ct_check_signature S t ok fun p rs sm M' sub hs A => ?_
  walk_at "w"
  refine ct_check_kind S A hk ?_
  walk_at "w"
  refine ⟨p, _, _, _, rfl, A.ob, no_is_small, hx S.sg.small, ?_⟩
  walk_at "w"
  refine ct_small S.sg A ?_
  exact ⟨M, sub, q _ (by rw [decide_eq_true_eq]; exact hs k)⟩
end
end RX.Sg
set_option Elab.async false
set_option linter.all false
set_option maxRecDepth 1000000
set_option maxHeartbeats 4000000
/-! LW1: the law's own defs, and contracts of the draws. -/
namespace RX.Lw
open PySem PySem.Spec PyProof.Rows L2 RX RX.Sg
def f_law_well : CFun := { ps := ["script", "lap"], N := ["script", "lap", "mixed", "cell", "own"], body :=
  (.cons (.asg (.name 2) (.bin .Add true (.int 71237) (.bin .Mult true (.int 8009) (.var 1)))) (.cons (.for_ (.name 3) (.seq (.slc true (.var 0) .no (.yes (.int 12)))) (.cons (.asg (.name 2) (.bin .Mod true (.fn .int true (.cons (.bin .Add true (.bin .Add true (.bin .Mult true (.var 2) (.int 40169)) (.bin .Mult true (.bin .Mod true (.fn .int true (.cons (.var 3) .nil)) (.int 2147483543)) (.int 19))) (.int 29)) .nil)) (.int 2147483543))) .nil)) (.cons (.asg (.name 4) (.ifx (.cmp .Lt (.var 1) (.fn .len true (.cons (.var 0) .nil))) (.fn .int true (.cons (.ix (.var 0) (.var 1)) .nil)) (.int 0))) (.cons (.asg (.name 2) (.bin .Mod true (.fn .int true (.cons (.bin .Add true (.bin .Add true (.bin .Mult true (.var 2) (.int 107)) (.bin .Mult true (.bin .Mod true (.fn .int true (.cons (.var 4) .nil)) (.int 2147483543)) (.int 20089))) (.int 13)) .nil)) (.int 2147483543))) (.cons (.ret (.lst false (.cons (.ifx (.or (.cmp .Lt (.var 4) (.int 0)) (.cmp .GtE (.var 4) (.bin .Pow true (.int 10) (.int 15)))) (.fn .abs true (.cons (.var 4) .nil)) (.int 0)) (.cons (.var 2) (.cons (.int 0) .nil))))) .nil))))) }
def f_law_draw : CFun := { ps := ["well", "few"], N := ["well", "few", "figure", "mixed"], body :=
  (.cons (.ite (.cmp .Gt (.ix (.var 0) (.int 0)) (.int 0)) (.cons (.asg (.tup (.cons (.sub (.var 0) (.int 0)) (.cons (.name 2) .nil))) (.fn .divmod true (.cons (.ix (.var 0) (.int 0)) (.cons (.var 1) .nil)))) (.cons (.ret (.var 2)) .nil)) .nil) (.cons (.asg (.sub (.var 0) (.int 2)) (.bin .Add true (.ix (.var 0) (.int 2)) (.int 1))) (.cons (.asg (.name 3) (.bin .Mod true (.fn .int true (.cons (.bin .Add true (.bin .Mult true (.ix (.var 0) (.int 1)) (.int 48271)) (.bin .Mult true (.int 18013) (.ix (.var 0) (.int 2)))) .nil)) (.int 2147483543))) (.cons (.asg (.sub (.var 0) (.int 1)) (.bin .Mod true (.fn .int true (.cons (.bin .Add true (.bin .Mult true (.var 3) (.bin .Add true (.bin .Mod true (.fn .int true (.cons (.var 3) .nil)) (.int 5009)) (.int 20029))) (.ix (.var 0) (.int 2))) .nil)) (.int 2147483543))) (.cons (.ret (.bin .Mod true (.fn .int true (.cons (.bin .FloorDiv true (.ix (.var 0) (.int 1)) (.int 967)) .nil)) (.var 1))) .nil))))) }
def f_law_one : CFun := { ps := ["well", "some"], N := ["well", "some"], body :=
  (.cons (.ret (.ix (.var 1) (.call "_law_draw" (.cons (.var 0) (.cons (.fn .len true (.cons (.var 1) .nil)) .nil))))) .nil) }
def f_law_mixed : CFun := { ps := ["well", "some"], N := ["well", "some", "left", "found"], body :=
  (.cons (.par2 2 3 (.fn .list false (.cons (.var 1) .nil)) (.lst false .nil)) (.cons (.while_ (.cmp .NotEq (.var 2) (.lst true .nil)) (.cons (.expr (.bm .append (.var 3) (.cons (.bm .pop1 (.var 2) (.cons (.call "_law_draw" (.cons (.var 0) (.cons (.fn .len true (.cons (.var 2) .nil)) .nil))) .nil)) .nil))) .nil)) (.cons (.ret (.frz (.var 3))) .nil))) }
def f_law_is_whole : CFun := { ps := ["thing"], N := ["thing"], body :=
  (.cons (.ret (.tst (.and (.isi (.var 0) [(.bt "int")]) (.not (.isi (.var 0) [(.bt "bool")]))))) .nil) }
def f_law_odd_thing : CFun := { ps := ["well"], N := ["well", "some", "more"], body :=
  (.cons (.asg (.name 1) (.tup (.cons .non (.cons (.bl true) (.cons (.bl false) (.cons (.str "z") (.cons (.str "") (.cons (.str "?") (.cons (.str "#") (.cons (.neg (.int 1)) (.cons (.int 0) (.cons (.int 1) (.cons (.int 7) (.cons (.bin .Pow true (.int 10) (.int 30)) (.cons (.tup .nil) (.cons (.lst true .nil) (.cons (.dct true .nil .nil) (.cons (.tup (.cons (.str "z") .nil)) (.cons (.lst true (.cons (.str "z") .nil)) (.cons (.tup (.cons (.str "?") (.cons (.str "x") .nil))) (.cons (.tup (.cons (.str "?") .nil)) .nil))))))))))))))))))))) (.cons (.asg (.name 2) (.tup (.cons (.tup (.cons (.str "#") (.cons (.str "type") (.cons (.int 1) .nil)))) (.cons (.tup (.cons (.str "#") (.cons (.str "count") (.cons (.int 1) .nil)))) (.cons (.tup (.cons (.tup (.cons (.str "z") .nil)) .nil)) (.cons (.tup (.cons (.tup (.cons (.str "?") (.cons (.str "x") .nil))) .nil)) (.cons (.tup (.cons (.str "s") (.cons (.tup (.cons (.str "z") .nil)) .nil))) (.cons (.tup (.cons (.str "a") (.cons (.str "closed") .nil))) (.cons (.tup (.cons (.str "?") (.cons (.str "x") (.cons (.str "y") .nil)))) .nil))))))))) (.cons (.ret (.call "_law_one" (.cons (.var 0) (.cons (.bin .Add true (.var 1) (.var 2)) .nil)))) .nil))) }
def f_law_bent : CFun := { ps := ["well", "thing"], N := ["well", "thing", "path", "here", "turn", "at", "way", "whole"], body :=
  (.cons (.par2 2 3 (.lst false .nil) (.var 1)) (.cons (.for_ (.name 4) (.range1 (.call "_law_draw" (.cons (.var 0) (.cons (.int 6) .nil)))) (.cons (.ite (.or (.not (.isi (.var 3) [(.bt "tuple")])) (.cmp .Eq (.var 3) (.tup .nil))) (.cons .brk .nil) .nil) (.cons (.asg (.name 5) (.call "_law_draw" (.cons (.var 0) (.cons (.fn .len true (.cons (.var 3) .nil)) .nil)))) (.cons (.expr (.bm .append (.var 2) (.cons (.tup (.cons (.var 3) (.cons (.var 5) .nil))) .nil))) (.cons (.asg (.name 3) (.ix (.var 3) (.var 5))) .nil))))) (.cons (.asg (.name 6) (.call "_law_draw" (.cons (.var 0) (.cons (.int 9) .nil)))) (.cons (.ite (.and (.isi (.var 3) [(.bt "tuple")]) (.cmp .Lt (.var 6) (.int 7))) (.cons (.asg (.name 3) (.ix (.tup (.cons (.fn .list true (.cons (.var 3) .nil)) (.cons (.slc true (.var 3) .no (.yes (.neg (.int 1)))) (.cons (.bin .Add true (.var 3) (.slc true (.var 3) (.yes (.neg (.int 1))) .no)) (.cons (.slc true (.var 3) (.yes (.int 1)) .no) (.cons (.rev true (.var 3)) (.cons (.bin .Add true (.var 3) (.tup (.cons (.tup (.cons (.str "z") .nil)) .nil))) (.cons (.tup (.cons (.var 3) .nil)) .nil)))))))) (.var 6))) .nil) (.cons (.ite (.and (.val (.call "_law_is_whole" (.cons (.var 3) .nil))) (.cmp .Lt (.var 6) (.int 7))) (.cons (.asg (.name 3) (.ix (.tup (.cons (.bin .Add true (.var 3) (.int 1)) (.cons (.bin .Sub true (.var 3) (.int 1)) (.cons (.bin .Sub true (.int 0) (.var 3)) (.cons (.tst (.cmp .Gt (.var 3) (.int 0))) (.cons (.bin .Mult true (.var 3) (.int 2)) (.cons (.fn .str true (.cons (.call "_law_draw" (.cons (.var 0) (.cons (.int 9) .nil))) .nil)) (.cons (.int 0) .nil)))))))) (.var 6))) .nil) (.cons (.ite (.and (.isi (.var 3) [(.bt "str")]) (.cmp .Lt (.var 6) (.int 7))) (.cons (.asg (.name 3) (.ix (.tup (.cons (.bin .Add true (.var 3) (.str "a")) (.cons (.slc true (.var 3) (.yes (.int 1)) .no) (.cons (.bm .upper (.var 3) .nil) (.cons (.str "?") (.cons (.str "#") (.cons (.bin .Add true (.var 3) (.str "_234567890ab")) (.cons (.bin .Add true (.str "1") (.var 3)) .nil)))))))) (.var 6))) .nil) (.cons (.asg (.name 3) (.call "_law_odd_thing" (.cons (.var 0) .nil))) .nil)) .nil)) .nil)) (.cons (.for_ (.tup (.cons (.name 7) (.cons (.name 5) .nil))) (.seq (.rev true (.var 2))) (.cons (.asg (.name 3) (.bin .Add true (.bin .Add true (.slc true (.var 7) .no (.yes (.var 5))) (.tup (.cons (.var 3) .nil))) (.slc true (.var 7) (.yes (.bin .Add true (.var 5) (.int 1))) .no))) .nil)) (.cons (.ret (.var 3)) .nil)))))) }
def f_law_is_name : CFun := { ps := ["thing"], N := ["thing", "sign"], body :=
  (.cons (.ite (.or (.not (.isi (.var 0) [(.bt "str")])) (.or (.not (.chain .LtE .LtE (.int 1) (.fn .len true (.cons (.var 0) .nil)) (.int 12))) (.cmp .NotIn (.ix (.var 0) (.int 0)) (.str "abcdefghijklmnopqrstuvwxyz")))) (.cons (.ret (.bl false)) .nil) .nil) (.cons (.ret (.fn .all true (.cons (.lc true (.tst (.cmp .In (.var 1) (.str "abcdefghijklmnopqrstuvwxyz0123456789_"))) (.name 1) (.seq (.var 0)) .nil [("sign", 1)]) .nil))) .nil)) }
def f_law_is_pair : CFun := { ps := ["thing", "few"], N := ["thing", "few"], body :=
  (.cons (.ret (.tst (.and (.isi (.var 0) [(.bt "tuple")]) (.cmp .Eq (.fn .len true (.cons (.var 0) .nil)) (.var 1))))) .nil) }
def f_law_living : CFun := { ps := ["sig"], N := ["sig", "found", "kind", "word", "turn", "name", "args", "arg"], body :=
  (.cons (.asg (.name 1) (.lc false (.var 2) (.tup (.cons (.name 2) (.cons (.name 3) .nil))) (.seq (.ix (.var 0) (.int 0))) (.cons (.cmp .Eq (.var 3) (.str "open")) .nil) [("kind", 2), ("word", 3)])) (.cons (.for_ (.name 4) (.range1 (.fn .len true (.cons (.ix (.var 0) (.int 0)) .nil))) (.cons (.for_ (.tup (.cons (.name 5) (.cons (.name 6) (.cons (.name 2) .nil)))) (.seq (.ix (.var 0) (.int 1))) (.cons (.ite (.and (.cmp .NotIn (.var 2) (.var 1)) (.val (.fn .all true (.cons (.lc true (.tst (.cmp .In (.var 7) (.var 1))) (.name 7) (.seq (.var 6)) .nil [("arg", 7)]) .nil)))) (.cons (.expr (.bm .append (.var 1) (.cons (.var 2) .nil))) .nil) .nil) .nil)) .nil)) (.cons (.ret (.frz (.var 1))) .nil))) }
def f_law_is_signature : CFun := { ps := ["thing"], N := ["thing", "each", "kinds", "arg", "names"], body :=
  (.cons (.ite (.or (.not (.val (.call "_law_is_pair" (.cons (.var 0) (.cons (.int 2) .nil))))) (.or (.not (.isi (.ix (.var 0) (.int 0)) [(.bt "tuple")])) (.not (.chain .LtE .LtE (.int 1) (.fn .len true (.cons (.ix (.var 0) (.int 0)) .nil)) (.int 8))))) (.cons (.ret (.bl false)) .nil) .nil) (.cons (.for_ (.name 1) (.seq (.ix (.var 0) (.int 0))) (.cons (.ite (.or (.not (.val (.call "_law_is_pair" (.cons (.var 1) (.cons (.int 2) .nil))))) (.or (.not (.val (.call "_law_is_name" (.cons (.ix (.var 1) (.int 0)) .nil)))) (.not (.isi (.ix (.var 1) (.int 1)) [(.bt "str")])))) (.cons (.ret (.bl false)) .nil) .nil) (.cons (.ite (.cmp .NotIn (.ix (.var 1) (.int 1)) (.tup (.cons (.str "open") (.cons (.str "closed") .nil)))) (.cons (.ret (.bl false)) .nil) .nil) .nil))) (.cons (.asg (.name 2) (.lc true (.ix (.var 1) (.int 0)) (.name 1) (.seq (.ix (.var 0) (.int 0))) .nil [("each", 1)])) (.cons (.ite (.or (.cmp .NotEq (.fn .len true (.cons (.sortset true (.var 2)) .nil)) (.fn .len true (.cons (.var 2) .nil))) (.or (.not (.isi (.ix (.var 0) (.int 1)) [(.bt "tuple")])) (.cmp .Gt (.fn .len true (.cons (.ix (.var 0) (.int 1)) .nil)) (.int 24)))) (.cons (.ret (.bl false)) .nil) .nil) (.cons (.for_ (.name 1) (.seq (.ix (.var 0) (.int 1))) (.cons (.ite (.or (.not (.val (.call "_law_is_pair" (.cons (.var 1) (.cons (.int 3) .nil))))) (.or (.not (.val (.call "_law_is_name" (.cons (.ix (.var 1) (.int 0)) .nil)))) (.or (.not (.isi (.ix (.var 1) (.int 1)) [(.bt "tuple")])) (.cmp .Gt (.fn .len true (.cons (.ix (.var 1) (.int 1)) .nil)) (.int 3))))) (.cons (.ret (.bl false)) .nil) .nil) (.cons (.ite (.not (.val (.fn .all true (.cons (.lc true (.tst (.and (.isi (.var 3) [(.bt "str")]) (.cmp .In (.var 3) (.var 2)))) (.name 3) (.seq (.bin .Add true (.ix (.var 1) (.int 1)) (.tup (.cons (.ix (.var 1) (.int 2)) .nil)))) .nil [("arg", 3)]) .nil)))) (.cons (.ret (.bl false)) .nil) .nil) .nil))) (.cons (.setLc 4 true (.ix (.var 1) (.int 0)) (.name 1) (.seq (.ix (.var 0) (.int 1))) .nil [("each", 1)]) (.cons (.ret (.tst (.and (.cmp .Eq (.fn .len true (.cons (.sortset true (.var 4)) .nil)) (.fn .len true (.cons (.var 4) .nil))) (.cmp .Eq (.fn .len true (.cons (.call "_law_living" (.cons (.var 0) .nil)) .nil)) (.fn .len true (.cons (.var 2) .nil)))))) .nil))))))) }
def f_law_makers : CFun := { ps := ["sig", "kind"], N := ["sig", "kind", "name", "args", "own"], body :=
  (.cons (.ret (.lc true (.tup (.cons (.var 2) (.cons (.var 3) .nil))) (.tup (.cons (.name 2) (.cons (.name 3) (.cons (.name 4) .nil)))) (.seq (.ix (.var 0) (.int 1))) (.cons (.cmp .Eq (.var 4) (.var 1)) .nil) [("name", 2), ("args", 3), ("own", 4)])) .nil) }
def f_law_is_open : CFun := { ps := ["sig", "kind"], N := ["sig", "kind"], body :=
  (.cons (.ret (.tst (.cmp .In (.tup (.cons (.var 1) (.cons (.str "open") .nil))) (.ix (.var 0) (.int 0))))) .nil) }
def f_law_is_small : CFun := { ps := ["sig", "kind"], N := ["sig", "kind", "ways", "way", "name", "args", "arg"], body :=
  (.cons (.asg (.name 2) (.lst false (.cons (.tup (.cons (.var 1) .nil)) .nil))) (.cons (.while_ (.cmp .NotEq (.var 2) (.lst true .nil)) (.cons (.asg (.name 3) (.bm .pop0 (.var 2) .nil)) (.cons (.ite (.val (.call "_law_is_open" (.cons (.var 0) (.cons (.ix (.var 3) (.neg (.int 1))) .nil)))) (.cons (.ret (.bl false)) .nil) .nil) (.cons (.for_ (.tup (.cons (.name 4) (.cons (.name 5) .nil))) (.seq (.call "_law_makers" (.cons (.var 0) (.cons (.ix (.var 3) (.neg (.int 1))) .nil)))) (.cons (.for_ (.name 6) (.seq (.var 5)) (.cons (.ite (.cmp .In (.var 6) (.var 3)) (.cons (.ret (.bl false)) .nil) .nil) (.cons (.expr (.bm .append (.var 2) (.cons (.bin .Add true (.var 3) (.tup (.cons (.var 6) .nil))) .nil))) .nil))) .nil)) .nil)))) (.cons (.ret (.bl true)) .nil))) }
def f_law_some_sig : CFun := { ps := ["well"], N := ["well", "way"], body :=
  (.cons (.asg (.name 1) (.call "_law_draw" (.cons (.var 0) (.cons (.int 6) .nil)))) (.cons (.ite (.cmp .Eq (.var 1) (.int 0)) (.cons (.ret (.tup (.cons (.tup (.cons (.tup (.cons (.str "count") (.cons (.str "closed") .nil))) (.cons (.tup (.cons (.str "truth") (.cons (.str "closed") .nil))) (.cons (.tup (.cons (.str "type") (.cons (.str "open") .nil))) (.cons (.tup (.cons (.str "row") (.cons (.str "closed") .nil))) .nil))))) (.cons (.tup (.cons (.tup (.cons (.str "z") (.cons (.tup .nil) (.cons (.str "count") .nil)))) (.cons (.tup (.cons (.str "s") (.cons (.tup (.cons (.str "count") .nil)) (.cons (.str "count") .nil)))) (.cons (.tup (.cons (.str "yes") (.cons (.tup .nil) (.cons (.str "truth") .nil)))) (.cons (.tup (.cons (.str "no") (.cons (.tup .nil) (.cons (.str "truth") .nil)))) (.cons (.tup (.cons (.str "int") (.cons (.tup .nil) (.cons (.str "type") .nil)))) (.cons (.tup (.cons (.str "ptr") (.cons (.tup (.cons (.str "type") .nil)) (.cons (.str "type") .nil)))) (.cons (.tup (.cons (.str "nil") (.cons (.tup .nil) (.cons (.str "row") .nil)))) (.cons (.tup (.cons (.str "cons") (.cons (.tup (.cons (.str "type") (.cons (.str "row") .nil))) (.cons (.str "row") .nil)))) .nil))))))))) .nil)))) .nil) .nil) (.cons (.ite (.cmp .Eq (.var 1) (.int 1)) (.cons (.ret (.tup (.cons (.tup (.cons (.tup (.cons (.str "bit") (.cons (.str "closed") .nil))) (.cons (.tup (.cons (.str "nat") (.cons (.str "closed") .nil))) (.cons (.tup (.cons (.str "pair") (.cons (.str "closed") .nil))) .nil)))) (.cons (.tup (.cons (.tup (.cons (.str "o") (.cons (.tup .nil) (.cons (.str "bit") .nil)))) (.cons (.tup (.cons (.str "i") (.cons (.tup .nil) (.cons (.str "bit") .nil)))) (.cons (.tup (.cons (.str "z") (.cons (.tup .nil) (.cons (.str "nat") .nil)))) (.cons (.tup (.cons (.str "s") (.cons (.tup (.cons (.str "nat") .nil)) (.cons (.str "nat") .nil)))) (.cons (.tup (.cons (.str "p") (.cons (.tup (.cons (.str "bit") (.cons (.str "nat") .nil))) (.cons (.str "pair") .nil)))) (.cons (.tup (.cons (.str "q") (.cons (.tup (.cons (.str "pair") (.cons (.str "bit") .nil))) (.cons (.str "pair") .nil)))) .nil))))))) .nil)))) .nil) .nil) (.cons (.ite (.cmp .Eq (.var 1) (.int 2)) (.cons (.ret (.tup (.cons (.tup (.cons (.tup (.cons (.str "type") (.cons (.str "open") .nil))) (.cons (.tup (.cons (.str "opt") (.cons (.str "closed") .nil))) (.cons (.tup (.cons (.str "size") (.cons (.str "open") .nil))) .nil)))) (.cons (.tup (.cons (.tup (.cons (.str "int") (.cons (.tup .nil) (.cons (.str "type") .nil)))) (.cons (.tup (.cons (.str "fn") (.cons (.tup (.cons (.str "type") (.cons (.str "type") .nil))) (.cons (.str "type") .nil)))) (.cons (.tup (.cons (.str "none") (.cons (.tup .nil) (.cons (.str "opt") .nil)))) (.cons (.tup (.cons (.str "some") (.cons (.tup (.cons (.str "type") .nil)) (.cons (.str "opt") .nil)))) (.cons (.tup (.cons (.str "arr") (.cons (.tup (.cons (.str "type") (.cons (.str "size") .nil))) (.cons (.str "type") .nil)))) .nil)))))) .nil)))) .nil) .nil) (.cons (.ite (.cmp .Eq (.var 1) (.int 3)) (.cons (.ret (.tup (.cons (.tup (.cons (.tup (.cons (.str "t") (.cons (.str "closed") .nil))) (.cons (.tup (.cons (.str "u") (.cons (.str "closed") .nil))) (.cons (.tup (.cons (.str "w") (.cons (.str "closed") .nil))) .nil)))) (.cons (.tup (.cons (.tup (.cons (.str "a") (.cons (.tup .nil) (.cons (.str "t") .nil)))) (.cons (.tup (.cons (.str "b") (.cons (.tup .nil) (.cons (.str "t") .nil)))) (.cons (.tup (.cons (.str "c") (.cons (.tup .nil) (.cons (.str "t") .nil)))) (.cons (.tup (.cons (.str "m") (.cons (.tup (.cons (.str "t") (.cons (.str "t") .nil))) (.cons (.str "u") .nil)))) (.cons (.tup (.cons (.str "e") (.cons (.tup .nil) (.cons (.str "u") .nil)))) (.cons (.tup (.cons (.str "n") (.cons (.tup (.cons (.str "u") .nil)) (.cons (.str "w") .nil)))) .nil))))))) .nil)))) .nil) .nil) (.cons (.ite (.cmp .Eq (.var 1) (.int 4)) (.cons (.ret (.tup (.cons (.tup (.cons (.tup (.cons (.str "ev") (.cons (.str "closed") .nil))) (.cons (.tup (.cons (.str "od") (.cons (.str "closed") .nil))) (.cons (.tup (.cons (.str "t") (.cons (.str "closed") .nil))) (.cons (.tup (.cons (.str "x") (.cons (.str "open") .nil))) .nil))))) (.cons (.tup (.cons (.tup (.cons (.str "z") (.cons (.tup .nil) (.cons (.str "ev") .nil)))) (.cons (.tup (.cons (.str "se") (.cons (.tup (.cons (.str "od") .nil)) (.cons (.str "ev") .nil)))) (.cons (.tup (.cons (.str "so") (.cons (.tup (.cons (.str "ev") .nil)) (.cons (.str "od") .nil)))) (.cons (.tup (.cons (.str "a") (.cons (.tup .nil) (.cons (.str "t") .nil)))) (.cons (.tup (.cons (.str "b") (.cons (.tup .nil) (.cons (.str "t") .nil)))) (.cons (.tup (.cons (.str "k") (.cons (.tup (.cons (.str "t") (.cons (.str "x") .nil))) (.cons (.str "x") .nil)))) .nil))))))) .nil)))) .nil) .nil) (.cons (.ret (.tup (.cons (.tup (.cons (.tup (.cons (.str "n") (.cons (.str "closed") .nil))) .nil)) (.cons (.tup (.cons (.tup (.cons (.str "z") (.cons (.tup .nil) (.cons (.str "n") .nil)))) (.cons (.tup (.cons (.str "s") (.cons (.tup (.cons (.str "n") .nil)) (.cons (.str "n") .nil)))) (.cons (.tup (.cons (.str "d") (.cons (.tup (.cons (.str "n") (.cons (.str "n") .nil))) (.cons (.str "n") .nil)))) .nil)))) .nil)))) .nil))))))) }
def f_law_turned : CFun := { ps := ["well", "sig"], N := ["well", "sig"], body :=
  (.cons (.ret (.tup (.cons (.fn .tuple true (.cons (.call "_law_mixed" (.cons (.var 0) (.cons (.ix (.var 1) (.int 0)) .nil))) .nil)) (.cons (.fn .tuple true (.cons (.call "_law_mixed" (.cons (.var 0) (.cons (.ix (.var 1) (.int 1)) .nil))) .nil)) .nil)))) .nil) }
def f_law_sig : CFun := { ps := ["well"], N := ["well"], body :=
  (.cons (.ret (.call "_law_turned" (.cons (.var 0) (.cons (.call "_law_some_sig" (.cons (.var 0) .nil)) .nil)))) .nil) }
def f_law_things : CFun := { ps := ["well", "sig"], N := ["well", "sig", "kinds", "makers", "name", "word", "at", "own", "args", "made", "some", "many", "k", "more", "ring"], body :=
  (.cons (.asg (.tup (.cons (.name 2) (.cons (.name 3) .nil))) (.var 1)) (.cons (.asg (.tup (.cons (.name 4) (.cons (.name 5) .nil))) (.call "_law_one" (.cons (.var 0) (.cons (.var 2) .nil)))) (.cons (.asg (.name 6) (.call "_law_draw" (.cons (.var 0) (.cons (.fn .len true (.cons (.var 3) .nil)) .nil)))) (.cons (.asg (.tup (.cons (.name 7) (.cons (.name 8) (.cons (.name 9) .nil)))) (.ix (.var 3) (.var 6))) (.cons (.asg (.name 10) (.lst true (.cons (.var 1) (.cons (.fn .list true (.cons (.var 1) .nil)) (.cons (.tup (.cons (.var 2) .nil)) (.cons (.tup (.cons (.fn .list true (.cons (.var 2) .nil)) (.cons (.var 3) .nil))) (.cons (.tup (.cons (.var 2) (.cons (.fn .list true (.cons (.var 3) .nil)) .nil))) (.cons (.tup (.cons (.var 2) (.cons (.tup .nil) .nil))) (.cons (.tup (.cons (.tup .nil) (.cons (.var 3) .nil))) (.cons (.bin .Add true (.var 1) (.tup (.cons (.tup .nil) .nil))) .nil)))))))))) (.cons (.asg (.name 10) (.bin .Add true (.var 10) (.lst true (.cons (.tup (.cons (.bin .Add true (.var 2) (.tup (.cons (.tup (.cons (.str "new") (.cons (.str "closed") .nil))) .nil))) (.cons (.var 3) .nil))) (.cons (.tup (.cons (.bin .Add true (.var 2) (.tup (.cons (.tup (.cons (.str "new") (.cons (.str "open") .nil))) .nil))) (.cons (.var 3) .nil))) (.cons (.tup (.cons (.bin .Add true (.var 2) (.slc true (.var 2) .no (.yes (.int 1)))) (.cons (.var 3) .nil))) .nil)))))) (.cons (.asg (.name 10) (.bin .Add true (.var 10) (.lst true (.cons (.tup (.cons (.bin .Add true (.var 2) (.tup (.cons (.tup (.cons (.str "new") (.cons (.str "closed") .nil))) .nil))) (.cons (.bin .Add true (.var 3) (.tup (.cons (.tup (.cons (.str "mk") (.cons (.tup (.cons (.str "new") .nil)) (.cons (.str "new") .nil)))) .nil))) .nil))) (.cons (.tup (.cons (.bin .Add true (.var 2) (.tup (.cons (.tup (.cons (.str "new") (.cons (.str "shut") .nil))) .nil))) (.cons (.var 3) .nil))) .nil))))) (.cons (.asg (.name 10) (.bin .Add true (.var 10) (.lst true (.cons (.tup (.cons (.var 2) (.cons (.bin .Add true (.var 3) (.slc true (.var 3) .no (.yes (.int 1)))) .nil))) (.cons (.tup (.cons (.var 2) (.cons (.bin .Add true (.var 3) (.tup (.cons (.tup (.cons (.str "mk") (.cons (.tup (.cons (.var 4) (.cons (.var 4) (.cons (.var 4) .nil)))) (.cons (.var 4) .nil)))) .nil))) .nil))) (.cons (.tup (.cons (.slc true (.var 2) (.yes (.int 1)) .no) (.cons (.var 3) .nil))) .nil)))))) (.cons (.asg (.name 10) (.bin .Add true (.var 10) (.lst true (.cons (.tup (.cons (.var 2) (.cons (.bin .Add true (.var 3) (.tup (.cons (.tup (.cons (.str "mk") (.cons (.bin .Mult true (.tup (.cons (.var 4) .nil)) (.int 4)) (.cons (.var 4) .nil)))) .nil))) .nil))) (.cons (.tup (.cons (.var 2) (.cons (.bin .Add true (.var 3) (.tup (.cons (.tup (.cons (.str "mk") (.cons (.tup (.cons (.str "no_kind") .nil)) (.cons (.var 4) .nil)))) .nil))) .nil))) .nil))))) (.cons (.asg (.name 10) (.bin .Add true (.var 10) (.lst true (.cons (.tup (.cons (.var 2) (.cons (.bin .Add true (.var 3) (.tup (.cons (.tup (.cons (.str "mk") (.cons (.lst true (.cons (.var 4) .nil)) (.cons (.var 4) .nil)))) .nil))) .nil))) (.cons (.tup (.cons (.var 2) (.cons (.bin .Add true (.var 3) (.tup (.cons (.tup (.cons (.str "mk") (.cons (.tup .nil) (.cons (.str "no_kind") .nil)))) .nil))) .nil))) .nil))))) (.cons (.asg (.name 10) (.bin .Add true (.var 10) (.lst true (.cons (.tup (.cons (.var 2) (.cons (.bin .Add true (.var 3) (.tup (.cons (.tup (.cons (.str "1mk") (.cons (.tup .nil) (.cons (.var 4) .nil)))) .nil))) .nil))) (.cons (.tup (.cons (.var 2) (.cons (.bin .Add true (.var 3) (.tup (.cons (.tup (.cons (.bin .Mult true (.str "m") (.int 12)) (.cons (.tup .nil) (.cons (.var 4) .nil)))) .nil))) .nil))) (.cons (.tup (.cons (.var 2) (.cons (.bin .Add true (.slc true (.var 3) .no (.yes (.var 6))) (.slc true (.var 3) (.yes (.bin .Add true (.var 6) (.int 1))) .no)) .nil))) .nil)))))) (.cons (.asg (.name 10) (.bin .Add true (.var 10) (.lst true (.cons (.tup (.cons (.var 2) (.cons (.bin .Add true (.var 3) (.tup (.cons (.tup (.cons (.bin .Mult true (.str "m") (.int 13)) (.cons (.tup .nil) (.cons (.var 4) .nil)))) .nil))) .nil))) (.cons (.tup (.cons (.var 2) (.cons (.bin .Add true (.var 3) (.tup (.cons (.tup (.cons (.str "Mk") (.cons (.tup .nil) (.cons (.var 4) .nil)))) .nil))) .nil))) (.cons (.tup (.cons (.var 2) (.cons (.bin .Add true (.var 3) (.tup (.cons (.tup (.cons (.str "mK") (.cons (.tup .nil) (.cons (.var 4) .nil)))) .nil))) .nil))) (.cons (.tup (.cons (.var 2) (.cons (.bin .Add true (.var 3) (.tup (.cons (.tup (.cons (.str "m k") (.cons (.tup .nil) (.cons (.var 4) .nil)))) .nil))) .nil))) (.cons (.tup (.cons (.var 2) (.cons (.bin .Add true (.var 3) (.tup (.cons (.tup (.cons (.var 4) (.cons (.tup .nil) (.cons (.var 4) .nil)))) .nil))) .nil))) .nil)))))))) (.cons (.asg (.name 11) (.fn .tuple true (.cons (.lc true (.tup (.cons (.bin .Add true (.str "k") (.fn .str true (.cons (.var 12) .nil))) (.cons (.str "open") .nil))) (.name 12) (.range1 (.bin .Sub true (.int 9) (.fn .len true (.cons (.var 2) .nil)))) .nil [("k", 12)]) .nil))) (.cons (.asg (.name 10) (.bin .Add true (.var 10) (.lst true (.cons (.tup (.cons (.bin .Add true (.var 2) (.var 11)) (.cons (.var 3) .nil))) (.cons (.tup (.cons (.bin .Add true (.var 2) (.slc true (.var 11) (.yes (.int 1)) .no)) (.cons (.var 3) .nil))) (.cons (.tup (.cons (.var 2) (.cons (.bin .Add true (.var 3) (.tup (.cons (.tup (.cons (.str "mk") (.cons (.tup .nil) (.cons .non .nil)))) .nil))) .nil))) .nil)))))) (.cons (.asg (.name 13) (.fn .tuple true (.cons (.lc true (.tup (.cons (.bin .Add true (.str "m") (.fn .str true (.cons (.var 12) .nil))) (.cons (.tup .nil) (.cons (.var 4) .nil)))) (.name 12) (.range1 (.bin .Sub true (.int 25) (.fn .len true (.cons (.var 3) .nil)))) .nil [("k", 12)]) .nil))) (.cons (.asg (.name 10) (.bin .Add true (.var 10) (.lst true (.cons (.tup (.cons (.var 2) (.cons (.bin .Add true (.var 3) (.var 13)) .nil))) (.cons (.tup (.cons (.var 2) (.cons (.bin .Add true (.var 3) (.slc true (.var 13) (.yes (.int 1)) .no)) .nil))) (.cons (.tup (.cons (.var 2) (.cons (.bin .Add true (.bin .Add true (.slc true (.var 3) .no (.yes (.var 6))) (.tup (.cons (.tup (.cons (.var 7) (.cons (.var 8) .nil))) .nil))) (.slc true (.var 3) (.yes (.bin .Add true (.var 6) (.int 1))) .no)) .nil))) .nil)))))) (.cons (.asg (.name 14) (.tup (.cons (.tup (.cons (.str "one") (.cons (.str "closed") .nil))) (.cons (.tup (.cons (.str "two") (.cons (.str "closed") .nil))) .nil)))) (.cons (.asg (.name 10) (.bin .Add true (.var 10) (.lst true (.cons (.tup (.cons (.var 14) (.cons (.tup (.cons (.tup (.cons (.str "f") (.cons (.tup (.cons (.str "two") .nil)) (.cons (.str "one") .nil)))) (.cons (.tup (.cons (.str "g") (.cons (.tup (.cons (.str "one") .nil)) (.cons (.str "two") .nil)))) .nil))) .nil))) (.cons (.tup (.cons (.var 14) (.cons (.tup (.cons (.tup (.cons (.str "f") (.cons (.tup (.cons (.str "two") .nil)) (.cons (.str "one") .nil)))) (.cons (.tup (.cons (.str "g") (.cons (.tup .nil) (.cons (.str "two") .nil)))) .nil))) .nil))) .nil))))) (.cons (.ret (.bin .Add true (.var 10) (.lst true (.cons (.call "_law_bent" (.cons (.var 0) (.cons (.var 1) .nil))) (.cons (.call "_law_bent" (.cons (.var 0) (.cons (.var 1) .nil))) (.cons (.call "_law_bent" (.cons (.var 0) (.cons (.var 1) .nil))) (.cons (.call "_law_odd_thing" (.cons (.var 0) .nil)) .nil))))))) .nil))))))))))))))))))) }
def f_law_right : CFun := { ps := ["well"], N := ["well", "turn", "sig", "at", "thing", "due", "told", "kind", "word", "small"], body :=
  (.cons (.for_ (.name 1) (.range1 (.int 2)) (.cons (.asg (.name 2) (.call "_law_sig" (.cons (.var 0) .nil))) (.cons (.for_ (.tup (.cons (.name 3) (.cons (.name 4) .nil))) (.enum (.call "_law_things" (.cons (.var 0) (.cons (.var 2) .nil)))) (.cons (.asg (.name 5) (.call "_law_is_signature" (.cons (.var 4) .nil))) (.cons (.asg (.name 6) (.ifx (.cmp .Eq (.bin .Mod true (.fn .int true (.cons (.var 3) .nil)) (.int 2)) (.int 0)) (.call "is_signature" (.cons (.var 4) .nil)) (.callk "is_signature" .nil ["value"] (.cons (.var 4) .nil)))) (.cons (.ite (.cmp .NotEq (.fn .repr true (.cons (.var 6) .nil)) (.fn .repr true (.cons (.var 5) .nil))) (.cons (.ret (.bl false)) .nil) .nil) (.cons (.for_ (.tup (.cons (.name 7) (.cons (.name 8) .nil))) (.seq (.ifx (.val (.var 5)) (.ix (.var 4) (.int 0)) (.tup .nil))) (.cons (.asg (.name 9) (.call "_law_is_small" (.cons (.var 4) (.cons (.var 7) .nil)))) (.cons (.ite (.cmp .NotEq (.fn .repr true (.cons (.lst true (.cons (.call "is_small" (.cons (.var 4) (.cons (.var 7) .nil))) (.cons (.callk "is_small" .nil ["kind", "signature"] (.cons (.var 7) (.cons (.var 4) .nil))) .nil))) .nil)) (.fn .repr true (.cons (.lst true (.cons (.var 9) (.cons (.var 9) .nil))) .nil))) (.cons (.ret (.bl false)) .nil) .nil) .nil))) .nil))))) .nil))) (.cons (.ret (.bl true)) .nil)) }
end RX.Lw
set_option Elab.async false
set_option linter.all false
set_option maxRecDepth 1000000
set_option maxHeartbeats 4000000
/-! LW1: contracts of the draws. -/
namespace RX.Lw
open PySem PySem.Spec PyProof.Rows L2 RX RX.Sg
local macro_rules | `(tactic| walk_at "w") => `(tactic| ((conv => whnf); repeat ((first | refine bT rfl ?_ | refine bF rfl ?_ | refine ⟨_, rfl, ?_⟩ | refine ⟨_, _, rfl, rfl, ?_⟩ | refine ⟨_, _, rfl, ?_⟩ | refine ⟨rfl, ?_⟩ | refine szA rfl ?_ | refine ⟨by decide, ?_⟩); (conv => whnf))))
abbrev wl (a b c : Int) : DO := .lst [.int a, .int b, .int c]
structure DrL (L : Law) : Prop where
  draw : L.T ("_law_draw", none) = some f_law_draw
  one : L.T ("_law_one", none) = some f_law_one
  mixed : L.T ("_law_mixed", none) = some f_law_mixed
section
variable {L : Law} (S : DrL L)
include S
theorem ct_draw {n : Nat} {w : Addr} {a b c few : Int} {M : MM} {Q : DV} {E : XD} (h : M w = some (wl a b c)) (h1 : 0 < few) (h2 : few < 1073741824) (q : ∀ d a' b' c', 0 ≤ d → d < few → Q (.int d) (up M w (wl a' b' c'))) : L.cl (n + 1) ("_law_draw", none) [.ref w, .int few] M Q E := by
  rw [Law.stp S.draw]
  walk_at "w"
  refine .inl ⟨_, _, _, lsOf_ref h, rfl, rfl, ?_⟩
  walk_at "w"
  by_cases hp : 0 < a
  · refine bT (decide_eq_true hp) ?_
    walk_at "w"
    refine .inl ⟨_, _, _, lsOf_ref h, rfl, rfl, ?_⟩
    walk_at "w"
    refine ⟨⟨h1, h2⟩, ?_⟩
    walk_at "w"
    refine ⟨_, _, h, rfl, ?_⟩
    walk_at "w"
    exact rt_ (q _ _ _ _ (Int.emod_nonneg _ (by omega)) (Int.emod_lt_of_pos _ h1))
  · refine bF (decide_eq_false hp) ?_
    walk_at "w"
    refine .inl ⟨_, _, _, lsOf_ref h, rfl, rfl, ?_⟩
    walk_at "w"
    refine ⟨_, _, h, rfl, ?_⟩
    walk_at "w"
    refine .inl ⟨_, _, _, lsOf_ref up_same, rfl, rfl, ?_⟩
    walk_at "w"
    refine ⟨.inr (by decide), ?_⟩
    walk_at "w"
    refine .inl ⟨_, _, _, lsOf_ref up_same, rfl, rfl, ?_⟩
    walk_at "w"
    refine ⟨.inl (by decide), ?_⟩
    walk_at "w"
    generalize hm : (b * 48271 + 18013 * (c + 1)) % 2147483543 = mx
    refine ⟨.inr (by omega), ?_⟩
    walk_at "w"
    refine .inl ⟨_, _, _, lsOf_ref up_same, rfl, rfl, ?_⟩
    walk_at "w"
    refine ⟨_, _, up_same, rfl, ?_⟩
    walk_at "w"
    refine .inl ⟨_, _, _, lsOf_ref up_same, rfl, rfl, ?_⟩
    walk_at "w"
    refine ⟨⟨by decide, by decide⟩, ?_⟩
    walk_at "w"
    refine ⟨h1, ?_⟩
    rw [up_up]
    exact rt_ (q _ _ _ _ (Int.emod_nonneg _ (by omega)) (Int.emod_lt_of_pos _ h1))
theorem ct_one {n : Nat} {w : Addr} {a b c : Int} {ds : List D} {M : MM} {Q : DV} {E : XD} (h : M w = some (wl a b c)) (h1 : ds ≠ []) (h2 : ds.length < 1073741824) (q : ∀ d ∈ ds, ∀ a' b' c', Q d (up M w (wl a' b' c'))) : L.cl (n + 2) ("_law_one", none) [.ref w, .tup ds] M Q E := by
  rw [Law.stp S.one]
  walk_at "w"
  have hl : 0 < ds.length := List.length_pos_iff.mpr h1
  refine ct_draw S h (by omega) (by omega) fun d a' b' c' d0 d1 => ?_
  walk_at "w"
  have hk : d.toNat < ds.length := by omega
  refine ⟨ds[d.toNat], ?_, rt_ (q _ (List.getElem_mem hk) _ _ _)⟩
  have := atI_nat (xs := ds) (k := d.toNat) (List.getElem?_eq_getElem hk)
  rw [show ((d.toNat : Nat) : Int) = d from Int.toNat_of_nonneg d0] at this
  exact this
end
/-- plain data -/
def Pd (d : D) : Prop := ∃ p, (∀ M, Vw M d p) ∧ PyData.canLay0 p = true ∧ PyData.depth p ≤ 20
theorem pd_list {M : MM} : ∀ {ds : List D}, (∀ d ∈ ds, Pd d) → ∃ ps, VwL M ds ps ∧ PyData.canLayAll0 ps = true ∧ PyData.depthAll ps ≤ 20 ∧ ps.length = ds.length
  | [], _ => ⟨[], .nil, rfl, by simp [PyData.depthAll], rfl⟩
  | d :: ds, h => by
    obtain ⟨p, h1, h2, h3⟩ := h d (by simp)
    obtain ⟨ps, g1, g2, g3, g4⟩ := pd_list (M := M) (ds := ds) fun x hx => h x (List.mem_cons_of_mem _ hx)
    refine ⟨p :: ps, .cons (h1 M) g1, ?_, ?_, by simp [g4]⟩
    · simp only [PyData.canLayAll0, h2, g2, Bool.and_self]
    · simp only [PyData.depthAll]
      omega
theorem eqr_ref {M : MM} {l : Addr} {ds : List D} (h : M l = some (.lst ds)) (hp : ∀ d ∈ ds, Pd d) : EqR M (.ref l) (.lst []) ds.isEmpty := by
  obtain ⟨ps, h1, h2, h3, h4⟩ := pd_list (M := M) hp
  have sh : SeqAt.shaped (.list ps) = true := by
    unfold SeqAt.shaped
    rw [Bool.and_eq_true]
    refine ⟨by simp only [PyData.canLay0]; exact h2, decide_eq_true ?_⟩
    simp only [PyData.depth]
    omega
  have e := EqR.dat (M := M) (Vw.ref h h1) (Vw.lst .nil) sh (shNames (l := []) (by simp))
  have e2 : PyData.eqv (.list ps) (.list []) = ds.isEmpty := by
    cases ds with
    | nil => cases ps with
      | nil => simp [PyData.eqv, PyData.eqvAll]
      | cons _ _ => simp at h4
    | cons _ _ => cases ps with
      | nil => simp at h4
      | cons _ _ => simp [PyData.eqv, PyData.eqvAll]
  rw [e2] at e
  exact e
theorem erase_perm' {α : Type} : ∀ (l : List α) (i : Nat) (y : α), l[i]? = some y → (y :: l.eraseIdx i).Perm l
  | [], i, y, e => by simp at e
  | a :: l, 0, y, e => by
    simp at e
    subst e
    exact .refl _
  | a :: l, i + 1, y, e => by
    have q := erase_perm' l i y (by simpa using e)
    exact (List.Perm.swap a y _).trans (q.cons a)
section
variable {L : Law} (S : DrL L)
include S
theorem ct_mixed {n : Nat} {w : Addr} {a b c : Int} {ds : List D} {M : MM} {Q : DV} {E : XD} (h : M w = some (wl a b c)) (h2 : ds.length ≤ 1000) (hp : ∀ d ∈ ds, Pd d) (q : ∀ es : List D, es.Perm ds → ∀ a' b' c', Q (.lst es) (up M w (wl a' b' c'))) : L.cl (n + 2) ("_law_mixed", none) [.ref w, .tup ds] M Q E := by
  rw [Law.stp S.mixed]
  walk_at "w"
  intro l hl
  walk_at "w"
  intro f hf
  have nlf : l ≠ f := fun e => by rw [← e, up_same] at hf; cases hf
  have nwl : w ≠ l := fun e => by rw [← e, h] at hl; cases hl
  have hf0 : M f = none := by rw [up_ne (Ne.symm nlf)] at hf; exact hf
  have nwf : w ≠ f := fun e => by rw [← e, h] at hf0; cases hf0
  walk_at "w"
  refine ⟨_, wh_inv (fun n σ M' => ∃ (dl df : List D) (a b c : Int), σ = [some (.ref w), some (.tup ds), some (.ref l), some (.ref f)] ∧ M' l = some (.lst dl) ∧ M' f = some (.lst df) ∧ M' w = some (wl a b c) ∧ (df ++ dl).Perm ds ∧ dl.length ≤ n ∧ ∀ x, x ≠ l → x ≠ f → x ≠ w → M' x = M x) ?_ ds.length _ _
    ⟨ds, [], a, b, c, rfl, (up_ne nlf).trans up_same, up_same, (up_ne nwf).trans ((up_ne nwl).trans h), .refl _, Nat.le_refl _, fun x h1 h2 h3 => (up_ne h2).trans (up_ne h1)⟩⟩
  intro n K σ M' hK ⟨dl, df, a, b, c, eσ, e1, e2, e3, pm, hn, ho⟩
  subst eσ
  have lp := pm.length_eq
  rw [List.length_append] at lp
  walk_at "w"
  refine ⟨_, eqr_ref e1 (fun d hd => hp d (pm.mem_iff.mp (List.mem_append_right _ hd))), ?_⟩
  cases dl with
  | nil =>
    walk_at "w"
    refine ⟨f, df, rfl, e2, ?_⟩
    refine ⟨up M w (wl a b c), fun x o hx => ?_, q df (by simpa using pm) a b c⟩
    by_cases hxw : x = w
    · subst hxw
      rw [up_same] at hx
      cases hx
      unfold del
      rw [if_neg nwf]
      exact e3
    · rw [up_ne hxw] at hx
      have hxl : x ≠ l := fun e => by rw [e, hl] at hx; cases hx
      have hxf : x ≠ f := fun e => by rw [e, hf0] at hx; cases hx
      unfold del
      rw [if_neg hxf, ho x hxl hxf hxw]
      exact hx
  | cons y ys =>
    walk_at "w"
    refine ⟨⟨_, lsOf_ref e2⟩, ?_⟩
    walk_at "w"
    refine ⟨⟨_, lsOf_ref e1⟩, ?_⟩
    walk_at "w"
    refine .inl ⟨_, lsOf_ref e1, ?_⟩
    walk_at "w"
    simp only [List.length_cons] at lp hn
    refine ct_draw S e3 (by simp only [List.length_cons]; omega) (by simp only [List.length_cons]; omega) fun d a' b' c' d0 d1 => ?_
    simp only [List.length_cons] at d1
    walk_at "w"
    have hk : d.toNat < (y :: ys).length := by simp only [List.length_cons]; omega
    have ed : ((d.toNat : Nat) : Int) = d := Int.toNat_of_nonneg d0
    refine ⟨l, y :: ys, d.toNat, (y :: ys)[d.toNat], rfl, (up_ne (Ne.symm nwl)).trans e1, by rw [ed], by omega, List.getElem?_eq_getElem hk, ?_⟩
    walk_at "w"
    refine ⟨f, df, rfl, (up_ne (Ne.symm nlf)).trans ((up_ne (Ne.symm nwf)).trans e2), by simp only [sizeLine]; omega, ?_⟩
    walk_at "w"
    have pe := erase_perm' (y :: ys) d.toNat _ (List.getElem?_eq_getElem hk)
    have le := pe.length_eq
    simp only [List.length_cons] at le
    cases n with
    | zero => omega
    | succ n' =>
      refine hK n' _ _ rfl ⟨(y :: ys).eraseIdx d.toNat, df ++ [(y :: ys)[d.toNat]], a', b', c', rfl, (up_ne nlf).trans up_same, up_same, (up_ne nwf).trans ((up_ne nwl).trans up_same), ?_, by omega, fun x h1 h2 h3 => ?_⟩
      · rw [List.append_assoc]
        exact (List.Perm.append_left df pe).trans pm
      · rw [up_ne h2, up_ne h1, up_ne h3]
        exact ho x h1 h2 h3
end
end RX.Lw
set_option Elab.async false
set_option linter.all false
set_option maxRecDepth 1000000
set_option maxHeartbeats 4000000
/-! LW2: the law's own look at signatures. -/
namespace RX.Lw
open PySem PySem.Spec PyProof.Rows L2 RX RX.Sg
local macro_rules | `(tactic| walk_at "w") => `(tactic| ((conv => whnf); repeat ((first | refine bT rfl ?_ | refine bF rfl ?_ | refine ⟨_, rfl, ?_⟩ | refine ⟨_, _, rfl, rfl, ?_⟩ | refine ⟨_, _, rfl, ?_⟩ | refine ⟨rfl, ?_⟩ | refine szA rfl ?_ | refine ⟨by decide, ?_⟩); (conv => whnf))))
theorem nodup_len : ∀ {l l' : List Str}, l.Nodup → (∀ x ∈ l, x ∈ l') → l.length ≤ l'.length
  | [], _, _, _ => Nat.zero_le _
  | x :: l, l', nd, h => by
    obtain ⟨n1, n2⟩ := List.nodup_cons.mp nd
    have hx := h x (by simp)
    have := nodup_len (l := l) (l' := l'.erase x) n2 fun y hy => by
      have ne : y ≠ x := fun e => n1 (e ▸ hy)
      exact (List.mem_erase_of_ne ne).mpr (h y (List.mem_cons_of_mem _ hy))
    rw [List.length_erase_of_mem hx] at this
    have hp : 0 < l'.length := List.length_pos_of_mem hx
    simp only [List.length_cons]
    omega
theorem nodup_full {l l' : List Str} (nd : l.Nodup) (h : ∀ x ∈ l, x ∈ l') (hl : l'.length ≤ l.length) : ∀ x ∈ l', x ∈ l := fun x hx => by
  apply Classical.byContradiction
  intro hn
  have := nodup_len (l := x :: l) (l' := l') (List.nodup_cons.mpr ⟨hn, nd⟩) fun y hy => by
    rcases List.mem_cons.mp hy with e | e
    · rw [e]; exact hx
    · exact h y e
  simp only [List.length_cons] at this
  omega
theorem rngD_len : ∀ (n : Nat) (lo : Int), (rngD lo n).length = n
  | 0, _ => rfl
  | n + 1, lo => by
    show (rngD (lo + 1) n).length + 1 = n + 1
    rw [rngD_len n]
theorem up_self {M : MM} {p : Addr} {o : DO} (h : M p = some o) : up M p o = M := by
  funext b
  unfold up
  split
  · rename_i e
    rw [e, h]
  · rfl
def pairB (k : Nat) : D → Bool
  | .tup ds => decide (ds.length = k)
  | _ => false
structure LkL (L : Law) : Prop where
  is_name : L.T ("_law_is_name", none) = some f_law_is_name
  is_pair : L.T ("_law_is_pair", none) = some f_law_is_pair
  living : L.T ("_law_living", none) = some f_law_living
  is_signature : L.T ("_law_is_signature", none) = some f_law_is_signature
  makers : L.T ("_law_makers", none) = some f_law_makers
  is_open : L.T ("_law_is_open", none) = some f_law_is_open
  is_small : L.T ("_law_is_small", none) = some f_law_is_small
section
variable {L : Law} (S : LkL L)
include S
theorem ct_lname {n : Nat} {x : D} {M : MM} {Q : DV} {E : XD} (t : Tm M x) (q : Q (.bl (nameD x)) M) : L.cl (n + 1) ("_law_is_name", none) [x] M Q E := by
  rw [Law.stp S.is_name]
  rcases t.ty with ⟨z, rfl, hl⟩ | ⟨h, ty, e, hn⟩
  · have hs : z.length ≤ sizeLine := Nat.le_trans hl (by decide)
    have q : Q (.bl (nameOk z)) M := q
    walk_at "w"
    refine ⟨hs, ?_⟩
    walk_at "w"
    by_cases h1 : 1 ≤ z.length
    · refine bT (decide_eq_true (by omega)) ?_
      walk_at "w"
      by_cases h2 : z.length ≤ 12
      · have hk : decide ((z.length : Int) ≤ 12) = true := decide_eq_true (by omega)
        refine bF (by rw [hk]; rfl) ?_
        have ⟨c, r, hz⟩ : ∃ c r, z.cps.toList = c :: r := by
          cases e : z.cps.toList with
          | nil => exfalso; unfold Str.length at h1; rw [← Array.length_toList, e] at h1; cases h1
          | cons c r => exact ⟨c, r, rfl⟩
        walk_at "w"
        refine ⟨c, hs, by rw [hz]; exact atI_0, ?_⟩
        walk_at "w"
        have e1 : inS ⟨#[c]⟩ "abcdefghijklmnopqrstuvwxyz" = decide (c ∈ lettersS.cps.toList) := inS_one c lettersS
        by_cases h3 : c ∈ lettersS.cps.toList
        · refine bF (by rw [e1, decide_eq_true h3]; rfl) ?_
          walk_at "w"
          refine lc_str signOk trivial hs (fun c Y N y => ?_) ?_
          · walk_at "w"
            have e2 : inS ⟨#[c]⟩ "abcdefghijklmnopqrstuvwxyz0123456789_" = signOk c := inS_one c restS
            rw [e2]
            exact y
          · walk_at "w"
            refine rt_ ?_
            have e : nameOk z = z.cps.toList.all signOk := by
              unfold nameOk
              rw [hz, decide_eq_true h1, decide_eq_true h2]
              simp only [decide_eq_true h3, Bool.and_self, Bool.true_and]
            rw [e] at q
            rw [List.all_map]
            exact q
        · refine bT (by rw [e1, decide_eq_false h3]; rfl) ?_
          walk_at "w"
          refine rt_ ?_
          have e : nameOk z = false := by unfold nameOk; rw [hz]; simp [h3]
          rw [e] at q
          exact q
      · have hk : decide ((z.length : Int) ≤ 12) = false := decide_eq_false (by omega)
        refine bT (by rw [hk]; rfl) ?_
        walk_at "w"
        refine rt_ ?_
        have e : nameOk z = false := by unfold nameOk; simp [h2]
        rw [e] at q
        exact q
    · refine bF (decide_eq_false (by omega)) ?_
      walk_at "w"
      refine rt_ ?_
      have e : nameOk z = false := by unfold nameOk; simp [h1]
      rw [e] at q
      exact q
  · walk_at "w"
    refine ⟨_, e, ?_⟩
    refine bT (by rw [isi_str hn]; rfl) ?_
    walk_at "w"
    have e2 : nameD x = false := by
      unfold nameD
      split
      · exact absurd rfl (h _)
      · rfl
    rw [e2] at q
    exact rt_ q
theorem ct_lpair {n : Nat} {x : D} {k : Nat} {M : MM} {Q : DV} {E : XD} (t : Tm M x) (q : Q (.bl (pairB k x)) M) : L.cl (n + 1) ("_law_is_pair", none) [x, .int k] M Q E := by
  rw [Law.stp S.is_pair]
  rcases t.tupOr with ⟨ds, rfl, hl, ht⟩ | ⟨h, ty, e, hn⟩
  · walk_at "w"
    refine rt_ ?_
    have e : decide ((ds.length : Int) = (k : Int)) = pairB k (.tup ds) := by
      show _ = decide (ds.length = k)
      exact decide_eq_decide.mpr ⟨fun h => by omega, fun h => by omega⟩
    rw [e]
    exact q
  · walk_at "w"
    refine ⟨_, e, ?_⟩
    refine bF (isi_tup hn) ?_
    walk_at "w"
    have e2 : pairB k x = false := by
      unfold pairB
      split
      · exact absurd rfl (h _)
      · rfl
    rw [e2] at q
    exact rt_ q
theorem ct_living {n : Nat} {g : Sig} {M : MM} {Q : DV} {E : XD} (k : MkOk g) (nd : g.ks.Nodup) (q : ∀ f : List Str, f.Nodup → (∀ x, x ∈ f ↔ Made g x) → (∀ x ∈ f, x ∈ g.ks) → Q (.lst (f.map D.str)) M) : L.cl (n + 1) ("_law_living", none) [sigD g] M Q E := by
  rw [Law.stp S.living]
  have z8 := k.kl
  have z24 := k.ml
  walk_at "w"
  refine lc_gen kP (fun p => if p.2 then some (.str p.1) else none) trivial g.kinds [] (by simp only [List.length_nil, sizeLine]; omega) (fun p hp Y N h => ?_) ?_
  · obtain ⟨x, b⟩ := p
    walk_at "w"
    have e := wordD_open b
    refine Bif_of (fun hk => ?_) (fun hk => ?_)
    · rw [e] at hk
      subst hk
      walk_at "w"
      exact h
    · rw [e] at hk
      subst hk
      walk_at "w"
      exact h
  rw [List.nil_append, filterMap_if]
  walk_at "w"
  intro p hp
  have f0 : (g.kinds.filter (·.2)).map (fun p => D.str p.1) = (openS g).map D.str := by unfold openS; rw [List.map_map]; rfl
  rw [f0]
  walk_at "w"
  have n0 : (openS g).Nodup := by
    unfold openS
    exact List.Nodup.sublist ((List.filter_sublist).map _) nd
  have lk : g.ks.length = g.kinds.length := by unfold Sig.ks; rw [List.length_map]
  refine ⟨by omega, by rw [List.length_map]; omega, ?_⟩
  walk_at "w"
  refine fo_all (fun i σ M' => (∃ o2 o3 o4 o5 o6 o7, σ = [some (sigD g), some (.ref p), o2, o3, o4, o5, o6, o7]) ∧ ∃ f : List Str, M' p = some (.lst (f.map D.str)) ∧ LvInv g f ∧ f.Nodup ∧ (freshS g f = [] ∨ i ≤ f.length) ∧ ∀ x, x ≠ p → M' x = M x) ?_ ?_ ?_
    ⟨⟨_, _, _, _, _, _, rfl⟩, openS g, up_same, openS_inv, n0, .inr (Nat.zero_le _), fun x hx => up_ne hx⟩
  · intro i σ M' _
    exact trivial
  · intro i x hx K σ M' ⟨⟨s2, s3, s4, s5, s6, s7, eσ⟩, f, e1, i1, nf, c, ho⟩ hK
    subst eσ
    walk_at "w"
    refine fo_all (fun j σ M' => (∃ o2 o3 o4 o5 o6 o7, σ = [some (sigD g), some (.ref p), o2, o3, o4, o5, o6, o7]) ∧ ∃ e : List Str, M' p = some (.lst ((f ++ e).map D.str)) ∧ LvInv g (f ++ e) ∧ (f ++ e).Nodup ∧ (e ≠ [] → freshS g f ≠ []) ∧ (e = [] → ∀ m ∈ g.makers.take j, fresh1 f m = false) ∧ ∀ x, x ≠ p → M' x = M x) ?_ ?_ ?_
      ⟨⟨_, _, _, _, _, _, rfl⟩, [], by rw [List.append_nil]; exact e1, by rw [List.append_nil]; exact i1, by rw [List.append_nil]; exact nf, fun z => absurd rfl z, fun _ m hm => (by cases hm), ho⟩
    · intro i σ M' _
      exact trivial
    · intro j x hx K σ M' ⟨⟨s2, s3, s4, s5, s6, s7, eσ⟩, e, e1, i1, nf, c1, c2, ho⟩ hK
      subst eσ
      rw [List.getElem?_map] at hx
      obtain ⟨m, hm, rfl⟩ := Option.map_eq_some_iff.mp hx
      obtain ⟨nm, as, y⟩ := m
      have hmem := List.mem_of_getElem? hm
      have hmk := k.mkk _ hmem
      have fl : (f ++ e).length ≤ 8 := by
        have := nodup_len nf i1.ks
        omega
      have yes : fresh1 (f ++ e) (nm, as, y) = true → K [some (sigD g), some (.ref p), some (.str y), s3, s4, some (.str nm), some (.tup (as.map D.str)), s7] (up M' p (.lst ((f ++ e ++ [y]).map D.str))) := fun hf => by
        unfold fresh1 at hf
        rw [Bool.and_eq_true, List.all_eq_true] at hf
        have hy : y ∉ f ++ e := of_decide_eq_true hf.1
        have ha : ∀ a ∈ as, a ∈ f ++ e := fun a ha => of_decide_eq_true (hf.2 a ha)
        refine hK _ _ ⟨⟨_, _, _, _, _, _, rfl⟩, e ++ [y], by rw [up_same, ← List.append_assoc], ⟨fun x hx => ?_, fun x hx => ?_, fun x hx => ?_⟩, ?_, fun _ => ?_, fun z => ?_, fun x hx => by rw [up_ne hx]; exact ho x hx⟩
        · rw [← List.append_assoc] at hx
          rcases List.mem_append.mp hx with z | z
          · exact i1.md x z
          · rw [List.mem_singleton.mp z]
            exact .mk hmem fun a h => i1.md a (ha a h)
        · rw [← List.append_assoc]
          exact List.mem_append_left _ (i1.op x hx)
        · rw [← List.append_assoc] at hx
          rcases List.mem_append.mp hx with z | z
          · exact i1.ks x z
          · rw [List.mem_singleton.mp z]
            exact hmk.1
        · rw [← List.append_assoc]
          refine List.nodup_append.mpr ⟨nf, by simp, fun a h b hb e => hy ?_⟩
          rw [List.mem_singleton.mp hb] at e
          rw [← e]
          exact h
        · by_cases he : e = []
          · subst he
            rw [List.append_nil] at hy ha
            have : y ∈ freshS g f := fresh_mem.mpr ⟨_, hmem, rfl, hy, ha⟩
            exact fun z => by rw [z] at this; cases this
          · exact c1 he
        · simp at z
      have nope : fresh1 (f ++ e) (nm, as, y) = false → K [some (sigD g), some (.ref p), some (.str y), s3, s4, some (.str nm), some (.tup (as.map D.str)), s7] M' := fun hf => by
        refine hK _ _ ⟨⟨_, _, _, _, _, _, rfl⟩, e, e1, i1, nf, c1, fun z m hm2 => ?_, ho⟩
        rw [List.take_add_one, hm] at hm2
        rcases List.mem_append.mp hm2 with h | h
        · exact c2 z m h
        · simp only [Option.toList, List.mem_singleton] at h
          rw [h]
          rw [z, List.append_nil] at hf
          exact hf
      unfold fresh1 at yes nope
      walk_at "w"
      refine .inl ⟨_, _, lsOf_ref e1, inR_str y (f ++ e), ?_⟩
      by_cases hx : y ∈ f ++ e
      · refine bF (by rw [decide_eq_true hx]; rfl) ?_
        walk_at "w"
        refine nope ?_
        rw [decide_eq_false (show ¬ (y ∉ f ++ e) from fun z => z hx)]
        rfl
      · refine bT (by rw [decide_eq_false hx]; rfl) ?_
        rw [decide_eq_true hx, Bool.true_and] at yes nope
        walk_at "w"
        refine lc_genB D.str (fun a => decide (a ∈ f ++ e)) trivial (by have := hmk.2.2; simp only [sizeLine]; simp only at this; omega) (fun a ha Y N h => ?_) ?_
        · walk_at "w"
          refine .inl ⟨_, _, lsOf_ref e1, inR_str a (f ++ e), ?_⟩
          exact h
        · walk_at "w"
          rw [all_id]
          cases ea : as.all (fun a => decide (a ∈ f ++ e)) with
          | true =>
            refine bT rfl ?_
            walk_at "w"
            refine ⟨⟨_, lsOf_ref e1⟩, ?_⟩
            walk_at "w"
            refine ⟨p, _, rfl, e1, by simp only [List.length_map, sizeLine]; omega, ?_⟩
            walk_at "w"
            have := yes ea
            rw [List.map_append] at this
            exact this
          | false =>
            refine bF rfl ?_
            walk_at "w"
            exact nope ea
    · intro σ M' ⟨⟨s2, s3, s4, s5, s6, s7, eσ⟩, e, e1, i1, nf, c1, c2, ho⟩
      subst eσ
      rw [List.length_map, List.take_length] at c2
      refine hK _ _ ⟨⟨_, _, _, _, _, _, rfl⟩, f ++ e, e1, i1, nf, ?_, ho⟩
      by_cases he : e = []
      · left
        rw [he, List.append_nil]
        unfold freshS
        have : g.makers.filter (fresh1 f) = [] := List.filter_eq_nil_iff.mpr fun m hm => by rw [c2 he m hm]; exact Bool.false_ne_true
        rw [this]
        rfl
      · right
        rcases c with c | c
        · exact absurd c (c1 he)
        · have := List.length_pos_iff.mpr he
          rw [List.length_append]
          omega
  · intro σ M' ⟨⟨s2, s3, s4, s5, s6, s7, eσ⟩, f, e1, i1, nf, c, ho⟩
    subst eσ
    rw [rngD_len] at c
    walk_at "w"
    refine ⟨p, _, rfl, e1, ?_⟩
    have cl : freshS g f = [] := by
      rcases c with c | c
      · exact c
      · have full := nodup_full nf i1.ks (by rw [lk]; rw [List.length_map] at c; omega)
        apply Classical.byContradiction
        intro hn
        obtain ⟨x, hx⟩ := List.exists_mem_of_ne_nil _ hn
        obtain ⟨m, h1, h2, h3, _⟩ := fresh_mem.mp hx
        exact h3 (full x (by rw [← h2]; exact (k.mkk m h1).1))
    refine ⟨M, fun x o hx => ?_, q f nf (fun x => i1.done cl x) i1.ks⟩
    have hxp : x ≠ p := fun e => by rw [e, hp] at hx; cases hx
    unfold del
    rw [if_neg hxp, ho x hxp]
    exact hx
end
end RX.Lw
set_option Elab.async false
set_option linter.all false
set_option maxRecDepth 1000000
set_option maxHeartbeats 4000000
/-! LW3: _law_is_signature. -/
namespace RX.Lw
open PySem PySem.Spec PyProof.Rows L2 RX RX.Sg
local macro_rules | `(tactic| walk_at "w") => `(tactic| ((conv => whnf); repeat ((first | refine bT rfl ?_ | refine bF rfl ?_ | refine ⟨_, rfl, ?_⟩ | refine ⟨_, _, rfl, rfl, ?_⟩ | refine ⟨_, _, rfl, ?_⟩ | refine ⟨rfl, ?_⟩ | refine szA rfl ?_ | refine ⟨by decide, ?_⟩); (conv => whnf))))
theorem len2 {α : Type} {l : List α} (h : l.length = 2) : ∃ a b, l = [a, b] := match l, h with | [a, b], _ => ⟨a, b, rfl⟩
theorem len3 {α : Type} {l : List α} (h : l.length = 3) : ∃ a b c, l = [a, b, c] := match l, h with | [a, b, c], _ => ⟨a, b, c, rfl⟩
theorem kpD_pair {y : D} (h : pairB 2 y = false) : kpD y = false := by
  unfold kpD
  split
  · cases h
  · rfl
theorem mkD_pair {ks : List Str} {y : D} (h : pairB 3 y = false) : mkD ks y = false := by
  unfold mkD
  split
  · cases h
  · rfl
theorem inSt_not {zs : List Str} {x : D} (h : ∀ z, x ≠ .str z) : inSt zs x = false := by
  unfold inSt
  split
  · exact absurd rfl (h _)
  · rfl
theorem rowD_not {ks : List Str} {lo hi : Nat} {x : D} (h : ∀ ds, x ≠ .tup ds) : rowD ks lo hi x = false := by
  unfold rowD
  split
  · exact absurd rfl (h _)
  · rfl
theorem take_all {α : Type} {l : List α} {i : Nat} {x : α} {p : α → Bool} (h : l[i]? = some x) (h1 : (l.take i).all p = true) (h2 : p x = true) : (l.take (i + 1)).all p = true := by
  rw [List.take_add_one, h, List.all_append, h1]
  simp [h2]
section
variable {L : Law} (S : LkL L)
include S
theorem ct_lsig {n : Nat} {x : D} {M : MM} {Q : DV} {E : XD} (t : Tm M x) (q : ∀ b : Bool, (b = true ↔ SigP x) → Q (.bl b) M) : L.cl (n + 2) ("_law_is_signature", none) [x] M Q E := by
  rw [Law.stp S.is_signature]
  have no : ¬ SigP x → Q (.bl false) M := fun h => q false ⟨fun z => (nomatch z), fun z => absurd z h⟩
  walk_at "w"
  refine ct_lpair S (k := 2) t ?_
  cases hx : pairB 2 x with
  | false =>
    walk_at "w"
    refine rt_ (no fun z => ?_)
    obtain ⟨ps, ms, e⟩ := sigP_tup z
    rw [e] at hx
    cases hx
  | true =>
  rcases t.tupOr with ⟨ds, rfl, hl, ht⟩ | ⟨h, _⟩
  case inr =>
    exfalso
    unfold pairB at hx
    split at hx
    · exact h _ rfl
    · cases hx
  obtain ⟨a, b, rfl⟩ := len2 (of_decide_eq_true (show decide (ds.length = 2) = true from hx))
  walk_at "w"
  rcases (ht a (by simp)).tupOr with ⟨ps, rfl, pl, tp⟩ | ⟨h, ty, e, hn⟩
  case inr =>
    refine ⟨_, e, ?_⟩
    refine bT (by rw [isi_tup hn]; rfl) ?_
    walk_at "w"
    refine rt_ (no fun z => ?_)
    obtain ⟨ps, ms, e⟩ := sigP_tup z
    cases e
    exact h _ rfl
  have ps_of : SigP (.tup [.tup ps, b]) → ∃ g : Sig, ps = g.kinds.map kP ∧ b = .tup (g.makers.map mP) ∧ SigOk g := fun ⟨g, e, ok⟩ => by
    unfold sigD at e
    injection e with e
    injection e with e1 e2
    injection e1 with e1
    injection e2 with e2 _
    exact ⟨g, e1, e2, ok⟩
  walk_at "w"
  by_cases c1 : 1 ≤ ps.length
  case neg =>
    refine bF (decide_eq_false (by omega)) ?_
    walk_at "w"
    refine rt_ (no fun z => ?_)
    obtain ⟨g, e1, _, ok⟩ := ps_of z
    have := ok.k1
    rw [e1, List.length_map] at c1
    exact c1 this
  refine bT (decide_eq_true (by omega)) ?_
  walk_at "w"
  by_cases c2 : ps.length ≤ 8
  case neg =>
    have hk : decide ((ps.length : Int) ≤ 8) = false := decide_eq_false (by omega)
    refine bT (by rw [hk]; rfl) ?_
    walk_at "w"
    refine rt_ (no fun z => ?_)
    obtain ⟨g, e1, _, ok⟩ := ps_of z
    have := ok.mo.kl
    rw [e1, List.length_map] at c2
    exact c2 this
  have hk : decide ((ps.length : Int) ≤ 8) = true := decide_eq_true (by omega)
  refine bF (by rw [hk]; rfl) ?_
  walk_at "w"
  refine fo_all (fun i σ M' => M' = M ∧ (∃ o1 o3, σ = [some (.tup [.tup ps, b]), o1, none, o3, none]) ∧ (ps.take i).all kpD = true) ?_ ?_ ?_ ⟨rfl, ⟨_, _, rfl⟩, rfl⟩
  · intro i σ M' _
    exact trivial
  · intro i y hy K σ M' ⟨eM, ⟨s1, s3, eσ⟩, ha⟩ hK
    subst eM eσ
    have ty := tp y (List.mem_of_getElem? hy)
    have bad : kpD y = false → ¬ SigP (.tup [.tup ps, b]) := fun hb z => by
      obtain ⟨g, e1, _, ok⟩ := ps_of z
      have := all_kpD ok.mo.nm
      rw [← e1, List.all_eq_true] at this
      have := this y (List.mem_of_getElem? hy)
      rw [hb] at this
      cases this
    walk_at "w"
    refine ct_lpair S (k := 2) ty ?_
    cases hp : pairB 2 y with
    | false =>
      walk_at "w"
      exact rt_ (no (bad (kpD_pair hp)))
    | true =>
    rcases ty.tupOr with ⟨es, rfl, el, et⟩ | ⟨h, _⟩
    case inr =>
      exfalso
      unfold pairB at hp
      split at hp
      · exact h _ rfl
      · cases hp
    obtain ⟨u, v, rfl⟩ := len2 (of_decide_eq_true (show decide (es.length = 2) = true from hp))
    have ek : kpD (.tup [u, v]) = (nameD u && inSt wordsS v) := rfl
    walk_at "w"
    refine ct_lname S (et u (by simp)) ?_
    cases hu : nameD u with
    | false =>
      walk_at "w"
      exact rt_ (no (bad (by rw [ek, hu]; rfl)))
    | true =>
    walk_at "w"
    rcases (et v (by simp)).ty with ⟨z, rfl, _⟩ | ⟨hns, ty, e, hn⟩
    case inr =>
      refine ⟨_, e, ?_⟩
      refine bT (by rw [isi_str hn]; rfl) ?_
      walk_at "w"
      exact rt_ (no (bad (by rw [ek, inSt_not hns, Bool.and_false])))
    walk_at "w"
    refine ⟨_, inR_str z wordsS, ?_⟩
    by_cases hz : z ∈ wordsS
    · refine bF (by rw [decide_eq_true hz]; rfl) ?_
      walk_at "w"
      exact hK _ _ ⟨rfl, ⟨_, _, rfl⟩, take_all hy ha (by rw [ek, hu]; exact decide_eq_true hz)⟩
    · refine bT (by rw [decide_eq_false hz]; rfl) ?_
      walk_at "w"
      exact rt_ (no (bad (by rw [ek, hu]; exact decide_eq_false hz)))
  intro σ M' ⟨eM, ⟨s1, s3, eσ⟩, c3⟩
  subst eM eσ
  rw [List.take_length] at c3
  obtain ⟨kinds, rfl, kn⟩ := parseK c3
  rw [List.length_map] at c1 c2
  walk_at "w"
  refine lc_genM kP (fun p => .str p.1) trivial (by simp only [sizeLine]; omega) (fun p hp Y N k => ?_) ?_
  · walk_at "w"
    exact k
  walk_at "w"
  have ek : kinds.map (fun p => D.str p.1) = (kinds.map (·.1)).map D.str := by rw [List.map_map]; rfl
  rw [ek]
  refine ⟨_, rfl, by rw [List.length_map]; omega, fun ys pm _ => ?_⟩
  walk_at "w"
  have lys : ys.length = (dedup (kinds.map (·.1))).length := pm.length_eq
  have dd := dedup_iff (kinds.map (·.1))
  by_cases c4 : (kinds.map (·.1)).Nodup
  case neg =>
    refine bT ?_ ?_
    · have : ¬ ((((ys.map D.str).length : Nat) : Int) = ((((kinds.map (·.1)).map D.str).length : Nat) : Int)) := fun z => c4 (dd.mp (by
        rw [List.length_map, List.length_map (as := kinds.map (·.1))] at z
        omega))
      rw [decide_eq_false this]
      rfl
    walk_at "w"
    refine rt_ (no fun z => ?_)
    obtain ⟨g, e1, _, ok⟩ := ps_of z
    cases map_inj' (fun _ _ => kP_inj) e1
    exact c4 ok.nd
  refine bF ?_ ?_
  · have : (((ys.map D.str).length : Nat) : Int) = ((((kinds.map (·.1)).map D.str).length : Nat) : Int) := by
      have := dd.mpr c4
      rw [List.length_map, List.length_map (as := kinds.map (·.1))]
      omega
    rw [decide_eq_true this]
    rfl
  walk_at "w"
  rcases (ht b (by simp)).tupOr with ⟨ms, rfl, ml, tm⟩ | ⟨h, ty, e, hn⟩
  case inr =>
    refine ⟨_, e, ?_⟩
    refine bT (by rw [isi_tup hn]; rfl) ?_
    walk_at "w"
    refine rt_ (no fun z => ?_)
    obtain ⟨g, _, e2, _⟩ := ps_of z
    exact h _ e2
  have ms_of : SigP (.tup [.tup (kinds.map kP), .tup ms]) → ∃ g : Sig, g.kinds = kinds ∧ ms = g.makers.map mP ∧ SigOk g := fun z => by
    obtain ⟨g, e1, e2, ok⟩ := ps_of z
    injection e2 with e2
    exact ⟨g, (map_inj' (fun _ _ => kP_inj) e1).symm, e2, ok⟩
  walk_at "w"
  by_cases c5 : ms.length ≤ 24
  case neg =>
    refine bT (decide_eq_true (by omega)) ?_
    walk_at "w"
    refine rt_ (no fun z => ?_)
    obtain ⟨g, _, e2, ok⟩ := ms_of z
    have := ok.mo.ml
    rw [e2, List.length_map] at c5
    exact c5 this
  refine bF (decide_eq_false (by omega)) ?_
  walk_at "w"
  refine fo_all (fun i σ M1 => M1 = M' ∧ (∃ o1 o3, σ = [some (.tup [.tup (kinds.map kP), .tup ms]), o1, some (.lst ((kinds.map (·.1)).map D.str)), o3, none]) ∧ (ms.take i).all (mkD (kinds.map (·.1))) = true) ?_ ?_ ?_ ⟨rfl, ⟨_, _, rfl⟩, rfl⟩
  · intro i σ M1 _
    exact trivial
  · intro i y hy K σ M1 ⟨eM, ⟨s1, s3, eσ⟩, ha⟩ hK
    subst eM eσ
    have ty := tm y (List.mem_of_getElem? hy)
    have bad : mkD (kinds.map (·.1)) y = false → ¬ SigP (.tup [.tup (kinds.map kP), .tup ms]) := fun hb z => by
      obtain ⟨g, e1, e2, ok⟩ := ms_of z
      subst e1
      have := all_mkD ok
      rw [← e2, List.all_eq_true] at this
      have := this y (List.mem_of_getElem? hy)
      exact absurd (hb.symm.trans this) (by decide)
    walk_at "w"
    refine ct_lpair S (k := 3) ty ?_
    cases hp : pairB 3 y with
    | false =>
      walk_at "w"
      exact rt_ (no (bad (mkD_pair hp)))
    | true =>
    rcases ty.tupOr with ⟨es, rfl, el, et⟩ | ⟨h, _⟩
    case inr =>
      exfalso
      unfold pairB at hp
      split at hp
      · exact h _ rfl
      · cases hp
    obtain ⟨u, v, r, rfl⟩ := len3 (of_decide_eq_true (show decide (es.length = 3) = true from hp))
    have ek : mkD (kinds.map (·.1)) (.tup [u, v, r]) = (nameD u && rowD (kinds.map (·.1)) 0 3 v && inSt (kinds.map (·.1)) r) := rfl
    walk_at "w"
    refine ct_lname S (et u (by simp)) ?_
    cases hu : nameD u with
    | false =>
      walk_at "w"
      exact rt_ (no (bad (by rw [ek, hu]; rfl)))
    | true =>
    walk_at "w"
    rcases (et v (by simp)).tupOr with ⟨vs, rfl, vl, vt⟩ | ⟨h, ty, e, hn⟩
    case inr =>
      refine ⟨_, e, ?_⟩
      refine bT (by rw [isi_tup hn]; rfl) ?_
      walk_at "w"
      exact rt_ (no (bad (by rw [ek, rowD_not h, Bool.and_false, Bool.false_and])))
    have er : rowD (kinds.map (·.1)) 0 3 (.tup vs) = (decide (0 ≤ vs.length) && decide (vs.length ≤ 3) && vs.all (inSt (kinds.map (·.1)))) := rfl
    walk_at "w"
    by_cases hv : vs.length ≤ 3
    case neg =>
      refine bT (decide_eq_true (by omega)) ?_
      walk_at "w"
      exact rt_ (no (bad (by rw [ek, er, decide_eq_false hv, Bool.and_false, Bool.false_and, Bool.and_false, Bool.false_and])))
    refine bF (decide_eq_false (by omega)) ?_
    walk_at "w"
    refine ⟨by simp only [List.length_cons, List.length_nil, sizeLine]; omega, ?_⟩
    walk_at "w"
    have tv : ∀ d ∈ vs ++ [r], Tm M1 d := fun d hd => by
      rcases List.mem_append.mp hd with h | h
      · exact vt d h
      · rw [List.mem_singleton.mp h]
        exact et r (by simp)
    refine lc_bl (inSt (kinds.map (·.1))) trivial (by simp only [List.length_append, List.length_cons, List.length_nil, sizeLine]; omega) (fun y hy Y N k => ?_) ?_
    · rcases (tv y hy).ty with ⟨z, rfl, _⟩ | ⟨hns, ty, e, hn⟩
      · walk_at "w"
        refine ⟨_, inR_str z (kinds.map (·.1)), ?_⟩
        exact k
      · walk_at "w"
        refine ⟨_, e, ?_⟩
        refine bF (isi_str hn) ?_
        rw [inSt_not hns] at k
        exact k
    walk_at "w"
    rw [all_id]
    have ea : mkD (kinds.map (·.1)) (.tup [u, .tup vs, r]) = (vs ++ [r]).all (inSt (kinds.map (·.1))) := by
      rw [ek, hu, er, decide_eq_true (Nat.zero_le _), decide_eq_true hv, List.all_append]
      simp
    cases e : (vs ++ [r]).all (inSt (kinds.map (·.1))) with
    | false =>
      refine bT rfl ?_
      walk_at "w"
      exact rt_ (no (bad (by rw [ea]; exact e)))
    | true =>
      refine bF rfl ?_
      walk_at "w"
      exact hK _ _ ⟨rfl, ⟨_, _, rfl⟩, take_all hy ha (by rw [ea]; exact e)⟩
  intro σ M1 ⟨eM, ⟨s1, s3, eσ⟩, c6⟩
  subst eM eσ
  rw [List.take_length] at c6
  obtain ⟨makers, rfl, mn⟩ := parseM c6
  rw [List.length_map] at c5
  walk_at "w"
  refine lc_genM mP (fun m => .str m.1) trivial (by simp only [sizeLine]; omega) (fun p hp Y N k => ?_) ?_
  · walk_at "w"
    exact k
  have em : makers.map (fun p => D.str p.1) = (makers.map (·.1)).map D.str := by rw [List.map_map]; rfl
  rw [em]
  walk_at "w"
  refine ⟨by rw [List.length_map]; omega, fun ys pm2 _ => ?_⟩
  walk_at "w"
  have lys2 : ys.length = (dedup (makers.map (·.1))).length := pm2.length_eq
  have dd2 := dedup_iff (makers.map (·.1))
  have mo : MkOk ⟨kinds, makers⟩ := ⟨c2, c5, fun k hk => by
    obtain ⟨p, hp, rfl⟩ := List.mem_map.mp hk
    exact kn p hp, fun m hm => (mn m hm).2⟩
  have lm : (((ys.map D.str).length : Nat) : Int) = ((((makers.map (·.1)).map D.str).length : Nat) : Int) ↔ (makers.map (·.1)).Nodup := by
    rw [← dd2, List.length_map, List.length_map (as := makers.map (·.1))]
    omega
  by_cases c7 : (makers.map (·.1)).Nodup
  case neg =>
    refine bF (decide_eq_false fun z => c7 (lm.mp z)) ?_
    walk_at "w"
    refine rt_ (no fun z => ?_)
    have := (sigP_g (g := ⟨kinds, makers⟩)).mp z
    exact c7 this.nn
  refine bT (decide_eq_true (lm.mpr c7)) ?_
  walk_at "w"
  refine ct_living S (g := ⟨kinds, makers⟩) mo c4 fun f nf hf hfk => ?_
  walk_at "w"
  refine rt_ (q _ ?_)
  show _ ↔ SigP (sigD ⟨kinds, makers⟩)
  rw [sigP_g, decide_eq_true_eq]
  have l1 : (((f.map D.str).length : Nat) : Int) = ((((kinds.map (·.1)).map D.str).length : Nat) : Int) ↔ f.length = (kinds.map (·.1)).length := by
    rw [List.length_map, List.length_map (as := kinds.map (·.1))]
    omega
  rw [l1]
  constructor
  · intro h
    have full := nodup_full nf hfk (by rw [h]; exact Nat.le_refl _)
    exact ⟨c1, mo, c4, fun m hm => (mn m hm).1, c7, fun k hk => (hf k).mp (full k hk)⟩
  · intro ok
    have h1 := nodup_len nf hfk
    have h2 : (kinds.map (·.1)).length ≤ f.length := nodup_len c4 fun x hx => (hf x).mpr (ok.md x hx)
    exact Nat.le_antisymm h1 h2
end
end RX.Lw
set_option Elab.async false
set_option linter.all false
set_option maxRecDepth 1000000
set_option maxHeartbeats 4000000
/-! LW4: _law_is_small. -/
namespace RX.Lw
open PySem PySem.Spec PyProof.Rows L2 RX RX.Sg
local macro_rules | `(tactic| walk_at "w") => `(tactic| ((conv => whnf); repeat ((first | refine bT rfl ?_ | refine bF rfl ?_ | refine ⟨_, rfl, ?_⟩ | refine ⟨_, _, rfl, rfl, ?_⟩ | refine ⟨_, _, rfl, ?_⟩ | refine ⟨rfl, ?_⟩ | refine szA rfl ?_ | refine ⟨by decide, ?_⟩); (conv => whnf))))
/-! plain -/
def ArgOf (g : Sig) (k a : Str) : Prop := ∃ m ∈ g.makers, m.2.2 = k ∧ a ∈ m.2.1
inductive Rch (g : Sig) : Str → Str → Prop where
  | one {k a : Str} : ArgOf g k a → Rch g k a
  | more {k a b : Str} : Rch g k a → ArgOf g a b → Rch g k b
theorem Rch.trans {g : Sig} {a b c : Str} (h1 : Rch g a b) (h2 : Rch g b c) : Rch g a c := by
  induction h2 with
  | one h => exact .more h1 h
  | more _ h ih => exact .more ih h
theorem Rch.head {g : Sig} {a c : Str} (h : Rch g a c) : ∃ b, ArgOf g a b ∧ (b = c ∨ Rch g b c) := by
  induction h with
  | one h => exact ⟨_, h, .inl rfl⟩
  | more _ h ih =>
    obtain ⟨b, h1, h2⟩ := ih
    refine ⟨b, h1, .inr ?_⟩
    rcases h2 with e | h2
    · rw [e]; exact .one h
    · exact .more h2 h
theorem SmallK.noRound {g : Sig} {k : Str} (h : SmallK g k) : ¬ Rch g k k := by
  induction h with
  | mk h1 h2 _ ih =>
    rename_i k _
    intro r
    obtain ⟨b, ⟨m, hm, e, hb⟩, hr⟩ := r.head
    rcases hr with e2 | hr
    · subst e2
      exact ih m hm e b hb r
    · exact ih m hm e b hb (hr.trans (.one ⟨m, hm, e, hb⟩))
theorem SmallK.arg {g : Sig} {k a : Str} (h : SmallK g k) (x : ArgOf g k a) : SmallK g a := by
  obtain ⟨m, hm, e, ha⟩ := x
  cases h with
  | mk h1 h2 h3 => exact h3 m hm e a ha
def wayD (w : List Str) : D := .tup (w.map D.str)
def wt (w : List Str) : Nat := 73 ^ (8 - w.length)
def sumW (ws : List (List Str)) : Nat := (ws.map wt).sum
structure WyOk (g : Sig) (k0 : Str) (w : List Str) : Prop where
  nd : w.Nodup
  ks : ∀ x ∈ w, x ∈ g.ks
  ne : w ≠ []
  ch : ∀ w0 k, w = w0 ++ [k] → (∀ x ∈ w0, Rch g x k) ∧ (SmallK g k0 → SmallK g k)
theorem sumW_app (a b : List (List Str)) : sumW (a ++ b) = sumW a + sumW b := by simp [sumW]
theorem sumW_le {cs : List (List Str)} {m : Nat} (h : ∀ c ∈ cs, c.length = m) : sumW cs = cs.length * 73 ^ (8 - m) := by
  induction cs with
  | nil => simp [sumW]
  | cons c cs ih =>
    have h1 : sumW (c :: cs) = wt c + sumW cs := by simp [sumW]
    rw [h1, ih fun x hx => h x (List.mem_cons_of_mem _ hx)]
    unfold wt
    rw [h c (by simp), List.length_cons, Nat.succ_mul]
    omega
theorem wt_step {m c : Nat} (h : m + 1 ≤ 8) (hc : c ≤ 72) : c * 73 ^ (8 - (m + 1)) < 73 ^ (8 - m) := by
  have e : 8 - m = (8 - (m + 1)) + 1 := by omega
  rw [e, Nat.pow_succ]
  have p : 0 < 73 ^ (8 - (m + 1)) := Nat.pow_pos (by decide)
  have : c * 73 ^ (8 - (m + 1)) ≤ 72 * 73 ^ (8 - (m + 1)) := Nat.mul_le_mul_right _ hc
  omega
theorem atI_last {α : Type} {xs : List α} {y : α} : atI (xs ++ [y]) (-1) = some y := by
  unfold atI ixN
  rw [if_neg (by omega), if_pos (by simp; omega)]
  have : ((-1 : Int) + ((xs ++ [y]).length : Nat)).toNat = xs.length := by simp; omega
  simp only [Option.bind]
  rw [this]
  simp
theorem way_pd {g : Sig} (mo : MkOk g) {w : List Str} (h : ∀ x ∈ w, x ∈ g.ks) : Pd (wayD w) := by
  refine ⟨.tuple (w.map PyData.str), fun M => .tup (vwNames w), ?_, ?_⟩
  · simp only [PyData.canLay0]
    exact layNames fun z hz => mo.nm z (h z hz)
  · simp only [PyData.depth, depNames]
    omega
theorem word_ok (b : Bool) : PyData.strOk (wordD b) = true := by cases b <;> decide +kernel
def kData (p : Str × Bool) : PyData := .tuple [.str p.1, .str (wordD p.2)]
theorem inR_open {M : MM} {g : Sig} {k : Str} (mo : MkOk g) (hk : nameOk k = true) : InR M (.tup [.str k, .str "open"]) (g.kinds.map kP) (openB g k) := by
  have v1 : ∀ l : List (Str × Bool), VwL M (l.map kP) (l.map kData) := by
    intro l
    induction l with
    | nil => exact .nil
    | cons p l ih => exact .cons (.tup (.cons (.str _) (.cons (.str _) .nil))) ih
  have c1 : ∀ l : List (Str × Bool), (∀ p ∈ l, nameOk p.1 = true) → PyData.canLayAll0 (l.map kData) = true := by
    intro l
    induction l with
    | nil => intro _; rfl
    | cons p l ih =>
      intro h
      simp only [List.map_cons, PyData.canLayAll0, kData, PyData.canLay0, nameOk_ok (h p (by simp)), word_ok, Bool.and_self, Bool.true_and]
      exact ih fun x hx => h x (List.mem_cons_of_mem _ hx)
  have wo : PyData.strOk "open" = true := word_ok true
  have sh : SeqAt.shaped (.tuple [.str k, .str "open"]) = true := by
    simp [SeqAt.shaped, PyData.canLay0, PyData.canLayAll0, PyData.depth, PyData.depthAll, nameOk_ok hk, wo]
  have h := InR.dat (M := M) (v1 g.kinds) (Vw.tup (.cons (.str k) (.cons (.str "open") .nil))) (c1 g.kinds fun p hp => mo.nm _ (List.mem_map.mpr ⟨p, hp, rfl⟩)) sh
  have e : ((g.kinds.map kData).any fun q => PyData.eqv q (.tuple [.str k, .str "open"])) = openB g k := by
    unfold openB
    generalize g.kinds = l
    induction l with
    | nil => simp
    | cons p l ih =>
      obtain ⟨x, b⟩ := p
      rw [List.map_cons, List.any_cons, ih]
      have e1 : PyData.eqv (kData (x, b)) (.tuple [.str k, .str "open"]) = (decide (x = k) && b) := by
        have e2 : PyData.eqv (kData (x, b)) (.tuple [.str k, .str "open"]) = ((x == k) && ((wordD b == "open") && true)) := by
          simp [kData, PyData.eqv, PyData.eqvAll]
        have e3 : (wordD b == "open") = b := by
          refine Eq.trans ?_ (wordD_open b)
          by_cases h : wordD b = "open"
          · rw [decide_eq_true h]; exact beq_iff_eq.mpr h
          · rw [decide_eq_false h]; exact beq_eq_false_iff_ne.mpr h
        rw [e2, e3, Bool.and_true]
        by_cases h : x = k <;> simp [h]
      rw [e1]
      cases b with
      | true =>
        by_cases h : x = k
        · subst h; simp
        · have : (k, true) ≠ (x, true) := fun e => h (by injection e with e _; exact e.symm)
          simp [h, this]
      | false =>
        have : (k, true) ≠ (x, false) := fun e => by injection e with _ e; cases e
        simp [this]
  rw [e] at h
  exact h
section
variable {L : Law} (S : LkL L)
include S
theorem ct_lmakers {n : Nat} {g : Sig} {k : Str} {M : MM} {Q : DV} {E : XD} (mo : MkOk g) (q : Q (.lst ((ofK g k).map rowP)) M) : L.cl (n + 1) ("_law_makers", none) [sigD g, .str k] M Q E := by
  rw [Law.stp S.makers]
  have z24 := mo.ml
  walk_at "w"
  refine lc_gen mP (fun m => if decide (m.2.2 = k) then some (rowP m) else none) trivial g.makers [] (by simp only [List.length_nil, sizeLine]; omega) (fun m hm Y N h => ?_) ?_
  · obtain ⟨nm, as, x⟩ := m
    walk_at "w"
    by_cases hx : x = k
    · refine bT (decide_eq_true hx) ?_
      rw [if_pos (decide_eq_true hx)] at h
      walk_at "w"
      exact h
    · refine bF (decide_eq_false hx) ?_
      rw [if_neg (by rw [decide_eq_false hx]; exact Bool.false_ne_true)] at h
      walk_at "w"
      exact h
  rw [List.nil_append, filterMap_if]
  exact rt_ q
theorem ct_lopen {n : Nat} {g : Sig} {k : Str} {M : MM} {Q : DV} {E : XD} (mo : MkOk g) (hk : k ∈ g.ks) (q : Q (.bl (openB g k)) M) : L.cl (n + 1) ("_law_is_open", none) [sigD g, .str k] M Q E := by
  rw [Law.stp S.is_open]
  walk_at "w"
  refine ⟨_, inR_open mo (mo.nm k hk), ?_⟩
  exact rt_ q
theorem ct_lsmall {n : Nat} {g : Sig} {k0 : Str} {M : MM} {Q : DV} {E : XD} (mo : MkOk g) (nd : g.ks.Nodup) (hk0 : k0 ∈ g.ks) (q : ∀ b : Bool, (b = true ↔ SmallK g k0) → Q (.bl b) M) : L.cl (n + 2) ("_law_is_small", none) [sigD g, .str k0] M Q E := by
  rw [Law.stp S.is_small]
  have no : ¬ SmallK g k0 → Q (.bl false) M := fun h => q false ⟨fun z => (nomatch z), fun z => absurd z h⟩
  have z8 := mo.kl
  have z24 := mo.ml
  have lk : g.ks.length = g.kinds.length := by unfold Sig.ks; rw [List.length_map]
  walk_at "w"
  intro p hp
  walk_at "w"
  have fin : ∀ {M' : MM} {b : Bool}, (∀ x, x ≠ p → M' x = M x) → Q (.bl b) M → ∃ M'', Sub M'' M' ∧ Q (.bl b) M'' := fun ho h => ⟨M, fun x o hx => by
    have ne : x ≠ p := fun e => by rw [e, hp] at hx; cases hx
    rw [ho x ne]
    exact hx, h⟩
  refine ⟨_, wh_inv (fun n σ M' => (∃ o3 o4 o5 o6, σ = [some (sigD g), some (.str k0), some (.ref p), o3, o4, o5, o6]) ∧ ∃ ws : List (List Str), M' p = some (.lst (ws.map wayD)) ∧ (∀ w ∈ ws, WyOk g k0 w) ∧ (∀ (i : Nat) (w : List Str), ws[i]? = some w → i < 72 * w.length) ∧
      ((∀ w ∈ ws, ∀ w0 k, w = w0 ++ [k] → SmallK g k) → SmallK g k0) ∧ sumW ws ≤ n ∧ ∀ x, x ≠ p → M' x = M x) ?_ (sumW [[k0]]) _ _
    ⟨⟨_, _, _, _, rfl⟩, [[k0]], up_same, fun w hw => ?_, fun i w hi => ?_, fun h => h [k0] (by simp) [] k0 rfl, Nat.le_refl _, fun x hx => up_ne hx⟩⟩
  case refine_2 =>
    rw [List.mem_singleton.mp hw]
    refine ⟨by simp, fun x hx => by rw [List.mem_singleton.mp hx]; exact hk0, by simp, fun w0 k e => ?_⟩
    have e0 : w0 = [] := by
      cases w0 with
      | nil => rfl
      | cons a r => have := congrArg List.length e; simp at this
    subst e0
    injection e with e _
    subst e
    exact ⟨fun x hx => (by cases hx), fun h => h⟩
  case refine_3 =>
    cases i with
    | zero => cases hi; exact Nat.lt_of_lt_of_le (by decide : 0 < 72 * 1) (Nat.le_refl _)
    | succ i => simp at hi
  intro n K σ M' hK ⟨⟨s3, s4, s5, s6, eσ⟩, ws, e1, wy, ix, sm, hn, ho⟩
  subst eσ
  walk_at "w"
  refine ⟨_, eqr_ref e1 (fun d hd => ?_), ?_⟩
  · obtain ⟨w, hw, rfl⟩ := List.mem_map.mp hd
    exact way_pd mo (wy w hw).ks
  rcases List.eq_nil_or_concat ws with e | ⟨ws0, w, e⟩
  · subst e
    walk_at "w"
    exact fin ho (q true ⟨fun _ => sm fun w hw => (by cases hw), fun _ => rfl⟩)
  rw [List.concat_eq_append] at e
  subst e
  have ww := wy w (by simp)
  obtain ⟨w0, k, ew⟩ : ∃ w0 k, w = w0 ++ [k] := by
    rcases List.eq_nil_or_concat w with e | ⟨w0, k, e⟩
    · exact absurd e ww.ne
    · exact ⟨w0, k, by rw [e, List.concat_eq_append]⟩
  have hkk : k ∈ g.ks := ww.ks k (by rw [ew]; simp)
  obtain ⟨ch, cs⟩ := ww.ch w0 k ew
  have eE : ((ws0 ++ [w]).map wayD).isEmpty = false := by simp
  refine bT (by rw [eE]; rfl) ?_
  walk_at "w"
  have ew1 : (ws0 ++ [w]).map wayD = ws0.map wayD ++ [wayD w] := by simp
  rw [ew1] at e1
  refine ⟨⟨_, lsOf_ref e1⟩, ?_⟩
  walk_at "w"
  refine ⟨p, _, wayD w, rfl, e1, by simp, ?_⟩
  rw [List.dropLast_concat]
  walk_at "w"
  have atL : atI (w.map D.str) (-1) = some (.str k) := by rw [ew, List.map_append]; exact atI_last
  refine ⟨_, atL, ?_⟩
  walk_at "w"
  refine ct_lopen S mo hkk ?_
  cases hop : openB g k with
  | true =>
    walk_at "w"
    refine fin (fun x hx => by rw [up_ne hx]; exact ho x hx) (no fun h => ?_)
    cases cs h with
    | mk _ h2 _ => exact h2 (of_decide_eq_true hop)
  | false =>
  have nop : (k, true) ∉ g.kinds := of_decide_eq_false hop
  walk_at "w"
  refine ⟨_, atL, ?_⟩
  walk_at "w"
  refine ct_lmakers S mo ?_
  walk_at "w"
  have wlen : w.length ≤ 8 := by
    have := nodup_len ww.nd ww.ks
    omega
  have ixw : ws0.length < 72 * w.length := ix ws0.length w (by simp)
  have ofm : ∀ m ∈ ofK g k, m ∈ g.makers ∧ m.2.2 = k := fun m hm => by
    obtain ⟨h1, h2⟩ := List.mem_filter.mp hm
    exact ⟨h1, of_decide_eq_true h2⟩
  have ofl : (ofK g k).length ≤ 24 := Nat.le_trans (List.length_filter_le _ _) z24
  have toA : ∀ x ∈ w, ∀ a, ArgOf g k a → Rch g x a := fun x hx a ha => by
    rw [ew] at hx
    rcases List.mem_append.mp hx with h | h
    · exact .more (ch x h) ha
    · rw [List.mem_singleton.mp h]
      exact .one ha
  refine fo_all (fun j σ M1 => (∃ o4 o5 o6, σ = [some (sigD g), some (.str k0), some (.ref p), some (wayD w), o4, o5, o6]) ∧ ∃ cs : List (List Str), M1 p = some (.lst ((ws0 ++ cs).map wayD)) ∧ (∀ c ∈ cs, ∃ a, c = w ++ [a] ∧ ArgOf g k a ∧ a ∉ w) ∧ cs.length ≤ 3 * j ∧
      (∀ m ∈ (ofK g k).take j, ∀ a ∈ m.2.1, w ++ [a] ∈ cs) ∧ ∀ x, x ≠ p → M1 x = M x) ?_ ?_ ?_
    ⟨⟨_, _, _, rfl⟩, [], by rw [up_same, List.append_nil], fun _ h => (by cases h), by simp, fun _ h => (by cases h), fun x hx => by rw [up_ne hx]; exact ho x hx⟩
  · intro i σ M' _
    exact trivial
  · intro j x hx K1 σ M1 ⟨⟨s4, s5, s6, eσ⟩, cs1, f1, f2, f3, f4, f5⟩ hK1
    subst eσ
    rw [List.getElem?_map] at hx
    obtain ⟨m, hm, rfl⟩ := Option.map_eq_some_iff.mp hx
    have jl : j < 24 := Nat.lt_of_lt_of_le (List.getElem?_eq_some_iff.mp hm).1 ofl
    obtain ⟨hm1, hm2⟩ := ofm m (List.mem_of_getElem? hm)
    have al := (mo.mkk m hm1).2.2
    walk_at "w"
    refine fo_all (fun t σ M1 => (∃ o4 o5 o6, σ = [some (sigD g), some (.str k0), some (.ref p), some (wayD w), o4, o5, o6]) ∧ ∃ cs : List (List Str), M1 p = some (.lst ((ws0 ++ cs).map wayD)) ∧ (∀ c ∈ cs, ∃ a, c = w ++ [a] ∧ ArgOf g k a ∧ a ∉ w) ∧ cs.length ≤ 3 * j + t ∧
        (∀ m ∈ (ofK g k).take j, ∀ a ∈ m.2.1, w ++ [a] ∈ cs) ∧ (∀ a ∈ m.2.1.take t, w ++ [a] ∈ cs) ∧ ∀ x, x ≠ p → M1 x = M x) ?_ ?_ ?_
      ⟨⟨_, _, _, rfl⟩, cs1, f1, f2, f3, f4, fun _ h => (by cases h), f5⟩
    · intro i σ M' _
      exact trivial
    · intro t x hx K2 σ M2 ⟨⟨s4, s5, s6, eσ⟩, cs2, b1, b2, b3, b4, b5, b6⟩ hK2
      subst eσ
      rw [List.getElem?_map] at hx
      obtain ⟨a, ha, rfl⟩ := Option.map_eq_some_iff.mp hx
      have tl := (List.getElem?_eq_some_iff.mp ha).1
      have hA : ArgOf g k a := ⟨m, hm1, hm2, List.mem_of_getElem? ha⟩
      walk_at "w"
      refine ⟨_, inR_str a w, ?_⟩
      by_cases haw : a ∈ w
      · refine bT (decide_eq_true haw) ?_
        walk_at "w"
        exact fin b6 (no fun h => SmallK.noRound (SmallK.arg (cs h) hA) (toA a haw a hA))
      · refine bF (decide_eq_false haw) ?_
        walk_at "w"
        refine ⟨⟨_, lsOf_ref b1⟩, ?_⟩
        walk_at "w"
        refine ⟨by simp only [List.length_map, List.length_cons, List.length_nil, sizeLine]; omega, ?_⟩
        walk_at "w"
        refine ⟨p, _, rfl, b1, by simp only [List.length_map, List.length_append, sizeLine]; omega, ?_⟩
        walk_at "w"
        refine hK2 _ _ ⟨⟨_, _, _, rfl⟩, cs2 ++ [w ++ [a]], ?_, fun c hc => ?_, by simp only [List.length_append, List.length_cons, List.length_nil]; omega, fun m hm a ha => List.mem_append_left _ (b4 m hm a ha), fun y hy => ?_, fun x hx => by rw [up_ne hx]; exact b6 x hx⟩
        · rw [up_same, ← List.append_assoc, List.map_append]
          simp [wayD]
        · rcases List.mem_append.mp hc with h | h
          · exact b2 c h
          · exact ⟨a, List.mem_singleton.mp h, hA, haw⟩
        · rw [List.take_add_one, ha] at hy
          rcases List.mem_append.mp hy with h | h
          · exact List.mem_append_left _ (b5 y h)
          · simp only [Option.toList, List.mem_singleton] at h
            rw [h]
            simp
    · intro σ M2 ⟨⟨s4, s5, s6, eσ⟩, cs2, b1, b2, b3, b4, b5, b6⟩
      subst eσ
      rw [List.length_map] at b3 b5
      rw [List.take_length] at b5
      refine hK1 _ _ ⟨⟨_, _, _, rfl⟩, cs2, b1, b2, by omega, fun m' hm' a ha => ?_, b6⟩
      rw [List.take_add_one, hm] at hm'
      rcases List.mem_append.mp hm' with h | h
      · exact b4 m' h a ha
      · simp only [Option.toList, List.mem_singleton] at h
        rw [h] at ha
        exact b5 a ha
  · intro σ M1 ⟨⟨s4, s5, s6, eσ⟩, kids, f1, f2, f3, f4, f5⟩
    subst eσ
    rw [List.length_map] at f3 f4
    rw [List.take_length] at f4
    walk_at "w"
    have kidOk : ∀ c ∈ kids, WyOk g k0 c ∧ c.length = w.length + 1 := fun c hc => by
      obtain ⟨a, e, hA, haw⟩ := f2 c hc
      subst e
      refine ⟨⟨?_, fun x hx => ?_, by simp, fun w1 k1 e => ?_⟩, by simp⟩
      · refine List.nodup_append.mpr ⟨ww.nd, by simp, fun x hx y hy e => haw ?_⟩
        rw [List.mem_singleton.mp hy] at e
        rw [← e]
        exact hx
      · rcases List.mem_append.mp hx with h | h
        · exact ww.ks x h
        · rw [List.mem_singleton.mp h]
          obtain ⟨m, h1, h2, h3⟩ := hA
          exact (mo.mkk m h1).2.1 a h3
      · obtain ⟨e1, e2⟩ := List.append_inj' e rfl
        injection e2 with e2 _
        subst e1 e2
        exact ⟨fun x hx => toA x hx a hA, fun h => SmallK.arg (cs h) hA⟩
    have kl : kids ≠ [] → w.length + 1 ≤ 8 := fun h => by
      obtain ⟨c, hc⟩ := List.exists_mem_of_ne_nil _ h
      obtain ⟨h1, h2⟩ := kidOk c hc
      have := nodup_len h1.nd h1.ks
      omega
    have lt : sumW (ws0 ++ kids) < sumW (ws0 ++ [w]) := by
      rw [sumW_app, sumW_app]
      have e1 : sumW [w] = 73 ^ (8 - w.length) := by simp [sumW, wt]
      rw [e1, sumW_le fun c hc => (kidOk c hc).2]
      by_cases h : kids = []
      · rw [h]
        have : 0 < 73 ^ (8 - w.length) := Nat.pow_pos (by decide)
        simp only [List.length_nil, Nat.zero_mul]
        omega
      · have := wt_step (c := kids.length) (kl h) (by omega)
        omega
    cases n with
    | zero => omega
    | succ n' =>
      refine hK n' _ _ rfl ⟨⟨_, _, _, _, rfl⟩, ws0 ++ kids, f1, fun v hv => ?_, fun i v hi => ?_, fun h => ?_, by omega, f5⟩
      · rcases List.mem_append.mp hv with h | h
        · exact wy v (List.mem_append_left _ h)
        · exact (kidOk v h).1
      · by_cases hl : i < ws0.length
        · refine ix i v ?_
          rw [List.getElem?_append_left hl] at hi ⊢
          exact hi
        · rw [List.getElem?_append_right (by omega)] at hi
          have hv := (kidOk v (List.mem_of_getElem? hi)).2
          have := (List.getElem?_eq_some_iff.mp hi).1
          rw [hv]
          omega
      · refine sm fun v hv w1 k1 e => ?_
        rcases List.mem_append.mp hv with hv | hv
        · exact h v (List.mem_append_left _ hv) w1 k1 e
        · rw [List.mem_singleton.mp hv, ew] at e
          obtain ⟨e1, e2⟩ := List.append_inj' e rfl
          injection e2 with e2 _
          subst e1 e2
          refine .mk hkk nop fun m hm e a ha => ?_
          have := f4 m (List.mem_filter.mpr ⟨hm, decide_eq_true e⟩) a ha
          exact h _ (List.mem_append_right _ this) w a rfl
end
end RX.Lw
set_option Elab.async false
set_option linter.all false
set_option maxRecDepth 1000000
set_option maxHeartbeats 4000000
/-! LW5: what is drawn. -/
namespace RX.Lw
open PySem PySem.Spec PyProof.Rows L2 RX RX.Sg
local macro_rules | `(tactic| walk_at "w") => `(tactic| ((conv => whnf); repeat ((first | refine bT rfl ?_ | refine bF rfl ?_ | refine ⟨_, rfl, ?_⟩ | refine ⟨_, _, rfl, rfl, ?_⟩ | refine ⟨_, _, rfl, ?_⟩ | refine ⟨rfl, ?_⟩ | refine szA rfl ?_ | refine ⟨by decide, ?_⟩); (conv => whnf))))
structure MkL (L : Law) : Prop where
  dr : DrL L
  lk : LkL L
  well : L.T ("_law_well", none) = some f_law_well
  is_whole : L.T ("_law_is_whole", none) = some f_law_is_whole
  odd_thing : L.T ("_law_odd_thing", none) = some f_law_odd_thing
  bent : L.T ("_law_bent", none) = some f_law_bent
  some_sig : L.T ("_law_some_sig", none) = some f_law_some_sig
  turned : L.T ("_law_turned", none) = some f_law_turned
  sig : L.T ("_law_sig", none) = some f_law_sig
  things : L.T ("_law_things", none) = some f_law_things
def sg0 : Sig := ⟨[("count", false), ("truth", false), ("type", true), ("row", false)], [("z", [], "count"), ("s", ["count"], "count"), ("yes", [], "truth"), ("no", [], "truth"), ("int", [], "type"), ("ptr", ["type"], "type"), ("nil", [], "row"), ("cons", ["type", "row"], "row")]⟩
def sg1 : Sig := ⟨[("bit", false), ("nat", false), ("pair", false)], [("o", [], "bit"), ("i", [], "bit"), ("z", [], "nat"), ("s", ["nat"], "nat"), ("p", ["bit", "nat"], "pair"), ("q", ["pair", "bit"], "pair")]⟩
def sg2 : Sig := ⟨[("type", true), ("opt", false), ("size", true)], [("int", [], "type"), ("fn", ["type", "type"], "type"), ("none", [], "opt"), ("some", ["type"], "opt"), ("arr", ["type", "size"], "type")]⟩
def sg3 : Sig := ⟨[("t", false), ("u", false), ("w", false)], [("a", [], "t"), ("b", [], "t"), ("c", [], "t"), ("m", ["t", "t"], "u"), ("e", [], "u"), ("n", ["u"], "w")]⟩
def sg4 : Sig := ⟨[("ev", false), ("od", false), ("t", false), ("x", true)], [("z", [], "ev"), ("se", ["od"], "ev"), ("so", ["ev"], "od"), ("a", [], "t"), ("b", [], "t"), ("k", ["t", "x"], "x")]⟩
def sg5 : Sig := ⟨[("n", false)], [("z", [], "n"), ("s", ["n"], "n"), ("d", ["n", "n"], "n")]⟩
theorem perm_map_inv {α β : Type} {f : α → β} {a b : List β} (p : a.Perm b) : ∀ {l : List α}, b = l.map f → ∃ l' : List α, l'.Perm l ∧ a = l'.map f := by
  induction p with
  | nil => intro l e; exact ⟨l, .refl _, e⟩
  | cons x _ ih =>
    intro l e
    cases l with
    | nil => cases e
    | cons y l =>
      injection e with e1 e2
      obtain ⟨l', p1, e3⟩ := ih e2
      exact ⟨y :: l', p1.cons y, by rw [List.map_cons, e1, e3]⟩
  | swap x y r =>
    intro l e
    match l, e with
    | [], e => cases e
    | [_], e => injection e with _ e; cases e
    | u :: v :: l, e =>
      injection e with e1 e2
      injection e2 with e2 e3
      exact ⟨v :: u :: l, .swap u v l, by rw [List.map_cons, List.map_cons, e1, e2, e3]⟩
  | trans _ _ ih1 ih2 =>
    intro l e
    obtain ⟨l1, p1, e1⟩ := ih2 e
    obtain ⟨l2, p2, e2⟩ := ih1 e1
    exact ⟨l2, p2.trans p1, e2⟩
def sgB (g : Sig) : Bool := decide (1 ≤ g.kinds.length) && decide (g.kinds.length ≤ 4) && decide (1 ≤ g.makers.length) && decide (g.makers.length ≤ 8) && g.kinds.all (fun k => nameOk k.1) && g.makers.all fun m => nameOk m.1 && nameOk m.2.2 && m.2.1.all nameOk && decide (m.2.1.length ≤ 3)
structure SgG (g : Sig) : Prop where
  k1 : 1 ≤ g.kinds.length
  k4 : g.kinds.length ≤ 4
  m1 : 1 ≤ g.makers.length
  m8 : g.makers.length ≤ 8
  kn : ∀ k ∈ g.kinds, nameOk k.1 = true
  mn : ∀ m ∈ g.makers, nameOk m.1 = true ∧ nameOk m.2.2 = true ∧ (∀ a ∈ m.2.1, nameOk a = true) ∧ m.2.1.length ≤ 3
theorem sgB_of {g : Sig} (h : sgB g = true) : SgG g := by
  unfold sgB at h
  simp only [Bool.and_eq_true, decide_eq_true_eq, List.all_eq_true] at h
  obtain ⟨⟨⟨⟨⟨h1, h2⟩, h3⟩, h4⟩, h5⟩, h6⟩ := h
  exact ⟨h1, h2, h3, h4, h5, fun m hm => ⟨(h6 m hm).1.1.1, (h6 m hm).1.1.2, (h6 m hm).1.2, (h6 m hm).2⟩⟩
theorem SgG.perm {g g' : Sig} (h : SgG g) (p1 : g'.kinds.Perm g.kinds) (p2 : g'.makers.Perm g.makers) : SgG g' :=
  ⟨by rw [p1.length_eq]; exact h.k1, by rw [p1.length_eq]; exact h.k4, by rw [p2.length_eq]; exact h.m1, by rw [p2.length_eq]; exact h.m8, fun k hk => h.kn k (p1.mem_iff.mp hk), fun m hm => h.mn m (p2.mem_iff.mp hm)⟩
theorem kP_pd {p : Str × Bool} (h : nameOk p.1 = true) : Pd (kP p) := by
  refine ⟨kData p, fun M => .tup (.cons (.str _) (.cons (.str _) .nil)), ?_, ?_⟩
  · simp only [kData, PyData.canLay0, PyData.canLayAll0, nameOk_ok h, word_ok, Bool.and_self]
  · simp only [kData, PyData.depth, PyData.depthAll]
    decide
theorem mP_pd {m : Str × List Str × Str} (h : nameOk m.1 = true ∧ nameOk m.2.2 = true ∧ (∀ a ∈ m.2.1, nameOk a = true) ∧ m.2.1.length ≤ 3) : Pd (mP m) := by
  refine ⟨.tuple [.str m.1, .tuple (m.2.1.map PyData.str), .str m.2.2], fun M => .tup (.cons (.str _) (.cons (.tup (vwNames _)) (.cons (.str _) .nil))), ?_, ?_⟩
  · simp only [PyData.canLay0, PyData.canLayAll0, nameOk_ok h.1, nameOk_ok h.2.1, layNames h.2.2.1, Bool.and_self]
  · simp only [PyData.depth, PyData.depthAll, depNames]
    decide
def sgs : List Sig := [sg0, sg1, sg2, sg3, sg4, sg5]
theorem sgs_good : ∀ g ∈ sgs, sgB g = true := by decide +kernel
section
variable {L : Law} (S : MkL L)
include S
theorem ct_some_sig {n : Nat} {w : Addr} {a b c : Int} {M : MM} {Q : DV} {E : XD} (h : M w = some (wl a b c)) (q : ∀ g ∈ sgs, ∀ a' b' c', Q (sigD g) (up M w (wl a' b' c'))) : L.cl (n + 2) ("_law_some_sig", none) [.ref w] M Q E := by
  rw [Law.stp S.some_sig]
  walk_at "w"
  refine ct_draw S.dr h (by decide) (by decide) fun d a' b' c' d0 d1 => ?_
  walk_at "w"
  have q0 := q sg0 (by simp [sgs]) a' b' c'
  have q1 := q sg1 (by simp [sgs]) a' b' c'
  have q2 := q sg2 (by simp [sgs]) a' b' c'
  have q3 := q sg3 (by simp [sgs]) a' b' c'
  have q4 := q sg4 (by simp [sgs]) a' b' c'
  have q5 := q sg5 (by simp [sgs]) a' b' c'
  by_cases h0 : d = 0
  · refine bT (decide_eq_true h0) ?_
    walk_at "w"
    exact rt_ q0
  refine bF (decide_eq_false h0) ?_
  walk_at "w"
  by_cases h1 : d = 1
  · refine bT (decide_eq_true h1) ?_
    walk_at "w"
    exact rt_ q1
  refine bF (decide_eq_false h1) ?_
  walk_at "w"
  by_cases h2 : d = 2
  · refine bT (decide_eq_true h2) ?_
    walk_at "w"
    exact rt_ q2
  refine bF (decide_eq_false h2) ?_
  walk_at "w"
  by_cases h3 : d = 3
  · refine bT (decide_eq_true h3) ?_
    walk_at "w"
    exact rt_ q3
  refine bF (decide_eq_false h3) ?_
  walk_at "w"
  by_cases h4 : d = 4
  · refine bT (decide_eq_true h4) ?_
    walk_at "w"
    exact rt_ q4
  refine bF (decide_eq_false h4) ?_
  walk_at "w"
  exact rt_ q5
theorem ct_well {n : Nat} {ns : List Int} {lap : Nat} {M : MM} {Q : DV} {E : XD} (hl : ns.length ≤ 63) (q : ∀ w a b c, M w = none → Q (.ref w) (up M w (wl a b c))) : L.cl (n + 1) ("_law_well", none) [.lst (ns.map D.int), .int lap] M Q E := by
  rw [Law.stp S.well]
  walk_at "w"
  refine ⟨.inl (by decide), ?_⟩
  walk_at "w"
  have hc : ∀ x ∈ cutD (ns.map D.int) none (some 12), ∃ z, x = .int z := fun x hx => by
    have := List.mem_of_mem_drop (List.mem_of_mem_take hx)
    obtain ⟨z, _, e⟩ := List.mem_map.mp this
    exact ⟨z, e.symm⟩
  refine fo_all (fun i σ M' => M' = M ∧ ∃ (mx : Int) (o3 : Option D), σ = [some (.lst (ns.map D.int)), some (.int lap), some (.int mx), o3, none]) ?_ ?_ ?_ ⟨rfl, _, _, rfl⟩
  · intro i σ M' _
    exact trivial
  · intro i x hx K σ M' ⟨eM, mx, o3, eσ⟩ hK
    subst eM eσ
    obtain ⟨z, rfl⟩ := hc x (List.mem_of_getElem? hx)
    walk_at "w"
    refine ⟨.inr (by decide), ?_⟩
    walk_at "w"
    refine ⟨.inr (by decide), ?_⟩
    walk_at "w"
    exact hK _ _ ⟨rfl, _, _, rfl⟩
  intro σ M' ⟨eM, mx, o3, eσ⟩
  subst eM eσ
  walk_at "w"
  refine Bif_of (fun hk => ?_) (fun hk => ?_)
  · have hlt : lap < ns.length := by
      have := of_decide_eq_true hk
      rw [List.length_map] at this
      omega
    walk_at "w"
    refine ⟨.int ns[lap], atI_nat (by rw [List.getElem?_map, List.getElem?_eq_getElem hlt]; rfl), ?_⟩
    generalize ns[lap] = own
    walk_at "w"
    refine ⟨.inr (by decide), ?_⟩
    walk_at "w"
    refine ⟨.inr (by decide), ?_⟩
    walk_at "w"
    refine Bif_of (fun _ => ?_) (fun _ => ?_)
    · walk_at "w"
      intro w hw
      exact rt_ (q w _ _ _ hw)
    · walk_at "w"
      refine ⟨⟨by decide, by decide, by decide⟩, ?_⟩
      walk_at "w"
      refine Bif_of (fun _ => ?_) (fun _ => ?_)
      · walk_at "w"
        intro w hw
        exact rt_ (q w _ _ _ hw)
      · walk_at "w"
        intro w hw
        exact rt_ (q w _ _ _ hw)
  · generalize (0 : Int) = own
    walk_at "w"
    refine ⟨.inr (by decide), ?_⟩
    walk_at "w"
    refine ⟨.inr (by decide), ?_⟩
    walk_at "w"
    refine Bif_of (fun _ => ?_) (fun _ => ?_)
    · walk_at "w"
      intro w hw
      exact rt_ (q w _ _ _ hw)
    · walk_at "w"
      refine ⟨⟨by decide, by decide, by decide⟩, ?_⟩
      walk_at "w"
      refine Bif_of (fun _ => ?_) (fun _ => ?_)
      · walk_at "w"
        intro w hw
        exact rt_ (q w _ _ _ hw)
      · walk_at "w"
        intro w hw
        exact rt_ (q w _ _ _ hw)
theorem ct_turned {n : Nat} {w : Addr} {a b c : Int} {g : Sig} {M : MM} {Q : DV} {E : XD} (h : M w = some (wl a b c)) (G : SgG g) (q : ∀ g', SgG g' → ∀ a' b' c', Q (sigD g') (up M w (wl a' b' c'))) : L.cl (n + 3) ("_law_turned", none) [.ref w, sigD g] M Q E := by
  rw [Law.stp S.turned]
  walk_at "w"
  refine ct_mixed S.dr h (by have := G.k4; rw [List.length_map]; omega) (fun d hd => ?_) fun es pm a' b' c' => ?_
  · obtain ⟨p, hp, rfl⟩ := List.mem_map.mp hd
    exact kP_pd (G.kn p hp)
  obtain ⟨ks, p1, rfl⟩ := perm_map_inv pm rfl
  walk_at "w"
  refine ct_mixed S.dr up_same (by have := G.m8; rw [List.length_map]; omega) (fun d hd => ?_) fun es pm2 a2 b2 c2 => ?_
  · obtain ⟨p, hp, rfl⟩ := List.mem_map.mp hd
    exact mP_pd (G.mn p hp)
  obtain ⟨ms, p2, rfl⟩ := perm_map_inv pm2 rfl
  walk_at "w"
  rw [up_up]
  exact rt_ (q ⟨ks, ms⟩ (G.perm p1 p2) _ _ _)
theorem ct_sig {n : Nat} {w : Addr} {a b c : Int} {M : MM} {Q : DV} {E : XD} (h : M w = some (wl a b c)) (q : ∀ g', SgG g' → ∀ a' b' c', Q (sigD g') (up M w (wl a' b' c'))) : L.cl (n + 4) ("_law_sig", none) [.ref w] M Q E := by
  rw [Law.stp S.sig]
  walk_at "w"
  refine ct_some_sig S h fun g hg a' b' c' => ?_
  walk_at "w"
  refine ct_turned S up_same (sgB_of (sgs_good g hg)) fun g' G a2 b2 c2 => ?_
  rw [up_up]
  exact rt_ (q g' G _ _ _)
end
/-- things, whatever the heap -/
def TmF (d : D) : Prop := ∀ M, Tm M d
theorem TmF.tup {ds : List D} (h : ds.length ≤ 1000) (k : ∀ d ∈ ds, TmF d) : TmF (.tup ds) := fun M => .tup h fun d hd => k d hd M
mutual
def tmB : D → Bool
  | .non => true
  | .bl _ => true
  | .int _ => true
  | .str z => decide (z.length ≤ 1000)
  | .tup ds => decide (ds.length ≤ 1000) && tmBs ds
  | .lst _ => true
  | .dct _ _ => true
  | .ref _ => false
  | .ty _ => false
  | .wtp _ => false
def tmBs : List D → Bool
  | [] => true
  | d :: ds => tmB d && tmBs ds
end
mutual
theorem tmB_of : ∀ {d : D}, tmB d = true → TmF d
  | .non, _ => fun _ => .non
  | .bl b, _ => fun _ => .bl b
  | .int i, _ => fun _ => .int i
  | .str z, h => fun _ => .str (by unfold tmB at h; exact of_decide_eq_true h)
  | .tup ds, h => by
    unfold tmB at h
    rw [Bool.and_eq_true] at h
    exact TmF.tup (of_decide_eq_true h.1) (tmBs_of h.2)
  | .lst ds, _ => fun _ => .flst ds
  | .dct ks ds, _ => fun _ => .fdct ks ds
  | .ref a, h => by unfold tmB at h; cases h
  | .ty a, h => by unfold tmB at h; cases h
  | .wtp a, h => by unfold tmB at h; cases h
theorem tmBs_of : ∀ {ds : List D}, tmBs ds = true → ∀ d ∈ ds, TmF d
  | [], _, d, h => by cases h
  | x :: ds, h, d, hd => by
    unfold tmBs at h
    rw [Bool.and_eq_true] at h
    rcases List.mem_cons.mp hd with e | e
    · rw [e]; exact tmB_of h.1
    · exact tmBs_of h.2 d e
end
theorem tm_list {ds : List D} {d : D} (h : tmBs ds = true) (hd : d ∈ ds) : TmF d := tmBs_of h d hd
section
variable {L : Law} (S : MkL L)
include S
theorem ct_odd {n : Nat} {w : Addr} {a b c : Int} {M : MM} {Q : DV} {E : XD} (h : M w = some (wl a b c)) (q : ∀ d, TmF d → ∀ a' b' c', Q d (up M w (wl a' b' c'))) : L.cl (n + 3) ("_law_odd_thing", none) [.ref w] M Q E := by
  rw [Law.stp S.odd_thing]
  walk_at "w"
  refine ⟨⟨by decide, by decide, by decide⟩, ?_⟩
  walk_at "w"
  refine ct_one S.dr h (by simp) (by simp only [List.length_append, List.length_cons, List.length_nil]; omega) fun d hd a' b' c' => ?_
  exact rt_ (q d (tm_list (by decide +kernel) hd) _ _ _)
end
end RX.Lw
set_option Elab.async false
set_option linter.all false
set_option maxRecDepth 1000000
set_option maxHeartbeats 4000000
/-! LW6: _law_bent. -/
namespace RX.Lw
open PySem PySem.Spec PyProof.Rows L2 RX RX.Sg
local macro_rules | `(tactic| walk_at "w") => `(tactic| ((conv => whnf); repeat ((first | refine bT rfl ?_ | refine bF rfl ?_ | refine ⟨_, rfl, ?_⟩ | refine ⟨_, _, rfl, rfl, ?_⟩ | refine ⟨_, _, rfl, ?_⟩ | refine ⟨rfl, ?_⟩ | refine szA rfl ?_ | refine ⟨by decide, ?_⟩); (conv => whnf))))
theorem fo_brk {stab : MM → Prop} {g : DG} {b : DS} {E : DEnds} {xs : List D} {σ : DSt} {M : MM} (I : Nat → DSt → MM → Prop) (J : DSt → MM → Prop) (hs : ∀ i σ M, I i σ M → stab M)
    (h : ∀ i x, xs[i]? = some x → ∀ (K B : DSt → MM → Prop) σ M, I i σ M → (∀ σ' M', I (i + 1) σ' M' → K σ' M') → (∀ σ' M', J σ' M' → B σ' M') → g x σ M fun σ1 M1 => b { E with nx := K, ct := K, bk := B } σ1 M1)
    (hj : ∀ σ M, I xs.length σ M → J σ M) (he : ∀ σ M, J σ M → E.nx σ M) (i0 : I 0 σ M) : forD stab g b E xs σ M :=
  fo_all I hs (fun i x hx K σ M hi hk => h i x hx K E.nx σ M hi hk he) (fun σ M hi => he σ M (hj σ M hi)) i0
/-- a part of a signature -/
inductive Pt : D → Prop where
  | str {z : Str} : z.length ≤ 12 → Pt (.str z)
  | tup {ds : List D} : ds.length ≤ 24 → Pd (.tup ds) → (∀ d ∈ ds, Pt d) → Pt (.tup ds)
theorem Pt.tm {d : D} (h : Pt d) : TmF d := by
  induction h with
  | str h => exact fun M => .str (by omega)
  | tup h _ _ ih => exact TmF.tup (by omega) ih
theorem nameOk_len {z : Str} (h : nameOk z = true) : z.length ≤ 12 := by
  unfold nameOk at h
  simp only [Bool.and_eq_true, decide_eq_true_eq] at h
  exact h.1.1.2
theorem word_len (b : Bool) : (wordD b).length ≤ 12 := by cases b <;> decide +kernel
theorem pd_lvl {n : Nat} {ds : List D} (h : ∀ d ∈ ds, ∃ p, (∀ M, Vw M d p) ∧ PyData.canLay0 p = true ∧ PyData.depth p ≤ n) : ∃ p, (∀ M, Vw M (.tup ds) p) ∧ PyData.canLay0 p = true ∧ PyData.depth p ≤ n + 1 := by
  have : ∃ ps, (∀ M, VwL M ds ps) ∧ PyData.canLayAll0 ps = true ∧ PyData.depthAll ps ≤ n := by
    induction ds with
    | nil => exact ⟨[], fun _ => .nil, rfl, by simp [PyData.depthAll]⟩
    | cons d ds ih =>
      obtain ⟨p, h1, h2, h3⟩ := h d (by simp)
      obtain ⟨ps, g1, g2, g3⟩ := ih fun x hx => h x (List.mem_cons_of_mem _ hx)
      refine ⟨p :: ps, fun M => .cons (h1 M) (g1 M), ?_, ?_⟩
      · simp only [PyData.canLayAll0, h2, g2, Bool.and_self]
      · simp only [PyData.depthAll]
        omega
  obtain ⟨ps, h1, h2, h3⟩ := this
  refine ⟨.tuple ps, fun M => .tup (h1 M), by simp only [PyData.canLay0]; exact h2, ?_⟩
  simp only [PyData.depth]
  omega
theorem pd_tup {ds : List D} (h : ∀ d ∈ ds, ∃ p, (∀ M, Vw M d p) ∧ PyData.canLay0 p = true ∧ PyData.depth p ≤ 10) : Pd (.tup ds) := by
  obtain ⟨p, h1, h2, h3⟩ := pd_lvl h
  exact ⟨p, h1, h2, by omega⟩
theorem kP_d {p : Str × Bool} (h : nameOk p.1 = true) {n : Nat} : ∃ q, (∀ M, Vw M (kP p) q) ∧ PyData.canLay0 q = true ∧ PyData.depth q ≤ n + 5 := by
  refine ⟨kData p, fun M => .tup (.cons (.str _) (.cons (.str _) .nil)), ?_, ?_⟩
  · simp only [kData, PyData.canLay0, PyData.canLayAll0, nameOk_ok h, word_ok, Bool.and_self]
  · simp only [kData, PyData.depth, PyData.depthAll]
    omega
theorem mP_d {m : Str × List Str × Str} (h : nameOk m.1 = true ∧ nameOk m.2.2 = true ∧ (∀ a ∈ m.2.1, nameOk a = true) ∧ m.2.1.length ≤ 3) {n : Nat} : ∃ q, (∀ M, Vw M (mP m) q) ∧ PyData.canLay0 q = true ∧ PyData.depth q ≤ n + 5 := by
  refine ⟨.tuple [.str m.1, .tuple (m.2.1.map PyData.str), .str m.2.2], fun M => .tup (.cons (.str _) (.cons (.tup (vwNames _)) (.cons (.str _) .nil))), ?_, ?_⟩
  · simp only [PyData.canLay0, PyData.canLayAll0, nameOk_ok h.1, nameOk_ok h.2.1, layNames h.2.2.1, Bool.and_self]
  · simp only [PyData.depth, PyData.depthAll, depNames]
    omega
theorem st_d {z : Str} (h : PyData.strOk z = true) : ∃ q, (∀ M, Vw M (.str z) q) ∧ PyData.canLay0 q = true ∧ PyData.depth q ≤ 10 := ⟨.str z, fun M => .str z, by simp only [PyData.canLay0]; exact h, by simp [PyData.depth]⟩
theorem kP_pt {p : Str × Bool} (h : nameOk p.1 = true) : Pt (kP p) := by
  refine .tup (show 2 ≤ 24 by decide) (kP_pd h) fun d hd => ?_
  rcases List.mem_cons.mp hd with e | hd
  · rw [e]; exact .str (nameOk_len h)
  · rw [List.mem_singleton.mp hd]
    exact .str (word_len _)
theorem names_pt {as : List Str} (h : ∀ a ∈ as, nameOk a = true) (hl : as.length ≤ 3) : Pt (.tup (as.map D.str)) := by
  refine .tup (by rw [List.length_map]; omega) (pd_tup fun d hd => ?_) fun d hd => ?_
  · obtain ⟨a, ha, rfl⟩ := List.mem_map.mp hd
    exact st_d (nameOk_ok (h a ha))
  · obtain ⟨a, ha, rfl⟩ := List.mem_map.mp hd
    exact .str (nameOk_len (h a ha))
theorem mP_pt {m : Str × List Str × Str} (h : nameOk m.1 = true ∧ nameOk m.2.2 = true ∧ (∀ a ∈ m.2.1, nameOk a = true) ∧ m.2.1.length ≤ 3) : Pt (mP m) := by
  refine .tup (show 3 ≤ 24 by decide) (mP_pd h) fun d hd => ?_
  rcases List.mem_cons.mp hd with e | hd
  · rw [e]; exact .str (nameOk_len h.1)
  rcases List.mem_cons.mp hd with e | hd
  · rw [e]; exact names_pt h.2.2.1 h.2.2.2
  · rw [List.mem_singleton.mp hd]
    exact .str (nameOk_len h.2.1)
theorem kinds_pt {g : Sig} (G : SgG g) : Pt (.tup (g.kinds.map kP)) := by
  refine .tup (by have := G.k4; rw [List.length_map]; omega) (pd_tup fun d hd => ?_) fun d hd => ?_
  · obtain ⟨p, hp, rfl⟩ := List.mem_map.mp hd
    exact kP_d (G.kn p hp) (n := 5)
  · obtain ⟨p, hp, rfl⟩ := List.mem_map.mp hd
    exact kP_pt (G.kn p hp)
theorem makers_pt {g : Sig} (G : SgG g) : Pt (.tup (g.makers.map mP)) := by
  refine .tup (by have := G.m8; rw [List.length_map]; omega) (pd_tup fun d hd => ?_) fun d hd => ?_
  · obtain ⟨p, hp, rfl⟩ := List.mem_map.mp hd
    exact mP_d (G.mn p hp) (n := 5)
  · obtain ⟨p, hp, rfl⟩ := List.mem_map.mp hd
    exact mP_pt (G.mn p hp)
theorem sig_pt {g : Sig} (G : SgG g) : Pt (sigD g) := by
  have e1 := pd_lvl (n := 5) (ds := g.kinds.map kP) fun d hd => by
    obtain ⟨p, hp, rfl⟩ := List.mem_map.mp hd
    exact kP_d (G.kn p hp) (n := 0)
  have e2 := pd_lvl (n := 5) (ds := g.makers.map mP) fun d hd => by
    obtain ⟨p, hp, rfl⟩ := List.mem_map.mp hd
    exact mP_d (G.mn p hp) (n := 0)
  refine .tup (show 2 ≤ 24 by decide) (pd_tup fun d hd => ?_) fun d hd => ?_
  · rcases List.mem_cons.mp hd with e | hd
    · rw [e]
      obtain ⟨p, h1, h2, h3⟩ := e1
      exact ⟨p, h1, h2, by omega⟩
    · rw [List.mem_singleton.mp hd]
      obtain ⟨p, h1, h2, h3⟩ := e2
      exact ⟨p, h1, h2, by omega⟩
  · rcases List.mem_cons.mp hd with e | hd
    · rw [e]; exact kinds_pt G
    · rw [List.mem_singleton.mp hd]; exact makers_pt G
end RX.Lw
set_option Elab.async false
set_option linter.all false
set_option maxRecDepth 1000000
set_option maxHeartbeats 4000000
/-! LW7: _law_bent. -/
namespace RX.Lw
open PySem PySem.Spec PyProof.Rows L2 RX RX.Sg
local macro_rules | `(tactic| walk_at "w") => `(tactic| ((conv => whnf); repeat ((first | refine bT rfl ?_ | refine bF rfl ?_ | refine ⟨_, rfl, ?_⟩ | refine ⟨_, _, rfl, rfl, ?_⟩ | refine ⟨_, _, rfl, ?_⟩ | refine ⟨rfl, ?_⟩ | refine szA rfl ?_ | refine ⟨by decide, ?_⟩); (conv => whnf))))
def pathD (e : List D × Nat) : D := .tup [.tup e.1, .int e.2]
def PaOk (e : List D × Nat) : Prop := e.1.length ≤ 24 ∧ e.2 < e.1.length ∧ ∀ d ∈ e.1, Pt d
theorem eqr_tup {M : MM} {ds : List D} (h : Pd (.tup ds)) : EqR M (.tup ds) (.tup []) ds.isEmpty := by
  obtain ⟨p, h1, h2, h3⟩ := h
  have sh : ∀ p : PyData, PyData.canLay0 p = true → PyData.depth p ≤ 20 → SeqAt.shaped p = true := fun p a b => by
    unfold SeqAt.shaped
    rw [a, decide_eq_true (by omega)]
    rfl
  have e := EqR.dat (M := M) (h1 M) (Vw.tup .nil) (sh p h2 h3) (sh _ (by simp [PyData.canLay0, PyData.canLayAll0]) (by simp [PyData.depth, PyData.depthAll]))
  have e2 : PyData.eqv p (.tuple []) = ds.isEmpty := by
    cases h1 M with
    | tup v =>
      cases v with
      | nil => simp [PyData.eqv, PyData.eqvAll]
      | cons _ _ => simp [PyData.eqv, PyData.eqvAll]
  rw [e2] at e
  exact e
theorem cut_mem {xs : List D} {lo hi : Option Int} {d : D} (h : d ∈ cutD xs lo hi) : d ∈ xs := List.mem_of_mem_drop (List.mem_of_mem_take h)
theorem cut_len (xs : List D) (lo hi : Option Int) : (cutD xs lo hi).length ≤ xs.length := by
  unfold cutD
  rw [List.length_take, List.length_drop]
  omega
theorem cutS_len (z : Str) (lo hi : Option Int) : (cutS z lo hi).length ≤ z.length := by
  unfold cutS Str.length
  rw [List.size_toArray, List.length_take, List.length_drop, Array.length_toList]
  omega
theorem app_len (a b : Str) : (a ++ b).length = a.length + b.length := by
  show (a.cps ++ b.cps).size = _
  rw [Array.size_append]
  rfl
def bentTail : CSs := .cons (.for_ (.tup (.cons (.name 7) (.cons (.name 5) .nil))) (.seq (.rev true (.var 2))) (.cons (.asg (.name 3) (.bin .Add true (.bin .Add true (.slc true (.var 7) .no (.yes (.var 5))) (.tup (.cons (.var 3) .nil))) (.slc true (.var 7) (.yes (.bin .Add true (.var 5) (.int 1))) .no))) .nil)) (.cons (.ret (.var 3)) .nil)
theorem bent_tail {Γ : Gam} {E : ED} {D0 : DEnds} {x0 x1 : D} {p : Addr} {path : List (List D × Nat)} {here : D} {o4 o5 o6 o7 : Option D} {M1 : MM} (e1 : M1 p = some (.lst (path.map pathD))) (po : ∀ e ∈ path, PaOk e) (t : TmF here) (q : ∀ d, TmF d → D0.rt d M1) :
    wpSs Γ E bentTail D0 [some x0, some x1, some (.ref p), some here, o4, o5, o6, o7] M1 := by
  walk_at "w"
  refine ⟨_, lsOf_ref e1, ?_⟩
  walk_at "w"
  refine fo_all (fun i σ M' => M' = M1 ∧ ∃ (here : D) (o5 o7 : Option D), σ = [some x0, some x1, some (.ref p), some here, o4, o5, o6, o7] ∧ TmF here) ?_ ?_ ?_ ⟨rfl, here, _, _, rfl, t⟩
  · intro i σ M' _
    exact trivial
  · intro i x hx K σ M' ⟨eM, here, o5, o7, eσ, t⟩ hK
    subst eM eσ
    have hm : x ∈ path.map pathD := List.mem_reverse.mp (List.mem_of_getElem? hx)
    obtain ⟨⟨ds, at'⟩, he, rfl⟩ := List.mem_map.mp hm
    obtain ⟨h1, h2, h3⟩ := po _ he
    simp only at h1 h2 h3
    walk_at "w"
    have l1 := cut_len ds none (some (at' : Int))
    have l2 := cut_len ds (some ((at' : Int) + 1)) none
    refine ⟨by simp only [List.length_cons, List.length_nil, sizeLine]; omega, ?_⟩
    walk_at "w"
    refine ⟨by simp only [List.length_append, List.length_cons, List.length_nil, sizeLine]; omega, ?_⟩
    walk_at "w"
    refine hK _ _ ⟨rfl, _, _, _, rfl, TmF.tup (by simp only [List.length_append, List.length_cons, List.length_nil]; omega) fun d hd => ?_⟩
    rcases List.mem_append.mp hd with hd | hd
    · rcases List.mem_append.mp hd with hd | hd
      · exact (h3 d (cut_mem hd)).tm
      · rw [List.mem_singleton.mp hd]; exact t
    · exact (h3 d (cut_mem hd)).tm
  · intro σ M' ⟨eM, here, o5, o7, eσ, t⟩
    subst eM eσ
    walk_at "w"
    exact q here t
theorem ix_all {xs : List D} {k : Int} {Q : D → Prop} (h0 : 0 ≤ k) (h1 : k < xs.length) (q : ∀ d ∈ xs, Q d) : ∃ d, atI xs k = some d ∧ Q d := by
  have hk : k.toNat < xs.length := by omega
  have := atI_nat (xs := xs) (k := k.toNat) (List.getElem?_eq_getElem hk)
  rw [Int.toNat_of_nonneg h0] at this
  exact ⟨_, this, q _ (List.getElem_mem hk)⟩
theorem z_tm : TmF (.tup [.str "z"]) := tmB_of (by decide +kernel)
section
variable {L : Law} (S : MkL L)
include S
theorem ct_whole {n : Nat} {x : D} {M : MM} {Q : DV} {E : XD} (t : Pt x) (q : Q (.bl false) M) : L.cl (n + 1) ("_law_is_whole", none) [x] M Q E := by
  rw [Law.stp S.is_whole]
  cases t with
  | str h => walk_at "w"; exact rt_ q
  | tup h1 h2 h3 => walk_at "w"; exact rt_ q
theorem ct_bent {n : Nat} {w : Addr} {a b c : Int} {g : Sig} {M : MM} {Q : DV} {E : XD} (h : M w = some (wl a b c)) (G : SgG g) (q : ∀ d, TmF d → ∀ a' b' c', Q d (up M w (wl a' b' c'))) : L.cl (n + 4) ("_law_bent", none) [.ref w, sigD g] M Q E := by
  rw [Law.stp S.bent]
  walk_at "w"
  intro p hp
  have npw : p ≠ w := fun e => by rw [e, h] at hp; cases hp
  walk_at "w"
  refine ct_draw S.dr ((up_ne (Ne.symm npw)).trans h) (by decide) (by decide) fun d a' b' c' d0 d1 => ?_
  walk_at "w"
  refine ⟨by omega, by omega, ?_⟩
  walk_at "w"
  refine fo_brk (fun i σ M' => i ≤ 6 ∧ ∃ (path : List (List D × Nat)) (here : D) (a b c : Int) (o4 o5 : Option D), σ = [some (.ref w), some (sigD g), some (.ref p), some here, o4, o5, none, none] ∧ M' p = some (.lst (path.map pathD)) ∧ M' w = some (wl a b c) ∧ Pt here ∧ (∀ e ∈ path, PaOk e) ∧ path.length ≤ i ∧ ∀ x, x ≠ p → x ≠ w → M' x = M x)
    (fun σ M' => ∃ (path : List (List D × Nat)) (here : D) (a b c : Int) (o4 o5 : Option D), σ = [some (.ref w), some (sigD g), some (.ref p), some here, o4, o5, none, none] ∧ M' p = some (.lst (path.map pathD)) ∧ M' w = some (wl a b c) ∧ Pt here ∧ (∀ e ∈ path, PaOk e) ∧ path.length ≤ 6 ∧ ∀ x, x ≠ p → x ≠ w → M' x = M x) ?_ ?_ ?_ ?_
    ⟨by omega, [], sigD g, a', b', c', _, _, rfl, (up_ne npw).trans up_same, up_same, sig_pt G, fun _ h => (by cases h), by simp, fun x h1 h2 => (up_ne h2).trans (up_ne h1)⟩
  · intro i σ M' _
    exact trivial
  · intro i x hx K B σ M' ⟨hi, path, here, a, b, c, o4, o5, eσ, e1, e2, pt, po, pl, ho⟩ hK hB
    subst eσ
    have hi6 : i < 6 := by
      have := (List.getElem?_eq_some_iff.mp hx).1
      rw [rngD_len] at this
      omega
    have brk : B [some (.ref w), some (sigD g), some (.ref p), some here, some x, o5, none, none] M' := hB _ _ ⟨path, here, a, b, c, _, _, rfl, e1, e2, pt, po, by omega, ho⟩
    cases pt with
    | str hz =>
      walk_at "w"
      exact brk
    | tup hl hpd ht =>
      rename_i ds
      walk_at "w"
      refine ⟨_, eqr_tup hpd, ?_⟩
      cases ds with
      | nil =>
        walk_at "w"
        exact brk
      | cons y ys =>
        walk_at "w"
        refine ct_draw S.dr e2 (by simp only [List.length_cons]; omega) (by simp only [List.length_cons] at hl ⊢; omega) fun d a2 b2 c2 d0 d1 => ?_
        simp only [List.length_cons] at d1
        have hk : d.toNat < (y :: ys).length := by simp only [List.length_cons]; omega
        have ed : ((d.toNat : Nat) : Int) = d := Int.toNat_of_nonneg d0
        walk_at "w"
        refine ⟨⟨_, lsOf_ref ((up_ne npw).trans e1)⟩, ?_⟩
        walk_at "w"
        refine ⟨p, _, rfl, (up_ne npw).trans e1, by rw [List.length_map]; simp only [sizeLine]; omega, ?_⟩
        walk_at "w"
        have at' := atI_nat (xs := y :: ys) (k := d.toNat) (List.getElem?_eq_getElem hk)
        rw [ed] at at'
        refine ⟨_, at', ?_⟩
        walk_at "w"
        refine hK _ _ ⟨by omega, path ++ [(y :: ys, d.toNat)], (y :: ys)[d.toNat], a2, b2, c2, _, _, rfl, ?_, (up_ne (Ne.symm npw)).trans up_same, ht _ (List.getElem_mem hk), fun e he => ?_, by simp only [List.length_append, List.length_cons, List.length_nil]; omega, fun x h1 h2 => by rw [up_ne h1, up_ne h2]; exact ho x h1 h2⟩
        · rw [up_same, List.map_append]
          show some (DO.lst (path.map pathD ++ [D.tup [.tup (y :: ys), .int d]])) = some (DO.lst (path.map pathD ++ [D.tup [.tup (y :: ys), .int (d.toNat : Nat)]]))
          rw [ed]
        · rcases List.mem_append.mp he with h | h
          · exact po e h
          · rw [List.mem_singleton.mp h]
            exact ⟨hl, hk, ht⟩
  · intro σ M' ⟨hi, path, here, a, b, c, o4, o5, h1, h2, h3, h4, h5, h6, h7⟩
    exact ⟨path, here, a, b, c, o4, o5, h1, h2, h3, h4, h5, by omega, h7⟩
  intro σ M' ⟨path, here, a, b, c, o4, o5, eσ, e1, e2, pt, po, pl, ho⟩
  subst eσ
  walk_at "w"
  refine ct_draw S.dr e2 (by decide) (by decide) fun way a2 b2 c2 w0 w1 => ?_
  have fin : ∀ (M3 : MM) (a b c : Int), M3 w = some (wl a b c) → (∀ x, x ≠ p → x ≠ w → M3 x = M x) → ∀ d, TmF d → retD Q d M3 := fun M3 a b c h1 h2 d t => ⟨up M w (wl a b c), fun x o hx => by
    by_cases hw : x = w
    · subst hw
      rw [up_same] at hx
      cases hx
      exact h1
    · rw [up_ne hw] at hx
      have hxp : x ≠ p := fun e => by rw [e, hp] at hx; cases hx
      rw [h2 x hxp hw]
      exact hx, q d t a b c⟩
  have p3 : (up M' w (wl a2 b2 c2)) p = some (.lst (path.map pathD)) := (up_ne npw).trans e1
  have o3 : ∀ x, x ≠ p → x ≠ w → (up M' w (wl a2 b2 c2)) x = M x := fun x h1 h2 => by rw [up_ne h2]; exact ho x h1 h2
  cases pt with
  | tup hl hpd ht =>
    rename_i ds
    walk_at "w"
    by_cases h7 : way < 7
    · refine bT (decide_eq_true h7) ?_
      walk_at "w"
      have l1 := cut_len ds (some (-1)) none
      have l2 := cut_len ds none (some (-1))
      have l3 := cut_len ds (some 1) none
      refine ⟨by simp only [sizeLine]; omega, ?_⟩
      walk_at "w"
      refine ⟨by simp only [List.length_cons, List.length_nil, sizeLine]; omega, ?_⟩
      walk_at "w"
      refine ix_all w0 (by simp only [List.length_cons, List.length_nil]; omega) fun d hd => ?_
      have tds : ∀ d ∈ ds, TmF d := fun d hd => (ht d hd).tm
      have t : TmF d := by
        rcases List.mem_cons.mp hd with e | hd
        · rw [e]; exact fun _ => .flst ds
        rcases List.mem_cons.mp hd with e | hd
        · rw [e]; exact TmF.tup (by omega) fun d hd => tds d (cut_mem hd)
        rcases List.mem_cons.mp hd with e | hd
        · rw [e]
          refine TmF.tup (by rw [List.length_append]; omega) fun d hd => ?_
          rcases List.mem_append.mp hd with h | h
          · exact tds d h
          · exact tds d (cut_mem h)
        rcases List.mem_cons.mp hd with e | hd
        · rw [e]; exact TmF.tup (by omega) fun d hd => tds d (cut_mem hd)
        rcases List.mem_cons.mp hd with e | hd
        · rw [e]; exact TmF.tup (by rw [List.length_reverse]; omega) fun d hd => tds d (List.mem_reverse.mp hd)
        rcases List.mem_cons.mp hd with e | hd
        · rw [e]
          refine TmF.tup (by simp only [List.length_append, List.length_cons, List.length_nil]; omega) fun d hd => ?_
          rcases List.mem_append.mp hd with h | h
          · exact tds d h
          · rw [List.mem_singleton.mp h]; exact z_tm
        · rw [List.mem_singleton.mp hd]
          exact TmF.tup (by simp) fun d hd => by rw [List.mem_singleton.mp hd]; exact TmF.tup (by omega) tds
      refine bent_tail (path := path) p3 po t (fin _ a2 b2 c2 up_same o3)
    · refine bF (decide_eq_false h7) ?_
      walk_at "w"
      refine ct_whole S (.tup hl hpd ht) ?_
      walk_at "w"
      refine ct_odd S up_same fun d t a4 b4 c4 => ?_
      refine bent_tail (path := path) ((up_ne npw).trans p3) po t (fin _ a4 b4 c4 up_same fun x h1 h2 => by rw [up_ne h2]; exact o3 x h1 h2)
  | str hz =>
    walk_at "w"
    refine ct_whole S (.str hz) ?_
    walk_at "w"
    by_cases h7 : way < 7
    · refine bT (decide_eq_true h7) ?_
      walk_at "w"
      have la : ("a" : Str).length = 1 := by decide +kernel
      have lu : ("_234567890ab" : Str).length = 12 := by decide +kernel
      have l1 : ("1" : Str).length = 1 := by decide +kernel
      refine ⟨by rw [la]; simp only [sizeLine]; omega, ?_⟩
      walk_at "w"
      refine ⟨by simp only [sizeLine]; omega, ?_⟩
      walk_at "w"
      refine ⟨⟨_, rfl⟩, ?_⟩
      walk_at "w"
      refine ⟨by omega, ?_⟩
      walk_at "w"
      refine ⟨by rw [lu]; simp only [sizeLine]; omega, ?_⟩
      walk_at "w"
      refine ⟨by rw [l1]; simp only [sizeLine]; omega, ?_⟩
      walk_at "w"
      refine ix_all w0 (by simp only [List.length_cons, List.length_nil]; omega) fun d hd => ?_
      rename_i z
      have lup := PyProof.Rows.len_upper z
      have lcut := cutS_len z (some 1) none
      have st : ∀ y : Str, y.length ≤ 1000 → TmF (.str y) := fun y hy _ => .str hy
      have t : TmF d := by
        rcases List.mem_cons.mp hd with e | hd
        · rw [e]; exact st _ (by rw [app_len, la]; omega)
        rcases List.mem_cons.mp hd with e | hd
        · rw [e]; exact st _ (by omega)
        rcases List.mem_cons.mp hd with e | hd
        · rw [e]; exact st _ (by omega)
        rcases List.mem_cons.mp hd with e | hd
        · rw [e]; exact tmB_of (by decide +kernel)
        rcases List.mem_cons.mp hd with e | hd
        · rw [e]; exact tmB_of (by decide +kernel)
        rcases List.mem_cons.mp hd with e | hd
        · rw [e]; exact st _ (by rw [app_len, lu]; omega)
        · rw [List.mem_singleton.mp hd]; exact st _ (by rw [app_len, l1]; omega)
      refine bent_tail (path := path) p3 po t (fin _ a2 b2 c2 up_same o3)
    · refine bF (decide_eq_false h7) ?_
      walk_at "w"
      refine ct_odd S up_same fun d t a4 b4 c4 => ?_
      refine bent_tail (path := path) ((up_ne npw).trans p3) po t (fin _ a4 b4 c4 up_same fun x h1 h2 => by rw [up_ne h2]; exact o3 x h1 h2)
end
end RX.Lw
set_option Elab.async false
set_option linter.all false
set_option maxRecDepth 1000000
set_option maxHeartbeats 4000000
/-! LW8: _law_things. -/
namespace RX.Lw
open PySem PySem.Spec PyProof.Rows L2 RX RX.Sg
local macro_rules | `(tactic| walk_at "w") => `(tactic| ((conv => whnf); repeat ((first | refine bT rfl ?_ | refine bF rfl ?_ | refine ⟨_, rfl, ?_⟩ | refine ⟨_, _, rfl, rfl, ?_⟩ | refine ⟨_, _, rfl, ?_⟩ | refine ⟨rfl, ?_⟩ | refine szA rfl ?_ | refine ⟨by decide, ?_⟩); (conv => whnf))))
/-- a row of things, so many at most -/
structure TmN (n : Nat) (ds : List D) : Prop where
  len : ds.length ≤ n
  all : ∀ d ∈ ds, TmF d
theorem TmN.nil : TmN 0 [] := ⟨Nat.le_refl _, fun _ h => by cases h⟩
theorem TmN.cons {n : Nat} {d : D} {ds : List D} (h : TmF d) (t : TmN n ds) : TmN (n + 1) (d :: ds) := ⟨Nat.succ_le_succ t.len, fun x hx => by
  rcases List.mem_cons.mp hx with e | e
  · rw [e]; exact h
  · exact t.all x e⟩
theorem TmN.app {n m : Nat} {xs ys : List D} (a : TmN n xs) (b : TmN m ys) : TmN (n + m) (xs ++ ys) := ⟨by rw [List.length_append]; have := a.len; have := b.len; omega, fun x hx => by
  rcases List.mem_append.mp hx with e | e
  · exact a.all x e
  · exact b.all x e⟩
theorem TmN.cut {n : Nat} {xs : List D} {lo hi : Option Int} (a : TmN n xs) : TmN n (cutD xs lo hi) := ⟨Nat.le_trans (cut_len ..) a.len, fun x hx => a.all x (cut_mem hx)⟩
theorem TmN.tup {n : Nat} {ds : List D} (a : TmN n ds) (h : n ≤ 1000) : TmF (.tup ds) := TmF.tup (Nat.le_trans a.len h) a.all
theorem TmN.sz {n : Nat} {ds : List D} (a : TmN n ds) (h : n ≤ 1000) : ds.length ≤ sizeLine := Nat.le_trans a.len (Nat.le_trans h (by decide))
theorem TmN.sz2 {n m : Nat} {xs ys : List D} (a : TmN n xs) (b : TmN m ys) (h : n + m ≤ 1000) : xs.length + ys.length ≤ sizeLine := Nat.le_trans (Nat.add_le_add a.len b.len) (Nat.le_trans h (by decide))
theorem tmf_str {z : Str} (h : z.length ≤ 1000) : TmF (.str z) := fun _ => .str h
theorem tmf_non : TmF .non := fun _ => .non
theorem tmf_lst (ds : List D) : TmF (.lst ds) := fun _ => .flst ds
theorem rng_mem : ∀ (n : Nat) (lo : Int) (x : D), x ∈ rngD lo n → ∃ i : Nat, x = .int (lo + i) ∧ i < n
  | 0, _, _, h => by cases h
  | n + 1, lo, x, h => by
    rcases List.mem_cons.mp h with e | e
    · exact ⟨0, by rw [e]; simp, by omega⟩
    · obtain ⟨i, e1, e2⟩ := rng_mem n (lo + 1) x e
      exact ⟨i + 1, by rw [e1]; congr 1; push_cast; omega, by omega⟩
theorem ts_len : ∀ i : Nat, i < 30 → ((toString (i : Int) : String) : Str).length ≤ 2 := by decide +kernel
theorem TmN.mono {n m : Nat} {ds : List D} (a : TmN n ds) (h : n ≤ m) : TmN m ds := ⟨Nat.le_trans a.len h, a.all⟩
local macro_rules | `(tactic| walk_at "v") => `(tactic| ((conv => whnf); repeat ((first | refine bT rfl ?_ | refine bF rfl ?_ | refine ⟨_, rfl, ?_⟩ | refine ⟨_, _, rfl, rfl, ?_⟩ | refine ⟨_, _, rfl, ?_⟩ | refine ⟨rfl, ?_⟩ | refine szA rfl ?_ | refine ⟨by decide, ?_⟩ | refine ⟨(by simp only [List.length_append, List.length_cons, List.length_nil, List.length_map, sizeLine] <;> omega), ?_⟩); (conv => whnf))))
def _root_.RX.CSs.tk : Nat → CSs → CSs
  | 0, _ => .nil
  | _ + 1, .nil => .nil
  | k + 1, .cons s ss => .cons s (ss.tk k)
def _root_.RX.CSs.dp : Nat → CSs → CSs
  | 0, ss => ss
  | _ + 1, .nil => .nil
  | k + 1, .cons _ ss => ss.dp k
theorem wpSs_cut {Γ : Gam} {E : ED} {D : DEnds} : ∀ (k : Nat) (ss : CSs), wpSs Γ E ss D = wpSs Γ E (ss.tk k) { D with nx := wpSs Γ E (ss.dp k) D }
  | 0, ss => by
    funext σ M
    unfold CSs.tk CSs.dp
    conv => rhs; unfold wpSs
  | _ + 1, .nil => by
    funext σ M
    unfold CSs.tk CSs.dp wpSs
    rfl
  | k + 1, .cons s ss => by
    funext σ M
    have ih := wpSs_cut (Γ := Γ) (E := E) (D := D) k ss
    show wpSs Γ E (.cons s ss) D σ M = wpSs Γ E (.cons s (ss.tk k)) { D with nx := wpSs Γ E (ss.dp k) D } σ M
    conv => lhs; unfold wpSs
    conv => rhs; unfold wpSs
    show wpS Γ E s { D with nx := wpSs Γ E ss D } σ M = wpS Γ E s { D with nx := wpSs Γ E (ss.tk k) { D with nx := wpSs Γ E (ss.dp k) D } } σ M
    rw [ih]
/-- the first k statements, then the others -/
theorem sqn {Γ : Gam} {E : ED} {D : DEnds} {ss : CSs} {σ : DSt} {M : MM} (k : Nat) (J : DSt → MM → Prop) (h : ∀ r : DSt → MM → Prop, (∀ σ' M', J σ' M' → r σ' M') → wpSs Γ E (ss.tk k) { D with nx := r } σ M)
    (t : ∀ σ' M', J σ' M' → wpSs Γ E (ss.dp k) D σ' M') : wpSs Γ E ss D σ M := by
  rw [wpSs_cut k ss]
  exact h _ t
def kf (s : Str) (rest : List D) : D → D
  | .int i => .tup (.str (s ++ toString i) :: rest)
  | _ => .non
theorem lg30 : ∀ j : Nat, j < 30 → ((0 : Int) + j).natAbs.log2 < 1920 := by decide
theorem kl30 : ∀ j : Nat, j < 30 → (toString ((0 : Int) + j) : Str).length ≤ 2 := by decide +kernel
theorem kf_tm {s : Str} {rest : List D} {m : Nat} (hs : s.length ≤ 12) (hr : TmN 5 rest) (hm : m ≤ 25) : TmN m ((rngD 0 m).map (kf s rest)) := by
  refine ⟨by rw [List.length_map, rngD_len]; exact Nat.le_refl _, fun d hd => ?_⟩
  obtain ⟨x, hx, rfl⟩ := List.mem_map.mp hd
  obtain ⟨j, rfl, hj⟩ := rng_mem _ _ _ hx
  refine (TmN.cons (tmf_str ?_) hr).tup (by decide)
  rw [app_len]
  have := kl30 j (by omega)
  omega
def TSt (w : Addr) (g : Sig) (ks ms : List D) (nm wd own made : Str) (args : List Str) (at' : Int) (M : MM) (n : Nat) (v11 v13 v14 : Option D) (σ : DSt) (M' : MM) : Prop := ∃ (xs : List D) (o12 : Option D), TmN n xs ∧ M = M' ∧ σ = [some (.ref w), some (sigD g), some (.tup ks), some (.tup ms), some (.str nm), some (.str wd), some (.int at'), some (.str own), some (.tup (args.map D.str)), some (.str made), some (.lst xs), v11, o12, v13, v14]
theorem ar_mul {xs : List D} {k : Int} {Q : Prop} (h1 : xs ≠ []) (h2 : 2 ≤ k) (h3 : k ≤ 1000) (h4 : xs.length ≤ 1000) (q : Q) : xs ≠ [] ∧ 2 ≤ k ∧ k ≤ 1000 ∧ xs.length ≤ 1000 ∧ Q := ⟨h1, h2, h3, h4, q⟩
local macro_rules | `(tactic| walk_at "t") => `(tactic| repeat' (first | assumption | exact TmN.nil | exact tmf_lst _ | exact tmf_non | exact tmB_of (by decide +kernel) | apply TmN.cut | apply TmN.app | apply TmN.cons | apply TmN.tup | decide))
section
variable {L : Law} (S : MkL L)
include S
theorem ct_things {n : Nat} {w : Addr} {a b c : Int} {g : Sig} {M : MM} {Q : DV} {E : XD} (h : M w = some (wl a b c)) (G : SgG g) (q : ∀ ds, TmN 60 ds → ∀ a' b' c', Q (.lst ds) (up M w (wl a' b' c'))) : L.cl (n + 5) ("_law_things", none) [.ref w, sigD g] M Q E := by
  rw [Law.stp S.things]
  have k1 := G.k1
  have k4 := G.k4
  have m1 := G.m1
  have m8 := G.m8
  have hk : TmN 4 (g.kinds.map kP) := ⟨by rw [List.length_map]; exact k4, fun d hd => by
    obtain ⟨p, hp, rfl⟩ := List.mem_map.mp hd
    exact (kP_pt (G.kn p hp)).tm⟩
  have hm : TmN 8 (g.makers.map mP) := ⟨by rw [List.length_map]; exact m8, fun d hd => by
    obtain ⟨p, hp, rfl⟩ := List.mem_map.mp hd
    exact (mP_pt (G.mn p hp)).tm⟩
  refine ⟨rfl, ?_⟩
  refine sqn 4 (fun σ M' => ∃ a b c, ∃ kp ∈ g.kinds, ∃ m ∈ g.makers, ∃ at' : Int, 0 ≤ at' ∧ at' < 8 ∧ M' = up M w (wl a b c) ∧ σ = [some (.ref w), some (sigD g), some (.tup (g.kinds.map kP)), some (.tup (g.makers.map mP)), some (.str kp.1), some (.str (wordD kp.2)), some (.int at'), some (.str m.1), some (.tup (m.2.1.map D.str)), some (.str m.2.2), none, none, none, none, none]) (fun r hr => ?_) ?_
  · walk_at "w"
    refine ct_one S.dr h (fun e => by rw [List.map_eq_nil_iff] at e; rw [e] at k1; cases k1) (by rw [List.length_map]; omega) fun d hd a' b' c' => ?_
    obtain ⟨kp, hkp, rfl⟩ := List.mem_map.mp hd
    walk_at "w"
    refine ct_draw S.dr up_same (by rw [List.length_map]; omega) (by rw [List.length_map]; omega) fun at' a2 b2 c2 d0 d1 => ?_
    rw [up_up]
    walk_at "w"
    refine ix_all d0 d1 fun d hd => ?_
    obtain ⟨m, hm0, rfl⟩ := List.mem_map.mp hd
    rw [List.length_map] at d1
    walk_at "w"
    exact hr _ _ ⟨_, _, _, kp, hkp, m, hm0, at', d0, by omega, rfl, rfl⟩
  intro σ M' ⟨a, b, c, kp, hkp, m, hm0, at', a0, a8, eM, eσ⟩
  have hw : M' w = some (wl a b c) := by rw [eM]; exact up_same
  have q' : ∀ ds, TmN 60 ds → ∀ a' b' c', Q (.lst ds) (up M' w (wl a' b' c')) := fun ds t a' b' c' => by rw [eM, up_up]; exact q ds t a' b' c'
  have hnm := nameOk_len (G.kn kp hkp)
  have hmm := G.mn m hm0
  have wd := word_len kp.2
  clear q h eM
  have hk' := hk
  have hm' := hm
  have tsg : TmF (sigD g) := (sig_pt G).tm
  generalize kp.1 = nm at hnm eσ
  generalize wordD kp.2 = wrd at wd eσ
  obtain ⟨own, args, made⟩ := m
  simp only at hmm eσ
  generalize hks : g.kinds.map kP = ks at hk eσ
  generalize hms : g.makers.map mP = ms at hm eσ
  subst eσ
  have tnm : TmF (.str nm) := tmf_str (by omega)
  have town : TmF (.str own) := tmf_str (by have := nameOk_len hmm.1; omega)
  have tmd : TmF (.str made) := tmf_str (by have := nameOk_len hmm.2.1; omega)
  have targ : TmN 3 (args.map D.str) := ⟨by rw [List.length_map]; exact hmm.2.2.2, fun d hd => by
    obtain ⟨z, hz, rfl⟩ := List.mem_map.mp hd
    exact tmf_str (by have := nameOk_len (hmm.2.2.1 z hz); omega)⟩
  have lk := hk.len
  have lm := hm.len
  have l1 : 1 ≤ ks.length := by rw [← hks, List.length_map]; exact k1
  have l2 : 1 ≤ ms.length := by rw [← hms, List.length_map]; exact m1
  have c1 := cut_len ks none (some 1)
  have c2 := cut_len ms none (some 1)
  have c3 := cut_len ks (some 1) none
  have c4 := cut_len ms none (some at')
  have c5 := cut_len ms (some (at' + 1)) none
  refine sqn 1 (TSt w g ks ms nm wrd own made args at' M' 8 none none none) (fun r hr => ?_) ?_
  · walk_at "v"
    refine hr _ _ ⟨_, _, ?_, rfl, rfl⟩
    apply TmN.mono
    · walk_at "t"
    · decide
  intro σ M2 ⟨xs, o12, hx, eM, eσ⟩
  subst eM eσ
  have lx := hx.len
  refine sqn 1 (TSt w g ks ms nm wrd own made args at' M' 11 none none none) (fun r hr => ?_) ?_
  · walk_at "v"
    refine hr _ _ ⟨_, _, ?_, rfl, rfl⟩
    apply TmN.mono
    · walk_at "t"
    · decide
  intro σ M2 ⟨xs, o12, hx, eM, eσ⟩
  subst eM eσ
  have lx := hx.len
  refine sqn 1 (TSt w g ks ms nm wrd own made args at' M' 13 none none none) (fun r hr => ?_) ?_
  · walk_at "v"
    refine hr _ _ ⟨_, _, ?_, rfl, rfl⟩
    apply TmN.mono
    · walk_at "t"
    · decide
  intro σ M2 ⟨xs, o12, hx, eM, eσ⟩
  subst eM eσ
  have lx := hx.len
  refine sqn 1 (TSt w g ks ms nm wrd own made args at' M' 16 none none none) (fun r hr => ?_) ?_
  · walk_at "v"
    refine hr _ _ ⟨_, _, ?_, rfl, rfl⟩
    apply TmN.mono
    · walk_at "t"
    · decide
  intro σ M2 ⟨xs, o12, hx, eM, eσ⟩
  subst eM eσ
  have lx := hx.len
  refine sqn 1 (TSt w g ks ms nm wrd own made args at' M' 18 none none none) (fun r hr => ?_) ?_
  · walk_at "v"
    refine ar_mul (by simp) (by decide) (by decide) (by simp) ?_
    walk_at "v"
    refine hr _ _ ⟨_, _, ?_, rfl, rfl⟩
    apply TmN.mono
    · walk_at "t"
    · decide
  intro σ M2 ⟨xs, o12, hx, eM, eσ⟩
  subst eM eσ
  have lx := hx.len
  refine sqn 1 (TSt w g ks ms nm wrd own made args at' M' 20 none none none) (fun r hr => ?_) ?_
  · walk_at "v"
    refine hr _ _ ⟨_, _, ?_, rfl, rfl⟩
    apply TmN.mono
    · walk_at "t"
    · decide
  intro σ M2 ⟨xs, o12, hx, eM, eσ⟩
  subst eM eσ
  have lx := hx.len
  refine sqn 1 (TSt w g ks ms nm wrd own made args at' M' 23 none none none) (fun r hr => ?_) ?_
  · walk_at "v"
    refine hr _ _ ⟨_, _, ?_, rfl, rfl⟩
    apply TmN.mono
    · walk_at "t"
    · decide
  intro σ M2 ⟨xs, o12, hx, eM, eσ⟩
  subst eM eσ
  have lx := hx.len
  refine sqn 1 (TSt w g ks ms nm wrd own made args at' M' 28 none none none) (fun r hr => ?_) ?_
  · walk_at "v"
    refine hr _ _ ⟨_, _, ?_, rfl, rfl⟩
    apply TmN.mono
    · walk_at "t"
    · decide
  intro σ M2 ⟨xs, o12, hx, eM, eσ⟩
  subst eM eσ
  have lx := hx.len
  refine sqn 1 (fun σ M2 => ∃ many, TmN 9 many ∧ TSt w g ks ms nm wrd own made args at' M' 28 (some (.tup many)) none none σ M2) (fun r hr => ?_) ?_
  · walk_at "v"
    refine ⟨by omega, by omega, ?_⟩
    refine lc_map (kf "k" [.str "open"]) trivial (by rw [rngD_len]; simp only [sizeLine]; omega) (fun x hx Y N y => ?_) ?_
    · obtain ⟨j, rfl, hj⟩ := rng_mem _ _ _ hx
      have h1 := lg30 j (by omega)
      have h2 := kl30 j (by omega)
      have h3 : ("k" : Str).length = 1 := by decide +kernel
      walk_at "v"
      refine ⟨h1, ?_⟩
      walk_at "v"
      exact y
    walk_at "v"
    exact hr _ _ ⟨_, TmN.mono (kf_tm (by decide +kernel) (by apply TmN.mono; (· walk_at "t"); decide) (by omega)) (by omega), xs, _, hx, rfl, rfl⟩
  intro σ M2 ⟨many, hmany, xs, o12, hx, eM, eσ⟩
  subst eM eσ
  have lx := hx.len
  have c6 := cut_len many (some 1) none
  have ly := hmany.len
  refine sqn 1 (TSt w g ks ms nm wrd own made args at' M' 31 (some (.tup many)) none none) (fun r hr => ?_) ?_
  · walk_at "v"
    refine hr _ _ ⟨_, _, ?_, rfl, rfl⟩
    apply TmN.mono
    · walk_at "t"
    · decide
  intro σ M2 ⟨xs, o12, hx, eM, eσ⟩
  subst eM eσ
  have lx := hx.len
  refine sqn 1 (fun σ M2 => ∃ more, TmN 25 more ∧ TSt w g ks ms nm wrd own made args at' M' 31 (some (.tup many)) (some (.tup more)) none σ M2) (fun r hr => ?_) ?_
  · walk_at "v"
    refine ⟨by omega, by omega, ?_⟩
    refine lc_map (kf "m" [.tup [], .str nm]) trivial (by rw [rngD_len]; simp only [sizeLine]; omega) (fun x hx Y N y => ?_) ?_
    · obtain ⟨j, rfl, hj⟩ := rng_mem _ _ _ hx
      have h1 := lg30 j (by omega)
      have h2 := kl30 j (by omega)
      have h3 : ("m" : Str).length = 1 := by decide +kernel
      walk_at "v"
      refine ⟨h1, ?_⟩
      walk_at "v"
      exact y
    walk_at "v"
    exact hr _ _ ⟨_, TmN.mono (kf_tm (by decide +kernel) (by apply TmN.mono; (· walk_at "t"); decide) (by omega)) (by omega), xs, _, hx, rfl, rfl⟩
  intro σ M2 ⟨more, hmore, xs, o12, hx, eM, eσ⟩
  subst eM eσ
  have lx := hx.len
  have c7 := cut_len more (some 1) none
  have lz := hmore.len
  refine sqn 1 (TSt w g ks ms nm wrd own made args at' M' 34 (some (.tup many)) (some (.tup more)) none) (fun r hr => ?_) ?_
  · walk_at "v"
    refine hr _ _ ⟨_, _, ?_, rfl, rfl⟩
    apply TmN.mono
    · walk_at "t"
    · decide
  intro σ M2 ⟨xs, o12, hx, eM, eσ⟩
  subst eM eσ
  have lx := hx.len
  refine sqn 1 (TSt w g ks ms nm wrd own made args at' M' 34 (some (.tup many)) (some (.tup more)) (some (.tup [.tup [.str "one", .str "closed"], .tup [.str "two", .str "closed"]]))) (fun r hr => ?_) ?_
  · walk_at "v"
    exact hr _ _ ⟨_, _, hx, rfl, rfl⟩
  intro σ M2 ⟨xs, o12, hx, eM, eσ⟩
  subst eM eσ
  have lx := hx.len
  refine sqn 1 (TSt w g ks ms nm wrd own made args at' M' 36 (some (.tup many)) (some (.tup more)) (some (.tup [.tup [.str "one", .str "closed"], .tup [.str "two", .str "closed"]]))) (fun r hr => ?_) ?_
  · walk_at "v"
    refine hr _ _ ⟨_, _, ?_, rfl, rfl⟩
    apply TmN.mono
    · walk_at "t"
    · decide
  intro σ M2 ⟨xs, o12, hx, eM, eσ⟩
  subst eM eσ
  have lx := hx.len
  walk_at "v"
  refine ct_bent S hw G fun d1 t1 a1 b1 c1 => ?_
  walk_at "v"
  refine ct_bent S up_same G fun d2 t2 a2 b2 c2 => ?_
  rw [up_up]
  walk_at "v"
  refine ct_bent S up_same G fun d3 t3 a3 b3 c3 => ?_
  rw [up_up]
  walk_at "v"
  refine ct_odd S up_same fun d4 t4 a4 b4 c4 => ?_
  rw [up_up]
  walk_at "v"
  refine rt_ (q' _ ?_ _ _ _)
  apply TmN.mono
  · walk_at "t"
  · decide
end
end RX.Lw
set_option Elab.async false
set_option linter.all false
set_option maxRecDepth 1000000
set_option maxHeartbeats 4000000
/-! LW9: _law_right. -/
namespace RX.Lw
open PySem PySem.Spec PyProof.Rows L2 RX RX.Sg
local macro_rules | `(tactic| walk_at "w") => `(tactic| ((conv => whnf); repeat ((first | refine bT rfl ?_ | refine bF rfl ?_ | refine ⟨_, rfl, ?_⟩ | refine ⟨_, _, rfl, rfl, ?_⟩ | refine ⟨_, _, rfl, ?_⟩ | refine ⟨rfl, ?_⟩ | refine szA rfl ?_ | refine ⟨by decide, ?_⟩); (conv => whnf))))
structure RtL (L : Law) : Prop where
  mkl : MkL L
  sh : ShL L
  right : L.T ("_law_right", none) = some f_law_right
theorem shb1 (b : Bool) : PyData.showable (.bool b) = true := by cases b <;> decide +kernel
theorem shb2 (b : Bool) : (PyData.bool b).depth ≤ 64 := by cases b <;> decide +kernel
theorem shb3 (b : Bool) : (PyData.bool b).shown.length ≤ sizeLine := by cases b <;> decide +kernel
theorem shbb1 (b c : Bool) : PyData.showable (.list [.bool b, .bool c]) = true := by cases b <;> cases c <;> decide +kernel
theorem shbb2 (b c : Bool) : (PyData.list [.bool b, .bool c]).depth ≤ 64 := by cases b <;> cases c <;> decide +kernel
theorem shbb3 (b c : Bool) : (PyData.list [.bool b, .bool c]).shown.length ≤ sizeLine := by cases b <;> cases c <;> decide +kernel
theorem iff_b {a b : Bool} {P : Prop} (h1 : a = true ↔ P) (h2 : b = true ↔ P) : a = b := by
  have : a = true ↔ b = true := h1.trans h2.symm
  cases a <;> cases b <;> simp_all
theorem pair_at : ∀ {xs : List D} {i k : Nat} {x : D}, (pairD xs k)[i]? = some x → ∃ d, x = .wtp [.int (k + i : Nat), d] ∧ d ∈ xs
  | [], _, _, _, h => by simp [pairD] at h
  | y :: xs, 0, k, x, h => by
    simp [pairD] at h
    exact ⟨y, by rw [← h]; simp, by simp⟩
  | y :: xs, i + 1, k, x, h => by
    simp only [pairD, List.getElem?_cons_succ] at h
    obtain ⟨d, e, hd⟩ := pair_at h
    exact ⟨d, by rw [e, show k + 1 + i = k + (i + 1) by omega], List.mem_cons_of_mem _ hd⟩
theorem for_rng {Γ : Gam} {E : ED} {D : DEnds} {g : CG} {b ss : CSs} {σ : DSt} {M : MM} {k : Int} (h1 : -(2 ^ 62) ≤ k) (h2 : k < 2 ^ 62) (h : forD (fun _ => True) (wpG Γ E g) (wpSs Γ E b) { D with nx := wpSs Γ E ss D } (rngD 0 k.toNat) σ M) :
    wpSs Γ E (.cons (.for_ g (.range1 (.int k)) b) ss) D σ M := ⟨k, rfl, h1, h2, h⟩
theorem bif2 {k : Bool} {A B R : Prop} (hA : R → A) (hB : R → B) (r : R) : (k = true → A) ∧ (k = false → B) := ⟨fun _ => hA r, fun _ => hB r⟩
theorem callk_of {L : Law} {n : Nat} {f : Str} {ps ks : List Str} {ds es args : List D} {M : MM} {Q : DV} {E : XD} (hp : L.px f = ps) (h1 : ds.length + es.length = ps.length ∧ es.length = ks.length) (ha : kwArr ps ds ks es = args) (h : L.cl n (f, none) args M Q E) :
    (ds.length + es.length = (L.px f).length ∧ es.length = ks.length) ∧ L.cl n (f, none) (kwArr (L.px f) ds ks es) M Q E := by
  rw [hp, ha]
  exact ⟨h1, h⟩
section
variable {L : Law} (S : RtL L)
include S
theorem px_sig : L.px "is_signature" = (["value"] : List Str) := by
  unfold Law.px
  rw [S.sh.is_signature]
  rfl
theorem px_small : L.px "is_small" = (["signature", "kind"] : List Str) := by
  unfold Law.px
  rw [S.sh.is_small]
  rfl
theorem ct_right {n : Nat} {w : Addr} {a b c : Int} {M : MM} {Q : DV} {E : XD} (h : M w = some (wl a b c)) (q : ∀ a' b' c', Q (.bl true) (up M w (wl a' b' c'))) : L.cl (n + 8) ("_law_right", none) [.ref w] M Q E := by
  rw [Law.stp S.right]
  have out : ∀ (M' : MM) (a b c : Int), M' w = some (wl a b c) → (∀ x, x ≠ w → M' x = M x) → retD Q (.bl true) M' := fun M' a b c h1 h2 => by
    have e : M' = up M w (wl a b c) := by
      funext x
      by_cases hx : x = w
      · rw [hx, h1, up_same]
      · rw [h2 x hx, up_ne hx]
    rw [e]
    exact rt_ (q a b c)
  refine ⟨rfl, for_rng (by decide) (by decide) ?_⟩
  refine fo_all (fun i σ M' => ∃ (a b c : Int) (o1 o2 o3 o4 o5 o6 o7 o8 o9 : Option D), σ = [some (.ref w), o1, o2, o3, o4, o5, o6, o7, o8, o9] ∧ M' w = some (wl a b c) ∧ ∀ x, x ≠ w → M' x = M x) ?_ ?_ ?_ ⟨a, b, c, _, _, _, _, _, _, _, _, _, rfl, h, fun _ _ => rfl⟩
  · intro i σ M' _
    exact trivial
  · intro i x hx K σ M' ⟨a, b, c, o1, o2, o3, o4, o5, o6, o7, o8, o9, eσ, e1, ho⟩ hK
    subst eσ
    walk_at "w"
    refine ct_sig S.mkl e1 fun g G a2 b2 c2 => ?_
    walk_at "w"
    refine ct_things S.mkl up_same G fun ds t a3 b3 c3 => ?_
    rw [up_up]
    have hw : (up M' w (wl a3 b3 c3)) w = some (wl a3 b3 c3) := up_same
    have hM : ∀ x, x ≠ w → (up M' w (wl a3 b3 c3)) x = M x := fun x hx => by rw [up_ne hx]; exact ho x hx
    generalize up M' w (wl a3 b3 c3) = M2 at hw hM
    walk_at "w"
    refine fo_all (fun i σ M' => ∃ (o3 o4 o5 o6 o7 o8 o9 : Option D), σ = [some (.ref w), some x, some (sigD g), o3, o4, o5, o6, o7, o8, o9] ∧ M' = M2) ?_ ?_ ?_ ⟨_, _, _, _, _, _, _, rfl, rfl⟩
    · intro i σ M' _
      exact trivial
    · intro i x hx K σ M' ⟨o3, o4, o5, o6, o7, o8, o9, eσ, eM⟩ hK
      subst eσ eM
      obtain ⟨d, rfl, hd⟩ := pair_at hx
      have td := t.all d hd
      walk_at "w"
      refine ct_lsig S.mkl.lk (td M') fun b hb => ?_
      refine sqn 1 (fun σ M1 => M1 = M' ∧ ∃ o7 o8 o9 : Option D, σ = [some (.ref w), some x, some (sigD g), some (.int (0 + i : Nat)), some d, some (.bl b), some (.bl b), o7, o8, o9]) (fun r hr => ?_) ?_
      · walk_at "w"
        apply bif2
        · intro r
          walk_at "w"
          refine ct_is_signature S.sh (td M') fun b' hb' => ?_
          have e := iff_b hb' hb
          subst e
          exact r
        · intro r
          walk_at "w"
          refine callk_of (args := [d]) (px_sig S) ⟨rfl, rfl⟩ (by kernel_rfl) ?_
          refine ct_is_signature S.sh (td M') fun b' hb' => ?_
          have e := iff_b hb' hb
          subst e
          exact r
        walk_at "w"
        exact hr _ _ ⟨rfl, _, _, _, rfl⟩
      intro σ M1 ⟨eM, o7, o8, o9, eσ⟩
      subst eM eσ
      walk_at "w"
      refine ⟨.bool b, .bl b, shb1 b, shb2 b, shb3 b, ?_⟩
      walk_at "w"
      refine ⟨.bool b, .bl b, shb1 b, shb2 b, shb3 b, ?_⟩
      walk_at "w"
      refine bF (by simp) ?_
      walk_at "w"
      cases b with
      | false =>
        walk_at "w"
        refine ⟨trivial, ?_⟩
        walk_at "w"
        exact hK _ _ ⟨_, _, _, _, _, _, _, rfl, rfl⟩
      | true =>
        obtain ⟨g2, rfl, ok⟩ := hb.mp rfl
        have mo := ok.mo
        walk_at "w"
        refine fo_all (fun j σ M2 => M2 = M1 ∧ ∃ o7 o8 o9 : Option D, σ = [some (.ref w), some x, some (sigD g), some (.int (0 + i : Nat)), some (sigD g2), some (.bl true), some (.bl true), o7, o8, o9]) ?_ ?_ ?_ ⟨rfl, _, _, _, rfl⟩
        · intro i σ M' _
          exact trivial
        · intro j y hy K2 σ M2 ⟨eM, o7, o8, o9, eσ⟩ hK2
          subst eM eσ
          obtain ⟨kp, hkp, rfl⟩ := List.mem_map.mp (List.mem_of_getElem? hy)
          have hk : kp.1 ∈ g2.ks := List.mem_map.mpr ⟨kp, hkp, rfl⟩
          walk_at "w"
          refine ct_lsmall S.mkl.lk mo ok.nd hk fun b hb => ?_
          walk_at "w"
          refine ct_is_small S.sh (td M2) ok hk fun b1 hb1 => ?_
          have e := iff_b hb1 hb
          subst e
          walk_at "w"
          refine callk_of (args := [sigD g2, .str kp.1]) (px_small S) ⟨rfl, rfl⟩ (by kernel_rfl) ?_
          refine ct_is_small S.sh (td M2) ok hk fun b2 hb2 => ?_
          have e := iff_b hb2 hb
          subst e
          walk_at "w"
          refine ⟨.list [.bool b2, .bool b2], .lst (.cons (.bl b2) (.cons (.bl b2) .nil)), shbb1 .., shbb2 .., shbb3 .., ?_⟩
          walk_at "w"
          refine ⟨.list [.bool b2, .bool b2], .lst (.cons (.bl b2) (.cons (.bl b2) .nil)), shbb1 .., shbb2 .., shbb3 .., ?_⟩
          walk_at "w"
          refine bF (by simp) ?_
          walk_at "w"
          exact hK2 _ _ ⟨rfl, _, _, _, rfl⟩
        · intro σ M2 ⟨eM, o7, o8, o9, eσ⟩
          subst eM eσ
          walk_at "w"
          exact hK _ _ ⟨_, _, _, _, _, _, _, rfl, rfl⟩
    · intro σ M' ⟨o3, o4, o5, o6, o7, o8, o9, eσ, eM⟩
      subst eσ eM
      walk_at "w"
      exact hK _ _ ⟨_, _, _, _, _, _, _, _, _, _, _, _, rfl, hw, hM⟩
  · intro σ M' ⟨a, b, c, o1, o2, o3, o4, o5, o6, o7, o8, o9, eσ, h1, h2⟩
    subst eσ
    walk_at "w"
    exact out M' a b c h1 h2
end
end RX.Lw
set_option Elab.async false
set_option linter.all false
set_option maxRecDepth 1000000
set_option maxHeartbeats 0
/-! the law's data, printed by gen.py -/
namespace RX.Lawk02
open PySem PySem.Spec PyProof.Rows L2 RX
abbrev pw : Program := PySem.Challenge.pw_instances_k02_signatures_of_anything_sma
def top (i : Nat) : Stmt := pw.main.body.getD i (.Pass ⟨0, 0, 0, 0⟩)
def meth (s : Stmt) (j : Nat) : Stmt := match s with
  | .ClassDef (body := b) .. => b.getD j (.Pass ⟨0, 0, 0, 0⟩)
  | _ => .Pass ⟨0, 0, 0, 0⟩
def f_is_name : CFun := { ps := ["value"], N := ["value", "sign"], body :=
  (.cons (.ite (.or (.not (.isi (.var 0) [(.bt "str")])) (.or (.not (.chain .LtE .LtE (.int 1) (.fn .len true (.cons (.var 0) .nil)) (.glb "MOST_NAME"))) (.cmp .NotIn (.ix (.var 0) (.int 0)) (.glb "LETTERS")))) (.cons (.ret (.bl false)) .nil) .nil) (.cons (.ret (.fn .all true (.cons (.lc true (.tst (.or (.cmp .In (.var 1) (.glb "LETTERS")) (.or (.cmp .In (.var 1) (.glb "FIGURES")) (.cmp .Eq (.var 1) (.str "_"))))) (.name 1) (.seq (.var 0)) .nil [("sign", 1)]) .nil))) .nil)) }
def e_is_name : Ent := ⟨("is_name", none), f_is_name, "is_name", "is_name", top 11⟩
def f_are_unlike : CFun := { ps := ["values"], N := ["values"], body :=
  (.cons (.ret (.tst (.cmp .Eq (.lenset (.var 0)) (.fn .len true (.cons (.var 0) .nil))))) .nil) }
def e_are_unlike : Ent := ⟨("are_unlike", none), f_are_unlike, "are_unlike", "are_unlike", top 12⟩
def f_Signs____init : CFun := { ps := ["self", "signature"], N := ["self", "signature", "kind", "_", "name", "args"], body :=
  (.cons (.setf (.var 0) "words" (.fn .dict true (.cons (.ix (.var 1) (.int 0)) .nil))) (.cons (.setf (.var 0) "kinds" (.lc true (.var 2) (.tup (.cons (.name 2) (.cons (.name 3) .nil))) (.seq (.ix (.var 1) (.int 0))) .nil [("kind", 2), ("_", 3)])) (.cons (.setf (.var 0) "makers" (.dc true (.var 4) (.tup (.cons (.var 5) (.cons (.var 2) .nil))) (.tup (.cons (.name 4) (.cons (.name 5) (.cons (.name 2) .nil)))) (.seq (.ix (.var 1) (.int 1))) [("name", 4), ("args", 5), ("kind", 2)])) (.cons (.setf (.var 0) "of_kind" (.dc true (.var 2) (.lst false .nil) (.name 2) (.seq (.fld (.var 0) "kinds")) [("kind", 2)])) (.cons (.for_ (.tup (.cons (.name 4) (.cons (.name 5) (.cons (.name 2) .nil)))) (.seq (.ix (.var 1) (.int 1))) (.cons (.expr (.bm .append (.ix (.fld (.var 0) "of_kind") (.var 2)) (.cons (.tup (.cons (.var 4) (.cons (.var 5) .nil))) .nil))) .nil)) (.cons (.setf (.var 0) "small" (.lst true .nil)) (.cons (.expr (.meth "find_small" (.var 0) .nil)) .nil))))))) }
def e_Signs____init : Ent := ⟨("Signs", some "__init__"), f_Signs____init, "__init__", "Signs.__init__", meth (top 13) 0⟩
def f_Signs__is_open : CFun := { ps := ["self", "kind"], N := ["self", "kind"], body :=
  (.cons (.ret (.tst (.cmp .Eq (.ix (.fld (.var 0) "words") (.var 1)) (.str "open")))) .nil) }
def e_Signs__is_open : Ent := ⟨("Signs", some "is_open"), f_Signs__is_open, "is_open", "Signs.is_open", meth (top 13) 1⟩
def f_Signs__is_small : CFun := { ps := ["self", "kind"], N := ["self", "kind"], body :=
  (.cons (.ret (.tst (.cmp .In (.var 1) (.fld (.var 0) "small")))) .nil) }
def e_Signs__is_small : Ent := ⟨("Signs", some "is_small"), f_Signs__is_small, "is_small", "Signs.is_small", meth (top 13) 2⟩
def f_Signs__find_small : CFun := { ps := ["self"], N := ["self", "more", "kind"], body :=
  (.cons (.setLc 1 true (.var 2) (.name 2) (.seq (.fld (.var 0) "kinds")) (.cons (.val (.meth "turns_small" (.var 0) (.cons (.var 2) .nil))) .nil) [("kind", 2)]) (.cons (.while_ (.cmp .NotEq (.var 1) (.lst true .nil)) (.cons (.setf (.var 0) "small" (.bin .Add true (.fld (.var 0) "small") (.var 1))) (.cons (.setLc 1 true (.var 2) (.name 2) (.seq (.fld (.var 0) "kinds")) (.cons (.val (.meth "turns_small" (.var 0) (.cons (.var 2) .nil))) .nil) [("kind", 2)]) .nil))) .nil)) }
def e_Signs__find_small : Ent := ⟨("Signs", some "find_small"), f_Signs__find_small, "find_small", "Signs.find_small", meth (top 13) 3⟩
def f_Signs__turns_small : CFun := { ps := ["self", "kind"], N := ["self", "kind", "_", "args", "arg"], body :=
  (.cons (.ite (.or (.val (.meth "is_open" (.var 0) (.cons (.var 1) .nil))) (.cmp .In (.var 1) (.fld (.var 0) "small"))) (.cons (.ret (.bl false)) .nil) .nil) (.cons (.ret (.fn .all true (.cons (.lc true (.fn .all true (.cons (.lc true (.tst (.cmp .In (.var 4) (.fld (.var 0) "small"))) (.name 4) (.seq (.var 3)) .nil [("arg", 4)]) .nil)) (.tup (.cons (.name 2) (.cons (.name 3) .nil))) (.seq (.ix (.fld (.var 0) "of_kind") (.var 1))) .nil [("_", 2), ("args", 3)]) .nil))) .nil)) }
def e_Signs__turns_small : Ent := ⟨("Signs", some "turns_small"), f_Signs__turns_small, "turns_small", "Signs.turns_small", meth (top 13) 4⟩
def f_is_kind_pair : CFun := { ps := ["value"], N := ["value"], body :=
  (.cons (.ret (.tst (.and (.isi (.var 0) [(.bt "tuple")]) (.and (.cmp .Eq (.fn .len true (.cons (.var 0) .nil)) (.int 2)) (.and (.val (.call "is_name" (.cons (.ix (.var 0) (.int 0)) .nil))) (.cmp .In (.ix (.var 0) (.int 1)) (.tup (.cons (.str "open") (.cons (.str "closed") .nil))))))))) .nil) }
def e_is_kind_pair : Ent := ⟨("is_kind_pair", none), f_is_kind_pair, "is_kind_pair", "is_kind_pair", top 14⟩
def f_is_kinds_row : CFun := { ps := ["value", "kinds", "least", "most"], N := ["value", "kinds", "least", "most", "each"], body :=
  (.cons (.ite (.or (.not (.isi (.var 0) [(.bt "tuple")])) (.not (.chain .LtE .LtE (.var 2) (.fn .len true (.cons (.var 0) .nil)) (.var 3)))) (.cons (.ret (.bl false)) .nil) .nil) (.cons (.ret (.fn .all true (.cons (.lc true (.tst (.and (.isi (.var 4) [(.bt "str")]) (.cmp .In (.var 4) (.var 1)))) (.name 4) (.seq (.var 0)) .nil [("each", 4)]) .nil))) .nil)) }
def e_is_kinds_row : Ent := ⟨("is_kinds_row", none), f_is_kinds_row, "is_kinds_row", "is_kinds_row", top 15⟩
def f_is_maker : CFun := { ps := ["value", "kinds"], N := ["value", "kinds"], body :=
  (.cons (.ite (.or (.not (.isi (.var 0) [(.bt "tuple")])) (.or (.cmp .NotEq (.fn .len true (.cons (.var 0) .nil)) (.int 3)) (.not (.val (.call "is_name" (.cons (.ix (.var 0) (.int 0)) .nil)))))) (.cons (.ret (.bl false)) .nil) .nil) (.cons (.ret (.tst (.and (.val (.call "is_kinds_row" (.cons (.ix (.var 0) (.int 1)) (.cons (.var 1) (.cons (.int 0) (.cons (.glb "MOST_ARGS") .nil)))))) (.and (.isi (.ix (.var 0) (.int 2)) [(.bt "str")]) (.cmp .In (.ix (.var 0) (.int 2)) (.var 1)))))) .nil)) }
def e_is_maker : Ent := ⟨("is_maker", none), f_is_maker, "is_maker", "is_maker", top 16⟩
def f_made_kinds : CFun := { ps := ["signature"], N := ["signature", "found", "kind", "word", "more", "fresh", "_", "args", "arg"], body :=
  (.cons (.asg (.name 1) (.lc true (.var 2) (.tup (.cons (.name 2) (.cons (.name 3) .nil))) (.seq (.ix (.var 0) (.int 0))) (.cons (.cmp .Eq (.var 3) (.str "open")) .nil) [("kind", 2), ("word", 3)])) (.cons (.asg (.name 4) (.bl true)) (.cons (.while_ (.val (.var 4)) (.cons (.setLc 5 true (.var 2) (.tup (.cons (.name 6) (.cons (.name 7) (.cons (.name 2) .nil)))) (.seq (.ix (.var 0) (.int 1))) (.cons (.and (.cmp .NotIn (.var 2) (.var 1)) (.val (.fn .all true (.cons (.lc true (.tst (.cmp .In (.var 8) (.var 1))) (.name 8) (.seq (.var 7)) .nil [("arg", 8)]) .nil)))) .nil) [("_", 6), ("args", 7), ("kind", 2)]) (.cons (.asg (.name 1) (.bin .Add true (.var 1) (.var 5))) (.cons (.asg (.name 4) (.tst (.cmp .NotEq (.var 5) (.lst true .nil)))) .nil)))) (.cons (.ret (.var 1)) .nil)))) }
def e_made_kinds : Ent := ⟨("made_kinds", none), f_made_kinds, "made_kinds", "made_kinds", top 17⟩
def f_is_signature_by : CFun := { ps := ["value"], N := ["value", "part", "pair", "kinds", "kind", "_", "each", "maker", "made"], body :=
  (.cons (.ite (.or (.not (.isi (.var 0) [(.bt "tuple")])) (.or (.cmp .NotEq (.fn .len true (.cons (.var 0) .nil)) (.int 2)) (.not (.val (.fn .all true (.cons (.lc true (.tst (.isi (.var 1) [(.bt "tuple")])) (.name 1) (.seq (.var 0)) .nil [("part", 1)]) .nil)))))) (.cons (.ret (.bl false)) .nil) .nil) (.cons (.ite (.or (.not (.chain .LtE .LtE (.int 1) (.fn .len true (.cons (.ix (.var 0) (.int 0)) .nil)) (.glb "MOST_KINDS"))) (.not (.val (.fn .all true (.cons (.lc true (.call "is_kind_pair" (.cons (.var 2) .nil)) (.name 2) (.seq (.ix (.var 0) (.int 0))) .nil [("pair", 2)]) .nil))))) (.cons (.ret (.bl false)) .nil) .nil) (.cons (.asg (.name 3) (.lc true (.var 4) (.tup (.cons (.name 4) (.cons (.name 5) .nil))) (.seq (.ix (.var 0) (.int 0))) .nil [("kind", 4), ("_", 5)])) (.cons (.ite (.or (.not (.val (.call "are_unlike" (.cons (.var 3) .nil)))) (.or (.cmp .Gt (.fn .len true (.cons (.ix (.var 0) (.int 1)) .nil)) (.glb "MOST_MAKERS")) (.not (.val (.fn .all true (.cons (.lc true (.call "is_maker" (.cons (.var 6) (.cons (.var 3) .nil))) (.name 6) (.seq (.ix (.var 0) (.int 1))) .nil [("each", 6)]) .nil)))))) (.cons (.ret (.bl false)) .nil) .nil) (.cons (.ite (.not (.val (.call "are_unlike" (.cons (.lc true (.ix (.var 7) (.int 0)) (.name 7) (.seq (.ix (.var 0) (.int 1))) .nil [("maker", 7)]) .nil)))) (.cons (.ret (.bl false)) .nil) .nil) (.cons (.asg (.name 8) (.call "made_kinds" (.cons (.var 0) .nil))) (.cons (.ret (.fn .all true (.cons (.lc true (.tst (.cmp .In (.var 4) (.var 8))) (.name 4) (.seq (.var 3)) .nil [("kind", 4)]) .nil))) .nil))))))) }
def e_is_signature_by : Ent := ⟨("is_signature_by", none), f_is_signature_by, "is_signature_by", "is_signature_by", top 18⟩
def f_check_signature : CFun := { ps := ["value"], N := ["value"], body :=
  (.cons (.ite (.not (.val (.call "is_signature_by" (.cons (.var 0) .nil)))) (.cons .never .nil) .nil) (.cons (.ret (.make "Signs" (.cons (.var 0) .nil))) .nil)) }
def e_check_signature : Ent := ⟨("check_signature", none), f_check_signature, "check_signature", "check_signature", top 20⟩
def f_check_kind : CFun := { ps := ["signs", "value"], N := ["signs", "value"], body :=
  (.cons (.ite (.or (.not (.isi (.var 1) [(.bt "str")])) (.cmp .NotIn (.var 1) (.fld (.var 0) "kinds"))) (.cons .never .nil) .nil) .nil) }
def e_check_kind : Ent := ⟨("check_kind", none), f_check_kind, "check_kind", "check_kind", top 21⟩
def f_is_signature : CFun := { ps := ["value"], N := ["value"], body :=
  (.cons (.ret (.call "is_signature_by" (.cons (.var 0) .nil))) .nil) }
def e_is_signature : Ent := ⟨("is_signature", none), f_is_signature, "is_signature", "is_signature", top 23⟩
def f_is_small : CFun := { ps := ["signature", "kind"], N := ["signature", "kind", "signs"], body :=
  (.cons (.asg (.name 2) (.call "check_signature" (.cons (.var 0) .nil))) (.cons (.expr (.call "check_kind" (.cons (.var 2) (.cons (.var 1) .nil)))) (.cons (.ret (.meth "is_small" (.var 2) (.cons (.var 1) .nil))) .nil))) }
def e_is_small : Ent := ⟨("is_small", none), f_is_small, "is_small", "is_small", top 24⟩
def f_law_well : CFun := { ps := ["script", "lap"], N := ["script", "lap", "mixed", "cell", "own"], body :=
  (.cons (.asg (.name 2) (.bin .Add true (.int 71237) (.bin .Mult true (.int 8009) (.var 1)))) (.cons (.for_ (.name 3) (.seq (.slc true (.var 0) .no (.yes (.int 12)))) (.cons (.asg (.name 2) (.bin .Mod true (.fn .int true (.cons (.bin .Add true (.bin .Add true (.bin .Mult true (.var 2) (.int 40169)) (.bin .Mult true (.bin .Mod true (.fn .int true (.cons (.var 3) .nil)) (.int 2147483543)) (.int 19))) (.int 29)) .nil)) (.int 2147483543))) .nil)) (.cons (.asg (.name 4) (.ifx (.cmp .Lt (.var 1) (.fn .len true (.cons (.var 0) .nil))) (.fn .int true (.cons (.ix (.var 0) (.var 1)) .nil)) (.int 0))) (.cons (.asg (.name 2) (.bin .Mod true (.fn .int true (.cons (.bin .Add true (.bin .Add true (.bin .Mult true (.var 2) (.int 107)) (.bin .Mult true (.bin .Mod true (.fn .int true (.cons (.var 4) .nil)) (.int 2147483543)) (.int 20089))) (.int 13)) .nil)) (.int 2147483543))) (.cons (.ret (.lst false (.cons (.ifx (.or (.cmp .Lt (.var 4) (.int 0)) (.cmp .GtE (.var 4) (.bin .Pow true (.int 10) (.int 15)))) (.fn .abs true (.cons (.var 4) .nil)) (.int 0)) (.cons (.var 2) (.cons (.int 0) .nil))))) .nil))))) }
def e_law_well : Ent := ⟨("_law_well", none), f_law_well, "_law_well", "_law_well", top 26⟩
def f_law_draw : CFun := { ps := ["well", "few"], N := ["well", "few", "figure", "mixed"], body :=
  (.cons (.ite (.cmp .Gt (.ix (.var 0) (.int 0)) (.int 0)) (.cons (.asg (.tup (.cons (.sub (.var 0) (.int 0)) (.cons (.name 2) .nil))) (.fn .divmod true (.cons (.ix (.var 0) (.int 0)) (.cons (.var 1) .nil)))) (.cons (.ret (.var 2)) .nil)) .nil) (.cons (.asg (.sub (.var 0) (.int 2)) (.bin .Add true (.ix (.var 0) (.int 2)) (.int 1))) (.cons (.asg (.name 3) (.bin .Mod true (.fn .int true (.cons (.bin .Add true (.bin .Mult true (.ix (.var 0) (.int 1)) (.int 48271)) (.bin .Mult true (.int 18013) (.ix (.var 0) (.int 2)))) .nil)) (.int 2147483543))) (.cons (.asg (.sub (.var 0) (.int 1)) (.bin .Mod true (.fn .int true (.cons (.bin .Add true (.bin .Mult true (.var 3) (.bin .Add true (.bin .Mod true (.fn .int true (.cons (.var 3) .nil)) (.int 5009)) (.int 20029))) (.ix (.var 0) (.int 2))) .nil)) (.int 2147483543))) (.cons (.ret (.bin .Mod true (.fn .int true (.cons (.bin .FloorDiv true (.ix (.var 0) (.int 1)) (.int 967)) .nil)) (.var 1))) .nil))))) }
def e_law_draw : Ent := ⟨("_law_draw", none), f_law_draw, "_law_draw", "_law_draw", top 27⟩
def f_law_one : CFun := { ps := ["well", "some"], N := ["well", "some"], body :=
  (.cons (.ret (.ix (.var 1) (.call "_law_draw" (.cons (.var 0) (.cons (.fn .len true (.cons (.var 1) .nil)) .nil))))) .nil) }
def e_law_one : Ent := ⟨("_law_one", none), f_law_one, "_law_one", "_law_one", top 28⟩
def f_law_mixed : CFun := { ps := ["well", "some"], N := ["well", "some", "left", "found"], body :=
  (.cons (.par2 2 3 (.fn .list false (.cons (.var 1) .nil)) (.lst false .nil)) (.cons (.while_ (.cmp .NotEq (.var 2) (.lst true .nil)) (.cons (.expr (.bm .append (.var 3) (.cons (.bm .pop1 (.var 2) (.cons (.call "_law_draw" (.cons (.var 0) (.cons (.fn .len true (.cons (.var 2) .nil)) .nil))) .nil)) .nil))) .nil)) (.cons (.ret (.frz (.var 3))) .nil))) }
def e_law_mixed : Ent := ⟨("_law_mixed", none), f_law_mixed, "_law_mixed", "_law_mixed", top 29⟩
def f_law_is_whole : CFun := { ps := ["thing"], N := ["thing"], body :=
  (.cons (.ret (.tst (.and (.isi (.var 0) [(.bt "int")]) (.not (.isi (.var 0) [(.bt "bool")]))))) .nil) }
def e_law_is_whole : Ent := ⟨("_law_is_whole", none), f_law_is_whole, "_law_is_whole", "_law_is_whole", top 30⟩
def f_law_odd_thing : CFun := { ps := ["well"], N := ["well", "some", "more"], body :=
  (.cons (.asg (.name 1) (.tup (.cons .non (.cons (.bl true) (.cons (.bl false) (.cons (.str "z") (.cons (.str "") (.cons (.str "?") (.cons (.str "#") (.cons (.neg (.int 1)) (.cons (.int 0) (.cons (.int 1) (.cons (.int 7) (.cons (.bin .Pow true (.int 10) (.int 30)) (.cons (.tup .nil) (.cons (.lst true .nil) (.cons (.dct true .nil .nil) (.cons (.tup (.cons (.str "z") .nil)) (.cons (.lst true (.cons (.str "z") .nil)) (.cons (.tup (.cons (.str "?") (.cons (.str "x") .nil))) (.cons (.tup (.cons (.str "?") .nil)) .nil))))))))))))))))))))) (.cons (.asg (.name 2) (.tup (.cons (.tup (.cons (.str "#") (.cons (.str "type") (.cons (.int 1) .nil)))) (.cons (.tup (.cons (.str "#") (.cons (.str "count") (.cons (.int 1) .nil)))) (.cons (.tup (.cons (.tup (.cons (.str "z") .nil)) .nil)) (.cons (.tup (.cons (.tup (.cons (.str "?") (.cons (.str "x") .nil))) .nil)) (.cons (.tup (.cons (.str "s") (.cons (.tup (.cons (.str "z") .nil)) .nil))) (.cons (.tup (.cons (.str "a") (.cons (.str "closed") .nil))) (.cons (.tup (.cons (.str "?") (.cons (.str "x") (.cons (.str "y") .nil)))) .nil))))))))) (.cons (.ret (.call "_law_one" (.cons (.var 0) (.cons (.bin .Add true (.var 1) (.var 2)) .nil)))) .nil))) }
def e_law_odd_thing : Ent := ⟨("_law_odd_thing", none), f_law_odd_thing, "_law_odd_thing", "_law_odd_thing", top 31⟩
def f_law_bent : CFun := { ps := ["well", "thing"], N := ["well", "thing", "path", "here", "turn", "at", "way", "whole"], body :=
  (.cons (.par2 2 3 (.lst false .nil) (.var 1)) (.cons (.for_ (.name 4) (.range1 (.call "_law_draw" (.cons (.var 0) (.cons (.int 6) .nil)))) (.cons (.ite (.or (.not (.isi (.var 3) [(.bt "tuple")])) (.cmp .Eq (.var 3) (.tup .nil))) (.cons .brk .nil) .nil) (.cons (.asg (.name 5) (.call "_law_draw" (.cons (.var 0) (.cons (.fn .len true (.cons (.var 3) .nil)) .nil)))) (.cons (.expr (.bm .append (.var 2) (.cons (.tup (.cons (.var 3) (.cons (.var 5) .nil))) .nil))) (.cons (.asg (.name 3) (.ix (.var 3) (.var 5))) .nil))))) (.cons (.asg (.name 6) (.call "_law_draw" (.cons (.var 0) (.cons (.int 9) .nil)))) (.cons (.ite (.and (.isi (.var 3) [(.bt "tuple")]) (.cmp .Lt (.var 6) (.int 7))) (.cons (.asg (.name 3) (.ix (.tup (.cons (.fn .list true (.cons (.var 3) .nil)) (.cons (.slc true (.var 3) .no (.yes (.neg (.int 1)))) (.cons (.bin .Add true (.var 3) (.slc true (.var 3) (.yes (.neg (.int 1))) .no)) (.cons (.slc true (.var 3) (.yes (.int 1)) .no) (.cons (.rev true (.var 3)) (.cons (.bin .Add true (.var 3) (.tup (.cons (.tup (.cons (.str "z") .nil)) .nil))) (.cons (.tup (.cons (.var 3) .nil)) .nil)))))))) (.var 6))) .nil) (.cons (.ite (.and (.val (.call "_law_is_whole" (.cons (.var 3) .nil))) (.cmp .Lt (.var 6) (.int 7))) (.cons (.asg (.name 3) (.ix (.tup (.cons (.bin .Add true (.var 3) (.int 1)) (.cons (.bin .Sub true (.var 3) (.int 1)) (.cons (.bin .Sub true (.int 0) (.var 3)) (.cons (.tst (.cmp .Gt (.var 3) (.int 0))) (.cons (.bin .Mult true (.var 3) (.int 2)) (.cons (.fn .str true (.cons (.call "_law_draw" (.cons (.var 0) (.cons (.int 9) .nil))) .nil)) (.cons (.int 0) .nil)))))))) (.var 6))) .nil) (.cons (.ite (.and (.isi (.var 3) [(.bt "str")]) (.cmp .Lt (.var 6) (.int 7))) (.cons (.asg (.name 3) (.ix (.tup (.cons (.bin .Add true (.var 3) (.str "a")) (.cons (.slc true (.var 3) (.yes (.int 1)) .no) (.cons (.bm .upper (.var 3) .nil) (.cons (.str "?") (.cons (.str "#") (.cons (.bin .Add true (.var 3) (.str "_234567890ab")) (.cons (.bin .Add true (.str "1") (.var 3)) .nil)))))))) (.var 6))) .nil) (.cons (.asg (.name 3) (.call "_law_odd_thing" (.cons (.var 0) .nil))) .nil)) .nil)) .nil)) (.cons (.for_ (.tup (.cons (.name 7) (.cons (.name 5) .nil))) (.seq (.rev true (.var 2))) (.cons (.asg (.name 3) (.bin .Add true (.bin .Add true (.slc true (.var 7) .no (.yes (.var 5))) (.tup (.cons (.var 3) .nil))) (.slc true (.var 7) (.yes (.bin .Add true (.var 5) (.int 1))) .no))) .nil)) (.cons (.ret (.var 3)) .nil)))))) }
def e_law_bent : Ent := ⟨("_law_bent", none), f_law_bent, "_law_bent", "_law_bent", top 32⟩
def f_law_is_name : CFun := { ps := ["thing"], N := ["thing", "sign"], body :=
  (.cons (.ite (.or (.not (.isi (.var 0) [(.bt "str")])) (.or (.not (.chain .LtE .LtE (.int 1) (.fn .len true (.cons (.var 0) .nil)) (.int 12))) (.cmp .NotIn (.ix (.var 0) (.int 0)) (.str "abcdefghijklmnopqrstuvwxyz")))) (.cons (.ret (.bl false)) .nil) .nil) (.cons (.ret (.fn .all true (.cons (.lc true (.tst (.cmp .In (.var 1) (.str "abcdefghijklmnopqrstuvwxyz0123456789_"))) (.name 1) (.seq (.var 0)) .nil [("sign", 1)]) .nil))) .nil)) }
def e_law_is_name : Ent := ⟨("_law_is_name", none), f_law_is_name, "_law_is_name", "_law_is_name", top 33⟩
def f_law_is_pair : CFun := { ps := ["thing", "few"], N := ["thing", "few"], body :=
  (.cons (.ret (.tst (.and (.isi (.var 0) [(.bt "tuple")]) (.cmp .Eq (.fn .len true (.cons (.var 0) .nil)) (.var 1))))) .nil) }
def e_law_is_pair : Ent := ⟨("_law_is_pair", none), f_law_is_pair, "_law_is_pair", "_law_is_pair", top 34⟩
def f_law_living : CFun := { ps := ["sig"], N := ["sig", "found", "kind", "word", "turn", "name", "args", "arg"], body :=
  (.cons (.asg (.name 1) (.lc false (.var 2) (.tup (.cons (.name 2) (.cons (.name 3) .nil))) (.seq (.ix (.var 0) (.int 0))) (.cons (.cmp .Eq (.var 3) (.str "open")) .nil) [("kind", 2), ("word", 3)])) (.cons (.for_ (.name 4) (.range1 (.fn .len true (.cons (.ix (.var 0) (.int 0)) .nil))) (.cons (.for_ (.tup (.cons (.name 5) (.cons (.name 6) (.cons (.name 2) .nil)))) (.seq (.ix (.var 0) (.int 1))) (.cons (.ite (.and (.cmp .NotIn (.var 2) (.var 1)) (.val (.fn .all true (.cons (.lc true (.tst (.cmp .In (.var 7) (.var 1))) (.name 7) (.seq (.var 6)) .nil [("arg", 7)]) .nil)))) (.cons (.expr (.bm .append (.var 1) (.cons (.var 2) .nil))) .nil) .nil) .nil)) .nil)) (.cons (.ret (.frz (.var 1))) .nil))) }
def e_law_living : Ent := ⟨("_law_living", none), f_law_living, "_law_living", "_law_living", top 35⟩
def f_law_is_signature : CFun := { ps := ["thing"], N := ["thing", "each", "kinds", "arg", "names"], body :=
  (.cons (.ite (.or (.not (.val (.call "_law_is_pair" (.cons (.var 0) (.cons (.int 2) .nil))))) (.or (.not (.isi (.ix (.var 0) (.int 0)) [(.bt "tuple")])) (.not (.chain .LtE .LtE (.int 1) (.fn .len true (.cons (.ix (.var 0) (.int 0)) .nil)) (.int 8))))) (.cons (.ret (.bl false)) .nil) .nil) (.cons (.for_ (.name 1) (.seq (.ix (.var 0) (.int 0))) (.cons (.ite (.or (.not (.val (.call "_law_is_pair" (.cons (.var 1) (.cons (.int 2) .nil))))) (.or (.not (.val (.call "_law_is_name" (.cons (.ix (.var 1) (.int 0)) .nil)))) (.not (.isi (.ix (.var 1) (.int 1)) [(.bt "str")])))) (.cons (.ret (.bl false)) .nil) .nil) (.cons (.ite (.cmp .NotIn (.ix (.var 1) (.int 1)) (.tup (.cons (.str "open") (.cons (.str "closed") .nil)))) (.cons (.ret (.bl false)) .nil) .nil) .nil))) (.cons (.asg (.name 2) (.lc true (.ix (.var 1) (.int 0)) (.name 1) (.seq (.ix (.var 0) (.int 0))) .nil [("each", 1)])) (.cons (.ite (.or (.cmp .NotEq (.fn .len true (.cons (.sortset true (.var 2)) .nil)) (.fn .len true (.cons (.var 2) .nil))) (.or (.not (.isi (.ix (.var 0) (.int 1)) [(.bt "tuple")])) (.cmp .Gt (.fn .len true (.cons (.ix (.var 0) (.int 1)) .nil)) (.int 24)))) (.cons (.ret (.bl false)) .nil) .nil) (.cons (.for_ (.name 1) (.seq (.ix (.var 0) (.int 1))) (.cons (.ite (.or (.not (.val (.call "_law_is_pair" (.cons (.var 1) (.cons (.int 3) .nil))))) (.or (.not (.val (.call "_law_is_name" (.cons (.ix (.var 1) (.int 0)) .nil)))) (.or (.not (.isi (.ix (.var 1) (.int 1)) [(.bt "tuple")])) (.cmp .Gt (.fn .len true (.cons (.ix (.var 1) (.int 1)) .nil)) (.int 3))))) (.cons (.ret (.bl false)) .nil) .nil) (.cons (.ite (.not (.val (.fn .all true (.cons (.lc true (.tst (.and (.isi (.var 3) [(.bt "str")]) (.cmp .In (.var 3) (.var 2)))) (.name 3) (.seq (.bin .Add true (.ix (.var 1) (.int 1)) (.tup (.cons (.ix (.var 1) (.int 2)) .nil)))) .nil [("arg", 3)]) .nil)))) (.cons (.ret (.bl false)) .nil) .nil) .nil))) (.cons (.setLc 4 true (.ix (.var 1) (.int 0)) (.name 1) (.seq (.ix (.var 0) (.int 1))) .nil [("each", 1)]) (.cons (.ret (.tst (.and (.cmp .Eq (.fn .len true (.cons (.sortset true (.var 4)) .nil)) (.fn .len true (.cons (.var 4) .nil))) (.cmp .Eq (.fn .len true (.cons (.call "_law_living" (.cons (.var 0) .nil)) .nil)) (.fn .len true (.cons (.var 2) .nil)))))) .nil))))))) }
def e_law_is_signature : Ent := ⟨("_law_is_signature", none), f_law_is_signature, "_law_is_signature", "_law_is_signature", top 36⟩
def f_law_makers : CFun := { ps := ["sig", "kind"], N := ["sig", "kind", "name", "args", "own"], body :=
  (.cons (.ret (.lc true (.tup (.cons (.var 2) (.cons (.var 3) .nil))) (.tup (.cons (.name 2) (.cons (.name 3) (.cons (.name 4) .nil)))) (.seq (.ix (.var 0) (.int 1))) (.cons (.cmp .Eq (.var 4) (.var 1)) .nil) [("name", 2), ("args", 3), ("own", 4)])) .nil) }
def e_law_makers : Ent := ⟨("_law_makers", none), f_law_makers, "_law_makers", "_law_makers", top 37⟩
def f_law_is_open : CFun := { ps := ["sig", "kind"], N := ["sig", "kind"], body :=
  (.cons (.ret (.tst (.cmp .In (.tup (.cons (.var 1) (.cons (.str "open") .nil))) (.ix (.var 0) (.int 0))))) .nil) }
def e_law_is_open : Ent := ⟨("_law_is_open", none), f_law_is_open, "_law_is_open", "_law_is_open", top 38⟩
def f_law_is_small : CFun := { ps := ["sig", "kind"], N := ["sig", "kind", "ways", "way", "name", "args", "arg"], body :=
  (.cons (.asg (.name 2) (.lst false (.cons (.tup (.cons (.var 1) .nil)) .nil))) (.cons (.while_ (.cmp .NotEq (.var 2) (.lst true .nil)) (.cons (.asg (.name 3) (.bm .pop0 (.var 2) .nil)) (.cons (.ite (.val (.call "_law_is_open" (.cons (.var 0) (.cons (.ix (.var 3) (.neg (.int 1))) .nil)))) (.cons (.ret (.bl false)) .nil) .nil) (.cons (.for_ (.tup (.cons (.name 4) (.cons (.name 5) .nil))) (.seq (.call "_law_makers" (.cons (.var 0) (.cons (.ix (.var 3) (.neg (.int 1))) .nil)))) (.cons (.for_ (.name 6) (.seq (.var 5)) (.cons (.ite (.cmp .In (.var 6) (.var 3)) (.cons (.ret (.bl false)) .nil) .nil) (.cons (.expr (.bm .append (.var 2) (.cons (.bin .Add true (.var 3) (.tup (.cons (.var 6) .nil))) .nil))) .nil))) .nil)) .nil)))) (.cons (.ret (.bl true)) .nil))) }
def e_law_is_small : Ent := ⟨("_law_is_small", none), f_law_is_small, "_law_is_small", "_law_is_small", top 39⟩
def f_law_some_sig : CFun := { ps := ["well"], N := ["well", "way"], body :=
  (.cons (.asg (.name 1) (.call "_law_draw" (.cons (.var 0) (.cons (.int 6) .nil)))) (.cons (.ite (.cmp .Eq (.var 1) (.int 0)) (.cons (.ret (.tup (.cons (.tup (.cons (.tup (.cons (.str "count") (.cons (.str "closed") .nil))) (.cons (.tup (.cons (.str "truth") (.cons (.str "closed") .nil))) (.cons (.tup (.cons (.str "type") (.cons (.str "open") .nil))) (.cons (.tup (.cons (.str "row") (.cons (.str "closed") .nil))) .nil))))) (.cons (.tup (.cons (.tup (.cons (.str "z") (.cons (.tup .nil) (.cons (.str "count") .nil)))) (.cons (.tup (.cons (.str "s") (.cons (.tup (.cons (.str "count") .nil)) (.cons (.str "count") .nil)))) (.cons (.tup (.cons (.str "yes") (.cons (.tup .nil) (.cons (.str "truth") .nil)))) (.cons (.tup (.cons (.str "no") (.cons (.tup .nil) (.cons (.str "truth") .nil)))) (.cons (.tup (.cons (.str "int") (.cons (.tup .nil) (.cons (.str "type") .nil)))) (.cons (.tup (.cons (.str "ptr") (.cons (.tup (.cons (.str "type") .nil)) (.cons (.str "type") .nil)))) (.cons (.tup (.cons (.str "nil") (.cons (.tup .nil) (.cons (.str "row") .nil)))) (.cons (.tup (.cons (.str "cons") (.cons (.tup (.cons (.str "type") (.cons (.str "row") .nil))) (.cons (.str "row") .nil)))) .nil))))))))) .nil)))) .nil) .nil) (.cons (.ite (.cmp .Eq (.var 1) (.int 1)) (.cons (.ret (.tup (.cons (.tup (.cons (.tup (.cons (.str "bit") (.cons (.str "closed") .nil))) (.cons (.tup (.cons (.str "nat") (.cons (.str "closed") .nil))) (.cons (.tup (.cons (.str "pair") (.cons (.str "closed") .nil))) .nil)))) (.cons (.tup (.cons (.tup (.cons (.str "o") (.cons (.tup .nil) (.cons (.str "bit") .nil)))) (.cons (.tup (.cons (.str "i") (.cons (.tup .nil) (.cons (.str "bit") .nil)))) (.cons (.tup (.cons (.str "z") (.cons (.tup .nil) (.cons (.str "nat") .nil)))) (.cons (.tup (.cons (.str "s") (.cons (.tup (.cons (.str "nat") .nil)) (.cons (.str "nat") .nil)))) (.cons (.tup (.cons (.str "p") (.cons (.tup (.cons (.str "bit") (.cons (.str "nat") .nil))) (.cons (.str "pair") .nil)))) (.cons (.tup (.cons (.str "q") (.cons (.tup (.cons (.str "pair") (.cons (.str "bit") .nil))) (.cons (.str "pair") .nil)))) .nil))))))) .nil)))) .nil) .nil) (.cons (.ite (.cmp .Eq (.var 1) (.int 2)) (.cons (.ret (.tup (.cons (.tup (.cons (.tup (.cons (.str "type") (.cons (.str "open") .nil))) (.cons (.tup (.cons (.str "opt") (.cons (.str "closed") .nil))) (.cons (.tup (.cons (.str "size") (.cons (.str "open") .nil))) .nil)))) (.cons (.tup (.cons (.tup (.cons (.str "int") (.cons (.tup .nil) (.cons (.str "type") .nil)))) (.cons (.tup (.cons (.str "fn") (.cons (.tup (.cons (.str "type") (.cons (.str "type") .nil))) (.cons (.str "type") .nil)))) (.cons (.tup (.cons (.str "none") (.cons (.tup .nil) (.cons (.str "opt") .nil)))) (.cons (.tup (.cons (.str "some") (.cons (.tup (.cons (.str "type") .nil)) (.cons (.str "opt") .nil)))) (.cons (.tup (.cons (.str "arr") (.cons (.tup (.cons (.str "type") (.cons (.str "size") .nil))) (.cons (.str "type") .nil)))) .nil)))))) .nil)))) .nil) .nil) (.cons (.ite (.cmp .Eq (.var 1) (.int 3)) (.cons (.ret (.tup (.cons (.tup (.cons (.tup (.cons (.str "t") (.cons (.str "closed") .nil))) (.cons (.tup (.cons (.str "u") (.cons (.str "closed") .nil))) (.cons (.tup (.cons (.str "w") (.cons (.str "closed") .nil))) .nil)))) (.cons (.tup (.cons (.tup (.cons (.str "a") (.cons (.tup .nil) (.cons (.str "t") .nil)))) (.cons (.tup (.cons (.str "b") (.cons (.tup .nil) (.cons (.str "t") .nil)))) (.cons (.tup (.cons (.str "c") (.cons (.tup .nil) (.cons (.str "t") .nil)))) (.cons (.tup (.cons (.str "m") (.cons (.tup (.cons (.str "t") (.cons (.str "t") .nil))) (.cons (.str "u") .nil)))) (.cons (.tup (.cons (.str "e") (.cons (.tup .nil) (.cons (.str "u") .nil)))) (.cons (.tup (.cons (.str "n") (.cons (.tup (.cons (.str "u") .nil)) (.cons (.str "w") .nil)))) .nil))))))) .nil)))) .nil) .nil) (.cons (.ite (.cmp .Eq (.var 1) (.int 4)) (.cons (.ret (.tup (.cons (.tup (.cons (.tup (.cons (.str "ev") (.cons (.str "closed") .nil))) (.cons (.tup (.cons (.str "od") (.cons (.str "closed") .nil))) (.cons (.tup (.cons (.str "t") (.cons (.str "closed") .nil))) (.cons (.tup (.cons (.str "x") (.cons (.str "open") .nil))) .nil))))) (.cons (.tup (.cons (.tup (.cons (.str "z") (.cons (.tup .nil) (.cons (.str "ev") .nil)))) (.cons (.tup (.cons (.str "se") (.cons (.tup (.cons (.str "od") .nil)) (.cons (.str "ev") .nil)))) (.cons (.tup (.cons (.str "so") (.cons (.tup (.cons (.str "ev") .nil)) (.cons (.str "od") .nil)))) (.cons (.tup (.cons (.str "a") (.cons (.tup .nil) (.cons (.str "t") .nil)))) (.cons (.tup (.cons (.str "b") (.cons (.tup .nil) (.cons (.str "t") .nil)))) (.cons (.tup (.cons (.str "k") (.cons (.tup (.cons (.str "t") (.cons (.str "x") .nil))) (.cons (.str "x") .nil)))) .nil))))))) .nil)))) .nil) .nil) (.cons (.ret (.tup (.cons (.tup (.cons (.tup (.cons (.str "n") (.cons (.str "closed") .nil))) .nil)) (.cons (.tup (.cons (.tup (.cons (.str "z") (.cons (.tup .nil) (.cons (.str "n") .nil)))) (.cons (.tup (.cons (.str "s") (.cons (.tup (.cons (.str "n") .nil)) (.cons (.str "n") .nil)))) (.cons (.tup (.cons (.str "d") (.cons (.tup (.cons (.str "n") (.cons (.str "n") .nil))) (.cons (.str "n") .nil)))) .nil)))) .nil)))) .nil))))))) }
def e_law_some_sig : Ent := ⟨("_law_some_sig", none), f_law_some_sig, "_law_some_sig", "_law_some_sig", top 40⟩
def f_law_turned : CFun := { ps := ["well", "sig"], N := ["well", "sig"], body :=
  (.cons (.ret (.tup (.cons (.fn .tuple true (.cons (.call "_law_mixed" (.cons (.var 0) (.cons (.ix (.var 1) (.int 0)) .nil))) .nil)) (.cons (.fn .tuple true (.cons (.call "_law_mixed" (.cons (.var 0) (.cons (.ix (.var 1) (.int 1)) .nil))) .nil)) .nil)))) .nil) }
def e_law_turned : Ent := ⟨("_law_turned", none), f_law_turned, "_law_turned", "_law_turned", top 41⟩
def f_law_sig : CFun := { ps := ["well"], N := ["well"], body :=
  (.cons (.ret (.call "_law_turned" (.cons (.var 0) (.cons (.call "_law_some_sig" (.cons (.var 0) .nil)) .nil)))) .nil) }
def e_law_sig : Ent := ⟨("_law_sig", none), f_law_sig, "_law_sig", "_law_sig", top 42⟩
def f_law_things : CFun := { ps := ["well", "sig"], N := ["well", "sig", "kinds", "makers", "name", "word", "at", "own", "args", "made", "some", "many", "k", "more", "ring"], body :=
  (.cons (.asg (.tup (.cons (.name 2) (.cons (.name 3) .nil))) (.var 1)) (.cons (.asg (.tup (.cons (.name 4) (.cons (.name 5) .nil))) (.call "_law_one" (.cons (.var 0) (.cons (.var 2) .nil)))) (.cons (.asg (.name 6) (.call "_law_draw" (.cons (.var 0) (.cons (.fn .len true (.cons (.var 3) .nil)) .nil)))) (.cons (.asg (.tup (.cons (.name 7) (.cons (.name 8) (.cons (.name 9) .nil)))) (.ix (.var 3) (.var 6))) (.cons (.asg (.name 10) (.lst true (.cons (.var 1) (.cons (.fn .list true (.cons (.var 1) .nil)) (.cons (.tup (.cons (.var 2) .nil)) (.cons (.tup (.cons (.fn .list true (.cons (.var 2) .nil)) (.cons (.var 3) .nil))) (.cons (.tup (.cons (.var 2) (.cons (.fn .list true (.cons (.var 3) .nil)) .nil))) (.cons (.tup (.cons (.var 2) (.cons (.tup .nil) .nil))) (.cons (.tup (.cons (.tup .nil) (.cons (.var 3) .nil))) (.cons (.bin .Add true (.var 1) (.tup (.cons (.tup .nil) .nil))) .nil)))))))))) (.cons (.asg (.name 10) (.bin .Add true (.var 10) (.lst true (.cons (.tup (.cons (.bin .Add true (.var 2) (.tup (.cons (.tup (.cons (.str "new") (.cons (.str "closed") .nil))) .nil))) (.cons (.var 3) .nil))) (.cons (.tup (.cons (.bin .Add true (.var 2) (.tup (.cons (.tup (.cons (.str "new") (.cons (.str "open") .nil))) .nil))) (.cons (.var 3) .nil))) (.cons (.tup (.cons (.bin .Add true (.var 2) (.slc true (.var 2) .no (.yes (.int 1)))) (.cons (.var 3) .nil))) .nil)))))) (.cons (.asg (.name 10) (.bin .Add true (.var 10) (.lst true (.cons (.tup (.cons (.bin .Add true (.var 2) (.tup (.cons (.tup (.cons (.str "new") (.cons (.str "closed") .nil))) .nil))) (.cons (.bin .Add true (.var 3) (.tup (.cons (.tup (.cons (.str "mk") (.cons (.tup (.cons (.str "new") .nil)) (.cons (.str "new") .nil)))) .nil))) .nil))) (.cons (.tup (.cons (.bin .Add true (.var 2) (.tup (.cons (.tup (.cons (.str "new") (.cons (.str "shut") .nil))) .nil))) (.cons (.var 3) .nil))) .nil))))) (.cons (.asg (.name 10) (.bin .Add true (.var 10) (.lst true (.cons (.tup (.cons (.var 2) (.cons (.bin .Add true (.var 3) (.slc true (.var 3) .no (.yes (.int 1)))) .nil))) (.cons (.tup (.cons (.var 2) (.cons (.bin .Add true (.var 3) (.tup (.cons (.tup (.cons (.str "mk") (.cons (.tup (.cons (.var 4) (.cons (.var 4) (.cons (.var 4) .nil)))) (.cons (.var 4) .nil)))) .nil))) .nil))) (.cons (.tup (.cons (.slc true (.var 2) (.yes (.int 1)) .no) (.cons (.var 3) .nil))) .nil)))))) (.cons (.asg (.name 10) (.bin .Add true (.var 10) (.lst true (.cons (.tup (.cons (.var 2) (.cons (.bin .Add true (.var 3) (.tup (.cons (.tup (.cons (.str "mk") (.cons (.bin .Mult true (.tup (.cons (.var 4) .nil)) (.int 4)) (.cons (.var 4) .nil)))) .nil))) .nil))) (.cons (.tup (.cons (.var 2) (.cons (.bin .Add true (.var 3) (.tup (.cons (.tup (.cons (.str "mk") (.cons (.tup (.cons (.str "no_kind") .nil)) (.cons (.var 4) .nil)))) .nil))) .nil))) .nil))))) (.cons (.asg (.name 10) (.bin .Add true (.var 10) (.lst true (.cons (.tup (.cons (.var 2) (.cons (.bin .Add true (.var 3) (.tup (.cons (.tup (.cons (.str "mk") (.cons (.lst true (.cons (.var 4) .nil)) (.cons (.var 4) .nil)))) .nil))) .nil))) (.cons (.tup (.cons (.var 2) (.cons (.bin .Add true (.var 3) (.tup (.cons (.tup (.cons (.str "mk") (.cons (.tup .nil) (.cons (.str "no_kind") .nil)))) .nil))) .nil))) .nil))))) (.cons (.asg (.name 10) (.bin .Add true (.var 10) (.lst true (.cons (.tup (.cons (.var 2) (.cons (.bin .Add true (.var 3) (.tup (.cons (.tup (.cons (.str "1mk") (.cons (.tup .nil) (.cons (.var 4) .nil)))) .nil))) .nil))) (.cons (.tup (.cons (.var 2) (.cons (.bin .Add true (.var 3) (.tup (.cons (.tup (.cons (.bin .Mult true (.str "m") (.int 12)) (.cons (.tup .nil) (.cons (.var 4) .nil)))) .nil))) .nil))) (.cons (.tup (.cons (.var 2) (.cons (.bin .Add true (.slc true (.var 3) .no (.yes (.var 6))) (.slc true (.var 3) (.yes (.bin .Add true (.var 6) (.int 1))) .no)) .nil))) .nil)))))) (.cons (.asg (.name 10) (.bin .Add true (.var 10) (.lst true (.cons (.tup (.cons (.var 2) (.cons (.bin .Add true (.var 3) (.tup (.cons (.tup (.cons (.bin .Mult true (.str "m") (.int 13)) (.cons (.tup .nil) (.cons (.var 4) .nil)))) .nil))) .nil))) (.cons (.tup (.cons (.var 2) (.cons (.bin .Add true (.var 3) (.tup (.cons (.tup (.cons (.str "Mk") (.cons (.tup .nil) (.cons (.var 4) .nil)))) .nil))) .nil))) (.cons (.tup (.cons (.var 2) (.cons (.bin .Add true (.var 3) (.tup (.cons (.tup (.cons (.str "mK") (.cons (.tup .nil) (.cons (.var 4) .nil)))) .nil))) .nil))) (.cons (.tup (.cons (.var 2) (.cons (.bin .Add true (.var 3) (.tup (.cons (.tup (.cons (.str "m k") (.cons (.tup .nil) (.cons (.var 4) .nil)))) .nil))) .nil))) (.cons (.tup (.cons (.var 2) (.cons (.bin .Add true (.var 3) (.tup (.cons (.tup (.cons (.var 4) (.cons (.tup .nil) (.cons (.var 4) .nil)))) .nil))) .nil))) .nil)))))))) (.cons (.asg (.name 11) (.fn .tuple true (.cons (.lc true (.tup (.cons (.bin .Add true (.str "k") (.fn .str true (.cons (.var 12) .nil))) (.cons (.str "open") .nil))) (.name 12) (.range1 (.bin .Sub true (.int 9) (.fn .len true (.cons (.var 2) .nil)))) .nil [("k", 12)]) .nil))) (.cons (.asg (.name 10) (.bin .Add true (.var 10) (.lst true (.cons (.tup (.cons (.bin .Add true (.var 2) (.var 11)) (.cons (.var 3) .nil))) (.cons (.tup (.cons (.bin .Add true (.var 2) (.slc true (.var 11) (.yes (.int 1)) .no)) (.cons (.var 3) .nil))) (.cons (.tup (.cons (.var 2) (.cons (.bin .Add true (.var 3) (.tup (.cons (.tup (.cons (.str "mk") (.cons (.tup .nil) (.cons .non .nil)))) .nil))) .nil))) .nil)))))) (.cons (.asg (.name 13) (.fn .tuple true (.cons (.lc true (.tup (.cons (.bin .Add true (.str "m") (.fn .str true (.cons (.var 12) .nil))) (.cons (.tup .nil) (.cons (.var 4) .nil)))) (.name 12) (.range1 (.bin .Sub true (.int 25) (.fn .len true (.cons (.var 3) .nil)))) .nil [("k", 12)]) .nil))) (.cons (.asg (.name 10) (.bin .Add true (.var 10) (.lst true (.cons (.tup (.cons (.var 2) (.cons (.bin .Add true (.var 3) (.var 13)) .nil))) (.cons (.tup (.cons (.var 2) (.cons (.bin .Add true (.var 3) (.slc true (.var 13) (.yes (.int 1)) .no)) .nil))) (.cons (.tup (.cons (.var 2) (.cons (.bin .Add true (.bin .Add true (.slc true (.var 3) .no (.yes (.var 6))) (.tup (.cons (.tup (.cons (.var 7) (.cons (.var 8) .nil))) .nil))) (.slc true (.var 3) (.yes (.bin .Add true (.var 6) (.int 1))) .no)) .nil))) .nil)))))) (.cons (.asg (.name 14) (.tup (.cons (.tup (.cons (.str "one") (.cons (.str "closed") .nil))) (.cons (.tup (.cons (.str "two") (.cons (.str "closed") .nil))) .nil)))) (.cons (.asg (.name 10) (.bin .Add true (.var 10) (.lst true (.cons (.tup (.cons (.var 14) (.cons (.tup (.cons (.tup (.cons (.str "f") (.cons (.tup (.cons (.str "two") .nil)) (.cons (.str "one") .nil)))) (.cons (.tup (.cons (.str "g") (.cons (.tup (.cons (.str "one") .nil)) (.cons (.str "two") .nil)))) .nil))) .nil))) (.cons (.tup (.cons (.var 14) (.cons (.tup (.cons (.tup (.cons (.str "f") (.cons (.tup (.cons (.str "two") .nil)) (.cons (.str "one") .nil)))) (.cons (.tup (.cons (.str "g") (.cons (.tup .nil) (.cons (.str "two") .nil)))) .nil))) .nil))) .nil))))) (.cons (.ret (.bin .Add true (.var 10) (.lst true (.cons (.call "_law_bent" (.cons (.var 0) (.cons (.var 1) .nil))) (.cons (.call "_law_bent" (.cons (.var 0) (.cons (.var 1) .nil))) (.cons (.call "_law_bent" (.cons (.var 0) (.cons (.var 1) .nil))) (.cons (.call "_law_odd_thing" (.cons (.var 0) .nil)) .nil))))))) .nil))))))))))))))))))) }
def e_law_things : Ent := ⟨("_law_things", none), f_law_things, "_law_things", "_law_things", top 43⟩
def f_law_right : CFun := { ps := ["well"], N := ["well", "turn", "sig", "at", "thing", "due", "told", "kind", "word", "small"], body :=
  (.cons (.for_ (.name 1) (.range1 (.int 2)) (.cons (.asg (.name 2) (.call "_law_sig" (.cons (.var 0) .nil))) (.cons (.for_ (.tup (.cons (.name 3) (.cons (.name 4) .nil))) (.enum (.call "_law_things" (.cons (.var 0) (.cons (.var 2) .nil)))) (.cons (.asg (.name 5) (.call "_law_is_signature" (.cons (.var 4) .nil))) (.cons (.asg (.name 6) (.ifx (.cmp .Eq (.bin .Mod true (.fn .int true (.cons (.var 3) .nil)) (.int 2)) (.int 0)) (.call "is_signature" (.cons (.var 4) .nil)) (.callk "is_signature" .nil ["value"] (.cons (.var 4) .nil)))) (.cons (.ite (.cmp .NotEq (.fn .repr true (.cons (.var 6) .nil)) (.fn .repr true (.cons (.var 5) .nil))) (.cons (.ret (.bl false)) .nil) .nil) (.cons (.for_ (.tup (.cons (.name 7) (.cons (.name 8) .nil))) (.seq (.ifx (.val (.var 5)) (.ix (.var 4) (.int 0)) (.tup .nil))) (.cons (.asg (.name 9) (.call "_law_is_small" (.cons (.var 4) (.cons (.var 7) .nil)))) (.cons (.ite (.cmp .NotEq (.fn .repr true (.cons (.lst true (.cons (.call "is_small" (.cons (.var 4) (.cons (.var 7) .nil))) (.cons (.callk "is_small" .nil ["kind", "signature"] (.cons (.var 7) (.cons (.var 4) .nil))) .nil))) .nil)) (.fn .repr true (.cons (.lst true (.cons (.var 9) (.cons (.var 9) .nil))) .nil))) (.cons (.ret (.bl false)) .nil) .nil) .nil))) .nil))))) .nil))) (.cons (.ret (.bl true)) .nil)) }
def e_law_right : Ent := ⟨("_law_right", none), f_law_right, "_law_right", "_law_right", top 44⟩
def f_law : CFun := { ps := ["script"], N := ["script", "lap"], body :=
  (.cons (.ret (.fn .all true (.cons (.lc true (.call "_law_right" (.cons (.call "_law_well" (.cons (.var 0) (.cons (.var 1) .nil))) .nil)) (.name 1) (.range1 (.fn .max true (.cons (.int 2) (.cons (.fn .min true (.cons (.fn .len true (.cons (.var 0) .nil)) (.cons (.int 3) .nil))) .nil)))) .nil [("lap", 1)]) .nil))) .nil) }
def e_law : Ent := ⟨("law", none), f_law, "law", "law", top 45⟩
def L : Law := ⟨[e_is_name, e_are_unlike, e_Signs____init, e_Signs__is_open, e_Signs__is_small, e_Signs__find_small, e_Signs__turns_small, e_is_kind_pair, e_is_kinds_row, e_is_maker, e_made_kinds, e_is_signature_by, e_check_signature, e_check_kind, e_is_signature, e_is_small, e_law_well, e_law_draw, e_law_one, e_law_mixed, e_law_is_whole, e_law_odd_thing, e_law_bent, e_law_is_name, e_law_is_pair, e_law_living, e_law_is_signature, e_law_makers, e_law_is_open, e_law_is_small, e_law_some_sig, e_law_turned, e_law_sig, e_law_things, e_law_right, e_law],
  ["Signs"],
  [("Signs", "kinds"), ("Signs", "makers"), ("Signs", "of_kind"), ("Signs", "small"), ("Signs", "words")],
  [("FIGURES", .inr "0123456789"), ("LETTERS", .inr "abcdefghijklmnopqrstuvwxyz"), ("MOST_ARGS", .inl 3), ("MOST_KINDS", .inl 8), ("MOST_MAKERS", .inl 24), ("MOST_NAME", .inl 12)],
  [("is_signature", ["value"]), ("is_small", ["kind", "signature"])]⟩
theorem b_is_name : EntBd L e_is_name where
  bd := fun _ _ _ _ _ _ us hl => match us, hl with | [_], _ => rfl
  kb := fun ks h => absurd h (by rw [show L.kwOf e_is_name.id.1 = [] from by decide +kernel]; exact List.not_mem_nil)
theorem b_are_unlike : EntBd L e_are_unlike where
  bd := fun _ _ _ _ _ _ us hl => match us, hl with | [_], _ => rfl
  kb := fun ks h => absurd h (by rw [show L.kwOf e_are_unlike.id.1 = [] from by decide +kernel]; exact List.not_mem_nil)
theorem b_Signs____init : EntBd L e_Signs____init where
  bd := fun _ _ _ _ _ _ us hl => match us, hl with | [_, _], _ => rfl
  kb := fun ks h => absurd h (by rw [show L.kwOf e_Signs____init.id.1 = [] from by decide +kernel]; exact List.not_mem_nil)
theorem b_Signs__is_open : EntBd L e_Signs__is_open where
  bd := fun _ _ _ _ _ _ us hl => match us, hl with | [_, _], _ => rfl
  kb := fun ks h => absurd h (by rw [show L.kwOf e_Signs__is_open.id.1 = [] from by decide +kernel]; exact List.not_mem_nil)
theorem b_Signs__is_small : EntBd L e_Signs__is_small where
  bd := fun _ _ _ _ _ _ us hl => match us, hl with | [_, _], _ => rfl
  kb := fun ks h => absurd h (by rw [show L.kwOf e_Signs__is_small.id.1 = [] from by decide +kernel]; exact List.not_mem_nil)
theorem b_Signs__find_small : EntBd L e_Signs__find_small where
  bd := fun _ _ _ _ _ _ us hl => match us, hl with | [_], _ => rfl
  kb := fun ks h => absurd h (by rw [show L.kwOf e_Signs__find_small.id.1 = [] from by decide +kernel]; exact List.not_mem_nil)
theorem b_Signs__turns_small : EntBd L e_Signs__turns_small where
  bd := fun _ _ _ _ _ _ us hl => match us, hl with | [_, _], _ => rfl
  kb := fun ks h => absurd h (by rw [show L.kwOf e_Signs__turns_small.id.1 = [] from by decide +kernel]; exact List.not_mem_nil)
theorem b_is_kind_pair : EntBd L e_is_kind_pair where
  bd := fun _ _ _ _ _ _ us hl => match us, hl with | [_], _ => rfl
  kb := fun ks h => absurd h (by rw [show L.kwOf e_is_kind_pair.id.1 = [] from by decide +kernel]; exact List.not_mem_nil)
theorem b_is_kinds_row : EntBd L e_is_kinds_row where
  bd := fun _ _ _ _ _ _ us hl => match us, hl with | [_, _, _, _], _ => rfl
  kb := fun ks h => absurd h (by rw [show L.kwOf e_is_kinds_row.id.1 = [] from by decide +kernel]; exact List.not_mem_nil)
theorem b_is_maker : EntBd L e_is_maker where
  bd := fun _ _ _ _ _ _ us hl => match us, hl with | [_, _], _ => rfl
  kb := fun ks h => absurd h (by rw [show L.kwOf e_is_maker.id.1 = [] from by decide +kernel]; exact List.not_mem_nil)
theorem b_made_kinds : EntBd L e_made_kinds where
  bd := fun _ _ _ _ _ _ us hl => match us, hl with | [_], _ => rfl
  kb := fun ks h => absurd h (by rw [show L.kwOf e_made_kinds.id.1 = [] from by decide +kernel]; exact List.not_mem_nil)
theorem b_is_signature_by : EntBd L e_is_signature_by where
  bd := fun _ _ _ _ _ _ us hl => match us, hl with | [_], _ => rfl
  kb := fun ks h => absurd h (by rw [show L.kwOf e_is_signature_by.id.1 = [] from by decide +kernel]; exact List.not_mem_nil)
theorem b_check_signature : EntBd L e_check_signature where
  bd := fun _ _ _ _ _ _ us hl => match us, hl with | [_], _ => rfl
  kb := fun ks h => absurd h (by rw [show L.kwOf e_check_signature.id.1 = [] from by decide +kernel]; exact List.not_mem_nil)
theorem b_check_kind : EntBd L e_check_kind where
  bd := fun _ _ _ _ _ _ us hl => match us, hl with | [_, _], _ => rfl
  kb := fun ks h => absurd h (by rw [show L.kwOf e_check_kind.id.1 = [] from by decide +kernel]; exact List.not_mem_nil)
theorem b_is_signature : EntBd L e_is_signature where
  bd := fun _ _ _ _ _ _ us hl => match us, hl with | [_], _ => rfl
  kb := by
    rw [show L.kwOf e_is_signature.id.1 = ([["value"]] : List (List Str)) from by decide +kernel]
    simp only [List.forall_mem_cons, List.not_mem_nil, false_imp_iff, implies_true, and_true]
    exact fun _ _ _ _ _ _ _ us ws h1 h2 => by
      obtain ⟨_, rfl⟩ := len0 us (by simp only [List.length_cons, List.length_nil] at h2; have h3 : us.length + ws.length = 1 := h1; omega)
      obtain ⟨c0, rfl⟩ := len1 ws h2
      rfl
theorem b_is_small : EntBd L e_is_small where
  bd := fun _ _ _ _ _ _ us hl => match us, hl with | [_, _], _ => rfl
  kb := by
    rw [show L.kwOf e_is_small.id.1 = ([["kind", "signature"]] : List (List Str)) from by decide +kernel]
    simp only [List.forall_mem_cons, List.not_mem_nil, false_imp_iff, implies_true, and_true]
    exact fun _ _ _ _ _ _ _ us ws h1 h2 => by
      obtain ⟨_, rfl⟩ := len0 us (by simp only [List.length_cons, List.length_nil] at h2; have h3 : us.length + ws.length = 2 := h1; omega)
      obtain ⟨c0, c1, rfl⟩ := len2 ws h2
      rfl
theorem b_law_well : EntBd L e_law_well where
  bd := fun _ _ _ _ _ _ us hl => match us, hl with | [_, _], _ => rfl
  kb := fun ks h => absurd h (by rw [show L.kwOf e_law_well.id.1 = [] from by decide +kernel]; exact List.not_mem_nil)
theorem b_law_draw : EntBd L e_law_draw where
  bd := fun _ _ _ _ _ _ us hl => match us, hl with | [_, _], _ => rfl
  kb := fun ks h => absurd h (by rw [show L.kwOf e_law_draw.id.1 = [] from by decide +kernel]; exact List.not_mem_nil)
theorem b_law_one : EntBd L e_law_one where
  bd := fun _ _ _ _ _ _ us hl => match us, hl with | [_, _], _ => rfl
  kb := fun ks h => absurd h (by rw [show L.kwOf e_law_one.id.1 = [] from by decide +kernel]; exact List.not_mem_nil)
theorem b_law_mixed : EntBd L e_law_mixed where
  bd := fun _ _ _ _ _ _ us hl => match us, hl with | [_, _], _ => rfl
  kb := fun ks h => absurd h (by rw [show L.kwOf e_law_mixed.id.1 = [] from by decide +kernel]; exact List.not_mem_nil)
theorem b_law_is_whole : EntBd L e_law_is_whole where
  bd := fun _ _ _ _ _ _ us hl => match us, hl with | [_], _ => rfl
  kb := fun ks h => absurd h (by rw [show L.kwOf e_law_is_whole.id.1 = [] from by decide +kernel]; exact List.not_mem_nil)
theorem b_law_odd_thing : EntBd L e_law_odd_thing where
  bd := fun _ _ _ _ _ _ us hl => match us, hl with | [_], _ => rfl
  kb := fun ks h => absurd h (by rw [show L.kwOf e_law_odd_thing.id.1 = [] from by decide +kernel]; exact List.not_mem_nil)
theorem b_law_bent : EntBd L e_law_bent where
  bd := fun _ _ _ _ _ _ us hl => match us, hl with | [_, _], _ => rfl
  kb := fun ks h => absurd h (by rw [show L.kwOf e_law_bent.id.1 = [] from by decide +kernel]; exact List.not_mem_nil)
theorem b_law_is_name : EntBd L e_law_is_name where
  bd := fun _ _ _ _ _ _ us hl => match us, hl with | [_], _ => rfl
  kb := fun ks h => absurd h (by rw [show L.kwOf e_law_is_name.id.1 = [] from by decide +kernel]; exact List.not_mem_nil)
theorem b_law_is_pair : EntBd L e_law_is_pair where
  bd := fun _ _ _ _ _ _ us hl => match us, hl with | [_, _], _ => rfl
  kb := fun ks h => absurd h (by rw [show L.kwOf e_law_is_pair.id.1 = [] from by decide +kernel]; exact List.not_mem_nil)
theorem b_law_living : EntBd L e_law_living where
  bd := fun _ _ _ _ _ _ us hl => match us, hl with | [_], _ => rfl
  kb := fun ks h => absurd h (by rw [show L.kwOf e_law_living.id.1 = [] from by decide +kernel]; exact List.not_mem_nil)
theorem b_law_is_signature : EntBd L e_law_is_signature where
  bd := fun _ _ _ _ _ _ us hl => match us, hl with | [_], _ => rfl
  kb := fun ks h => absurd h (by rw [show L.kwOf e_law_is_signature.id.1 = [] from by decide +kernel]; exact List.not_mem_nil)
theorem b_law_makers : EntBd L e_law_makers where
  bd := fun _ _ _ _ _ _ us hl => match us, hl with | [_, _], _ => rfl
  kb := fun ks h => absurd h (by rw [show L.kwOf e_law_makers.id.1 = [] from by decide +kernel]; exact List.not_mem_nil)
theorem b_law_is_open : EntBd L e_law_is_open where
  bd := fun _ _ _ _ _ _ us hl => match us, hl with | [_, _], _ => rfl
  kb := fun ks h => absurd h (by rw [show L.kwOf e_law_is_open.id.1 = [] from by decide +kernel]; exact List.not_mem_nil)
theorem b_law_is_small : EntBd L e_law_is_small where
  bd := fun _ _ _ _ _ _ us hl => match us, hl with | [_, _], _ => rfl
  kb := fun ks h => absurd h (by rw [show L.kwOf e_law_is_small.id.1 = [] from by decide +kernel]; exact List.not_mem_nil)
theorem b_law_some_sig : EntBd L e_law_some_sig where
  bd := fun _ _ _ _ _ _ us hl => match us, hl with | [_], _ => rfl
  kb := fun ks h => absurd h (by rw [show L.kwOf e_law_some_sig.id.1 = [] from by decide +kernel]; exact List.not_mem_nil)
theorem b_law_turned : EntBd L e_law_turned where
  bd := fun _ _ _ _ _ _ us hl => match us, hl with | [_, _], _ => rfl
  kb := fun ks h => absurd h (by rw [show L.kwOf e_law_turned.id.1 = [] from by decide +kernel]; exact List.not_mem_nil)
theorem b_law_sig : EntBd L e_law_sig where
  bd := fun _ _ _ _ _ _ us hl => match us, hl with | [_], _ => rfl
  kb := fun ks h => absurd h (by rw [show L.kwOf e_law_sig.id.1 = [] from by decide +kernel]; exact List.not_mem_nil)
theorem b_law_things : EntBd L e_law_things where
  bd := fun _ _ _ _ _ _ us hl => match us, hl with | [_, _], _ => rfl
  kb := fun ks h => absurd h (by rw [show L.kwOf e_law_things.id.1 = [] from by decide +kernel]; exact List.not_mem_nil)
theorem b_law_right : EntBd L e_law_right where
  bd := fun _ _ _ _ _ _ us hl => match us, hl with | [_], _ => rfl
  kb := fun ks h => absurd h (by rw [show L.kwOf e_law_right.id.1 = [] from by decide +kernel]; exact List.not_mem_nil)
theorem b_law : EntBd L e_law where
  bd := fun _ _ _ _ _ _ us hl => match us, hl with | [_], _ => rfl
  kb := fun ks h => absurd h (by rw [show L.kwOf e_law.id.1 = [] from by decide +kernel]; exact List.not_mem_nil)
theorem bds : ∀ e ∈ L.tab, EntBd L e := by
  unfold L
  simp only [List.forall_mem_cons, List.not_mem_nil, false_imp_iff, implies_true, and_true]
  exact ⟨b_is_name, b_are_unlike, b_Signs____init, b_Signs__is_open, b_Signs__is_small, b_Signs__find_small, b_Signs__turns_small, b_is_kind_pair, b_is_kinds_row, b_is_maker, b_made_kinds, b_is_signature_by, b_check_signature, b_check_kind, b_is_signature, b_is_small, b_law_well, b_law_draw, b_law_one, b_law_mixed, b_law_is_whole, b_law_odd_thing, b_law_bent, b_law_is_name, b_law_is_pair, b_law_living, b_law_is_signature, b_law_makers, b_law_is_open, b_law_is_small, b_law_some_sig, b_law_turned, b_law_sig, b_law_things, b_law_right, b_law⟩
theorem ck_is_name : L.entB e_is_name = true := by kernel_rfl
theorem ck_are_unlike : L.entB e_are_unlike = true := by kernel_rfl
theorem ck_Signs____init : L.entB e_Signs____init = true := by kernel_rfl
theorem ck_Signs__is_open : L.entB e_Signs__is_open = true := by kernel_rfl
theorem ck_Signs__is_small : L.entB e_Signs__is_small = true := by kernel_rfl
theorem ck_Signs__find_small : L.entB e_Signs__find_small = true := by kernel_rfl
theorem ck_Signs__turns_small : L.entB e_Signs__turns_small = true := by kernel_rfl
theorem ck_is_kind_pair : L.entB e_is_kind_pair = true := by kernel_rfl
theorem ck_is_kinds_row : L.entB e_is_kinds_row = true := by kernel_rfl
theorem ck_is_maker : L.entB e_is_maker = true := by kernel_rfl
theorem ck_made_kinds : L.entB e_made_kinds = true := by kernel_rfl
theorem ck_is_signature_by : L.entB e_is_signature_by = true := by kernel_rfl
theorem ck_check_signature : L.entB e_check_signature = true := by kernel_rfl
theorem ck_check_kind : L.entB e_check_kind = true := by kernel_rfl
theorem ck_is_signature : L.entB e_is_signature = true := by kernel_rfl
theorem ck_is_small : L.entB e_is_small = true := by kernel_rfl
theorem ck_law_well : L.entB e_law_well = true := by kernel_rfl
theorem ck_law_draw : L.entB e_law_draw = true := by kernel_rfl
theorem ck_law_one : L.entB e_law_one = true := by kernel_rfl
theorem ck_law_mixed : L.entB e_law_mixed = true := by kernel_rfl
theorem ck_law_is_whole : L.entB e_law_is_whole = true := by kernel_rfl
theorem ck_law_odd_thing : L.entB e_law_odd_thing = true := by kernel_rfl
theorem ck_law_bent : L.entB e_law_bent = true := by kernel_rfl
theorem ck_law_is_name : L.entB e_law_is_name = true := by kernel_rfl
theorem ck_law_is_pair : L.entB e_law_is_pair = true := by kernel_rfl
theorem ck_law_living : L.entB e_law_living = true := by kernel_rfl
theorem ck_law_is_signature : L.entB e_law_is_signature = true := by kernel_rfl
theorem ck_law_makers : L.entB e_law_makers = true := by kernel_rfl
theorem ck_law_is_open : L.entB e_law_is_open = true := by kernel_rfl
theorem ck_law_is_small : L.entB e_law_is_small = true := by kernel_rfl
theorem ck_law_some_sig : L.entB e_law_some_sig = true := by kernel_rfl
theorem ck_law_turned : L.entB e_law_turned = true := by kernel_rfl
theorem ck_law_sig : L.entB e_law_sig = true := by kernel_rfl
theorem ck_law_things : L.entB e_law_things = true := by kernel_rfl
theorem ck_law_right : L.entB e_law_right = true := by kernel_rfl
theorem ck_law : L.entB e_law = true := by kernel_rfl
theorem chk : (L.tab.all L.entB && L.fldB) = true := by kernel_rfl
end RX.Lawk02
set_option Elab.async false
set_option linter.all false
set_option maxRecDepth 1000000
set_option maxHeartbeats 0
/-! the head -/
namespace RX.Lawk02
open PySem PySem.Spec PyProof.Rows L2 RX
abbrev R : PySem.W.OpenRow := PySem.W.OpenLaw.row PySem.Challenge.rw_instances_k02_signatures_of_anything_sma
abbrev hk : PySem.W.Hook := He.hookD 5 L.fa L.fn
def ob (s : PySem.W.SharedT) : He.AlD := He.obsDG 5 L.fa L.fn (HandSHeadRun.getT s)
theorem ob_eq (s : PySem.W.SharedT) : ob s = hk.obs s.abs := He.obsDG_eq (HandSHeadRun.getT_eq s)
def ln0 : List Str := ["__name__", "TemplateError", "InvalidSignature", "InvalidKind", "LETTERS", "FIGURES", "MOST_NAME", "MOST_KINDS", "MOST_MAKERS", "MOST_ARGS", "is_name", "are_unlike", "Signs", "is_kind_pair", "is_kinds_row", "is_maker", "made_kinds", "is_signature_by", "check_signature", "check_kind", "is_signature", "is_small", "_law_well", "_law_draw", "_law_one", "_law_mixed", "_law_is_whole", "_law_odd_thing", "_law_bent", "_law_is_name"]
def ln1 : List Str := ["_law_is_pair", "_law_living", "_law_is_signature", "_law_makers", "_law_is_open", "_law_is_small", "_law_some_sig", "_law_turned", "_law_sig", "_law_things", "_law_right"]
def loose : List Str := ln0 ++ ln1
theorem run (w : World) : HandSHeadRun.RunEq R (PySem.W.view R.prog [45]) hk ob 12000 loose w := by
  intro os
  kernel_rfl
end RX.Lawk02
set_option Elab.async false
set_option linter.all false
set_option maxRecDepth 1000000
set_option maxHeartbeats 0
/-! the law's own call -/
namespace RX.Lawk02
open PySem PySem.Spec PyProof.Rows L2 RX
local macro_rules | `(tactic| walk_at "w") => `(tactic| ((conv => whnf); repeat ((first | refine bT rfl ?_ | refine bF rfl ?_ | refine ⟨_, rfl, ?_⟩ | refine ⟨_, _, rfl, rfl, ?_⟩ | refine ⟨_, _, rfl, ?_⟩ | refine ⟨rfl, ?_⟩ | refine szA rfl ?_ | refine ⟨by decide, ?_⟩); (conv => whnf))))
theorem sgL : Sg.SgL L := by constructor <;> kernel_rfl
theorem shL : Sg.ShL L := by
  refine ⟨sgL, ?_, ?_, ?_, ?_⟩ <;> kernel_rfl
theorem drL : Lw.DrL L := by constructor <;> kernel_rfl
theorem lkL : Lw.LkL L := by constructor <;> kernel_rfl
theorem mkL : Lw.MkL L := by
  refine ⟨drL, lkL, ?_, ?_, ?_, ?_, ?_, ?_, ?_, ?_⟩ <;> kernel_rfl
theorem rtL : Lw.RtL L := ⟨mkL, shL, by kernel_rfl⟩
theorem lc_inv {g : DG} {tt : DT} {te : DE} {own : List Nat} {σ : DSt} {Q : List D → MM → Prop} {stab : MM → Prop} (I : MM → Prop) (f : D → D) (hs : ∀ M, I M → stab M) : ∀ (l acc : List D) (M : MM), I M → acc.length + l.length ≤ sizeLine →
    (∀ x ∈ l, ∀ Y N M, I M → (∀ M', I M' → Y (f x) M') → lcStep g tt te own σ x M Y N) → (∀ M, I M → Q (acc ++ l.map f) M) → lcD stab g tt te own σ Q l acc M
  | [], acc, M, i, _, _, q => by
    have q := q M i
    rw [List.map_nil, List.append_nil] at q
    exact ⟨hs M i, q⟩
  | x :: l, acc, M, i, hl, h, q => by
    simp only [List.length_cons] at hl
    refine ⟨hs M i, by omega, h x (List.mem_cons_self ..) _ _ M i fun M' i' => ?_⟩
    refine lc_inv I f hs l (acc ++ [f x]) M' i' (by simp only [List.length_append, List.length_cons, List.length_nil]; omega) (fun x hx => h x (List.mem_cons_of_mem _ hx)) fun M i => ?_
    have q := q M i
    rw [List.map_cons] at q
    rw [List.append_assoc]
    exact q
theorem T_law : L.T ("law", none) = some f_law := by kernel_rfl
theorem law_cl {ns : List Int} (hl : ns.length ≤ 63) : L.cl 60 ("law", none) [.lst (ns.map D.int)] M0 (fun d _ => d = .bl true) XF := by
  rw [Law.stp T_law]
  walk_at "w"
  refine ⟨by omega, by omega, ?_⟩
  refine lc_inv (fun _ => True) (fun _ => .bl true) (fun _ _ => trivial) _ [] _ trivial (by rw [Lw.rngD_len]; simp only [sizeLine, List.length_nil]; omega) (fun x hx Y N M _ y => ?_) fun M _ => ?_
  · obtain ⟨j, rfl, hj⟩ := Lw.rng_mem _ _ _ hx
    walk_at "w"
    rw [Int.zero_add]
    refine Lw.ct_well mkL hl fun w a b c hw => ?_
    walk_at "w"
    refine Lw.ct_right rtL up_same fun a b c => ?_
    exact y _ trivial
  · walk_at "w"
    generalize rngD 0 _ = l
    refine ⟨l.map fun _ => true, ?_, ?_⟩
    · show some _ = _
      rw [List.nil_append, List.map_map]
      rfl
    · have : (l.map fun _ => true).all id = true := by simp
      rw [this]
      exact ⟨_, .refl, rfl⟩
theorem law_ct : ∀ (ns : List Int), ns.length ≤ 63 → (∀ z ∈ ns, Builtin.Int.intBits z ≤ 1048576) → wpF L.T L.gl L.fl 60 ("law", none) [.lst (ns.map D.int)] M0 (fun d _ => d = .bl true) XF := fun ns hl _ => by
  have := law_cl hl
  unfold Law.cl at this
  exact this
end RX.Lawk02
set_option Elab.async false
set_option linter.all false
set_option maxRecDepth 1000000
set_option maxHeartbeats 0
namespace RX.Lawk02
open PySem PySem.Spec PyProof.Rows L2 RX
theorem end_ (w : World) (mg : Str → Option Value) (fa : Addr) (h : Heap) (Y : hk.says w h) (G : h.Ns mainGlobals mg) (hmg0 : mg (HandSHeadRun.topDef R.prog 45).name = some (.ref fa)) :
    ∃ (K : PySem.W.Frag) (fd : FuncData) (g : CallT), K.In h ∧ (∀ (s : Shared) (u : Value), BindsTo s fd ⟨[u], []⟩ [("script", u)]) ∧
        (∀ (ns : List Int), ns.length ≤ 63 → (∀ z ∈ ns, Builtin.Int.intBits z ≤ 1048576) → g [.lst (ns.map D.int)] M0 (fun d _ => d = .bl true) XF) ∧
        ∀ base : Heap, K.In base → base.Ns mainGlobals mg → FnG R.prog w K mg base 61 fa fd ["script"] g := by
  obtain ⟨K, KX, c⟩ := Y
  have hmg : mg ("law" : PySem.Str) = some (.ref fa) := by
    have e : (HandSHeadRun.topDef R.prog 45).name = ("law" : PySem.Str) := by kernel_rfl
    rw [← e]
    exact hmg0
  obtain ⟨fd, hb, hF⟩ := law_of (L := L) (P := R.prog) (w := w) (e := e_law) (x := "script") (n := 60) KX G c bds chk (by unfold L; simp) (by kernel_rfl) rfl rfl hmg
  exact ⟨K, fd, _, KX, hb, law_ct, hF⟩
end RX.Lawk02
open PySem PySem.W PySem.Calls PyProof.Rows
theorem PySem.Challenge.cw_instances_k02_signatures_of_anything_sma_holds : PySem.Challenge.rw_instances_k02_signatures_of_anything_sma.Holds := by
  w_on; o_law
  refine HandSHeadRun.head_any (r := RX.Lawk02.R) (q := view RX.Lawk02.R.prog [45]) (H := RX.Lawk02.hk) (ob := RX.Lawk02.ob) (M := 12000) (loose := RX.Lawk02.loose) (d := HandSHeadRun.topDef RX.Lawk02.R.prog 45) (kwd := []) RX.Lawk02.ob_eq
    (by kernel_rfl) (fun s => by kernel_rfl) RX.Lawk02.run (by kernel_rfl) (by kernel_rfl) (by kernel_rfl) (by rfl) (by first | assumption | decide +kernel) (by decide +kernel) ⟨rfl, rfl, rfl, rfl, rfl, by decide +kernel⟩ ?hw ?hc
  case hw => w_witness2
  case hc => exact RX.walk_G (l := PySem.Challenge.rw_instances_k02_signatures_of_anything_sma) (n := 63) (k := 61) (x := "script") rfl (by decide) (by kernel_rfl) ⟨rfl, by decide, by decide⟩ RX.Lawk02.end_
