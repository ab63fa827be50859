import PyProof.Rows.All
import Wide.All
import OpenK.AllK
import Wide.FinOn
import HandS.ForMost
import HandS.ForExc
import HandS.HotCalls
import HandS.Flow
import HandS.Wide
import HandS.Defaults
import HandS.Deep
import HandS.Walk
import HandS.Rev
import HandS.RevRange
import HandS.Conv
import HandS.IsInst
import HandS.TupAny
import HandS.Comp
import HandS.Text
import HandS.Replace
import HandS.Dict
import PyProof.ListStr
import KE.GoesEnum
import KE.GoesMore
import PyProof.EnumMake
import HandS.DictComp
import HandS.HeadEnd
import HandS.HeadHook2
import HandS.RevTup
import HandS.Small
import PyProof.Rows.SeqMore
import HandS.Property
import PyProof.AutoSeq1
import HandS.List
import HandS.TupLe
import HandS.ExcInit
import HandS.ExcField
import HandS.ExcIs
import KE.KExcIs
import KE.KStateDown
import HandS.Head0
import HandS.Head1
import HandS.Head2
import HandS.HeadHook1
import PyProof.Rows.SortShellAny
import KE.DataMinMax
import KE.LtData
import HandS.Iter
import PySem.Challenge.RW_rankedjoins_k35_cuts_and_texts_counted
set_option Elab.async false
set_option linter.all false
set_option maxRecDepth 100000
set_option maxHeartbeats 4000000
namespace DL
open PySem PySem.Spec PyProof.Rows
open L2 hiding Takes passAt takes_of ps_raise PMk ps_try_as
open L2N (Takes passAt takes_of ps_raise PMk ps_try_as)

/-! ### data as trees -/
inductive D where
  | non | bl (b : Bool) | int (i : Int) | str (s : Str) | opq (v : V)
  | tup (ds : List D) | lst (ds : List D) | dct (ks : List Key) (ds : List D) | dcT (ks : List (List Key)) (ds : List D) | exc (a d C : Addr) (fs : List Str) (ds : List D) | ins (C : Addr) (fs : List Str) (ds : List D)

/-- v stands for d, by what G tells -/
def Is (K : PySem.W.Frag) (G : Hp) : D → V → Prop
  | .non, v => v = .non
  | .bl b, v => v = .bl b
  | .int i, v => v = .int i
  | .str s, v => v = .str s
  | .opq u, v => v = u
  | .tup ds, v => ∃ p vs, v = .ref p ∧ G p = some (.tup vs) ∧ IsL K G ds vs
  | .lst ds, v => ∃ p vs, v = .ref p ∧ SqL K G p vs ∧ IsL K G ds vs
  | .dct ks ds, v => ∃ p vs, v = .ref p ∧ G p = some (.dK (ks.zip vs)) ∧ ks.length = vs.length ∧ IsL K G ds vs
  | .dcT ks ds, v => ∃ p vs, v = .ref p ∧ G p = some (.dT (ks.zip vs)) ∧ ks.length = vs.length ∧ IsL K G ds vs
  | .exc a d _ fs ds, v => v = .ref a ∧ ∃ vs, G d = some (.xd (fs.zip vs)) ∧ fs.length = vs.length ∧ IsL K G ds vs
  | .ins C fs ds, v => ∃ p dx vs, v = .ref p ∧ G p = some (.ins C dx (fs.zip vs)) ∧ fs.length = vs.length ∧ IsL K G ds vs
where IsL (K : PySem.W.Frag) (G : Hp) : List D → List V → Prop
  | [], vs => vs = []
  | d :: ds, vs => ∃ v r, vs = v :: r ∧ Is K G d v ∧ IsL K G ds r
abbrev IsL := @Is.IsL

def Ex (G G' : Hp) : Prop := ∀ a o, G a = some o → G' a = some o
theorem Ex.refl (G : Hp) : Ex G G := fun _ _ h => h
theorem Ex.trans {G G1 G2 : Hp} (a : Ex G G1) (b : Ex G1 G2) : Ex G G2 := fun c o h => b c o (a c o h)
theorem Ex.none {G G' : Hp} (e : Ex G G') {a : Addr} (h : G' a = Option.none) : G a = Option.none := by
  cases q : G a with
  | none => rfl
  | some o => rw [e a o q] at h; cases h
theorem Ex.upd {G : Hp} {p : Addr} {o : HO} (h : G p = Option.none) : Ex G (upd G p o) := fun a u e => by
  rw [upd_ne (ne_of_none e h)]; exact e
theorem Ex.l {K : PySem.W.Frag} {G G' : Hp} {a : Addr} {xs : List V} (e : Ex G G') (h : SqL K G a xs) : SqL K G' a xs := by
  rcases h with (h | ⟨o, h⟩) | h
  · exact .inl (.inl (e _ _ h))
  · exact .inl (.inr ⟨o, e _ _ h⟩)
  · exact .inr h
theorem Ex.t {K : PySem.W.Frag} {G G' : Hp} {a : Addr} {xs : List V} (e : Ex G G') (h : SqT K G a xs) : SqT K G' a xs := by
  rcases h with (h | ⟨o, h⟩) | h
  · exact .inl (.inl (e _ _ h))
  · exact .inl (.inr ⟨o, e _ _ h⟩)
  · exact .inr h

section
variable {K : PySem.W.Frag} {G G' : Hp}
mutual
theorem Is.mono (e : Ex G G') : ∀ (d : D) (v : V), Is K G d v → Is K G' d v
  | .non, _, h => h
  | .bl _, _, h => h
  | .int _, _, h => h
  | .str _, _, h => h
  | .opq _, _, h => h
  | .tup ds, _, ⟨p, vs, h1, h2, h3⟩ => ⟨p, vs, h1, e _ _ h2, IsL.mono e ds vs h3⟩
  | .lst ds, _, ⟨p, vs, h1, h2, h3⟩ => ⟨p, vs, h1, e.l h2, IsL.mono e ds vs h3⟩
  | .dct ks ds, _, ⟨p, vs, h1, h2, h4, h3⟩ => ⟨p, vs, h1, e _ _ h2, h4, IsL.mono e ds vs h3⟩
  | .dcT ks ds, _, ⟨p, vs, h1, h2, h4, h3⟩ => ⟨p, vs, h1, e _ _ h2, h4, IsL.mono e ds vs h3⟩
  | .exc a d C fs ds, _, ⟨h1, vs, h2, h4, h3⟩ => ⟨h1, vs, e _ _ h2, h4, IsL.mono e ds vs h3⟩
  | .ins C fs ds, _, ⟨p, dx, vs, h1, h2, h4, h3⟩ => ⟨p, dx, vs, h1, e _ _ h2, h4, IsL.mono e ds vs h3⟩
theorem IsL.mono (e : Ex G G') : ∀ (ds : List D) (vs : List V), IsL K G ds vs → IsL K G' ds vs
  | [], _, h => h
  | d :: ds, _, ⟨v, r, h1, h2, h3⟩ => ⟨v, r, h1, Is.mono e d v h2, IsL.mono e ds r h3⟩
end
theorem IsL.nil : IsL K G [] [] := rfl
theorem IsL.cons {d : D} {v : V} {ds : List D} {vs : List V} (h : Is K G d v) (t : IsL K G ds vs) : IsL K G (d :: ds) (v :: vs) := ⟨v, vs, rfl, h, t⟩
theorem IsL.length : ∀ {ds : List D} {vs : List V}, IsL K G ds vs → ds.length = vs.length
  | [], _, h => by have h : _ = _ := h; subst h; rfl
  | _ :: _, _, ⟨_, _, rfl, _, h⟩ => by simp [IsL.length h]
theorem IsL.get : ∀ {ds : List D} {vs : List V} {i : Nat} {d : D}, IsL K G ds vs → ds[i]? = some d → ∃ v, vs[i]? = some v ∧ Is K G d v
  | [], _, _, _, _, e => by simp at e
  | d :: ds, _, 0, _, ⟨v, r, rfl, h1, _⟩, e => by simp at e; subst e; exact ⟨v, rfl, h1⟩
  | d :: ds, _, i + 1, _, ⟨v, r, rfl, _, h2⟩, e => by
    obtain ⟨w, h3, h4⟩ := IsL.get (i := i) h2 (by simpa using e)
    exact ⟨w, by simpa using h3, h4⟩
theorem IsL.append : ∀ {ds es : List D} {vs ws : List V}, IsL K G ds vs → IsL K G es ws → IsL K G (ds ++ es) (vs ++ ws)
  | [], _, _, _, h, h' => by have h : _ = _ := h; subst h; exact h'
  | _ :: _, _, _, _, ⟨v, r, rfl, h1, h2⟩, h' => ⟨v, _, rfl, h1, IsL.append h2 h'⟩
theorem IsL.take : ∀ (n : Nat) {ds : List D} {vs : List V}, IsL K G ds vs → IsL K G (ds.take n) (vs.take n)
  | 0, _, _, _ => by simp [IsL.nil]
  | n + 1, [], _, h => by have h : _ = _ := h; subst h; simp [IsL.nil]
  | n + 1, d :: ds, _, ⟨v, r, rfl, h1, h2⟩ => by
    simp only [List.take_succ_cons]
    exact .cons h1 (IsL.take n h2)
theorem IsL.drop : ∀ (n : Nat) {ds : List D} {vs : List V}, IsL K G ds vs → IsL K G (ds.drop n) (vs.drop n)
  | 0, _, _, h => by simpa using h
  | n + 1, [], _, h => by have h : _ = _ := h; subst h; simp [IsL.nil]
  | n + 1, d :: ds, _, ⟨v, r, rfl, h1, h2⟩ => by
    simp only [List.drop_succ_cons]
    exact IsL.drop n h2
theorem IsL.reverse : ∀ {ds : List D} {vs : List V}, IsL K G ds vs → IsL K G ds.reverse vs.reverse
  | [], _, h => by have h : _ = _ := h; subst h; exact IsL.nil
  | d :: ds, _, ⟨v, r, rfl, h1, h2⟩ => by
    rw [List.reverse_cons, List.reverse_cons]
    exact IsL.append (IsL.reverse h2) (.cons h1 .nil)
theorem IsL.ints : ∀ (ns : List Int), IsL K G (ns.map .int) (ns.map V.int)
  | [] => rfl
  | n :: ns => .cons rfl (IsL.ints ns)
theorem IsL.of_ints : ∀ {ns : List Int} {vs : List V}, IsL K G (ns.map .int) vs → vs = ns.map V.int
  | [], _, h => h
  | n :: ns, _, ⟨v, r, rfl, h1, h2⟩ => by
    have h1 : v = _ := h1
    rw [h1, IsL.of_ints h2]; rfl
theorem IsL.strs : ∀ (ns : List Str), IsL K G (ns.map .str) (ns.map V.str)
  | [] => rfl
  | n :: ns => .cons rfl (IsL.strs ns)
theorem IsL.of_strs : ∀ {ns : List Str} {vs : List V}, IsL K G (ns.map .str) vs → vs = ns.map V.str
  | [], _, h => h
  | n :: ns, _, ⟨v, r, rfl, h1, h2⟩ => by
    have h1 : v = _ := h1
    rw [h1, IsL.of_strs h2]; rfl
end

/-! ### what a name, an expression holds: data, the k-th mutable object, a list that is only read here -/
inductive R where
  | val (d : D) | loc (k : Nat) | bor (ds : List D)
structure Wd where
  G : Hp
  as : List Addr
def IsR (K : PySem.W.Frag) (B : Hp) (w : Wd) : R → V → Prop
  | .val d, v => Is K w.G d v
  | .loc k, v => ∃ a, w.as[k]? = some a ∧ v = .ref a
  | .bor ds, v => ∃ p vs, v = .ref p ∧ (SqL K w.G p vs ∨ B p = some (.lst vs)) ∧ IsL K w.G ds vs
def IsRs (K : PySem.W.Frag) (B : Hp) (w : Wd) : List R → List V → Prop
  | [], vs => vs = []
  | d :: ds, vs => ∃ v r, vs = v :: r ∧ IsR K B w d v ∧ IsRs K B w ds r
structure Le (w w' : Wd) : Prop where
  g : Ex w.G w'.G
  a : ∃ t, w'.as = w.as ++ t
theorem Le.refl (w : Wd) : Le w w := ⟨Ex.refl _, [], by simp⟩
theorem Le.trans {w w1 w2 : Wd} (a : Le w w1) (b : Le w1 w2) : Le w w2 := by
  obtain ⟨g, t, e⟩ := a
  obtain ⟨g', t', e'⟩ := b
  exact ⟨g.trans g', t ++ t', by rw [e', e, List.append_assoc]⟩
/-- .. the first n objects are the same ones -/
structure LeN (n : Nat) (w w' : Wd) : Prop where
  g : Ex w.G w'.G
  a : ∀ (k : Nat) (a : Addr), k < n → w.as[k]? = some a → w'.as[k]? = some a
theorem LeN.refl (n : Nat) (w : Wd) : LeN n w w := ⟨Ex.refl _, fun _ _ _ h => h⟩
theorem LeN.trans {n : Nat} {w w1 w2 : Wd} (a : LeN n w w1) (b : LeN n w1 w2) : LeN n w w2 := ⟨a.g.trans b.g, fun k x h e => b.a k x h (a.a k x h e)⟩
theorem LeN.less {n m : Nat} {w w1 : Wd} (a : LeN n w w1) (h : m ≤ n) : LeN m w w1 := ⟨a.g, fun k x hk e => a.a k x (Nat.lt_of_lt_of_le hk h) e⟩
theorem Le.at_ {w w' : Wd} (l : Le w w') {k : Nat} {a : Addr} (h : w.as[k]? = some a) : w'.as[k]? = some a := by
  obtain ⟨_, t, e⟩ := l
  rw [e, List.getElem?_append_left (List.getElem?_eq_some_iff.mp h).1]
  exact h
theorem Le.n {w w' : Wd} (l : Le w w') (n : Nat) : LeN n w w' := ⟨l.g, fun _ _ _ h => l.at_ h⟩
theorem LeN.le {n : Nat} {w w' : Wd} (l : LeN n w w') (h : w.as.length ≤ n) : Le w w' := by
  refine ⟨l.g, w'.as.drop w.as.length, ?_⟩
  have e : w'.as.take w.as.length = w.as := by
    refine List.ext_getElem? fun k => ?_
    by_cases hk : k < w.as.length
    · rw [List.getElem?_take_of_lt hk, List.getElem?_eq_getElem hk]
      exact l.a k _ (Nat.lt_of_lt_of_le hk h) (List.getElem?_eq_getElem hk)
    · rw [List.getElem?_eq_none (by simp; omega), List.getElem?_eq_none (by omega)]
  rw [← e, List.length_take]
  have : w.as.length ≤ w'.as.length := by rw [← e]; simp; omega
  rw [Nat.min_eq_left this]
  exact (List.take_append_drop _ _).symm
section
variable {K : PySem.W.Frag} {B : Hp} {w w' : Wd}
theorem IsR.mono (l : Le w w') : ∀ {r : R} {v : V}, IsR K B w r v → IsR K B w' r v
  | .val d, v, h => Is.mono l.g d v h
  | .loc k, v, ⟨a, h, e⟩ => ⟨a, l.at_ h, e⟩
  | .bor ds, v, ⟨p, vs, e, h, t⟩ => ⟨p, vs, e, h.imp (fun h => l.g.l h) id, IsL.mono l.g _ _ t⟩
theorem IsRs.mono (l : Le w w') : ∀ {rs : List R} {vs : List V}, IsRs K B w rs vs → IsRs K B w' rs vs
  | [], _, h => h
  | _ :: _, _, ⟨v, r, e, h, t⟩ => ⟨v, r, e, h.mono l, IsRs.mono l t⟩
theorem IsRs.nil : IsRs K B w [] [] := rfl
theorem IsRs.cons {d : R} {v : V} {ds : List R} {vs : List V} (h : IsR K B w d v) (t : IsRs K B w ds vs) : IsRs K B w (d :: ds) (v :: vs) := ⟨v, vs, rfl, h, t⟩
theorem IsRs.length : ∀ {ds : List R} {vs : List V}, IsRs K B w ds vs → ds.length = vs.length
  | [], _, h => by have h : _ = _ := h; subst h; rfl
  | _ :: _, _, ⟨_, _, rfl, _, h⟩ => by simp [IsRs.length h]
theorem IsRs.get : ∀ {ds : List R} {vs : List V} {i : Nat} {d : R}, IsRs K B w ds vs → ds[i]? = some d → ∃ v, vs[i]? = some v ∧ IsR K B w d v
  | [], _, _, _, _, e => by simp at e
  | d :: ds, _, 0, _, ⟨v, r, rfl, h1, _⟩, e => by simp at e; subst e; exact ⟨v, rfl, h1⟩
  | d :: ds, _, i + 1, _, ⟨v, r, rfl, _, h2⟩, e => by
    obtain ⟨w, h3, h4⟩ := IsRs.get (i := i) h2 (by simpa using e)
    exact ⟨w, by simpa using h3, h4⟩
theorem IsRs.append : ∀ {ds es : List R} {vs ws : List V}, IsRs K B w ds vs → IsRs K B w es ws → IsRs K B w (ds ++ es) (vs ++ ws)
  | [], _, _, _, h, h' => by have h : _ = _ := h; subst h; exact h'
  | _ :: _, _, _, _, ⟨v, r, rfl, h1, h2⟩, h' => ⟨v, _, rfl, h1, IsRs.append h2 h'⟩
theorem IsRs.set : ∀ {ds : List R} {vs : List V} (i : Nat) {d : R} {v : V}, IsRs K B w ds vs → IsR K B w d v → IsRs K B w (ds.set i d) (vs.set i v)
  | [], _, _, _, _, h, _ => by have h : _ = _ := h; subst h; exact IsRs.nil
  | _ :: _, _, 0, _, _, ⟨v, r, rfl, h1, h2⟩, h => .cons h h2
  | _ :: _, _, i + 1, _, _, ⟨v, r, rfl, h1, h2⟩, h => .cons h1 (IsRs.set i h2 h)
theorem IsRs.take : ∀ (n : Nat) {ds : List R} {vs : List V}, IsRs K B w ds vs → IsRs K B w (ds.take n) (vs.take n)
  | 0, _, _, _ => by simp [IsRs.nil]
  | n + 1, [], _, h => by have h : _ = _ := h; subst h; simp [IsRs.nil]
  | n + 1, d :: ds, _, ⟨v, r, e, h1, h2⟩ => by
    subst e
    simp only [List.take_succ_cons]
    exact .cons h1 (IsRs.take n h2)
theorem IsRs.drop : ∀ (n : Nat) {ds : List R} {vs : List V}, IsRs K B w ds vs → IsRs K B w (ds.drop n) (vs.drop n)
  | 0, _, _, h => by simpa using h
  | n + 1, [], _, h => by have h : _ = _ := h; subst h; simp [IsRs.nil]
  | n + 1, d :: ds, _, ⟨v, r, e, h1, h2⟩ => by
    subst e
    simp only [List.drop_succ_cons]
    exact IsRs.drop n h2
theorem IsRs.dropLast {ds : List R} {vs : List V} (h : IsRs K B w ds vs) : IsRs K B w ds.dropLast vs.dropLast := by
  rw [List.dropLast_eq_take, List.dropLast_eq_take, h.length]
  exact h.take _
theorem IsRs.vals : ∀ {ds : List D} {vs : List V}, IsRs K B w (ds.map .val) vs ↔ IsL K w.G ds vs
  | [], vs => Iff.rfl
  | d :: ds, vs => by
    constructor
    · rintro ⟨v, r, e, h, t⟩
      exact ⟨v, r, e, h, IsRs.vals.mp t⟩
    · rintro ⟨v, r, e, h, t⟩
      exact ⟨v, r, e, h, IsRs.vals.mpr t⟩
end

/-! ### the store: the mutable objects by number -/
inductive Node where
  | lst (rs : List R) | dK (ks : List Key) (rs : List R) | dT (ks : List (List Key)) (rs : List R) | ins (C : Addr) (fs : List Str) (rs : List R) | lkT (o : Obj) (ks : List (List Key)) (rs : List R) | dead
def Node.live : Node → Bool
  | .dead => false
  | _ => true
abbrev Sto := List Node
abbrev Nv := List (Option R)
def NodeAt (K : PySem.W.Frag) (B : Hp) (w : Wd) (H : Hp) (a : Addr) : Node → Prop
  | .lst rs => ∃ vs, H a = some (.lst vs) ∧ IsRs K B w rs vs
  | .dK ks rs => ∃ vs, H a = some (.dK (ks.zip vs)) ∧ ks.length = vs.length ∧ IsRs K B w rs vs
  | .dT ks rs => ∃ vs, H a = some (.dT (ks.zip vs)) ∧ ks.length = vs.length ∧ IsRs K B w rs vs
  | .ins C fs rs => ∃ dx vs, H a = some (.ins C dx (fs.zip vs)) ∧ fs.length = vs.length ∧ IsRs K B w rs vs
  | .lkT o ks rs => ∃ vs, H a = some (.frz o (.dT (ks.zip vs))) ∧ ks.length = vs.length ∧ IsRs K B w rs vs
  | .dead => False
/-- the entry: the heap there, what was known, the objects that may be changed -/
structure Base where
  H0 : Hp
  G0 : Hp
  as0 : List Addr
/-- what stays as it was at the entry -/
def Base.B (b : Base) : Hp := fun p => if p ∈ b.as0 then none else b.H0 p
theorem Base.B_some {b : Base} {p : Addr} {o : HO} (h : b.B p = some o) : p ∉ b.as0 ∧ b.H0 p = some o := by
  unfold Base.B at h
  split at h
  · cases h
  · exact ⟨by assumption, h⟩
theorem Base.B_of {b : Base} {p : Addr} {o : HO} (h : p ∉ b.as0) (h' : b.H0 p = some o) : b.B p = some o := by
  unfold Base.B
  rw [if_neg h]; exact h'
structure Rp (K : PySem.W.Frag) (b : Base) (w : Wd) (S : Sto) (H : Hp) : Prop where
  ex : Ex w.G H
  len : w.as.length = S.length
  pre : ∃ t, w.as = b.as0 ++ t
  at_ : ∀ (k : Nat) (n : Node), S[k]? = some n → n.live = true → ∃ a, w.as[k]? = some a ∧ w.G a = none ∧ (k < b.as0.length ∨ b.H0 a = none) ∧ NodeAt K b.B w H a n
  inj : ∀ (j k : Nat) (m n : Node) (a : Addr), S[j]? = some m → m.live = true → S[k]? = some n → n.live = true → w.as[j]? = some a → w.as[k]? = some a → j = k
  fr : ∀ a o, b.H0 a = some o → a ∉ b.as0 → H a = some o
  th : ∀ a o, b.H0 a = some o → ∃ u, H a = some u
  gn : ∀ a o, w.G a = some o → b.G0 a = some o ∨ b.H0 a = none ∨ ∃ us, o = .tup us
theorem NodeAt.has {K : PySem.W.Frag} {B : Hp} {w : Wd} {H : Hp} {a : Addr} : ∀ {n : Node}, NodeAt K B w H a n → ∃ o, H a = some o
  | .lst _, ⟨_, h, _⟩ => ⟨_, h⟩
  | .dK _ _, ⟨_, h, _⟩ => ⟨_, h⟩
  | .dT _ _, ⟨_, h, _⟩ => ⟨_, h⟩
  | .ins _ _ _, ⟨_, _, h, _⟩ => ⟨_, h⟩
  | .lkT _ _ _, ⟨_, h, _⟩ => ⟨_, h⟩
theorem NodeAt.noTup {K : PySem.W.Frag} {B : Hp} {w : Wd} {H : Hp} {a : Addr} {us : List V} (e : H a = some (.tup us)) : ∀ {n : Node}, ¬ NodeAt K B w H a n
  | .lst _, ⟨_, h, _⟩ => by rw [e] at h; cases h
  | .dK _ _, ⟨_, h, _⟩ => by rw [e] at h; cases h
  | .dT _ _, ⟨_, h, _⟩ => by rw [e] at h; cases h
  | .ins _ _ _, ⟨_, _, h, _⟩ => by rw [e] at h; cases h
  | .lkT _ _ _, ⟨_, h, _⟩ => by rw [e] at h; cases h
theorem NodeAt.move {K : PySem.W.Frag} {B : Hp} {w w' : Wd} {H H' : Hp} {a : Addr} (l : Le w w') (e : H' a = H a) : ∀ {n : Node}, NodeAt K B w H a n → NodeAt K B w' H' a n
  | .lst _, ⟨vs, h, t⟩ => ⟨vs, e.trans h, t.mono l⟩
  | .dK _ _, ⟨vs, h, z, t⟩ => ⟨vs, e.trans h, z, t.mono l⟩
  | .dT _ _, ⟨vs, h, z, t⟩ => ⟨vs, e.trans h, z, t.mono l⟩
  | .ins _ _ _, ⟨dx, vs, h, z, t⟩ => ⟨dx, vs, e.trans h, z, t.mono l⟩
  | .lkT _ _ _, ⟨vs, h, z, t⟩ => ⟨vs, e.trans h, z, t.mono l⟩
section
variable {K : PySem.W.Frag} {b : Base} {w w' : Wd} {S S' : Sto} {H H' : Hp} {p : Addr} {o : HO}
theorem Rp.fresh0 (r : Rp K b w S H) (h : H p = none) : b.H0 p = none := by
  cases q : b.H0 p with
  | none => rfl
  | some o => obtain ⟨u, e⟩ := r.th p o q; rw [e] at h; cases h
theorem Rp.fresh (r : Rp K b w S H) (h : H p = none) : w.G p = none := r.ex.none h
theorem Rp.bw (r : Rp K b w S H) : Ex b.B H := fun a o e => let ⟨h1, h2⟩ := Base.B_some e; r.fr a o h2 h1
theorem Rp.in0 (r : Rp K b w S H) {k : Nat} {a : Addr} (h : w.as[k]? = some a) (hk : k < b.as0.length) : a ∈ b.as0 := by
  obtain ⟨t, e⟩ := r.pre
  rw [e, List.getElem?_append_left hk] at h
  exact List.mem_of_getElem? h
theorem Rp.preA (r : Rp K b w S H) (x : Addr) : ∃ t, w.as ++ [x] = b.as0 ++ t := by
  obtain ⟨t, e⟩ := r.pre
  exact ⟨t ++ [x], by rw [e, List.append_assoc]⟩
theorem th_upd (r : ∀ a o, b.H0 a = some o → ∃ u, H a = some u) : ∀ a u, b.H0 a = some u → ∃ z, upd H p o a = some z := fun a u e => by
  by_cases z : a = p
  · subst z; exact ⟨o, upd_same⟩
  · obtain ⟨v, hv⟩ := r a u e
    exact ⟨v, by rw [upd_ne z]; exact hv⟩
theorem Rp.ne (r : Rp K b w S H) (h : H p = none) {k : Nat} {n : Node} {a : Addr} (hn : S[k]? = some n) (hl : n.live = true) (ha : w.as[k]? = some a) : a ≠ p := by
  obtain ⟨a', h1, _, _, h2⟩ := r.at_ k n hn hl
  rw [ha] at h1
  cases h1
  obtain ⟨o, ho⟩ := h2.has
  exact ne_of_none ho h
/-- a new object that nobody changes: known from now on -/
theorem Rp.known (r : Rp K b w S H) (h : H p = none) : Rp K b ⟨upd w.G p o, w.as⟩ S (upd H p o) ∧ Le w ⟨upd w.G p o, w.as⟩ := by
  have g1 := r.fresh h
  have l : Le w ⟨upd w.G p o, w.as⟩ := ⟨Ex.upd g1, [], by simp⟩
  refine ⟨⟨fun a u e => ?_, r.len, r.pre, fun k n hn hl => ?_, r.inj, fun a u e hb => ?_, ?_, ?_⟩, l⟩
  · have e : upd w.G p o a = some u := e
    by_cases z : a = p
    · subst z; rw [upd_same] at e ⊢; exact e
    · rw [upd_ne z] at e ⊢; exact r.ex a u e
  · obtain ⟨a, h1, h2, h4, h5⟩ := r.at_ k n hn hl
    have na := r.ne h hn hl h1
    exact ⟨a, h1, (upd_ne na).trans h2, h4, h5.move l (upd_ne na)⟩
  · have := r.fr a u e hb
    rw [upd_ne (ne_of_none this h)]; exact this
  · exact th_upd r.th
  · intro a u e
    have e : upd w.G p o a = some u := e
    by_cases z : a = p
    · subst z; exact .inr (.inl (r.fresh0 h))
    · rw [upd_ne z] at e; exact r.gn a u e
/-- a new object that nobody speaks of -/
theorem Rp.more (r : Rp K b w S H) (h : H p = none) : Rp K b w S (upd H p o) := by
  have g1 := r.fresh h
  refine ⟨fun a u e => ?_, r.len, r.pre, fun k n hn hl => ?_, r.inj, fun a u e hb => ?_, th_upd r.th, r.gn⟩
  · rw [upd_ne (ne_of_none e g1)]; exact r.ex a u e
  · obtain ⟨a, h1, h2, h4, h5⟩ := r.at_ k n hn hl
    exact ⟨a, h1, h2, h4, h5.move (Le.refl _) (upd_ne (r.ne h hn hl h1))⟩
  · have := r.fr a u e hb
    rw [upd_ne (ne_of_none this h)]; exact this
theorem len_get {α : Type} {l : List α} {n : Nat} (h : l.length = n) (k : Nat) (a : α) (x : α) (e : (l ++ [x])[k]? = some a) : (k < n ∧ l[k]? = some a) ∨ (k = n ∧ a = x) := by
  subst h
  by_cases z : k < l.length
  · rw [List.getElem?_append_left z] at e; exact .inl ⟨z, e⟩
  · rw [List.getElem?_append_right (by omega)] at e
    have : k - l.length = 0 := by
      cases q : k - l.length with
      | zero => rfl
      | succ m => rw [q] at e; simp at e
    rw [this] at e
    simp at e
    exact .inr ⟨by omega, e.symm⟩
/-- a new mutable object -/
theorem Rp.alloc (r : Rp K b w S H) (h : H p = none) {n : Node} (hn : NodeAt K b.B ⟨w.G, w.as ++ [p]⟩ (upd H p o) p n) : Rp K b ⟨w.G, w.as ++ [p]⟩ (S ++ [n]) (upd H p o) ∧ Le w ⟨w.G, w.as ++ [p]⟩ := by
  have g1 := r.fresh h
  have l : Le w ⟨w.G, w.as ++ [p]⟩ := ⟨Ex.refl _, [p], rfl⟩
  refine ⟨⟨fun a u e => ?_, by simp [r.len], r.preA p, fun k m hm hl => ?_, fun j k m m' a h1 l1 h2 l2 h3 h4 => ?_, fun a u e hb => ?_, th_upd r.th, r.gn⟩, l⟩
  · rw [upd_ne (ne_of_none e g1)]; exact r.ex a u e
  · rcases len_get rfl k m n hm with ⟨z, hm⟩ | ⟨z, rfl⟩
    · obtain ⟨a, h1, h2, h4, h5⟩ := r.at_ k m hm hl
      have na := r.ne h hm hl h1
      exact ⟨a, l.at_ h1, h2, h4, h5.move l (upd_ne na)⟩
    · refine ⟨p, ?_, g1, .inr (r.fresh0 h), hn⟩
      show (w.as ++ [p])[k]? = some p
      rw [z, ← r.len]; simp
  · have h3 : (w.as ++ [p])[j]? = some a := h3
    have h4 : (w.as ++ [p])[k]? = some a := h4
    rcases len_get rfl j m n h1 with ⟨z, y1⟩ | ⟨z, rfl⟩
    · rcases len_get rfl k m' n h2 with ⟨z', y2⟩ | ⟨z', rfl⟩
      · rw [List.getElem?_append_left (by rw [r.len]; exact z)] at h3
        rw [List.getElem?_append_left (by rw [r.len]; exact z')] at h4
        exact r.inj j k m m' a y1 l1 y2 l2 h3 h4
      · rw [List.getElem?_append_left (by rw [r.len]; exact z)] at h3
        have q := r.ne h y1 l1 h3
        rw [z', ← r.len] at h4
        simp at h4
        exact absurd h4.symm q
    · rcases len_get rfl k m' m h2 with ⟨z', y2⟩ | ⟨z', rfl⟩
      · rw [List.getElem?_append_left (by rw [r.len]; exact z')] at h4
        have q := r.ne h y2 l2 h4
        rw [z, ← r.len] at h3
        simp at h3
        exact absurd h3.symm q
      · rw [z, z']
  · have := r.fr a u e hb
    rw [upd_ne (ne_of_none this h)]; exact this
theorem set_get {α : Type} {l : List α} {k j : Nat} {x y : α} (e : (l.set k x)[j]? = some y) : (j = k ∧ y = x ∧ k < l.length) ∨ (j ≠ k ∧ l[j]? = some y) := by
  by_cases z : j = k
  · subst z
    by_cases q : j < l.length
    · rw [List.getElem?_set_self q] at e; cases e; exact .inl ⟨rfl, rfl, q⟩
    · rw [List.getElem?_eq_none (by simpa using q)] at e; cases e
  · rw [List.getElem?_set_ne (Ne.symm z)] at e; exact .inr ⟨z, e⟩
/-- a mutable object is written -/
theorem Rp.write (r : Rp K b w S H) {k : Nat} {n n' : Node} (hn : S[k]? = some n) (hl : n.live = true) (ha : w.as[k]? = some p) (hw : NodeAt K b.B w (upd H p o) p n') : Rp K b w (S.set k n') (upd H p o) := by
  obtain ⟨a', h1, g1, g3, h2⟩ := r.at_ k n hn hl
  rw [ha] at h1
  cases h1
  have hin : ∀ j m, S[j]? = some m → m.live = true → j ≠ k → ∀ a, w.as[j]? = some a → a ≠ p := fun j m hm hl' z a ha' q => by
    subst q
    exact z (r.inj j k m n a hm hl' hn hl ha' ha)
  refine ⟨fun a u e => ?_, by simp [r.len], r.pre, fun j m hm hl' => ?_, fun i j m m' a h1 l1 h2 l2 h3 h4 => ?_, fun a u e hb => ?_, th_upd r.th, r.gn⟩
  · rw [upd_ne (ne_of_none e g1)]; exact r.ex a u e
  · rcases set_get hm with ⟨z, q, _⟩ | ⟨z, hm⟩
    · rw [q, z]; exact ⟨p, ha, g1, g3, hw⟩
    · obtain ⟨a, h1, h2, h4, h5⟩ := r.at_ j m hm hl'
      exact ⟨a, h1, h2, h4, h5.move (Le.refl _) (upd_ne (hin j m hm hl' z a h1))⟩
  · have q : ∀ i m, (S.set k n')[i]? = some m → ∃ m, S[i]? = some m ∧ (m.live = true ∨ i ≠ k) := fun i m h => by
      rcases set_get h with ⟨z, _, _⟩ | ⟨z, h⟩
      · exact ⟨n, by rw [z]; exact hn, .inl hl⟩
      · exact ⟨m, h, .inr z⟩
    rcases set_get h1 with ⟨z, _, _⟩ | ⟨z, h1⟩
    · rcases set_get h2 with ⟨z', _, _⟩ | ⟨z', h2⟩
      · rw [z, z']
      · rw [z] at h3 ⊢
        exact r.inj k j n m' a hn hl h2 l2 h3 h4
    · rcases set_get h2 with ⟨z', _, _⟩ | ⟨z', h2⟩
      · rw [z'] at h4 ⊢
        exact r.inj i k m n a h1 l1 hn hl h3 h4
      · exact r.inj i j m m' a h1 l1 h2 l2 h3 h4
  · have q := r.fr a u e hb
    by_cases z : a = p
    · subst z
      rcases g3 with g3 | g3
      · exact absurd (r.in0 ha g3) hb
      · rw [g3] at e; cases e
    · rw [upd_ne z]; exact q
end
/-- what the slots hold -/
def EnvIs (K : PySem.W.Frag) (b : Base) (w : Wd) (env : Nv) (σ : L2.St) : Prop := σ.length = env.length ∧ ∀ (i : Nat) (r : R), env[i]? = some (some r) → ∃ v, σ[i]? = some (some v) ∧ IsR K b.B w r v
theorem EnvIs.mono {K : PySem.W.Frag} {b : Base} {w w' : Wd} {env : Nv} {σ : L2.St} (l : Le w w') (h : EnvIs K b w env σ) : EnvIs K b w' env σ :=
  ⟨h.1, fun i r e => let ⟨v, h1, h2⟩ := h.2 i r e; ⟨v, h1, h2.mono l⟩⟩
theorem EnvIs.set {K : PySem.W.Frag} {b : Base} {w : Wd} {env : Nv} {σ : L2.St} (h : EnvIs K b w env σ) (i : Nat) {r : R} {v : V} (hr : IsR K b.B w r v) : EnvIs K b w (env.set i (some r)) (σ.set i (some v)) := by
  refine ⟨by simpa using h.1, fun j r' e => ?_⟩
  rcases set_get e with ⟨z, q, hz⟩ | ⟨z, e⟩
  · cases q
    rw [z, List.getElem?_set_self (by rw [h.1]; exact hz)]
    exact ⟨v, rfl, hr⟩
  · rw [List.getElem?_set_ne (Ne.symm z)]
    exact h.2 j r' e
end DL
set_option Elab.async false
set_option linter.all false
set_option maxRecDepth 100000
set_option maxHeartbeats 4000000
namespace DL
open PySem PySem.Spec PyProof.Rows
open L2 hiding Takes passAt takes_of ps_raise PMk ps_try_as
open L2N (Takes passAt takes_of ps_raise PMk ps_try_as)

/-! ### where one stands -/
structure Gd where
  prog : Program
  w : World
  K : PySem.W.Frag
  mg : Str → Option Value
  base : Heap
abbrev gdOf (X : Cx) : Gd := ⟨X.prog, X.w, X.K, X.mg, X.base⟩
abbrev Xi := Addr → List Str → List D → Nv → Sto → Prop
/-- where we are: may a try stand here; what is handled here; the exception at hand -/
structure Hot where
  tr : Bool
  hp : Option Nat
  ex : Option (Addr × Addr × Addr)
structure DC where
  g : Gd
  N : List Str
  sc : Scope
  vis : List (Str × Nat)
  wr : List (Str × Nat)
  gl : List Str
  k : Nat
  calm : Bool
  n0 : Nat
  xi : Xi
  ho : Hot
def plainName (x : Str) : Bool := !(x == ("__debug__" : Str)) && !(x == ("__classdict__" : Str)) && !decide (x = ("__name__" : Str))
structure OkC (X : Cx) (C : DC) : Prop where
  gd : gdOf X = C.g
  N : X.N = C.N
  sc : X.env.scope = C.sc
  nd : X.N.Nodup
  vis : ∀ p ∈ C.vis, X.N[p.2]? = some p.1 ∧ Vis X.env.scope p.1 ∧ plainName p.1 = true
  wr : ∀ p ∈ C.wr, X.N[p.2]? = some p.1 ∧ Loc X.env.scope p.1 ∧ (X.fn p.1 = true ∨ X.env.scope.names.lookup p.1 = some .local)
  gl : ∀ x ∈ C.gl, Gl X x ∧ plainName x = true
  calm : C.calm = true → X.calm = true ∧ Room C.k X.A
  un : X.A.units + 100 < cLine
  po : PassesOwn (model X.prog X.w) X.A X.env X.xe
  hot : ∀ k, C.ho.hp = some k → L2H.HotC X ∧ L2H.RoomH k X.A
  exc : ∀ e, C.ho.ex = some e → X.calm = false ∧ ∃ oe : Obj, L2H.Hot1 X.A (e.1, oe) ∧ (e.1, oe) ∈ X.pn ∧ Zc (.ref e.2.1) (some e.2.2) oe ∧ (∃ vs, oe.data = .fields vs) ∧ (C.ho.tr = false → ∃ (X0 : Cx) (pn : List (Addr × Obj)), X = X0.suite e.1 ((e.1, oe) :: pn))
  fr : C.ho.tr = true → X.stack = X.env :: X.outer ∧ X.env.frame = some X.env.locals
inductive InV (x : Str) (i : Nat) : List (Str × Nat) → Prop where
  | here {l : List (Str × Nat)} : InV x i ((x, i) :: l)
  | there {p : Str × Nat} {l : List (Str × Nat)} : InV x i l → InV x i (p :: l)
theorem InV.mem {x : Str} {i : Nat} : ∀ {l : List (Str × Nat)}, InV x i l → (x, i) ∈ l
  | _, .here => List.mem_cons_self
  | _, .there h => List.mem_cons_of_mem _ h.mem
inductive InG (x : Str) : List Str → Prop where
  | here {l : List Str} : InG x (x :: l)
  | there {p : Str} {l : List Str} : InG x l → InG x (p :: l)
theorem InG.mem {x : Str} : ∀ {l : List Str}, InG x l → x ∈ l
  | _, .here => List.mem_cons_self
  | _, .there h => List.mem_cons_of_mem _ h.mem
theorem plain_of {x : Str} (h : plainName x = true) : (x == ("__debug__" : Str)) = false ∧ (x == ("__classdict__" : Str)) = false ∧ x ≠ ("__name__" : Str) := by
  obtain ⟨h1, h3⟩ := Bool.and_eq_true_iff.mp h
  obtain ⟨h1, h2⟩ := Bool.and_eq_true_iff.mp h1
  exact ⟨by simpa using h1, by simpa using h2, by simpa using h3⟩

/-! ### what is wanted behind -/
def NCov (K : PySem.W.Frag) (b : Base) (w : Wd) (Ψ : R → Sto → Prop) (Q : VK) : Prop := ∀ w' S' H' r v, Le w w' → Rp K b w' S' H' → IsR K b.B w' r v → Ψ r S' → Q v H'
def TCov (K : PySem.W.Frag) (b : Base) (w : Wd) (Ψ : Bool → Sto → Prop) (Q : Bool → Hp → Prop) : Prop := ∀ w' S' H' k, Le w w' → Rp K b w' S' H' → Ψ k S' → Q k H'
def ACov (K : PySem.W.Frag) (b : Base) (w : Wd) (Ψ : List R → Sto → Prop) (Q : List V → Hp → Prop) : Prop := ∀ w' S' H' r v, Le w w' → Rp K b w' S' H' → IsRs K b.B w' r v → Ψ r S' → Q v H'
def XCov (K : PySem.W.Frag) (b : Base) (w : Wd) (n0 : Nat) (xi : Xi) (W : WX) : Prop := b.as0.length ≤ n0 ∧ ∀ w' S' H' σ' env' C fs ds d vs, LeN n0 w w' → Rp K b w' S' H' → EnvIs K b w' env' σ' →
  w'.G d = some (.xd (fs.zip vs)) → fs.length = vs.length → IsL K w'.G ds vs → xi C fs ds env' S' → W (.ref C) (some d) σ' H'
structure Nd where
  nx : Nv → Sto → Prop
  rt : R → Sto → Prop
  bk : Nv → Sto → Prop := fun _ _ => False
  ct : Nv → Sto → Prop := fun _ _ => False
def RCov (K : PySem.W.Frag) (b : Base) (w : Wd) (n0 : Nat) (Ψ : R → Sto → Prop) (Q : VK) : Prop := ∀ w' S' H' r v, LeN n0 w w' → Rp K b w' S' H' → IsR K b.B w' r v → Ψ r S' → Q v H'
def ECov (K : PySem.W.Frag) (b : Base) (w : Wd) (n0 : Nat) (Ψ : Nv → Sto → Prop) (Q : L2.St → Hp → Prop) : Prop := ∀ w' S' H' env' σ', LeN n0 w w' → Rp K b w' S' H' → EnvIs K b w' env' σ' → Ψ env' S' → Q σ' H'
structure SCov (K : PySem.W.Frag) (b : Base) (w : Wd) (n0 : Nat) (E : Nd) (D : Ends) : Prop where
  nx : ECov K b w n0 E.nx D.nx
  rt : RCov K b w n0 E.rt D.rt
  bk : ECov K b w n0 E.bk D.bk
  ct : ECov K b w n0 E.ct D.ct
section
variable {K : PySem.W.Frag} {b : Base} {w w1 : Wd}
theorem NCov.mono {Ψ : R → Sto → Prop} {Q : VK} (l : Le w w1) (h : NCov K b w Ψ Q) : NCov K b w1 Ψ Q := fun w' S' H' r v l' => h w' S' H' r v (l.trans l')
theorem NCov.at_ {Ψ : R → Sto → Prop} {Q : VK} {S : Sto} {H : Hp} {d : D} {v : V} (n : NCov K b w Ψ Q) (rp : Rp K b w S H) (hi : Is K w.G d v) (h : Ψ (.val d) S) : Q v H := n w S H (.val d) v (Le.refl w) rp hi h
theorem TCov.mono {Ψ : Bool → Sto → Prop} {Q : Bool → Hp → Prop} (l : Le w w1) (h : TCov K b w Ψ Q) : TCov K b w1 Ψ Q := fun w' S' H' k l' => h w' S' H' k (l.trans l')
theorem ACov.mono {Ψ : List R → Sto → Prop} {Q : List V → Hp → Prop} (l : Le w w1) (h : ACov K b w Ψ Q) : ACov K b w1 Ψ Q := fun w' S' H' r v l' => h w' S' H' r v (l.trans l')
variable {n0 : Nat}
theorem XCov.monoN {xi : Xi} {W : WX} (l : LeN n0 w w1) (h : XCov K b w n0 xi W) : XCov K b w1 n0 xi W := ⟨h.1, fun w' S' H' σ' env' C fs ds d vs l' => h.2 w' S' H' σ' env' C fs ds d vs (l.trans l')⟩
theorem XCov.mono {xi : Xi} {W : WX} (l : Le w w1) (h : XCov K b w n0 xi W) : XCov K b w1 n0 xi W := h.monoN (l.n n0)
theorem RCov.monoN {Ψ : R → Sto → Prop} {Q : VK} (l : LeN n0 w w1) (h : RCov K b w n0 Ψ Q) : RCov K b w1 n0 Ψ Q := fun w' S' H' r v l' => h w' S' H' r v (l.trans l')
theorem RCov.n {Ψ : R → Sto → Prop} {Q : VK} (h : RCov K b w n0 Ψ Q) : NCov K b w Ψ Q := fun w' S' H' r v l' => h w' S' H' r v (l'.n n0)
theorem ECov.monoN {Ψ : Nv → Sto → Prop} {Q : L2.St → Hp → Prop} (l : LeN n0 w w1) (h : ECov K b w n0 Ψ Q) : ECov K b w1 n0 Ψ Q := fun w' S' H' e s l' => h w' S' H' e s (l.trans l')
theorem ECov.mono {Ψ : Nv → Sto → Prop} {Q : L2.St → Hp → Prop} (l : Le w w1) (h : ECov K b w n0 Ψ Q) : ECov K b w1 n0 Ψ Q := h.monoN (l.n n0)
theorem SCov.monoN {E : Nd} {D : Ends} (l : LeN n0 w w1) (h : SCov K b w n0 E D) : SCov K b w1 n0 E D := ⟨h.nx.monoN l, h.rt.monoN l, h.bk.monoN l, h.ct.monoN l⟩
theorem SCov.mono {E : Nd} {D : Ends} (l : Le w w1) (h : SCov K b w n0 E D) : SCov K b w1 n0 E D := h.monoN (l.n n0)
theorem XCov.less {m : Nat} {xi : Xi} {W : WX} (h : XCov K b w n0 xi W) (hm : n0 ≤ m) : XCov K b w m xi W := ⟨Nat.le_trans h.1 hm, fun w' S' H' σ' env' C fs ds d vs l' => h.2 w' S' H' σ' env' C fs ds d vs (l'.less hm)⟩
theorem RCov.less {m : Nat} {Ψ : R → Sto → Prop} {Q : VK} (h : RCov K b w n0 Ψ Q) (hm : n0 ≤ m) : RCov K b w m Ψ Q := fun w' S' H' r v l' => h w' S' H' r v (l'.less hm)
theorem ECov.less {m : Nat} {Ψ : Nv → Sto → Prop} {Q : L2.St → Hp → Prop} (h : ECov K b w n0 Ψ Q) (hm : n0 ≤ m) : ECov K b w m Ψ Q := fun w' S' H' e s l' => h w' S' H' e s (l'.less hm)
end

/-! ### the widest readings -/
def cE (X : Cx) (e : Expr) : TE := fun σ H Q => ∃ t, PE X e t ∧ t σ H Q
def cT (X : Cx) (e : Expr) : TT := fun σ H Q => ∃ t, PT X e t ∧ t σ H Q
def cA (X : Cx) (e : List Expr) : TA := fun σ H Q => ∃ t, PA X e t ∧ t σ H Q
def cS (X : Cx) (s : Stmt) : TS := fun D σ H => ∃ t, PS X s t ∧ t D σ H
def cSs (X : Cx) (s : List Stmt) : TS := fun D σ H => ∃ t, PSs X s t ∧ t D σ H
section
variable {X : Cx}
theorem cE_ok {e : Expr} : PE X e (cE X e) := ⟨fun pins s σ H Q I ⟨_, p, h⟩ => p.run pins s σ H Q I h⟩
theorem cT_ok {e : Expr} : PT X e (cT X e) := ⟨fun pins s σ H Q I ⟨_, p, h⟩ => p.run pins s σ H Q I h⟩
theorem cA_ok {e : List Expr} : PA X e (cA X e) := ⟨fun pos pins s σ H Q I ⟨_, p, h⟩ => p.run pos pins s σ H Q I h⟩
theorem cS_ok {e : Stmt} : PS X e (cS X e) := ⟨fun pins s σ H Q I ⟨_, p, h⟩ => p.run pins s σ H Q I h⟩
theorem cSs_ok {e : List Stmt} : PSs X e (cSs X e) := ⟨fun pins s σ H Q I ⟨_, p, h⟩ => p.run pins s σ H Q I h⟩
end

/-! ### the judgements -/
def WE (C : DC) (e : Expr) (env : Nv) (S : Sto) (Ψ : R → Sto → Prop) : Prop := ∀ X W b, OkC X C → Takes X W → ∀ w σ H, Rp C.g.K b w S H → EnvIs C.g.K b w env σ → XCov C.g.K b w C.n0 C.xi W → ∀ Q, NCov C.g.K b w Ψ Q → cE X e σ H Q
def WT (C : DC) (e : Expr) (env : Nv) (S : Sto) (Ψ : Bool → Sto → Prop) : Prop := ∀ X W b, OkC X C → Takes X W → ∀ w σ H, Rp C.g.K b w S H → EnvIs C.g.K b w env σ → XCov C.g.K b w C.n0 C.xi W → ∀ Q, TCov C.g.K b w Ψ Q → cT X e σ H Q
def WA (C : DC) (e : List Expr) (env : Nv) (S : Sto) (Ψ : List R → Sto → Prop) : Prop := ∀ X W b, OkC X C → Takes X W → ∀ w σ H, Rp C.g.K b w S H → EnvIs C.g.K b w env σ → XCov C.g.K b w C.n0 C.xi W → ∀ Q, ACov C.g.K b w Ψ Q → cA X e σ H Q
def WS (C : DC) (s : Stmt) (env : Nv) (S : Sto) (E : Nd) : Prop := ∀ X W b, OkC X C → Takes X W → ∀ w σ H, Rp C.g.K b w S H → EnvIs C.g.K b w env σ → XCov C.g.K b w C.n0 C.xi W → ∀ D, SCov C.g.K b w C.n0 E D → cS X s D σ H
def WSs (C : DC) (s : List Stmt) (env : Nv) (S : Sto) (E : Nd) : Prop := ∀ X W b, OkC X C → Takes X W → ∀ w σ H, Rp C.g.K b w S H → EnvIs C.g.K b w env σ → XCov C.g.K b w C.n0 C.xi W → ∀ D, SCov C.g.K b w C.n0 E D → cSs X s D σ H

section
variable {C : DC} {env : Nv} {S : Sto} {Ψ : R → Sto → Prop} {Θ : Bool → Sto → Prop} {pos : Pos} {a b e : Expr}

/-! ### names, constants -/
theorem we_int {i : Int} {j} (h : Ψ (.val (.int i)) S) : WE C (.Constant (.int i) j pos) env S Ψ := fun X W b ok tk w σ H r en xc Q n => ⟨_, pe_int, n.at_ (d := .int i) r rfl h⟩
theorem we_str {i : Str} {j} (h : Ψ (.val (.str i)) S) : WE C (.Constant (.str i) j pos) env S Ψ := fun X W b ok tk w σ H r en xc Q n => ⟨_, pe_str, n.at_ (d := .str i) r rfl h⟩
theorem we_bl {i : Bool} {j} (h : Ψ (.val (.bl i)) S) : WE C (.Constant (.bool i) j pos) env S Ψ := fun X W b ok tk w σ H r en xc Q n => ⟨_, pe_bl, n.at_ (d := .bl i) r rfl h⟩
theorem we_non {j} (h : Ψ (.val .non) S) : WE C (.Constant .none j pos) env S Ψ := fun X W b ok tk w σ H r en xc Q n => ⟨_, pe_non, n.at_ (d := .non) r rfl h⟩
theorem we_name {x : Str} {i : Nat} {r : R} (hx : InV x i C.vis) (he : env[i]? = some (some r)) (h : Ψ r S) : WE C (.Name x pos) env S Ψ := fun X W b ok tk w σ H rp en xc Q n => by
  obtain ⟨h1, h2, h3⟩ := ok.vis _ hx.mem
  obtain ⟨h4, h5, h6⟩ := plain_of h3
  obtain ⟨v, hv, hr⟩ := en.2 i r he
  exact ⟨_, pe_var h1 h2 h4 h5, v, hv, n w S H _ _ (Le.refl _) rp hr h⟩
/-- a name of the module: a constant -/
theorem we_glob {x : Str} {u : Value} {d : D} (hx : InG x C.gl) (hm : C.g.mg x = some u) (hr : ∃ v, RelV v u ∧ ∀ G, Is C.g.K G d v) (h : Ψ (.val d) S) : WE C (.Name x pos) env S Ψ := fun X W b ok tk w σ H rp en xc Q n => by
  obtain ⟨v, rv, hd⟩ := hr
  obtain ⟨h1, h2⟩ := ok.gl _ hx.mem
  refine ⟨_, pe_glob h1 (u := u) (by have := ok.gd; rw [← this] at hm; exact hm) rv (plain_of h2).1, n.at_ rp (hd _) h⟩

/-! ### operators -/
def cOp (X : Cx) (f : Value → Value → Sem Value) : R2 := fun x y H Q => ∃ r, OpR X f r ∧ r x y H Q
theorem cOp_ok {X : Cx} {f : Value → Value → Sem Value} : OpR X f (cOp X f) := fun pins s σ H x y v u Q I rx ry ⟨_, p, h⟩ => p pins s σ H x y v u Q I rx ry h
/-- an operation on two values -/
def WO (C : DC) (f : Value → Value → Sem Value) (x y : R) (S : Sto) (Ψ : R → Sto → Prop) : Prop := ∀ X b, OkC X C → ∀ w H, Rp C.g.K b w S H → ∀ v u, IsR C.g.K b.B w x v → IsR C.g.K b.B w y u → ∀ Q, NCov C.g.K b w Ψ Q → cOp X f v u H Q
theorem we_op {op : Operator} (h : WE C a env S fun x S1 => WE C b env S1 fun y S2 => WO C (binaryOp op) x y S2 Ψ) : WE C (.BinOp a op b pos) env S Ψ := fun X W bb ok tk w σ H rp en xc Q n => by
  refine ⟨_, pe_op cOp_ok cE_ok cE_ok, ?_⟩
  refine h X W bb ok tk w σ H rp en xc _ fun w1 S1 H1 x v l1 r1 i1 k1 => ?_
  refine k1 X W bb ok tk w1 σ H1 r1 (en.mono l1) (xc.mono l1) _ fun w2 S2 H2 y u l2 r2 i2 k2 => ?_
  exact k2 X bb ok w2 H2 r2 v u (i1.mono l2) i2 Q (n.mono (l1.trans l2))
theorem we_cmp {op : CmpOp} (h : WE C a env S fun x S1 => WE C b env S1 fun y S2 => WO C (compareOp op) x y S2 Ψ) (hm : behindInMarks op b = false) : WE C (.Compare a [op] [b] pos) env S Ψ := fun X W bb ok tk w σ H rp en xc Q n => by
  refine ⟨_, pe_cmpR cOp_ok cE_ok cE_ok hm, ?_⟩
  refine h X W bb ok tk w σ H rp en xc _ fun w1 S1 H1 x v l1 r1 i1 k1 => ?_
  refine k1 X W bb ok tk w1 σ H1 r1 (en.mono l1) (xc.mono l1) _ fun w2 S2 H2 y u l2 r2 i2 k2 => ?_
  exact k2 X bb ok w2 H2 r2 v u (i1.mono l2) i2 Q (n.mono (l1.trans l2))
def asB (Θ : Bool → Sto → Prop) : R → Sto → Prop := fun z S3 => ∃ k, z = .val (.bl k) ∧ Θ k S3
theorem asB_mk {k : Bool} (h : Θ k S) : asB Θ (.val (.bl k)) S := ⟨k, rfl, h⟩
theorem wt_cmp {op : CmpOp} (h : WE C a env S fun x S1 => WE C b env S1 fun y S2 => WO C (compareOp op) x y S2 (asB Θ)) (hm : behindInMarks op b = false) : WT C (.Compare a [op] [b] pos) env S Θ := fun X W bb ok tk w σ H rp en xc Q n => by
  refine ⟨_, pt_cmpR cOp_ok cE_ok cE_ok hm, ?_⟩
  refine h X W bb ok tk w σ H rp en xc _ fun w1 S1 H1 x v l1 r1 i1 k1 => ?_
  refine k1 X W bb ok tk w1 σ H1 r1 (en.mono l1) (xc.mono l1) _ fun w2 S2 H2 y u l2 r2 i2 k2 => ?_
  refine k2 X bb ok w2 H2 r2 v u (i1.mono l2) i2 _ fun w3 S3 H3 z t l3 r3 i3 ⟨k, e, k3⟩ => ?_
  subst e
  exact ⟨k, i3, n w3 S3 H3 k ((l1.trans l2).trans l3) r3 k3⟩
section
variable {x y : R} {i j : Int} {s t : Str} {p q : Bool}
theorem wo_I {f : Value → Value → Sem Value} {Cd : Int → Int → Prop} {g : Int → Int → V} {z : D} (hop : ∀ X, OpR X f (rI Cd g)) (hz : ∀ G, Is C.g.K G z (g i j)) (hc : Cd i j) (h : Ψ (.val z) S) : WO C f (.val (.int i)) (.val (.int j)) S Ψ := fun X b ok w H rp v u hv hu Q n => by
  have hv : v = _ := hv
  have hu : u = _ := hu
  subst hv hu
  exact ⟨_, hop X, i, j, rfl, rfl, hc, n.at_ rp (hz _) h⟩
theorem wo_I0 {f : Value → Value → Sem Value} {g : Int → Int → V} {z : D} (hop : ∀ X, OpR X f (rI0 g)) (hz : ∀ G, Is C.g.K G z (g i j)) (h : Ψ (.val z) S) : WO C f (.val (.int i)) (.val (.int j)) S Ψ := fun X b ok w H rp v u hv hu Q n => by
  have hv : v = _ := hv
  have hu : u = _ := hu
  subst hv hu
  exact ⟨_, hop X, i, j, rfl, rfl, n.at_ rp (hz _) h⟩
theorem wo_add (h : Ψ (.val (.int (i + j))) S) : WO C (binaryOp .Add) (.val (.int i)) (.val (.int j)) S Ψ := wo_I0 (fun _ => op_add) (z := (.int (i + j))) (fun _ => rfl) h
theorem wo_sub (h : Ψ (.val (.int (i - j))) S) : WO C (binaryOp .Sub) (.val (.int i)) (.val (.int j)) S Ψ := wo_I0 (fun _ => op_sub) (z := (.int (i - j))) (fun _ => rfl) h
theorem wo_mul (hc : CMul i j) (h : Ψ (.val (.int (i * j))) S) : WO C (binaryOp .Mult) (.val (.int i)) (.val (.int j)) S Ψ := wo_I (fun _ => op_mul) (z := (.int (i * j))) (fun _ => rfl) hc h
theorem wo_fdiv (hc : CDiv i j) (h : Ψ (.val (.int (i / j))) S) : WO C (binaryOp .FloorDiv) (.val (.int i)) (.val (.int j)) S Ψ := wo_I (fun _ => op_fdiv) (z := (.int (i / j))) (fun _ => rfl) hc h
theorem wo_mod (hc : 0 < j) (h : Ψ (.val (.int (i % j))) S) : WO C (binaryOp .Mod) (.val (.int i)) (.val (.int j)) S Ψ := wo_I (fun _ => op_mod) (z := (.int (i % j))) (fun _ => rfl) hc h
theorem wo_pow (hc : CPow i j) (h : Ψ (.val (.int (i ^ j.toNat))) S) : WO C (binaryOp .Pow) (.val (.int i)) (.val (.int j)) S Ψ := wo_I (fun _ => op_pow) (z := (.int (i ^ j.toNat))) (fun _ => rfl) hc h
theorem wo_lt (h : Ψ (.val (.bl (decide (i < j)))) S) : WO C (compareOp .Lt) (.val (.int i)) (.val (.int j)) S Ψ := wo_I0 (fun _ => op_lt) (z := (.bl (decide (i < j)))) (fun _ => rfl) h
theorem wo_le (h : Ψ (.val (.bl (decide (i ≤ j)))) S) : WO C (compareOp .LtE) (.val (.int i)) (.val (.int j)) S Ψ := wo_I0 (fun _ => op_le) (z := (.bl (decide (i ≤ j)))) (fun _ => rfl) h
theorem wo_gt (h : Ψ (.val (.bl (decide (j < i)))) S) : WO C (compareOp .Gt) (.val (.int i)) (.val (.int j)) S Ψ := wo_I0 (fun _ => op_gt) (z := (.bl (decide (j < i)))) (fun _ => rfl) h
theorem wo_ge (h : Ψ (.val (.bl (decide (j ≤ i)))) S) : WO C (compareOp .GtE) (.val (.int i)) (.val (.int j)) S Ψ := wo_I0 (fun _ => op_ge) (z := (.bl (decide (j ≤ i)))) (fun _ => rfl) h
end
end
end DL
set_option Elab.async false
set_option linter.all false
set_option maxRecDepth 100000
set_option maxHeartbeats 4000000
namespace DL
open PySem PySem.Spec PyProof.Rows
open L2 hiding Takes passAt takes_of ps_raise PMk ps_try_as
open L2N (Takes passAt takes_of ps_raise PMk ps_try_as)

/-! ### what leaves a def: no name of an object that goes, nothing that was only lent -/
def R.okB (n : Nat) : R → Bool
  | .val _ => true
  | .loc k => decide (k < n)
  | .bor _ => false
def Node.okB (n : Nat) : Node → Bool
  | .lst rs => rs.all (R.okB n)
  | .dK _ rs => rs.all (R.okB n)
  | .dT _ rs => rs.all (R.okB n)
  | .ins _ _ rs => rs.all (R.okB n)
  | .lkT _ _ rs => rs.all (R.okB n)
  | .dead => true
theorem okB_vals (n : Nat) : ∀ ds : List D, (ds.map R.val).all (R.okB n) = true
  | [] => rfl
  | d :: ds => by rw [List.map_cons, List.all_cons, okB_vals n ds]; rfl
def DSp := List R → Sto → (R → Sto → Prop) → (Addr → List Str → List D → Sto → Prop) → Prop
/-- the promise in HandS' words -/
def spD (K : PySem.W.Frag) (s : DSp) : Sp := fun vs H Q E => ∃ (w : Wd) (S : Sto) (rs : List R) (Ψ : R → Sto → Prop) (ξ : Addr → List Str → List D → Sto → Prop),
  Rp K ⟨H, w.G, w.as⟩ w S H ∧ IsRs K (Base.B ⟨H, w.G, w.as⟩) w rs vs ∧ s rs S Ψ ξ ∧
  (∀ w' S' H' r v, Le w w' → Rp K ⟨H, w.G, w.as⟩ w' S' H' → IsR K (Base.B ⟨H, w.G, w.as⟩) w' r v → R.okB S'.length r = true → S'.all (Node.okB S'.length) = true → Ψ r S' → Q v H') ∧
  (∀ w' S' H' C fs ds d vs, Le w w' → Rp K ⟨H, w.G, w.as⟩ w' S' H' → S'.all (Node.okB S'.length) = true → w'.G d = some (.xd (fs.zip vs)) → fs.length = vs.length → IsL K w'.G ds vs → ξ C fs ds S' → E (.ref C) (some d) H')

/-! ### dropping the last objects -/
theorem IsR.cut {K : PySem.W.Frag} {B : Hp} {w : Wd} {n : Nat} : ∀ {r : R} {v : V}, r.okB n = true → IsR K B w r v → IsR K B ⟨w.G, w.as.take n⟩ r v
  | .val _, _, _, h => h
  | .loc k, v, o, ⟨a, h, e⟩ => ⟨a, by
      show (w.as.take n)[k]? = some a
      rw [List.getElem?_take_of_lt (of_decide_eq_true o)]; exact h, e⟩
  | .bor _, _, o, _ => by cases o
theorem IsRs.cut {K : PySem.W.Frag} {B : Hp} {w : Wd} {n : Nat} : ∀ {r : List R} {v : List V}, r.all (R.okB n) = true → IsRs K B w r v → IsRs K B ⟨w.G, w.as.take n⟩ r v
  | [], _, _, h => h
  | r :: rs, _, o, ⟨v, t, e, h1, h2⟩ => by
    obtain ⟨o1, o2⟩ := Bool.and_eq_true_iff.mp (show (r.okB n && rs.all (R.okB n)) = true from o)
    exact ⟨v, t, e, h1.cut o1, IsRs.cut o2 h2⟩
theorem NodeAt.cut {K : PySem.W.Frag} {B : Hp} {w : Wd} {H : Hp} {a : Addr} {n : Nat} : ∀ {m : Node}, m.okB n = true → NodeAt K B w H a m → NodeAt K B ⟨w.G, w.as.take n⟩ H a m
  | .lst _, o, ⟨vs, h, t⟩ => ⟨vs, h, t.cut o⟩
  | .dK _ _, o, ⟨vs, h, z, t⟩ => ⟨vs, h, z, t.cut o⟩
  | .dT _ _, o, ⟨vs, h, z, t⟩ => ⟨vs, h, z, t.cut o⟩
  | .ins _ _ _, o, ⟨dx, vs, h, z, t⟩ => ⟨dx, vs, h, z, t.cut o⟩
  | .lkT _ _ _, o, ⟨vs, h, z, t⟩ => ⟨vs, h, z, t.cut o⟩
theorem all_get {α : Type} {l : List α} {p : α → Bool} (h : l.all p = true) {k : Nat} {x : α} (e : l[k]? = some x) : p x = true := List.all_eq_true.mp h x (List.mem_of_getElem? e)
theorem take_get {α : Type} {l : List α} {n k : Nat} {x : α} (e : (l.take n)[k]? = some x) : k < n ∧ l[k]? = some x := by
  by_cases z : k < n
  · rw [List.getElem?_take_of_lt z] at e; exact ⟨z, e⟩
  · rw [List.getElem?_eq_none (by simp; omega)] at e; cases e
def Goes (b : Base) (w : Wd) (S : Sto) (n : Nat) (a : Addr) : Prop := b.H0 a = none ∧ ∃ k m, n ≤ k ∧ S[k]? = some m ∧ m.live = true ∧ w.as[k]? = some a
noncomputable instance goesDec (b : Base) (w : Wd) (S : Sto) (n : Nat) (a : Addr) : Decidable (Goes b w S n a) := Classical.propDecidable _
noncomputable def gSet (b : Base) (w : Wd) (S : Sto) (n : Nat) (H : Hp) : Hp := fun a => match w.G a with
  | some o => some o
  | none => if Goes b w S n a then H a else none
mutual
inductive Fz (S : Sto) (n : Nat) : R → D → Prop where
  | val (d : D) : Fz S n (.val d) d
  | lst {k : Nat} {rs : List R} {ds : List D} : n ≤ k → S[k]? = some (.lst rs) → FzL S n rs ds → Fz S n (.loc k) (.lst ds)
  | dK {k : Nat} {ks : List Key} {rs : List R} {ds : List D} : n ≤ k → S[k]? = some (.dK ks rs) → FzL S n rs ds → Fz S n (.loc k) (.dct ks ds)
  | dT {k : Nat} {ks : List (List Key)} {rs : List R} {ds : List D} : n ≤ k → S[k]? = some (.dT ks rs) → FzL S n rs ds → Fz S n (.loc k) (.dcT ks ds)
  | ins {k : Nat} {C : Addr} {ks : List Str} {rs : List R} {ds : List D} : n ≤ k → S[k]? = some (.ins C ks rs) → FzL S n rs ds → Fz S n (.loc k) (.ins C ks ds)
inductive FzL (S : Sto) (n : Nat) : List R → List D → Prop where
  | nil : FzL S n [] []
  | cons {r : R} {d : D} {rs : List R} {ds : List D} : Fz S n r d → FzL S n rs ds → FzL S n (r :: rs) (d :: ds)
end
theorem FzL.vals {S : Sto} {n : Nat} : ∀ ds : List D, FzL S n (ds.map .val) ds
  | [] => .nil
  | d :: ds => .cons (.val d) (FzL.vals ds)
section
variable {K : PySem.W.Frag} {b : Base} {w w' : Wd} {S S' : Sto} {H H' : Hp}
theorem Rp.cut (r : Rp K b w S H) {n : Nat} (hn : n ≤ S.length) (h0 : b.as0.length ≤ n) (ho : (S.take n).all (Node.okB n) = true) : Rp K b ⟨w.G, w.as.take n⟩ (S.take n) H := by
  refine ⟨r.ex, by simp [r.len], ?_, fun k m hm hl => ?_, fun j k m m' a h1 l1 h2 l2 h3 h4 => ?_, r.fr, r.th, r.gn⟩
  · obtain ⟨t, e⟩ := r.pre
    refine ⟨t.take (n - b.as0.length), ?_⟩
    show w.as.take n = _
    rw [e, List.take_append, List.take_of_length_le h0]
  · have ok := all_get ho hm
    obtain ⟨z, hm'⟩ := take_get hm
    obtain ⟨a, h1, h2, h3, h4⟩ := r.at_ k m hm' hl
    exact ⟨a, by show (w.as.take n)[k]? = some a; rw [List.getElem?_take_of_lt z]; exact h1, h2, h3, h4.cut ok⟩
  · exact r.inj j k m m' a (take_get h1).2 l1 (take_get h2).2 l2 (take_get h3).2 (take_get h4).2

/-! ### settling: the last objects are known from now on and change no more -/
theorem Rp.kn (r : Rp K b w S H) {n k : Nat} {m : Node} {a : Addr} (hn : b.as0.length ≤ n) (hk : n ≤ k) (hm : S[k]? = some m) (hl : m.live = true) (ha : w.as[k]? = some a) : gSet b w S n H a = H a := by
  obtain ⟨a', h1, h2, h3, h4⟩ := r.at_ k m hm hl
  rw [ha] at h1
  cases h1
  unfold gSet
  rw [h2]
  have h5 : b.H0 a = none := h3.resolve_left (by omega)
  show (if Goes b w S n a then H a else none) = _
  rw [if_pos ⟨h5, k, m, hk, hm, hl, ha⟩]
theorem gSet_ex (r : Rp K b w S H) (n : Nat) : Ex w.G (gSet b w S n H) ∧ Ex (gSet b w S n H) H := by
  refine ⟨fun a o e => ?_, fun a o e => ?_⟩
  · unfold gSet; rw [e]
  · unfold gSet at e
    cases q : w.G a with
    | some u => rw [q] at e; cases e; exact r.ex a _ q
    | none =>
      rw [q] at e
      have e : (if Goes b w S n a then H a else none) = some o := e
      split at e
      · exact e
      · cases e
theorem Fz.is (r : Rp K b w S H) {n : Nat} (hn : b.as0.length ≤ n) {x : R} {d : D} (h : Fz S n x d) : ∀ v, IsR K b.B w x v → Is K (gSet b w S n H) d v := by
  have hg := (gSet_ex r n).1
  have go : ∀ {k : Nat} {v : V} {m : Node}, n ≤ k → S[k]? = some m → m.live = true → IsR K b.B w (.loc k) v → ∃ a, v = .ref a ∧ gSet b w S n H a = H a ∧ NodeAt K b.B w H a m := fun {k v m} hk hm hl ⟨a, h1, h2⟩ => by
    obtain ⟨a', h3, _, _, h4⟩ := r.at_ k m hm hl
    rw [h1] at h3
    cases h3
    exact ⟨a, h2, r.kn hn hk hm hl h1, h4⟩
  refine Fz.rec (motive_1 := fun x d _ => ∀ v, IsR K b.B w x v → Is K (gSet b w S n H) d v) (motive_2 := fun xs ds _ => ∀ vs, IsRs K b.B w xs vs → IsL K (gSet b w S n H) ds vs)
    (fun d v hv => Is.mono hg d v hv) ?_ ?_ ?_ ?_ (fun vs h => h) (fun _ _ i1 i2 vs ⟨v, t, e, h1, h2⟩ => ⟨v, t, e, i1 v h1, i2 t h2⟩) h
  · intro k rs ds hk hm _ ih v hv
    obtain ⟨a, e, g, ⟨vs, h1, h2⟩⟩ := go hk hm rfl hv
    exact ⟨a, vs, e, .inl (.inl (g.trans h1)), ih vs h2⟩
  · intro k ks rs ds hk hm _ ih v hv
    obtain ⟨a, e, g, ⟨vs, h1, z, h2⟩⟩ := go hk hm rfl hv
    exact ⟨a, vs, e, g.trans h1, z, ih vs h2⟩
  · intro k ks rs ds hk hm _ ih v hv
    obtain ⟨a, e, g, ⟨vs, h1, z, h2⟩⟩ := go hk hm rfl hv
    exact ⟨a, vs, e, g.trans h1, z, ih vs h2⟩
  · intro k C ks rs ds hk hm _ ih v hv
    obtain ⟨a, e, g, ⟨dx, vs, h1, z, h2⟩⟩ := go hk hm rfl hv
    exact ⟨a, dx, vs, e, g.trans h1, z, ih vs h2⟩
theorem Rp.settle (r : Rp K b w S H) {n : Nat} (hn : n ≤ S.length) (h0 : b.as0.length ≤ n) (ho : (S.take n).all (Node.okB n) = true) : Rp K b ⟨gSet b w S n H, w.as.take n⟩ (S.take n) H := by
  have c := r.cut hn h0 ho
  have l : Le (⟨w.G, w.as.take n⟩ : Wd) ⟨gSet b w S n H, w.as.take n⟩ := ⟨(gSet_ex r n).1, [], by simp⟩
  refine ⟨(gSet_ex r n).2, c.len, c.pre, fun k m hm hl => ?_, c.inj, r.fr, r.th, fun a o e => ?_⟩
  · obtain ⟨a, h1, h2, h3, h4⟩ := c.at_ k m hm hl
    refine ⟨a, h1, ?_, h3, h4.move l rfl⟩
    have h2 : w.G a = none := h2
    show gSet b w S n H a = none
    unfold gSet
    rw [h2]
    show (if Goes b w S n a then H a else none) = _
    refine if_neg ?_
    rintro ⟨z, k2, m2, hk2, hm2, hl2, ha2⟩
    have h1 : (w.as.take n)[k]? = some a := h1
    obtain ⟨kn, h1⟩ := take_get h1
    obtain ⟨_, hm3⟩ := take_get hm
    have := r.inj k k2 m m2 a hm3 hl hm2 hl2 h1 ha2
    omega
  · have e : gSet b w S n H a = some o := e
    unfold gSet at e
    cases q : w.G a with
    | some u => rw [q] at e; cases e; exact r.gn a _ q
    | none =>
      rw [q] at e
      have e : (if Goes b w S n a then H a else none) = some o := e
      split at e
      · rename_i z; exact .inr (.inl z.1)
      · cases e
end
end DL
set_option Elab.async false
set_option linter.all false
set_option maxRecDepth 100000
set_option maxHeartbeats 4000000
namespace DL
open PySem PySem.Spec PyProof.Rows
open L2 hiding Takes passAt takes_of ps_raise PMk ps_try_as
open L2N (Takes passAt takes_of ps_raise PMk ps_try_as)

/-! ### a def -/
structure FnD (g : Gd) (k : Nat) (f : Addr) (ps : List Str) (s : DSp) : Prop where
  fd : ∃ fd, FnOk g.prog g.w g.K g.mg g.base (L2N.CX g.prog g.w) k f fd ps (spD g.K s) ∧ Binds g.K fd ps []
  kp : PySem.W.keepIn g.K (.ref f) = true
def RetC (n0 : Nat) (Ψ : R → Sto → Prop) (r : R) (S' : Sto) : Prop := ∃ n, n0 ≤ n ∧ n ≤ S'.length ∧ (S'.take n).all (Node.okB n) = true ∧
  ((r.okB n = true ∧ Ψ r (S'.take n)) ∨ ∃ d, Fz S' n r d ∧ Ψ (.val d) (S'.take n))
def RaiC (n0 : Nat) (ξ : Addr → List Str → List D → Sto → Prop) : Xi := fun C fs ds _ S' => ∃ n, n0 ≤ n ∧ n ≤ S'.length ∧ (S'.take n).all (Node.okB n) = true ∧ ξ C fs ds (S'.take n)
def locB (sc : Scope) (x : Str) : Bool := decide (sc.names.lookup x = some .local) || decide (sc.names.lookup x = some .cell)
def visB (N : List Str) (vis : List (Str × Nat)) : Bool := vis.all fun p => decide (N[p.2]? = some p.1)
def scB (vis : List (Str × Nat)) (gl : List Str) (sc : Scope) : Bool := vis.all (fun p => locB sc p.1 && plainName p.1) && gl.all fun x => decide (sc.names.lookup x = some .globalImplicit) && plainName x
theorem locB_ok {sc : Scope} {x : Str} (h : locB sc x = true) : Loc sc x := by
  rcases Bool.or_eq_true_iff.mp h with h | h
  · exact .inl (of_decide_eq_true h)
  · exact .inr (of_decide_eq_true h)
theorem IsRs.start {K : PySem.W.Frag} {b : Base} {w : Wd} {rs : List R} {vs : List V} (h : IsRs K b.B w rs vs) (N : List Str) : EnvIs K b w (rs.map some ++ List.replicate (N.length - rs.length) none) (start N vs) := by
  refine ⟨by simp [L2.start, h.length], fun i r e => ?_⟩
  by_cases hi : i < rs.length
  · rw [List.getElem?_append_left (by simpa using hi), List.getElem?_map] at e
    cases q : rs[i]? with
    | none => rw [q] at e; cases e
    | some r' =>
      rw [q] at e; cases e
      obtain ⟨v, h1, h2⟩ := h.get q
      refine ⟨v, ?_, h2⟩
      have := (List.getElem?_eq_some_iff.mp h1).1
      unfold L2.start
      rw [List.getElem?_append_left (by simpa using this), List.getElem?_map, h1]; rfl
  · rw [List.getElem?_append_right (by simpa using hi), List.getElem?_replicate] at e
    split at e <;> cases e
section
variable {g : Gd} {k : Nat} {f : Addr} {ps : List Str} {s : DSp} {fd : FuncData} {x qual : Str} {params : Arguments} {body : List Stmt} {scope : Scope} {N gl : List Str}
theorem okC_def {vis : List (Str × Nat)} {cdv : Value} {A : Around} {outer : List PySem.Env} {sh : Shared} {H : Hp} {E : XK} {xi : Xi} {n0 : Nat} (hv : visB N vis = true) (nd : N.Nodup) (sc : scB vis gl scope = true)
    (hr : Room k (A.deeper (envOfC qual scope sh.heap.objs.size f cdv))) :
    OkC (cxOf (L2N.CX g.prog g.w) g.prog g.w g.K g.mg g.base N qual scope f cdv A outer sh H E) ⟨g, N, scope, vis, vis, gl, k, true, n0, xi, ⟨true, none, none⟩⟩ := by
  obtain ⟨s1, s2⟩ := Bool.and_eq_true_iff.mp sc
  have hN : ∀ p ∈ vis, N[p.2]? = some p.1 ∧ locB scope p.1 = true ∧ plainName p.1 = true := fun p hp =>
    ⟨of_decide_eq_true (List.all_eq_true.mp hv p hp), Bool.and_eq_true_iff.mp (List.all_eq_true.mp s1 p hp)⟩
  refine ⟨rfl, rfl, rfl, nd, fun p hp => ?_, fun p hp => ?_, fun x hx => ?_, fun _ => ⟨rfl, hr⟩, ?_, passes_of rfl, (fun _ z => nomatch z), (fun _ z => nomatch z), fun _ => ⟨rfl, rfl⟩⟩
  · obtain ⟨h1, h2, h3⟩ := hN p hp
    exact ⟨h1, (locB_ok h2).elim (fun h => .inl h) (fun h => .inr (.inl h)), h3⟩
  · obtain ⟨h1, h2, h3⟩ := hN p hp
    exact ⟨h1, locB_ok h2, .inl rfl⟩
  · obtain ⟨h1, h2⟩ := Bool.and_eq_true_iff.mp (List.all_eq_true.mp s2 x hx)
    have h3 : scope.names.lookup x = some .globalImplicit := of_decide_eq_true h1
    exact ⟨h3, h2⟩
  · have := hr.un
    show (A.deeper (envOfC qual scope sh.heap.objs.size f cdv)).units + 100 < cLine
    omega
theorem ret_ok {K : PySem.W.Frag} {b : Base} {w0 w : Wd} {S0 S' : Sto} {H : Hp} {r : R} {v : V} {Ψ : R → Sto → Prop} {Q : VK} (hb : b.as0 = w0.as) (l0 : w0.as.length = S0.length)
    (hQ : ∀ w' S' H' r v, Le w0 w' → Rp K b w' S' H' → IsR K b.B w' r v → R.okB S'.length r = true → S'.all (Node.okB S'.length) = true → Ψ r S' → Q v H') (le : Le w0 w) (rp : Rp K b w S' H) (hr : IsR K b.B w r v) (h : RetC S0.length Ψ r S') : Q v H := by
  obtain ⟨n, h1, h2, h3, h4⟩ := h
  have e0 : b.as0.length ≤ n := by rw [hb, l0]; exact h1
  have el : (S'.take n).length = n := by simp; omega
  obtain ⟨t, et⟩ := le.a
  have ea : ∃ u, w.as.take n = w0.as ++ u := ⟨t.take (n - w0.as.length), by rw [et, List.take_append, List.take_of_length_le (by rw [l0]; exact h1)]⟩
  rcases h4 with ⟨h4, h5⟩ | ⟨d, h4, h5⟩
  · exact hQ ⟨w.G, w.as.take n⟩ _ H r v ⟨le.g, ea⟩ (rp.cut h2 e0 h3) (hr.cut h4) (by rw [el]; exact h4) (by rw [el]; exact h3) h5
  · exact hQ ⟨gSet b w S' n H, w.as.take n⟩ _ H (.val d) v ⟨le.g.trans (gSet_ex rp n).1, ea⟩ (rp.settle h2 e0 h3) (Fz.is rp e0 h4 v hr) rfl (by rw [el]; exact h3) h5
/-- THE RULE for a def -/
theorem fn_mkX (F : FunD g.K x qual params body scope [] [] f fd) (hb : Binds g.K fd ps []) (Sc : FnScope N ps scope) (vis : List (Str × Nat)) (hv : visB N vis = true) (sc : scB vis gl scope = true)
    (len : ∀ rs S Ψ ξ, s rs S Ψ ξ → rs.length = ps.length)
    (hbody : ∀ rs S Ψ ξ, s rs S Ψ ξ → WSs ⟨g, N, scope, vis, vis, gl, k, true, S.length, RaiC S.length ξ, ⟨true, none, none⟩⟩ body (rs.map some ++ List.replicate (N.length - rs.length) none) S ⟨fun _ S' => RetC S.length Ψ (.val .non) S', RetC S.length Ψ, fun _ _ => False, fun _ _ => False⟩) :
    FnOk g.prog g.w g.K g.mg g.base (L2N.CX g.prog g.w) (k + 1) f fd ps (spD g.K s) := by
  refine F.ok Sc (fun vs H Q E h => ?_) (fun cdv A outer sh H vs Q E hr h => ⟨cSs _ body, cSs_ok, ?_⟩)
  · obtain ⟨w, S, rs, Ψ, ξ, _, h2, h3, _⟩ := h
    rw [← h2.length]; exact len _ _ _ _ h3
  · obtain ⟨w, S, rs, Ψ, ξ, rp, hrs, hs, hQ, hE⟩ := h
    refine hbody rs S Ψ ξ hs _ (fun cls d _ H => E cls d H) ⟨H, w.G, w.as⟩ (okC_def hv Sc.nd sc hr) (takes_of rfl rfl rfl rfl) w _ H rp (hrs.start N) ?_ _ ?_
    · refine ⟨Nat.le_of_eq rp.len, ?_⟩
      intro w' S' H' σ' env' C fs ds d vs' le rp' en hd hl his ⟨n, h1, h2, h3, h4⟩
      have le := le.le (Nat.le_of_eq rp.len)
      have el : (S'.take n).length = n := by simp; omega
      obtain ⟨t, et⟩ := le.a
      refine hE ⟨w'.G, w'.as.take n⟩ _ H' C fs ds d vs' ⟨le.g, t.take (n - w.as.length), ?_⟩ (rp'.cut h2 (by show w.as.length ≤ n; rw [rp.len]; exact h1) h3) (by rw [el]; exact h3) hd hl his h4
      show w'.as.take n = _
      rw [et, List.take_append, List.take_of_length_le (by rw [rp.len]; exact h1)]
    · refine ⟨?_, ?_, fun _ _ _ _ _ _ _ _ z => z.elim, fun _ _ _ _ _ _ _ _ z => z.elim⟩
      · intro w' S' H' env' σ' le rp' en h
        have le := le.le (Nat.le_of_eq rp.len)
        exact ret_ok (w0 := w) (v := V.non) (r := .val .non) (Q := Q) rfl rp.len hQ le rp' rfl h
      · intro w' S' H' r v le rp' hr' h
        have le := le.le (Nat.le_of_eq rp.len)
        exact ret_ok (w0 := w) rfl rp.len hQ le rp' hr' h
theorem fn_mk (F : FunD g.K x qual params body scope [] [] f fd) (hb : Binds g.K fd ps []) (Sc : FnScope N ps scope) (vis : List (Str × Nat)) (hv : visB N vis = true) (sc : scB vis gl scope = true)
    (len : ∀ rs S Ψ ξ, s rs S Ψ ξ → rs.length = ps.length)
    (hbody : ∀ rs S Ψ ξ, s rs S Ψ ξ → WSs ⟨g, N, scope, vis, vis, gl, k, true, S.length, RaiC S.length ξ, ⟨true, none, none⟩⟩ body (rs.map some ++ List.replicate (N.length - rs.length) none) S ⟨fun _ S' => RetC S.length Ψ (.val .non) S', RetC S.length Ψ, fun _ _ => False, fun _ _ => False⟩) :
    FnD g (k + 1) f ps s := ⟨⟨fd, fn_mkX F hb Sc vis hv sc len hbody, hb⟩, F.kp⟩
end
end DL
set_option Elab.async false
set_option linter.all false
set_option maxRecDepth 100000
set_option maxHeartbeats 4000000
namespace DL
open PySem PySem.Spec PyProof.Rows
open L2 hiding Takes passAt takes_of ps_raise PMk ps_try_as
open L2N (Takes passAt takes_of ps_raise PMk ps_try_as)

/-! ### into a call and back: the objects ks go along, under the numbers 0, 1, .. -/
def rho (ks : List Nat) (n j : Nat) : Nat := match ks[j]? with
  | some k => k
  | none => n + (j - ks.length)
def R.ren (f : Nat → Nat) : R → R
  | .val d => .val d
  | .loc k => .loc (f k)
  | .bor ds => .bor ds
def Node.ren (f : Nat → Nat) : Node → Node
  | .lst rs => .lst (rs.map (R.ren f))
  | .dK ks rs => .dK ks (rs.map (R.ren f))
  | .dT ks rs => .dT ks (rs.map (R.ren f))
  | .ins C fs rs => .ins C fs (rs.map (R.ren f))
  | .lkT o ks rs => .lkT o ks (rs.map (R.ren f))
  | .dead => .dead
theorem Node.ren_live (f : Nat → Nat) (n : Node) : (n.ren f).live = n.live := by cases n <;> rfl
def upS (f : Nat → Nat) : List Nat → Sto → Sto → Sto
  | k :: ks, S, m :: ms => upS f ks (S.set k (m.ren f)) ms
  | _, S, _ => S
def backS (ks : List Nat) (S T : Sto) : Sto := upS (rho ks S.length) ks S T ++ (T.drop ks.length).map (Node.ren (rho ks S.length))
theorem upS_len (f : Nat → Nat) : ∀ (ks : List Nat) (S T : Sto), (upS f ks S T).length = S.length
  | [], S, T => by cases T <;> rfl
  | k :: ks, S, [] => rfl
  | k :: ks, S, m :: ms => by rw [upS, upS_len f ks, List.length_set]
theorem upS_get {f : Nat → Nat} : ∀ {ks : List Nat} {S T : Sto} {k : Nat} {n : Node}, ks.Nodup → (∀ i ∈ ks, i < S.length) → ks.length ≤ T.length → (upS f ks S T)[k]? = some n →
    (∃ (j : Nat) (m : Node), ks[j]? = some k ∧ T[j]? = some m ∧ n = m.ren f) ∨ (k ∉ ks ∧ S[k]? = some n)
  | [], S, T, k, n, _, _, _, e => .inr ⟨by simp, by cases T <;> exact e⟩
  | i :: ks, S, [], k, n, _, _, hl, e => by simp at hl
  | i :: ks, S, m :: ms, k, n, nd, hb, hl, e => by
    obtain ⟨n1, n2⟩ := List.nodup_cons.mp nd
    have e : (upS f ks (S.set i (m.ren f)) ms)[k]? = some n := e
    rcases upS_get n2 (fun z hz => by rw [List.length_set]; exact hb z (List.mem_cons_of_mem _ hz)) (by simpa using hl) e with ⟨j, m', h1, h2, h3⟩ | ⟨h1, h2⟩
    · exact .inl ⟨j + 1, m', by simpa using h1, by simpa using h2, h3⟩
    · rcases set_get h2 with ⟨z, q, _⟩ | ⟨z, q⟩
      · exact .inl ⟨0, m, by simp [z], by simp, q⟩
      · exact .inr ⟨by simp [h1, z], q⟩
inductive ArgP (S : Sto) (ks : List Nat) : R → R → Prop where
  | val (d : D) : ArgP S ks (.val d) (.val d)
  | bor (ds : List D) : ArgP S ks (.bor ds) (.bor ds)
  | vbor (ds : List D) : ArgP S ks (.val (.lst ds)) (.bor ds)
  | lbor {k : Nat} {ds : List D} : S[k]? = some (.lst (ds.map .val)) → k ∉ ks → ArgP S ks (.loc k) (.bor ds)
  | loc {j k : Nat} : ks[j]? = some k → ArgP S ks (.loc k) (.loc j)
inductive ArgsP (S : Sto) (ks : List Nat) : List R → List R → Prop where
  | nil : ArgsP S ks [] []
  | cons {r r' : R} {rs rs' : List R} : ArgP S ks r r' → ArgsP S ks rs rs' → ArgsP S ks (r :: rs) (r' :: rs')
/-- the objects ks of S are T in the callee's numbers -/
structure PassS (ks : List Nat) (S T : Sto) : Prop where
  nd : ks.Nodup
  len : T.length = ks.length
  at_ : ∀ (j k : Nat), ks[j]? = some k → ∃ n : Node, T[j]? = some n ∧ n.live = true ∧ S[k]? = some (n.ren (rho ks S.length))
  ok : T.all (Node.okB ks.length) = true
theorem PassS.nil {S : Sto} : PassS [] S [] := ⟨List.nodup_nil, rfl, fun j k e => by simp at e, rfl⟩
theorem backS_nil (S : Sto) : backS [] S [] = S := by simp [backS, upS]
theorem nodup_ix' {N : List Nat} (hN : N.Nodup) {i j : Nat} {x : Nat} (a : N[i]? = some x) (b : N[j]? = some x) : i = j := by
  obtain ⟨h1, e1⟩ := List.getElem?_eq_some_iff.mp a
  obtain ⟨h2, e2⟩ := List.getElem?_eq_some_iff.mp b
  exact (List.getElem_inj hN).mp (e1.trans e2.symm)
def asC (w : Wd) (ks : List Nat) : List Addr := ks.map fun k => w.as.getD k 0
section
variable {K : PySem.W.Frag} {b : Base} {w wc : Wd} {S T T' : Sto} {H H' : Hp} {ks : List Nat}
theorem asC_get {j : Nat} {a : Addr} : (asC w ks)[j]? = some a ↔ ∃ k, ks[j]? = some k ∧ w.as.getD k 0 = a := by
  unfold asC
  rw [List.getElem?_map]
  cases q : ks[j]? with
  | none => simp
  | some k => simp
theorem getD_of {k : Nat} {a : Addr} (h : w.as[k]? = some a) : w.as.getD k 0 = a := by rw [List.getD_eq_getElem?_getD, h]; rfl
/-- an address that goes along -/
theorem PassS.adr (p : PassS ks S T) (r : Rp K b w S H) {j k : Nat} (h : ks[j]? = some k) : ∃ (n : Node) (a : Addr), T[j]? = some n ∧ n.live = true ∧ S[k]? = some (n.ren (rho ks S.length)) ∧ w.as[k]? = some a ∧ w.G a = none ∧ (k < b.as0.length ∨ b.H0 a = none) ∧
    NodeAt K b.B w H a (n.ren (rho ks S.length)) ∧ (asC w ks)[j]? = some a := by
  obtain ⟨n, h1, h2, h3⟩ := p.at_ j k h
  obtain ⟨a, h4, h5, h6, h7⟩ := r.at_ k _ h3 (by rw [Node.ren_live]; exact h2)
  exact ⟨n, a, h1, h2, h3, h4, h5, h6, h7, asC_get.mpr ⟨k, h, getD_of h4⟩⟩
theorem PassS.inAs (p : PassS ks S T) (r : Rp K b w S H) {a : Addr} (h : a ∈ asC w ks) : ∃ (j k : Nat) (n : Node), ks[j]? = some k ∧ T[j]? = some n ∧ n.live = true ∧ S[k]? = some (n.ren (rho ks S.length)) ∧ w.as[k]? = some a ∧ (k < b.as0.length ∨ b.H0 a = none) := by
  obtain ⟨j, hj⟩ := List.getElem?_of_mem h
  obtain ⟨k, hk, e⟩ := asC_get.mp hj
  obtain ⟨n, a', h1, h2, h3, h4, h5, h6, h7, h8⟩ := p.adr r hk
  rw [hj] at h8
  cases h8
  exact ⟨j, k, n, hk, h1, h2, h3, h4, h6⟩
theorem IsR.into (hk : ∀ (j : Nat) (k : Nat), ks[j]? = some k → ∃ a, w.as[k]? = some a) {B B' : Hp} {n : Nat} : ∀ {r : R} {v : V}, r.okB ks.length = true → IsR K B w (r.ren (rho ks n)) v → IsR K B' ⟨w.G, asC w ks⟩ r v
  | .val _, _, _, h => h
  | .loc j, v, o, ⟨a, h, e⟩ => by
    have hj : j < ks.length := of_decide_eq_true o
    refine ⟨a, asC_get.mpr ⟨ks[j], by simp [hj], getD_of ?_⟩, e⟩
    have : rho ks n j = ks[j] := by unfold rho; rw [List.getElem?_eq_getElem hj]
    rw [← this]; exact h
  | .bor _, _, o, _ => by cases o
theorem IsRs.into (hk : ∀ (j : Nat) (k : Nat), ks[j]? = some k → ∃ a, w.as[k]? = some a) {B B' : Hp} {n : Nat} : ∀ {rs : List R} {vs : List V}, rs.all (R.okB ks.length) = true → IsRs K B w (rs.map (R.ren (rho ks n))) vs → IsRs K B' ⟨w.G, asC w ks⟩ rs vs
  | [], _, _, h => h
  | r :: rs, _, o, ⟨v, t, e, h1, h2⟩ => by
    obtain ⟨o1, o2⟩ := Bool.and_eq_true_iff.mp (show (r.okB ks.length && rs.all (R.okB ks.length)) = true from o)
    exact ⟨v, t, e, h1.into hk o1, IsRs.into hk o2 h2⟩
theorem NodeAt.into (hk : ∀ (j : Nat) (k : Nat), ks[j]? = some k → ∃ a, w.as[k]? = some a) {B B' : Hp} {a : Addr} {n : Nat} : ∀ {m : Node}, m.okB ks.length = true → NodeAt K B w H a (m.ren (rho ks n)) → NodeAt K B' ⟨w.G, asC w ks⟩ H a m
  | .lst _, o, ⟨vs, h, t⟩ => ⟨vs, h, t.into hk o⟩
  | .dK _ _, o, ⟨vs, h, z, t⟩ => ⟨vs, h, z, t.into hk o⟩
  | .dT _ _, o, ⟨vs, h, z, t⟩ => ⟨vs, h, z, t.into hk o⟩
  | .ins _ _ _, o, ⟨dx, vs, h, z, t⟩ => ⟨dx, vs, h, z, t.into hk o⟩
  | .lkT _ _ _, o, ⟨vs, h, z, t⟩ => ⟨vs, h, z, t.into hk o⟩
theorem PassS.hk (p : PassS ks S T) (r : Rp K b w S H) : ∀ (j : Nat) (k : Nat), ks[j]? = some k → ∃ a, w.as[k]? = some a := fun j k e => by
  obtain ⟨n, a, _, _, _, h, _⟩ := p.adr r e
  exact ⟨a, h⟩
theorem Rp.into (r : Rp K b w S H) (p : PassS ks S T) : Rp K ⟨H, w.G, asC w ks⟩ ⟨w.G, asC w ks⟩ T H := by
  have hj : ∀ (j : Nat) (n : Node), T[j]? = some n → ∃ k, ks[j]? = some k := fun j n e => by
    have := (List.getElem?_eq_some_iff.mp e).1
    exact ⟨ks[j]'(by rw [← p.len]; exact this), by simp [← p.len, this]⟩
  refine ⟨r.ex, by simp [asC, p.len], ⟨[], by simp⟩, fun j n hn hl => ?_, fun j j' m m' a h1 l1 h2 l2 h3 h4 => ?_, fun _ _ e _ => e, fun _ o e => ⟨o, e⟩, fun _ _ e => .inl e⟩
  · obtain ⟨k, hk⟩ := hj j n hn
    obtain ⟨n', a, h1, h2, h3, h4, h5, h6, h7, h8⟩ := p.adr r hk
    rw [hn] at h1
    cases h1
    exact ⟨a, h8, h5, .inl (List.getElem?_eq_some_iff.mp h8).1, h7.into (p.hk r) (all_get p.ok hn)⟩
  · obtain ⟨k, hk⟩ := hj j m h1
    obtain ⟨k', hk'⟩ := hj j' m' h2
    obtain ⟨n1, a1, g1, g2, g3, g4, _, _, _, g8⟩ := p.adr r hk
    obtain ⟨n2, a2, q1, q2, q3, q4, _, _, _, q8⟩ := p.adr r hk'
    have h3 : (asC w ks)[j]? = some a := h3
    have h4 : (asC w ks)[j']? = some a := h4
    rw [h3] at g8; cases g8
    rw [h4] at q8; cases q8
    have e := r.inj k k' _ _ a g3 (by rw [Node.ren_live]; exact g2) q3 (by rw [Node.ren_live]; exact q2) g4 q4
    subst e
    exact nodup_ix' p.nd hk hk'
theorem ArgP.is (r : Rp K b w S H) (p : PassS ks S T) {x y : R} (h : ArgP S ks x y) {v : V} (hv : IsR K b.B w x v) : IsR K (Base.B ⟨H, w.G, asC w ks⟩) ⟨w.G, asC w ks⟩ y v := by
  cases h with
  | val d => exact hv
  | bor ds =>
    obtain ⟨q, vs, e, h1, h2⟩ := hv
    refine ⟨q, vs, e, h1.imp id fun h1 => Base.B_of (fun hm => ?_) (r.bw _ _ h1), h2⟩
    obtain ⟨z1, z2⟩ := Base.B_some h1
    obtain ⟨j, k, n, h3, h4, h5, h6, h7, h8⟩ := p.inAs r hm
    rcases h8 with h8 | h8
    · exact z1 (r.in0 h7 h8)
    · rw [h8] at z2; cases z2
  | vbor ds =>
    obtain ⟨q, vs, e, h1, h2⟩ := hv
    exact ⟨q, vs, e, .inl h1, h2⟩
  | lbor h1 h2 =>
    obtain ⟨a, h3, e⟩ := hv
    obtain ⟨a', h4, _, _, vs, h5, h6⟩ := r.at_ _ _ h1 rfl
    rw [h3] at h4
    cases h4
    have h6 : IsL K w.G _ vs := IsRs.vals.mp h6
    refine ⟨a, vs, e, .inr (Base.B_of (fun hm => ?_) h5), h6⟩
    obtain ⟨j, k, n, g3, g4, g5, g6, g7, _⟩ := p.inAs r hm
    have := r.inj _ _ _ _ a h1 rfl g6 (by rw [Node.ren_live]; exact g5) h3 g7
    subst this
    exact h2 (List.mem_of_getElem? g3)
  | loc h1 =>
    obtain ⟨a, h3, e⟩ := hv
    exact ⟨a, asC_get.mpr ⟨_, h1, getD_of h3⟩, e⟩
theorem ArgsP.is (r : Rp K b w S H) (p : PassS ks S T) : ∀ {x y : List R} (h : ArgsP S ks x y) {v : List V}, IsRs K b.B w x v → IsRs K (Base.B ⟨H, w.G, asC w ks⟩) ⟨w.G, asC w ks⟩ y v
  | _, _, .nil, _, h => h
  | _, _, .cons h1 h2, _, ⟨v, t, e, g1, g2⟩ => ⟨v, t, e, h1.is r p g1, ArgsP.is r p h2 g2⟩
/-- the world behind the call -/
def backW (w wc : Wd) (ks : List Nat) : Wd := ⟨wc.G, w.as ++ wc.as.drop ks.length⟩
theorem back_at (r : Rp K b w S H) (l : Le ⟨w.G, asC w ks⟩ wc) (hk : ∀ (j : Nat) (k : Nat), ks[j]? = some k → ∃ a, w.as[k]? = some a) {j : Nat} {a : Addr} (h : wc.as[j]? = some a) : (backW w wc ks).as[rho ks S.length j]? = some a := by
  show (w.as ++ wc.as.drop ks.length)[rho ks S.length j]? = some a
  unfold rho
  cases q : ks[j]? with
  | some k =>
    obtain ⟨a', ha'⟩ := hk j k q
    have := l.at_ (show (Wd.mk w.G (asC w ks)).as[j]? = some a' from asC_get.mpr ⟨k, q, getD_of ha'⟩)
    rw [h] at this
    cases this
    rw [List.getElem?_append_left (List.getElem?_eq_some_iff.mp ha').1]
    exact ha'
  | none =>
    have hj := List.getElem?_eq_none_iff.mp q
    show (w.as ++ wc.as.drop ks.length)[S.length + (j - ks.length)]? = some a
    rw [List.getElem?_append_right (by rw [r.len]; omega), List.getElem?_drop, r.len]
    rw [show ks.length + (S.length + (j - ks.length) - S.length) = j by omega]
    exact h
theorem IsR.back (hat : ∀ (j : Nat) (a : Addr), wc.as[j]? = some a → (backW w wc ks).as[rho ks S.length j]? = some a) {B B' : Hp} {n : Nat} : ∀ {x : R} {v : V}, x.okB n = true → IsR K B wc x v → IsR K B' (backW w wc ks) (x.ren (rho ks S.length)) v
  | .val _, _, _, h => h
  | .loc j, v, o, ⟨a, h, e⟩ => ⟨a, hat j a h, e⟩
  | .bor _, _, o, _ => by cases o
theorem IsRs.back (hat : ∀ (j : Nat) (a : Addr), wc.as[j]? = some a → (backW w wc ks).as[rho ks S.length j]? = some a) {B B' : Hp} {n : Nat} : ∀ {xs : List R} {vs : List V}, xs.all (R.okB n) = true → IsRs K B wc xs vs → IsRs K B' (backW w wc ks) (xs.map (R.ren (rho ks S.length))) vs
  | [], _, _, h => h
  | x :: xs, _, o, ⟨v, t, e, h1, h2⟩ => by
    obtain ⟨o1, o2⟩ := Bool.and_eq_true_iff.mp (show (x.okB n && xs.all (R.okB n)) = true from o)
    exact ⟨v, t, e, h1.back hat o1, IsRs.back hat o2 h2⟩
theorem NodeAt.back (hat : ∀ (j : Nat) (a : Addr), wc.as[j]? = some a → (backW w wc ks).as[rho ks S.length j]? = some a) {B B' : Hp} {a : Addr} {n : Nat} : ∀ {m : Node}, m.okB n = true → NodeAt K B wc H' a m → NodeAt K B' (backW w wc ks) H' a (m.ren (rho ks S.length))
  | .lst _, o, ⟨vs, h, t⟩ => ⟨vs, h, t.back hat o⟩
  | .dK _ _, o, ⟨vs, h, z, t⟩ => ⟨vs, h, z, t.back hat o⟩
  | .dT _ _, o, ⟨vs, h, z, t⟩ => ⟨vs, h, z, t.back hat o⟩
  | .ins _ _ _, o, ⟨dx, vs, h, z, t⟩ => ⟨dx, vs, h, z, t.back hat o⟩
  | .lkT _ _ _, o, ⟨vs, h, z, t⟩ => ⟨vs, h, z, t.back hat o⟩
theorem Le.back (l : Le ⟨w.G, asC w ks⟩ wc) : Le w (backW w wc ks) := ⟨l.g, _, rfl⟩
theorem Rp.back (r : Rp K b w S H) (p : PassS ks S T) (l : Le ⟨w.G, asC w ks⟩ wc) (r' : Rp K ⟨H, w.G, asC w ks⟩ wc T' H') (ok : T'.all (Node.okB T'.length) = true) : Rp K b (backW w wc ks) (backS ks S T') H' := by
  have hk := p.hk r
  have hat : ∀ (j : Nat) (a : Addr), wc.as[j]? = some a → (backW w wc ks).as[rho ks S.length j]? = some a := fun j a h => back_at r l hk h
  obtain ⟨t, et⟩ := l.a
  have et : wc.as = asC w ks ++ t := et
  have lm : ks.length ≤ T'.length := by rw [← r'.len, et]; simp [asC]
  have hb : ∀ i ∈ ks, i < S.length := fun i hi => by
    obtain ⟨j, hj⟩ := List.getElem?_of_mem hi
    obtain ⟨a, ha⟩ := hk j i hj
    rw [← r.len]; exact (List.getElem?_eq_some_iff.mp ha).1
  -- what an index is
  have cls : ∀ (k : Nat) (n : Node), (backS ks S T')[k]? = some n → n.live = true →
      (∃ (j : Nat) (m : Node), k = rho ks S.length j ∧ T'[j]? = some m ∧ n = m.ren (rho ks S.length)) ∨ (k ∉ ks ∧ k < S.length ∧ S[k]? = some n) := fun k n e hl => by
    unfold backS at e
    by_cases hk' : k < S.length
    · rw [List.getElem?_append_left (by rw [upS_len]; exact hk')] at e
      rcases upS_get p.nd hb lm e with ⟨j, m, h1, h2, h3⟩ | ⟨h1, h2⟩
      · exact .inl ⟨j, m, by unfold rho; rw [h1], h2, h3⟩
      · exact .inr ⟨h1, hk', h2⟩
    · rw [List.getElem?_append_right (by rw [upS_len]; omega), upS_len, List.getElem?_map, List.getElem?_drop] at e
      cases q : T'[ks.length + (k - S.length)]? with
      | none => rw [q] at e; cases e
      | some m =>
        rw [q] at e; cases e
        refine .inl ⟨ks.length + (k - S.length), m, ?_, q, rfl⟩
        unfold rho
        rw [List.getElem?_eq_none (by omega)]
        show k = S.length + (ks.length + (k - S.length) - ks.length)
        omega
  have out : ∀ (k : Nat) (n : Node) (a : Addr), k ∉ ks → S[k]? = some n → n.live = true → w.as[k]? = some a → a ∉ asC w ks := fun k n a h1 h2 h3 h4 hm => by
    obtain ⟨j, k2, m, g1, g2, g3, g4, g5, _⟩ := p.inAs r hm
    have := r.inj k k2 _ _ a h2 h3 g4 (by rw [Node.ren_live]; exact g3) h4 g5
    subst this
    exact h1 (List.mem_of_getElem? g1)
  have wk : ∀ (k : Nat) (a : Addr), w.as[k]? = some a → (backW w wc ks).as[k]? = some a := fun k a h => (Le.back l).at_ h
  -- a callee's object at home
  have adr : ∀ (j : Nat) (m : Node), T'[j]? = some m → m.live = true → ∃ a : Addr, wc.as[j]? = some a ∧ wc.G a = none ∧ ((∃ (k : Nat) (n : Node), ks[j]? = some k ∧ S[k]? = some n ∧ n.live = true ∧ w.as[k]? = some a ∧ rho ks S.length j = k) ∨ (ks.length ≤ j ∧ H a = none)) ∧ NodeAt K (Base.B ⟨H, w.G, asC w ks⟩) wc H' a m := fun j m hm hl => by
    obtain ⟨a, h1, h2, h3, h4⟩ := r'.at_ j m hm hl
    refine ⟨a, h1, h2, ?_, h4⟩
    cases q : ks[j]? with
    | some k =>
      obtain ⟨n, a', g1, g2, g3, g4, _, _, _, g8⟩ := p.adr r q
      have := l.at_ (show (Wd.mk w.G (asC w ks)).as[j]? = some a' from g8)
      rw [h1] at this
      cases this
      exact .inl ⟨k, _, rfl, g3, by rw [Node.ren_live]; exact g2, g4, by unfold rho; rw [q]⟩
    | none =>
      have hj := List.getElem?_eq_none_iff.mp q
      refine .inr ⟨hj, h3.resolve_left fun z => ?_⟩
      have z : j < (asC w ks).length := z
      simp [asC] at z
      omega
  refine ⟨r'.ex, ?_, ?_, fun k n hn hl => ?_, fun k1 k2 n1 n2 a h1 l1 h2 l2 h3 h4 => ?_, fun a o e hb => ?_, fun a o e => ?_, fun a o e => ?_⟩
  · show (w.as ++ wc.as.drop ks.length).length = (backS ks S T').length
    unfold backS
    rw [List.length_append, List.length_append, upS_len, List.length_map, List.length_drop, List.length_drop, r.len, r'.len]
  · obtain ⟨u, e⟩ := r.pre
    exact ⟨u ++ wc.as.drop ks.length, by show w.as ++ _ = _; rw [e, List.append_assoc]⟩
  · rcases cls k n hn hl with ⟨j, m, e1, e2, e3⟩ | ⟨e1, e2, e3⟩
    · have hl' : m.live = true := by rw [e3, Node.ren_live] at hl; exact hl
      obtain ⟨a, h1, h2, h3, h4⟩ := adr j m e2 hl'
      refine ⟨a, by rw [e1]; exact hat j a h1, h2, ?_, by rw [e3]; exact h4.back hat (all_get ok e2)⟩
      rcases h3 with ⟨k', n', g1, g2, g3, g4, g5⟩ | ⟨g1, g2⟩
      · obtain ⟨a', q1, _, q3, _⟩ := r.at_ k' n' g2 g3
        rw [g4] at q1; cases q1
        rw [e1, g5]; exact q3
      · exact .inr (r.fresh0 g2)
    · obtain ⟨a, h1, h2, h3, h4⟩ := r.at_ k n e3 hl
      obtain ⟨o, ho⟩ := h4.has
      have na := out k n a e1 e3 hl h1
      refine ⟨a, wk k a h1, ?_, h3, h4.move (Le.back l) ((r'.fr a o ho na).trans ho.symm)⟩
      cases q : wc.G a with
      | none => exact q
      | some u =>
        rcases r'.gn a u q with z | z | ⟨us, z⟩
        · have z : w.G a = some u := z
          rw [h2] at z; cases z
        · have z : H a = none := z
          rw [ho] at z; cases z
        · subst z
          have y := (r'.fr a o ho na).symm.trans (r'.ex a _ q)
          rw [y] at ho
          exact (NodeAt.noTup ho h4).elim
  · have h3 : (backW w wc ks).as[k1]? = some a := h3
    have h4 : (backW w wc ks).as[k2]? = some a := h4
    have inS : ∀ (k : Nat), k < S.length → (backW w wc ks).as[k]? = some a → w.as[k]? = some a := fun k hk h => by
      have h : (w.as ++ wc.as.drop ks.length)[k]? = some a := h
      rw [List.getElem?_append_left (by rw [r.len]; exact hk)] at h
      exact h
    have mixed : ∀ (k1 k2 j : Nat) (m n : Node), k1 = rho ks S.length j → T'[j]? = some m → m.live = true → (backW w wc ks).as[k1]? = some a → k2 ∉ ks → k2 < S.length → S[k2]? = some n → n.live = true → (backW w wc ks).as[k2]? = some a → k1 = k2 := fun k1 k2 j m n e1 e2 e3 e4 f1 f2 f3 f4 f5 => by
      obtain ⟨a', g1, g2, g3, g4⟩ := adr j m e2 e3
      have := hat j a' g1
      rw [← e1, e4] at this
      cases this
      have w2 := inS k2 f2 f5
      rcases g3 with ⟨k', n', q1, q2, q3, q4, q5⟩ | ⟨q1, q2⟩
      · have := r.inj k' k2 n' n a q2 q3 f3 f4 q4 w2
        rw [e1, q5]; exact this
      · obtain ⟨a'', z1, _, _, z4⟩ := r.at_ k2 n f3 f4
        rw [w2] at z1; cases z1
        obtain ⟨o, ho⟩ := z4.has
        rw [q2] at ho; cases ho
    rcases cls k1 n1 h1 l1 with ⟨j, m, e1, e2, e3⟩ | ⟨e1, e2, e3⟩
    · have l1' : m.live = true := by rw [e3, Node.ren_live] at l1; exact l1
      rcases cls k2 n2 h2 l2 with ⟨j', m', f1, f2, f3⟩ | ⟨f1, f2, f3⟩
      · have l2' : m'.live = true := by rw [f3, Node.ren_live] at l2; exact l2
        obtain ⟨a1, g1, _⟩ := adr j m e2 l1'
        obtain ⟨a2, g2, _⟩ := adr j' m' f2 l2'
        have q1 := hat j a1 g1
        have q2 := hat j' a2 g2
        rw [← e1, h3] at q1
        rw [← f1, h4] at q2
        cases q1; cases q2
        rw [e1, f1, r'.inj j j' m m' a e2 l1' f2 l2' g1 g2]
      · exact mixed k1 k2 j m n2 e1 e2 l1' h3 f1 f2 f3 l2 h4
    · rcases cls k2 n2 h2 l2 with ⟨j', m', f1, f2, f3⟩ | ⟨f1, f2, f3⟩
      · have l2' : m'.live = true := by rw [f3, Node.ren_live] at l2; exact l2
        exact (mixed k2 k1 j' m' n1 f1 f2 l2' h4 e1 e2 e3 l1 h3).symm
      · exact r.inj k1 k2 n1 n2 a e3 l1 f3 l2 (inS k1 e2 h3) (inS k2 f2 h4)
  · refine r'.fr a o (r.fr a o e hb) fun hm => ?_
    obtain ⟨j, k, n, g1, g2, g3, g4, g5, g6⟩ := p.inAs r hm
    rcases g6 with g6 | g6
    · exact hb (r.in0 g5 g6)
    · rw [g6] at e; cases e
  · obtain ⟨u, hu⟩ := r.th a o e
    exact r'.th a u hu
  · rcases r'.gn a o e with z | z | z
    · exact r.gn a o z
    · exact .inr (.inl (r.fresh0 z))
    · exact .inr (.inr z)
end
end DL
set_option Elab.async false
set_option linter.all false
set_option maxRecDepth 100000
set_option maxHeartbeats 4000000
namespace DL
open PySem PySem.Spec PyProof.Rows
open L2 hiding Takes passAt takes_of ps_raise PMk ps_try_as
open L2N (Takes passAt takes_of ps_raise PMk ps_try_as)

/-! ### D lists that are read -/
abbrev nl (ds : List D) : Node := .lst (ds.map .val)
inductive SeqD (S : Sto) : R → List D → Prop where
  | tup (ds : List D) : SeqD S (.val (.tup ds)) ds
  | lst (ds : List D) : SeqD S (.val (.lst ds)) ds
  | bor (ds : List D) : SeqD S (.bor ds) ds
  | loc {k : Nat} {ds : List D} : S[k]? = some (nl ds) → SeqD S (.loc k) ds
section
variable {K : PySem.W.Frag} {b : Base} {w : Wd} {S : Sto} {H : Hp}
theorem SqL.ofR {p : Addr} {vs : List V} (rp : Rp K b w S H) (h : SqL K w.G p vs ∨ b.B p = some (.lst vs)) : SqL K H p vs := h.elim (fun h => rp.ex.l h) fun h => .inl (.inl (rp.bw _ _ h))
theorem SeqD.sq {r : R} {ds : List D} {v : V} (h : SeqD S r ds) (rp : Rp K b w S H) (hv : IsR K b.B w r v) : ∃ p vs, v = .ref p ∧ (SqL K H p vs ∨ SqT K H p vs) ∧ IsL K w.G ds vs := by
  cases h with
  | tup =>
    obtain ⟨p, vs, e, h1, h2⟩ := hv
    exact ⟨p, vs, e, .inr (SqT.of (rp.ex _ _ h1)), h2⟩
  | lst =>
    obtain ⟨p, vs, e, h1, h2⟩ := hv
    exact ⟨p, vs, e, .inl (rp.ex.l h1), h2⟩
  | bor =>
    obtain ⟨p, vs, e, h1, h2⟩ := hv
    exact ⟨p, vs, e, .inl (SqL.ofR rp h1), h2⟩
  | loc h1 =>
    obtain ⟨a, h2, e⟩ := hv
    obtain ⟨a', h3, _, _, vs, h4, h5⟩ := rp.at_ _ _ h1 rfl
    rw [h2] at h3; cases h3
    exact ⟨a, vs, e, .inl (SqL.of h4), IsRs.vals.mp h5⟩
end

/-! ### arguments, calls of built-ins -/
section
variable {C : DC} {env : Nv} {S : Sto} {Ψ : R → Sto → Prop} {Θ : Bool → Sto → Prop} {Φ : List R → Sto → Prop} {pos p2 : Pos} {a b e : Expr} {es : List Expr} {x : Str}
theorem wa_nil (h : Φ [] S) : WA C [] env S Φ := fun X W b ok tk w σ H r en xc Q n => ⟨_, pa_nil, n w S H [] [] (Le.refl _) r rfl h⟩
theorem wa_cons (h : WE C e env S fun r S1 => WA C es env S1 fun rs S2 => Φ (r :: rs) S2) (hs : ∀ X : Cx, starEach (e :: es) X.env = (false, eval e X.env) :: starEach es X.env) : WA C (e :: es) env S Φ := fun X W bb ok tk w σ H rp en xc Q n => by
  refine ⟨_, pa_cons cE_ok cA_ok (hs X), ?_⟩
  refine h X W bb ok tk w σ H rp en xc _ fun w1 S1 H1 x v l1 r1 i1 k1 => ?_
  refine k1 X W bb ok tk w1 σ H1 r1 (en.mono l1) (xc.mono l1) _ fun w2 S2 H2 y u l2 r2 i2 k2 => ?_
  exact n w2 S2 H2 _ _ (l1.trans l2) r2 (.cons (i1.mono l2) i2) k2
def cCall (X : Cx) (f : Value) : List V → Hp → VK → Prop := fun vs H Q => ∃ r, CallR X f r ∧ r vs H Q
theorem cCall_ok {X : Cx} {f : Value} : CallR X f (cCall X f) := fun pins s σ H xs us Q I r ⟨_, p, h⟩ => p pins s σ H xs us Q I r h
def WC (C : DC) (f : Value) (rs : List R) (S : Sto) (Ψ : R → Sto → Prop) : Prop := ∀ X b, OkC X C → ∀ w H, Rp C.g.K b w S H → ∀ vs, IsRs C.g.K b.B w rs vs → ∀ Q, NCov C.g.K b w Ψ Q → cCall X f vs H Q
theorem we_callB {id : String} (hx : InG x C.gl) (hm : C.g.mg x = none) (hv : bootBuiltins x = some (.builtin id)) (h : WA C (e :: es) env S fun rs S1 => WC C (.builtin id) rs S1 Ψ)
    (he : ∀ X : Cx, starEach (e :: es) X.env = (false, eval e X.env) :: starEach es X.env) (hp : ∀ X : Cx, (backTo pos (starEach es X.env)).any (·.1) = false) : WE C (.Call (.Name x p2) (e :: es) [] pos) env S Ψ := fun X W bb ok tk w σ H rp en xc Q n => by
  obtain ⟨h1, h2⟩ := ok.gl _ hx.mem
  obtain ⟨h4, h5, h6⟩ := plain_of h2
  refine ⟨_, pe_callB cCall_ok h1 (by have := ok.gd; rw [← this] at hm; exact hm) hv cA_ok h6 h4 (he X) (hp X), ?_⟩
  refine h X W bb ok tk w σ H rp en xc _ fun w1 S1 H1 rs vs l1 r1 i1 k1 => ?_
  exact k1 X bb ok w1 H1 r1 vs i1 Q (n.mono l1)
theorem we_callT {T : String} (hx : InG x C.gl) (hm : C.g.mg x = none) (hv : bootBuiltins x = some (.type T)) (h : WA C (e :: es) env S fun rs S1 => WC C (.type T) rs S1 Ψ)
    (he : ∀ X : Cx, starEach (e :: es) X.env = (false, eval e X.env) :: starEach es X.env) (hp : ∀ X : Cx, (backTo pos (starEach es X.env)).any (·.1) = false) : WE C (.Call (.Name x p2) (e :: es) [] pos) env S Ψ := fun X W bb ok tk w σ H rp en xc Q n => by
  obtain ⟨h1, h2⟩ := ok.gl _ hx.mem
  obtain ⟨h4, h5, h6⟩ := plain_of h2
  refine ⟨_, pe_callTy cCall_ok h1 (by have := ok.gd; rw [← this] at hm; exact hm) hv cA_ok h6 h4 (he X) (hp X), ?_⟩
  refine h X W bb ok tk w σ H rp en xc _ fun w1 S1 H1 rs vs l1 r1 i1 k1 => ?_
  exact k1 X bb ok w1 H1 r1 vs i1 Q (n.mono l1)
theorem vals1' {K : PySem.W.Frag} {B : Hp} {w : Wd} {r : R} {vs : List V} (h : IsRs K B w [r] vs) : ∃ v, vs = [v] ∧ IsR K B w r v := by
  obtain ⟨v, t, e, h1, h2⟩ := h
  have h2 : t = [] := h2
  subst h2
  exact ⟨v, e, h1⟩
theorem vals2' {K : PySem.W.Frag} {B : Hp} {w : Wd} {r q : R} {vs : List V} (h : IsRs K B w [r, q] vs) : ∃ v u, vs = [v, u] ∧ IsR K B w r v ∧ IsR K B w q u := by
  obtain ⟨v, t, e, h1, h2⟩ := h
  obtain ⟨u, e2, h3⟩ := vals1' h2
  subst e2
  exact ⟨v, u, e, h1, h3⟩
section
variable {r : R} {ds : List D} {i j : Int} {s : Str} {q : Bool}
theorem wc_len (hd : SeqD S r ds) (h : Ψ (.val (.int ds.length)) S) : WC C (.builtin "len") [r] S Ψ := fun X b ok w H rp vs hv Q n => by
  obtain ⟨v, e, h1⟩ := vals1' hv
  subst e
  obtain ⟨p, vs, e, h2, h3⟩ := hd.sq rp h1
  subst e
  have gd := ok.gd
  refine ⟨_, call_len_seq, p, vs, rfl, (by have : X.K = C.g.K := congrArg Gd.K gd; rw [this]; exact h2), ?_⟩
  rw [← h3.length]
  exact n.at_ (d := .int ds.length) rp rfl h
theorem wc_len_str (hl : s.length ≤ sizeLine) (h : Ψ (.val (.int s.length)) S) : WC C (.builtin "len") [.val (.str s)] S Ψ := fun X b ok w H rp vs hv Q n => by
  obtain ⟨v, e, h1⟩ := vals1' hv
  subst e
  have h1 : v = .str s := h1
  subst h1
  exact ⟨_, call_len_str, s, rfl, hl, n.at_ (d := .int s.length) rp rfl h⟩
theorem wc_int (h : Ψ (.val (.int i)) S) : WC C (.type "int") [.val (.int i)] S Ψ := fun X b ok w H rp vs hv Q n => by
  obtain ⟨v, e, h1⟩ := vals1' hv
  subst e
  have h1 : v = .int i := h1
  subst h1
  exact ⟨_, call_int1, .inl ⟨i, rfl, n.at_ (d := .int i) rp rfl h⟩⟩
theorem wc_intB (h : Ψ (.val (.int (if q then 1 else 0))) S) : WC C (.type "int") [.val (.bl q)] S Ψ := fun X b ok w H rp vs hv Q n => by
  obtain ⟨v, e, h1⟩ := vals1' hv
  subst e
  have h1 : v = .bl q := h1
  subst h1
  exact ⟨_, call_int1, .inr ⟨q, rfl, n.at_ (d := .int (if q then 1 else 0)) rp rfl h⟩⟩
theorem wc_abs (h : Ψ (.val (.int (if i < 0 then -i else i))) S) : WC C (.builtin "abs") [.val (.int i)] S Ψ := fun X b ok w H rp vs hv Q n => by
  obtain ⟨v, e, h1⟩ := vals1' hv
  subst e
  have h1 : v = .int i := h1
  subst h1
  exact ⟨_, call_abs, i, rfl, n.at_ (d := .int (if i < 0 then -i else i)) rp rfl h⟩
theorem wc_min2 (hc : C.calm = true) (h : Ψ (.val (.int (if j < i then j else i))) S) : WC C (.builtin "min") [.val (.int i), .val (.int j)] S Ψ := fun X b ok w H rp vs hv Q n => by
  obtain ⟨v, u, e, h1, h2⟩ := vals2' hv
  subst e
  have h1 : v = .int i := h1
  have h2 : u = .int j := h2
  subst h1 h2
  exact ⟨_, call_min2 (ok.calm hc).1, i, j, rfl, n.at_ (d := .int (if j < i then j else i)) rp rfl h⟩
theorem wc_max2 (hc : C.calm = true) (h : Ψ (.val (.int (if j > i then j else i))) S) : WC C (.builtin "max") [.val (.int i), .val (.int j)] S Ψ := fun X b ok w H rp vs hv Q n => by
  obtain ⟨v, u, e, h1, h2⟩ := vals2' hv
  subst e
  have h1 : v = .int i := h1
  have h2 : u = .int j := h2
  subst h1 h2
  exact ⟨_, call_max2 (ok.calm hc).1, i, j, rfl, n.at_ (d := .int (if j > i then j else i)) rp rfl h⟩
/-- list(..): a new list that is not changed -/
theorem wc_listF (hd : SeqD S r ds) (h : Ψ (.val (.lst ds)) S) : WC C (.type "list") [r] S Ψ := fun X b ok w H rp vs hv Q n => by
  obtain ⟨v, e, h1⟩ := vals1' hv
  subst e
  obtain ⟨p, vs, e, h2, h3⟩ := hd.sq rp h1
  subst e
  have gk : X.K = C.g.K := congrArg Gd.K ok.gd
  refine ⟨_, call_list_of, p, vs, rfl, by rw [gk]; exact h2, fun l hl => ?_⟩
  obtain ⟨r2, l2⟩ := rp.known (o := .lst vs) hl
  exact n _ _ _ (.val (.lst ds)) _ l2 r2 ⟨l, vs, rfl, .inl (.inl upd_same), IsL.mono l2.g ds vs h3⟩ h
end
end
end DL
set_option Elab.async false
set_option linter.all false
set_option maxRecDepth 100000
set_option maxHeartbeats 4000000
namespace DL
open PySem PySem.Spec PyProof.Rows
open L2 hiding Takes passAt takes_of ps_raise PMk ps_try_as
open L2N (Takes passAt takes_of ps_raise PMk ps_try_as)
section
variable {C : DC} {env : Nv} {S : Sto} {Ψ : R → Sto → Prop} {Θ : Bool → Sto → Prop} {Φ : List R → Sto → Prop} {pos p2 : Pos} {a b e : Expr} {es : List Expr} {x : Str}
theorem OkC.K {X : Cx} (ok : OkC X C) : X.K = C.g.K := congrArg Gd.K ok.gd
theorem OkC.mg {X : Cx} (ok : OkC X C) : X.mg = C.g.mg := congrArg Gd.mg ok.gd

/-! ### displays -/
def unv : List R → Option (List D)
  | [] => some []
  | .val d :: rs => (unv rs).map (d :: ·)
  | _ => none
theorem unv_ok : ∀ {rs : List R} {ds : List D}, unv rs = some ds → rs = ds.map .val
  | [], ds, h => by cases h; rfl
  | .val d :: rs, ds, h => by
    have h : (unv rs).map (d :: ·) = some ds := h
    cases q : unv rs with
    | none => rw [q] at h; cases h
    | some t => rw [q] at h; cases h; rw [unv_ok q]; rfl
  | .loc _ :: _, _, h => by cases h
  | .bor _ :: _, _, h => by cases h
theorem we_tup {k : Nat} (h : WA C es env S fun rs S1 => ∃ ds, unv rs = some ds ∧ ds.length ≤ sizeLine ∧ Ψ (.val (.tup ds)) S1) : WE C (.Tuple es k pos) env S Ψ := fun X W bb ok tk w σ H rp en xc Q n => by
  refine ⟨_, pe_tup cA_ok, ?_⟩
  refine h X W bb ok tk w σ H rp en xc _ fun w1 S1 H1 rs vs l1 r1 i1 ⟨ds, e, hl, k1⟩ => ?_
  rw [unv_ok e] at i1
  have i1 := IsRs.vals.mp i1
  refine ⟨by rw [← i1.length]; exact hl, fun p hp => ?_⟩
  obtain ⟨r2, l2⟩ := r1.known (o := .tup vs) hp
  exact n _ _ _ (.val (.tup ds)) _ (l1.trans l2) r2 ⟨p, vs, rfl, upd_same, IsL.mono l2.g ds vs i1⟩ k1
/-- a list display that nobody changes -/
theorem we_lstF (h : WA C es env S fun rs S1 => ∃ ds, unv rs = some ds ∧ ds.length ≤ sizeLine ∧ Ψ (.val (.lst ds)) S1) : WE C (.List es pos) env S Ψ := fun X W bb ok tk w σ H rp en xc Q n => by
  refine ⟨_, pe_lst cA_ok, ?_⟩
  refine h X W bb ok tk w σ H rp en xc _ fun w1 S1 H1 rs vs l1 r1 i1 ⟨ds, e, hl, k1⟩ => ?_
  rw [unv_ok e] at i1
  have i1 := IsRs.vals.mp i1
  refine ⟨by rw [← i1.length]; exact hl, fun p hp => ?_⟩
  obtain ⟨r2, l2⟩ := r1.known (o := .lst vs) hp
  exact n _ _ _ (.val (.lst ds)) _ (l1.trans l2) r2 ⟨p, vs, rfl, .inl (.inl upd_same), IsL.mono l2.g ds vs i1⟩ k1
theorem loc_new {K : PySem.W.Frag} {B : Hp} {b : Base} {w : Wd} {S : Sto} {H : Hp} (rp : Rp K b w S H) (l : Addr) : IsR K B ⟨w.G, w.as ++ [l]⟩ (.loc S.length) (.ref l) := ⟨l, by show (w.as ++ [l])[S.length]? = some l; rw [← rp.len]; simp, rfl⟩
/-- a list display, to be changed -/
theorem we_lstN (h : WA C es env S fun rs S1 => ∃ ds, unv rs = some ds ∧ ds.length ≤ sizeLine ∧ Ψ (.loc S1.length) (S1 ++ [nl ds])) : WE C (.List es pos) env S Ψ := fun X W bb ok tk w σ H rp en xc Q n => by
  refine ⟨_, pe_lst cA_ok, ?_⟩
  refine h X W bb ok tk w σ H rp en xc _ fun w1 S1 H1 rs vs l1 r1 i1 ⟨ds, e, hl, k1⟩ => ?_
  rw [unv_ok e] at i1
  have i2 := IsRs.vals.mp i1
  refine ⟨by rw [← i2.length]; exact hl, fun p hp => ?_⟩
  obtain ⟨r2, l2⟩ := r1.alloc (n := nl ds) hp ⟨vs, upd_same, IsRs.vals.mpr (show IsL C.g.K w1.G ds vs from i2)⟩
  exact n _ _ _ (.loc S1.length) _ (l1.trans l2) r2 (loc_new r1 p) k1

/-! ### subscripts -/
def cIx (X : Cx) : R2 := fun x y H Q => ∃ r, IxR X r ∧ r x y H Q
theorem cIx_ok {X : Cx} : IxR X (cIx X) := fun value slice pins s σ H x y v u Q I rx ry ⟨_, p, h⟩ => p value slice pins s σ H x y v u Q I rx ry h
def WIx (C : DC) (x y : R) (S : Sto) (Ψ : R → Sto → Prop) : Prop := ∀ X b, OkC X C → ∀ w H, Rp C.g.K b w S H → ∀ v u, IsR C.g.K b.B w x v → IsR C.g.K b.B w y u → ∀ Q, NCov C.g.K b w Ψ Q → cIx X v u H Q
theorem we_ix (h : WE C a env S fun x S1 => WE C b env S1 fun y S2 => WIx C x y S2 Ψ) (hs : PlainIx b) : WE C (.Subscript a b pos) env S Ψ := fun X W bb ok tk w σ H rp en xc Q n => by
  refine ⟨_, pe_ix cIx_ok cE_ok cE_ok hs, ?_⟩
  refine h X W bb ok tk w σ H rp en xc _ fun w1 S1 H1 x v l1 r1 i1 k1 => ?_
  refine k1 X W bb ok tk w1 σ H1 r1 (en.mono l1) (xc.mono l1) _ fun w2 S2 H2 y u l2 r2 i2 k2 => ?_
  exact k2 X bb ok w2 H2 r2 v u (i1.mono l2) i2 Q (n.mono (l1.trans l2))
theorem atI_map {ds : List D} {vs : List V} {K : PySem.W.Frag} {G : Hp} {i : Int} {d : D} (h : IsL K G ds vs) (e : atI ds i = some d) : ∃ v, atI vs i = some v ∧ Is K G d v := by
  unfold atI at e ⊢
  rw [← h.length]
  cases q : ixN ds.length i with
  | none => rw [q] at e; cases e
  | some j =>
    rw [q] at e
    have e : ds[j]? = some d := e
    obtain ⟨v, h1, h2⟩ := h.get e
    exact ⟨v, h1, h2⟩
theorem wix_seq {r : R} {ds : List D} {i : Int} {d : D} (hd : SeqD S r ds) (hi : atI ds i = some d) (h : Ψ (.val d) S) : WIx C r (.val (.int i)) S Ψ := fun X b ok w H rp v u hv hu Q n => by
  have hu : u = .int i := hu
  subst hu
  obtain ⟨p, vs, e, h2, h3⟩ := hd.sq rp hv
  subst e
  obtain ⟨v, h4, h5⟩ := atI_map h3 hi
  refine ⟨_, ix_seq, ?_⟩
  rcases h2 with h2 | h2
  · exact .inl ⟨p, vs, i, v, rfl, rfl, by rw [ok.K]; exact h2, h4, n.at_ rp h5 h⟩
  · exact .inr (.inl ⟨p, vs, i, v, rfl, rfl, by rw [ok.K]; exact h2, h4, n.at_ rp h5 h⟩)
theorem wix_str {s : Str} {i : Int} {c : Nat} (hl : s.length ≤ sizeLine) (hi : atI s.cps.toList i = some c) (h : Ψ (.val (.str ⟨#[c]⟩)) S) : WIx C (.val (.str s)) (.val (.int i)) S Ψ := fun X b ok w H rp v u hv hu Q n => by
  have hu : u = .int i := hu
  have hv : v = .str s := hv
  subst hu hv
  exact ⟨_, ix_str, s, i, c, rfl, rfl, hl, hi, n.at_ (d := .str ⟨#[c]⟩) rp rfl h⟩

/-! ### equality -/
def pd : D → PyData
  | .non => .none
  | .bl b => .bool b
  | .int i => .int i
  | .str s => .str s
  | .tup ds => .tuple (pdL ds)
  | .lst ds => .list (pdL ds)
  | _ => .dict []
where pdL : List D → List PyData
  | [] => []
  | d :: ds => pd d :: pdL ds
abbrev pdL := pd.pdL
def eqs : D → Bool
  | .non => true
  | .bl _ => true
  | .int _ => true
  | .str s => PyData.canLay0 (.str s)
  | .tup ds => eqsL ds
  | .lst ds => eqsL ds
  | _ => false
where eqsL : List D → Bool
  | [] => true
  | d :: ds => eqs d && eqsL ds
abbrev eqsL := eqs.eqsL
mutual
theorem eqs_lay : ∀ d : D, eqs d = true → (pd d).canLay0 = true
  | .non, _ => rfl
  | .bl _, _ => rfl
  | .int _, _ => rfl
  | .str _, h => h
  | .tup ds, h => by
    show PyData.canLayAll0 (pdL ds) = true
    exact eqsL_lay ds h
  | .lst ds, h => by
    show PyData.canLayAll0 (pdL ds) = true
    exact eqsL_lay ds h
  | .dct _ _, h => by cases h
  | .dcT _ _, h => by cases h
  | .ins _ _ _, h => by cases h
  | .exc _ _ _ _ _, h => by cases h
  | .opq _, h => by cases h
theorem eqsL_lay : ∀ ds : List D, eqsL ds = true → PyData.canLayAll0 (pdL ds) = true
  | [], _ => rfl
  | d :: ds, h => by
    obtain ⟨h1, h2⟩ := Bool.and_eq_true_iff.mp (show (eqs d && eqsL ds) = true from h)
    show (PyData.canLay0 (pd d) && PyData.canLayAll0 (pdL ds)) = true
    rw [eqs_lay d h1, eqsL_lay ds h2]; rfl
theorem pd_is {K : PySem.W.Frag} {G H : Hp} (e : Ex G H) : ∀ (d : D) (v : V), eqs d = true → Is K G d v → Dp K H v (pd d)
  | .non, _, _, h => by have h : _ = _ := h; subst h; exact .non
  | .bl _, _, _, h => by have h : _ = _ := h; subst h; exact .bl _
  | .int _, _, _, h => by have h : _ = _ := h; subst h; exact .int _
  | .str _, _, _, h => by have h : _ = _ := h; subst h; exact .str _
  | .tup ds, _, q, ⟨p, vs, h1, h2, h3⟩ => by subst h1; exact .tup (SqT.of (e _ _ h2)) (pdL_is e ds vs q h3)
  | .lst ds, _, q, ⟨p, vs, h1, h2, h3⟩ => by subst h1; exact .lst (e.l h2) (pdL_is e ds vs q h3)
  | .dct _ _, _, h, _ => by cases h
  | .dcT _ _, _, h, _ => by cases h
  | .ins _ _ _, _, h, _ => by cases h
  | .exc _ _ _ _ _, _, h, _ => by cases h
  | .opq _, _, h, _ => by cases h
theorem pdL_is {K : PySem.W.Frag} {G H : Hp} (e : Ex G H) : ∀ (d : List D) (v : List V), eqsL d = true → IsL K G d v → DpAll K H v (pdL d)
  | [], _, _, h => by have h : _ = _ := h; subst h; exact .nil
  | d :: ds, _, q, ⟨v, r, h1, h2, h3⟩ => by
    obtain ⟨q1, q2⟩ := Bool.and_eq_true_iff.mp (show (eqs d && eqsL ds) = true from q)
    subst h1
    exact .cons (pd_is e d v q1 h2) (pdL_is e ds r q2 h3)
end
/-- == of data -/
def eqD (x y : D) : Bool := PyData.eqv (pd x) (pd y)
theorem shaped_of {d : D} (h : eqs d = true) (hd : (pd d).depth ≤ 64) : SeqAt.shaped (pd d) = true := by
  unfold SeqAt.shaped
  rw [eqs_lay d h, decide_eq_true hd]; rfl
inductive DatR (S : Sto) : R → D → Prop where
  | val (d : D) : DatR S (.val d) d
  | bor (ds : List D) : DatR S (.bor ds) (.lst ds)
  | loc {k : Nat} {ds : List D} : S[k]? = some (nl ds) → DatR S (.loc k) (.lst ds)
theorem DatR.dp {K : PySem.W.Frag} {b : Base} {w : Wd} {H : Hp} {r : R} {d : D} {v : V} (h : DatR S r d) (rp : Rp K b w S H) (q : eqs d = true) (hv : IsR K b.B w r v) : Dp K H v (pd d) := by
  cases h with
  | val => exact pd_is rp.ex d v q hv
  | bor =>
    obtain ⟨p, vs, e, h1, h2⟩ := hv
    subst e
    exact .lst (SqL.ofR rp h1) (pdL_is rp.ex _ _ q h2)
  | loc h1 =>
    obtain ⟨a, h2, e⟩ := hv
    subst e
    obtain ⟨a', h3, _, _, vs, h4, h5⟩ := rp.at_ _ _ h1 rfl
    rw [h2] at h3; cases h3
    have h5 : IsL K w.G _ vs := IsRs.vals.mp h5
    exact .lst (SqL.of h4) (pdL_is rp.ex _ _ q h5)
theorem wo_eqD {x y : R} {d e : D} (h1 : DatR S x d) (h2 : DatR S y e) (q1 : eqs d = true) (q2 : eqs e = true) (z1 : (pd d).depth ≤ 64) (z2 : (pd e).depth ≤ 64) (h : Ψ (.val (.bl (eqD d e))) S) : WO C (compareOp .Eq) x y S Ψ := fun X b ok w H rp v u hv hu Q n => by
  have g1 := h1.dp rp q1 hv
  have g2 := h2.dp rp q2 hu
  rw [← ok.K] at g1 g2
  exact ⟨_, op_eqD (Nat.lt_of_le_of_lt (Nat.add_le_add_left (by decide) _) ok.un), pd d, pd e, g1, g2, shaped_of q1 z1, shaped_of q2 z2, n.at_ (d := .bl (eqD d e)) rp rfl h⟩
section
variable {i j : Int} {s t : Str} {p q : Bool}
theorem wo_scal {x y : D} {v u : V} {r : Bool} (hx : ∀ G, ∀ v', Is C.g.K G x v' → v' = v) (hy : ∀ G, ∀ v', Is C.g.K G y v' → v' = u) (hs : scal v u = true) (hr : decide (v = u) = r) (h : Ψ (.val (.bl r)) S) : WO C (compareOp .Eq) (.val x) (.val y) S Ψ := fun X b ok w H rp v' u' hv hu Q n => by
  have e1 := hx _ _ hv
  have e2 := hy _ _ hu
  subst e1 e2
  exact ⟨_, op_eq, hs, n.at_ (d := .bl r) rp (by show V.bl _ = _; rw [hr]) h⟩
theorem wo_scalN {x y : D} {v u : V} {r : Bool} (hx : ∀ G, ∀ v', Is C.g.K G x v' → v' = v) (hy : ∀ G, ∀ v', Is C.g.K G y v' → v' = u) (hs : scal v u = true) (hr : (!decide (v = u)) = r) (h : Ψ (.val (.bl r)) S) : WO C (compareOp .NotEq) (.val x) (.val y) S Ψ := fun X b ok w H rp v' u' hv hu Q n => by
  have e1 := hx _ _ hv
  have e2 := hy _ _ hu
  subst e1 e2
  exact ⟨_, op_ne, hs, n.at_ (d := .bl r) rp (by show V.bl _ = _; rw [hr]) h⟩
theorem wo_eqI (h : Ψ (.val (.bl (decide (i = j)))) S) : WO C (compareOp .Eq) (.val (.int i)) (.val (.int j)) S Ψ := wo_scal (v := .int i) (u := .int j) (fun _ _ h => h) (fun _ _ h => h) rfl (by rw [dec_int]; exact Bool.beq_eq_decide_eq _ _) h
theorem wo_neI (h : Ψ (.val (.bl (!decide (i = j)))) S) : WO C (compareOp .NotEq) (.val (.int i)) (.val (.int j)) S Ψ := wo_scalN (v := .int i) (u := .int j) (fun _ _ h => h) (fun _ _ h => h) rfl (by rw [dec_int, Bool.beq_eq_decide_eq]) h
theorem wo_eqS (h : Ψ (.val (.bl (decide (s = t)))) S) : WO C (compareOp .Eq) (.val (.str s)) (.val (.str t)) S Ψ := wo_scal (v := .str s) (u := .str t) (fun _ _ h => h) (fun _ _ h => h) rfl (by simp) h
theorem wo_neS (h : Ψ (.val (.bl (!decide (s = t)))) S) : WO C (compareOp .NotEq) (.val (.str s)) (.val (.str t)) S Ψ := wo_scalN (v := .str s) (u := .str t) (fun _ _ h => h) (fun _ _ h => h) rfl (by simp) h
theorem wo_eqB (h : Ψ (.val (.bl (p == q))) S) : WO C (compareOp .Eq) (.val (.bl p)) (.val (.bl q)) S Ψ := wo_scal (v := .bl p) (u := .bl q) (fun _ _ h => h) (fun _ _ h => h) rfl (by cases p <;> cases q <;> rfl) h
end
/-! ### is None, is True -/
def isNonR : R → Bool
  | .val .non => true
  | _ => false
theorem isNon_ok {K : PySem.W.Frag} {B : Hp} {w : Wd} {r : R} {v : V} (hq : ∀ u, r ≠ .val (.opq u)) (h : IsR K B w r v) : decide (v = .non) = isNonR r := by
  cases r with
  | val d =>
    cases d with
    | non => have h : v = _ := h; subst h; rfl
    | bl _ => have h : v = _ := h; subst h; rfl
    | int _ => have h : v = _ := h; subst h; rfl
    | str _ => have h : v = _ := h; subst h; rfl
    | opq u => exact absurd rfl (hq u)
    | tup _ => obtain ⟨p, vs, h1, _⟩ := h; subst h1; rfl
    | lst _ => obtain ⟨p, vs, h1, _⟩ := h; subst h1; rfl
    | dct _ _ => obtain ⟨p, vs, h1, _⟩ := h; subst h1; rfl
    | dcT _ _ => obtain ⟨p, vs, h1, _⟩ := h; subst h1; rfl
    | ins _ _ _ => obtain ⟨p, dx, vs, h1, _⟩ := h; subst h1; rfl
    | exc _ _ _ _ _ => obtain ⟨h1, _⟩ := h; subst h1; rfl
  | loc k => obtain ⟨a, _, h1⟩ := h; subst h1; rfl
  | bor ds => obtain ⟨p, vs, h1, _⟩ := h; subst h1; rfl
theorem wo_isN {r : R} (hq : ∀ u, r ≠ .val (.opq u)) (h : Ψ (.val (.bl (isNonR r))) S) : WO C (compareOp .Is) r (.val .non) S Ψ := fun X b ok w H rp v u hv hu Q n => by
  have hu : u = _ := hu
  subst hu
  exact ⟨_, op_isN, rfl, n.at_ (d := .bl (isNonR r)) rp (by show V.bl _ = _; rw [isNon_ok hq hv]) h⟩
theorem wo_notN {r : R} (hq : ∀ u, r ≠ .val (.opq u)) (h : Ψ (.val (.bl (!isNonR r))) S) : WO C (compareOp .IsNot) r (.val .non) S Ψ := fun X b ok w H rp v u hv hu Q n => by
  have hu : u = _ := hu
  subst hu
  exact ⟨_, op_notN, rfl, n.at_ (d := .bl (!isNonR r)) rp (by show V.bl _ = _; rw [isNon_ok hq hv]) h⟩
end
end DL
set_option Elab.async false
set_option linter.all false
set_option maxRecDepth 100000
set_option maxHeartbeats 4000000
namespace DL
open PySem PySem.Spec PyProof.Rows
open L2 hiding Takes passAt takes_of ps_raise PMk ps_try_as
open L2N (Takes passAt takes_of ps_raise PMk ps_try_as)
section
variable {C : DC} {env : Nv} {S : Sto} {Ψ : R → Sto → Prop} {Θ : Bool → Sto → Prop} {Φ : List R → Sto → Prop} {E : Nd} {pos p2 p3 : Pos} {a b c e : Expr} {es rest : List Expr} {x : Str}

/-! ### tests -/
/-- an expression whose value is a bool -/
theorem wt_val (h : WE C e env S (asB Θ)) (he : ∀ X : Cx, ∀ whole, isTrue e X.env whole = (do let v ← whole; standAt e.pos; holding [v] (truthy v))) : WT C e env S Θ := fun X W bb ok tk w σ H rp en xc Q n => by
  refine ⟨_, pt_val cE_ok (he X), ?_⟩
  refine h X W bb ok tk w σ H rp en xc _ fun w1 S1 H1 z v l1 r1 i1 ⟨k, e, k1⟩ => ?_
  subst e
  exact ⟨k, i1, n w1 S1 H1 k l1 r1 k1⟩
theorem wt_not (h : WT C e env S fun k S1 => Θ (!k) S1) : WT C (.UnaryOp .Not e pos) env S Θ := fun X W bb ok tk w σ H rp en xc Q n => by
  refine ⟨_, pt_not cT_ok, ?_⟩
  exact h X W bb ok tk w σ H rp en xc _ fun w1 S1 H1 k l1 r1 k1 => n w1 S1 H1 _ l1 r1 k1
def WTo (C : DC) (e : Expr) (env : Nv) (S : Sto) (Θ : Bool → Sto → Prop) : Prop := ∀ X W b, OkC X C → Takes X W → ∀ w σ H, Rp C.g.K b w S H → EnvIs C.g.K b w env σ → XCov C.g.K b w C.n0 C.xi W → ∀ Q, TCov C.g.K b w Θ Q → ∃ t, PW X e t ∧ t σ H Q
def cW (X : Cx) (e : Expr) : TT := fun σ H Q => ∃ t, PW X e t ∧ t σ H Q
theorem cW_ok {X : Cx} {e : Expr} : PW X e (cW X e) := ⟨fun wh pins s σ H Q I ⟨_, p, h⟩ => p.run wh pins s σ H Q I h⟩
theorem wt_of (h : WTo C e env S Θ) : WT C e env S Θ := fun X W bb ok tk w σ H rp en xc Q n => by
  obtain ⟨t, p, q⟩ := h X W bb ok tk w σ H rp en xc Q n
  exact ⟨t, p.pt, q⟩
theorem wto_and1 (h : WT C a env S Θ) : WTo C (.BoolOp .And [a] pos) env S Θ := fun X W bb ok tk w σ H rp en xc Q n => ⟨_, pw_and1 cT_ok, h X W bb ok tk w σ H rp en xc Q n⟩
theorem wto_or1 (h : WT C a env S Θ) : WTo C (.BoolOp .Or [a] pos) env S Θ := fun X W bb ok tk w σ H rp en xc Q n => ⟨_, pw_or1 cT_ok, h X W bb ok tk w σ H rp en xc Q n⟩
theorem wto_and (h : WT C a env S fun k S1 => (k = true → WTo C (.BoolOp .And (b :: rest) pos) env S1 Θ) ∧ (k = false → Θ false S1)) : WTo C (.BoolOp .And (a :: b :: rest) pos) env S Θ := fun X W bb ok tk w σ H rp en xc Q n => by
  refine ⟨_, pw_and cT_ok cW_ok, ?_⟩
  refine h X W bb ok tk w σ H rp en xc _ fun w1 S1 H1 k l1 r1 k1 => ?_
  cases k with
  | true => exact iteT (k1.1 rfl X W bb ok tk w1 σ H1 r1 (en.mono l1) (xc.mono l1) Q (n.mono l1))
  | false => exact iteF (n w1 S1 H1 false l1 r1 (k1.2 rfl))
theorem wto_or (h : WT C a env S fun k S1 => (k = true → Θ true S1) ∧ (k = false → WTo C (.BoolOp .Or (b :: rest) pos) env S1 Θ)) : WTo C (.BoolOp .Or (a :: b :: rest) pos) env S Θ := fun X W bb ok tk w σ H rp en xc Q n => by
  refine ⟨_, pw_or cT_ok cW_ok, ?_⟩
  refine h X W bb ok tk w σ H rp en xc _ fun w1 S1 H1 k l1 r1 k1 => ?_
  cases k with
  | true => exact iteT (n w1 S1 H1 true l1 r1 (k1.1 rfl))
  | false => exact iteF (k1.2 rfl X W bb ok tk w1 σ H1 r1 (en.mono l1) (xc.mono l1) Q (n.mono l1))
/-- and, or, not as values: bools, but for the last -/
theorem we_one {op : BoolOp} (h : WE C a env S Ψ) : WE C (.BoolOp op [a] pos) env S Ψ := fun X W bb ok tk w σ H rp en xc Q n => ⟨_, pe_one cE_ok, h X W bb ok tk w σ H rp en xc Q n⟩
theorem we_and (h : WE C a env S (asB fun k S1 => (k = true → WE C (.BoolOp .And (b :: rest) pos) env S1 Ψ) ∧ (k = false → Ψ (.val (.bl false)) S1))) : WE C (.BoolOp .And (a :: b :: rest) pos) env S Ψ := fun X W bb ok tk w σ H rp en xc Q n => by
  refine ⟨_, pe_and cE_ok cE_ok, ?_⟩
  refine h X W bb ok tk w σ H rp en xc _ fun w1 S1 H1 z v l1 r1 i1 ⟨k, e, k1⟩ => ?_
  subst e
  refine ⟨k, i1, ?_⟩
  cases k with
  | true => exact iteT (k1.1 rfl X W bb ok tk w1 σ H1 r1 (en.mono l1) (xc.mono l1) Q (n.mono l1))
  | false => exact iteF (n w1 S1 H1 (.val (.bl false)) _ l1 r1 rfl (k1.2 rfl))
theorem we_or (h : WE C a env S (asB fun k S1 => (k = true → Ψ (.val (.bl true)) S1) ∧ (k = false → WE C (.BoolOp .Or (b :: rest) pos) env S1 Ψ))) : WE C (.BoolOp .Or (a :: b :: rest) pos) env S Ψ := fun X W bb ok tk w σ H rp en xc Q n => by
  refine ⟨_, pe_or cE_ok cE_ok, ?_⟩
  refine h X W bb ok tk w σ H rp en xc _ fun w1 S1 H1 z v l1 r1 i1 ⟨k, e, k1⟩ => ?_
  subst e
  refine ⟨k, i1, ?_⟩
  cases k with
  | true => exact iteT (n w1 S1 H1 (.val (.bl true)) _ l1 r1 rfl (k1.1 rfl))
  | false => exact iteF (k1.2 rfl X W bb ok tk w1 σ H1 r1 (en.mono l1) (xc.mono l1) Q (n.mono l1))
theorem we_not (h : WE C a env S (asB fun k S1 => Ψ (.val (.bl (!k))) S1)) : WE C (.UnaryOp .Not a pos) env S Ψ := fun X W bb ok tk w σ H rp en xc Q n => by
  refine ⟨_, pe_not cE_ok, ?_⟩
  refine h X W bb ok tk w σ H rp en xc _ fun w1 S1 H1 z v l1 r1 i1 ⟨k, e, k1⟩ => ?_
  subst e
  exact ⟨k, i1, n w1 S1 H1 (.val (.bl (!k))) _ l1 r1 rfl k1⟩
theorem we_ifx (h : WT C c env S fun k S1 => (k = true → WE C a env S1 Ψ) ∧ (k = false → WE C b env S1 Ψ)) : WE C (.IfExp c a b pos) env S Ψ := fun X W bb ok tk w σ H rp en xc Q n => by
  refine ⟨_, pe_ifExp cT_ok cE_ok cE_ok, ?_⟩
  refine h X W bb ok tk w σ H rp en xc _ fun w1 S1 H1 k l1 r1 k1 => ?_
  cases k with
  | true => exact iteT (k1.1 rfl X W bb ok tk w1 σ H1 r1 (en.mono l1) (xc.mono l1) Q (n.mono l1))
  | false => exact iteF (k1.2 rfl X W bb ok tk w1 σ H1 r1 (en.mono l1) (xc.mono l1) Q (n.mono l1))
/-- a < b < c -/
theorem we_chain {op op' : CmpOp} (h : WE C a env S fun x S1 => WE C b env S1 fun y S2 => WO C (compareOp op) x y S2 (asB fun k S3 => (k = true → WE C c env S3 fun z S4 => WO C (compareOp op') y z S4 Ψ) ∧ (k = false → Ψ (.val (.bl false)) S3)))
    (hm : lastMarks [op, op'] [b, c] = false) : WE C (.Compare a [op, op'] [b, c] pos) env S Ψ := fun X W bb ok tk w σ H rp en xc Q n => by
  refine ⟨_, pe_chain cOp_ok cOp_ok cE_ok cE_ok cE_ok hm, ?_⟩
  refine h X W bb ok tk w σ H rp en xc _ fun w1 S1 H1 x v l1 r1 i1 k1 => ?_
  refine k1 X W bb ok tk w1 σ H1 r1 (en.mono l1) (xc.mono l1) _ fun w2 S2 H2 y u l2 r2 i2 k2 => ?_
  refine k2 X bb ok w2 H2 r2 v u (i1.mono l2) i2 _ fun w3 S3 H3 z t l3 r3 i3 ⟨k, e, k3⟩ => ?_
  subst e
  refine ⟨k, i3, ?_⟩
  cases k with
  | true =>
    refine iteT ?_
    refine k3.1 rfl X W bb ok tk w3 σ H3 r3 (en.mono (l1.trans (l2.trans l3))) (xc.mono (l1.trans (l2.trans l3))) _ fun w4 S4 H4 z t' l4 r4 i4 k4 => ?_
    exact k4 X bb ok w4 H4 r4 u t' (i2.mono (l3.trans l4)) i4 Q (n.mono (l1.trans (l2.trans (l3.trans l4))))
  | false => exact iteF (n w3 S3 H3 (.val (.bl false)) _ (l1.trans (l2.trans l3)) r3 rfl (k3.2 rfl))
theorem wt_chain {op op' : CmpOp} (h : WE C a env S fun x S1 => WE C b env S1 fun y S2 => WO C (compareOp op) x y S2 (asB fun k S3 => (k = true → WE C c env S3 fun z S4 => WO C (compareOp op') y z S4 (asB Θ)) ∧ (k = false → Θ false S3)))
    (hm : lastMarks [op, op'] [b, c] = false) : WT C (.Compare a [op, op'] [b, c] pos) env S Θ := fun X W bb ok tk w σ H rp en xc Q n => by
  refine ⟨_, pt_chain cOp_ok cOp_ok cE_ok cE_ok cE_ok hm, ?_⟩
  refine h X W bb ok tk w σ H rp en xc _ fun w1 S1 H1 x v l1 r1 i1 k1 => ?_
  refine k1 X W bb ok tk w1 σ H1 r1 (en.mono l1) (xc.mono l1) _ fun w2 S2 H2 y u l2 r2 i2 k2 => ?_
  refine k2 X bb ok w2 H2 r2 v u (i1.mono l2) i2 _ fun w3 S3 H3 z t l3 r3 i3 ⟨k, e, k3⟩ => ?_
  subst e
  refine ⟨k, i3, ?_⟩
  cases k with
  | true =>
    refine iteT ?_
    refine k3.1 rfl X W bb ok tk w3 σ H3 r3 (en.mono (l1.trans (l2.trans l3))) (xc.mono (l1.trans (l2.trans l3))) _ fun w4 S4 H4 z t' l4 r4 i4 k4 => ?_
    refine k4 X bb ok w4 H4 r4 u t' (i2.mono (l3.trans l4)) i4 _ fun w5 S5 H5 z5 t5 l5 r5 i5 ⟨k', e', k5⟩ => ?_
    subst e'
    exact ⟨k', i5, n w5 S5 H5 k' (l1.trans (l2.trans (l3.trans (l4.trans l5)))) r5 k5⟩
  | false => exact iteF ⟨false, rfl, n w3 S3 H3 false (l1.trans (l2.trans l3)) r3 (k3.2 rfl)⟩
theorem we_neg (h : WE C a env S fun z S1 => ∃ i, z = .val (.int i) ∧ Ψ (.val (.int (-i))) S1) : WE C (.UnaryOp .USub a pos) env S Ψ := fun X W bb ok tk w σ H rp en xc Q n => by
  refine ⟨_, pe_un un_neg cE_ok, ?_⟩
  refine h X W bb ok tk w σ H rp en xc _ fun w1 S1 H1 z v l1 r1 i1 ⟨i, e, k1⟩ => ?_
  subst e
  exact ⟨i, i1, n w1 S1 H1 (.val (.int (-i))) _ l1 r1 rfl k1⟩

/-! ### calls of the text's own defs -/
def FnC (C : DC) (s : DSp) (rs : List R) (env : Nv) (S : Sto) (Ψ : R → Sto → Prop) : Prop :=
  ∃ ks T rs', PassS ks S T ∧ ArgsP S ks rs rs' ∧ s rs' T (fun r T' => Ψ (r.ren (rho ks S.length)) (backS ks S T')) (fun c fs ds T' => C.xi c fs ds env (backS ks S T'))
theorem FnC.run {s : DSp} {rs : List R} {W : WX} {bb : Base} {w : Wd} {σ : L2.St} {H : Hp} {vs : List V} {Q : VK} (h : FnC C s rs env S Ψ) (rp : Rp C.g.K bb w S H) (en : EnvIs C.g.K bb w env σ) (xc : XCov C.g.K bb w C.n0 C.xi W) (iv : IsRs C.g.K bb.B w rs vs) (n : NCov C.g.K bb w Ψ Q) :
    spD C.g.K s vs H Q (fun cls d H' => W cls d σ H') := by
  obtain ⟨ks, T, rs', p, ar, hs⟩ := h
  refine ⟨⟨w.G, asC w ks⟩, T, rs', _, _, rp.into p, ar.is rp p iv, hs, fun w' T' H' r v l r' hr o1 o2 hψ => ?_, fun w' T' H' c fs ds d xs l r' o2 hd hl hx hξ => ?_⟩
  · have hat : ∀ (j : Nat) (a : Addr), w'.as[j]? = some a → (backW w w' ks).as[rho ks S.length j]? = some a := fun j a h => back_at rp l (p.hk rp) h
    exact n (backW w w' ks) _ H' _ v (Le.back l) (rp.back p l r' o2) (hr.back hat o1) hψ
  · exact xc.2 (backW w w' ks) _ H' σ env c fs ds d xs ((Le.back l).n _) (rp.back p l r' o2) (en.mono (Le.back l)) hd hl hx hξ
theorem we_call {f : Addr} {k : Nat} {ps : List Str} {s : DSp} (G : FnD C.g k f ps s) (hx : InG x C.gl) (hm : C.g.mg x = some (.ref f)) (hk : k ≤ C.k) (hc : C.calm = true) (h : WA C (e :: es) env S fun rs S1 => FnC C s rs env S1 Ψ)
    (he : ∀ X : Cx, starEach (e :: es) X.env = (false, eval e X.env) :: starEach es X.env) (hp : ∀ X : Cx, (backTo pos (starEach es X.env)).any (·.1) = false) : WE C (.Call (.Name x p2) (e :: es) [] pos) env S Ψ := fun X W bb ok tk w σ H rp en xc Q n => by
  obtain ⟨g, cN, csc, vis, wr, gl, kk, calm, n0, xi, ho⟩ := C
  obtain ⟨h1, h2⟩ := ok.gl _ hx.mem
  have eg := ok.gd
  have eg : gdOf X = g := eg
  subst eg
  obtain ⟨⟨fd, F, B⟩, kp⟩ := G
  refine ⟨_, pe_callS F ((ok.calm hc).2.mono hk) h1 hm kp B (fun σ => passAt tk σ) cA_ok (plain_of h2).1 (he X) (hp X), ?_⟩
  refine h X W bb ok tk w σ H rp en xc _ fun w1 S1 H1 rs vs l1 r1 i1 k1 => ?_
  exact k1.run r1 (en.mono l1) (xc.mono l1) i1 (n.mono l1)
end
end DL
set_option Elab.async false
set_option linter.all false
set_option maxRecDepth 100000
set_option maxHeartbeats 4000000
namespace DL
open PySem PySem.Spec PyProof.Rows
open L2 hiding Takes passAt takes_of ps_raise PMk ps_try_as
open L2N (Takes passAt takes_of ps_raise PMk ps_try_as)

/-! ### forgetting: at a loop's turn, at a cut -/
def okE (n : Nat) : R → Bool
  | .loc k => decide (k < n)
  | _ => true
inductive EnvW (S : Sto) (n : Nat) : Nv → Nv → Prop where
  | nil : EnvW S n [] []
  | drop {x : Option R} {e e' : Nv} : EnvW S n e e' → EnvW S n (x :: e) (none :: e')
  | keep {r : R} {e e' : Nv} : okE n r = true → EnvW S n e e' → EnvW S n (some r :: e) (some r :: e')
  | fix {r : R} {d : D} {e e' : Nv} : Fz S n r d → EnvW S n e e' → EnvW S n (some r :: e) (some (.val d) :: e')
/-- I holds, once the objects from n on are gone or settled -/
def Wk (n0 : Nat) (I : Nv → Sto → Prop) : Nv → Sto → Prop := fun env S => ∃ n env', n0 ≤ n ∧ n ≤ S.length ∧ (S.take n).all (Node.okB n) = true ∧ EnvW S n env env' ∧ I env' (S.take n)
section
variable {K : PySem.W.Frag} {b : Base} {w : Wd} {S : Sto} {H : Hp}
theorem IsR.cutE {B : Hp} {n : Nat} : ∀ {r : R} {v : V}, okE n r = true → IsR K B w r v → IsR K B ⟨w.G, w.as.take n⟩ r v
  | .val _, _, _, h => h
  | .loc k, v, o, ⟨a, h, e⟩ => ⟨a, by
      show (w.as.take n)[k]? = some a
      rw [List.getElem?_take_of_lt (of_decide_eq_true o)]; exact h, e⟩
  | .bor _, _, o, h => h
theorem EnvW.is (rp : Rp K b w S H) {n : Nat} (hn : b.as0.length ≤ n) : ∀ {e e' : Nv} {σ : L2.St}, EnvW S n e e' → EnvIs K b w e σ → EnvIs K b ⟨gSet b w S n H, w.as.take n⟩ e' σ
  | _, _, _, .nil, h => ⟨h.1, fun i r e => by simp at e⟩
  | _, _, [], .drop _, h => by have := h.1; simp at this
  | _, _, [], .keep _ _, h => by have := h.1; simp at this
  | _, _, [], .fix _ _, h => by have := h.1; simp at this
  | _, _, v :: σ, .drop t, h => by
    have q := EnvW.is rp hn t (σ := σ) ⟨by simpa using h.1, fun i r e => by simpa using h.2 (i + 1) r (by simpa using e)⟩
    refine ⟨by simpa using q.1, fun i r e => ?_⟩
    cases i with
    | zero => simp at e
    | succ i => simpa using q.2 i r (by simpa using e)
  | _, _, v :: σ, .keep (r := r0) o t, h => by
    have q := EnvW.is rp hn t (σ := σ) ⟨by simpa using h.1, fun i r e => by simpa using h.2 (i + 1) r (by simpa using e)⟩
    refine ⟨by simpa using q.1, fun i r e => ?_⟩
    cases i with
    | zero =>
      simp at e; subst e
      obtain ⟨v', h1, h2⟩ := h.2 0 r0 (by simp)
      exact ⟨v', h1, (h2.cutE o).mono ⟨(gSet_ex rp n).1, [], by simp⟩⟩
    | succ i => simpa using q.2 i r (by simpa using e)
  | _, _, v :: σ, .fix (r := r0) (d := d) f t, h => by
    have q := EnvW.is rp hn t (σ := σ) ⟨by simpa using h.1, fun i r e => by simpa using h.2 (i + 1) r (by simpa using e)⟩
    refine ⟨by simpa using q.1, fun i r e => ?_⟩
    cases i with
    | zero =>
      simp at e; subst e
      obtain ⟨v', h1, h2⟩ := h.2 0 r0 (by simp)
      exact ⟨v', h1, Fz.is rp hn f v' h2⟩
    | succ i => simpa using q.2 i r (by simpa using e)
theorem Wk.use {w0 : Wd} {S0 : Sto} {I : Nv → Sto → Prop} {env : Nv} {σ : L2.St} (h : Wk S0.length I env S) (l0 : w0.as.length = S0.length) (hb : b.as0.length ≤ S0.length) (l : LeN S0.length w0 w) (rp : Rp K b w S H) (en : EnvIs K b w env σ) :
    ∃ w' S' env', Le w0 w' ∧ Rp K b w' S' H ∧ EnvIs K b w' env' σ ∧ I env' S' := by
  obtain ⟨n, env', h1, h2, h3, h4, h5⟩ := h
  have l := l.le (Nat.le_of_eq l0)
  refine ⟨⟨gSet b w S n H, w.as.take n⟩, S.take n, env', ⟨l.g.trans (gSet_ex rp n).1, ?_⟩, rp.settle h2 (by omega) h3, h4.is rp (by omega) en, h5⟩
  obtain ⟨t, e⟩ := l.a
  exact ⟨t.take (n - w0.as.length), by show w.as.take n = _; rw [e, List.take_append, List.take_of_length_le (by rw [l0]; exact h1)]⟩
end

/-! ### blocks and small statements -/
section
variable {C : DC} {env : Nv} {S : Sto} {Ψ : R → Sto → Prop} {Θ : Bool → Sto → Prop} {Φ : List R → Sto → Prop} {Ω : Nv → Sto → Prop} {E : Nd} {pos p2 p3 : Pos} {a b c e : Expr} {es rest : List Expr} {x : Str} {st : Stmt} {sts body els : List Stmt}
theorem wss_nil (h : E.nx env S) : WSs C [] env S E := fun X W bb ok tk w σ H rp en xc D n => ⟨_, pss_nil, n.nx w S H env σ (LeN.refl _ _) rp en h⟩
theorem SCov.seq {K : PySem.W.Frag} {b : Base} {w : Wd} {n0 : Nat} {D : Ends} {ω : Nv → Sto → Prop} {Q : L2.St → Hp → Prop} (n : SCov K b w n0 E D) (h : ECov K b w n0 ω Q) : SCov K b w n0 { E with nx := ω } { D with nx := Q } := ⟨h, n.rt, n.bk, n.ct⟩
theorem wss_cons (h : WS C st env S { E with nx := fun env' S' => WSs C sts env' S' E }) : WSs C (st :: sts) env S E := fun X W bb ok tk w σ H rp en xc D n => by
  refine ⟨_, pss_cons cS_ok cSs_ok, ?_⟩
  exact h X W bb ok tk w σ H rp en xc _ (n.seq fun w1 S1 H1 env1 σ1 l1 r1 e1 k1 => k1 X W bb ok tk w1 σ1 H1 r1 e1 (xc.monoN l1) D (n.monoN l1))
theorem wss_one (h : WS C st env S E) : WSs C [st] env S E := fun X W bb ok tk w σ H rp en xc D n => ⟨_, pss_one cS_ok, h X W bb ok tk w σ H rp en xc D n⟩
/-- a statement, and a word that holds behind it -/
theorem wss_cut (I : Nv → Sto → Prop) (h : WS C st env S { E with nx := I }) (h2 : ∀ env' S', I env' S' → WSs C sts env' S' E) : WSs C (st :: sts) env S E := wss_cons (by
  intro X W bb ok tk w σ H rp en xc D n
  exact h X W bb ok tk w σ H rp en xc D (n.seq fun w1 S1 H1 env1 σ1 l1 r1 e1 k1 => n.nx w1 S1 H1 env1 σ1 l1 r1 e1 (h2 _ _ k1)))
theorem ws_pass (h : E.nx env S) : WS C (.Pass pos) env S E := fun X W bb ok tk w σ H rp en xc D n => ⟨_, ps_pass, n.nx w S H env σ (LeN.refl _ _) rp en h⟩
theorem ws_break (h : E.bk env S) : WS C (.Break pos) env S E := fun X W bb ok tk w σ H rp en xc D n => ⟨_, ps_break, n.bk w S H env σ (LeN.refl _ _) rp en h⟩
theorem ws_cont (h : E.ct env S) : WS C (.Continue pos) env S E := fun X W bb ok tk w σ H rp en xc D n => ⟨_, ps_continue, n.ct w S H env σ (LeN.refl _ _) rp en h⟩
theorem ws_ret (h : WE C e env S E.rt) : WS C (.Return (some e) pos) env S E := fun X W bb ok tk w σ H rp en xc D n => ⟨_, ps_ret cE_ok, h X W bb ok tk w σ H rp en xc _ n.rt.n⟩
theorem ws_retN (h : E.rt (.val .non) S) : WS C (.Return none pos) env S E := fun X W bb ok tk w σ H rp en xc D n => ⟨_, ps_retN, n.rt w S H (.val .non) _ (LeN.refl _ _) rp rfl h⟩
theorem ws_expr (h : WE C e env S fun _ S1 => E.nx env S1) (hs : ∀ X : Cx, swapsWith e none pos.line X.env = pure false) : WS C (.Expr e pos) env S E := fun X W bb ok tk w σ H rp en xc D n =>
  ⟨_, ps_expr cE_ok (hs X), h X W bb ok tk w σ H rp en xc _ fun w1 S1 H1 r v l1 r1 i1 k1 => n.nx w1 S1 H1 env σ (l1.n _) r1 (en.mono l1) k1⟩
theorem ws_if (h : WT C c env S fun k S1 => (k = true → WSs C body env S1 E) ∧ (k = false → WSs C els env S1 E)) : WS C (.If c body els pos) env S E := fun X W bb ok tk w σ H rp en xc D n => by
  refine ⟨_, ps_if cT_ok cSs_ok cSs_ok, ?_⟩
  refine h X W bb ok tk w σ H rp en xc _ fun w1 S1 H1 k l1 r1 k1 => ?_
  cases k with
  | true => exact iteT (k1.1 rfl X W bb ok tk w1 σ H1 r1 (en.mono l1) (xc.mono l1) D (n.mono l1))
  | false => exact iteF (k1.2 rfl X W bb ok tk w1 σ H1 r1 (en.mono l1) (xc.mono l1) D (n.mono l1))

/-! ### targets -/
def cG (X : Cx) (tg : Expr) : TG := fun v σ H Q => ∃ g, PG X tg g ∧ g v σ H Q
theorem cG_ok {X : Cx} {tg : Expr} : PG X tg (cG X tg) := ⟨fun pins s σ H v u Q I r ⟨_, p, h⟩ => p.run pins s σ H v u Q I r h⟩
def WG (C : DC) (tg : Expr) (r : R) (env : Nv) (S : Sto) (Ω : Nv → Sto → Prop) : Prop := ∀ X W b, OkC X C → Takes X W → ∀ w σ H, Rp C.g.K b w S H → EnvIs C.g.K b w env σ → XCov C.g.K b w C.n0 C.xi W → ∀ v, IsR C.g.K b.B w r v → ∀ Q, ECov C.g.K b w C.n0 Ω Q → cG X tg v σ H Q
def WGs (C : DC) (tg : List Expr) (ds : List D) (env : Nv) (S : Sto) (Ω : Nv → Sto → Prop) : Prop := ∀ X W b, OkC X C → Takes X W → ∀ w σ H, Rp C.g.K b w S H → EnvIs C.g.K b w env σ → XCov C.g.K b w C.n0 C.xi W → ∀ vs, IsL C.g.K w.G ds vs → ∀ Q, ECov C.g.K b w C.n0 Ω Q → ∃ g, PGs X tg g ∧ g vs σ H Q
theorem wg_name {i : Nat} {r : R} (hx : InV x i C.wr) (h : Ω (env.set i (some r)) S) : WG C (.Name x pos) r env S Ω := fun X W bb ok tk w σ H rp en xc v hv Q n => by
  obtain ⟨h1, h2, h3⟩ := ok.wr _ hx.mem
  exact ⟨_, pg_name ok.nd h1 h2 h3, n w S H _ _ (LeN.refl _ _) rp (en.set i hv) h⟩
theorem wgs_nil (h : Ω env S) : WGs C [] [] env S Ω := fun X W bb ok tk w σ H rp en xc vs hv Q n => by
  have hv : vs = [] := hv
  subst hv
  exact ⟨_, pgs_nil, rfl, n w S H _ _ (LeN.refl _ _) rp en h⟩
theorem wgs_cons {d : D} {ds : List D} (h : WG C e (.val d) env S fun env1 S1 => WGs C es ds env1 S1 Ω) (hs : ∀ X : Cx, (assignEach (e :: es) X.env).map (·.2) = assign e X.env :: (assignEach es X.env).map (·.2)) : WGs C (e :: es) (d :: ds) env S Ω := fun X W bb ok tk w σ H rp en xc vs hv Q n => by
  obtain ⟨v, t, e1, hv, ht⟩ := hv
  subst e1
  refine ⟨gCons (cG X e) (fun vs σ H Q => ∃ g, PGs X es g ∧ g vs σ H Q), pgs_cons cG_ok ⟨fun pins s σ H v u Q I r ⟨_, p, h⟩ => p.run pins s σ H v u Q I r h⟩ (hs X), v, t, rfl, ?_⟩
  refine h X W bb ok tk w σ H rp en xc v hv _ fun w1 S1 H1 env1 σ1 l1 r1 e1 k1 => ?_
  exact k1 X W bb ok tk w1 σ1 H1 r1 e1 (xc.monoN l1) t (IsL.mono l1.g ds t ht) Q (n.monoN l1)
theorem wg_tup {k : Nat} {ds : List D} (hc : C.calm = true) (h : WGs C es ds env S Ω) (hn : ∀ X : Cx, (assignEach es X.env).length = ds.length) (hst : ∀ X : Cx, (assignEach es X.env).findIdx? (·.1) = none) : WG C (.Tuple es k pos) (.val (.tup ds)) env S Ω := fun X W bb ok tk w σ H rp en xc v hv Q n => by
  obtain ⟨p, vs, e1, hp, hl⟩ := hv
  subst e1
  obtain ⟨g, pg, hg⟩ := h X W bb ok tk w σ H rp en xc vs hl Q n
  exact ⟨_, pg_tup (ok.calm hc).1 pg (hn X) (hst X), p, vs, rfl, SqT.of (rp.ex _ _ hp), (IsL.length hl).symm, hg⟩
/-- target = value -/
theorem ws_asg {tg : Expr} (h : WE C e env S fun r S1 => WG C tg r env S1 E.nx) (hs : ∀ X : Cx, swapsWithSole [tg] e pos.line X.env = pure false) (hw : ∀ X : Cx, swappedStores [tg] e X.env = pure none) (h1 : ∀ X : Cx, (assignEach [tg] X.env).map (·.2) = [assign tg X.env]) : WS C (.Assign [tg] e pos) env S E := fun X W bb ok tk w σ H rp en xc D n => by
  refine ⟨_, ps_asg cE_ok cG_ok (hs X) (hw X) (h1 X), ?_⟩
  refine h X W bb ok tk w σ H rp en xc _ fun w1 S1 H1 r v l1 r1 i1 k1 => ?_
  exact k1 X W bb ok tk w1 σ H1 r1 (en.mono l1) (xc.mono l1) v i1 _ (n.nx.mono l1)
theorem ws_set {i : Nat} (hx : InV x i C.wr) (h : WE C e env S fun r S1 => E.nx (env.set i (some r)) S1) (hs : ∀ X : Cx, swapsWith e (some (.Name x p2)) pos.line X.env = pure false) : WS C (.Assign [.Name x p2] e pos) env S E := fun X W bb ok tk w σ H rp en xc D n => by
  obtain ⟨h1, h2, h3⟩ := ok.wr _ hx.mem
  refine ⟨_, ps_set ok.nd h1 h2 cE_ok (hs X) h3, ?_⟩
  exact h X W bb ok tk w σ H rp en xc _ fun w1 S1 H1 r v l1 r1 i1 k1 => n.nx w1 S1 H1 _ _ (l1.n _) r1 ((en.mono l1).set i i1) k1
/-- name op= e -/
def cIp (X : Cx) (op : Operator) : TIp := fun x y H Q => ∃ r, PIp X op r ∧ r x y H Q
theorem cIp_ok {X : Cx} {op : Operator} : PIp X op (cIp X op) := fun pins s σ H x y v u Q I rx ry ⟨_, p, h⟩ => p pins s σ H x y v u Q I rx ry h
def WIp (C : DC) (op : Operator) (x y : R) (S : Sto) (Ψ : R → Sto → Prop) : Prop := ∀ X b, OkC X C → ∀ w H, Rp C.g.K b w S H → ∀ v u, IsR C.g.K b.B w x v → IsR C.g.K b.B w y u → ∀ Q, NCov C.g.K b w Ψ Q → cIp X op v u H Q
theorem ws_aug {i : Nat} {op : Operator} {r : R} (hx : InV x i C.wr) (he : env[i]? = some (some r)) (h : WE C e env S fun y S1 => WIp C op r y S1 fun z S2 => E.nx (env.set i (some z)) S2) : WS C (.AugAssign (.Name x p2) op e pos) env S E := fun X W bb ok tk w σ H rp en xc D n => by
  obtain ⟨h1, h2, h3⟩ := ok.wr _ hx.mem
  refine ⟨_, ps_aug ok.nd h1 h2 cE_ok cIp_ok h3, ?_⟩
  obtain ⟨v, hv, hr⟩ := en.2 i r he
  refine ⟨v, hv, ?_⟩
  refine h X W bb ok tk w σ H rp en xc _ fun w1 S1 H1 y u l1 r1 i1 k1 => ?_
  refine k1 X bb ok w1 H1 r1 v u (hr.mono l1) i1 _ fun w2 S2 H2 z t l2 r2 i2 k2 => ?_
  exact n.nx w2 S2 H2 _ _ ((l1.trans l2).n _) r2 ((en.mono (l1.trans l2)).set i i2) k2
theorem wip_add {i j : Int} (h : Ψ (.val (.int (i + j))) S) : WIp C .Add (.val (.int i)) (.val (.int j)) S Ψ := fun X b ok w H rp v u hv hu Q n => by
  have hv : v = .int i := hv
  have hu : u = .int j := hu
  subst hv hu
  exact ⟨_, ip_add, i, j, rfl, rfl, n.at_ (d := .int (i + j)) rp rfl h⟩

/-- the last objects go, or are settled -/
theorem wss_settle (n : Nat) {env' : Nv} (h0 : C.n0 ≤ n) (hn : n ≤ S.length) (ho : (S.take n).all (Node.okB n) = true) (he : EnvW S n env env') (h : WSs C sts env' (S.take n) E) : WSs C sts env S E := fun X W bb ok tk w σ H rp en xc D nn => by
  have b0 : bb.as0.length ≤ n := Nat.le_trans xc.1 h0
  have l : LeN C.n0 w ⟨gSet bb w S n H, w.as.take n⟩ := ⟨(gSet_ex rp n).1, fun k a hk e => by
    show (w.as.take n)[k]? = some a
    rw [List.getElem?_take_of_lt (by omega)]; exact e⟩
  exact h X W bb ok tk _ σ H (rp.settle hn b0 ho) (he.is rp b0 en) (xc.monoN l) D (nn.monoN l)

/-! ### while -/
abbrev DC.at0 (C : DC) (n : Nat) : DC := { C with n0 := n }
theorem OkC.at0 {X : Cx} (ok : OkC X C) (n : Nat) : OkC X (C.at0 n) := ⟨ok.gd, ok.N, ok.sc, ok.nd, ok.vis, ok.wr, ok.gl, ok.calm, ok.un, ok.po, ok.hot, ok.exc, ok.fr⟩
theorem ws_while (I : Nat → Nv → Sto → Prop) (m0 : Nat) (hn : C.n0 ≤ S.length) (h0 : I m0 env S)
    (ht : ∀ m env' S', I m env' S' → WT (C.at0 S.length) c env' S' fun k S1 => (k = true → WSs (C.at0 S.length) body env' S1 ⟨fun e2 S2 => ∃ m', m' < m ∧ Wk S.length (I m') e2 S2, E.rt, E.nx, fun e2 S2 => ∃ m', m' < m ∧ Wk S.length (I m') e2 S2⟩) ∧ (k = false → E.nx env' S1)) : WS C (.While c body [] pos) env S E := fun X W bb ok tk w σ H rp en xc D n => by
  refine ⟨_, ps_while ok.po cT_ok cSs_ok, ?_⟩
  have b0 : bb.as0.length ≤ S.length := by
    obtain ⟨t, e⟩ := rp.pre
    rw [← rp.len, e, List.length_append]; omega
  refine ⟨fun m σ' H' => ∃ w' S' env', Le w w' ∧ Rp C.g.K bb w' S' H' ∧ EnvIs C.g.K bb w' env' σ' ∧ I m env' S', ⟨m0, w, S, env, Le.refl _, rp, en, h0⟩, ?_⟩
  rintro m σ1 H1 ⟨w1, S1, env1, l1, r1, e1, i1⟩
  refine ht m env1 S1 i1 X W bb (ok.at0 _) tk w1 σ1 H1 r1 e1 ((xc.mono l1).less hn) _ fun w2 S2 H2 k l2 r2 k2 => ?_
  cases k with
  | true =>
    refine iteT ⟨fun σ' H' => ∃ m', m' < m ∧ ∃ w' S' env', Le w w' ∧ Rp C.g.K bb w' S' H' ∧ EnvIs C.g.K bb w' env' σ' ∧ I m' env' S', fun σ' H' h => h, ?_⟩
    have again : ECov C.g.K bb w2 S.length (fun e2 S2 => ∃ m', m' < m ∧ Wk S.length (I m') e2 S2) (fun σ' H' => ∃ m', m' < m ∧ ∃ w' S' env', Le w w' ∧ Rp C.g.K bb w' S' H' ∧ EnvIs C.g.K bb w' env' σ' ∧ I m' env' S') := fun w3 S3 H3 env3 σ3 l3 r3 e3 ⟨m', hm, k3⟩ =>
      ⟨m', hm, k3.use rp.len b0 (((l1.trans l2).n _).trans l3) r3 e3⟩
    have nn := n.mono (l1.trans l2)
    exact k2.1 rfl X W bb (ok.at0 _) tk w2 σ1 H2 r2 (e1.mono l2) ((xc.mono (l1.trans l2)).less hn) _ ⟨again, nn.rt.less hn, nn.nx.less hn, again⟩
  | false => exact iteF (n.nx w2 S2 H2 env1 σ1 ((l1.trans l2).n _) r2 (e1.mono l2) (k2.2 rfl))

/-! ### for -/
/-- a walk over the data ds, while the store is as SG says -/
structure WlkOk (K : PySem.W.Frag) (b : Base) (w : Wd) (J : It) (ds : List D) (SG : Sto → Prop) : Prop where
  ex : ∃ G Y, Walk J ds.length G Y ∧ (∀ w' S' H', Le w w' → Rp K b w' S' H' → SG S' → G H') ∧
    ∀ w' S' H' i x H2 d, Le w w' → Rp K b w' S' H' → SG S' → ds[i]? = some d → Y i H' x H2 → ∃ w2, Le w' w2 ∧ Rp K b w2 S' H2 ∧ Is K w2.G d x
def cI (X : Cx) (tg iter : Expr) : TI := fun σ H R => ∃ wi, PI X tg iter wi ∧ wi σ H R
theorem cI_ok {X : Cx} {tg iter : Expr} : PI X tg iter (cI X tg iter) := ⟨fun pins s σ H R I ⟨_, p, h⟩ => p.run pins s σ H R I h⟩
def WI (C : DC) (tg iter : Expr) (env : Nv) (S : Sto) (Λ : List D → (Sto → Prop) → Sto → Prop) : Prop := ∀ X W b, OkC X C → Takes X W → ∀ w σ H, Rp C.g.K b w S H → EnvIs C.g.K b w env σ → XCov C.g.K b w C.n0 C.xi W →
  ∀ R : It → Hp → Prop, (∀ w' S' H' J ds SG, Le w w' → Rp C.g.K b w' S' H' → WlkOk C.g.K b w' J ds SG → Λ ds SG S' → R J H') → cI X tg iter σ H R
theorem ws_for {tg iter : Expr} (hc : C.calm = true) (h : WI C tg iter env S fun ds SG S1 => ∃ I : Nat → Nv → Sto → Prop, C.n0 ≤ S1.length ∧ I 0 env S1 ∧ (∀ i env' S', I i env' S' → SG S') ∧
      (∀ i d env' S', ds[i]? = some d → I i env' S' → WG (C.at0 S1.length) tg (.val d) env' S' fun e2 S2 => WSs (C.at0 S1.length) body e2 S2 ⟨Wk S1.length (I (i + 1)), E.rt, E.nx, Wk S1.length (I (i + 1))⟩) ∧ (∀ env' S', I ds.length env' S' → E.nx env' S'))
    (hs : ∀ X : Cx, ∀ x, foldedSetIterable iter X.env x = pure x) : WS C (.For tg iter body [] pos) env S E := fun X W bb ok tk w σ H rp en xc D n => by
  refine ⟨_, ps_for ok.po (ok.calm hc).1 cI_ok cG_ok cSs_ok (hs X), ?_⟩
  refine h X W bb ok tk w σ H rp en xc _ fun w1 S1 H1 J ds SG l1 r1 wk ⟨I, hn, h0, hG, hstep, hend⟩ => ?_
  obtain ⟨G, Y, wlk, hg, hy⟩ := wk.ex
  have b0 : bb.as0.length ≤ S1.length := by
    obtain ⟨t, e⟩ := r1.pre
    rw [← r1.len, e, List.length_append]; omega
  refine for_it wlk (fun i σ' H' => ∃ w' S' env', Le w1 w' ∧ Rp C.g.K bb w' S' H' ∧ EnvIs C.g.K bb w' env' σ' ∧ I i env' S') ⟨w1, S1, env, Le.refl _, r1, en.mono l1, h0⟩ ?_ ?_ ?_
  · rintro i σ' H' _ ⟨w2, S2, env2, l2, r2, e2, i2⟩
    exact hg w2 S2 H' l2 r2 (hG i env2 S2 i2)
  · rintro i x σ2 H2 H3 hi ⟨w2, S2, env2, l2, r2, e2, i2⟩ y
    have hd : ds[i]? = some ds[i] := by simp [hi]
    obtain ⟨w3, l3, r3, x3⟩ := hy w2 S2 H2 i x H3 ds[i] l2 r2 (hG i env2 S2 i2) hd y
    have l13 := l1.trans (l2.trans l3)
    refine hstep i ds[i] env2 S2 hd i2 X W bb (ok.at0 _) tk w3 σ2 H3 r3 (e2.mono l3) ((xc.mono l13).less hn) x x3 _ fun w4 S4 H4 env4 σ4 l4 r4 e4 k4 => ?_
    have again : ECov C.g.K bb w4 S1.length (Wk S1.length (I (i + 1))) (fun σ' H' => ∃ w' S' env', Le w1 w' ∧ Rp C.g.K bb w' S' H' ∧ EnvIs C.g.K bb w' env' σ' ∧ I (i + 1) env' S') := fun w5 S5 H5 env5 σ5 l5 r5 e5 k5 =>
      k5.use r1.len b0 (((l2.trans l3).n _).trans (l4.trans l5)) r5 e5
    have nn := n.mono l13
    exact k4 X W bb (ok.at0 _) tk w4 σ4 H4 r4 e4 (((xc.mono l13).less hn).monoN l4) _ ⟨again, (nn.rt.less hn).monoN l4, (nn.nx.less hn).monoN l4, again⟩
  · rintro σ2 H2 ⟨w2, S2, env2, l2, r2, e2, i2⟩
    exact n.nx w2 S2 H2 env2 σ2 ((l1.trans l2).n _) r2 e2 (hend _ _ i2)
end
end DL
set_option Elab.async false
set_option linter.all false
set_option maxRecDepth 100000
set_option maxHeartbeats 4000000
namespace DL
open PySem PySem.Spec PyProof.Rows
open L2 hiding Takes passAt takes_of ps_raise PMk ps_try_as
open L2N (Takes passAt takes_of ps_raise PMk ps_try_as)
section
variable {C : DC} {env : Nv} {S : Sto} {Ψ : R → Sto → Prop} {Θ : Bool → Sto → Prop} {Φ : List R → Sto → Prop} {Ω : Nv → Sto → Prop} {Λ : List D → (Sto → Prop) → Sto → Prop} {E : Nd} {pos p2 p3 : Pos} {a b c e tg : Expr} {es rest : List Expr} {x : Str}

/-! ### what a for walks -/
def SGof (S : Sto) : R → List D → Sto → Prop
  | .loc k, ds, S' => S'[k]? = some (nl ds)
  | _, _, _ => True
def YL (K : PySem.W.Frag) (a : Addr) : Nat → Hp → V → Hp → Prop := fun i H x H' => H' = H ∧ ∀ xs, SqL K H a xs → xs[i]? = some x
def YT (K : PySem.W.Frag) (a : Addr) : Nat → Hp → V → Hp → Prop := fun i H x H' => H' = H ∧ ∀ xs, SqT K H a xs → xs[i]? = some x
theorem walkL {K : PySem.W.Frag} {a : Addr} {n : Nat} : Walk (Itl K a) n (fun H => ∃ xs : List V, SqL K H a xs ∧ xs.length = n) (YL K a) :=
  ⟨fun i _ hi ⟨xs, q, e⟩ => ⟨xs, xs[i], q, by simp [e, hi]⟩, fun _ ⟨xs, q, e⟩ => ⟨xs, q, by omega⟩, fun _ _ _ _ _ _ y => y⟩
theorem walkT {K : PySem.W.Frag} {a : Addr} {n : Nat} : Walk (Itt K a) n (fun H => ∃ xs : List V, SqT K H a xs ∧ xs.length = n) (YT K a) :=
  ⟨fun i _ hi ⟨xs, q, e⟩ => ⟨xs, xs[i], q, by simp [e, hi]⟩, fun _ ⟨xs, q, e⟩ => ⟨xs, q, by omega⟩, fun _ _ _ _ _ _ y => y⟩
/-- a list or a tuple, as it stands while the store lets it -/
theorem SeqD.stays {K : PySem.W.Frag} {bb : Base} {r : R} {w1 : Wd} {S1 : Sto} {H1 : Hp} {v : V} {ds : List D} (hd : SeqD S1 r ds) (r1 : Rp K bb w1 S1 H1) (i1 : IsR K bb.B w1 r v) : ∃ p, v = .ref p ∧
    ((∀ w' S' H', Le w1 w' → Rp K bb w' S' H' → SGof S1 r ds S' → ∃ us, SqL K H' p us ∧ IsL K w'.G ds us) ∨ (∀ w' S' H', Le w1 w' → Rp K bb w' S' H' → ∃ us, SqT K H' p us ∧ IsL K w'.G ds us)) := by
  cases hd with
  | tup =>
    obtain ⟨p, vs, e, h1, h2⟩ := i1
    exact ⟨p, e, .inr fun w' S' H' l r' => ⟨vs, SqT.of (r'.ex _ _ (l.g _ _ h1)), IsL.mono l.g _ _ h2⟩⟩
  | lst =>
    obtain ⟨p, vs, e, h1, h2⟩ := i1
    exact ⟨p, e, .inl fun w' S' H' l r' _ => ⟨vs, r'.ex.l (l.g.l h1), IsL.mono l.g _ _ h2⟩⟩
  | bor =>
    obtain ⟨p, vs, e, h1, h2⟩ := i1
    exact ⟨p, e, .inl fun w' S' H' l r' _ => ⟨vs, SqL.ofR r' (h1.imp (fun h => l.g.l h) id), IsL.mono l.g _ _ h2⟩⟩
  | loc h1 =>
    obtain ⟨a, h2, e⟩ := i1
    refine ⟨a, e, .inl fun w' S' H' l r' g => ?_⟩
    obtain ⟨a', g1, _, _, us, g2, g3⟩ := r'.at_ _ _ g rfl
    rw [l.at_ h2] at g1; cases g1
    exact ⟨us, SqL.of g2, IsRs.vals.mp g3⟩
def iSeq (K : PySem.W.Frag) (tl : TE) : TI := fun σ H R => tl σ H fun x H1 => ∃ a, x = .ref a ∧ (((∃ xs, SqL K H1 a xs) ∧ R (Itl K a) H1) ∨ ((∃ xs, SqT K H1 a xs) ∧ R (Itt K a) H1))
theorem pi_seq {X : Cx} {l : Expr} {tl : TE} (hl : PE X l tl) : PI X tg l (iSeq X.K tl) := by
  refine ⟨fun pins s σ H R I h => ?_⟩
  refine thn (hl.run pins s σ H _ I h) fun v s1 ⟨x, H1, I1, r1, q1⟩ => ?_
  obtain ⟨a, e, q⟩ := q1
  subst e
  cases r1
  have fin : ∀ b ∈ [s1.heap.objs.size], FpOk X pins H1 b := fun b hb => by
    have e : b = s1.heap.objs.size := by simpa using hb
    subst e
    exact I1.fpOk (Nat.le_refl _) (I1.hok.fresh (Nat.le_refl _))
  rcases q with ⟨⟨xs, hq⟩, q⟩ | ⟨⟨xs, hq⟩, q⟩
  · obtain ⟨its, rv, p, hz⟩ := I1.list hq
    refine wpAny_pyIter_list p.isList ?_
    exact ⟨s1.heap.objs.size, [s1.heap.objs.size], _, _, H1, rfl, I1.kept (t' := s1.toks) fun b o e => Heap.get?_push_of_some _ e, turn_list a _, ⟨_, Heap.get?_push_size _ rfl, rfl, rfl⟩, fin, q⟩
  · obtain ⟨its, rv, p, hz⟩ := I1.tuple hq
    refine wpAny_pyIter_tuple (show s1.heap.IsTuple a its.toArray from p) ?_
    exact ⟨s1.heap.objs.size, [s1.heap.objs.size], _, _, H1, rfl, I1.kept (t' := s1.toks) fun b o e => Heap.get?_push_of_some _ e, turn_tuple a _, ⟨_, Heap.get?_push_size _ rfl, rfl, rfl⟩, fin, q⟩
theorem getL {K : PySem.W.Frag} {G : Hp} {ds : List D} {us : List V} {i : Nat} {x : V} {d : D} (hl : IsL K G ds us) (hd : ds[i]? = some d) (hx : us[i]? = some x) : Is K G d x := by
  obtain ⟨v, h1, h2⟩ := IsL.get hl hd
  rw [hx] at h1; cases h1; exact h2
/-- a list, a tuple -/
theorem wi_seq (h : WE C e env S fun r S1 => ∃ ds, SeqD S1 r ds ∧ Λ ds (SGof S1 r ds) S1) : WI C tg e env S Λ := fun X W bb ok tk w σ H rp en xc R' n => by
  refine ⟨_, pi_seq cE_ok, ?_⟩
  rw [ok.K]
  refine h X W bb ok tk w σ H rp en xc _ fun w1 S1 H1 r v l1 r1 i1 ⟨ds, hd, k1⟩ => ?_
  obtain ⟨p, e, st⟩ := hd.stays r1 i1
  have sg : SGof S1 r ds S1 := by
    cases hd with
    | loc h => exact h
    | _ => trivial
  refine ⟨p, e, ?_⟩
  rcases st with st | st
  · obtain ⟨us, g1, g2⟩ := st w1 S1 H1 (Le.refl _) r1 sg
    refine .inl ⟨⟨us, g1⟩, n w1 S1 H1 _ ds _ l1 r1 ⟨_, _, walkL, fun w' S' H' l r' g => ?_, fun w' S' H' i x H2 d l r' g hd' y => ?_⟩ k1⟩
    · obtain ⟨us, g1, g2⟩ := st w' S' H' l r' g
      exact ⟨us, g1, (IsL.length g2).symm⟩
    · obtain ⟨us, g1, g2⟩ := st w' S' H' l r' g
      obtain ⟨rfl, y⟩ := y
      exact ⟨w', Le.refl _, r', getL g2 hd' (y us g1)⟩
  · obtain ⟨us, g1, g2⟩ := st w1 S1 H1 (Le.refl _) r1
    refine .inr ⟨⟨us, g1⟩, n w1 S1 H1 _ ds _ l1 r1 ⟨_, _, walkT, fun w' S' H' l r' g => ?_, fun w' S' H' i x H2 d l r' g hd' y => ?_⟩ k1⟩
    · obtain ⟨us, g1, g2⟩ := st w' S' H' l r'
      exact ⟨us, g1, (IsL.length g2).symm⟩
    · obtain ⟨us, g1, g2⟩ := st w' S' H' l r'
      obtain ⟨rfl, y⟩ := y
      exact ⟨w', Le.refl _, r', getL g2 hd' (y us g1)⟩
/-- the numbers lo, lo + 1, .. -/
def rangeD (lo : Int) (n : Nat) : List D := (List.range n).map fun (i : Nat) => .int (lo + (i : Int))
theorem rangeD_len (lo : Int) (n : Nat) : (rangeD lo n).length = n := by simp [rangeD]
theorem rangeD_get {lo : Int} {n i : Nat} {d : D} (h : (rangeD lo n)[i]? = some d) : i < n ∧ d = .int (lo + i) := by
  unfold rangeD at h
  rw [List.getElem?_map] at h
  by_cases hi : i < n
  · rw [List.getElem?_range hi] at h
    exact ⟨hi, (Option.some.inj h).symm⟩
  · rw [List.getElem?_eq_none (by simpa using hi)] at h; cases h
theorem wlk_range {K : PySem.W.Frag} {bb : Base} {w1 : Wd} {lo : Int} {n : Nat} : WlkOk K bb w1 (Itr lo n) (rangeD lo n) (fun _ => True) := by
  refine ⟨_, _, by rw [rangeD_len]; exact walk_range, fun _ _ _ _ _ _ => trivial, fun w' S' H' i x H2 d l r' g hd' y => ?_⟩
  obtain ⟨rfl, e⟩ := y
  obtain ⟨_, e2⟩ := rangeD_get hd'
  subst e e2
  exact ⟨w', Le.refl _, r', rfl⟩
theorem wi_range1 (hx : InG "range" C.gl) (hm : C.g.mg "range" = none) (h : WE C e env S fun r S1 => ∃ j, r = .val (.int j) ∧ (-(2 ^ 62) ≤ j ∧ j < 2 ^ 62) ∧ Λ (rangeD 0 j.toNat) (fun _ => True) S1) (hs : ∀ X : Cx, starEach [e] X.env = [(false, eval e X.env)]) : WI C tg (.Call (.Name "range" p2) [e] [] pos) env S Λ := fun X W bb ok tk w σ H rp en xc R' n => by
  refine ⟨_, pi_range1 (ok.gl _ hx.mem).1 (by rw [ok.mg]; exact hm) (pa_cons cE_ok pa_nil (hs X)) (hs X), ?_⟩
  refine h X W bb ok tk w σ H rp en xc _ fun w1 S1 H1 r v l1 r1 i1 ⟨j, e, ⟨b1, b2⟩, k1⟩ => ?_
  subst e
  have i1 : v = .int j := i1
  subst i1
  exact ⟨j, rfl, b1, b2, n w1 S1 H1 _ _ _ l1 r1 wlk_range k1⟩
theorem wi_range2 (hx : InG "range" C.gl) (hm : C.g.mg "range" = none) (h : WE C a env S fun r S1 => WE C b env S1 fun q S2 => ∃ i j, r = .val (.int i) ∧ q = .val (.int j) ∧ (-(2 ^ 62) ≤ i ∧ i < 2 ^ 62 ∧ -(2 ^ 62) ≤ j ∧ j < 2 ^ 62) ∧ Λ (rangeD i (j - i).toNat) (fun _ => True) S2)
    (hs : ∀ X : Cx, starEach [a, b] X.env = [(false, eval a X.env), (false, eval b X.env)]) (hs2 : ∀ X : Cx, starEach [b] X.env = [(false, eval b X.env)]) : WI C tg (.Call (.Name "range" p2) [a, b] [] pos) env S Λ := fun X W bb ok tk w σ H rp en xc R' n => by
  refine ⟨_, pi_range2 (ok.gl _ hx.mem).1 (by rw [ok.mg]; exact hm) (pa_cons cE_ok (pa_cons cE_ok pa_nil (hs2 X)) (by rw [hs X, hs2 X])) (hs X) (hs2 X), ?_⟩
  refine h X W bb ok tk w σ H rp en xc _ fun w1 S1 H1 r v l1 r1 i1 k1 => ?_
  refine k1 X W bb ok tk w1 σ H1 r1 (en.mono l1) (xc.mono l1) _ fun w2 S2 H2 q u l2 r2 i2 ⟨i, j, e1, e2, bd, k2⟩ => ?_
  subst e1 e2
  have i1 : v = .int i := i1
  have i2 : u = .int j := i2
  subst i1 i2
  exact ⟨i, j, rfl, bd, n w2 S2 H2 _ _ _ (l1.trans l2) r2 wlk_range k2⟩
/-- a text, sign by sign -/
def signsD (s : Str) : List D := s.cps.toList.map fun c => .str ⟨#[c]⟩
theorem wi_str (h : WE C e env S fun r S1 => ∃ s, r = .val (.str s) ∧ Λ (signsD s) (fun _ => True) S1) : WI C tg e env S Λ := fun X W bb ok tk w σ H rp en xc R' n => by
  refine ⟨_, pi_str cE_ok, ?_⟩
  refine h X W bb ok tk w σ H rp en xc _ fun w1 S1 H1 r v l1 r1 i1 ⟨s, e, k1⟩ => ?_
  subst e
  have i1 : v = .str s := i1
  subst i1
  refine ⟨s, rfl, n w1 S1 H1 _ _ _ l1 r1 ⟨_, _, (by rw [show (signsD s).length = s.cps.size by simp [signsD]]; exact walk_str), fun _ _ _ _ _ _ => trivial, fun w' S' H' i x H2 d l r' g hd' y => ?_⟩ k1⟩
  obtain ⟨rfl, c, hc, ex⟩ := y
  subst ex
  refine ⟨w', Le.refl _, r', ?_⟩
  unfold signsD at hd'
  rw [List.getElem?_map, Array.getElem?_toList, hc] at hd'
  cases hd'
  rfl

/-! ### methods of built-in types -/
def cMt (X : Cx) (id : String) : V → List V → Hp → VK → Prop := fun x vs H Q => ∃ r, MtR X id r ∧ r x vs H Q
theorem cMt_ok {X : Cx} {id : String} : MtR X id (cMt X id) := fun pins s σ H x xs v us Q I rx rs ⟨_, p, h⟩ => p pins s σ H x xs v us Q I rx rs h
/-- xs.append(e), as a statement or not -/
theorem we_append {o : Expr} {apos : Pos} (h : WE C o env S fun r S1 => ∃ k ds, r = .loc k ∧ S1[k]? = some (nl ds) ∧ WE C e env S1 fun q S2 => ∃ d ds2, q = .val d ∧ S2[k]? = some (nl ds2) ∧ ds2.length < sizeLine ∧ Ψ (.val .non) (S2.set k (nl (ds2 ++ [d]))))
    (hbase : ∀ X : Cx, attributeBase o "append" X.env (eval o X.env) = eval o X.env) (hfew : ∀ X : Cx, ((backTo pos (starEach [e] X.env)).all (fun x => !x.1) && (backToKw pos (keywordEach [] X.env)).all (fun x => x.1.isSome) && decide ([e].length + ([] : List Keyword).length + (if ([] : List Keyword).isEmpty then 0 else 1) < 30)) = true)
    (hline : (apos.endLine == pos.line) = true) (hs : ∀ X : Cx, starEach [e] X.env = (false, eval e X.env) :: starEach [] X.env) (hpl : ∀ X : Cx, (backTo pos (starEach [] X.env)).any (·.1) = false) : WE C (.Call (.Attribute o "append" apos) [e] [] pos) env S Ψ := fun X W bb ok tk w σ H rp en xc Q n => by
  refine ⟨_, pe_bm PySem.F.plainAttrs_list PySem.F.slot_list_append PySem.F.type_list_append mt_append cE_ok (pa_cons cE_ok pa_nil (hs X)) (hbase X) (hfew X) hline (hs X) (hpl X), ?_⟩
  refine h X W bb ok tk w σ H rp en xc _ fun w1 S1 H1 r v l1 r1 i1 ⟨k, ds, e1, hk, k1⟩ => ?_
  subst e1
  obtain ⟨a, ha, ev⟩ := i1
  subst ev
  obtain ⟨a', h3, _, _, vs, h4, h5⟩ := r1.at_ _ _ hk rfl
  rw [ha] at h3; cases h3
  refine ⟨.inl ⟨rfl, vs, SqL.of h4⟩, ?_⟩
  refine k1 X W bb ok tk w1 σ H1 r1 (en.mono l1) (xc.mono l1) _ fun w2 S2 H2 q u l2 r2 i2 ⟨d, ds2, e2, hk2, hz, k2⟩ => ?_
  subst e2
  obtain ⟨a', g3, _, _, us, g4, g5⟩ := r2.at_ _ _ hk2 rfl
  have ha2 := l2.at_ ha
  rw [ha2] at g3; cases g3
  have g5' : IsL C.g.K w2.G ds2 us := IsRs.vals.mp g5
  have lz : us.length = ds2.length := (IsL.length g5').symm
  refine ⟨a, us, u, rfl, rfl, g4, by rw [lz]; exact hz, ?_⟩
  have r3 := r2.write hk2 rfl ha2 (n' := nl (ds2 ++ [d])) (o := .lst (us ++ [u])) ⟨us ++ [u], upd_same, IsRs.vals.mpr (IsL.append g5' (.cons i2 .nil))⟩
  exact n w2 _ _ (.val .non) _ (l1.trans l2) r3 rfl k2
end
end DL
set_option Elab.async false
set_option linter.all false
set_option maxRecDepth 100000
set_option maxHeartbeats 4000000
namespace DL
open PySem PySem.Spec PyProof.Rows
open L2 hiding Takes passAt takes_of ps_raise PMk ps_try_as
open L2N (Takes passAt takes_of ps_raise PMk ps_try_as)
section
variable {C : DC} {env : Nv} {S : Sto} {Ψ : R → Sto → Prop} {Θ : Bool → Sto → Prop} {Φ : List R → Sto → Prop} {Ω : Nv → Sto → Prop} {E : Nd} {pos p2 p3 : Pos} {a b c e tg : Expr} {es rest : List Expr} {x : Str}

/-! ### texts -/
section
variable {s t : Str}
theorem wo_S {f : Value → Value → Sem Value} {r : ∀ X : Cx, R2} {z : D} {zv : V} (hop : ∀ X, OpR X f (r X)) (hr : ∀ X H Q, Q zv H → r X (.str s) (.str t) H Q) (hz : ∀ G, Is C.g.K G z zv) (h : Ψ (.val z) S) : WO C f (.val (.str s)) (.val (.str t)) S Ψ := fun X b ok w H rp v u hv hu Q n => by
  have hv : v = .str s := hv
  have hu : u = .str t := hu
  subst hv hu
  exact ⟨_, hop X, hr X H Q (n.at_ rp (hz _) h)⟩
theorem wo_addS (hl : s.length + t.length ≤ sizeLine) (h : Ψ (.val (.str (s ++ t))) S) : WO C (binaryOp .Add) (.val (.str s)) (.val (.str t)) S Ψ := wo_S (z := .str (s ++ t)) (zv := .str (s ++ t)) (fun _ => op_add_str) (fun X H Q q => ⟨s, t, rfl, rfl, hl, q⟩) (fun _ => rfl) h
theorem wo_ltS (h : Ψ (.val (.bl (decide (s.cps.toList < t.cps.toList)))) S) : WO C (compareOp .Lt) (.val (.str s)) (.val (.str t)) S Ψ := wo_S (z := .bl (decide (s.cps.toList < t.cps.toList))) (zv := .bl (decide (s.cps.toList < t.cps.toList))) (fun _ => op_lt_str) (fun X H Q q => ⟨s, t, rfl, rfl, q⟩) (fun _ => rfl) h
theorem wo_leS (h : Ψ (.val (.bl (!decide (t.cps.toList < s.cps.toList)))) S) : WO C (compareOp .LtE) (.val (.str s)) (.val (.str t)) S Ψ := wo_S (z := .bl (!decide (t.cps.toList < s.cps.toList))) (zv := .bl (!decide (t.cps.toList < s.cps.toList))) (fun _ => op_le_str) (fun X H Q q => ⟨s, t, rfl, rfl, q⟩) (fun _ => rfl) h
theorem wo_geS (h : Ψ (.val (.bl (!decide (s.cps.toList < t.cps.toList)))) S) : WO C (compareOp .GtE) (.val (.str s)) (.val (.str t)) S Ψ := wo_S (z := .bl (!decide (s.cps.toList < t.cps.toList))) (zv := .bl (!decide (s.cps.toList < t.cps.toList))) (fun _ => op_ge_str) (fun X H Q q => ⟨s, t, rfl, rfl, q⟩) (fun _ => rfl) h
theorem wo_inC {k : Nat} (h : Ψ (.val (.bl (decide (k ∈ t.cps.toList)))) S) : WO C (compareOp .In) (.val (.str ⟨#[k]⟩)) (.val (.str t)) S Ψ := wo_S (s := ⟨#[k]⟩) (z := .bl (decide (k ∈ t.cps.toList))) (zv := .bl (decide (k ∈ t.cps.toList))) (fun _ => op_in_sign) (fun X H Q q => ⟨k, t, rfl, rfl, q⟩) (fun _ => rfl) h
theorem wo_notInC {k : Nat} (h : Ψ (.val (.bl (!decide (k ∈ t.cps.toList)))) S) : WO C (compareOp .NotIn) (.val (.str ⟨#[k]⟩)) (.val (.str t)) S Ψ := wo_S (s := ⟨#[k]⟩) (z := .bl (!decide (k ∈ t.cps.toList))) (zv := .bl (!decide (k ∈ t.cps.toList))) (fun _ => op_notIn_sign) (fun X H Q q => ⟨k, t, rfl, rfl, q⟩) (fun _ => rfl) h
end

/-! ### x in a list, a tuple: by == (flat items; data of any depth) -/
def flatD : D → Bool
  | .non => true
  | .bl _ => true
  | .int _ => true
  | .str _ => true
  | _ => false
/-! ### tuple(..), tuples put together -/
theorem wc_tuple {r : R} {ds : List D} (hd : SeqD S r ds) (h : Ψ (.val (.tup ds)) S) : WC C (.type "tuple") [r] S Ψ := fun X b ok w H rp vs hv Q n => by
  obtain ⟨v, e, h1⟩ := vals1' hv
  subst e
  cases hd with
  | tup =>
    obtain ⟨p, us, e, h2, h3⟩ := h1
    exact ⟨_, call_tuple_of, p, us, by rw [e], .inr ⟨by rw [ok.K]; exact SqT.of (rp.ex _ _ h2), n.at_ (d := .tup ds) rp ⟨p, us, rfl, h2, h3⟩ h⟩⟩
  | lst =>
    obtain ⟨p, us, e, h2, h3⟩ := h1
    refine ⟨_, call_tuple_of, p, us, by rw [e], .inl ⟨by rw [ok.K]; exact rp.ex.l h2, fun l hl => ?_⟩⟩
    obtain ⟨r2, l2⟩ := rp.known (o := .tup us) hl
    exact n _ _ _ (.val (.tup ds)) _ l2 r2 ⟨l, us, rfl, upd_same, IsL.mono l2.g _ _ h3⟩ h
  | bor =>
    obtain ⟨p, us, e, h2, h3⟩ := h1
    refine ⟨_, call_tuple_of, p, us, by rw [e], .inl ⟨by rw [ok.K]; exact SqL.ofR rp h2, fun l hl => ?_⟩⟩
    obtain ⟨r2, l2⟩ := rp.known (o := .tup us) hl
    exact n _ _ _ (.val (.tup ds)) _ l2 r2 ⟨l, us, rfl, upd_same, IsL.mono l2.g _ _ h3⟩ h
  | loc g1 =>
    obtain ⟨a, h2, e⟩ := h1
    obtain ⟨a', h3, _, _, us, h4, h5⟩ := rp.at_ _ _ g1 rfl
    rw [h2] at h3; cases h3
    have h5 : IsL C.g.K w.G ds us := IsRs.vals.mp h5
    refine ⟨_, call_tuple_of, a, us, by rw [e], .inl ⟨SqL.of h4, fun l hl => ?_⟩⟩
    obtain ⟨r2, l2⟩ := rp.known (o := .tup us) hl
    exact n _ _ _ (.val (.tup ds)) _ l2 r2 ⟨l, us, rfl, upd_same, IsL.mono l2.g _ _ h5⟩ h

/-! ### isinstance -/
theorem we_bltn {u : Value} {v : V} (hx : InG x C.gl) (hm : C.g.mg x = none) (hv : bootBuiltins x = some u) (hr : RelV v u) (h : Ψ (.val (.opq v)) S) : WE C (.Name x pos) env S Ψ := fun X W b ok tk w σ H rp en xc Q n => by
  obtain ⟨h1, h2⟩ := ok.gl _ hx.mem
  obtain ⟨h4, h5, h6⟩ := plain_of h2
  exact ⟨_, pe_bltn h1 (by rw [ok.mg]; exact hm) hv hr h6 h4, n w S H (.val (.opq v)) v (Le.refl _) rp rfl h⟩
def tyD : D → Option String
  | .non => some "NoneType"
  | .bl _ => some "bool"
  | .int _ => some "int"
  | .str _ => some "str"
  | .tup _ => some "tuple"
  | .lst _ => some "list"
  | .dct _ _ => some "dict"
  | .dcT _ _ => some "dict"
  | _ => none
def tyR (S : Sto) : R → Option String
  | .val d => tyD d
  | .bor _ => some "list"
  | .loc k => match S[k]? with
    | some (.lst _) => some "list"
    | some (.dK _ _) => some "dict"
    | some (.dT _ _) => some "dict"
    | _ => none
theorem tyL {K : PySem.W.Frag} {H : Hp} {p : Addr} {vs : List V} (h : SqL K H p vs) : TyX K H (.ref p) (.type "list") := by
  rcases h with (h | ⟨o, h⟩) | ⟨o, its, n, h, c, _⟩
  · exact .base (.lst h)
  · exact .base (.frz h)
  · exact .kList h c
theorem tyR_is {K : PySem.W.Frag} {b : Base} {w : Wd} {H : Hp} {r : R} {v : V} {T : String} (rp : Rp K b w S H) (hv : IsR K b.B w r v) (h : tyR S r = some T) : TyX K H v (.type T) := by
  cases r with
  | val d =>
    cases d with
    | non => have hv : v = _ := hv; subst hv; cases h; exact .base .non
    | bl _ => have hv : v = _ := hv; subst hv; cases h; exact .base (.bl _)
    | int _ => have hv : v = _ := hv; subst hv; cases h; exact .base (.int _)
    | str _ => have hv : v = _ := hv; subst hv; cases h; exact .base (.str _)
    | opq u => cases h
    | tup _ => obtain ⟨p, vs, e, h2, h3⟩ := hv; subst e; cases h; exact .base (.tup (rp.ex _ _ h2))
    | lst _ => obtain ⟨p, vs, e, h2, h3⟩ := hv; subst e; cases h; exact tyL (rp.ex.l h2)
    | dct _ _ => obtain ⟨p, vs, e, h2, h3⟩ := hv; subst e; cases h; exact .base (.dK (rp.ex _ _ h2))
    | dcT _ _ => obtain ⟨p, vs, e, h2, h3⟩ := hv; subst e; cases h; exact .base (.dT (rp.ex _ _ h2))
    | ins _ _ _ => cases h
    | exc _ _ _ _ _ => cases h
  | bor ds => obtain ⟨p, vs, e, h2, h3⟩ := hv; subst e; cases h; exact tyL (SqL.ofR rp h2)
  | loc k =>
    obtain ⟨a, h2, e⟩ := hv
    subst e
    have h : (match S[k]? with
      | some (.lst _) => some "list"
      | some (.dK _ _) => some "dict"
      | some (.dT _ _) => some "dict"
      | _ => none) = some T := h
    cases q : S[k]? with
    | none => rw [q] at h; cases h
    | some n =>
      rw [q] at h
      cases n with
      | lst rs =>
        cases h
        obtain ⟨a', h3, _, _, vs, h4, _⟩ := rp.at_ _ _ q rfl
        rw [h2] at h3; cases h3
        exact .base (.lst h4)
      | dK ks rs =>
        cases h
        obtain ⟨a', h3, _, _, vs, h4, _⟩ := rp.at_ _ _ q rfl
        rw [h2] at h3; cases h3
        exact .base (.dK h4)
      | dT ks rs =>
        cases h
        obtain ⟨a', h3, _, _, vs, h4, _⟩ := rp.at_ _ _ q rfl
        rw [h2] at h3; cases h3
        exact .base (.dT h4)
      | ins _ _ _ => cases h
      | lkT _ _ _ => cases h
      | dead => cases h
theorem wc_isi {r : R} {T U : String} {q : Bool} (ht : tyR S r = some T) (hk : kitB T U = some q) (h : Ψ (.val (.bl q)) S) : WC C (.builtin "isinstance") [r, .val (.opq (.ty U))] S Ψ := fun X b ok w H rp vs hv Q n => by
  obtain ⟨v, u, e, h1, h2⟩ := vals2' hv
  subst e
  have h2 : u = .ty U := h2
  subst h2
  have ty := tyR_is rp h1 ht
  rw [← ok.K] at ty
  exact ⟨_, call_isi, v, .ty U, .type T, .type U, q, rfl, .ty U, ty, kit_ty hk, n.at_ (d := .bl q) rp rfl h⟩

/-! ### dicts that are read -/
def look {κ α : Type} [DecidableEq κ] (ks : List κ) (xs : List α) (k : κ) : Option α := ((ks.zip xs).find? fun p => decide (p.1 = k)).map (·.2)
def OIs (K : PySem.W.Frag) (G : Hp) : Option D → Option V → Prop
  | some d, ov => ∃ v, ov = some v ∧ Is K G d v
  | none, ov => ov = none
theorem OIs.some_eq {K : PySem.W.Frag} {G : Hp} {o : Option D} {ov : Option V} (h : OIs K G o ov) : ov.isSome = o.isSome := by
  cases o with
  | none => have h : ov = none := h; rw [h]; rfl
  | some d => obtain ⟨v, h, _⟩ := h; rw [h]; rfl
theorem look_is {κ : Type} [DecidableEq κ] {K : PySem.W.Frag} {G : Hp} {k : κ} : ∀ {ks : List κ} {ds : List D} {vs : List V}, IsL K G ds vs → OIs K G (look ks ds k) (valV (ks.zip vs) k)
  | [], ds, vs, h => by
    have e : look ([] : List κ) ds k = none := by simp [look]
    rw [e]
    show valV _ _ = none
    simp [valV]
  | k0 :: ks, [], vs, h => by
    have h : vs = [] := h
    subst h
    have e : look (k0 :: ks) ([] : List D) k = none := by simp [look]
    rw [e]
    show valV _ _ = none
    simp [valV]
  | k0 :: ks, d :: ds, _, ⟨v, r, e, h1, h2⟩ => by
    subst e
    by_cases z : k0 = k
    · have e1 : look (k0 :: ks) (d :: ds) k = some d := by simp [look, List.find?_cons, z]
      have e2 : valV ((k0 :: ks).zip (v :: r)) k = some v := by simp [valV, List.find?_cons, z]
      rw [e1, e2]
      exact ⟨v, rfl, h1⟩
    · have e1 : look (k0 :: ks) (d :: ds) k = look ks ds k := by simp [look, List.find?_cons, z]
      have e2 : valV ((k0 :: ks).zip (v :: r)) k = valV (ks.zip r) k := by simp [valV, List.find?_cons, z]
      rw [e1, e2]
      exact look_is h2
/-- what is known of a dict at a place -/
inductive DctD (S : Sto) : R → List Key → List D → Prop where
  | val (ks : List Key) (ds : List D) : DctD S (.val (.dct ks ds)) ks ds
  | loc {k : Nat} {ks : List Key} {ds : List D} : S[k]? = some (.dK ks (ds.map .val)) → DctD S (.loc k) ks ds
inductive DctT (S : Sto) : R → List (List Key) → List D → Prop where
  | val (ks : List (List Key)) (ds : List D) : DctT S (.val (.dcT ks ds)) ks ds
  | loc {k : Nat} {ks : List (List Key)} {ds : List D} : S[k]? = some (.dT ks (ds.map .val)) → DctT S (.loc k) ks ds
def kD : Key → D
  | .inl i => .int i
  | .inr s => .str s
theorem kD_is {K : PySem.W.Frag} {G : Hp} {k : Key} {v : V} (h : Is K G (kD k) v) : v = kV k := by
  cases k with
  | inl i => exact h
  | inr s => exact h
theorem kDs_is {K : PySem.W.Frag} {G : Hp} : ∀ {ks : List Key} {vs : List V}, IsL K G (ks.map kD) vs → vs = ks.map kV
  | [], _, h => h
  | k :: ks, _, ⟨v, r, e, h1, h2⟩ => by rw [e, kD_is h1, kDs_is h2]; rfl
section
variable {K : PySem.W.Frag} {b : Base} {w : Wd} {H : Hp} {r y : R} {v u : V}
theorem DctD.at_ {ks : List Key} {ds : List D} (hd : DctD S r ks ds) (rp : Rp K b w S H) (hv : IsR K b.B w r v) : ∃ p vs, v = .ref p ∧ H p = some (.dK (ks.zip vs)) ∧ ks.length = vs.length ∧ IsL K w.G ds vs := by
  cases hd with
  | val =>
    obtain ⟨p, vs, e, h1, h2, h3⟩ := hv
    exact ⟨p, vs, e, rp.ex _ _ h1, h2, h3⟩
  | loc h =>
    obtain ⟨a, h2, e⟩ := hv
    obtain ⟨a', h3, _, _, vs, h4, h5, h6⟩ := rp.at_ _ _ h rfl
    rw [h2] at h3; cases h3
    exact ⟨a, vs, e, h4, h5, IsRs.vals.mp h6⟩
theorem DctT.at_ {ks : List (List Key)} {ds : List D} (hd : DctT S r ks ds) (rp : Rp K b w S H) (hv : IsR K b.B w r v) : ∃ p vs, v = .ref p ∧ H p = some (.dT (ks.zip vs)) ∧ ks.length = vs.length ∧ IsL K w.G ds vs := by
  cases hd with
  | val =>
    obtain ⟨p, vs, e, h1, h2, h3⟩ := hv
    exact ⟨p, vs, e, rp.ex _ _ h1, h2, h3⟩
  | loc h =>
    obtain ⟨a, h2, e⟩ := hv
    obtain ⟨a', h3, _, _, vs, h4, h5, h6⟩ := rp.at_ _ _ h rfl
    rw [h2] at h3; cases h3
    exact ⟨a, vs, e, h4, h5, IsRs.vals.mp h6⟩
/-- the answer of a lookup: by int or text keys, by tuples of such -/
inductive LookD (S : Sto) : R → R → Option D → Prop where
  | k {r : R} {ks : List Key} {ds : List D} {k : Key} : DctD S r ks ds → LookD S r (.val (kD k)) (look ks ds k)
  | t {r : R} {ks : List (List Key)} {ds : List D} {k : List Key} : DctT S r ks ds → LookD S r (.val (.tup (k.map kD))) (look ks ds k)
theorem LookD.get {o : Option D} (h : LookD S r y o) (rp : Rp K b w S H) (hv : IsR K b.B w r v) (hu : IsR K b.B w y u) : ∃ p ov, v = .ref p ∧ DGet H p u ov ∧ OIs K w.G o ov := by
  cases h with
  | k hd =>
    obtain ⟨p, vs, e, h1, h2, h3⟩ := hd.at_ rp hv
    have hu := kD_is hu
    subst hu
    exact ⟨p, _, e, DGet.k h1, look_is h3⟩
  | t hd =>
    obtain ⟨p, vs, e, h1, h2, h3⟩ := hd.at_ rp hv
    obtain ⟨q, us, e2, g1, g2⟩ := hu
    have g2 := kDs_is g2
    subst e2 g2
    exact ⟨p, _, e, DGet.t h1 (rp.ex _ _ g1), look_is h3⟩
end
theorem OkC.u1 {X : Cx} (ok : OkC X C) : X.A.units + 1 < cLine := Nat.lt_of_le_of_lt (Nat.add_le_add_left (by decide) _) ok.un
theorem wo_inD {r y : R} {o : Option D} (hl : LookD S r y o) (h : Ψ (.val (.bl o.isSome)) S) : WO C (compareOp .In) y r S Ψ := fun X b ok w H rp v u hv hu Q n => by
  obtain ⟨p, ov, e, h1, h2⟩ := hl.get rp hu hv
  have e2 : ov.isSome = o.isSome := h2.some_eq
  subst e
  refine ⟨fun y x H Q => ∃ a o, x = .ref a ∧ DGet H a y o ∧ Q (.bl o.isSome) H, fun pins s σ H x y v u Q I rx ry hq => ?_, p, ov, rfl, h1, n.at_ (d := .bl o.isSome) rp (by show V.bl _ = _; rw [e2]) h⟩
  obtain ⟨a, o, e, g, q⟩ := hq
  subst e
  obtain rfl : u = Value.ref a := ry
  exact d_in ok.u1 I g rx fun s' I' => ⟨.bl o.isSome, H, I', rfl, q⟩
theorem tail_of {prog : Program} {w : World} {A : Around} {E : Value → Shared → Prop} {s : Shared} {value slice : Expr} {o i : Value} {T id : String} {Q : Value → Shared → Prop}
    (hl : typeLookup (.type T) "__getitem__" = pure (some (.builtin id))) (hT : s.TypeIs o T) (h₂ : wpAny (model prog w) A (getItem o i) Q E s) (hs : subscripted slice false o i = operate [o, i] (getItem o i)) :
    wpAny (model prog w) A (subscriptTail value slice o i) Q E s := by
  unfold subscriptTail
  refine wpAny_bind ?_
  rw [getitemInPython_of_ne hT.not_modules]
  refine wpAny_bind (wpAny_specialOf hT hl ?_)
  have fin : wpAny (model prog w) A (subscripted slice false o i) (fun r s₃ => wpAny (model prog w) A (letTemporaryGo value o r >>= fun _ => pure r) Q E s₃) E s := by
    rw [hs]
    exact wpAny_operating (wpAny_mono h₂ (fun r s₃ h₃ => wpAny_bind (wpAny_letTemporaryGo (wpAny_pure h₃))) fun _ _ x => x)
  first
    | exact wpAny_pure (wpAny_bind fin)
    | exact wpAny_bind (wpAny_pure (wpAny_bind fin))
    | exact wpAny_bind fin
theorem wix_dct {r y : R} {d : D} (hl : LookD S r y (some d)) (h : Ψ (.val d) S) : WIx C r y S Ψ := fun X b ok w H rp v u hv hu Q n => by
  obtain ⟨p, ov, e, h1, v', e2, h2⟩ := hl.get rp hv hu
  subst e e2
  refine ⟨fun x y H Q => ∃ a v, x = .ref a ∧ DGet H a y (some v) ∧ Q v H, fun value slice pins s σ H x y v u Q I rx ry hq hs => ?_, p, v', rfl, h1, n.at_ rp h2 h⟩
  obtain ⟨a, z, e, g, q⟩ := hq
  subst e
  obtain rfl : v = Value.ref a := rx
  exact tail_of PySem.F.slot_dict_getitem.lookup (dict_typeIs I g) (d_getItem ok.u1 I g ry fun w' s' I' rw' => ⟨z, H, I', rw', q⟩) hs
end
end DL
set_option Elab.async false
set_option linter.all false
set_option maxRecDepth 100000
set_option maxHeartbeats 4000000
namespace DL
open PySem PySem.Spec PyProof.Rows
open L2 hiding Takes passAt takes_of ps_raise PMk ps_try_as
open L2N (Takes passAt takes_of ps_raise PMk ps_try_as)

/-! ### attributes -/
inductive AtN (f : Str) : Nat → List Str → Prop where
  | here {l : List Str} : AtN f 0 (f :: l)
  | there {i : Nat} {p : Str} {l : List Str} : AtN f i l → AtN f (i + 1) (p :: l)
theorem AtN.get {f : Str} : ∀ {i : Nat} {l : List Str}, AtN f i l → l[i]? = some f
  | _, _, .here => rfl
  | _, _, .there h => by simpa using h.get
theorem zip_lookup {f : Str} {v : V} : ∀ {names : List Str} {vs : List V} {i : Nat}, names.Nodup → names[i]? = some f → vs[i]? = some v → (names.zip vs).lookup f = some v
  | [], _, _, _, h, _ => by simp at h
  | _ :: _, [], _, _, _, h => by simp at h
  | n :: ns, u :: vs, 0, nd, h1, h2 => by
    simp at h1 h2; subst h1 h2
    simp
  | n :: ns, u :: vs, i + 1, nd, h1, h2 => by
    obtain ⟨n1, n2⟩ := List.nodup_cons.mp nd
    have hm : f ∈ ns := List.mem_of_getElem? (i := i) (by simpa using h1)
    have hne : (f == n) = false := by
      simp only [beq_eq_false_iff_ne]
      intro e; subst e; exact n1 hm
    rw [List.zip_cons_cons, List.lookup_cons, hne]
    exact zip_lookup n2 (by simpa using h1) (by simpa using h2)
theorem putF_old {f : Str} {v : V} : ∀ {names : List Str} {vs : List V} {i : Nat}, names.Nodup → names[i]? = some f → names.length = vs.length → putF f v (names.zip vs) = names.zip (vs.set i v)
  | [], _, _, _, h, _ => by simp at h
  | _ :: _, [], _, _, _, h => by simp at h
  | n :: ns, u :: vs, 0, nd, h1, h2 => by
    simp at h1; subst h1
    show (if n = n then _ else _) = _
    rw [if_pos rfl]; rfl
  | n :: ns, u :: vs, i + 1, nd, h1, h2 => by
    obtain ⟨n1, n2⟩ := List.nodup_cons.mp nd
    have hm : f ∈ ns := List.mem_of_getElem? (i := i) (by simpa using h1)
    have ih := putF_old (v := v) n2 (by simpa using h1 : ns[i]? = some f) (by simpa using h2 : ns.length = vs.length)
    show (if n = f then (n, v) :: ns.zip vs else (n, u) :: putF f v (ns.zip vs)) = (n, u) :: ns.zip (vs.set i v)
    rw [if_neg (fun e : n = f => n1 (by rw [e]; exact hm)), ih]
theorem putF_new {f : Str} {v : V} : ∀ {names : List Str} {vs : List V}, f ∉ names → names.length = vs.length → putF f v (names.zip vs) = (names ++ [f]).zip (vs ++ [v])
  | [], [], _, _ => rfl
  | [], _ :: _, _, h => by simp at h
  | _ :: _, [], _, h => by simp at h
  | n :: ns, u :: vs, nm, h => by
    have ih := putF_new (v := v) (fun h => nm (List.mem_cons_of_mem _ h) : f ∉ ns) (by simpa using h : ns.length = vs.length)
    show (if n = f then (n, v) :: ns.zip vs else (n, u) :: putF f v (ns.zip vs)) = (n, u) :: (ns ++ [f]).zip (vs ++ [v])
    rw [if_neg (fun e : n = f => nm (by simp [e])), ih]
/-- the attribute f of what r stands for -/
inductive FldR (S : Sto) (f : Str) : R → Addr → R → Prop where
  | val {C : Addr} {names : List Str} {ds : List D} {j : Nat} {d : D} : names.Nodup → AtN f j names → ds[j]? = some d → FldR S f (.val (.ins C names ds)) C (.val d)
  | loc {k : Nat} {C : Addr} {names : List Str} {rs : List R} {j : Nat} {z : R} : S[k]? = some (.ins C names rs) → names.Nodup → AtN f j names → rs[j]? = some z → FldR S f (.loc k) C z
section
variable {C : DC} {env : Nv} {S : Sto} {Ψ : R → Sto → Prop} {Θ : Bool → Sto → Prop} {Φ : List R → Sto → Prop} {Ω : Nv → Sto → Prop} {E : Nd} {pos p2 p3 : Pos} {a b c e o tg : Expr} {es rest : List Expr} {x f m : Str}
theorem FldR.at_ {K : PySem.W.Frag} {bb : Base} {w : Wd} {H : Hp} {r z : R} {v : V} {A : Addr} (h : FldR S f r A z) (rp : Rp K bb w S H) (hv : IsR K bb.B w r v) : ∃ p dx fs u, v = .ref p ∧ H p = some (.ins A dx fs) ∧ fs.lookup f = some u ∧ IsR K bb.B w z u := by
  cases h with
  | val nd hj hd =>
    obtain ⟨p, dx, vs, e, h1, h2, h3⟩ := hv
    obtain ⟨u, h4, h5⟩ := IsL.get h3 hd
    exact ⟨p, dx, _, u, e, rp.ex _ _ h1, zip_lookup nd hj.get h4, h5⟩
  | loc h1 nd hj hz =>
    obtain ⟨a, h2, e⟩ := hv
    obtain ⟨a', h3, _, _, dx, vs, h4, h5, h6⟩ := rp.at_ _ _ h1 rfl
    rw [h2] at h3; cases h3
    obtain ⟨u, h7, h8⟩ := IsRs.get h6 hz
    exact ⟨a, dx, _, u, e, h4, zip_lookup nd hj.get h7, h8⟩
theorem we_attr (h : WE C o env S fun r S1 => ∃ A z, FldR S1 f r A z ∧ Cls C.g.K A ∧ NoAttr C.g.K A f ∧ Ψ z S1) (hb : ∀ X : Cx, attributeBase o f X.env (eval o X.env) = eval o X.env) : WE C (.Attribute o f pos) env S Ψ := fun X W bb ok tk w σ H rp en xc Q n => by
  refine ⟨_, pe_fld cE_ok (hb X), ?_⟩
  refine h X W bb ok tk w σ H rp en xc _ fun w1 S1 H1 r v l1 r1 i1 ⟨A, z, hf, hc, hn, k1⟩ => ?_
  obtain ⟨p, dx, fs, u, e, h1, h2, h3⟩ := hf.at_ r1 i1
  exact ⟨p, A, dx, fs, u, e, h1, by rw [ok.K]; exact hc, by rw [ok.K]; exact hn, h2, n w1 S1 H1 z u l1 r1 h3 k1⟩
/-- o.f = e: a new attribute, an old one -/
inductive PutA (S : Sto) (f : Str) (k : Nat) (z : R) : Addr → Sto → Prop where
  | new {C : Addr} {names : List Str} {rs : List R} : S[k]? = some (.ins C names rs) → names.length < 1000 → f ∉ names → PutA S f k z C (S.set k (.ins C (names ++ [f]) (rs ++ [z])))
  | old {C : Addr} {names : List Str} {rs : List R} {j : Nat} : S[k]? = some (.ins C names rs) → names.length < 1000 → names.Nodup → AtN f j names → PutA S f k z C (S.set k (.ins C names (rs.set j z)))
theorem ws_setA (hv : WE C e env S fun z S1 => WE C o env S1 fun r S2 => ∃ k A S3, r = .loc k ∧ PutA S2 f k z A S3 ∧ Cls C.g.K A ∧ NoAttr C.g.K A f ∧ E.nx env S3) (hs : ∀ X : Cx, swapsWith e (some (.Attribute o f p2)) pos.line X.env = pure false) : WS C (.Assign [.Attribute o f p2] e pos) env S E := fun X W bb ok tk w σ H rp en xc D n => by
  refine ⟨_, ps_fld cE_ok cE_ok (hs X), ?_⟩
  refine hv X W bb ok tk w σ H rp en xc _ fun w1 S1 H1 z v l1 r1 i1 k1 => ?_
  refine k1 X W bb ok tk w1 σ H1 r1 (en.mono l1) (xc.mono l1) _ fun w2 S2 H2 r u l2 r2 i2 ⟨k, A, S3, e, hp, hc, hn, k2⟩ => ?_
  subst e
  obtain ⟨a, ha, ev⟩ := i2
  subst ev
  have iz := i1.mono l2
  cases hp with
  | @new names rs hk hl hf =>
    obtain ⟨a', h3, _, _, dx, vs, h4, h5, h6⟩ := r2.at_ _ _ hk rfl
    rw [ha] at h3; cases h3
    refine ⟨a, A, dx, _, rfl, h4, by rw [ok.K]; exact hc, by rw [ok.K]; exact hn, by rw [List.length_zip]; omega, ?_⟩
    rw [putF_new hf h5]
    exact n.nx w2 _ _ env σ ((l1.trans l2).n _) (r2.write (n' := .ins A (names ++ [f]) (rs ++ [z])) hk rfl ha ⟨dx, vs ++ [v], upd_same, by simp [h5], h6.append (.cons iz .nil)⟩) (en.mono (l1.trans l2)) k2
  | @old names rs j hk hl nd hj =>
    obtain ⟨a', h3, _, _, dx, vs, h4, h5, h6⟩ := r2.at_ _ _ hk rfl
    rw [ha] at h3; cases h3
    refine ⟨a, A, dx, _, rfl, h4, by rw [ok.K]; exact hc, by rw [ok.K]; exact hn, by rw [List.length_zip]; omega, ?_⟩
    rw [putF_old nd hj.get h5]
    exact n.nx w2 _ _ env σ ((l1.trans l2).n _) (r2.write (n' := .ins A names (rs.set j z)) hk rfl ha ⟨dx, vs.set j v, upd_same, by simp [h5], h6.set _ iz⟩) (en.mono (l1.trans l2)) k2

/-! ### methods of own classes, new instances -/
inductive InsR (S : Sto) : R → Addr → List Str → Prop where
  | val (A : Addr) (names : List Str) (ds : List D) : InsR S (.val (.ins A names ds)) A names
  | loc {k : Nat} {A : Addr} {names : List Str} {rs : List R} : S[k]? = some (.ins A names rs) → InsR S (.loc k) A names
theorem InsR.at_ {K : PySem.W.Frag} {bb : Base} {w : Wd} {H : Hp} {r : R} {v : V} {A : Addr} {names : List Str} (h : InsR S r A names) (rp : Rp K bb w S H) (hv : IsR K bb.B w r v) : ∃ p dx vs, v = .ref p ∧ H p = some (.ins A dx (names.zip vs)) := by
  cases h with
  | val =>
    obtain ⟨p, dx, vs, e, h1, _⟩ := hv
    exact ⟨p, dx, vs, e, rp.ex _ _ h1⟩
  | loc h1 =>
    obtain ⟨a, h2, e⟩ := hv
    obtain ⟨a', h3, _, _, dx, vs, h4, _⟩ := rp.at_ _ _ h1 rfl
    rw [h2] at h3; cases h3
    exact ⟨a, dx, vs, e, h4⟩
theorem zip_none {f : Str} : ∀ {names : List Str} {vs : List V}, f ∉ names → (names.zip vs).lookup f = none
  | [], _, _ => by simp
  | _ :: _, [], _ => by simp
  | n :: ns, u :: vs, h => by
    have hne : (f == n) = false := by
      simp only [beq_eq_false_iff_ne]
      intro e; exact h (by simp [e])
    rw [List.zip_cons_cons, List.lookup_cons, hne]
    exact zip_none fun h' => h (List.mem_cons_of_mem _ h')
def tMethS (A : Addr) (m : Str) (sp : Sp) (Ex : L2.St → XK) (ta : TE) (t : TA) : TE := fun σ H Q => ta σ H fun x H1 => ∃ a dx fs, x = .ref a ∧ H1 a = some (.ins A dx fs) ∧ fs.lookup m = none ∧
  t σ H1 fun vs H2 => sp (x :: vs) H2 Q (Ex σ)
section
variable {X : Cx} {CX : CXT} {k : Nat} {ff A : Addr} {fd : FuncData} {ps : List Str} {sp : Sp} {Ex : L2.St → XK} {apos : Pos} {ta : TE} {t : TA}
theorem pe_methS {pl : Sem Bool} (he : PE X o ta) (c : Cls X.K A) (hm : Meth X.K A m ff) (F : FnOk X.prog X.w X.K X.mg X.base CX k ff fd ps sp) (hr : Room k X.A) (hb : Binds X.K fd ps []) (hx : ∀ σ, PassesAt CX X σ (Ex σ)) (ha : PA X (e :: es) t)
    (hst : starEach (e :: es) X.env = (false, eval e X.env) :: starEach es X.env) (hpl : (backTo pos (starEach es X.env)).any (·.1) = false)
    (ht : eval (.Call (.Attribute o m apos) (e :: es) [] pos) X.env = (do
      let ov ← eval o X.env
      standAt apos.atName
      let (f, first) ← holding [ov] (getMethod ov m pl)
      callWith pos f first (backTo pos (starEach (e :: es) X.env)) (backToKw pos (keywordEach [] X.env)))) :
    PE X (.Call (.Attribute o m apos) (e :: es) [] pos) (tMethS A m sp Ex ta t) := by
  refine ⟨fun pins s σ H Q I h => ?_⟩
  refine PySem.W.methodCall_KW (pl := pl) (thn (he.run pins s σ H _ I h) fun u s1 ⟨x, H1, I1, rx, a, dx, fs, ex, ea, l, q⟩ => ?_) ht
  subst ex
  obtain rfl : u = Value.ref a := rx
  refine getmeth_ok I1 ea c hm l ?_
  refine PySem.W.callWith_K (first := [.ref a]) (h₀ := X.base) I.ok.mod.kin hm.kp (thn (ha.run pos pins s1 σ H1 _ I1 q) fun us s2 ⟨vs, H2, I2, r, q2⟩ => ⟨I2.kIn, ?_⟩) hst hpl
  exact run_fnS (us := .ref a :: us) (vs := .ref a :: vs) F hr hb (hx σ) I2 (.cons rfl r) q2
theorem run_makeS {pins : List (Addr × Obj)} {σ : L2.St} {H : Hp} {s : Shared} {Q : VK} {us : List Value} {vs : List V} (M : Mk X.K A ff) (F : FnOk X.prog X.w X.K X.mg X.base CX k ff fd ps sp) (hr : Room (k + 1) X.A) (hb : Binds X.K fd ps [])
    (hx : PassesAt CX X σ (Ex σ)) (I : Inv X pins σ H s) (r : Vals vs us)
    (h : ∀ x dx, H x = none → H dx = none → dx ≠ x → sp (.ref x :: vs) (upd (upd H dx (.own x)) x (.ins A dx [])) (fun v H2 => v = .non ∧ Q (.ref x) H2) (Ex σ)) :
    wpAny (model X.prog X.w) X.A (call (.ref A) us) (EP X pins σ Q) X.xe s := by
  have hq := h (s.heap.objs.size + 1) s.heap.objs.size (I.hok.fresh (Nat.le_succ _)) (I.hok.fresh (Nat.le_refl _)) (Nat.ne_of_lt (Nat.lt_succ_self _))
  have I2 := Inv.made (C := A) I
  have r2 : Vals (V.ref (s.heap.objs.size + 1) :: vs) (Value.ref (s.heap.objs.size + 1) :: us) := .cons rfl r
  have hl : (Value.ref (s.heap.objs.size + 1) :: us ++ []).length = ps.length := by
    have e := r2.length
    rw [F.len _ _ _ _ hq] at e
    rw [List.append_nil]
    exact e.symm
  have bb := hb _ (Value.ref (s.heap.objs.size + 1) :: us) I2.kIn hl
  rw [List.append_nil] at bb
  refine wpAny_call (make_map (f := ff) I.kIn M.makes M.init (beq_iff_eq.mp M.fn) (codeAny_mono (F.run _ X.stack _ _ ⟨Value.ref (s.heap.objs.size + 1) :: us, []⟩ (Value.ref (s.heap.objs.size + 1) :: us) _ _ (Ex σ) (hr.make A us [])
    (I2.env0.make A us []) bb r2 hq) fun r s' hq' => ?_))
  cases r with
  | error e => exact hx pins _ _ e s' I2 hq'
  | ok fl =>
    cases fl with
    | ret u =>
      obtain ⟨v, H', I3, rv, ev, q3⟩ := I2.after hq'
      subst ev
      exact ⟨rv, ⟨V.ref (s.heap.objs.size + 1), H', I3, rfl, q3⟩⟩
    | next => exact False.elim hq'
    | brk => exact False.elim hq'
    | cont => exact False.elim hq'
def tMakeS (A : Addr) (sp : Sp) (Ex : L2.St → XK) (t : TA) : TE := fun σ H Q => t σ H fun vs H1 => ∀ x dx, H1 x = none → H1 dx = none → dx ≠ x →
  sp (.ref x :: vs) (upd (upd H1 dx (.own x)) x (.ins A dx [])) (fun v H2 => v = .non ∧ Q (.ref x) H2) (Ex σ)
theorem pe_makeS (M : Mk X.K A ff) (F : FnOk X.prog X.w X.K X.mg X.base CX k ff fd ps sp) (hr : Room (k + 1) X.A) (hg : Gl X x) (hm : X.mg x = some (.ref A)) (hb : Binds X.K fd ps []) (hx : ∀ σ, PassesAt CX X σ (Ex σ))
    (ha : PA X (e :: es) t) (hdb : (x == ("__debug__" : Str)) = false) (he : starEach (e :: es) X.env = (false, eval e X.env) :: starEach es X.env) (hpl : (backTo pos (starEach es X.env)).any (·.1) = false) :
    PE X (.Call (.Name x p2) (e :: es) [] pos) (tMakeS A sp Ex t) := by
  refine ⟨fun pins s σ H Q I h => ?_⟩
  refine wpAny_Call_Name_kw (ld_glob I hg hm ?_ hdb)
  refine PySem.W.callWith_K (h₀ := X.base) I.ok.mod.kin M.kp (thn (ha.run pos pins s σ H _ I h) fun us s1 ⟨vs, H1, I1, r, q⟩ => ⟨I1.kIn, ?_⟩) he hpl
  exact run_makeS M F hr hb (hx σ) I1 r q
end
/-- o.m(e, ..) -/
theorem we_meth {ff A : Addr} {k : Nat} {ps : List Str} {s : DSp} {apos : Pos} {pl : Cx → Sem Bool} (G : FnD C.g k ff ps s) (hcl : Cls C.g.K A) (hm : Meth C.g.K A m ff) (hk : k ≤ C.k) (hc : C.calm = true)
    (h : WE C o env S fun r S1 => ∃ names, InsR S1 r A names ∧ m ∉ names ∧ WA C (e :: es) env S1 fun rs S2 => FnC C s (r :: rs) env S2 Ψ)
    (he : ∀ X : Cx, starEach (e :: es) X.env = (false, eval e X.env) :: starEach es X.env) (hp : ∀ X : Cx, (backTo pos (starEach es X.env)).any (·.1) = false)
    (ht : ∀ X : Cx, eval (.Call (.Attribute o m apos) (e :: es) [] pos) X.env = (do
      let ov ← eval o X.env
      standAt apos.atName
      let (f, first) ← holding [ov] (getMethod ov m (pl X))
      callWith pos f first (backTo pos (starEach (e :: es) X.env)) (backToKw pos (keywordEach [] X.env)))) : WE C (.Call (.Attribute o m apos) (e :: es) [] pos) env S Ψ := fun X W bb ok tk w σ H rp en xc Q n => by
  obtain ⟨g, cN, csc, vis, wr, gl, kk, calm, n0, xi, ho⟩ := C
  have eg : gdOf X = g := ok.gd
  subst eg
  obtain ⟨⟨fd, F, B⟩, kp⟩ := G
  refine ⟨_, pe_methS (pl := pl X) cE_ok hcl hm F ((ok.calm hc).2.mono hk) B (fun σ => passAt tk σ) cA_ok (he X) (hp X) (ht X), ?_⟩
  refine h X W bb ok tk w σ H rp en xc _ fun w1 S1 H1 r v l1 r1 i1 ⟨names, hi, hn, k1⟩ => ?_
  obtain ⟨p, dx, vs, ev, hH⟩ := hi.at_ r1 i1
  refine ⟨p, dx, _, ev, hH, zip_none hn, ?_⟩
  refine k1 X W bb ok tk w1 σ H1 r1 (en.mono l1) (xc.mono l1) _ fun w2 S2 H2 rs us l2 r2 i2 k2 => ?_
  exact k2.run r2 (en.mono (l1.trans l2)) (xc.mono (l1.trans l2)) (.cons (i1.mono l2) i2) (n.mono (l1.trans l2))
/-- A(e, ..): a new instance -/
theorem we_make {ff A : Addr} {k : Nat} {ps : List Str} {s : DSp} (G : FnD C.g k ff ps s) (M : Mk C.g.K A ff) (hx : InG x C.gl) (hm : C.g.mg x = some (.ref A)) (hk : k + 1 ≤ C.k) (hc : C.calm = true)
    (h : WA C (e :: es) env S fun rs S1 => FnC C s (.loc S1.length :: rs) env (S1 ++ [.ins A [] []]) fun z S2 => z = .val .non ∧ Ψ (.loc S1.length) S2)
    (he : ∀ X : Cx, starEach (e :: es) X.env = (false, eval e X.env) :: starEach es X.env) (hp : ∀ X : Cx, (backTo pos (starEach es X.env)).any (·.1) = false) : WE C (.Call (.Name x p2) (e :: es) [] pos) env S Ψ := fun X W bb ok tk w σ H rp en xc Q n => by
  obtain ⟨g, cN, csc, vis, wr, gl, kk, calm, n0, xi, ho⟩ := C
  obtain ⟨h1, h2⟩ := ok.gl _ hx.mem
  have eg : gdOf X = g := ok.gd
  subst eg
  obtain ⟨⟨fd, F, B⟩, kp⟩ := G
  refine ⟨_, pe_makeS M F ((ok.calm hc).2.mono hk) h1 hm B (fun σ => passAt tk σ) cA_ok (plain_of h2).1 (he X) (hp X), ?_⟩
  refine h X W bb ok tk w σ H rp en xc _ fun w1 S1 H1 rs vs l1 r1 i1 k1 => fun y dx hy hdx hne => ?_
  have r2 := r1.more (o := .own y) hdx
  have hy2 : upd H1 dx (HO.own y) y = none := by rw [upd_ne (Ne.symm hne)]; exact hy
  obtain ⟨r3, l3⟩ := r2.alloc (n := .ins A [] []) (o := .ins A dx []) hy2 ⟨dx, [], upd_same, rfl, .nil⟩
  have l13 := l1.trans l3
  refine k1.run r3 (en.mono l13) (xc.mono l13) (.cons (loc_new r2 y) (i1.mono l3)) fun w4 S4 H4 z v l4 r4 i4 ⟨ez, k4⟩ => ?_
  subst ez
  have i4 : v = V.non := i4
  exact ⟨i4, n w4 S4 H4 (.loc S1.length) _ (l13.trans l4) r4 ((loc_new r2 y).mono l4) k4⟩
end
end DL
set_option Elab.async false
set_option linter.all false
set_option maxRecDepth 100000
set_option maxHeartbeats 4000000
namespace DL
open PySem PySem.Spec PyProof.Rows
open L2 hiding Takes passAt takes_of ps_raise PMk ps_try_as
open L2N (Takes passAt takes_of ps_raise PMk ps_try_as)

/-! ### list comprehensions -/
def wipeN (e : Nv) : List Nat → Nv
  | [] => e
  | v :: vs => (wipeN e vs).set v none
theorem wipe_set {σ : L2.St} {i : Nat} {y : Option V} : ∀ {vs : List Nat}, i ∈ vs → wipe (σ.set i y) vs = wipe σ vs
  | v :: vs, h => by
    by_cases hv : i = v
    · subst hv
      by_cases hm : i ∈ vs
      · show (wipe (σ.set i y) vs).set i none = (wipe σ vs).set i none
        rw [wipe_set hm]
      · have key : ∀ {us : List Nat}, i ∉ us → wipe (σ.set i y) us = (wipe σ us).set i y := fun {us} => by
          induction us with
          | nil => intro _; rfl
          | cons u us ih =>
            intro hu
            have h1 : i ≠ u := fun e => hu (by simp [e])
            have h2 : i ∉ us := fun e => hu (by simp [e])
            show (wipe (σ.set i y) us).set u none = ((wipe σ us).set u none).set i y
            rw [ih h2, List.set_comm _ _ h1]
        show (wipe (σ.set i y) vs).set i none = (wipe σ vs).set i none
        rw [key hm, List.set_set]
    · have hm : i ∈ vs := by
        rcases List.mem_cons.mp h with h | h
        · exact absurd h hv
        · exact h
      show (wipe (σ.set i y) vs).set v none = (wipe σ vs).set v none
      rw [wipe_set hm]
theorem EnvIs.wipe {K : PySem.W.Frag} {b : Base} {w : Wd} {env : Nv} {σ : L2.St} (h : EnvIs K b w env σ) : ∀ vs : List Nat, EnvIs K b w (wipeN env vs) (L2.wipe σ vs)
  | [] => h
  | v :: vs => by
    obtain ⟨h1, h2⟩ := EnvIs.wipe h vs
    refine ⟨by show ((L2.wipe σ vs).set v none).length = ((wipeN env vs).set v none).length; rw [List.length_set, List.length_set]; exact h1, fun i r e => ?_⟩
    have e : ((wipeN env vs).set v none)[i]? = some (some r) := e
    show ∃ x, ((L2.wipe σ vs).set v none)[i]? = some (some x) ∧ _
    by_cases hi : v = i
    · subst hi
      by_cases hl : v < (wipeN env vs).length
      · rw [List.getElem?_set_self hl] at e; cases e
      · rw [List.getElem?_eq_none (by simpa using hl)] at e; cases e
    · rw [List.getElem?_set_ne hi] at e ⊢
      exact h2 i r e
theorem wipe_wipe {σ : L2.St} {vs : List Nat} : ∀ {us : List Nat}, (∀ u ∈ us, u ∈ vs) → wipe (wipe σ us) vs = wipe σ vs
  | [], _ => rfl
  | u :: us, h => by
    show wipe ((wipe σ us).set u none) vs = _
    rw [wipe_set (h u List.mem_cons_self)]
    exact wipe_wipe fun v hv => h v (List.mem_cons_of_mem _ hv)
section
variable {C : DC} {env : Nv} {S : Sto} {Ψ : R → Sto → Prop} {Θ : Bool → Sto → Prop} {Φ : List R → Sto → Prop} {Ω : Nv → Sto → Prop} {E : Nd} {pos p2 p3 : Pos} {a b c e o tg elt iter : Expr} {es rest ifs : List Expr} {x f m : Str}
/-- the newer objects of a value's reckoning settled -/
theorem we_settle (h : WE C e env S fun r S1 => ∃ n r', S.length ≤ n ∧ n ≤ S1.length ∧ (S1.take n).all (Node.okB n) = true ∧ ((okE n r = true ∧ r' = r) ∨ ∃ d, Fz S1 n r d ∧ r' = .val d) ∧ Ψ r' (S1.take n)) : WE C e env S Ψ := fun X W bb ok tk w σ H rp en xc Q nn => by
  refine h X W bb ok tk w σ H rp en xc _ fun w1 S1 H1 r v l1 r1 i1 ⟨n, r', h1, h2, h3, h4, h5⟩ => ?_
  have b0 : bb.as0.length ≤ n := by
    obtain ⟨t, e⟩ := rp.pre
    have : w.as.length = S.length := rp.len
    rw [e, List.length_append] at this
    omega
  have lg : Ex w1.G (gSet bb w1 S1 n H1) := (gSet_ex r1 n).1
  have l : Le w ⟨gSet bb w1 S1 n H1, w1.as.take n⟩ := by
    refine ⟨l1.g.trans lg, ?_⟩
    obtain ⟨t, e⟩ := l1.a
    have : w.as.length = S.length := rp.len
    exact ⟨t.take (n - w.as.length), by show w1.as.take n = _; rw [e, List.take_append, List.take_of_length_le (by omega)]⟩
  refine nn _ _ _ r' v l (r1.settle h2 b0 h3) ?_ h5
  rcases h4 with ⟨o, rfl⟩ | ⟨d, hf, rfl⟩
  · exact (i1.cutE o).mono ⟨lg, [], by simp⟩
  · exact Fz.is r1 b0 hf v i1

/-- a target within a comprehension: only the block's own slots change -/
def WGw (C : DC) (vs : List Nat) (tg : Expr) (r : R) (env : Nv) (S : Sto) (Ω : Nv → Sto → Prop) : Prop := ∀ X W b, OkC X C → Takes X W → ∀ w σ H, Rp C.g.K b w S H → EnvIs C.g.K b w env σ → XCov C.g.K b w C.n0 C.xi W → ∀ v, IsR C.g.K b.B w r v → ∀ Q, ECov C.g.K b w C.n0 Ω (fun σ' H' => wipe σ' vs = wipe σ vs → Q σ' H') → cG X tg v σ H Q
def WGsw (C : DC) (vs : List Nat) (tg : List Expr) (ds : List D) (env : Nv) (S : Sto) (Ω : Nv → Sto → Prop) : Prop := ∀ X W b, OkC X C → Takes X W → ∀ w σ H, Rp C.g.K b w S H → EnvIs C.g.K b w env σ → XCov C.g.K b w C.n0 C.xi W → ∀ us, IsL C.g.K w.G ds us → ∀ Q, ECov C.g.K b w C.n0 Ω (fun σ' H' => wipe σ' vs = wipe σ vs → Q σ' H') → ∃ g, PGs X tg g ∧ g us σ H Q
theorem wgw_name {vs : List Nat} {i : Nat} {r : R} (hx : InV x i C.wr) (hi : vs.contains i = true) (h : Ω (env.set i (some r)) S) : WGw C vs (.Name x pos) r env S Ω := fun X W bb ok tk w σ H rp en xc v hv Q n => by
  obtain ⟨h1, h2, h3⟩ := ok.wr _ hx.mem
  exact ⟨_, pg_name ok.nd h1 h2 h3, n w S H _ _ (LeN.refl _ _) rp (en.set i hv) h (wipe_set (by simpa using hi))⟩
theorem wgsw_nil {vs : List Nat} (h : Ω env S) : WGsw C vs [] [] env S Ω := fun X W bb ok tk w σ H rp en xc us hv Q n => by
  have hv : us = [] := hv
  subst hv
  exact ⟨_, pgs_nil, rfl, n w S H _ _ (LeN.refl _ _) rp en h rfl⟩
theorem wgsw_cons {vs : List Nat} {d : D} {ds : List D} (h : WGw C vs e (.val d) env S fun env1 S1 => WGsw C vs es ds env1 S1 Ω) (hs : ∀ X : Cx, (assignEach (e :: es) X.env).map (·.2) = assign e X.env :: (assignEach es X.env).map (·.2)) : WGsw C vs (e :: es) (d :: ds) env S Ω := fun X W bb ok tk w σ H rp en xc us hv Q n => by
  obtain ⟨v, t, e1, hv, ht⟩ := hv
  subst e1
  refine ⟨gCons (cG X e) (fun us σ H Q => ∃ g, PGs X es g ∧ g us σ H Q), pgs_cons cG_ok ⟨fun pins s σ H v u Q I r ⟨_, p, h⟩ => p.run pins s σ H v u Q I r h⟩ (hs X), v, t, rfl, ?_⟩
  refine h X W bb ok tk w σ H rp en xc v hv _ fun w1 S1 H1 env1 σ1 l1 r1 e1 k1 hw => ?_
  refine k1 X W bb ok tk w1 σ1 H1 r1 e1 (xc.monoN l1) t (IsL.mono l1.g ds t ht) Q fun w2 S2 H2 env2 σ2 l2 r2 e2 k2 hw2 => ?_
  exact n w2 S2 H2 env2 σ2 (l1.trans l2) r2 e2 k2 (hw2.trans hw)
theorem wgw_tup {vs : List Nat} {k : Nat} {ds : List D} (hc : C.calm = true) (h : WGsw C vs es ds env S Ω) (hn : ∀ X : Cx, (assignEach es X.env).length = ds.length) (hst : ∀ X : Cx, (assignEach es X.env).findIdx? (·.1) = none) : WGw C vs (.Tuple es k pos) (.val (.tup ds)) env S Ω := fun X W bb ok tk w σ H rp en xc v hv Q n => by
  obtain ⟨p, us, e1, hp, hl⟩ := hv
  subst e1
  obtain ⟨g, pg, hg⟩ := h X W bb ok tk w σ H rp en xc us hl Q n
  exact ⟨_, pg_tup (ok.calm hc).1 pg (hn X) (hst X), p, us, rfl, SqT.of (rp.ex _ _ hp), (IsL.length hl).symm, hg⟩

/-- the block, seen from its def -/
def lcB (N : List Str) (sc scope : Scope) (own vis wr : List (Str × Nat)) (gl : List Str) : Bool :=
  blkC N sc scope own && (vis.all fun p => decide (N[p.2]? = some p.1) && (locB (relS scope sc) p.1 || decide ((relS scope sc).names.lookup p.1 = some .free)) && plainName p.1) &&
    (wr.all fun p => decide (N[p.2]? = some p.1) && (decide ((relS scope sc).names.lookup p.1 = some .local) || (decide (scope.names.lookup p.1 = some .cell) && decide ((relS scope sc).names.lookup p.1 = some .cell)))) &&
    (gl.all fun x => decide ((relS scope sc).names.lookup x = some .globalImplicit) && plainName x)
abbrev DC.blk (C : DC) (scope : Scope) (vis wr : List (Str × Nat)) (gl : List Str) (n : Nat) : DC := ⟨C.g, C.N, relS scope C.sc, vis, wr, gl, C.k, C.calm, n, fun _ _ _ _ _ => False, ⟨false, none, none⟩⟩
theorem OkC.blk {X : Cx} {scope : Scope} {own vis wr : List (Str × Nat)} {gl : List Str} {n : Nat} {s : Shared} {H : Hp} {cl : List (Str × Addr)} {A : Addr} {fp : List Addr} (ok : OkC X C) (h : lcB C.N C.sc scope own vis wr gl = true) : OkC (X.blk s H scope (compEnvC scope cl A X.env) fp) (C.blk scope vis wr gl n) := by
  unfold lcB at h
  simp only [Bool.and_eq_true, List.all_eq_true, decide_eq_true_eq, Bool.or_eq_true] at h
  obtain ⟨⟨⟨h1, h2⟩, h3⟩, h4⟩ := h
  have esc : relabel scope X.env = relS scope C.sc := by rw [← ok.sc]; rfl
  refine ⟨ok.gd, ok.N, esc, ok.nd, fun p hp => ?_, fun p hp => ?_, fun x hx => ?_, ok.calm, ok.un, PassesOwn.never, (fun _ z => nomatch z), (fun _ z => nomatch z), (fun z => nomatch z)⟩
  · obtain ⟨⟨q1, q2⟩, q3⟩ := h2 p hp
    refine ⟨by rw [← ok.N] at q1; exact q1, ?_, q3⟩
    show Vis (relabel scope X.env) p.1
    rw [esc]
    rcases q2 with q2 | q2
    · rcases locB_ok q2 with q2 | q2
      · exact .inl q2
      · exact .inr (.inl q2)
    · exact .inr (.inr q2)
  · obtain ⟨q1, q2⟩ := h3 p hp
    refine ⟨by rw [← ok.N] at q1; exact q1, ?_, ?_⟩
    · show Loc (relabel scope X.env) p.1
      rw [esc]
      rcases q2 with q2 | ⟨_, q2⟩
      · exact .inl q2
      · exact .inr q2
    · rcases q2 with q2 | ⟨q2, _⟩
      · right
        show (relabel scope X.env).names.lookup p.1 = _
        rw [esc]; exact q2
      · left
        show (scope.names.lookup p.1 == some .cell) = true
        rw [q2]; rfl
  · obtain ⟨q1, q2⟩ := h4 x hx
    refine ⟨?_, q2⟩
    show (relabel scope X.env).names.lookup x = _
    rw [esc]; exact q1
theorem takes_blk {X : Cx} : Takes X (fun _ _ _ _ => False) := fun u s' ⟨_, _, _, _, _, _, _, _, _, _, _, _, _, _, _, _, h⟩ => h.elim
/-- the tests of a clause -/
def cTs (X : Cx) (ifs : List Expr) : TT := fun σ H Q => ∃ t, PTs X ifs t ∧ t σ H Q
def WTs (C : DC) (e : List Expr) (env : Nv) (S : Sto) (Ψ : Bool → Sto → Prop) : Prop := ∀ X W b, OkC X C → Takes X W → ∀ w σ H, Rp C.g.K b w S H → EnvIs C.g.K b w env σ → XCov C.g.K b w C.n0 C.xi W → ∀ Q, TCov C.g.K b w Ψ Q → cTs X e σ H Q
theorem wts_nil (h : Θ true S) : WTs C [] env S Θ := fun X W bb ok tk w σ H rp en xc Q n => ⟨_, pts_nil, n w S H true (Le.refl _) rp h⟩
theorem wts_one (h : WT C e env S Θ) : WTs C [e] env S Θ := fun X W bb ok tk w σ H rp en xc Q n => by
  obtain ⟨t, p, h⟩ := h X W bb ok tk w σ H rp en xc Q n
  exact ⟨_, pts_one p, h⟩
/-- what stands behind a comprehension, at the values' level -/
theorem lc_wp {scope : Scope} {own vis wr : List (Str × Nat)} {gl : List Str} (hb : lcB C.N C.sc scope own vis wr gl = true) (hc : C.calm = true)
    (h : WI C tg iter env S fun ds SG S1 => ∃ I : Nat → Sto → Prop, I 0 (S1 ++ [.lst []]) ∧ (∀ i S', I i S' → SG S') ∧
      (∀ i d S', ds[i]? = some d → I i S' → WGw (C.blk scope vis wr gl (S1.length + 1)) (own.map (·.2)) tg (.val d) (wipeN env (own.map (·.2))) S' fun e2 S2 => WTs (C.blk scope vis wr gl (S1.length + 1)) ifs e2 S2 fun k S3 =>
        (k = false → I (i + 1) S3) ∧ (k = true → WE (C.blk scope vis wr gl (S1.length + 1)) elt e2 S3 fun r S4 => ∃ rs, S4[S1.length]? = some (.lst rs) ∧ rs.length < sizeLine ∧ I (i + 1) (S4.set S1.length (.lst (rs ++ [r]))))) ∧
      (∀ S', I ds.length S' → Ψ (.loc S1.length) S'))
    {X : Cx} {W : WX} {bb : Base} (ok : OkC X C) (tk : Takes X W) {w : Wd} {σ : L2.St} {H : Hp} (rp : Rp C.g.K bb w S H) (en : EnvIs C.g.K bb w env σ) (xc : XCov C.g.K bb w C.n0 C.xi W) {Q : VK} (n : NCov C.g.K bb w Ψ Q) :
    tLc (cI X tg iter) (fun v σ H Q => ∀ s H0 A cl fp, cG (X.blk s H0 scope (compEnvC scope cl A X.env) fp) tg v σ H Q) (fun σ H Q => ∀ s H0 A cl fp, cTs (X.blk s H0 scope (compEnvC scope cl A X.env) fp) ifs σ H Q)
      (fun σ H Q => ∀ s H0 A cl fp, cE (X.blk s H0 scope (compEnvC scope cl A X.env) fp) elt σ H Q) (own.map (·.2)) σ H Q := by
  refine h X W bb ok tk w σ H rp en xc _ fun w1 S1 H1 J ds SG l1 r1 wk ⟨I, h0, hG, hstep, hend⟩ => ?_
  obtain ⟨G, Y, wlk, hg, hy⟩ := wk.ex
  intro L hL
  have b0 : bb.as0.length ≤ S1.length := by
    obtain ⟨t, e⟩ := r1.pre
    rw [← r1.len, e, List.length_append]; omega
  obtain ⟨r2, l2⟩ := r1.alloc (n := .lst []) (o := .lst []) hL ⟨[], upd_same, .nil⟩
  refine ⟨fun i m H' => ∃ w' S', Le ⟨w1.G, w1.as ++ [L]⟩ w' ∧ Rp C.g.K bb w' S' H' ∧ I i S' ∧ m = ds.length - i ∧ i ≤ ds.length, ⟨_, _, _, Le.refl _, r2, h0, rfl, Nat.zero_le _⟩, ?_⟩
  rintro i m H2 ⟨w3, S3, l3, r3, i3, rfl, hi⟩
  have lw : Le w w3 := (l1.trans l2).trans l3
  have aL : ∀ {w' : Wd}, Le w3 w' → w'.as[S1.length]? = some L := fun l => l.at_ (l3.at_ (by rw [← r1.len]; simp))
  by_cases hlt : i < ds.length
  · have hd : ds[i]? = some ds[i] := by simp [hlt]
    refine .inr ⟨wlk.goes i H2 hlt (hg w3 S3 H2 (l2.trans l3) r3 (hG i S3 i3)), fun H' => ∃ w' S', Le ⟨w1.G, w1.as ++ [L]⟩ w' ∧ Rp C.g.K bb w' S' H' ∧ I (i + 1) S',
      fun H' ⟨w', S', q1, q2, q3⟩ => ⟨ds.length - (i + 1), by omega, w', S', q1, q2, q3, rfl, hlt⟩, fun x H4 yy => ?_⟩
    obtain ⟨w4, l4, r4, x4⟩ := hy w3 S3 H2 i x H4 ds[i] (l2.trans l3) r3 (hG i S3 i3) hd (wlk.yields i H2 x H4 hlt (hg w3 S3 H2 (l2.trans l3) r3 (hG i S3 i3)) yy)
    intro sb Hb Ab cl fp
    have en4 := (en.mono (lw.trans l4)).wipe (own.map (·.2))
    have len4 : w4.as.length ≥ S1.length + 1 := by
      obtain ⟨t, e⟩ := (l3.trans l4).a
      have : w1.as.length = S1.length := r1.len
      rw [e]; simp; omega
    refine hstep i ds[i] S3 hd i3 _ (fun _ _ _ _ => False) bb (ok.blk hb) takes_blk w4 _ H4 r4 en4 ⟨Nat.le_succ_of_le b0, fun _ _ _ _ _ _ _ _ _ _ _ _ _ _ _ _ z => z.elim⟩ x x4 _ fun w5 S5 H5 env5 σ5 l5 r5 e5 k5 hw => ?_
    refine ⟨hw.trans (wipe_wipe (fun _ h => h)), ?_⟩
    have l15 : Le ⟨w1.G, w1.as ++ [L]⟩ w5 := by
      refine LeN.le (n := S1.length + 1) (((l3.trans l4).n _).trans l5) ?_
      have : w1.as.length = S1.length := r1.len
      simp; omega
    have x0 : ∀ {w' : Wd}, XCov C.g.K bb w' (S1.length + 1) (fun _ _ _ _ _ => False) (fun _ _ _ _ => False) := ⟨Nat.le_succ_of_le b0, fun _ _ _ _ _ _ _ _ _ _ _ _ _ _ _ _ z => z.elim⟩
    intro sb Hb Ab cl fp
    refine k5 _ (fun _ _ _ _ => False) bb (ok.blk hb) takes_blk w5 _ H5 r5 e5 x0 _ fun w6 S6 H6 k l6 r6 k6 => ?_
    cases k with
    | false => exact ⟨w6, S6, l15.trans l6, r6, k6.1 rfl⟩
    | true =>
      show if true = true then _ else _
      rw [if_pos rfl]
      intro sb Hb Ab cl fp
      refine k6.2 rfl _ (fun _ _ _ _ => False) bb (ok.blk hb) takes_blk w6 _ H6 r6 (e5.mono l6) x0 _ fun w7 S7 H7 r v l7 r7 i7 ⟨rs, hrs, hz, hI⟩ => ?_
      have l17 := l15.trans (l6.trans l7)
      have a7 : w7.as[S1.length]? = some L := l17.at_ (by rw [← r1.len]; simp)
      obtain ⟨a', h3, _, _, vs, h4, h5⟩ := r7.at_ _ _ hrs rfl
      rw [a7] at h3; cases h3
      refine ⟨vs, h4, by rw [← IsRs.length h5]; exact hz, w7, _, l17, r7.write (n' := .lst (rs ++ [r])) hrs rfl a7 ⟨vs ++ [v], upd_same, h5.append (.cons i7 .nil)⟩, hI⟩
  · have e : i = ds.length := by omega
    subst e
    refine .inl ⟨wlk.stops H2 (hg w3 S3 H2 (l2.trans l3) r3 (hG _ S3 i3)), ?_⟩
    exact n w3 S3 H2 (.loc S1.length) _ lw r3 ⟨L, aL (Le.refl _), rfl⟩ (hend S3 i3)
theorem cG_blk {X : Cx} {scope : Scope} (s : Shared) (H0 : Hp) (A : Addr) (cl : List (Str × Addr)) (fp : List Addr) : PG (X.blk s H0 scope (compEnvC scope cl A X.env) fp) tg (fun v σ H Q => ∀ s H0 A cl fp, cG (X.blk s H0 scope (compEnvC scope cl A X.env) fp) tg v σ H Q) :=
  ⟨fun pins s' σ H v u Q I r h => cG_ok.run pins s' σ H v u Q I r (h s H0 A cl fp)⟩
theorem cTs_blk {X : Cx} {scope : Scope} (s : Shared) (H0 : Hp) (A : Addr) (cl : List (Str × Addr)) (fp : List Addr) : PTs (X.blk s H0 scope (compEnvC scope cl A X.env) fp) ifs (fun σ H Q => ∀ s H0 A cl fp, cTs (X.blk s H0 scope (compEnvC scope cl A X.env) fp) ifs σ H Q) :=
  ⟨fun pins s' σ H Q I h => by
    obtain ⟨t, p, h⟩ := h s H0 A cl fp
    exact p.run pins s' σ H Q I h⟩
theorem cE_blk {X : Cx} {scope : Scope} (s : Shared) (H0 : Hp) (A : Addr) (cl : List (Str × Addr)) (fp : List Addr) : PE (X.blk s H0 scope (compEnvC scope cl A X.env) fp) e (fun σ H Q => ∀ s H0 A cl fp, cE (X.blk s H0 scope (compEnvC scope cl A X.env) fp) e σ H Q) :=
  ⟨fun pins s' σ H Q I h => cE_ok.run pins s' σ H Q I (h s H0 A cl fp)⟩
theorem lcB_blk {X : Cx} {scope : Scope} {own vis wr : List (Str × Nat)} {gl : List Str} (ok : OkC X C) (h : lcB C.N C.sc scope own vis wr gl = true) : BlkOk X.N X.env.scope scope own := by
  unfold lcB at h
  simp only [Bool.and_eq_true] at h
  rw [ok.N, ok.sc]
  exact blkOk_by h.1.1.1
def LcI (C : DC) (tg elt : Expr) (ifs : List Expr) (scope : Scope) (own vis wr : List (Str × Nat)) (gl : List Str) (env : Nv) (Ψ : R → Sto → Prop) (ds : List D) (SG : Sto → Prop) (S1 : Sto) : Prop :=
  ∃ I : Nat → Sto → Prop, I 0 (S1 ++ [.lst []]) ∧ (∀ i S', I i S' → SG S') ∧
      (∀ i d S', ds[i]? = some d → I i S' → WGw (C.blk scope vis wr gl (S1.length + 1)) (own.map (·.2)) tg (.val d) (wipeN env (own.map (·.2))) S' fun e2 S2 => WTs (C.blk scope vis wr gl (S1.length + 1)) ifs e2 S2 fun k S3 =>
        (k = false → I (i + 1) S3) ∧ (k = true → WE (C.blk scope vis wr gl (S1.length + 1)) elt e2 S3 fun r S4 => ∃ rs, S4[S1.length]? = some (.lst rs) ∧ rs.length < sizeLine ∧ I (i + 1) (S4.set S1.length (.lst (rs ++ [r]))))) ∧
      (∀ S', I ds.length S' → Ψ (.loc S1.length) S')
/-- [elt for tg in iter if ..] -/
theorem we_lc {scope : Scope} (own vis wr : List (Str × Nat)) (gl : List Str) (hb : lcB C.N C.sc scope own vis wr gl = true) (hc : C.calm = true)
    (h : WI C tg iter env S fun ds SG S1 => LcI C tg elt ifs scope own vis wr gl env Ψ ds SG S1) (hs : ∀ X : Cx, ∀ x, foldedSetIterable iter X.env x = pure x) : WE C (.ListComp elt [⟨tg, iter, ifs, 0⟩] scope pos) env S Ψ := fun X W bb ok tk w σ H rp en xc Q n =>
  ⟨_, pe_lc (ok.calm hc).1 ok.nd cI_ok (lcB_blk ok hb) cG_blk cTs_blk cE_blk (hs X), lc_wp hb hc h ok tk rp en xc n⟩
/-- name = [elt for tg in iter if ..] on one line -/
theorem ws_setLc {scope : Scope} {i : Nat} (own vis wr : List (Str × Nat)) (gl : List Str) (hb : lcB C.N C.sc scope own vis wr gl = true) (hc : C.calm = true) (hx : InV x i C.wr)
    (h : WI C tg iter env S fun ds SG S1 => LcI C tg elt ifs scope own vis wr gl env (fun r S1 => E.nx (env.set i (some r)) S1) ds SG S1) (hs : ∀ X : Cx, ∀ x, foldedSetIterable iter X.env x = pure x)
    (hk : C.sc.kind = .function) (hxl : C.sc.names.lookup x = some .local) (hl : (p2.line == p3.line) = true) (ha : (scope.names.any fun (n, k) => n == x && (k == .local || k == .cell)) = false) :
    WS C (.Assign [.Name x p2] (.ListComp elt [⟨tg, iter, ifs, 0⟩] scope p3) pos) env S E := fun X W bb ok tk w σ H rp en xc D n => by
  obtain ⟨h1, h2, h3⟩ := ok.wr _ hx.mem
  refine ⟨_, ps_setLc (ok.calm hc).1 ok.nd h1 (by rw [ok.sc]; exact hxl) ?_ cI_ok (lcB_blk ok hb) cG_blk cTs_blk cE_blk (hs X), lc_wp hb hc h ok tk rp en xc (Q := fun v H1 => D.nx (σ.set i (some v)) H1) fun w1 S1 H1 r v l1 r1 i1 k1 => n.nx w1 S1 H1 _ _ (l1.n _) r1 ((en.mono l1).set i i1) k1⟩
  exact sw_true (by rw [ok.sc]; exact hk) (by rw [ok.sc]; exact hxl) hl ha
end
end DL
set_option Elab.async false
set_option linter.all false
set_option maxRecDepth 100000
set_option maxHeartbeats 4000000
namespace DL
open PySem PySem.Spec PyProof.Rows
open L2 hiding Takes passAt takes_of ps_raise PMk ps_try_as
open L2N (Takes passAt takes_of ps_raise PMk ps_try_as)
section
variable {C : DC} {env : Nv} {S : Sto} {Ψ : R → Sto → Prop} {Θ : Bool → Sto → Prop} {Φ : List R → Sto → Prop} {Ω : Nv → Sto → Prop} {Λ : List D → (Sto → Prop) → Sto → Prop} {E : Nd} {pos p2 p3 : Pos} {a b c e o tg elt iter : Expr} {es rest ifs : List Expr} {x f m : Str}

/-! ### put together: tuples, lists -/
theorem wo_catT {ds es : List D} (hl : ds.length + es.length ≤ sizeLine) (h : Ψ (.val (.tup (ds ++ es))) S) : WO C (binaryOp .Add) (.val (.tup ds)) (.val (.tup es)) S Ψ := fun X b ok w H rp v u hv hu Q n => by
  obtain ⟨p, vs, e, h1, h2⟩ := hv
  obtain ⟨q, us, e', g1, g2⟩ := hu
  subst e e'
  refine ⟨_, op_catA, p, q, vs, us, rfl, rfl, SqT.of (rp.ex _ _ h1), SqT.of (rp.ex _ _ g1), by rw [← IsL.length h2, ← IsL.length g2]; exact hl, fun z => ?_, fun _ z => ?_, fun _ _ l hn => ?_⟩
  · have : ds = [] := List.eq_nil_of_length_eq_zero (by rw [IsL.length h2, z]; rfl)
    subst this
    exact n.at_ (d := .tup es) rp ⟨q, us, rfl, g1, g2⟩ h
  · have : es = [] := List.eq_nil_of_length_eq_zero (by rw [IsL.length g2, z]; rfl)
    subst this
    rw [List.append_nil] at h
    exact n.at_ (d := .tup ds) rp ⟨p, vs, rfl, h1, h2⟩ h
  · obtain ⟨r2, l2⟩ := rp.known (o := .tup (vs ++ us)) hn
    exact n _ _ _ (.val (.tup (ds ++ es))) _ l2 r2 ⟨l, vs ++ us, rfl, upd_same, IsL.append (IsL.mono l2.g _ _ h2) (IsL.mono l2.g _ _ g2)⟩ h
theorem wo_catL {k j : Nat} {rs qs : List R} (hk : S[k]? = some (.lst rs)) (hj : S[j]? = some (.lst qs)) (hl : rs.length + qs.length ≤ sizeLine) (h : Ψ (.loc S.length) (S ++ [.lst (rs ++ qs)])) : WO C (binaryOp .Add) (.loc k) (.loc j) S Ψ := fun X b ok w H rp v u hv hu Q n => by
  obtain ⟨p, hp, e⟩ := hv
  obtain ⟨q, hq, e'⟩ := hu
  subst e e'
  obtain ⟨p', h3, _, _, vs, h4, h5⟩ := rp.at_ _ _ hk rfl
  rw [hp] at h3; cases h3
  obtain ⟨q', g3, _, _, us, g4, g5⟩ := rp.at_ _ _ hj rfl
  rw [hq] at g3; cases g3
  refine ⟨_, op_cat, p, q, vs, us, rfl, rfl, h4, g4, by rw [← IsRs.length h5, ← IsRs.length g5]; exact hl, fun l hn => ?_⟩
  have lw : Le w ⟨w.G, w.as ++ [l]⟩ := ⟨Ex.refl _, [l], rfl⟩
  have hls : NodeAt C.g.K b.B ⟨w.G, w.as ++ [l]⟩ (upd H l (.lst (vs ++ us))) l (.lst (rs ++ qs)) := ⟨vs ++ us, upd_same, IsRs.mono lw (IsRs.append h5 g5)⟩
  obtain ⟨r2, l2⟩ := rp.alloc hn hls
  exact n _ _ _ (.loc S.length) _ l2 r2 ⟨l, by show (w.as ++ [l])[S.length]? = some l; rw [← rp.len]; simp, rfl⟩ h

/-! ### slices -/
def WPO (C : DC) (e : Option Expr) (env : Nv) (S : Sto) (Ψ : Option Int → Sto → Prop) : Prop := ∀ X W b, OkC X C → Takes X W → ∀ w σ H, Rp C.g.K b w S H → EnvIs C.g.K b w env σ → XCov C.g.K b w C.n0 C.xi W → ∀ Q : Option Int → Hp → Prop, (∀ w' S' H' o, Le w w' → Rp C.g.K b w' S' H' → Ψ o S' → Q o H') → ∃ t, PO X e t ∧ t σ H Q
theorem wpo_none {Ψ : Option Int → Sto → Prop} (h : Ψ none S) : WPO C none env S Ψ := fun X W bb ok tk w σ H rp en xc Q n => ⟨_, po_none, n w S H none (Le.refl _) rp h⟩
theorem wpo_some {Ψ : Option Int → Sto → Prop} (h : WE C e env S fun r S1 => ∃ i, r = .val (.int i) ∧ Ψ (some i) S1) : WPO C (some e) env S Ψ := fun X W bb ok tk w σ H rp en xc Q n => by
  refine ⟨_, po_some cE_ok, ?_⟩
  refine h X W bb ok tk w σ H rp en xc _ fun w1 S1 H1 r v l1 r1 i1 ⟨i, e, k⟩ => ?_
  subst e
  exact ⟨i, i1, n w1 S1 H1 _ l1 r1 k⟩
def WSl (C : DC) (x : R) (lo hi : Option Int) (S : Sto) (Ψ : R → Sto → Prop) : Prop := ∀ X b, OkC X C → ∀ w H, Rp C.g.K b w S H → ∀ v, IsR C.g.K b.B w x v → ∀ Q, NCov C.g.K b w Ψ Q → ∃ r, SlR X r ∧ r v lo hi H Q
theorem we_slice {lo hi : Option Expr} (h : WE C e env S fun x S1 => WPO C lo env S1 fun l S2 => WPO C hi env S2 fun u S3 => WSl C x l u S3 Ψ) : WE C (.Subscript e (.Slice lo hi none p2) pos) env S Ψ := fun X W bb ok tk w σ H rp en xc Q n => by
  have key : cE X e σ H fun x H1 => ∃ tl, PO X lo tl ∧ tl σ H1 fun l H2 => ∃ th, PO X hi th ∧ th σ H2 fun u H3 => ∃ r, SlR X r ∧ r x l u H3 Q := by
    refine h X W bb ok tk w σ H rp en xc _ fun w1 S1 H1 x v l1 r1 i1 k1 => ?_
    refine k1 X W bb ok tk w1 σ H1 r1 (en.mono l1) (xc.mono l1) _ fun w2 S2 H2 l l2 r2 k2 => ?_
    refine k2 X W bb ok tk w2 σ H2 r2 (en.mono (l1.trans l2)) (xc.mono (l1.trans l2)) _ fun w3 S3 H3 u l3 r3 k3 => ?_
    exact k3 X bb ok w3 H3 r3 v (i1.mono (l2.trans l3)) Q (n.mono ((l1.trans l2).trans l3))
  refine ⟨tSl (fun x lo hi H Q => ∃ r, SlR X r ∧ r x lo hi H Q) (cE X e) (fun σ H Q => ∃ tl, PO X lo tl ∧ tl σ H Q) (fun σ H Q => ∃ th, PO X hi th ∧ th σ H Q), pe_slice ?_ cE_ok ⟨fun pins s σ H Q I ⟨t, p, h⟩ => p.run pins s σ H Q I h⟩ ⟨fun pins s σ H Q I ⟨t, p, h⟩ => p.run pins s σ H Q I h⟩, key⟩
  intro pins s σ H x v vl vu lo hi sl Q I rx hs pl pu ⟨r, hr, q⟩
  exact hr pins s σ H x v vl vu lo hi sl Q I rx hs pl pu q
def cutA {α : Type} (xs : List α) (lo hi : Option Int) : List α := (xs.drop (HT.sIx xs.length 0 lo)).take (HT.sIx xs.length xs.length hi - HT.sIx xs.length 0 lo)
theorem cut_is {K : PySem.W.Frag} {G : Hp} {ds : List D} {vs : List V} (h : IsL K G ds vs) (lo hi : Option Int) : IsL K G (cutA ds lo hi) (cutV vs lo hi) := by
  unfold cutA cutV
  rw [← IsL.length h]
  exact (IsL.take _ (IsL.drop _ h))
theorem wsl_str {z : Str} {lo hi : Option Int} (hz : z.length ≤ sizeLine) (h : Ψ (.val (.str (cutS z lo hi))) S) : WSl C (.val (.str z)) lo hi S Ψ := fun X b ok w H rp v hv Q n => by
  have hv : v = .str z := hv
  subst hv
  exact ⟨_, sl_str, z, rfl, hz, n.at_ (d := .str (cutS z lo hi)) rp rfl h⟩
/-- a list -/
inductive LsD (S : Sto) : R → List D → Prop where
  | lst (ds : List D) : LsD S (.val (.lst ds)) ds
  | bor (ds : List D) : LsD S (.bor ds) ds
  | loc {k : Nat} {ds : List D} : S[k]? = some (nl ds) → LsD S (.loc k) ds
theorem LsD.sq {K : PySem.W.Frag} {b : Base} {w : Wd} {H : Hp} {r : R} {ds : List D} {v : V} (hd : LsD S r ds) (rp : Rp K b w S H) (hv : IsR K b.B w r v) : ∃ p vs, v = .ref p ∧ SqL K H p vs ∧ IsL K w.G ds vs := by
  cases hd with
  | lst =>
    obtain ⟨p, vs, e, h1, h2⟩ := hv
    exact ⟨p, vs, e, rp.ex.l h1, h2⟩
  | bor =>
    obtain ⟨p, vs, e, h1, h2⟩ := hv
    exact ⟨p, vs, e, SqL.ofR rp h1, h2⟩
  | loc g1 =>
    obtain ⟨p, hp, e⟩ := hv
    obtain ⟨p', h3, _, _, vs, h4, h5⟩ := rp.at_ _ _ g1 rfl
    rw [hp] at h3; cases h3
    exact ⟨p, vs, e, SqL.of h4, IsRs.vals.mp h5⟩
theorem LsD.seq {r : R} {ds : List D} (h : LsD S r ds) : SeqD S r ds := by
  cases h with
  | lst => exact .lst _
  | bor => exact .bor _
  | loc h => exact .loc h
theorem wsl_lst {r : R} {ds : List D} {lo hi : Option Int} (hd : LsD S r ds) (h : Ψ (.loc S.length) (S ++ [nl (cutA ds lo hi)])) : WSl C r lo hi S Ψ := fun X b ok w H rp v hv Q n => by
  obtain ⟨p, vs, e, h1, h2⟩ := hd.sq rp hv
  rw [← ok.K] at h1
  subst e
  refine ⟨_, sl_list, p, vs, rfl, h1, fun l hn => ?_⟩
  obtain ⟨r2, l2⟩ := rp.alloc (n := nl (cutA ds lo hi)) (o := .lst (cutV vs lo hi)) hn ⟨_, upd_same, IsRs.vals.mpr (cut_is h2 lo hi)⟩
  exact n _ _ _ (.loc S.length) _ l2 r2 ⟨l, by show (w.as ++ [l])[S.length]? = some l; rw [← rp.len]; simp, rfl⟩ h

/-! ### methods of texts -/
def WM (C : DC) (id : String) (x y : R) (S : Sto) (Ψ : R → Sto → Prop) : Prop := ∀ X b, OkC X C → ∀ w H, Rp C.g.K b w S H → ∀ v u, IsR C.g.K b.B w x v → IsR C.g.K b.B w y u → ∀ Q, NCov C.g.K b w Ψ Q → cMt X id v [u] H Q
theorem we_m1 {id : String} {apos : Pos} (slot : Slot "str" m id) (ty : typeOf (.builtin id) = pure (.type "method_descriptor")) (h : WE C o env S fun r S1 => ∃ s, r = .val (.str s) ∧ WE C e env S1 fun y S2 => WM C id (.val (.str s)) y S2 Ψ)
    (hs : ∀ X : Cx, starEach [e] X.env = [(false, eval e X.env)]) (hbase : ∀ X : Cx, attributeBase o m X.env (eval o X.env) = eval o X.env) (hline : (apos.endLine == pos.line) = true) : WE C (.Call (.Attribute o m apos) [e] [] pos) env S Ψ := fun X W bb ok tk w σ H rp en xc Q n => by
  refine ⟨_, pe_m1 slot ty cMt_ok cE_ok cE_ok (hs X) (hbase X) hline, ?_⟩
  refine h X W bb ok tk w σ H rp en xc _ fun w1 S1 H1 r v l1 r1 i1 ⟨s, e, k1⟩ => ?_
  subst e
  refine ⟨⟨s, i1⟩, ?_⟩
  refine k1 X W bb ok tk w1 σ H1 r1 (en.mono l1) (xc.mono l1) _ fun w2 S2 H2 y u l2 r2 i2 k2 => ?_
  exact k2 X bb ok w2 H2 r2 v u i1 i2 Q (n.mono (l1.trans l2))
theorem wm_join {s : Str} {y : R} {ys : List Str} (hy : SeqD S y (ys.map .str)) (hz : (ys.map (·.length)).sum + ys.length * s.length ≤ 16777216) (h : Ψ (.val (.str (Txt.join s ys))) S) : WM C "str.join" (.val (.str s)) y S Ψ := fun X b ok w H rp v u hv hu Q n => by
  have hv : v = .str s := hv
  subst hv
  obtain ⟨p, vs, e, h2, h3⟩ := hy.sq rp hu
  subst e
  have h3 := IsL.of_strs h3
  subst h3
  exact ⟨_, mt_join, s, p, ys, rfl, rfl, by rw [ok.K]; exact h2, hz, n.at_ (d := .str (Txt.join s ys)) rp rfl h⟩
theorem join_empty : ∀ ys : List Str, (Txt.join ⟨#[]⟩ ys).cps.toList = (ys.map fun y => y.cps.toList).flatten := by
  intro ys
  show (Builtin.Str.glued ⟨#[]⟩ ys).cps.toList = _
  rw [StrLaws.glued_eq_join]
  induction ys with
  | nil => rfl
  | cons y ys ih =>
    cases ys with
    | nil => simp [Str.join]
    | cons z zs =>
      show ((y ++ ⟨#[]⟩ ++ Str.join ⟨#[]⟩ (z :: zs) : Str)).cps.toList = _
      have e : ∀ a b : Str, (a ++ b).cps.toList = a.cps.toList ++ b.cps.toList := fun a b => by show (a.cps ++ b.cps).toList = _; simp
      rw [e, e, ih]
      simp
/-- the place of a sign in a text -/
theorem occ_idx {t : Str} {k : Nat} (h : k ∈ t.cps.toList) : ∃ rest, Builtin.Str.occurrences t ⟨#[k]⟩ 0 t.length 1 = t.cps.toList.idxOf k :: rest := by
  rcases StrLaws.occ_head t ⟨#[k]⟩ 1 (Nat.le_refl _) with ⟨_, h2⟩ | ⟨i, r, h1, h2, h3⟩
  · obtain ⟨i, hi, e⟩ := List.mem_iff_getElem.mp h
    exact absurd ((StrLaws.subAt_one t k i).mpr (by rw [List.getElem?_eq_getElem hi, e])) (h2 i)
  · refine ⟨r, ?_⟩
    rw [h1]
    congr 1
    have g := (StrLaws.subAt_one t k i).mp h2
    have hi : i < t.cps.toList.length := (List.getElem?_eq_some_iff.mp g).1
    have gk : t.cps.toList[i] = k := by rw [List.getElem?_eq_getElem hi] at g; exact Option.some.inj g
    have h4 := List.idxOf_lt_length_of_mem h
    have h5 : t.cps.toList[t.cps.toList.idxOf k] = k := List.getElem_idxOf h4
    rcases Nat.lt_trichotomy (t.cps.toList.idxOf k) i with q | q | q
    · exact absurd ((StrLaws.subAt_one t k _).mpr (by rw [List.getElem?_eq_getElem h4, h5])) (h3 _ q)
    · exact q.symm
    · have z := List.not_of_lt_findIdx (p := (· == k)) (xs := t.cps.toList) (i := i) q
      simp [gk] at z
/-! ### methods of lists -/
theorem vals_mk : ∀ (xs : List V) (us : List Value), xs.length = us.length → (∀ (i : Nat) (x : V), xs[i]? = some x → ∃ u : Value, us[i]? = some u ∧ RelV x u) → Vals xs us
  | [], [], _, _ => .nil
  | [], _ :: _, h, _ => by simp at h
  | _ :: _, [], h, _ => by simp at h
  | x :: xs, u :: us, h, g => by
    obtain ⟨u', e, r⟩ := g 0 x (by simp)
    simp at e; subst e
    exact .cons r (vals_mk xs us (by simpa using h) fun i y e => by
      obtain ⟨u', e', r⟩ := g (i + 1) y (by simpa using e)
      exact ⟨u', by simpa using e', r⟩)
/-! ### a text times a number, the signs of a text -/
theorem call_list_strV {X : Cx} (hc : X.calm = true) : CallR X (.type "list") (fun xs H Q => ∃ z : Str, xs = [.str z] ∧ z.length ≤ sizeLine ∧ ∀ l, H l = none → Q (.ref l) (upd H l (.lst (z.cps.toList.map fun c => V.str ⟨#[c]⟩)))) := by
  intro pins s σ H xs us Q I r h
  obtain ⟨z, rfl, hz, q⟩ := h
  obtain ⟨u, rfl, rx⟩ := vals1 r
  obtain ⟨t, rfl⟩ := rx
  refine call_list_str (I.ok.hd hc) z t (fun h' tk acc c' kp e hi => ?_) hz
  have hv : Vals (z.cps.toList.map fun c => V.str ⟨#[c]⟩) acc.toList := by
    refine vals_mk _ _ (by rw [List.length_map, Array.length_toList, Array.length_toList, hi.1]) fun i x e1 => ?_
    rw [List.getElem?_map] at e1
    cases q1 : z.cps.toList[i]? with
    | none => rw [q1] at e1; cases e1
    | some c =>
      rw [q1] at e1
      cases e1
      have hlt : i < acc.size := by
        have := (List.getElem?_eq_some_iff.mp q1).1
        rw [hi.1]; simpa using this
      obtain ⟨c2, u2, g1, g2⟩ := hi.2 i acc[i] (by simp [hlt])
      rw [Array.getElem?_toList, g1] at q1
      cases q1
      exact ⟨acc[i], by simp [hlt], ⟨u2, g2⟩⟩
  refine ⟨.ref s.heap.objs.size, _, I.laid (t' := tk) kp (Nat.le_refl _) (show ObjOk X.prog X.w _ h' _ (.lst (z.cps.toList.map fun c => V.str ⟨#[c]⟩)) from ⟨by rw [List.length_map, Array.length_toList]; exact hz, acc.toList, c', hv, by simpa using e⟩), rfl, q _ (I.hok.fresh (Nat.le_refl _))⟩
theorem wc_listS (hc : C.calm = true) {z : Str} (hz : z.length ≤ sizeLine) (h : Ψ (.loc S.length) (S ++ [nl (signsD z)])) : WC C (.type "list") [.val (.str z)] S Ψ := fun X b ok w H rp vs hv Q n => by
  obtain ⟨v, e, h1⟩ := vals1' hv
  have h1 : v = .str z := h1
  subst e h1
  refine ⟨_, call_list_strV (ok.calm hc).1, z, rfl, hz, fun l hl => ?_⟩
  obtain ⟨r2, l2⟩ := rp.alloc (n := nl (signsD z)) hl ⟨_, upd_same, IsRs.vals.mpr (by
    have := IsL.strs (K := C.g.K) (G := (⟨w.G, w.as ++ [l]⟩ : Wd).G) (z.cps.toList.map fun c => (⟨#[c]⟩ : Str))
    simpa [signsD, List.map_map, Function.comp_def] using this)⟩
  exact n _ _ _ (.loc S.length) _ l2 r2 ⟨l, by show (w.as ++ [l])[S.length]? = some l; rw [← rp.len]; simp, rfl⟩ h
/-! ### sorted(..) of texts, fewer than 64 -/
/-! ### dicts: a put, d.get(k) -/
theorem putK_new {κ : Type} [DecidableEq κ] {k : κ} {v : V} {ks : List κ} {vs : List V} (hl : ks.length = vs.length) (hk : k ∉ ks) : putK (ks.zip vs) k v = (ks ++ [k]).zip (vs ++ [v]) := by
  unfold putK
  rw [if_neg]
  · rw [List.zip_append hl]; rfl
  · simp only [List.any_eq_true, decide_eq_true_eq, not_exists, not_and]
    intro p hp e
    have := (List.of_mem_zip (a := p.1) (b := p.2) hp).1
    rw [e] at this
    exact hk this
inductive PutD (S : Sto) : R → R → R → Sto → Prop where
  | newK {j : Nat} {ks : List Key} {rs : List R} {k : Key} {z : R} : S[j]? = some (.dK ks rs) → ks.length < sizeLine → k ∉ ks → PutD S (.loc j) (.val (kD k)) z (S.set j (.dK (ks ++ [k]) (rs ++ [z])))
  | newT {j : Nat} {ks : List (List Key)} {rs : List R} {k : List Key} {z : R} : S[j]? = some (.dT ks rs) → ks.length < sizeLine → k ∉ ks → PutD S (.loc j) (.val (.tup (k.map kD))) z (S.set j (.dT (ks ++ [k]) (rs ++ [z])))
theorem ws_put {i v : Expr} (h : WE C v env S fun z S1 => WE C o env S1 fun r S2 => WE C i env S2 fun y S3 => ∃ S4, PutD S3 r y z S4 ∧ E.nx env S4) (hs : ∀ X : Cx, swapsWith v (some (.Subscript o i p2)) pos.line X.env = pure false) : WS C (.Assign [.Subscript o i p2] v pos) env S E := fun X W bb ok tk w σ H rp en xc D n => by
  refine ⟨_, ps_dput ok.u1 cE_ok cE_ok cE_ok (hs X), ?_⟩
  refine h X W bb ok tk w σ H rp en xc _ fun w1 S1 H1 z zv l1 r1 i1 k1 => ?_
  refine k1 X W bb ok tk w1 σ H1 r1 (en.mono l1) (xc.mono l1) _ fun w2 S2 H2 r v l2 r2 i2 k2 => ?_
  refine k2 X W bb ok tk w2 σ H2 r2 (en.mono (l1.trans l2)) (xc.mono (l1.trans l2)) _ fun w3 S3 H3 y u l3 r3 i3 ⟨S4, hp, k3⟩ => ?_
  have l13 := (l1.trans l2).trans l3
  have iz := i1.mono (l2.trans l3)
  have ir := i2.mono l3
  cases hp with
  | @newK j ks rs k _ hk hl hn =>
    obtain ⟨a, ha, ev⟩ := ir
    subst ev
    obtain ⟨a', h3, _, _, vs, h4, h5, h6⟩ := r3.at_ _ _ hk rfl
    rw [ha] at h3; cases h3
    have i3 := kD_is i3
    subst i3
    refine ⟨a, _, rfl, DPut.k h4 (by rw [List.length_zip]; omega), ?_⟩
    rw [putK_new h5 hn]
    exact n.nx w3 _ _ env σ (l13.n _) (r3.write (n' := .dK (ks ++ [k]) (rs ++ [z])) hk rfl ha ⟨vs ++ [zv], upd_same, by simp [h5], h6.append (.cons iz .nil)⟩) (en.mono l13) k3
  | @newT j ks rs k _ hk hl hn =>
    obtain ⟨a, ha, ev⟩ := ir
    subst ev
    obtain ⟨a', h3, _, _, vs, h4, h5, h6⟩ := r3.at_ _ _ hk rfl
    rw [ha] at h3; cases h3
    obtain ⟨q, us, e2, g1, g2⟩ := i3
    have g2 := kDs_is g2
    subst e2 g2
    refine ⟨a, _, rfl, DPut.t h4 (r3.ex _ _ g1) (by rw [List.length_zip]; omega), ?_⟩
    rw [putK_new h5 hn]
    exact n.nx w3 _ _ env σ (l13.n _) (r3.write (n' := .dT (ks ++ [k]) (rs ++ [z])) hk rfl ha ⟨vs ++ [zv], upd_same, by simp [h5], h6.append (.cons iz .nil)⟩) (en.mono l13) k3
end
end DL
set_option Elab.async false
set_option linter.all false
set_option maxRecDepth 100000
set_option maxHeartbeats 4000000
namespace DL
open PySem PySem.Spec PyProof.Rows
open L2 hiding Takes passAt takes_of ps_raise PMk ps_try_as
open L2N (Takes passAt takes_of ps_raise PMk ps_try_as)

/-! ### enumerate over a text, a tuple (a list: HandS) -/
def ItE (go : Nat → Hp → Prop) (gv : Nat → Hp → V → Prop) (stop : Nat → Hp → Prop) : It :=
  ⟨go, fun i H v H' => ∃ T x, v = .ref T ∧ H T = none ∧ H' = upd H T (.tup [.int (i : Nat), x]) ∧ gv i H x, stop⟩
/-- what is to be known of the inner iterator -/
structure EnSrc (P : Program) (w : World) (K : PySem.W.Frag) (it : Addr) (tn : Nat → Heap → Prop) (go : Nat → Hp → Prop) (gv : Nat → Hp → V → Prop) (stop : Nat → Hp → Prop) : Prop where
  obj : ∀ i h, tn i h → ∃ o, h.get? it = some o ∧ ∀ v, o.data ≠ .cell v
  keep : ∀ i h h', tn i h → (∀ o, h.get? it = some o → h'.get? it = some o) → tn i h'
  item : ∀ (X : Cx), X.prog = P → X.w = w → X.K = K → X.calm = true → ∀ (i : Nat) (pins : List (Addr × Obj)) (s : Shared) (σ : L2.St) (H : Hp) (e : Addr) (c : Int) (old : Value), Inv X pins σ H s → tn i s.heap → go i H → IsEnum s.heap e it c old → ∃ fp n Pv St, Draws X.prog X.w X.A.in1 it fp n Pv St ∧ St i s.heap ∧ i < n ∧ e ∉ fp ∧ (∀ x, Pv i x → ∃ xv, RelV xv x ∧ gv i H xv) ∧ ∀ h', St (i + 1) h' → tn (i + 1) h'
  done : ∀ (X : Cx), X.prog = P → X.w = w → X.K = K → X.calm = true → ∀ (i : Nat) (pins : List (Addr × Obj)) (s : Shared) (σ : L2.St) (H : Hp), Inv X pins σ H s → tn i s.heap → stop i H → ∃ fp n Pv St, Draws X.prog X.w X.A.in1 it fp n Pv St ∧ St n s.heap
theorem turn_enumG {P : Program} {w : World} {K : PySem.W.Frag} {elts : List Expr} {kk : Nat} {tpos : Pos} {it : Addr} {tn : Nat → Heap → Prop} {go : Nat → Hp → Prop} {gv : Nat → Hp → V → Prop} {stop : Nat → Hp → Prop} (src : EnSrc P w K it tn go gv stop) (e : Addr) :
    Turn P w K (.Tuple elts kk tpos) (ItE go gv stop) [e, it] e (fun i h => (∃ old, IsEnum h e it ((i : Nat) : Int) old) ∧ tn i h ∧ e ≠ it) where
  mem := by simp
  obj := fun i h st b hb => by
    obtain ⟨⟨old, he⟩, ht, _⟩ := st
    have e' : b = e ∨ b = it := by simpa using hb
    rcases e' with z | z
    · rw [z]; exact ⟨_, he, fun v q => nomatch q⟩
    · rw [z]; exact src.obj i h ht
  keep := fun i h h' st k => let ⟨⟨old, he⟩, hi, hne⟩ := st; ⟨⟨old, k e (by simp) _ he⟩, src.keep _ _ _ hi (k it (by simp)), hne⟩
  item := by
    intro X hP hw hK hc i pins s σ H E I hf st hg
    obtain ⟨⟨old, he⟩, hit, hne⟩ := st
    obtain ⟨fp, n, Pv, St, D, hst, hlt, hef, hv, hn⟩ := src.item X hP hw hK hc i pins s σ H e _ old I hit hg he
    subst hP hw hK
    have hel : e < s.heap.objs.size := Heap.lt_size he
    have hil : it < s.heap.objs.size := by obtain ⟨_, q, _⟩ := src.obj i _ hit; exact Heap.lt_size q
    refine wpAny_pyNext_enum_itemC D he hst hlt hne hef fun u h' tk hP' ho hs' hT hsz hk => ?_
    obtain ⟨x, ru, hgv⟩ := hv u hP'
    have hit' := hn h' hs'
    refine ⟨_, rfl, wpAny_letOwnedTupleGo_enum (s := { s with heap := h', toks := tk + 1 }) ho fun h'' he' sb => ?_⟩
    have hT2 : h''.get? s.heap.objs.size = some { cls := .type "tuple", data := .seq #[.int i tk, u] } := (sb.2 _ (Nat.ne_of_gt hel)).trans hT
    have new : ObjOk X.prog X.w (upd H s.heap.objs.size (.tup [.int (i : Nat), x])) h'' s.heap.objs.size (.tup [.int (i : Nat), x]) :=
      ⟨by show 2 ≤ sizeLine; decide, [.int i tk, u], .cons ⟨_, rfl⟩ (.cons ru .nil), ⟨_, hT2, rfl, _, rfl⟩⟩
    have I1 : Inv X pins σ (upd H s.heap.objs.size (.tup [.int (i : Nat), x])) { s with heap := h'', toks := tk + 1 } :=
      I.turnedNew (ch := [e, it]) (fun b ob hb q => (sb.2 b (fun z => hb (by simp [z]))).trans (hk b ob (fun z => hb (by simp [z])) (fun z => hb (by simp [z])) q)) hf (Nat.le_refl _) new
    refine ⟨.ref s.heap.objs.size, _, I1, rfl, ⟨_, x, rfl, I.hok.fresh (Nat.le_refl _), rfl, hgv⟩, ⟨⟨u, ?_⟩, src.keep _ _ _ hit' fun o q => (sb.2 it (Ne.symm hne)).trans q, hne⟩, fun b hb => ?_⟩
    · have e1 : ((i + 1 : Nat) : Int) = (i : Int) + 1 := by omega
      rw [e1]; exact he'
    · have hb' : b < s.heap.objs.size := by
        have e' : b = e ∨ b = it := by simpa using hb
        rcases e' with z | z
        · rw [z]; exact hel
        · rw [z]; exact hil
      rw [upd_ne (Nat.ne_of_lt hb')]
      exact (hf b hb).1
  done := by
    intro X hP hw hK hc i pins s σ H E I hf st hg
    obtain ⟨⟨old, he⟩, hit, hne⟩ := st
    obtain ⟨fp, n, Pv, St, D, hst⟩ := src.done X hP hw hK hc i pins s σ H I hit hg
    subst hP hw hK
    obtain ⟨f0, f1, f2, f3, f4, f5⟩ := hf it (by simp)
    exact wpAny_pyNext_enum_endD D he hst fun h' eb => ⟨rfl, I.turned (t' := s.toks) (fun b o hb q => eb b o hb q) f0 f1 f3 f4 f5⟩
  self := fun A i s Q E st h => let ⟨⟨_, he⟩, _⟩ := st; wpAny_pyIter_enum he h
theorem src_str {P : Program} {w : World} {K : PySem.W.Frag} (it : Addr) (x : Str) (t : Tok) : EnSrc P w K it (fun i h => h.IsStrIter it (strIterType x) x t i) (fun i _ => i < x.cps.size) (fun i _ v => ∃ c, x.cps[i]? = some c ∧ v = .str ⟨#[c]⟩) (fun i _ => x.cps.size ≤ i ∧ i ≤ x.cps.size) where
  obj := fun i h ⟨o, e, c, d⟩ => ⟨o, e, fun v z => by rw [d] at z; cases z⟩
  keep := fun i h h' ⟨o, ho, r⟩ k => ⟨o, k o ho, r⟩
  item := by
    intro X hP hw hK hc i pins s σ H e c old I ht hg he
    have hne : e ∉ [it] := by
      intro z
      have z : e = it := by simpa using z
      subst z
      obtain ⟨o, ho, hc, hd⟩ := ht
      rw [show s.heap.get? e = _ from he] at ho
      cases ho
      unfold strIterType at hc
      split at hc <;> (injection hc with hc; exact absurd hc (by decide))
    unfold strIterType at ht ⊢
    split at ht
    · rename_i q
      rw [if_pos q]
      refine ⟨[it], x.cps.size, _, _, Draws.strAscii (A := X.A.in1) (I.ok.hd hc) it x t, ht, hg, hne, fun v hv => ?_, fun h' hs => hs⟩
      obtain ⟨k, u, h1, h2⟩ := hv
      exact ⟨.str ⟨#[k]⟩, ⟨u, h2⟩, k, h1, rfl⟩
    · rename_i q
      rw [if_neg q]
      refine ⟨[it], x.cps.size, _, _, Draws.strWide (A := X.A.in1) (I.ok.hd hc) it x t, ht, hg, hne, fun v hv => ?_, fun h' hs => hs⟩
      obtain ⟨k, u, h1, h2⟩ := hv
      exact ⟨.str ⟨#[k]⟩, ⟨u, h2⟩, k, h1, rfl⟩
  done := by
    intro X hP hw hK hc i pins s σ H I ht hg
    have e : i = x.cps.size := by omega
    subst e
    unfold strIterType at ht
    split at ht
    · exact ⟨[it], x.cps.size, _, _, Draws.strAscii (A := X.A.in1) (I.ok.hd hc) it x t, ht⟩
    · exact ⟨[it], x.cps.size, _, _, Draws.strWide (A := X.A.in1) (I.ok.hd hc) it x t, ht⟩
theorem src_tup {P : Program} {w : World} {K : PySem.W.Frag} (it a : Addr) : EnSrc P w K it (fun i h => h.IsTupleIter it a i) (fun i H => ∃ (xs : List V) (x : V), SqT K H a xs ∧ xs[i]? = some x) (fun i H v => ∀ xs, SqT K H a xs → xs[i]? = some v) (fun i H => ∃ xs : List V, SqT K H a xs ∧ xs.length = i) where
  obj := fun i h ⟨o, e, c, d⟩ => ⟨o, e, fun v z => by rw [d] at z; cases z⟩
  keep := fun i h h' st k => st.at fun o q => k o q
  item := by
    intro X hP hw hK hc i pins s σ H e c old I ht hg he
    subst hK
    obtain ⟨xs, x, hq, hx⟩ := hg
    obtain ⟨its, rv, p, hz⟩ := I.tuple hq
    have p : s.heap.IsTuple a its.toArray := p
    have hne : e ∉ [it, a] := by
      intro z
      have z : e = it ∨ e = a := by simpa using z
      rcases z with z | z
      · subst z
        obtain ⟨o, ho, hc, hd⟩ := ht
        rw [show s.heap.get? e = _ from he] at ho
        cases ho
        (injection hc with hc; exact absurd hc (by decide))
      · subst z
        obtain ⟨o, ho, hc, _⟩ := p
        rw [show s.heap.get? e = _ from he] at ho
        cases ho
        injection hc with hc
        exact absurd hc (by decide)
    have hia : a ≠ it := by
      intro z
      subst z
      obtain ⟨o, ho, hc, hd⟩ := ht
      obtain ⟨o', ho', hc', _⟩ := p
      rw [ho] at ho'; cases ho'
      rw [hc] at hc'
      injection hc' with hc'
      exact absurd hc' (by decide)
    have hlt : i < its.toArray.size := by
      have := (List.getElem?_eq_some_iff.mp hx).1
      have := rv.length
      simp; omega
    refine ⟨_, _, _, _, Draws.tuple (A := X.A.in1) (I.ok.hd hc) it a hia its.toArray, ⟨ht, p⟩, hlt, hne, fun v hv => ?_, fun h' hs => hs.1⟩
    obtain ⟨u, hu, ru⟩ := rv.get hx
    have hv : its[i]? = some v := by simpa using hv
    rw [hu] at hv; cases hv
    exact ⟨x, ru, fun ys hy => by rw [I.tuple_inj hy hq]; exact hx⟩
  done := by
    intro X hP hw hK hc i pins s σ H I ht hg
    subst hK
    obtain ⟨xs, hq, hx⟩ := hg
    obtain ⟨its, rv, p, hz⟩ := I.tuple hq
    have p : s.heap.IsTuple a its.toArray := p
    have hia : a ≠ it := by
      intro z
      subst z
      obtain ⟨o, ho, hc, hd⟩ := ht
      obtain ⟨o', ho', hc', _⟩ := p
      rw [ho] at ho'; cases ho'
      rw [hc] at hc'
      injection hc' with hc'
      exact absurd hc' (by decide)
    refine ⟨_, _, _, _, Draws.tuple (A := X.A.in1) (I.ok.hd hc) it a hia its.toArray, ?_, p⟩
    have : its.toArray.size = i := by have := rv.length; simp; omega
    rw [this]; exact ht

section
open Builtin Builtin.Str
set_option maxHeartbeats 1000000 in
theorem meets_enumerate_newB1 {v : Value} {o : Obj} {H : Heap → Prop} (B : Begins v o H) :
    Meets (Builtin.«enumerate.__new__» ⟨[.type "enumerate", v], []⟩) (fun _ R s => H s.heap ∧
      R (.ok (.ret (.ref (s.heap.push o).objs.size))) { s with heap := (s.heap.push o).push { cls := .type "enumerate", data := .fields #[.none, .bool false, .ref s.heap.objs.size, rawInt 0, .none, .none] } }) :=
  .of_wp fun prog w A R s h => by
    obtain ⟨hp, g, d, tk, os⟩ := s; obtain ⟨h1, h⟩ := h
    have hsub := sub_enumerate
    have q1 : ∀ {A' : Around} {E : Value → Shared → Prop} {Q : Value → Shared → Prop}, Q (.ref hp.objs.size) ⟨hp.push o, g, d, tk, os⟩ → wpAny (model prog w) A' (pyIter v) Q E ⟨hp, g, d, tk, os⟩ :=
      fun q => B.iter prog w _ _ ⟨hp, g, d, tk, os⟩ _ h1 q
    wp_walk using q1
    refine wpAny_stack_any fun st => wpAny_pure ?_
    split
    · rename_i c _ _ _ _ _
      cases (c == Value.type "enumerate")
      · wp_walk using q1
        exact ⟨_, rfl, h⟩
      · wp_walk using q1
        exact ⟨_, rfl, h⟩
    · wp_walk using q1
      exact ⟨_, rfl, h⟩
theorem enum_begins1 {prog : Program} {w : World} {A : Around} {E : Value → Shared → Prop} {s : Shared} {v : Value} {o : Obj} {H : Heap → Prop} {Q : Value → Shared → Prop} (B : Begins v o H) (h1 : H s.heap)
    (h : ∀ h', IsEnum h' (s.heap.objs.size + 1) s.heap.objs.size 0 .none → h'.get? s.heap.objs.size = some o → h'.objs.size = s.heap.objs.size + 2 →
      (∀ b o, s.heap.get? b = some o → h'.get? b = some o) → Q (.ref (s.heap.objs.size + 1)) { s with heap := h' }) :
    wpAny (model prog w) A (call (.type "enumerate") [v]) Q E s := by
  refine callType_new F.called_enumerate (by decide) (F.typeCall_enumerate_1 _) (F.newCall_enumerate_1 _) (fun obj => F.args_object_init_2 obj _) F.entry_enumerate_new
    (meets_enumerate_newB1 B) ⟨h1, ?_⟩
  have hz : (s.heap.push o).objs.size = s.heap.objs.size + 1 := Heap.size_push ..
  show _ ∧ _
  rw [hz]
  have he : IsEnum ((s.heap.push o).push { cls := .type "enumerate", data := .fields #[.none, .bool false, .ref s.heap.objs.size, rawInt 0, .none, .none] }) (s.heap.objs.size + 1) s.heap.objs.size 0 .none := by
    have := Heap.get?_push_size (s.heap.push o) (o := { cls := .type "enumerate", data := .fields #[.none, .bool false, .ref s.heap.objs.size, rawInt 0, .none, .none] }) rfl
    rw [hz] at this; exact this
  refine ⟨⟨_, he, rfl⟩, h _ he (Heap.get?_push_of_some _ (Heap.get?_push_size _ B.free)) (by rw [Heap.size_push, hz]) fun b o x => Heap.get?_push_of_some _ (Heap.get?_push_of_some _ x)⟩
end
def itS (x : Str) : It := ItE (fun i _ => i < x.cps.size) (fun i _ v => ∃ c, x.cps[i]? = some c ∧ v = .str ⟨#[c]⟩) (fun i _ => x.cps.size ≤ i ∧ i ≤ x.cps.size)
def itT (K : PySem.W.Frag) (a : Addr) : It := ItE (fun i H => ∃ (xs : List V) (x : V), SqT K H a xs ∧ xs[i]? = some x) (fun i H v => ∀ xs, SqT K H a xs → xs[i]? = some v) (fun i H => ∃ xs : List V, SqT K H a xs ∧ xs.length = i)
def iEnumS (ta : TA) : TI := fun σ H R => ta σ H fun vs H1 => ∃ x : Str, vs = [.str x] ∧ R (itS x) H1
def iEnumT (K : PySem.W.Frag) (ta : TA) : TI := fun σ H R => ta σ H fun vs H1 => ∃ a xs, vs = [.ref a] ∧ SqT K H1 a xs ∧ R (itT K a) H1
section
variable {X : Cx} {e : Expr} {ta : TA} {p pos tpos : Pos} {elts : List Expr} {kk : Nat}
theorem pi_enumS (hg : Gl X "enumerate") (hm : X.mg "enumerate" = none) (ha : PA X [e] ta) (hs : starEach [e] X.env = [(false, eval e X.env)]) :
    PI X (.Tuple elts kk tpos) (.Call (.Name "enumerate" p) [e] [] pos) (iEnumS ta) := by
  refine ⟨fun pins s σ H R I h => ?_⟩
  refine Call_ (ld_blt I hg hm boot_enumerate (PyProof.Rows.callWith_type1 (thn (ha.run pos pins s σ H _ I h) fun us s1 ⟨vs, H1, I1, r1, q1⟩ => ?_) hs rfl))
  obtain ⟨x, ex, q⟩ := q1
  subst ex
  cases r1 with
  | cons r rr =>
    cases rr
    obtain ⟨t, e⟩ := r
    subst e
    refine call_enumerate_str fun h' he hit hsz hk => wpAny_pyIter_enum he ?_
    have I2 : Inv X pins σ H1 { s1 with heap := h' } := I1.kept (t' := s1.toks) hk
    refine ⟨s1.heap.objs.size + 1, [s1.heap.objs.size + 1, s1.heap.objs.size], _, _, H1, rfl, I2, turn_enumG (src_str s1.heap.objs.size x t) (s1.heap.objs.size + 1), ⟨⟨.none, he⟩, hit, Nat.succ_ne_self _⟩, fun b hb => ?_, q⟩
    have e' : b = s1.heap.objs.size + 1 ∨ b = s1.heap.objs.size := by simpa using hb
    have hle : s1.heap.objs.size ≤ b := by
      rcases e' with z | z
      · rw [z]; exact Nat.le_add_right _ _
      · rw [z]; exact Nat.le_refl _
    exact I1.fpOk hle (I1.hok.fresh hle)
end

/-! ### the rules -/
def enumD (ds : List D) : List D := ds.zipIdx.map fun p => .tup [.int (p.2 : Nat), p.1]
theorem enumD_len (ds : List D) : (enumD ds).length = ds.length := by simp [enumD]
theorem enumD_get {ds : List D} {i : Nat} {d : D} (h : (enumD ds)[i]? = some d) : ∃ d0, ds[i]? = some d0 ∧ d = .tup [.int (i : Nat), d0] := by
  unfold enumD at h
  rw [List.getElem?_map, List.getElem?_zipIdx] at h
  cases q : ds[i]? with
  | none => rw [q] at h; cases h
  | some d0 =>
    rw [q] at h
    simp at h
    exact ⟨d0, rfl, h.symm⟩
/-- a new pair of the place and what stands there -/
theorem pair_known {K : PySem.W.Frag} {bb : Base} {w : Wd} {S : Sto} {H : Hp} {T : Addr} {x : V} {i : Nat} {d : D} (rp : Rp K bb w S H) (hT : H T = none) (hd : Is K w.G d x) :
    ∃ w2, Le w w2 ∧ Rp K bb w2 S (upd H T (.tup [.int (i : Nat), x])) ∧ Is K w2.G (.tup [.int (i : Nat), d]) (.ref T) := by
  obtain ⟨r2, l2⟩ := rp.known (o := .tup [.int (i : Nat), x]) hT
  exact ⟨_, l2, r2, T, _, rfl, upd_same, IsL.cons (show Is K _ (.int (i : Nat)) (.int (i : Nat)) from rfl) (IsL.cons (Is.mono l2.g _ _ hd) IsL.nil)⟩
section
variable {C : DC} {env : Nv} {S : Sto} {Λ : List D → (Sto → Prop) → Sto → Prop} {pos p2 tpos : Pos} {e : Expr} {elts : List Expr} {kk : Nat}
theorem wi_enumS (hx : InG "enumerate" C.gl) (hm : C.g.mg "enumerate" = none) (h : WE C e env S fun r S1 => ∃ s, r = .val (.str s) ∧ Λ (enumD (signsD s)) (fun _ => True) S1) (hs : ∀ X : Cx, starEach [e] X.env = [(false, eval e X.env)]) : WI C (.Tuple elts kk tpos) (.Call (.Name "enumerate" p2) [e] [] pos) env S Λ := fun X W bb ok tk w σ H rp en xc R' n => by
  refine ⟨_, pi_enumS (ok.gl _ hx.mem).1 (by rw [ok.mg]; exact hm) (pa_cons cE_ok pa_nil (hs X)) (hs X), ?_⟩
  refine h X W bb ok tk w σ H rp en xc _ fun w1 S1 H1 r v l1 r1 i1 ⟨s, e, k1⟩ => ?_
  subst e
  have i1 : v = .str s := i1
  subst i1
  refine ⟨s, rfl, n w1 S1 H1 _ _ _ l1 r1 ⟨fun _ => True, fun i H x H' => (itS s).yld i H x H', ?_, fun _ _ _ _ _ _ => trivial, fun w' S' H' i x H2 d l r' g hd' y => ?_⟩ k1⟩
  · rw [enumD_len, show (signsD s).length = s.cps.size by simp [signsD]]
    exact ⟨fun i H hi _ => hi, fun H _ => ⟨Nat.le_refl _, Nat.le_refl _⟩, fun i H x H' _ _ y => y⟩
  · obtain ⟨d0, hd0, e⟩ := enumD_get hd'
    subst e
    obtain ⟨T, x0, e1, hT, e2, c, hc, e3⟩ := y
    subst e1 e2 e3
    unfold signsD at hd0
    rw [List.getElem?_map, Array.getElem?_toList, hc] at hd0
    cases hd0
    exact pair_known (d := .str ⟨#[c]⟩) r' hT rfl
theorem wi_enum (hx : InG "enumerate" C.gl) (hm : C.g.mg "enumerate" = none) (h : WE C e env S fun r S1 => ∃ ds, SeqD S1 r ds ∧ Λ (enumD ds) (SGof S1 r ds) S1) (hs : ∀ X : Cx, starEach [e] X.env = [(false, eval e X.env)]) : WI C (.Tuple elts kk tpos) (.Call (.Name "enumerate" p2) [e] [] pos) env S Λ := fun X W bb ok tk w σ H rp en xc R' n => by
  have hgl := (ok.gl _ hx.mem).1
  have hmg : X.mg "enumerate" = none := by rw [ok.mg]; exact hm
  refine ⟨fun σ H R => (tCons (cE X e) tNil) σ H fun vs H1 => (∃ a xs, vs = [.ref a] ∧ SqL X.K H1 a xs ∧ R (Ite X.K a) H1) ∨ (∃ a xs, vs = [.ref a] ∧ SqT X.K H1 a xs ∧ R (itT X.K a) H1), ?_, ?_⟩
  · refine ⟨fun pins s σ H R I h => ?_⟩
    refine Call_ (ld_blt I hgl hmg boot_enumerate (PyProof.Rows.callWith_type1 (thn ((pa_cons cE_ok pa_nil (hs X)).run pos pins s σ H _ I h) fun us s1 ⟨vs, H1, I1, r1, q1⟩ => ?_) (hs X) rfl))
    rcases q1 with ⟨a, xs, ex, hq, q⟩ | ⟨a, xs, ex, hq, q⟩
    · subst ex
      cases r1 with
      | cons r rr =>
        cases rr
        cases r
        obtain ⟨its, rv, p', hz⟩ := I1.list hq
        refine call_enumerate_list p'.isList fun h' he hit hsz hk => wpAny_pyIter_enum he ?_
        have I2 : Inv X pins σ H1 { s1 with heap := h' } := I1.kept (t' := s1.toks) hk
        refine ⟨s1.heap.objs.size + 1, [s1.heap.objs.size + 1, s1.heap.objs.size], _, _, H1, rfl, I2, turn_enum a (s1.heap.objs.size + 1) s1.heap.objs.size, ⟨⟨.none, he⟩, hit, Nat.succ_ne_self _⟩, fun b hb => ?_, q⟩
        have e' : b = s1.heap.objs.size + 1 ∨ b = s1.heap.objs.size := by simpa using hb
        have hle : s1.heap.objs.size ≤ b := by
          rcases e' with z | z
          · rw [z]; exact Nat.le_add_right _ _
          · rw [z]; exact Nat.le_refl _
        exact I1.fpOk hle (I1.hok.fresh hle)
    · subst ex
      cases r1 with
      | cons r rr =>
        cases rr
        cases r
        obtain ⟨its, rv, p', hz⟩ := I1.tuple hq
        refine enum_begins1 (begins_tuple a its.toArray) p' fun h' he ho hsz hk => wpAny_pyIter_enum he ?_
        have I2 : Inv X pins σ H1 { s1 with heap := h' } := I1.kept (t' := s1.toks) hk
        refine ⟨s1.heap.objs.size + 1, [s1.heap.objs.size + 1, s1.heap.objs.size], _, _, H1, rfl, I2, turn_enumG (src_tup s1.heap.objs.size a) (s1.heap.objs.size + 1), ⟨⟨.none, he⟩, ⟨_, ho, rfl, rfl⟩, Nat.succ_ne_self _⟩, fun b hb => ?_, q⟩
        have e' : b = s1.heap.objs.size + 1 ∨ b = s1.heap.objs.size := by simpa using hb
        have hle : s1.heap.objs.size ≤ b := by
          rcases e' with z | z
          · rw [z]; exact Nat.le_add_right _ _
          · rw [z]; exact Nat.le_refl _
        exact I1.fpOk hle (I1.hok.fresh hle)
  rw [ok.K]
  refine h X W bb ok tk w σ H rp en xc _ fun w1 S1 H1 r v l1 r1 i1 ⟨ds, hd, k1⟩ => ?_
  obtain ⟨p, e, st⟩ := hd.stays r1 i1
  subst e
  have sg : SGof S1 r ds S1 := by
    cases hd with
    | loc h => exact h
    | _ => trivial
  rcases st with st | st
  · obtain ⟨us, g1, g2⟩ := st w1 S1 H1 (Le.refl _) r1 sg
    refine .inl ⟨p, us, rfl, g1, n w1 S1 H1 _ _ _ l1 r1 ⟨fun H => ∃ xs : List V, SqL C.g.K H p xs ∧ xs.length = ds.length, fun i H x H' => (Ite C.g.K p).yld i H x H', ?_, fun w' S' H' l r' g => ?_, fun w' S' H' i x H2 d l r' g hd' y => ?_⟩ k1⟩
    · rw [enumD_len]
      exact ⟨fun i _ hi ⟨xs, q, e⟩ => ⟨xs, xs[i], q, by simp [e, hi]⟩, fun _ ⟨xs, q, e⟩ => ⟨xs, q, by omega⟩, fun _ _ _ _ _ _ y => y⟩
    · obtain ⟨us, g1, g2⟩ := st w' S' H' l r' g
      exact ⟨us, g1, (IsL.length g2).symm⟩
    · obtain ⟨us, g1, g2⟩ := st w' S' H' l r' g
      obtain ⟨d0, hd0, e⟩ := enumD_get hd'
      subst e
      obtain ⟨T, x0, e1, hT, e2, hx0⟩ := y
      subst e1 e2
      exact pair_known r' hT (getL g2 hd0 (hx0 us g1))
  · obtain ⟨us, g1, g2⟩ := st w1 S1 H1 (Le.refl _) r1
    refine .inr ⟨p, us, rfl, g1, n w1 S1 H1 _ _ _ l1 r1 ⟨fun H => ∃ xs : List V, SqT C.g.K H p xs ∧ xs.length = ds.length, fun i H x H' => (itT C.g.K p).yld i H x H', ?_, fun w' S' H' l r' g => ?_, fun w' S' H' i x H2 d l r' g hd' y => ?_⟩ k1⟩
    · rw [enumD_len]
      exact ⟨fun i _ hi ⟨xs, q, e⟩ => ⟨xs, xs[i], q, by simp [e, hi]⟩, fun _ ⟨xs, q, e⟩ => ⟨xs, q, by omega⟩, fun _ _ _ _ _ _ y => y⟩
    · obtain ⟨us, g1, g2⟩ := st w' S' H' l r'
      exact ⟨us, g1, (IsL.length g2).symm⟩
    · obtain ⟨us, g1, g2⟩ := st w' S' H' l r'
      obtain ⟨d0, hd0, e⟩ := enumD_get hd'
      subst e
      obtain ⟨T, x0, e1, hT, e2, hx0⟩ := y
      subst e1 e2
      exact pair_known r' hT (getL g2 hd0 (hx0 us g1))
end
end DL
set_option Elab.async false
set_option linter.all false
set_option maxRecDepth 100000
set_option maxHeartbeats 4000000
namespace DL
open PySem PySem.Spec PyProof.Rows
open L2 hiding Takes passAt takes_of ps_raise PMk ps_try_as
open L2N (Takes passAt takes_of ps_raise PMk ps_try_as)
section
variable {C : DC} {env : Nv} {S : Sto} {Ψ : R → Sto → Prop} {Θ : Bool → Sto → Prop} {Φ : List R → Sto → Prop} {Ω : Nv → Sto → Prop} {E : Nd} {pos p2 p3 apos : Pos} {a b c e o tg kx vx iter : Expr} {es rest ifs : List Expr} {x f m : Str}
def DcI (C : DC) (tg kx vx : Expr) (ifs : List Expr) (scope : Scope) (own vis wr : List (Str × Nat)) (gl : List Str) (env : Nv) (Ψ : R → Sto → Prop) (ds : List D) (SG : Sto → Prop) (S1 : Sto) : Prop :=
  ∃ I : Nat → Sto → Prop, I 0 (S1 ++ [.dK [] []]) ∧ (∀ i S', I i S' → SG S') ∧
      (∀ i d S', ds[i]? = some d → I i S' → WGw (C.blk scope vis wr gl (S1.length + 1)) (own.map (·.2)) tg (.val d) (wipeN env (own.map (·.2))) S' fun e2 S2 => WTs (C.blk scope vis wr gl (S1.length + 1)) ifs e2 S2 fun k S3 =>
        (k = false → I (i + 1) S3) ∧ (k = true → WE (C.blk scope vis wr gl (S1.length + 1)) kx e2 S3 fun q S4 => WE (C.blk scope vis wr gl (S1.length + 1)) vx e2 S4 fun r S5 => ∃ ks rs key, q = .val (kD key) ∧ S5[S1.length]? = some (.dK ks rs) ∧ ks.length < sizeLine ∧ key ∉ ks ∧ I (i + 1) (S5.set S1.length (.dK (ks ++ [key]) (rs ++ [r]))))) ∧
      (∀ S', I ds.length S' → Ψ (.loc S1.length) S')
theorem dc_wp {scope : Scope} {own vis wr : List (Str × Nat)} {gl : List Str} (hb : lcB C.N C.sc scope own vis wr gl = true) (hc : C.calm = true)
    (h : WI C tg iter env S fun ds SG S1 => DcI C tg kx vx ifs scope own vis wr gl env Ψ ds SG S1)
    {X : Cx} {W : WX} {bb : Base} (ok : OkC X C) (tk : Takes X W) {w : Wd} {σ : L2.St} {H : Hp} (rp : Rp C.g.K bb w S H) (en : EnvIs C.g.K bb w env σ) (xc : XCov C.g.K bb w C.n0 C.xi W) {Q : VK} (n : NCov C.g.K bb w Ψ Q) :
    tDc (cI X tg iter) (fun v σ H Q => ∀ s H0 A cl fp, cG (X.blk s H0 scope (compEnvC scope cl A X.env) fp) tg v σ H Q) (fun σ H Q => ∀ s H0 A cl fp, cTs (X.blk s H0 scope (compEnvC scope cl A X.env) fp) ifs σ H Q)
      (fun σ H Q => ∀ s H0 A cl fp, cE (X.blk s H0 scope (compEnvC scope cl A X.env) fp) kx σ H Q) (fun σ H Q => ∀ s H0 A cl fp, cE (X.blk s H0 scope (compEnvC scope cl A X.env) fp) vx σ H Q) (own.map (·.2)) σ H Q := by
  refine h X W bb ok tk w σ H rp en xc _ fun w1 S1 H1 J ds SG l1 r1 wk ⟨I, h0, hG, hstep, hend⟩ => ?_
  obtain ⟨G, Y, wlk, hg, hy⟩ := wk.ex
  intro L hL
  have b0 : bb.as0.length ≤ S1.length := by
    obtain ⟨t, e⟩ := r1.pre
    rw [← r1.len, e, List.length_append]; omega
  obtain ⟨r2, l2⟩ := r1.alloc (n := .dK [] []) (o := .dK []) hL ⟨[], upd_same, rfl, .nil⟩
  refine ⟨fun i m H' => ∃ w' S', Le ⟨w1.G, w1.as ++ [L]⟩ w' ∧ Rp C.g.K bb w' S' H' ∧ I i S' ∧ m = ds.length - i ∧ i ≤ ds.length, ⟨_, _, _, Le.refl _, r2, h0, rfl, Nat.zero_le _⟩, ?_⟩
  rintro i m H2 ⟨w3, S3, l3, r3, i3, rfl, hi⟩
  have lw : Le w w3 := (l1.trans l2).trans l3
  have aL : ∀ {w' : Wd}, Le w3 w' → w'.as[S1.length]? = some L := fun l => l.at_ (l3.at_ (by rw [← r1.len]; simp))
  by_cases hlt : i < ds.length
  · have hd : ds[i]? = some ds[i] := by simp [hlt]
    refine .inr ⟨wlk.goes i H2 hlt (hg w3 S3 H2 (l2.trans l3) r3 (hG i S3 i3)), fun H' => ∃ w' S', Le ⟨w1.G, w1.as ++ [L]⟩ w' ∧ Rp C.g.K bb w' S' H' ∧ I (i + 1) S',
      fun H' ⟨w', S', q1, q2, q3⟩ => ⟨ds.length - (i + 1), by omega, w', S', q1, q2, q3, rfl, hlt⟩, fun x H4 yy => ?_⟩
    obtain ⟨w4, l4, r4, x4⟩ := hy w3 S3 H2 i x H4 ds[i] (l2.trans l3) r3 (hG i S3 i3) hd (wlk.yields i H2 x H4 hlt (hg w3 S3 H2 (l2.trans l3) r3 (hG i S3 i3)) yy)
    intro sb Hb Ab cl fp
    have en4 := (en.mono (lw.trans l4)).wipe (own.map (·.2))
    refine hstep i ds[i] S3 hd i3 _ (fun _ _ _ _ => False) bb (ok.blk hb) takes_blk w4 _ H4 r4 en4 ⟨Nat.le_succ_of_le b0, fun _ _ _ _ _ _ _ _ _ _ _ _ _ _ _ _ z => z.elim⟩ x x4 _ fun w5 S5 H5 env5 σ5 l5 r5 e5 k5 hw => ?_
    refine ⟨hw.trans (wipe_wipe (fun _ h => h)), ?_⟩
    have l15 : Le ⟨w1.G, w1.as ++ [L]⟩ w5 := by
      refine LeN.le (n := S1.length + 1) (((l3.trans l4).n _).trans l5) ?_
      have : w1.as.length = S1.length := r1.len
      simp; omega
    have x0 : ∀ {w' : Wd}, XCov C.g.K bb w' (S1.length + 1) (fun _ _ _ _ _ => False) (fun _ _ _ _ => False) := ⟨Nat.le_succ_of_le b0, fun _ _ _ _ _ _ _ _ _ _ _ _ _ _ _ _ z => z.elim⟩
    intro sb Hb Ab cl fp
    refine k5 _ (fun _ _ _ _ => False) bb (ok.blk hb) takes_blk w5 _ H5 r5 e5 x0 _ fun w6 S6 H6 k l6 r6 k6 => ?_
    cases k with
    | false => exact ⟨w6, S6, l15.trans l6, r6, k6.1 rfl⟩
    | true =>
      show if true = true then _ else _
      rw [if_pos rfl]
      intro sb Hb Ab cl fp
      refine k6.2 rfl _ (fun _ _ _ _ => False) bb (ok.blk hb) takes_blk w6 _ H6 r6 (e5.mono l6) x0 _ fun w7 S7 H7 q kv l7 r7 i7 k7 => ?_
      intro sb Hb Ab cl fp
      refine k7 _ (fun _ _ _ _ => False) bb (ok.blk hb) takes_blk w7 _ H7 r7 (e5.mono (l6.trans l7)) x0 _ fun w8 S8 H8 r v l8 r8 i8 ⟨ks, rs, key, e1, hrs, hz, hn, hI⟩ => ?_
      subst e1
      have i7 := kD_is i7
      subst i7
      have l18 := l15.trans (l6.trans (l7.trans l8))
      have a8 : w8.as[S1.length]? = some L := l18.at_ (by rw [← r1.len]; simp)
      obtain ⟨a', h3, _, _, vs, h4, h5, h6⟩ := r8.at_ _ _ hrs rfl
      rw [a8] at h3; cases h3
      refine ⟨_, key, rfl, h4, by rw [List.length_zip]; omega, ?_⟩
      rw [putK_new h5 hn]
      exact ⟨w8, _, l18, r8.write (n' := .dK (ks ++ [key]) (rs ++ [r])) hrs rfl a8 ⟨vs ++ [v], upd_same, by simp [h5], h6.append (.cons i8 .nil)⟩, hI⟩
  · have e : i = ds.length := by omega
    subst e
    refine .inl ⟨wlk.stops H2 (hg w3 S3 H2 (l2.trans l3) r3 (hG _ S3 i3)), ?_⟩
    exact n w3 S3 H2 (.loc S1.length) _ lw r3 ⟨L, aL (Le.refl _), rfl⟩ (hend S3 i3)
/-- {k: v for tg in iter if ..} -/
theorem we_dc {scope : Scope} (own vis wr : List (Str × Nat)) (gl : List Str) (hb : lcB C.N C.sc scope own vis wr gl = true) (hc : C.calm = true)
    (h : WI C tg iter env S fun ds SG S1 => DcI C tg kx vx ifs scope own vis wr gl env Ψ ds SG S1) (hs : ∀ X : Cx, ∀ x, foldedSetIterable iter X.env x = pure x) : WE C (.DictComp kx vx [⟨tg, iter, ifs, 0⟩] scope pos) env S Ψ := fun X W bb ok tk w σ H rp en xc Q n =>
  ⟨_, pe_dc (ok.calm hc).1 ok.nd cI_ok (lcB_blk ok hb) cG_blk cTs_blk cE_blk cE_blk (hs X), dc_wp hb hc h ok tk rp en xc n⟩
/-- {} -/
theorem we_dNewK (h : Ψ (.loc S.length) (S ++ [.dK [] []])) : WE C (.Dict [] [] pos) env S Ψ := fun X W bb ok tk w σ H rp en xc Q n => by
  refine ⟨_, pe_dnewK, fun l hl => ?_⟩
  obtain ⟨r2, l2⟩ := rp.alloc (n := .dK [] []) (o := .dK []) hl ⟨[], upd_same, rfl, .nil⟩
  exact n _ _ _ (.loc S.length) _ l2 r2 (loc_new rp l) h
theorem we_dNewT (h : Ψ (.loc S.length) (S ++ [.dT [] []])) : WE C (.Dict [] [] pos) env S Ψ := fun X W bb ok tk w σ H rp en xc Q n => by
  refine ⟨_, pe_dnewT, fun l hl => ?_⟩
  obtain ⟨r2, l2⟩ := rp.alloc (n := .dT [] []) (o := .dT []) hl ⟨[], upd_same, rfl, .nil⟩
  exact n _ _ _ (.loc S.length) _ l2 r2 (loc_new rp l) h
end
end DL
set_option Elab.async false
set_option linter.all false
set_option maxRecDepth 100000
set_option maxHeartbeats 4000000
namespace DL
open PySem PySem.Spec PyProof.Rows
open L2 hiding Takes passAt takes_of ps_raise PMk ps_try_as
open L2N (Takes passAt takes_of ps_raise PMk ps_try_as)
/-- names of built-ins that the module leaves alone -/
def BltF (g : Gd) (L : List Str) : Prop := ∀ x ∈ L, g.mg x = none
theorem BltF.at_ {g : Gd} {L : List Str} (h : BltF g L) {x : Str} (hx : InG x L) : g.mg x = none := h x hx.mem
/-! ### numbers, texts -/
abbrev iN (n : Nat) : D := .int (n : Int)
abbrev tN (l : List Nat) : D := .tup (l.map iN)
abbrev pN (p : Nat × Nat) : D := .tup [iN p.1, iN p.2]
abbrev sL (l : List Nat) : D := .str ⟨l.toArray⟩
theorem atI_nat {α : Type} (l : List α) (k : Nat) : atI l (k : Int) = l[k]? := by
  unfold atI
  by_cases h : k < l.length
  · have e : ixN l.length (k : Int) = some k := by
      unfold ixN
      rw [if_pos (by omega), if_pos (by omega)]
      simp
    rw [e]; rfl
  · have e : ixN l.length (k : Int) = none := by
      unfold ixN
      rw [if_pos (by omega), if_neg (by omega)]
    rw [e, List.getElem?_eq_none (by omega)]; rfl
theorem atI_get {α : Type} {l : List α} {i : Int} {k : Nat} {x : α} (e : i = (k : Int)) (h : l[k]? = some x) : atI l i = some x := by rw [e, atI_nat, h]
theorem atI_last {α : Type} {l : List α} {i : Int} {k : Nat} {x : α} (e : i = -((k : Int) + 1)) (hk : k < l.length) (h : l[l.length - 1 - k]? = some x) : atI l i = some x := by
  subst e
  have e2 : ixN l.length (-((k : Int) + 1)) = some (l.length - 1 - k) := by
    unfold ixN
    rw [if_neg (by omega), if_pos (by omega)]
    congr 1
    omega
  unfold atI
  rw [e2]
  exact h
/-! ### a def without objects: values in, a value out -/
def spF (A : Type) (arg : A → List D) (pre : A → Prop) (res : A → D) : DSp := fun rs S Ψ _ => ∃ a : A, rs = (arg a).map .val ∧ S = [] ∧ pre a ∧ Ψ (.val (res a)) []
section
variable {C : DC} {env : Nv} {S : Sto} {Ψ : R → Sto → Prop}
theorem argsP_vals {ks : List Nat} : ∀ ds : List D, ArgsP S ks (ds.map .val) (ds.map .val)
  | [] => .nil
  | d :: ds => .cons (.val d) (argsP_vals ds)
theorem fnc_F {A : Type} {arg : A → List D} {pre : A → Prop} {res : A → D} {rs : List R} (a : A) (hrs : rs = (arg a).map .val) (hp : pre a) (h : Ψ (.val (res a)) S) : FnC C (spF A arg pre res) rs env S Ψ := by
  subst hrs
  refine ⟨[], [], _, PassS.nil, argsP_vals _, a, rfl, rfl, hp, ?_⟩
  show Ψ (.val (res a)) (backS [] S [])
  rw [backS_nil]
  exact h
end

/-! ### data of one shape: == is = -/
structure Flt {α : Type} [DecidableEq α] (f : α → D) (k : Nat) : Prop where
  eq : ∀ x y, eqD (f x) (f y) = decide (x = y)
  eqs : ∀ x, eqs (f x) = true
  dep : ∀ x, (pd (f x)).depth ≤ k
theorem eqsL_map {α : Type} {f : α → D} (h : ∀ x, eqs (f x) = true) (l : List α) : eqsL (l.map f) = true := by
  induction l with
  | nil => rfl
  | cons x l ih => show (eqs (f x) && eqsL (l.map f)) = true; rw [h, ih]; rfl
theorem eqvAll_map {α : Type} [DecidableEq α] {f : α → D} (h : ∀ x y, eqD (f x) (f y) = decide (x = y)) : ∀ l m : List α, PyData.eqvAll (pdL (l.map f)) (pdL (m.map f)) = decide (l = m)
  | [], [] => rfl
  | [], _ :: _ => rfl
  | _ :: _, [] => rfl
  | x :: l, y :: m => by
    show (PyData.eqv (pd (f x)) (pd (f y)) && PyData.eqvAll (pdL (l.map f)) (pdL (m.map f))) = _
    rw [eqvAll_map h l m, show PyData.eqv (pd (f x)) (pd (f y)) = decide (x = y) from h x y]
    by_cases h1 : x = y <;> by_cases h2 : l = m <;> simp [h1, h2]
theorem depthA_map {α : Type} {f : α → D} {k : Nat} (h : ∀ x, (pd (f x)).depth ≤ k) (l : List α) : PyData.depthAll (pdL (l.map f)) ≤ k := by
  induction l with
  | nil => exact Nat.zero_le _
  | cons x l ih => exact Nat.max_le.mpr ⟨h x, ih⟩
theorem depth_mapT {α : Type} {f : α → D} {k : Nat} (h : ∀ x, (pd (f x)).depth ≤ k) (l : List α) : (PyData.tuple (pdL (l.map f))).depth ≤ k + 1 := by
  show PyData.depthAll (pdL (l.map f)) + 1 ≤ k + 1
  exact Nat.succ_le_succ (depthA_map h l)
theorem depth_mapL {α : Type} {f : α → D} {k : Nat} (h : ∀ x, (pd (f x)).depth ≤ k) (l : List α) : (PyData.list (pdL (l.map f))).depth ≤ k + 1 := by
  show PyData.depthAll (pdL (l.map f)) + 1 ≤ k + 1
  exact Nat.succ_le_succ (depthA_map h l)
theorem flt_nat : Flt iN 0 := ⟨fun x y => by show ((x : Int) == (y : Int)) = _; rw [Bool.beq_eq_decide_eq]; exact decide_eq_decide.mpr Int.ofNat_inj, fun _ => rfl, fun _ => Nat.le_refl _⟩
theorem Flt.tup {α : Type} [DecidableEq α] {f : α → D} {k : Nat} (h : Flt f k) : Flt (fun l : List α => D.tup (l.map f)) (k + 1) := ⟨fun l m => eqvAll_map h.eq l m, fun l => eqsL_map h.eqs l, fun l => depth_mapT h.dep l⟩
theorem Flt.lst {α : Type} [DecidableEq α] {f : α → D} {k : Nat} (h : Flt f k) : Flt (fun l : List α => D.lst (l.map f)) (k + 1) := ⟨fun l m => eqvAll_map h.eq l m, fun l => eqsL_map h.eqs l, fun l => depth_mapL h.dep l⟩
theorem flt_pair : Flt pN 1 := ⟨fun x y => by
  have := flt_nat.tup.eq [x.1, x.2] [y.1, y.2]
  show eqD (.tup [iN x.1, iN x.2]) (.tup [iN y.1, iN y.2]) = _
  rw [show eqD (.tup [iN x.1, iN x.2]) (.tup [iN y.1, iN y.2]) = decide ([x.1, x.2] = [y.1, y.2]) from this]
  congr 1
  simp [Prod.ext_iff], fun _ => rfl, fun x => flt_nat.tup.dep [x.1, x.2]⟩
section
variable {C : DC} {env : Nv} {S : Sto} {Ψ : R → Sto → Prop} {α : Type} [DecidableEq α] {f : α → D} {k : Nat} {x y : R} {a b : α}
theorem wo_eqF (hf : Flt f k) (hk : k ≤ 64) (h1 : DatR S x (f a)) (h2 : DatR S y (f b)) (h : Ψ (.val (.bl (decide (a = b)))) S) : WO C (compareOp .Eq) x y S Ψ := wo_eqD h1 h2 (hf.eqs a) (hf.eqs b) (Nat.le_trans (hf.dep a) hk) (Nat.le_trans (hf.dep b) hk) (by rw [hf.eq]; exact h)
theorem wix_F {γ : Type} {g : γ → D} {l : List γ} {i : Int} {j : Nat} {c : γ} (hd : SeqD S x (l.map g)) (e : i = (j : Int)) (h1 : l[j]? = some c) (h : Ψ (.val (g c)) S) : WIx C x (.val (.int i)) S Ψ := wix_seq hd (atI_get e (by rw [List.getElem?_map, h1]; rfl)) h
end
section
variable {C : DC} {env : Nv} {S : Sto} {Ψ : R → Sto → Prop} {E : Nd} {c e : Expr} {body els : List Stmt} {pos : Pos}
/-- a test that changes nothing, told by one word -/
theorem ws_ifB (B : Prop) [Decidable B] (h : WT C c env S fun k S1 => k = decide B ∧ S1 = S) (ht : B → WSs C body env S E) (hf : ¬ B → WSs C els env S E) : WS C (.If c body els pos) env S E := ws_if (by
  intro X W bb ok tk w σ H rp en xc Q n
  refine h X W bb ok tk w σ H rp en xc Q fun w1 S1 H1 k l r ⟨h1, h2⟩ => n w1 S1 H1 k l r ?_
  subst h1 h2
  exact ⟨fun z => ht (of_decide_eq_true z), fun z => hf (of_decide_eq_false z)⟩)
theorem we_mono {Ψ' : R → Sto → Prop} (h : WE C e env S Ψ') (hm : ∀ r S1, Ψ' r S1 → Ψ r S1) : WE C e env S Ψ := fun X W bb ok tk w σ H rp en xc Q n => h X W bb ok tk w σ H rp en xc Q fun w1 S1 H1 r v l rp1 i k => n w1 S1 H1 r v l rp1 i (hm r S1 k)
theorem wt_mono {Θ Θ' : Bool → Sto → Prop} (h : WT C e env S Θ') (hm : ∀ r S1, Θ' r S1 → Θ r S1) : WT C e env S Θ := fun X W bb ok tk w σ H rp en xc Q n => h X W bb ok tk w σ H rp en xc Q fun w1 S1 H1 r l rp1 k => n w1 S1 H1 r l rp1 (hm r S1 k)
end

theorem okB_nl (n : Nat) (ds : List D) : Node.okB n (nl ds) = true := by
  show (ds.map R.val).all (R.okB n) = true
  simp [List.all_map, Function.comp_def, R.okB]
def okEs (n : Nat) : Nv → Bool
  | [] => true
  | none :: e => okEs n e
  | some r :: e => okE n r && okEs n e
theorem EnvW.refl {S : Sto} {n : Nat} : ∀ {e : Nv}, okEs n e = true → EnvW S n e e
  | [], _ => .nil
  | none :: e, h => .drop (EnvW.refl h)
  | some r :: e, h => by
    obtain ⟨h1, h2⟩ := Bool.and_eq_true_iff.mp (show (okE n r && okEs n e) = true from h)
    exact .keep h1 (EnvW.refl h2)
theorem Wk.now {n0 : Nat} {I : Nv → Sto → Prop} {env : Nv} {S : Sto} (h0 : n0 ≤ S.length) (h1 : S.all (Node.okB S.length) = true) (h2 : okEs S.length env = true) (h : I env S) : Wk n0 I env S :=
  ⟨S.length, env, h0, Nat.le_refl _, by rw [List.take_length]; exact h1, EnvW.refl h2, by rw [List.take_length]; exact h⟩
theorem RetC.now {n0 : Nat} {Ψ : R → Sto → Prop} {r : R} {S : Sto} (h0 : n0 ≤ S.length) (h1 : S.all (Node.okB S.length) = true) (h2 : r.okB S.length = true) (h : Ψ r S) : RetC n0 Ψ r S :=
  ⟨S.length, h0, Nat.le_refl _, by rw [List.take_length]; exact h1, .inl ⟨h2, by rw [List.take_length]; exact h⟩⟩
/-- a value goes back, the store as it was -/
theorem RetC.cut {Ψ : R → Sto → Prop} {d : D} {S T : Sto} (h1 : S.all (Node.okB S.length) = true) (h : Ψ (.val d) S) : RetC S.length Ψ (.val d) (S ++ T) :=
  ⟨S.length, Nat.le_refl _, by simp, by rw [List.take_left]; exact h1, .inl ⟨rfl, by rw [List.take_left]; exact h⟩⟩
theorem RetC.cut0 {Ψ : R → Sto → Prop} {d : D} {T : Sto} (h : Ψ (.val d) []) : RetC 0 Ψ (.val d) T := RetC.cut (S := []) rfl h

theorem Wk.drop {n0 : Nat} {I : Nv → Sto → Prop} {env env' : Nv} {S : Sto} (h : I env' S) (he : EnvW S S.length env env') (h0 : n0 ≤ S.length) (h1 : S.all (Node.okB S.length) = true) : Wk n0 I env S :=
  ⟨S.length, env', h0, Nat.le_refl _, by rw [List.take_length]; exact h1, he, by rw [List.take_length]; exact h⟩
/-- the store cut back to its first objects -/
theorem Wk.cut {n0 : Nat} {I : Nv → Sto → Prop} {env env' : Nv} {S T : Sto} (h : I env' S) (he : EnvW (S ++ T) S.length env env') (h0 : n0 ≤ S.length) (h1 : S.all (Node.okB S.length) = true) : Wk n0 I env (S ++ T) :=
  ⟨S.length, env', h0, by simp, by rw [List.take_left]; exact h1, he, by rw [List.take_left]; exact h⟩
theorem ren_vals (f : Nat → Nat) (ds : List D) : (ds.map R.val).map (R.ren f) = ds.map R.val := by
  rw [List.map_map]; exact List.map_congr_left fun d _ => rfl
theorem set_same {α : Type} {l : List α} {k : Nat} {x : α} (h : l[k]? = some x) : l.set k x = l := by
  obtain ⟨hk, e⟩ := List.getElem?_eq_some_iff.mp h
  rw [← e]; exact List.set_getElem_self hk
theorem upS_same {f : Nat → Nat} : ∀ (ks : List Nat) (S T : Sto), (∀ (j k : Nat) (n : Node), ks[j]? = some k → T[j]? = some n → S[k]? = some (n.ren f)) → upS f ks S T = S
  | [], S, T, _ => by cases T <;> rfl
  | k :: ks, S, [], _ => rfl
  | k :: ks, S, m :: ms, h => by
    show upS f ks (S.set k (m.ren f)) ms = S
    rw [set_same (h 0 k m rfl rfl)]
    exact upS_same ks S ms fun j k n h1 h2 => h (j + 1) k n (by simpa using h1) (by simpa using h2)
/-- objects that a call has only read -/
theorem back_same {ks : List Nat} {S T : Sto} (p : PassS ks S T) : backS ks S T = S := by
  unfold backS
  rw [upS_same ks S T fun j k n h1 h2 => ?_, List.drop_of_length_le (Nat.le_of_eq p.len)]
  · simp
  · obtain ⟨n', h3, _, h4⟩ := p.at_ j k h1
    rw [h2] at h3; cases h3; exact h4
theorem passDct {S : Sto} {r0 : R} {K : List (List Key)} {V : List D} (hd : DctT S r0 K V) : ∃ ks T r0', PassS ks S T ∧ ArgP S ks r0 r0' ∧ DctT T r0' K V ∧ okE T.length r0' = true ∧ T.all (Node.okB T.length) = true ∧ backS ks S T = S := by
  cases hd with
  | val => exact ⟨[], [], _, PassS.nil, .val _, .val _ _, rfl, rfl, backS_nil S⟩
  | @loc k _ _ h =>
    have e : (Node.dT K (V.map .val)).ren (rho [k] S.length) = .dT K (V.map .val) := by
      show Node.dT K ((V.map R.val).map _) = _
      rw [ren_vals]
    have o : Node.okB 1 (.dT K (V.map .val)) = true := okB_vals 1 V
    have p : PassS [k] S [.dT K (V.map .val)] := ⟨by simp, rfl, fun j k' hj => by
      cases j with
      | zero => simp at hj; subst hj; exact ⟨_, rfl, rfl, by rw [e]; exact h⟩
      | succ j => simp at hj, by simp [o]⟩
    exact ⟨[k], [.dT K (V.map .val)], .loc 0, p, .loc rfl, .loc rfl, rfl, by simp [o], back_same p⟩
/-- a list made here goes back as data -/
theorem RetC.fixL {Ψ : R → Sto → Prop} {k : Nat} {ds : List D} {S : Sto} (h : S[k]? = some (nl ds)) (hΨ : Ψ (.val (.lst ds)) []) : RetC 0 Ψ (.loc k) S :=
  ⟨0, Nat.le_refl _, Nat.zero_le _, rfl, .inr ⟨_, .lst (Nat.zero_le _) h (FzL.vals ds), hΨ⟩⟩
theorem no_t {P : Prop} (h : false = true) : P := nomatch h
theorem no_f {P : Prop} (h : true = false) : P := nomatch h
/-- data that compares with itself -/
inductive SmD : Nat → D → Prop where
  | non {n : Nat} : SmD n .non
  | str {n : Nat} (s : Str) : SmD n (.str s)
  | bl {n : Nat} (b : Bool) : SmD n (.bl b)
  | int {n : Nat} (i : Int) : SmD n (.int i)
  | tup {n : Nat} {ds : List D} : (∀ d ∈ ds, SmD n d) → ds.length ≤ 100000 → SmD (n + 1) (.tup ds)
theorem SmD.tN {n : Nat} {l : List Nat} (h : l.length ≤ 100000) : SmD (n + 1) (tN l) := .tup (fun d hd => by obtain ⟨x, _, rfl⟩ := List.mem_map.mp hd; exact .int _) (by simpa using h)
def spSM (n : Nat) : DSp := fun rs S Ψ _ => ∃ d, rs = [.val d, .val d] ∧ S = [] ∧ SmD n d ∧ Ψ (.val (.bl true)) []
theorem fnc_SM {C : DC} {env : Nv} {S : Sto} {Ψ : R → Sto → Prop} {n : Nat} {d : D} (hd : SmD n d) (h : Ψ (.val (.bl true)) S) : FnC C (spSM n) [.val d, .val d] env S Ψ := by
  refine ⟨[], [], [.val d, .val d], PassS.nil, .cons (.val _) (.cons (.val _) .nil), d, rfl, rfl, hd, ?_⟩
  show Ψ (.val _) (backS [] S [])
  rw [backS_nil]
  exact h
end DL
set_option Elab.async false
set_option linter.all false
set_option maxRecDepth 100000
set_option maxHeartbeats 4000000
namespace DL
open PySem PySem.Spec PyProof.Rows
open L2 hiding Takes passAt takes_of ps_raise PMk ps_try_as
open L2N (Takes passAt takes_of ps_raise PMk ps_try_as)
/-! ### texts as lists of signs -/
abbrev sS (l : List Nat) : Str := ⟨l.toArray⟩
theorem sS_len (l : List Nat) : (sS l).length = l.length := by show l.toArray.size = _; simp
theorem sS_app (a b : List Nat) : sS a ++ sS b = sS (a ++ b) := by
  show (⟨a.toArray ++ b.toArray⟩ : Str) = _
  simp
theorem sS_inj {a b : List Nat} : sS a = sS b ↔ a = b := by
  constructor
  · intro h
    have : (sS a).cps.toList = (sS b).cps.toList := by rw [h]
    simpa using this
  · intro h; rw [h]
theorem sS_of (s : Str) : s = sS s.cps.toList := by cases s; rfl
section
variable {C : DC} {env : Nv} {S : Sto} {Ψ : R → Sto → Prop} {Θ : Bool → Sto → Prop} {Λ : List D → (Sto → Prop) → Sto → Prop} {pos p2 tpos apos : Pos} {e o tg : Expr} {elts : List Expr} {kk : Nat} {a b l : List Nat} {c k : Nat} {i : Int}
theorem wo_addL (hl : a.length + b.length ≤ sizeLine) (h : Ψ (.val (sL (a ++ b))) S) : WO C (binaryOp .Add) (.val (sL a)) (.val (sL b)) S Ψ := wo_addS (s := sS a) (t := sS b) (by rw [sS_len, sS_len]; exact hl) (by rw [sS_app]; exact h)
theorem wc_lenL (hl : l.length ≤ sizeLine) (h : Ψ (.val (iN l.length)) S) : WC C (.builtin "len") [.val (sL l)] S Ψ := wc_len_str (s := sS l) (by rw [sS_len]; exact hl) (by rw [sS_len]; exact h)
theorem wix_L (hl : l.length ≤ sizeLine) (hi : atI l i = some c) (h : Ψ (.val (sL [c])) S) : WIx C (.val (sL l)) (.val (.int i)) S Ψ := wix_str (s := sS l) (by rw [sS_len]; exact hl) hi h
theorem wo_inL (h : Ψ (.val (.bl (decide (k ∈ l)))) S) : WO C (compareOp .In) (.val (sL [k])) (.val (sL l)) S Ψ := wo_inC (t := sS l) h
theorem wo_notInL (h : Ψ (.val (.bl (!decide (k ∈ l)))) S) : WO C (compareOp .NotIn) (.val (sL [k])) (.val (sL l)) S Ψ := wo_notInC (t := sS l) h
theorem wo_eqL (h : Ψ (.val (.bl (decide (a = b)))) S) : WO C (compareOp .Eq) (.val (sL a)) (.val (sL b)) S Ψ := wo_eqS (s := sS a) (t := sS b) (by rw [show decide (sS a = sS b) = decide (a = b) from decide_eq_decide.mpr sS_inj]; exact h)
theorem wo_neL (h : Ψ (.val (.bl (!decide (a = b)))) S) : WO C (compareOp .NotEq) (.val (sL a)) (.val (sL b)) S Ψ := wo_neS (s := sS a) (t := sS b) (by rw [show decide (sS a = sS b) = decide (a = b) from decide_eq_decide.mpr sS_inj]; exact h)
theorem lt1 {c k : Nat} : (([c] : List Nat) < [k]) ↔ c < k := by
  rw [List.cons_lt_cons_iff]
  simp
theorem wo_lt1 (h : Ψ (.val (.bl (decide (c < k)))) S) : WO C (compareOp .Lt) (.val (sL [c])) (.val (sL [k])) S Ψ := wo_ltS (s := sS [c]) (t := sS [k]) (by rw [show decide ((sS [c]).cps.toList < (sS [k]).cps.toList) = decide (c < k) from decide_eq_decide.mpr lt1]; exact h)
theorem wo_le1 (h : Ψ (.val (.bl (decide (c ≤ k)))) S) : WO C (compareOp .LtE) (.val (sL [c])) (.val (sL [k])) S Ψ := wo_leS (s := sS [c]) (t := sS [k]) (by
  rw [show (!decide ((sS [k]).cps.toList < (sS [c]).cps.toList)) = decide (c ≤ k) from by
    rw [show decide ((sS [k]).cps.toList < (sS [c]).cps.toList) = decide (k < c) from decide_eq_decide.mpr lt1, ← decide_not]
    exact decide_eq_decide.mpr Nat.not_lt]; exact h)
theorem wo_ge1 (h : Ψ (.val (.bl (decide (k ≤ c)))) S) : WO C (compareOp .GtE) (.val (sL [c])) (.val (sL [k])) S Ψ := wo_geS (s := sS [c]) (t := sS [k]) (by
  rw [show (!decide ((sS [c]).cps.toList < (sS [k]).cps.toList)) = decide (k ≤ c) from by
    rw [show decide ((sS [c]).cps.toList < (sS [k]).cps.toList) = decide (c < k) from decide_eq_decide.mpr lt1, ← decide_not]
    exact decide_eq_decide.mpr Nat.not_lt]; exact h)
theorem wi_strL (h : WE C e env S fun r S1 => ∃ l, r = .val (sL l) ∧ Λ (l.map fun c => sL [c]) (fun _ => True) S1) : WI C tg e env S Λ := wi_str (we_mono h fun r S1 ⟨l, e, h⟩ => ⟨sS l, e, h⟩)
theorem wi_enumL (hx : InG "enumerate" C.gl) (hm : C.g.mg "enumerate" = none) (h : WE C e env S fun r S1 => ∃ l, r = .val (sL l) ∧ Λ (enumD (l.map fun c => sL [c])) (fun _ => True) S1) (hs : ∀ X : Cx, starEach [e] X.env = [(false, eval e X.env)]) : WI C (.Tuple elts kk tpos) (.Call (.Name "enumerate" p2) [e] [] pos) env S Λ := wi_enumS hx hm (we_mono h fun r S1 ⟨l, e, h⟩ => ⟨sS l, e, h⟩) hs
theorem wc_listL (hc : C.calm = true) (hz : l.length ≤ sizeLine) (h : Ψ (.loc S.length) (S ++ [nl (l.map fun c => sL [c])])) : WC C (.type "list") [.val (sL l)] S Ψ := wc_listS hc (z := sS l) (by rw [sS_len]; exact hz) h
theorem wm_joinL {y : R} {ys : List (List Nat)} (hy : SeqD S y (ys.map sL)) (hz : (ys.map (·.length)).sum ≤ 16777216) (h : Ψ (.val (sL ys.flatten)) S) : WM C "str.join" (.val (sL [])) y S Ψ := by
  refine wm_join (s := sS []) (ys := ys.map sS) (by rw [List.map_map]; exact hy) ?_ ?_
  · rw [List.map_map]
    have : ((fun s : Str => s.length) ∘ sS) = fun l : List Nat => l.length := by funext l; exact sS_len l
    rw [this]
    show _ + _ * 0 ≤ _
    simpa using hz
  · have e := join_empty (ys.map sS)
    rw [List.map_map, show ((fun y : Str => y.cps.toList) ∘ sS) = fun l => l from rfl, List.map_id'] at e
    rw [sS_of (Txt.join (sS []) (ys.map sS)), show (Txt.join (sS []) (ys.map sS)).cps.toList = ys.flatten from e]
    exact h
theorem we_type {T : String} {x : Str} (hx : InG x C.gl) (hm : C.g.mg x = none) (hv : bootBuiltins x = some (.type T)) (h : Ψ (.val (.opq (.ty T))) S) : WE C (.Name x pos) env S Ψ := we_bltn (v := .ty T) hx hm hv rfl h
end
def NoA (g : Gd) (A : Addr) (L : List Str) : Prop := ∀ f ∈ L, NoAttr g.K A f
theorem NoA.at_ {g : Gd} {A : Addr} {L : List Str} (h : NoA g A L) {x : Str} (hx : InG x L) : NoAttr g.K A x := h x hx.mem
section
variable {C : DC} {env : Nv} {S : Sto} {Ψ : R → Sto → Prop} {cs l : List Nat} {c : Nat} {s t : Str} {r : R}
theorem wo_addSK (hl : s.length + t.length ≤ sizeLine) (hs : s ++ t = sS l) (h : Ψ (.val (sL l)) S) : WO C (binaryOp .Add) (.val (.str s)) (.val (.str t)) S Ψ := wo_addS hl (by rw [hs]; exact h)
end
end DL
set_option Elab.async false
set_option linter.all false
set_option maxRecDepth 100000
set_option maxHeartbeats 4000000
namespace DL
open PySem PySem.Spec PyProof.Rows
open L2 hiding Takes passAt takes_of ps_raise PMk ps_try_as
open L2N (Takes passAt takes_of ps_raise PMk ps_try_as)
/-! ### len of an instance with its own __len__ -/
def rLenO (ff A : Addr) (sp : Sp) : List V → Hp → VK → Prop := fun xs H Q => ∃ (y dx : Addr) (fs : List (Str × V)), xs = [.ref y] ∧ H y = some (.ins A dx fs) ∧
  sp [.ref y] H (fun v H1 => ∃ n : Nat, v = .int (n : Int) ∧ n < 2 ^ 62 ∧ Q v H1) E0
theorem passX {P : Program} {w : World} {X : Cx} : Passes (L2N.CX P w) X E0 := fun _ _ _ _ _ _ _ ⟨_, _, _, _, _, _, _, _, _, _, _, _, h⟩ => h.elim
end DL
set_option Elab.async false
set_option linter.all false
set_option maxRecDepth 100000
set_option maxHeartbeats 4000000
namespace DL
open PySem PySem.Spec PyProof.Rows
open L2 hiding Takes passAt takes_of ps_raise PMk ps_try_as
open L2N (Takes passAt takes_of ps_raise PMk ps_try_as)
/-! ### the end -/
def CXall (P : Program) : CXT := fun outer H s E u s' => ∃ w, L2N.CX P w outer H s E u s'
theorem fnAll {P : Program} {w : World} {K : PySem.W.Frag} {mg : Str → Option Value} {base : Heap} {k : Nat} {f : Addr} {fd : FuncData} {ps : List Str} {sp : Sp} (F : FnOk P w K mg base (L2N.CX P w) k f fd ps sp) : FnOk P w K mg base (CXall P) k f fd ps sp :=
  ⟨F.len, fun A outer s H args us vs Q E hr he hb hv hs => codeAny_mono (F.run A outer s H args us vs Q E hr he hb hv hs) fun r s' hq => by
    cases r with
    | error e => exact ⟨w, hq⟩
    | ok fl => cases fl <;> exact hq⟩
theorem noX {P : Program} {H : Hp} {s : Shared} {e : Value} {s' : Shared} (h : CXall P [] H s (fun _ _ _ => False) e s') : False := by
  obtain ⟨w, _, _, _, _, _, _, _, _, _, _, _, _, h⟩ := h
  exact h
theorem lawSp {K : PySem.W.Frag} {s : DSp} (hs : ∀ (zs : List Int), zs.length ≤ 63 → ∀ (Φ : R → Sto → Prop) (ξ : Addr → List Str → List D → Sto → Prop), Φ (.val (.bl true)) [] → s [.bor (zs.map .int)] [] Φ ξ) {H : Hp} {a : Addr} {ns : List Int} (hl : ns.length ≤ 63) (hS : SqL K H a (ns.map V.int)) :
    spD K s [.ref a] H (fun v _ => v = .bl true) (fun _ _ _ => False) := by
  refine ⟨⟨H, []⟩, [], [.bor (ns.map .int)], fun r S => r = .val (.bl true), fun _ _ _ _ => False, ?_, .cons ⟨a, _, rfl, .inl hS, IsL.ints ns⟩ .nil, hs ns hl _ _ rfl, ?_, fun _ _ _ _ _ _ _ _ _ _ _ _ _ _ z => z⟩
  · exact ⟨Ex.refl _, rfl, ⟨[], rfl⟩, fun k n h => by simp at h, fun j k m n a h => by simp at h, fun a o h _ => h, fun a o h => ⟨o, h⟩, fun a o h => .inl h⟩
  · intro w' S' H' r v l rp hr _ _ e
    subst e
    exact hr
end DL
set_option Elab.async false
set_option linter.all false
set_option maxRecDepth 100000
set_option maxHeartbeats 4000000
namespace RT
open PySem PySem.Spec PyProof.Rows
open L2 hiding Takes passAt takes_of ps_raise PMk ps_try_as
open L2N (Takes passAt takes_of ps_raise PMk ps_try_as)
section
variable {prog : Program} {w : World} {A : Around} {E : Value → Shared → Prop} {s : Shared}
end
end RT
set_option Elab.async false
set_option linter.all false
set_option maxRecDepth 100000
set_option maxHeartbeats 4000000
namespace RT
open PySem PySem.Spec PyProof.Rows
open L2 hiding Takes passAt takes_of ps_raise PMk ps_try_as
open L2N (Takes passAt takes_of ps_raise PMk ps_try_as)
/-- list(reversed(x)), x a list or a tuple: a new list -/
def tListRev (K : PySem.W.Frag) (te : TE) : TE := fun σ H Q => te σ H fun v H1 => ∃ (a : Addr) (xs : List V), v = .ref a ∧ (SqL K H1 a xs ∨ SqT K H1 a xs) ∧ ∀ q, H1 q = none → Q (.ref q) (upd H1 q (.lst xs.reverse))
end RT
namespace DL
open PySem PySem.Spec PyProof.Rows
open L2 hiding Takes passAt takes_of ps_raise PMk ps_try_as
open L2N (Takes passAt takes_of ps_raise PMk ps_try_as)
section
variable {C : DC} {env : Nv} {S : Sto} {Ψ : R → Sto → Prop} {Λ : List D → (Sto → Prop) → Sto → Prop} {pos p2 p3 pos2 apos : Pos} {a b e o tg : Expr}
/-- xs.pop() -/
theorem we_pop (h : WE C o env S fun r S1 => ∃ k ds d, r = .loc k ∧ S1[k]? = some (nl (ds ++ [d])) ∧ Ψ (.val d) (S1.set k (nl ds)))
    (hbase : ∀ X : Cx, attributeBase o "pop" X.env (eval o X.env) = eval o X.env) (hline : (apos.endLine == pos.line) = true) : WE C (.Call (.Attribute o "pop" apos) [] [] pos) env S Ψ := fun X W bb ok tk w σ H rp en xc Q n => by
  refine ⟨_, pe_bm0 PySem.F.plainAttrs_list PySem.F.slot_list_pop PySem.F.type_list_pop mt_pop cE_ok (hbase X) hline, ?_⟩
  refine h X W bb ok tk w σ H rp en xc _ fun w1 S1 H1 r v l1 r1 i1 ⟨k, ds, d, e1, hk, k1⟩ => ?_
  subst e1
  obtain ⟨a, ha, ev⟩ := i1
  subst ev
  obtain ⟨a', h3, _, _, vs, h4, h5⟩ := r1.at_ _ _ hk rfl
  rw [ha] at h3; cases h3
  have h5' : IsL C.g.K w1.G (ds ++ [d]) vs := IsRs.vals.mp h5
  have hl := h5'.length
  have hl' : vs.length - 1 = ds.length := by rw [← hl]; simp
  obtain ⟨y, hy, hyd⟩ := h5'.get (i := ds.length) (d := d) (by simp)
  have ht := h5'.take ds.length
  rw [List.take_left] at ht
  refine ⟨.inl ⟨rfl, vs, SqL.of h4⟩, a, vs, y, rfl, rfl, h4, by rw [hl']; exact hy, ?_⟩
  have r3 := r1.write hk rfl ha (n' := nl ds) (o := .lst vs.dropLast) ⟨vs.dropLast, upd_same, IsRs.vals.mpr (by rw [List.dropLast_eq_take, hl']; exact ht)⟩
  exact n w1 _ _ (.val d) _ l1 r3 hyd k1
end
end DL
set_option Elab.async false
set_option linter.all false
set_option maxRecDepth 100000
set_option maxHeartbeats 4000000
namespace DL
open PySem PySem.Spec PyProof.Rows
open L2 hiding Takes passAt takes_of ps_raise PMk ps_try_as
open L2N (Takes passAt takes_of ps_raise PMk ps_try_as)
section
variable {C : DC} {env : Nv} {S : Sto} {Ψ : R → Sto → Prop} {pos apos : Pos} {e o : Expr}
/-- d.get(k), keys that are tuples -/
theorem we_dget1T (h : WE C o env S fun r S1 => (∃ ks ds, DctT S1 r ks ds) ∧ WE C e env S1 fun y S2 => ∃ q, LookD S2 r y q ∧ Ψ (.val (q.getD .non)) S2) (hm : ∀ X : Cx, M1 X o "get" apos e pos) : WE C (.Call (.Attribute o "get" apos) [e] [] pos) env S Ψ := fun X W bb ok tk w σ H rp en xc Q n => by
  refine ⟨_, pe_dget1 ok.u1 cE_ok cE_ok (hm X), ?_⟩
  refine h X W bb ok tk w σ H rp en xc _ fun w1 S1 H1 r v l1 r1 i1 ⟨⟨ks, ds, hd⟩, k1⟩ => ?_
  obtain ⟨p, vs, e1, h1, h2, h3⟩ := hd.at_ r1 i1
  refine ⟨p, e1, .inr ⟨_, .inl h1⟩, ?_⟩
  refine k1 X W bb ok tk w1 σ H1 r1 (en.mono l1) (xc.mono l1) _ fun w2 S2 H2 y u l2 r2 i2 ⟨q, hl, k2⟩ => ?_
  obtain ⟨p', ov, e2, g1, g2⟩ := hl.get r2 (i1.mono l2) i2
  rw [e1] at e2
  cases e2
  refine ⟨ov, g1, n w2 S2 H2 (.val (q.getD .non)) _ (l1.trans l2) r2 ?_ k2⟩
  cases q with
  | none => have g2 : ov = none := g2; subst g2; exact rfl
  | some d => obtain ⟨v', e3, g3⟩ := g2; subst e3; exact g3
end
section
variable {C : DC} {env : Nv} {S : Sto} {Ψ : R → Sto → Prop} {α : Type} [DecidableEq α] {f : α → D} {k : Nat} {x y : R} {a b : α}
end
end DL
set_option Elab.async false
set_option linter.all false
set_option maxRecDepth 100000
set_option maxHeartbeats 4000000
namespace DL
open PySem PySem.Spec PyProof.Rows
open L2 hiding Takes passAt takes_of ps_raise PMk ps_try_as
open L2N (Takes passAt takes_of ps_raise PMk ps_try_as)
section
variable {C : DC} {env : Nv} {S : Sto} {Ψ : R → Sto → Prop} {pos p2 p3 pos2 apos : Pos} {a b e o : Expr} {l : List Nat}
/-- list(range(b)) -/
theorem we_listRg1 (hx : InG "list" C.gl) (hm : C.g.mg "list" = none) (hx2 : InG "range" C.gl) (hm2 : C.g.mg "range" = none) (hc : C.calm = true)
    (h : WE C a env S fun q S2 => ∃ j : Nat, q = .val (iN j) ∧ j ≤ 100000 ∧ Ψ (.loc S2.length) (S2 ++ [nl (rangeD 0 j)]))
    (hs1 : ∀ X : Cx, starEach [a] X.env = (false, eval a X.env) :: starEach [] X.env)
    (hs2 : ∀ X : Cx, starEach [.Call (.Name "range" p3) [a] [] pos2] X.env = (false, eval (.Call (.Name "range" p3) [a] [] pos2) X.env) :: starEach [] X.env) :
    WE C (.Call (.Name "list" p2) [.Call (.Name "range" p3) [a] [] pos2] [] pos) env S Ψ := fun X W bb ok tk w σ H rp en xc Q n => by
  refine ⟨_, pe_listRg (ok.calm hc).1 (ok.gl _ hx.mem).1 (by rw [ok.mg]; exact hm) (prg_1 (ok.gl _ hx2.mem).1 (by rw [ok.mg]; exact hm2) cE_ok (hs1 X)) (hs2 X), ?_⟩
  refine h X W bb ok tk w σ H rp en xc _ fun w2 S2 H2 q u l2 r2 i2 ⟨j, e2, b2, k2⟩ => ?_
  subst e2
  have i2 : u = .int j := i2
  subst i2
  refine ⟨(j : Int), rfl, ⟨by omega, by omega, by omega, by omega, by omega⟩, fun q hq => ?_⟩
  have e : rgV (0 : Int) (j : Int) = ((List.range j).map fun z : Nat => ((0 : Int) + (z : Int))).map V.int := by
    unfold rgV
    rw [List.map_map, show ((j : Int) - (0 : Int)).toNat = j by omega]
    rfl
  have e3 : rangeD (0 : Int) j = ((List.range j).map fun z : Nat => ((0 : Int) + (z : Int))).map D.int := by
    unfold rangeD
    rw [List.map_map]
    rfl
  obtain ⟨r3, l3⟩ := r2.alloc (n := nl (rangeD 0 j)) hq ⟨rgV (0 : Int) (j : Int), upd_same, IsRs.vals.mpr (by rw [e3, e]; exact IsL.ints _)⟩
  exact n _ _ _ (.loc S2.length) _ (l2.trans l3) r3 ⟨q, by show (w2.as ++ [q])[S2.length]? = some q; rw [← r2.len]; simp, rfl⟩ k2
end
end DL
set_option Elab.async false
set_option linter.all false
set_option maxRecDepth 100000
set_option maxHeartbeats 4000000
namespace DL
open PySem PySem.Spec PyProof.Rows
open L2 hiding Takes passAt takes_of ps_raise PMk ps_try_as
open L2N (Takes passAt takes_of ps_raise PMk ps_try_as)
section
variable {C : DC} {env : Nv} {S : Sto} {Ψ : R → Sto → Prop} {Ω : Nv → Sto → Prop} {Λ : List D → (Sto → Prop) → Sto → Prop} {pos p2 p3 pos2 apos : Pos} {a b c e o i tg : Expr} {l : List Nat}
/-- xs[i] = .. -/
theorem wg_subL {d : D} (h : WE C o env S fun x S1 => WE C i env S1 fun y S2 => ∃ (k : Nat) (ds : List D) (z : Int) (j : Nat), x = .loc k ∧ y = .val (.int z) ∧ S2[k]? = some (nl ds) ∧ ixN ds.length z = some j ∧ Ω env (S2.set k (nl (ds.set j d))))
    (ha : ∀ X : Cx, ∀ v, assign (.Subscript o i pos) X.env v = (do
      let ov ← holding [v] (eval o X.env)
      let iv ← holding [v, ov] (eval i X.env)
      standAt pos
      holding [v, ov, iv] (setItem ov iv v)
      release [v, ov, iv] [])) : WG C (.Subscript o i pos) (.val d) env S Ω := fun X W bb ok tk w σ H rp en xc v hv Q n => by
  refine ⟨_, pg_sub cE_ok cE_ok set_list (ha X), ?_⟩
  refine h X W bb ok tk w σ H rp en xc _ fun w1 S1 H1 x xv l1 r1 i1 k1 => ?_
  refine k1 X W bb ok tk w1 σ H1 r1 (en.mono l1) (xc.mono l1) _ fun w2 S2 H2 y yv l2 r2 i2 ⟨k, ds, z, j, e1, e2, hk, hj, k2⟩ => ?_
  subst e1 e2
  have i2 : yv = .int z := i2
  subst i2
  obtain ⟨p, hp, ev⟩ := i1.mono l2
  subst ev
  obtain ⟨a', h3, _, _, vs, h4, h5⟩ := r2.at_ _ _ hk rfl
  rw [hp] at h3; cases h3
  have h5' : IsL C.g.K w2.G ds vs := IsRs.vals.mp h5
  have hv2 : Is C.g.K w2.G d v := Is.mono (l1.trans l2).g d v hv
  refine ⟨p, vs, z, j, rfl, rfl, h4, by rw [← h5'.length]; exact hj, ?_⟩
  have hset : IsRs C.g.K bb.B w2 ((ds.set j d).map .val) (vs.set j v) := by
    have := IsRs.set j h5 (show IsR C.g.K bb.B w2 (.val d) v from hv2)
    rwa [← List.map_set] at this
  have r3 := r2.write hk rfl hp (n' := nl (ds.set j d)) (o := .lst (vs.set j v)) ⟨vs.set j v, upd_same, hset⟩
  exact n w2 _ _ _ _ ((l1.trans l2).n _) r3 (en.mono (l1.trans l2)) k2
/-- xs.reverse() -/
theorem we_reverse (h : WE C o env S fun r S1 => ∃ k ds, r = .loc k ∧ S1[k]? = some (nl ds) ∧ Ψ (.val .non) (S1.set k (nl ds.reverse)))
    (hbase : ∀ X : Cx, attributeBase o "reverse" X.env (eval o X.env) = eval o X.env) (hline : (apos.endLine == pos.line) = true) : WE C (.Call (.Attribute o "reverse" apos) [] [] pos) env S Ψ := fun X W bb ok tk w σ H rp en xc Q n => by
  refine ⟨_, pe_bm0 PySem.F.plainAttrs_list PySem.F.slot_list_reverse PySem.F.type_list_reverse mt_reverse cE_ok (hbase X) hline, ?_⟩
  refine h X W bb ok tk w σ H rp en xc _ fun w1 S1 H1 r v l1 r1 i1 ⟨k, ds, e1, hk, k1⟩ => ?_
  subst e1
  obtain ⟨a, ha, ev⟩ := i1
  subst ev
  obtain ⟨a', h3, _, _, vs, h4, h5⟩ := r1.at_ _ _ hk rfl
  rw [ha] at h3; cases h3
  have h5' : IsL C.g.K w1.G ds vs := IsRs.vals.mp h5
  refine ⟨.inl ⟨rfl, vs, SqL.of h4⟩, a, vs, rfl, rfl, h4, ?_⟩
  have r3 := r1.write hk rfl ha (n' := nl ds.reverse) (o := .lst vs.reverse) ⟨vs.reverse, upd_same, IsRs.vals.mpr h5'.reverse⟩
  exact n w1 _ _ (.val .non) _ l1 r3 rfl k1
/-- text.find(sign) -/
theorem wm_findL {k : Nat} (hk : k ∈ l) (h : Ψ (.val (iN (l.idxOf k))) S) : WM C "str.find" (.val (sL l)) (.val (sL [k])) S Ψ := fun X b ok w H rp v u hv hu Q n => by
  have hv : v = .str (sS l) := hv
  have hu : u = .str (sS [k]) := hu
  subst hv hu
  obtain ⟨rest, e⟩ := occ_idx (t := sS l) (k := k) hk
  refine ⟨_, mt_find, sS l, sS [k], rfl, rfl, ?_⟩
  have ef : Txt.find (sS l) (sS [k]) = (((sS l).cps.toList.idxOf k : Nat) : Int) := by
    unfold Txt.find
    rw [e]
  rw [ef]
  exact n.at_ (d := iN (l.idxOf k)) rp rfl h
/-- range(i, j, -1) -/
theorem wi_rangeDn (hx : InG "range" C.gl) (hm : C.g.mg "range" = none) (h : WE C a env S fun r S1 => WE C b env S1 fun q S2 => WE C c env S2 fun z S3 => ∃ i j : Int, r = .val (.int i) ∧ q = .val (.int j) ∧ z = .val (.int (-1)) ∧ (-(2 ^ 62) ≤ i ∧ i < 2 ^ 62 ∧ -(2 ^ 62) ≤ j ∧ j < 2 ^ 62) ∧ Λ ((List.range (i - j).toNat).map fun z : Nat => D.int (i + (z : Int) * (-1))) (fun _ => True) S3)
    (hs : ∀ X : Cx, starEach [a, b, c] X.env = (false, eval a X.env) :: starEach [b, c] X.env) (hs1 : ∀ X : Cx, starEach [b, c] X.env = (false, eval b X.env) :: starEach [c] X.env) (hs2 : ∀ X : Cx, starEach [c] X.env = (false, eval c X.env) :: starEach [] X.env)
    (hp : ∀ X : Cx, (backTo pos (starEach [b, c] X.env)).any (·.1) = false) : WI C tg (.Call (.Name "range" p2) [a, b, c] [] pos) env S Λ := fun X W bb ok tk w σ H rp en xc R' n => by
  refine ⟨_, pi_range3 (ok.gl _ hx.mem).1 (by rw [ok.mg]; exact hm) (pa_cons cE_ok (pa_cons cE_ok (pa_cons cE_ok pa_nil (hs2 X)) (hs1 X)) (hs X)) (hs X) (hp X), ?_⟩
  refine h X W bb ok tk w σ H rp en xc _ fun w1 S1 H1 r v l1 r1 i1 k1 => ?_
  refine k1 X W bb ok tk w1 σ H1 r1 (en.mono l1) (xc.mono l1) _ fun w2 S2 H2 q u l2 r2 i2 k2 => ?_
  refine k2 X W bb ok tk w2 σ H2 r2 (en.mono (l1.trans l2)) (xc.mono (l1.trans l2)) _ fun w3 S3 H3 z t l3 r3 i3 ⟨i, j, e1, e2, e3, bd, k3⟩ => ?_
  subst e1 e2 e3
  have i1 : v = .int i := i1
  have i2 : u = .int j := i2
  have i3 : t = .int (-1) := i3
  subst i1 i2 i3
  refine ⟨i, j, -1, (i - j).toNat, rfl, RgC.neg bd.1 bd.2.1 bd.2.2.1 bd.2.2.2, n w3 S3 H3 _ _ _ ((l1.trans l2).trans l3) r3 ⟨_, _, (by rw [List.length_map, List.length_range]; exact walk_rangeC), fun _ _ _ _ _ _ => trivial, fun w' S' H' m x H2 d l r' g hd' y => ?_⟩ k3⟩
  obtain ⟨rfl, e⟩ := y
  have hm' := (List.getElem?_eq_some_iff.mp hd').1
  rw [List.length_map, List.length_range] at hm'
  rw [List.getElem?_map, List.getElem?_range hm'] at hd'
  have hd' := Option.some.inj hd'
  subst e
  refine ⟨w', Le.refl _, r', ?_⟩
  rw [← hd']
  rfl
end
end DL
namespace DL
open PySem PySem.Spec PyProof.Rows
open L2 hiding Takes passAt takes_of ps_raise PMk ps_try_as
open L2N (Takes passAt takes_of ps_raise PMk ps_try_as)
/-! ### a dict of ints that are all True -/
def nT (ks : List Int) : Node := .dK (ks.map Sum.inl) (ks.map fun _ => R.val (.bl true))
theorem trues {K : PySem.W.Frag} {B : Hp} {w : Wd} : ∀ {ks : List Int} {vs : List V}, IsRs K B w (ks.map fun _ => R.val (.bl true)) vs → vs = ks.map fun _ => V.bl true
  | [], _, h => h
  | _ :: ks, _, ⟨v, r, e, h, t⟩ => by
    have h : v = .bl true := h
    rw [e, h, trues t]; rfl
theorem trues_is {K : PySem.W.Frag} {B : Hp} {w : Wd} : ∀ ks : List Int, IsRs K B w (ks.map fun _ => R.val (.bl true)) (ks.map fun _ => V.bl true)
  | [] => .nil
  | _ :: ks => .cons rfl (trues_is ks)
theorem putK_true (ks : List Int) (k : Int) : putK ((ks.map (Sum.inl (β := Str))).zip (ks.map fun _ => V.bl true)) (Sum.inl k) (.bl true) = ((if k ∈ ks then ks else ks ++ [k]).map (Sum.inl (β := Str))).zip ((if k ∈ ks then ks else ks ++ [k]).map fun _ => V.bl true) := by
  by_cases h : k ∈ ks
  · rw [if_pos h]
    unfold putK
    rw [if_pos]
    · refine (List.map_congr_left fun p hp => ?_).trans (List.map_id _)
      have h2 : p.2 = V.bl true := by
        have := (List.of_mem_zip (a := p.1) (b := p.2) hp).2
        obtain ⟨_, _, e⟩ := List.mem_map.mp this
        exact e.symm
      split
      · rename_i hk
        show (_, _) = p
        rw [← h2]
      · rfl
    · simp only [List.any_eq_true, decide_eq_true_eq]
      refine ⟨(Sum.inl k, V.bl true), ?_, rfl⟩
      have : ∀ ks : List Int, k ∈ ks → (Sum.inl k, V.bl true) ∈ (ks.map (Sum.inl (β := Str))).zip (ks.map fun _ => V.bl true) := by
        intro ks
        induction ks with
        | nil => intro h; simp at h
        | cons x ks ih =>
          intro h
          rcases List.mem_cons.mp h with e | h
          · subst e; exact List.mem_cons_self
          · exact List.mem_cons_of_mem _ (ih h)
      exact this ks h
  · rw [if_neg h, putK_new (by simp) (by simpa using h)]
    simp
section
variable {C : DC} {env : Nv} {S : Sto} {Ψ : R → Sto → Prop} {E : Nd} {pos p2 : Pos} {o i v : Expr} {r : R}
/-- d[k] = True -/
theorem ws_putC (h : WE C v env S fun z S1 => WE C o env S1 fun r S2 => WE C i env S2 fun y S3 => ∃ (j : Nat) (ks : List Int) (k : Int), z = .val (.bl true) ∧ r = .loc j ∧ y = .val (.int k) ∧ S3[j]? = some (nT ks) ∧ ks.length < 100000 ∧ E.nx env (S3.set j (nT (if k ∈ ks then ks else ks ++ [k]))))
    (hs : ∀ X : Cx, swapsWith v (some (.Subscript o i p2)) pos.line X.env = pure false) : WS C (.Assign [.Subscript o i p2] v pos) env S E := fun X W bb ok tk w σ H rp en xc D n => by
  refine ⟨_, ps_dput ok.u1 cE_ok cE_ok cE_ok (hs X), ?_⟩
  refine h X W bb ok tk w σ H rp en xc _ fun w1 S1 H1 z zv l1 r1 i1 k1 => ?_
  refine k1 X W bb ok tk w1 σ H1 r1 (en.mono l1) (xc.mono l1) _ fun w2 S2 H2 r v l2 r2 i2 k2 => ?_
  refine k2 X W bb ok tk w2 σ H2 r2 (en.mono (l1.trans l2)) (xc.mono (l1.trans l2)) _ fun w3 S3 H3 y u l3 r3 i3 ⟨j, ks, k, ez, er, ey, hk, hl, k3⟩ => ?_
  subst ez er ey
  have l13 := (l1.trans l2).trans l3
  obtain ⟨a, ha, ev⟩ := i2.mono l3
  subst ev
  have i1 : zv = .bl true := i1
  have i3 : u = .int k := i3
  subst i1 i3
  obtain ⟨a', h3, _, _, vs, h4, h5, h6⟩ := r3.at_ _ _ hk rfl
  rw [ha] at h3; cases h3
  have hv := trues h6
  subst hv
  refine ⟨a, _, rfl, DPut.k (k := Sum.inl k) h4 (by rw [List.length_zip, sizeLine_eq]; simp; omega), ?_⟩
  rw [putK_true]
  have r4 := r3.write hk rfl ha (n' := nT (if k ∈ ks then ks else ks ++ [k])) (o := .dK (((if k ∈ ks then ks else ks ++ [k]).map (Sum.inl (β := Str))).zip ((if k ∈ ks then ks else ks ++ [k]).map fun _ => V.bl true))) ⟨_, upd_same, by simp, trues_is _⟩
  exact n.nx w3 _ _ _ _ (l13.n _) r4 (en.mono l13) k3
/-- sorted(d) of such a dict, fewer than 64 keys -/
theorem wc_sortedT {j : Nat} {ks : List Int} (hc : C.calm = true) (hj : S[j]? = some (nT ks)) (h64 : ks.length < 64) (h : ∀ ys : List Int, ys.Perm ks → ys.Pairwise (· ≤ ·) → Ψ (.loc S.length) (S ++ [nl (ys.map .int)])) : WC C (.builtin "sorted") [.loc j] S Ψ := fun X b ok w H rp vs hv Q n => by
  obtain ⟨v, e, h1⟩ := vals1' hv
  subst e
  obtain ⟨a, ha, ev⟩ := h1
  subst ev
  obtain ⟨a', h3, _, _, us, h4, h5, h6⟩ := rp.at_ _ _ hj rfl
  rw [ha] at h3; cases h3
  have hu := trues h6
  subst hu
  refine ⟨_, call_sortedDI (ok.calm hc).1, a, _, ks, rfl, .inl h4, ?_, h64, fun ys p hp hs hq => ?_⟩
  · rw [List.map_fst_zip (by simp)]
  · obtain ⟨r2, l2⟩ := rp.alloc (n := nl (ys.map .int)) hq ⟨_, upd_same, IsRs.vals.mpr (IsL.ints ys)⟩
    exact n _ _ _ (.loc S.length) _ l2 r2 ⟨p, by show (w.as ++ [p])[S.length]? = some p; rw [← rp.len]; simp, rfl⟩ (h ys hp hs)
end
end DL
set_option Elab.async false
set_option linter.all false
set_option maxRecDepth 100000
set_option maxHeartbeats 4000000
namespace DL
open PySem PySem.Spec PyProof.Rows
open L2 hiding Takes passAt takes_of ps_raise PMk ps_try_as
open L2N (Takes passAt takes_of ps_raise PMk ps_try_as)
/-! ### slices by natural bounds -/
theorem cutA_tk {α : Type} (xs : List α) (k : Nat) : cutA xs none (some (k : Int)) = xs.take k := by
  unfold cutA
  rw [HT.sIx_none, HT.sIx_nat]
  simp [List.take_eq_take_iff]
theorem cutA_mid {α : Type} (xs : List α) (a b : Nat) : cutA xs (some (a : Int)) (some (b : Int)) = (xs.take b).drop a := by
  unfold cutA
  rw [HT.sIx_nat, HT.sIx_nat]
  refine List.ext_getElem? fun i => ?_
  rw [List.getElem?_drop, List.getElem?_take, List.getElem?_take, List.getElem?_drop]
  by_cases h1 : a ≤ xs.length
  · rw [Nat.min_eq_left h1]
    by_cases h2 : b ≤ xs.length
    · rw [Nat.min_eq_left h2]
      by_cases h3 : a + i < b
      · rw [if_pos (by omega), if_pos h3]
      · rw [if_neg (by omega), if_neg h3]
    · rw [Nat.min_eq_right (by omega)]
      by_cases h3 : a + i < xs.length
      · rw [if_pos (by omega), if_pos (by omega)]
      · rw [if_neg (by omega)]
        split
        · rw [List.getElem?_eq_none (by omega)]
        · rfl
  · rw [Nat.min_eq_right (by omega : xs.length ≤ a)]
    rw [if_neg (by omega)]
    split
    · rw [List.getElem?_eq_none (by omega)]
    · rfl
section
variable {C : DC} {env : Nv} {S : Sto} {Ψ : R → Sto → Prop}
theorem wsl_L {l : List Nat} {lo hi : Option Int} (hz : l.length ≤ sizeLine) (h : Ψ (.val (sL (cutA l lo hi))) S) : WSl C (.val (sL l)) lo hi S Ψ := wsl_str (z := sS l) (by rw [sS_len]; exact hz) (by
  have e : cutS (sS l) lo hi = sS (cutA l lo hi) := by
    unfold cutS cutA
    rw [sS_len]
  rw [e]; exact h)
end
end DL
set_option Elab.async false
set_option linter.all false
set_option maxRecDepth 100000
set_option maxHeartbeats 4000000
namespace L2
open PySem PySem.Spec PyProof.Rows
def rCatG (K : PySem.W.Frag) : R2 := fun x y H Q => ∃ l b xs zs, x = .ref l ∧ y = .ref b ∧ SqL K H l xs ∧ SqL K H b zs ∧ xs.length + zs.length ≤ sizeLine ∧ ∀ p, H p = none → Q (.ref p) (upd H p (.lst (xs ++ zs)))
theorem op_catG {X : Cx} : OpR X (binaryOp .Add) (rCatG X.K) := by
  intro pins s σ H x y v u Q I rx ry h
  obtain ⟨l, b, xs, zs, rfl, rfl, hH, hB, hz, q⟩ := h
  cases rx
  cases ry
  obtain ⟨its, r, ⟨⟨cls, dd, data, sl⟩, n, ho, hc, _, hd⟩, _⟩ := I.list hH
  obtain ⟨its2, r2, ⟨⟨cls2, dd2, data2, sl2⟩, n2, ho2, hc2, _, hd2⟩, _⟩ := I.list hB
  simp only at hc hd hc2 hd2
  subst hc hd hc2 hd2
  have e1 := r.length
  have e2 := r2.length
  refine concat_meets ⟨_, ho, rfl⟩ ⟨_, ho2, rfl⟩ noFill_list_add seq_list_add PySem.F.slot_list_add PySem.F.entry_list_add (PySem.F.args_list_add_2 _ _) (list_addW l b its.toArray its2.toArray n n2 dd dd2 sl sl2 (by simp; omega)) ⟨ho, ho2, ?_⟩
  have ea : its.toArray ++ its2.toArray = (its ++ its2).toArray := by simp
  rw [ea]
  exact ⟨.ref _, _, I.lnew (t' := s.toks) (r.append r2) (by rw [List.length_append]; omega), rfl, q _ I.fresh⟩
end L2
namespace DL
open PySem PySem.Spec PyProof.Rows
open L2 hiding Takes passAt takes_of ps_raise PMk ps_try_as
open L2N (Takes passAt takes_of ps_raise PMk ps_try_as)
/-- list + list, settled or not -/
theorem wo_catG {C : DC} {S : Sto} {Ψ : R → Sto → Prop} {x y : R} {ds es : List D} (hx : LsD S x ds) (hy : LsD S y es) (hl : ds.length + es.length ≤ sizeLine) (h : Ψ (.loc S.length) (S ++ [nl (ds ++ es)])) : WO C (binaryOp .Add) x y S Ψ := fun X b ok w H rp v u hv hu Q n => by
  obtain ⟨p, vs, e, h1, h2⟩ := hx.sq rp hv
  obtain ⟨q, us, e', h3, h4⟩ := hy.sq rp hu
  rw [← ok.K] at h1 h3
  subst e e'
  refine ⟨_, op_catG, p, q, vs, us, rfl, rfl, h1, h3, by rw [← IsL.length h2, ← IsL.length h4]; exact hl, fun l hn => ?_⟩
  obtain ⟨r2, l2⟩ := rp.alloc (n := nl (ds ++ es)) (o := .lst (vs ++ us)) hn ⟨_, upd_same, IsRs.vals.mpr (IsL.append h2 h4)⟩
  exact n _ _ _ (.loc S.length) _ l2 r2 ⟨l, by show (w.as ++ [l])[S.length]? = some l; rw [← rp.len]; simp, rfl⟩ h
end DL
set_option Elab.async false
set_option linter.all false
set_option maxRecDepth 100000
set_option maxHeartbeats 4000000
namespace DL
open PySem PySem.Spec PyProof.Rows
open L2 hiding Takes passAt takes_of ps_raise PMk ps_try_as
open L2N (Takes passAt takes_of ps_raise PMk ps_try_as)
section
variable {C : DC} {env : Nv} {S : Sto} {Ψ : R → Sto → Prop} {pos p2 p3 pos2 : Pos} {e : Expr}
end
end DL
set_option Elab.async false
set_option linter.all false
set_option maxRecDepth 100000
set_option maxHeartbeats 4000000
namespace DL
open PySem PySem.Spec PyProof.Rows
open L2 hiding Takes passAt takes_of ps_raise PMk ps_try_as
open L2N (Takes passAt takes_of ps_raise PMk ps_try_as)
/-! ### a property of an instance, read -/
theorem we_prop {C : DC} {env : Nv} {S : Sto} {Ψ : R → Sto → Prop} {e : Expr} {x : Str} {pos : Pos} {ff p A : Addr} {k : Nat} {s : DSp} (G : FnD C.g k ff ["self"] s) (hcl : Cls C.g.K A) (hp : PropOf C.g.K A x p ff) (hk : k + 1 ≤ C.k) (hc : C.calm = true)
    (h : WE C e env S fun r S1 => ∃ names, InsR S1 r A names ∧ ∀ (D : DC), D.xi = (fun _ _ _ _ _ => False) → FnC D s [r] env S1 Ψ)
    (hab : ∀ X : Cx, attributeBase e x X.env (eval e X.env) = eval e X.env) : WE C (.Attribute e x pos) env S Ψ := fun X W bb ok tk w σ H rp en xc Q n => by
  obtain ⟨g, cN, csc, vis, wr, gl, kk, calm, n0, xi, ho⟩ := C
  have eg : gdOf X = g := ok.gd
  subst eg
  obtain ⟨⟨fd, F, B⟩, kp⟩ := G
  refine ⟨_, pe_prop (E := E0) cE_ok hcl hp F ((ok.calm hc).2.mono hk) B .nil passX (hab X), ?_⟩
  refine h X W bb ok tk w σ H rp en xc _ fun w1 S1 H1 r v l1 r1 i1 ⟨names, hi, k1⟩ => ?_
  obtain ⟨a, dx, vs, ev, hH⟩ := hi.at_ r1 i1
  refine ⟨a, dx, _, ev, hH, ?_⟩
  subst ev
  exact (k1 ⟨gdOf X, cN, csc, vis, wr, gl, kk, calm, n0, fun _ _ _ _ _ => False, ho⟩ rfl).run (W := fun _ _ _ _ => False) r1 (en.mono l1) ⟨xc.1, fun _ _ _ _ _ _ _ _ _ _ _ _ _ _ _ _ z => z⟩ (.cons i1 .nil) (n.mono l1)
/-! ### the head's hook, with properties and more facts -/
def pAd (K : PySem.W.Frag) (x m : Str) : Addr := match PySem.W.recIn K (He.ma K (He.ga K x) m) "property" with
  | some (.ref g :: _) => g
  | _ => 0
def propB (K : PySem.W.Frag) (x m : Str) : Bool := decide (PySem.W.findIn K (.ref (He.ga K x)) m = some (some (.ref (He.ma K (He.ga K x) m)))) && (decide (PySem.W.specialIn K (.ref (He.ma K (He.ga K x) m)) "__get__" = some (some (.builtin "property.__get__"))) &&
  (decide (PySem.W.takesIn K (.ref (He.ma K (He.ga K x) m)) = some true) && (match PySem.W.recIn K (He.ma K (He.ga K x) m) "property" with
    | some (.ref _ :: _) => true
    | _ => false)))
theorem propB_ok {K : PySem.W.Frag} {x m : Str} (h : propB K x m = true) : PropOf K (He.ga K x) m (He.ma K (He.ga K x) m) (pAd K x m) := by
  obtain ⟨h1, h⟩ := Bool.and_eq_true_iff.mp h
  obtain ⟨h2, h⟩ := Bool.and_eq_true_iff.mp h
  obtain ⟨h3, h4⟩ := Bool.and_eq_true_iff.mp h
  refine ⟨of_decide_eq_true h1, of_decide_eq_true h2, of_decide_eq_true h3, ?_⟩
  unfold pAd
  cases q : PySem.W.recIn K (He.ma K (He.ga K x) m) "property" with
  | none => rw [q] at h4; cases h4
  | some vs =>
    rw [q] at h4
    cases vs with
    | nil => cases h4
    | cons v r =>
      cases v with
      | ref g => exact ⟨r, rfl⟩
      | _ => cases h4
def fnP (K : PySem.W.Frag) (x m : Str) : He.FnW := match K.lookup (pAd K x m) with
  | some ⟨_, _, .func fd, _⟩ => some (fd.name, fd.qualname, fd.params, fd.body, fd.scope, fd.globals, fd.closure, fd.builtins)
  | _ => none
structure PrD where
  x : Str
  m : Str
  qual : Str
  params : Arguments
  body : List Stmt
  scope : Scope
def PrD.val (d : PrD) : He.FnW := some (d.m, d.qual, d.params, .stmts d.body, d.scope, mainGlobals, [], builtinsNs)
def PrD.ok (K : PySem.W.Frag) (d : PrD) : Bool := PySem.W.keepIn K (.ref (pAd K d.x d.m)) && (match K.lookup (pAd K d.x d.m) with
  | some ⟨_, _, .func fd, _⟩ => PySem.W.codeIn K fd.code d.qual && (He.dflB K fd.defaults [] && He.kwdB K fd.kwdefaults [])
  | _ => false)
theorem PrD.funD {K : PySem.W.Frag} {d : PrD} (e : fnP K d.x d.m = d.val) (c : d.ok K = true) : ∃ fd, FunD K d.m d.qual d.params d.body d.scope [] [] (pAd K d.x d.m) fd := by
  obtain ⟨c1, c2⟩ := Bool.and_eq_true_iff.mp c
  unfold fnP at e
  cases q : K.lookup (pAd K d.x d.m) with
  | none => rw [q] at c2; cases c2
  | some o =>
    obtain ⟨oc, od, dt, osl⟩ := o
    rw [q] at c2 e
    cases dt with
    | func fd =>
      obtain ⟨m1, m2, m3, m4, m5, m6, m7, m8, m9, m10, m11, m12, m13, m14, m15⟩ := fd
      have e : (some (m1, m2, m3, m4, m5, m6, m7, m15) : He.FnW) = some (d.m, d.qual, d.params, .stmts d.body, d.scope, mainGlobals, [], builtinsNs) := e
      simp only [Option.some.injEq, Prod.mk.injEq] at e
      obtain ⟨g1, g2, g3, g4, g5, g6, g7, g8⟩ := e
      subst g1 g2 g3 g4 g5 g6 g7 g8
      obtain ⟨k1, k2⟩ := Bool.and_eq_true_iff.mp (show (PySem.W.codeIn K m13 d.qual && (He.dflB K m8 [] && He.kwdB K m9 [])) = true from c2)
      obtain ⟨k3, k4⟩ := Bool.and_eq_true_iff.mp k2
      exact ⟨_, ⟨oc, od, m8, m9, m10, m11, m12, m13, m14, osl, rfl, q, k1, He.dflB_ok k3, He.kwdB_ok k4⟩, c1⟩
    | _ => cases c2
abbrev AlM : Type := He.AlD × List He.FnW × Bool
def obsM (fa : List He.Fa) (fn : List He.DefD) (pr : List PrD) (fb : List (PySem.W.Frag → Bool)) (K : PySem.W.Frag) : AlM := (He.obsD fa fn K, pr.map fun d => fnP K d.x d.m, (pr.all fun d => d.ok K) && fb.all fun f => f K)
def valM (fn : List He.DefD) (pr : List PrD) : AlM := (He.valD fn, pr.map PrD.val, true)
structure SaysM (fa : List He.Fa) (fn : List He.DefD) (pr : List PrD) (fb : List (PySem.W.Frag → Bool)) (K : PySem.W.Frag) : Prop where
  d : He.SaysD fa fn K
  p : pr.map (fun d => fnP K d.x d.m) = pr.map PrD.val
  o : (pr.all fun d => d.ok K) = true
  b : (fb.all fun f => f K) = true
def obsMG (n : Nat) (fa : List He.Fa) (fn : List He.DefD) (pr : List PrD) (fb : List (PySem.W.Frag → Bool)) (g : Addr → Option Obj) : AlM := obsM fa fn pr fb (He.frG g (He.asD g n))
def hookM (n : Nat) (fa : List He.Fa) (fn : List He.DefD) (pr : List PrD) (fb : List (PySem.W.Frag → Bool)) : PySem.W.Hook where
  α := AlM
  obs := fun s => obsMG n fa fn pr fb s.heap.get?
  val := fun _ => valM fn pr
  says := fun _ h => ∃ K : PySem.W.Frag, K.In h ∧ SaysM fa fn pr fb K
  of := fun _ s e => ⟨_, He.frG_in, by
    have e : obsM fa fn pr fb (He.frG s.heap.get? (He.asD s.heap.get? n)) = valM fn pr := e
    have e3 := congrArg (fun z : AlM => z.2.2) e
    obtain ⟨g1, g2⟩ := Bool.and_eq_true_iff.mp (show (_ && _) = true from e3)
    exact ⟨congrArg (fun z : AlM => z.1) e, congrArg (fun z : AlM => z.2.1) e, g1, g2⟩⟩
  keeps := fun _ _ _ ⟨K, hK, c⟩ k => ⟨K, PySem.W.Frag.In.keeps hK k, c⟩
theorem obsMG_eq {n : Nat} {fa : List He.Fa} {fn : List He.DefD} {pr : List PrD} {fb : List (PySem.W.Frag → Bool)} {g : Addr → Option Obj} {s : Shared} (h : ∀ a, g a = s.heap.get? a) : obsMG n fa fn pr fb g = (hookM n fa fn pr fb).obs s := by
  rw [show g = s.heap.get? from funext h] <;> rfl
theorem SaysM.prop_ {fa : List He.Fa} {fn : List He.DefD} {pr : List PrD} {fb : List (PySem.W.Frag → Bool)} {K : PySem.W.Frag} (c : SaysM fa fn pr fb K) (i : Nat) {d : PrD} (h : pr[i]? = some d) : ∃ fd, FunD K d.m d.qual d.params d.body d.scope [] [] (pAd K d.x d.m) fd := by
  have e2 : (pr.map fun d => fnP K d.x d.m)[i]? = (pr.map PrD.val)[i]? := by rw [c.p]
  rw [List.getElem?_map, List.getElem?_map, h] at e2
  exact PrD.funD (Option.some.inj e2) (List.all_eq_true.mp c.o d (List.mem_of_getElem? h))
theorem SaysM.fb_ {fa : List He.Fa} {fn : List He.DefD} {pr : List PrD} {fb : List (PySem.W.Frag → Bool)} {K : PySem.W.Frag} (c : SaysM fa fn pr fb K) (i : Nat) {f : PySem.W.Frag → Bool} (h : fb[i]? = some f) : f K = true := List.all_eq_true.mp c.b f (List.mem_of_getElem? h)
end DL
set_option Elab.async false
set_option linter.all false
set_option maxRecDepth 100000
set_option maxHeartbeats 4000000
namespace DL
open PySem PySem.Spec PyProof.Rows
open L2 hiding Takes passAt takes_of ps_raise PMk ps_try_as
open L2N (Takes passAt takes_of ps_raise PMk ps_try_as)
abbrev Pr := Nat × Nat
/-- each x y one behind the other becomes c -/
def putT (a b c : Nat) : List Nat → List Nat
  | [] => []
  | [x] => [x]
  | x :: y :: r => if x = a ∧ y = b then c :: putT a b c r else x :: putT a b c (y :: r)
def adj (row : List Nat) : List Pr := row.zip row.tail
theorem adj_len (row : List Nat) : (adj row).length = row.length - 1 := by unfold adj; simp
theorem adj_get {row : List Nat} {i : Nat} (h : i + 1 < row.length) : (adj row)[i]? = some (row[i], row[i + 1]) := by
  unfold adj
  rw [List.getElem?_zip_eq_some]
  exact ⟨by simp, by simp [List.getElem?_tail]⟩
def lowB (P : List Pr) (p : Pr) : Option Pr → Bool
  | none => true
  | some q => decide (P.idxOf p < P.idxOf q)
def lowS (P : List Pr) (best : Option Pr) (p : Pr) : Option Pr :=
  if p ∈ P ∧ lowB P p best = true then some p else best
def lowF (P : List Pr) (l : List Pr) : Option Pr := l.foldl (lowS P) none
def kP (p : Pr) : List Key := [.inl (p.1 : Int), .inl (p.2 : Int)]
def oP : Option Pr → D
  | none => .non
  | some p => pN p
abbrev rkK (P : List Pr) : List (List Key) := P.map kP
abbrev rkD (P : List Pr) : List D := (List.range P.length).map iN
theorem kP_inj {p q : Pr} (h : kP p = kP q) : p = q := by
  unfold kP at h
  simp at h
  exact Prod.ext (by have := h.1; omega) (by have := h.2; omega)
theorem look_go {p : Pr} : ∀ (P : List Pr) (s : Nat), look (P.map kP) ((List.range' s P.length).map iN) (kP p) = if p ∈ P then some (iN (s + P.idxOf p)) else none
  | [], s => by simp [look]
  | q :: P, s => by
    by_cases e : q = p
    · subst e
      simp [look, List.range'_succ]
    · have e1 : look ((q :: P).map kP) ((List.range' s (q :: P).length).map iN) (kP p) = look (P.map kP) ((List.range' (s + 1) P.length).map iN) (kP p) := by
        have : ¬ kP q = kP p := fun h => e (kP_inj h)
        simp [look, List.range'_succ, this]
      rw [e1, look_go P (s + 1)]
      have e2 : (p ∈ q :: P) ↔ p ∈ P := by simp [Ne.symm e]
      by_cases hm : p ∈ P
      · rw [if_pos hm, if_pos (e2.mpr hm)]
        rw [List.idxOf_cons, show (q == p) = false by simpa using e]
        simp [iN]
        omega
      · rw [if_neg hm, if_neg (fun h => hm (e2.mp h))]
theorem look_rk (P : List Pr) (p : Pr) : look (rkK P) (rkD P) (kP p) = if p ∈ P then some (iN (P.idxOf p)) else none := by
  have := look_go (p := p) P 0
  show look (P.map kP) ((List.range P.length).map iN) (kP p) = _
  rw [List.range_eq_range']
  simpa using this
/-- the rank lookup -/
theorem LookD.rk {S : Sto} {r : R} {P : List Pr} (h : DctT S r (rkK P) (rkD P)) (p : Pr) : LookD S r (.val (pN p)) (if p ∈ P then some (iN (P.idxOf p)) else none) := by
  have := LookD.t (k := kP p) h
  rw [look_rk] at this
  exact this
theorem lowF_mem {P : List Pr} : ∀ {l : List Pr} {b : Option Pr} {p : Pr}, l.foldl (lowS P) b = some p → (p ∈ l ∧ p ∈ P) ∨ b = some p
  | [], b, p, h => .inr h
  | q :: l, b, p, h => by
    rw [List.foldl_cons] at h
    rcases lowF_mem h with ⟨h1, h2⟩ | h1
    · exact .inl ⟨List.mem_cons_of_mem _ h1, h2⟩
    · unfold lowS at h1
      split at h1
      · rename_i hc
        cases h1
        exact .inl ⟨List.mem_cons_self, hc.1⟩
      · exact .inr h1
theorem putT_len (a b c : Nat) : ∀ row : List Nat, (putT a b c row).length ≤ row.length
  | [] => Nat.le_refl _
  | [_] => Nat.le_refl _
  | x :: y :: r => by
    unfold putT
    split
    · have := putT_len a b c r; simp; omega
    · have := putT_len a b c (y :: r); simp at this ⊢; omega
theorem putT_lt {a b c : Nat} : ∀ {row : List Nat}, (a, b) ∈ adj row → (putT a b c row).length < row.length
  | [], h => by simp [adj] at h
  | [_], h => by simp [adj] at h
  | x :: y :: r, h => by
    unfold putT
    split
    · have := putT_len a b c r; simp; omega
    · rename_i hn
      have h' : (a, b) = (x, y) ∨ (a, b) ∈ adj (y :: r) := by simpa [adj] using h
      rcases h' with h' | h'
      · cases h'; exact absurd ⟨rfl, rfl⟩ hn
      · have := putT_lt (c := c) h'; simp at this ⊢; omega
/-- cut_row -/
def cutF (P : List Pr) (n : Nat) (row : List Nat) : List Nat :=
  match h : lowF P (adj row) with
  | none => row
  | some p => cutF P n (putT p.1 p.2 (n + P.idxOf p) row)
termination_by row.length
decreasing_by
  rcases lowF_mem h with ⟨h1, _⟩ | h1
  · exact putT_lt h1
  · cases h1
theorem cutF_none {P : List Pr} {n : Nat} {row : List Nat} (h : lowF P (adj row) = none) : cutF P n row = row := by
  unfold cutF
  split
  · rfl
  · rename_i p q; rw [h] at q; cases q
theorem cutF_some {P : List Pr} {n : Nat} {row : List Nat} {p : Pr} (h : lowF P (adj row) = some p) : cutF P n row = cutF P n (putT p.1 p.2 (n + P.idxOf p) row) := by
  rw [cutF]
  split
  · rename_i q; rw [h] at q; cases q
  · rename_i p' q; rw [h] at q; cases q; rfl
theorem lowF_succ {P l : List Pr} {i : Nat} {p : Pr} (h : l[i]? = some p) : lowF P (l.take (i + 1)) = lowS P (lowF P (l.take i)) p := by
  unfold lowF
  rw [List.take_add_one, h]
  simp

/-! ### the texts of the pieces -/
theorem look_inj {κ α : Type} [DecidableEq κ] [BEq α] [LawfulBEq α] {f : α → κ} (hf : ∀ x y, f x = f y → x = y) {p : α} : ∀ (P : List α) (s : Nat), look (P.map f) ((List.range' s P.length).map iN) (f p) = if p ∈ P then some (iN (s + P.idxOf p)) else none
  | [], s => by simp [look]
  | q :: P, s => by
    by_cases e : q = p
    · subst e
      simp [look, List.range'_succ]
    · have e1 : look ((q :: P).map f) ((List.range' s (q :: P).length).map iN) (f p) = look (P.map f) ((List.range' (s + 1) P.length).map iN) (f p) := by
        have : ¬ f q = f p := fun h => e (hf _ _ h)
        simp [look, List.range'_succ, this]
      rw [e1, look_inj hf P (s + 1)]
      have e2 : (p ∈ q :: P) ↔ p ∈ P := by simp [Ne.symm e]
      by_cases hm : p ∈ P
      · rw [if_pos hm, if_pos (e2.mpr hm)]
        rw [List.idxOf_cons, show (q == p) = false by simpa using e]
        simp [iN]
        omega
      · rw [if_neg hm, if_neg (fun h => hm (e2.mp h))]
def kT (t : List Nat) : Key := .inr ⟨t.toArray⟩
theorem kT_inj {a b : List Nat} (h : kT a = kT b) : a = b := by
  unfold kT at h
  simpa using h
abbrev nmK (ts : List (List Nat)) : List Key := ts.map kT
abbrev nmD (k : Nat) : List D := (List.range k).map iN
theorem LookD.nm {S : Sto} {r : R} {ts : List (List Nat)} (h : DctD S r (nmK ts) (nmD ts.length)) (t : List Nat) : LookD S r (.val (sL t)) (if t ∈ ts then some (iN (ts.idxOf t)) else none) := by
  have := LookD.k (k := kT t) h
  have e : look (nmK ts) (nmD ts.length) (kT t) = if t ∈ ts then some (iN (ts.idxOf t)) else none := by
    have := look_inj (f := kT) (fun _ _ h => kT_inj h) (p := t) ts 0
    show look (ts.map kT) ((List.range ts.length).map iN) (kT t) = _
    rw [List.range_eq_range']
    simpa using this
  rw [e] at this
  exact this
/-- the texts: the letters, then each pair's two texts put together -/
def addT (ts : List (List Nat)) (p : Pr) : List (List Nat) := ts ++ [ts.getD p.1 [] ++ ts.getD p.2 []]
def txts (l : List Nat) (P : List Pr) : List (List Nat) := P.foldl addT (l.map fun c => [c])
theorem txts_snoc (l : List Nat) (P : List Pr) (p : Pr) : txts l (P ++ [p]) = addT (txts l P) p := by simp [txts]
theorem txts_pre (l : List Nat) : ∀ P : List Pr, ∃ u, txts l P = (l.map fun c => [c]) ++ u ∧ u.length = P.length := by
  have key : ∀ (P : List Pr) (ts : List (List Nat)), ∃ u, P.foldl addT ts = ts ++ u ∧ u.length = P.length := by
    intro P
    induction P with
    | nil => intro ts; exact ⟨[], by simp, rfl⟩
    | cons p P ih =>
      intro ts
      obtain ⟨u, h1, h2⟩ := ih (addT ts p)
      exact ⟨[ts.getD p.1 [] ++ ts.getD p.2 []] ++ u, by rw [List.foldl_cons, h1, addT, List.append_assoc], by simp [h2]⟩
  exact fun P => key P _
theorem txts_len (l : List Nat) (P : List Pr) : (txts l P).length = l.length + P.length := by
  obtain ⟨u, h1, h2⟩ := txts_pre l P
  rw [h1]; simp [h2]
theorem txts_mem {l : List Nat} {P : List Pr} : ∀ t ∈ txts l P, ∀ c ∈ t, c ∈ l := by
  have key : ∀ (P : List Pr) (ts : List (List Nat)), (∀ t ∈ ts, ∀ c ∈ t, c ∈ l) → ∀ t ∈ P.foldl addT ts, ∀ c ∈ t, c ∈ l := by
    intro P
    induction P with
    | nil => intro ts h; exact h
    | cons p P ih =>
      intro ts h
      refine ih _ fun t ht c hc => ?_
      have gd : ∀ i, ∀ c ∈ ts.getD i [], c ∈ l := by
        intro i c hc
        rw [List.getD_eq_getElem?_getD] at hc
        cases q : ts[i]? with
        | none => rw [q] at hc; simp at hc
        | some t => rw [q] at hc; exact h t (List.mem_of_getElem? q) c hc
      unfold addT at ht
      rcases List.mem_append.mp ht with ht | ht
      · exact h t ht c hc
      · have ht : t = ts.getD p.1 [] ++ ts.getD p.2 [] := by simpa using ht
        subst ht
        rcases List.mem_append.mp hc with hc | hc
        · exact gd _ c hc
        · exact gd _ c hc
  refine key P _ fun t ht c hc => ?_
  obtain ⟨d, hd, rfl⟩ := List.mem_map.mp ht
  simp at hc
  exact hc ▸ hd
theorem idx_single {l : List Nat} {c : Nat} : ∀ {u : List (List Nat)}, c ∈ l → ((l.map fun c => [c]) ++ u).idxOf [c] = l.idxOf c ∧ [c] ∈ (l.map fun c => [c]) ++ u := by
  intro u hc
  refine ⟨?_, by simp [hc]⟩
  induction l with
  | nil => simp at hc
  | cons d l ih =>
    by_cases e : d = c
    · subst e; simp
    · have hc' : c ∈ l := by
        rcases List.mem_cons.mp hc with h | h
        · exact absurd h.symm e
        · exact h
      have := ih hc'
      rw [List.map_cons, List.cons_append, List.idxOf_cons, List.idxOf_cons, this]
      have e1 : (([d] : List Nat) == [c]) = false := by simpa using e
      have e2 : (d == c) = false := by simpa using e
      rw [e1, e2]
/-- the row of a text's letters -/
def rowL (l t : List Nat) : List Nat := t.map l.idxOf
/-- is the pair proper behind P? -/
def propT (l : List Nat) (P : List Pr) (p : Pr) : Prop :=
  p.1 < l.length + P.length ∧ p.2 < l.length + P.length ∧ ((txts l P).getD p.1 [] ++ (txts l P).getD p.2 []).length ≤ 40 ∧
    cutF P l.length (rowL l ((txts l P).getD p.1 [] ++ (txts l P).getD p.2 [])) = [p.1, p.2]
instance (l : List Nat) (P : List Pr) (p : Pr) : Decidable (propT l P p) := by unfold propT; exact inferInstance
/-! ### the objects of a Joins -/
abbrev jF : List Str := ["alphabet", "pairs", "texts", "ranks", "numbers", "longest"]
theorem jF_nd : jF.Nodup := by decide +kernel
def jS (A : Addr) (l : List Nat) (P : List Pr) (lg : Nat) : Sto := [.ins A jF [.val (sL l), .val (.tup (P.map pN)), .loc 1, .loc 2, .loc 3, .val (iN lg)], nl ((txts l P).map sL), .dT (rkK P) ((rkD P).map .val), .dK (nmK (txts l P)) ((nmD (txts l P).length).map .val)]
theorem fldL {S : Sto} {f : Str} {k j : Nat} {A : Addr} {rs : List R} {z : R} (h : S[k]? = some (.ins A jF rs)) (ha : AtN f j jF) (hz : rs[j]? = some z) : FldR S f (.loc k) A z := .loc h jF_nd ha hz
theorem fldV {S : Sto} {f : Str} {j : Nat} {A : Addr} {ds : List D} {z : D} (ha : AtN f j jF) (hz : ds[j]? = some z) : FldR S f (.val (.ins A jF ds)) A (.val z) := .val jF_nd ha hz
theorem okB_dT (n : Nat) (ks : List (List Key)) (ds : List D) : Node.okB n (.dT ks (ds.map .val)) = true := okB_vals n ds
theorem okB_dK (n : Nat) (ks : List Key) (ds : List D) : Node.okB n (.dK ks (ds.map .val)) = true := okB_vals n ds
theorem jS_ok (A : Addr) (l : List Nat) (P : List Pr) (lg : Nat) : (jS A l P lg).all (Node.okB (jS A l P lg).length) = true := by
  unfold jS
  simp only [List.all_cons, List.all_nil, List.length_cons, List.length_nil, okB_nl, okB_dT, okB_dK, Bool.and_true]
  rfl
theorem passJ (A : Addr) (l : List Nat) (P : List Pr) (lg : Nat) (X : Sto) : PassS [0, 1, 2, 3] (jS A l P lg ++ X) (jS A l P lg) := by
  refine ⟨by decide, rfl, fun j k hj => ?_, jS_ok A l P lg⟩
  rcases j with _ | _ | _ | _ | j
  · simp at hj; subst hj; exact ⟨_, rfl, rfl, rfl⟩
  · simp at hj; subst hj
    refine ⟨_, rfl, rfl, ?_⟩
    show some (nl _) = some (Node.lst _)
    rw [ren_vals]
  · simp at hj; subst hj
    refine ⟨_, rfl, rfl, ?_⟩
    show some (Node.dT _ _) = some (Node.dT _ _)
    rw [ren_vals]
  · simp at hj; subst hj
    refine ⟨_, rfl, rfl, ?_⟩
    show some (Node.dK _ _) = some (Node.dK _ _)
    rw [ren_vals]
  · simp at hj
theorem backJ (A : Addr) (l : List Nat) (P P' : List Pr) (lg lg' : Nat) (X : Sto) : backS [0, 1, 2, 3] (jS A l P lg ++ X) (jS A l P' lg') = jS A l P' lg' ++ X := by
  unfold backS
  have e1 : ((jS A l P' lg').drop [0, 1, 2, 3].length) = [] := rfl
  rw [e1]
  show [Node.ren _ _, Node.ren _ _, Node.ren _ _, Node.ren _ _] ++ X ++ [] = _
  rw [List.append_nil]
  congr 1
  unfold jS
  congr 1
  congr 1
  · show Node.lst _ = _
    rw [ren_vals]
  congr 1
  · show Node.dT _ _ = _
    rw [ren_vals]
  congr 1
  · show Node.dK _ _ = _
    rw [ren_vals]
theorem RetC.eq {n0 : Nat} {Ψ : R → Sto → Prop} {r : R} {S S' : Sto} (e : S = S') (h : RetC n0 Ψ r S') : RetC n0 Ψ r S := e ▸ h
theorem fnc_J0 {C : DC} {s : DSp} {env : Nv} {Ψ : R → Sto → Prop} {A : Addr} {l : List Nat} {P : List Pr} {lg : Nat} {ds : List D} (h : s (.loc 0 :: ds.map .val) (jS A l P lg) (fun r T' => Ψ (r.ren (rho [0, 1, 2, 3] 4)) (backS [0, 1, 2, 3] (jS A l P lg) T')) (fun c fs ds T' => C.xi c fs ds env (backS [0, 1, 2, 3] (jS A l P lg) T'))) : FnC C s (.loc 0 :: ds.map .val) env (jS A l P lg) Ψ := by
  have p := passJ A l P lg []
  rw [List.append_nil] at p
  exact ⟨[0, 1, 2, 3], jS A l P lg, _, p, .cons (.loc rfl) (argsP_vals ds), h⟩
theorem backJ0 (A : Addr) (l : List Nat) (P P' : List Pr) (lg lg' : Nat) : backS [0, 1, 2, 3] (jS A l P lg) (jS A l P' lg') = jS A l P' lg' := by
  have := backJ A l P P' lg lg' []
  rwa [List.append_nil, List.append_nil] at this
/-- a list that Joins takes -/
def ProperL (l : List Nat) (P : List Pr) : Prop := ∀ r (h : r < P.length), propT l (P.take r) P[r] ∧ P[r] ∉ P.take r ∧ (txts l (P.take r)).getD P[r].1 [] ++ (txts l (P.take r)).getD P[r].2 [] ∉ txts l (P.take r)
theorem take_snoc {α : Type} {P : List α} {r : Nat} (h : r < P.length) : P.take (r + 1) = P.take r ++ [P[r]] := by
  rw [List.take_add_one, List.getElem?_eq_getElem h]; rfl
theorem ProperL.short {l : List Nat} {P : List Pr} (h : ProperL l P) : ∀ r, r ≤ P.length → ∀ t ∈ txts l (P.take r), t.length ≤ 40
  | 0, _, t, ht => by
    simp [txts] at ht
    obtain ⟨c, _, rfl⟩ := ht
    simp
  | r + 1, hr, t, ht => by
    have hr' : r < P.length := hr
    rw [take_snoc hr', txts_snoc, addT] at ht
    rcases List.mem_append.mp ht with ht | ht
    · exact ProperL.short h r (Nat.le_of_lt hr') t ht
    · have ht : t = (txts l (P.take r)).getD P[r].1 [] ++ (txts l (P.take r)).getD P[r].2 [] := by simpa using ht
      rw [ht]
      exact (h r hr').1.2.2.1
/-- a Joins that is not changed any more -/
def jD (A : Addr) (l : List Nat) (P : List Pr) (lg : Nat) : D := .ins A jF [sL l, .tup (P.map pN), .lst ((txts l P).map sL), .dcT (rkK P) (rkD P), .dct (nmK (txts l P)) (nmD (txts l P).length), iN lg]
structure JV where
  l : List Nat
  P : List Pr
  lg : Nat
structure JI extends JV where
  i : Nat
structure JT extends JV where
  t : List Nat
structure JR extends JV where
  row : List Nat
def JV.ok (j : JV) : Prop := j.l.length ≤ 30 ∧ j.P.length ≤ 1000
/-- stage by stage -/
def stg (n : Nat) (P : List Pr) (row : List Nat) : List Nat := P.zipIdx.foldl (fun row (q : Pr × Nat) => putT q.1.1 q.1.2 (n + q.2) row) row
theorem stg_snoc (n : Nat) (P : List Pr) (p : Pr) (row : List Nat) : stg n (P ++ [p]) row = putT p.1 p.2 (n + P.length) (stg n P row) := by
  unfold stg
  rw [List.zipIdx_append, List.foldl_append]
  simp
theorem stg_len (n : Nat) (row : List Nat) : ∀ P : List Pr, (stg n P row).length ≤ row.length := by
  intro P
  unfold stg
  generalize P.zipIdx = Q
  induction Q generalizing row with
  | nil => exact Nat.le_refl _
  | cons q Q ih =>
    rw [List.foldl_cons]
    exact Nat.le_trans (ih _) (putT_len _ _ _ _)
/-- a list, a tuple, lent to a call -/
theorem passSeq {S : Sto} {r : R} {ds : List D} (h : SeqD S r ds) : ∃ r', ArgP S [] r r' ∧ SeqD [] r' ds := by
  cases h with
  | tup => exact ⟨_, .val _, .tup _⟩
  | lst => exact ⟨_, .val _, .lst _⟩
  | bor => exact ⟨_, .bor _, .bor _⟩
  | loc h => exact ⟨_, .lbor h (by simp), .bor _⟩
theorem seqE {r : R} {ds : List D} {S : Sto} (h : SeqD [] r ds) : SeqD S r ds := by
  cases h with
  | tup => exact .tup _
  | lst => exact .lst _
  | bor => exact .bor _
  | loc h => simp at h
theorem seqOk {r : R} {ds : List D} {n : Nat} (h : SeqD [] r ds) : okE n r = true := by
  cases h with
  | loc h => simp at h
  | _ => rfl
end DL
set_option Elab.async false
set_option linter.all false
set_option maxRecDepth 100000
set_option maxHeartbeats 4000000
namespace DL
open PySem PySem.Spec PyProof.Rows
open L2 hiding Takes passAt takes_of ps_raise PMk ps_try_as
open L2N (Takes passAt takes_of ps_raise PMk ps_try_as)
/-! ### the slow cut: the leftmost place of the lowest rank, one at a time -/
/-- (best, place) behind the places below k: best = P.length where none -/
def slowB (P : List Pr) (row : List Nat) : Nat → Nat × Nat
  | 0 => (P.length, 0)
  | k + 1 =>
    let q := slowB P row k
    let p : Pr := (row.getD k 0, row.getD (k + 1) 0)
    if p ∈ P ∧ P.idxOf p < q.1 then (P.idxOf p, k) else q
/-- one turn -/
def slow1 (n : Nat) (P : List Pr) (row : List Nat) : List Nat :=
  let q := slowB P row (row.length - 1)
  row.take q.2 ++ [n + q.1] ++ row.drop (q.2 + 2)
def slowC (n : Nat) (P : List Pr) : Nat → List Nat → List Nat
  | 0, row => row
  | f + 1, row => if (slowB P row (row.length - 1)).1 = P.length then row else slowC n P f (slow1 n P row)
end DL
set_option Elab.async false
set_option linter.all false
set_option maxRecDepth 100000
set_option maxHeartbeats 4000000
namespace DL
open PySem PySem.Spec PyProof.Rows
open L2 hiding Takes passAt takes_of ps_raise PMk ps_try_as
open L2N (Takes passAt takes_of ps_raise PMk ps_try_as)
/-! ### cutting by the lowest rank is cutting stage by stage -/
structure Wf (n : Nat) (P : List Pr) : Prop where
  nd : P.Nodup
  lt : ∀ r (h : r < P.length), P[r].1 < n + r ∧ P[r].2 < n + r
theorem adj_cons {x y : Nat} {r : List Nat} : adj (x :: y :: r) = (x, y) :: adj (y :: r) := rfl
theorem putT_head {a b c y : Nat} {r : List Nat} : ∃ t, putT a b c (y :: r) = y :: t ∨ putT a b c (y :: r) = c :: t := by
  cases r with
  | nil => exact ⟨[], .inl rfl⟩
  | cons z r =>
    unfold putT
    split
    · exact ⟨_, .inr rfl⟩
    · exact ⟨_, .inl rfl⟩
theorem adj_tail {x : Nat} {t : List Nat} {q : Pr} (h : q ∈ adj (x :: t)) : (∃ y s, t = y :: s ∧ q = (x, y)) ∨ q ∈ adj t := by
  cases t with
  | nil => simp [adj] at h
  | cons y s =>
    rw [adj_cons] at h
    rcases List.mem_cons.mp h with h | h
    · exact .inl ⟨y, s, rfl, h⟩
    · exact .inr h
theorem putT_adj {a b c : Nat} : ∀ {row : List Nat} {q : Pr}, q ∈ adj (putT a b c row) → (q.1 = c ∨ q.2 = c) ∨ (q ∈ adj row ∧ q ≠ (a, b))
  | [], q, h => by simp [putT, adj] at h
  | [x], q, h => by simp [putT, adj] at h
  | x :: y :: r, q, h => by
    unfold putT at h
    split at h
    · rcases adj_tail h with ⟨y', s, _, rfl⟩ | h
      · exact .inl (.inl rfl)
      · rcases putT_adj h with h | ⟨h1, h2⟩
        · exact .inl h
        · refine .inr ⟨?_, h2⟩
          rw [adj_cons]
          refine List.mem_cons_of_mem _ ?_
          cases r with
          | nil => simp [adj] at h1
          | cons z r => rw [adj_cons]; exact List.mem_cons_of_mem _ h1
    · rename_i hn
      rcases adj_tail h with ⟨y', s, e, rfl⟩ | h
      · obtain ⟨t, e2 | e2⟩ := putT_head (a := a) (b := b) (c := c) (y := y) (r := r)
        · rw [e2] at e
          cases e
          exact .inr ⟨by rw [adj_cons]; exact List.mem_cons_self, fun z => hn (by cases z; exact ⟨rfl, rfl⟩)⟩
        · rw [e2] at e
          cases e
          exact .inl (.inr rfl)
      · rcases putT_adj h with h | ⟨h1, h2⟩
        · exact .inl h
        · exact .inr ⟨by rw [adj_cons]; exact List.mem_cons_of_mem _ h1, h2⟩
theorem putT_none {a b c : Nat} : ∀ {row : List Nat}, (a, b) ∉ adj row → putT a b c row = row
  | [], _ => rfl
  | [_], _ => rfl
  | x :: y :: r, h => by
    unfold putT
    rw [adj_cons] at h
    rw [if_neg (fun z => h (by rw [z.1, z.2]; exact List.mem_cons_self)), putT_none (fun z => h (List.mem_cons_of_mem _ z))]
theorem putT_mem {a b c : Nat} : ∀ {row : List Nat} {x : Nat}, x ∈ putT a b c row → x = c ∨ x ∈ row
  | [], x, h => .inr h
  | [_], x, h => .inr h
  | y :: z :: r, x, h => by
    unfold putT at h
    split at h
    · rcases List.mem_cons.mp h with h | h
      · exact .inl h
      · rcases putT_mem h with h | h
        · exact .inl h
        · exact .inr (List.mem_cons_of_mem _ (List.mem_cons_of_mem _ h))
    · rcases List.mem_cons.mp h with h | h
      · exact .inr (h ▸ List.mem_cons_self)
      · rcases putT_mem h with h | h
        · exact .inl h
        · exact .inr (List.mem_cons_of_mem _ h)
theorem lowF_snoc {P l : List Pr} {p : Pr} : lowF P (l ++ [p]) = lowS P (lowF P l) p := by
  unfold lowF
  rw [List.foldl_append]; rfl
theorem rev_ind {α : Type} {M : List α → Prop} (h0 : M []) (h1 : ∀ l x, M l → M (l ++ [x])) : ∀ l, M l := by
  intro l
  have key : ∀ k, ∀ l : List α, l.length = k → M l := by
    intro k
    induction k with
    | zero => intro l hl; rw [List.eq_nil_of_length_eq_zero hl]; exact h0
    | succ k ih =>
      intro l hl
      have hne : l ≠ [] := by intro e; subst e; simp at hl
      rw [← List.dropLast_concat_getLast hne]
      exact h1 _ _ (ih _ (by rw [List.length_dropLast]; omega))
  exact key _ l rfl
theorem lowF_spec (P : List Pr) : ∀ l : List Pr, (lowF P l = none → ∀ p ∈ l, p ∉ P) ∧ (∀ q, lowF P l = some q → q ∈ l ∧ q ∈ P ∧ ∀ p ∈ l, p ∈ P → P.idxOf q ≤ P.idxOf p) := by
  refine rev_ind ⟨fun _ p h => by simp at h, fun q h => by simp [lowF] at h⟩ fun l x ⟨h1, h2⟩ => ?_
  rw [lowF_snoc]
  unfold lowS
  cases hq : lowF P l with
  | none =>
    have h1 := h1 hq
    by_cases hx : x ∈ P
    · rw [if_pos ⟨hx, rfl⟩]
      refine ⟨fun h => (by cases h), fun q h => ?_⟩
      cases h
      refine ⟨by simp, hx, fun p hp hpP => ?_⟩
      rcases List.mem_append.mp hp with hp | hp
      · exact absurd hpP (h1 p hp)
      · have hp : p = x := by simpa using hp
        rw [hp]; exact Nat.le_refl _
    · rw [if_neg (fun z => hx z.1)]
      refine ⟨fun _ p hp => ?_, fun q h => by cases h⟩
      rcases List.mem_append.mp hp with hp | hp
      · exact h1 p hp
      · have hp : p = x := by simpa using hp
        rw [hp]; exact hx
  | some q0 =>
    obtain ⟨g1, g2, g3⟩ := h2 q0 hq
    by_cases hx : x ∈ P ∧ lowB P x (some q0) = true
    · rw [if_pos hx]
      have hlt : P.idxOf x < P.idxOf q0 := of_decide_eq_true hx.2
      refine ⟨fun h => (by cases h), fun q h => ?_⟩
      cases h
      refine ⟨by simp, hx.1, fun p hp hpP => ?_⟩
      rcases List.mem_append.mp hp with hp | hp
      · exact Nat.le_trans (Nat.le_of_lt hlt) (g3 p hp hpP)
      · have hp : p = x := by simpa using hp
        rw [hp]; exact Nat.le_refl _
    · rw [if_neg hx]
      refine ⟨fun h => (by cases h), fun q h => ?_⟩
      cases h
      refine ⟨List.mem_append_left _ g1, g2, fun p hp hpP => ?_⟩
      rcases List.mem_append.mp hp with hp | hp
      · exact g3 p hp hpP
      · have hp : p = x := by simpa using hp
        rw [hp] at hpP ⊢
        have : ¬ P.idxOf x < P.idxOf q0 := fun z => hx ⟨hpP, decide_eq_true z⟩
        omega
theorem nodup_idx {P : List Pr} (nd : P.Nodup) {r : Nat} (h : r < P.length) : P.idxOf P[r] = r := by
  have hm := List.getElem_mem h
  have h1 := List.idxOf_lt_length_of_mem hm
  have h2 : P[P.idxOf P[r]] = P[r] := List.getElem_idxOf h1
  rcases Nat.lt_trichotomy (P.idxOf P[r]) r with q | q | q
  · exact absurd h2 ((List.pairwise_iff_getElem.mp (List.nodup_iff_pairwise_ne.mp nd)) _ _ h1 h q)
  · exact q
  · exact absurd h2.symm ((List.pairwise_iff_getElem.mp (List.nodup_iff_pairwise_ne.mp nd)) _ _ h h1 q)
theorem take_mem_lt {P : List Pr} {r : Nat} {q : Pr} (h : q ∈ P) (hr : P.idxOf q < r) : q ∈ P.take r := by
  have h2 := List.idxOf_lt_length_of_mem h
  have h3 : P[P.idxOf q] = q := List.getElem_idxOf h2
  rw [List.mem_iff_getElem]
  exact ⟨P.idxOf q, by rw [List.length_take]; omega, by rw [List.getElem_take]; exact h3⟩
theorem low_at {n : Nat} {P : List Pr} (wf : Wf n P) {l : List Pr} {r : Nat} (hr : r < P.length) (hn : ∀ p ∈ l, p ∉ P.take r) (hp : P[r] ∈ l) : lowF P l = some P[r] := by
  obtain ⟨h1, h2⟩ := lowF_spec P l
  cases hq : lowF P l with
  | none => exact absurd (List.getElem_mem hr) (h1 hq _ hp)
  | some q =>
    obtain ⟨g1, g2, g3⟩ := h2 q hq
    have e1 := g3 _ hp (List.getElem_mem hr)
    rw [nodup_idx wf.nd hr] at e1
    have e2 : ¬ P.idxOf q < r := fun z => hn q g1 (take_mem_lt g2 z)
    have e3 : P.idxOf q = r := by omega
    have h4 := List.idxOf_lt_length_of_mem g2
    have h5 : P[P.idxOf q] = q := List.getElem_idxOf h4
    congr 1
    rw [← h5]
    congr 1
/-- behind the first r stages -/
theorem stage_inv {n : Nat} {P : List Pr} (wf : Wf n P) {row : List Nat} (hrow : ∀ x ∈ row, x < n) : ∀ r, r ≤ P.length →
    (∀ q ∈ adj (stg n (P.take r) row), q ∉ P.take r) ∧ (∀ x ∈ stg n (P.take r) row, x < n + r) ∧ cutF P n row = cutF P n (stg n (P.take r) row)
  | 0, _ => ⟨fun q _ => by simp, fun x hx => hrow x hx, rfl⟩
  | r + 1, hr => by
    have hr' : r < P.length := hr
    obtain ⟨h1, h2, h3⟩ := stage_inv wf hrow r (Nat.le_of_lt hr')
    have el : (P.take r).length = r := by rw [List.length_take]; omega
    have es : stg n (P.take (r + 1)) row = putT P[r].1 P[r].2 (n + r) (stg n (P.take r) row) := by rw [take_snoc hr', stg_snoc, el]
    rw [es]
    generalize stg n (P.take r) row = R at *
    have small : ∀ q ∈ P.take (r + 1), q.1 < n + r ∧ q.2 < n + r := fun q hq => by
      obtain ⟨j, hj, e⟩ := List.mem_iff_getElem.mp hq
      rw [List.length_take] at hj
      rw [List.getElem_take] at e
      have := wf.lt j (by omega)
      rw [e] at this
      omega
    refine ⟨fun q hq hm => ?_, fun x hx => ?_, ?_⟩
    · rcases putT_adj hq with h | ⟨g1, g2⟩
      · have := small q hm
        omega
      · rw [take_snoc hr'] at hm
        rcases List.mem_append.mp hm with hm | hm
        · exact h1 q g1 hm
        · have hm : q = P[r] := by simpa using hm
          exact g2 hm
    · rcases putT_mem hx with h | h
      · omega
      · have := h2 x h; omega
    · rw [h3]
      by_cases hp : P[r] ∈ adj R
      · rw [cutF_some (low_at wf hr' h1 hp), nodup_idx wf.nd hr']
      · rw [putT_none (a := P[r].1) (b := P[r].2) hp]
/-- THE FIRST LAW: the lowest rank first, or stage by stage -/
theorem cut_stg {n : Nat} {P : List Pr} (wf : Wf n P) {row : List Nat} (hrow : ∀ x ∈ row, x < n) : cutF P n row = stg n P row := by
  obtain ⟨h1, _, h3⟩ := stage_inv wf hrow P.length (Nat.le_refl _)
  rw [List.take_length] at h1 h3
  rw [h3]
  refine cutF_none ?_
  cases hq : lowF P (adj (stg n P row)) with
  | none => rfl
  | some q =>
    obtain ⟨g1, g2, _⟩ := (lowF_spec P _).2 q hq
    exact absurd g2 (h1 q g1)
end DL
set_option Elab.async false
set_option linter.all false
set_option maxRecDepth 100000
set_option maxHeartbeats 4000000
namespace DL
open PySem PySem.Spec PyProof.Rows
open L2 hiding Takes passAt takes_of ps_raise PMk ps_try_as
open L2N (Takes passAt takes_of ps_raise PMk ps_try_as)
end DL
set_option Elab.async false
set_option linter.all false
set_option maxRecDepth 100000
set_option maxHeartbeats 4000000
namespace DL
open PySem PySem.Spec PyProof.Rows
open L2 hiding Takes passAt takes_of ps_raise PMk ps_try_as
open L2N (Takes passAt takes_of ps_raise PMk ps_try_as)
/-! ### pieces taken apart -/
def apartF (c a b : Nat) (row : List Nat) : List Nat := row.flatMap fun x => if x = c then [a, b] else [x]
/-- by the ranks k - 1, .., m -/
def splK (n : Nat) (P : List Pr) (m : Nat) : Nat → List Nat → List Nat
  | 0, row => row
  | k + 1, row => if k < m then row else splK n P m k (apartF (n + k) (P.getD k (0, 0)).1 (P.getD k (0, 0)).2 row)
theorem apartF_app (c a b : Nat) (u v : List Nat) : apartF c a b (u ++ v) = apartF c a b u ++ apartF c a b v := by simp [apartF]
theorem splK_app {n : Nat} {P : List Pr} {m : Nat} : ∀ (k : Nat) (u v : List Nat), splK n P m k (u ++ v) = splK n P m k u ++ splK n P m k v
  | 0, _, _ => rfl
  | k + 1, u, v => by
    unfold splK
    split
    · rfl
    · rw [apartF_app, splK_app k]
theorem apartF_out {c a b : Nat} : ∀ {row : List Nat}, c ∉ row → apartF c a b row = row
  | [], _ => rfl
  | x :: r, h => by
    have h1 : x ≠ c := fun e => h (by simp [e])
    have ih := apartF_out (a := a) (b := b) (row := r) fun hc => h (List.mem_cons_of_mem _ hc)
    unfold apartF at ih ⊢
    rw [List.flatMap_cons, if_neg h1, ih]
    rfl
theorem splK_low {n : Nat} {P : List Pr} {m : Nat} {row : List Nat} (h : ∀ x ∈ row, x < n + m) : ∀ k : Nat, splK n P m k row = row
  | 0 => rfl
  | k + 1 => by
    unfold splK
    split
    · rfl
    · rename_i hk
      rw [apartF_out fun hc => by have := h _ hc; omega]
      exact splK_low h k
/-- ranks above do nothing -/
theorem splK_up {n : Nat} {P : List Pr} {m j : Nat} {row : List Nat} (hm : m ≤ j) (h : ∀ x ∈ row, x < n + j) : ∀ k : Nat, j ≤ k → splK n P m k row = splK n P m j row := by
  intro k
  induction k with
  | zero =>
    intro hk
    have : j = 0 := by omega
    subst this; rfl
  | succ k ih =>
    intro hk
    by_cases e : j = k + 1
    · subst e; rfl
    · have hk' : j ≤ k := by omega
      show (if k < m then row else _) = _
      rw [if_neg (by omega), apartF_out fun hc => by have := h _ hc; omega]
      exact ih hk'
theorem splK_part {n : Nat} {P : List Pr} {m x L : Nat} (hw : Wf n P) (hL : P.length = L) (hx : n + m ≤ x) (hx2 : x < n + L) :
    splK n P m L [x] = splK n P m L [(P.getD (x - n) (0, 0)).1, (P.getD (x - n) (0, 0)).2] := by
  have hr : x - n < P.length := by omega
  have hg : P.getD (x - n) (0, 0) = P[x - n] := by rw [List.getD_eq_getElem?_getD, List.getElem?_eq_getElem hr]; rfl
  have hlt := hw.lt (x - n) hr
  rw [splK_up (j := x - n + 1) (by omega) (by simp; omega) L (by omega)]
  rw [splK_up (j := x - n) (by omega) (by rw [hg]; simp; omega) L (by omega)]
  show (if x - n < m then [x] else _) = _
  rw [if_neg (by omega)]
  congr 1
  unfold apartF
  rw [show n + (x - n) = x by omega]
  simp
/-- the split row -/
def spl (n : Nat) (P : List Pr) (m : Nat) (row : List Nat) : List Nat := splK n P m P.length row
theorem apart_put {a b c : Nat} : ∀ {row : List Nat}, c ∉ row → apartF c a b (putT a b c row) = row
  | [], _ => rfl
  | [x], h => apartF_out h
  | x :: y :: r, h => by
    unfold putT
    split
    · rename_i hc
      have ih := apart_put (a := a) (b := b) (c := c) (row := r) fun hc => h (by simp [hc])
      unfold apartF at ih ⊢
      rw [List.flatMap_cons, if_pos rfl, ih, hc.1, hc.2]
      rfl
    · have ih := apart_put (a := a) (b := b) (c := c) (row := y :: r) fun hc => h (List.mem_cons_of_mem _ hc)
      have h1 : x ≠ c := fun e => h (by simp [e])
      unfold apartF at ih ⊢
      rw [List.flatMap_cons, if_neg h1, ih]
      rfl
/-- what the stages made is taken apart -/
theorem spl_stg {n : Nat} {P : List Pr} {m : Nat} (hw : Wf n P) {row : List Nat} (hr : ∀ x ∈ row, x < n) (hm : m ≤ P.length) : spl n P m (stg n P row) = stg n (P.take m) row := by
  have key : ∀ k, m ≤ k → k ≤ P.length → splK n P m k (stg n (P.take k) row) = stg n (P.take m) row := by
    intro k
    induction k with
    | zero =>
      intro h1 _
      have : m = 0 := by omega
      subst this; rfl
    | succ k ih =>
      intro h1 h2
      by_cases e : m = k + 1
      · subst e
        exact splK_low (fun x hx => by
          have := (stage_inv hw hr (k + 1) h2).2.1 x hx
          omega) _
      · have hk : k < P.length := h2
        have hin := (stage_inv hw hr k (by omega)).2.1
        have e1 : stg n (P.take (k + 1)) row = putT P[k].1 P[k].2 (n + k) (stg n (P.take k) row) := by
          rw [show P.take (k + 1) = P.take k ++ [P[k]] by rw [List.take_add_one, List.getElem?_eq_getElem hk]; rfl, stg_snoc, List.length_take, Nat.min_eq_left (by omega)]
        have hg : P.getD k (0, 0) = P[k] := by rw [List.getD_eq_getElem?_getD, List.getElem?_eq_getElem hk]; rfl
        show (if k < m then _ else _) = _
        rw [if_neg (by omega), e1, hg, apart_put fun hc => by have := hin _ hc; omega]
        exact ih (by omega) (by omega)
  have := key P.length hm (Nat.le_refl _)
  rwa [List.take_length] at this
end DL
set_option Elab.async false
set_option linter.all false
set_option maxRecDepth 100000
set_option maxHeartbeats 4000000
namespace DL
open PySem PySem.Spec PyProof.Rows
open L2 hiding Takes passAt takes_of ps_raise PMk ps_try_as
open L2N (Takes passAt takes_of ps_raise PMk ps_try_as)
/-! ### where a join crosses the place between two pieces -/
/-- is the last of the row left alone by the scan? -/
def pend (a b : Nat) : List Nat → Bool
  | [] => false
  | [_] => true
  | x :: y :: r => if x = a ∧ y = b then pend a b r else pend a b (y :: r)
theorem pend_ne {a b : Nat} {u : List Nat} (h : pend a b u = true) : u ≠ [] := fun e => by rw [e] at h; simp [pend] at h
theorem putT_ne {a b c : Nat} : ∀ {u : List Nat}, u ≠ [] → putT a b c u ≠ []
  | [], h => absurd rfl h
  | [_], _ => by simp [putT]
  | x :: y :: r, _ => by unfold putT; split <;> simp
theorem glast_cons {x : Nat} {r : List Nat} (h : r ≠ []) : (x :: r).getLast? = r.getLast? := by
  cases r with
  | nil => exact absurd rfl h
  | cons y r => simp [List.getLast?_cons_cons]
theorem dlast_cons {x : Nat} {r : List Nat} (h : r ≠ []) : (x :: r).dropLast = x :: r.dropLast := by
  cases r with
  | nil => exact absurd rfl h
  | cons y r => rfl
theorem putT_app {a b c : Nat} : ∀ (u v : List Nat), putT a b c (u ++ v) = if pend a b u = true ∧ u.getLast? = some a ∧ v.head? = some b then (putT a b c u).dropLast ++ c :: putT a b c v.tail else putT a b c u ++ putT a b c v
  | [], v => by simp [pend, putT]
  | [x], v => by
    cases v with
    | nil => simp [putT]
    | cons y v =>
      show (if x = a ∧ y = b then c :: putT a b c v else x :: putT a b c (y :: v)) = _
      by_cases h : x = a ∧ y = b
      · rw [if_pos h, if_pos ⟨rfl, by rw [h.1]; rfl, by rw [h.2]; rfl⟩]
        rfl
      · rw [if_neg h, if_neg (fun z => h ⟨by simpa using z.2.1, by simpa using z.2.2⟩)]
        rfl
  | x :: y :: r, v => by
    show (if x = a ∧ y = b then c :: putT a b c (r ++ v) else x :: putT a b c (y :: r ++ v)) = _
    have e1 : putT a b c (x :: y :: r) = if x = a ∧ y = b then c :: putT a b c r else x :: putT a b c (y :: r) := rfl
    have e2 : pend a b (x :: y :: r) = if x = a ∧ y = b then pend a b r else pend a b (y :: r) := rfl
    rw [e1, e2]
    by_cases h : x = a ∧ y = b
    · rw [if_pos h, if_pos h, if_pos h, putT_app r v]
      by_cases hr : r = []
      · subst hr
        simp [pend, putT]
      · rw [glast_cons (by simp), glast_cons hr]
        split
        · rw [dlast_cons (putT_ne hr)]; rfl
        · rfl
    · rw [if_neg h, if_neg h, if_neg h, putT_app (y :: r) v, glast_cons (x := x) (r := y :: r) (by simp)]
      split
      · rw [dlast_cons (putT_ne (by simp))]; rfl
      · rfl
theorem pend_last {a b c : Nat} : ∀ {u : List Nat}, c ∉ u → u ≠ [] → (pend a b u = true ↔ (putT a b c u).getLast? = u.getLast?)
  | [], _, h => absurd rfl h
  | [x], _, _ => by simp [pend, putT]
  | x :: y :: r, hc, _ => by
    have e1 : putT a b c (x :: y :: r) = if x = a ∧ y = b then c :: putT a b c r else x :: putT a b c (y :: r) := rfl
    have e2 : pend a b (x :: y :: r) = if x = a ∧ y = b then pend a b r else pend a b (y :: r) := rfl
    rw [e1, e2]
    by_cases h : x = a ∧ y = b
    · rw [if_pos h, if_pos h]
      by_cases hr : r = []
      · subst hr
        have hy : c ≠ y := fun e => hc (by simp [e])
        simp [pend, putT]
        exact hy
      · rw [glast_cons (putT_ne hr), glast_cons (by simp), glast_cons hr]
        exact pend_last (fun z => hc (by simp [z])) hr
    · rw [if_neg h, if_neg h, glast_cons (putT_ne (by simp)), glast_cons (by simp)]
      exact pend_last (fun z => hc (List.mem_cons_of_mem _ z)) (by simp)
theorem putT_last {a b c : Nat} : ∀ {u : List Nat}, pend a b u = true → ∃ x, u.getLast? = some x ∧ putT a b c u = (putT a b c u).dropLast ++ [x]
  | [], h => by simp [pend] at h
  | [x], _ => ⟨x, rfl, rfl⟩
  | x :: y :: r, h => by
    have e1 : putT a b c (x :: y :: r) = if x = a ∧ y = b then c :: putT a b c r else x :: putT a b c (y :: r) := rfl
    have e2 : pend a b (x :: y :: r) = if x = a ∧ y = b then pend a b r else pend a b (y :: r) := rfl
    rw [e2] at h
    rw [e1]
    by_cases hh : x = a ∧ y = b
    · rw [if_pos hh] at h ⊢
      have hr := pend_ne h
      obtain ⟨z, h1, h2⟩ := putT_last (c := c) h
      refine ⟨z, by rw [glast_cons (by simp), glast_cons hr]; exact h1, ?_⟩
      rw [dlast_cons (putT_ne hr)]
      rw [List.cons_append, ← h2]
    · rw [if_neg hh] at h ⊢
      obtain ⟨z, h1, h2⟩ := putT_last (c := c) h
      refine ⟨z, by rw [glast_cons (by simp)]; exact h1, ?_⟩
      rw [dlast_cons (putT_ne (by simp)), List.cons_append, ← h2]
/-! ### stages of two rows, one behind the other -/
def stN (n : Nat) (P : List Pr) (k : Nat) (row : List Nat) : List Nat := stg n (P.take k) row
theorem stN_succ {n : Nat} {P : List Pr} {row : List Nat} {i : Nat} (h : i < P.length) : stN n P (i + 1) row = putT P[i].1 P[i].2 (n + i) (stN n P i row) := by
  unfold stN
  rw [show P.take (i + 1) = P.take i ++ [P[i]] by rw [List.take_add_one, List.getElem?_eq_getElem h]; rfl, stg_snoc, List.length_take, Nat.min_eq_left (Nat.le_of_lt h)]
theorem stN_ne {n : Nat} {P : List Pr} {row : List Nat} (h : row ≠ []) : ∀ k, k ≤ P.length → stN n P k row ≠ []
  | 0, _ => h
  | k + 1, hk => by rw [stN_succ hk]; exact putT_ne (stN_ne h k (by omega))
def crossAt (n : Nat) (P : List Pr) (u v : List Nat) (r : Nat) : Prop := ∃ h : r < P.length, pend P[r].1 P[r].2 (stN n P r u) = true ∧ (stN n P r u).getLast? = some P[r].1 ∧ (stN n P r v).head? = some P[r].2
theorem stN_app {n : Nat} {P : List Pr} {u v : List Nat} : ∀ k, k ≤ P.length → (∀ r, r < k → ¬ crossAt n P u v r) → stN n P k (u ++ v) = stN n P k u ++ stN n P k v
  | 0, _, _ => rfl
  | k + 1, hk, h => by
    have hk' : k < P.length := hk
    rw [stN_succ hk', stN_succ hk', stN_succ hk', stN_app k (by omega) (fun r hr => h r (by omega)), putT_app, if_neg (fun z => h k (Nat.lt_succ_self _) ⟨hk', z⟩)]
theorem stN_cross {n : Nat} {P : List Pr} {u v : List Nat} {r : Nat} (hr : r < P.length) (hlt : P[r].1 < n + r) (h0 : ∀ q, q < r → ¬ crossAt n P u v q) (h : crossAt n P u v r) :
    ∃ u' v', stN n P r u = u' ++ [P[r].1] ∧ stN n P r v = P[r].2 :: v' ∧ stN n P (r + 1) (u ++ v) = putT P[r].1 P[r].2 (n + r) u' ++ (n + r) :: putT P[r].1 P[r].2 (n + r) v' := by
  obtain ⟨_, h1, h2, h3⟩ := h
  rw [stN_succ hr, stN_app r (by omega) h0, putT_app, if_pos ⟨h1, h2, h3⟩]
  generalize stN n P r u = x at *
  generalize stN n P r v = y at *
  obtain ⟨u', rfl⟩ : ∃ u', x = u' ++ [P[r].1] := by
    obtain ⟨ys, e⟩ := List.getLast?_eq_some_iff.mp h2
    exact ⟨ys, e⟩
  cases y with
  | nil => simp at h3
  | cons z v' =>
    have hz : z = P[r].2 := by simpa using h3
    subst hz
    refine ⟨u', v', rfl, rfl, ?_⟩
    have hp := putT_app (a := P[r].1) (b := P[r].2) (c := n + r) u' [P[r].1]
    obtain ⟨w, hw1, hw2⟩ := putT_last (c := n + r) h1
    have hw : w = P[r].1 := by rw [h2] at hw1; exact (Option.some.inj hw1).symm
    subst hw
    rw [hp]
    split
    · rename_i hc
      exfalso
      rw [hp, if_pos hc] at hw2
      have e : ∀ (X : List Nat), X ++ (n + r) :: putT P[r].1 P[r].2 (n + r) ([P[r].1] : List Nat).tail = (X ++ (n + r) :: putT P[r].1 P[r].2 (n + r) ([P[r].1] : List Nat).tail).dropLast ++ [P[r].1] → n + r = P[r].1 := fun X h => by
        have h := congrArg List.getLast? h
        simpa [putT] using h
      have := e _ hw2
      omega
    · simp [putT]
/-! ### sums: the places where pieces end -/
def sumW (W : Nat → Nat) (row : List Nat) : Nat := (row.map W).sum
theorem sumW_app (W : Nat → Nat) (u v : List Nat) : sumW W (u ++ v) = sumW W u + sumW W v := by simp [sumW]
theorem sumW_cons (W : Nat → Nat) (x : Nat) (v : List Nat) : sumW W (x :: v) = W x + sumW W v := by simp [sumW]
def cutAt (W : Nat → Nat) (row : List Nat) (m : Nat) : Prop := ∃ s t, row = s ++ t ∧ sumW W s = m
theorem cutAt_cons {W : Nat → Nat} {x : Nat} {row : List Nat} {m : Nat} (h : cutAt W row m) : cutAt W (x :: row) (W x + m) := by
  obtain ⟨s, t, rfl, e⟩ := h
  exact ⟨x :: s, t, rfl, by rw [sumW_cons, e]⟩
theorem cutAt_zero (W : Nat → Nat) (row : List Nat) : cutAt W row 0 := ⟨[], row, rfl, rfl⟩
theorem cutAt_inv {W : Nat → Nat} {x : Nat} {row : List Nat} {m : Nat} (h : cutAt W (x :: row) m) : m = 0 ∨ ∃ m', m = W x + m' ∧ cutAt W row m' := by
  obtain ⟨s, t, e, hm⟩ := h
  cases s with
  | nil => exact .inl (by rw [← hm]; rfl)
  | cons y s =>
    cases e
    exact .inr ⟨_, by rw [← hm, sumW_cons], s, t, rfl, rfl⟩
theorem cutAt_put {W : Nat → Nat} {a b c : Nat} (hc : W c = W a + W b) : ∀ {row : List Nat} {m : Nat}, cutAt W (putT a b c row) m → cutAt W row m
  | [], _, h => h
  | [_], _, h => h
  | x :: y :: r, m, h => by
    unfold putT at h
    split at h
    · rename_i hx
      rcases cutAt_inv h with rfl | ⟨m', rfl, h2⟩
      · exact cutAt_zero _ _
      · have := cutAt_cons (x := x) (cutAt_cons (x := y) (cutAt_put hc h2))
        rw [hx.1, hx.2] at this ⊢
        rw [hc, Nat.add_assoc]; exact this
    · rcases cutAt_inv h with rfl | ⟨m', rfl, h2⟩
      · exact cutAt_zero _ _
      · exact cutAt_cons (cutAt_put hc h2)
theorem sumW_put {W : Nat → Nat} {a b c : Nat} (hc : W c = W a + W b) : ∀ row : List Nat, sumW W (putT a b c row) = sumW W row
  | [] => rfl
  | [_] => rfl
  | x :: y :: r => by
    unfold putT
    split
    · rename_i hx
      rw [sumW_cons, sumW_cons, sumW_cons, sumW_put hc r, hc, hx.1, hx.2, Nat.add_assoc]
    · rw [sumW_cons, sumW_cons, sumW_put hc (y :: r)]
theorem not_cut {W : Nat → Nat} {c m : Nat} : ∀ {u v : List Nat}, sumW W u < m → m < sumW W u + W c → ¬ cutAt W (u ++ c :: v) m
  | [], v, h1, h2, h => by
    have h1 : 0 < m := h1
    have h2 : m < 0 + W c := h2
    rcases cutAt_inv h with e | ⟨m', e, _⟩ <;> omega
  | x :: u, v, h1, h2, h => by
    rw [sumW_cons] at h1 h2
    rcases cutAt_inv h with e | ⟨m', e, h⟩
    · omega
    · exact not_cut (by omega) (by omega) h
/-- W tells how long a piece is -/
structure Wgt (n : Nat) (P : List Pr) (W : Nat → Nat) : Prop where
  join : ∀ r (h : r < P.length), W (n + r) = W P[r].1 + W P[r].2
  pos : ∀ x, x < n + P.length → 1 ≤ W x
theorem sumW_stN {n : Nat} {P : List Pr} {W : Nat → Nat} (hW : Wgt n P W) {row : List Nat} : ∀ k, k ≤ P.length → sumW W (stN n P k row) = sumW W row
  | 0, _ => rfl
  | k + 1, hk => by rw [stN_succ hk, sumW_put (hW.join k hk), sumW_stN hW k (by omega)]
theorem cutAt_stN {n : Nat} {P : List Pr} {W : Nat → Nat} (hW : Wgt n P W) {row : List Nat} {m j : Nat} : ∀ k, k ≤ P.length → j ≤ k → cutAt W (stN n P k row) m → cutAt W (stN n P j row) m
  | 0, _, hj, h => by
    have : j = 0 := by omega
    subst this; exact h
  | k + 1, hk, hj, h => by
    by_cases e : j = k + 1
    · subst e; exact h
    · rw [stN_succ hk] at h
      exact cutAt_stN hW k (by omega) (by omega) (cutAt_put (hW.join k hk) h)
theorem mark_no {n : Nat} {P : List Pr} {W : Nat → Nat} (hw : Wf n P) (hW : Wgt n P W) {u v : List Nat} {r k : Nat} (hk : k ≤ P.length) (hrk : r < k) (h0 : ∀ q, q < r → ¬ crossAt n P u v q) (h : crossAt n P u v r) : ¬ cutAt W (stN n P k (u ++ v)) (sumW W u) := fun hc => by
  have hr : r < P.length := by omega
  have hlt := hw.lt r hr
  have hc := cutAt_stN hW (j := r + 1) k hk hrk hc
  obtain ⟨u', v', e1, e2, e3⟩ := stN_cross hr hlt.1 h0 h
  rw [e3] at hc
  have hs := sumW_stN hW (row := u) r (by omega)
  rw [e1, sumW_app] at hs
  have p1 := hW.pos P[r].1 (by omega)
  have p2 := hW.pos P[r].2 (by omega)
  have hj := hW.join r hr
  have e4 : sumW W [P[r].1] = W P[r].1 := by simp [sumW]
  rw [e4] at hs
  refine not_cut ?_ ?_ hc
  · rw [sumW_put hj]; omega
  · rw [sumW_put hj]; omega
/-- the first crossing -/
def FirstX (n : Nat) (P : List Pr) (u v : List Nat) : Option Nat → Prop
  | none => ∀ r, ¬ crossAt n P u v r
  | some r => crossAt n P u v r ∧ ∀ q, q < r → ¬ crossAt n P u v q
theorem FirstX.uniq {n : Nat} {P : List Pr} {u v : List Nat} {x y : Option Nat} (hx : FirstX n P u v x) (hy : FirstX n P u v y) : x = y := by
  cases x with
  | none =>
    cases y with
    | none => rfl
    | some r => exact absurd hy.1 (hx r)
  | some r =>
    cases y with
    | none => exact absurd hx.1 (hy r)
    | some q =>
      congr 1
      by_cases h1 : r < q
      · exact absurd hx.1 (hy.2 r h1)
      · by_cases h2 : q < r
        · exact absurd hy.1 (hx.2 q h2)
        · omega
end DL
set_option Elab.async false
set_option linter.all false
set_option maxRecDepth 100000
set_option maxHeartbeats 4000000
namespace DL
open PySem PySem.Spec PyProof.Rows
open L2 hiding Takes passAt takes_of ps_raise PMk ps_try_as
open L2N (Takes passAt takes_of ps_raise PMk ps_try_as)
/-! ### spines -/
abbrev Sp1 := Nat × Option Nat
def okBd (k : Nat) : Option Nat → Prop
  | none => True
  | some q => k ≤ q
/-- the pairs (piece, bound) downwards; sd: which part -/
def spn (sd : Pr → Nat) (n : Nat) (P : List Pr) : Nat → Nat → Option Nat → List Sp1
  | 0, x, b => [(x, b)]
  | f + 1, x, b => (x, b) :: if x < n then [] else spn sd n P f (sd (P.getD (x - n) (0, 0))) (some (x - n))
theorem spn_bd {sd : Pr → Nat} {n : Nat} {P : List Pr} (hs : ∀ r (h : r < P.length), sd P[r] < n + r) : ∀ (f x : Nat) (b : Nat), x ≤ n + b → x < n + P.length → ∀ z ∈ spn sd n P f x (some b), ∃ q, z.2 = some q ∧ q ≤ b
  | 0, x, b, _, _, z, hz => ⟨b, by have : z = (x, some b) := by simpa [spn] using hz
                                   rw [this], Nat.le_refl _⟩
  | f + 1, x, b, hx, hxl, z, hz => by
    unfold spn at hz
    rcases List.mem_cons.mp hz with rfl | hz
    · exact ⟨b, rfl, Nat.le_refl _⟩
    · split at hz
      · simp at hz
      · have hr : x - n < P.length := by omega
        have hg : P.getD (x - n) (0, 0) = P[x - n] := by rw [List.getD_eq_getElem?_getD, List.getElem?_eq_getElem hr]; rfl
        have := hs (x - n) hr
        rw [hg] at hz
        obtain ⟨q, h1, h2⟩ := spn_bd hs f _ (x - n) (by omega) (by omega) z hz
        exact ⟨q, h1, by omega⟩
/-- an end of the pieces at stage k: pick is the last (the first) -/
structure EndP (sd : Pr → Nat) (pick : List Nat → Option Nat) : Prop where
  one : ∀ x, pick [x] = some x
  part : ∀ (f : Nat → List Nat) (p : Pr), (∀ x, f x ≠ []) → pick (f p.1 ++ f p.2) = pick (f (sd p))
theorem endR : EndP Prod.snd List.getLast? := ⟨fun x => rfl, fun f p h => by rw [List.getLast?_append]; cases q : (f p.2).getLast? with
  | none => exact absurd (List.getLast?_eq_none_iff.mp q) (h _)
  | some x => rfl⟩
theorem endL : EndP Prod.fst List.head? := ⟨fun x => rfl, fun f p h => by rw [List.head?_append]; cases q : (f p.1).head? with
  | none => exact absurd (List.head?_eq_none_iff.mp q) (h _)
  | some x => rfl⟩
theorem splK_lenLe {n : Nat} {P : List Pr} {m : Nat} : ∀ (k : Nat) (row : List Nat), row ≠ [] → splK n P m k row ≠ []
  | 0, _, h => h
  | k + 1, row, h => by
    unfold splK
    split
    · exact h
    · refine splK_lenLe k _ ?_
      cases row with
      | nil => exact absurd rfl h
      | cons x r => unfold apartF; rw [List.flatMap_cons]; split <;> simp
theorem spl_ne (n : Nat) (P : List Pr) (k x : Nat) : spl n P k [x] ≠ [] := splK_lenLe _ _ (by simp)
theorem spl_two {n : Nat} {P : List Pr} {k x : Nat} (hw : Wf n P) (h1 : n + k ≤ x) (h2 : x < n + P.length) : spl n P k [x] = spl n P k [(P.getD (x - n) (0, 0)).1] ++ spl n P k [(P.getD (x - n) (0, 0)).2] :=
  (splK_part hw rfl h1 h2).trans (splK_app P.length [(P.getD (x - n) (0, 0)).1] [(P.getD (x - n) (0, 0)).2])
theorem spn_end {sd : Pr → Nat} {pick : List Nat → Option Nat} (he : EndP sd pick) {n : Nat} {P : List Pr} (hw : Wf n P) (hs : ∀ r (h : r < P.length), sd P[r] < n + r) {k : Nat} (hk : k ≤ P.length) : ∀ (f x : Nat) (b : Option Nat), x ≤ f → x < n + P.length → okBd k b →
    (∃ y yb, (y, yb) ∈ spn sd n P f x b ∧ pick (spl n P k [x]) = some y ∧ y < n + k ∧ okBd k yb) ∧ (∀ y yb, (y, yb) ∈ spn sd n P f x b → y < n + k → okBd k yb → pick (spl n P k [x]) = some y)
  | 0, x, b, hf, hx, hb => by
    have hx0 : x = 0 := by omega
    subst hx0
    by_cases h : 0 < n + k
    · have e : spl n P k [0] = [0] := splK_low (by simpa using h) _
      rw [e, he.one]
      exact ⟨⟨0, b, by simp [spn], rfl, h, hb⟩, fun y yb hy _ _ => by
        have : (y, yb) = (0, b) := by simpa [spn] using hy
        cases this; rfl⟩
    · exfalso
      have := hw.lt 0 (by omega)
      omega
  | f + 1, x, b, hf, hx, hb => by
    by_cases h : x < n + k
    · have e : spl n P k [x] = [x] := splK_low (by simpa using h) _
      rw [e, he.one]
      refine ⟨⟨x, b, by simp [spn], rfl, h, hb⟩, fun y yb hy h1 h2 => ?_⟩
      unfold spn at hy
      rcases List.mem_cons.mp hy with hy | hy
      · cases hy; rfl
      · split at hy
        · simp at hy
        · exfalso
          have hr : x - n < P.length := by omega
          have hg : P.getD (x - n) (0, 0) = P[x - n] := by rw [List.getD_eq_getElem?_getD, List.getElem?_eq_getElem hr]; rfl
          have := hs (x - n) hr
          rw [hg] at hy
          obtain ⟨q, e1, e2⟩ := spn_bd hs f _ (x - n) (by omega) (by omega) _ hy
          have e1 : yb = some q := e1
          rw [e1] at h2
          have h2 : k ≤ q := h2
          omega
    · have hr : x - n < P.length := by omega
      have hg : P.getD (x - n) (0, 0) = P[x - n] := by rw [List.getD_eq_getElem?_getD, List.getElem?_eq_getElem hr]; rfl
      have hlt := hs (x - n) hr
      have e : pick (spl n P k [x]) = pick (spl n P k [sd (P.getD (x - n) (0, 0))]) := by
        rw [spl_two hw (by omega) hx]
        exact he.part (fun z => spl n P k [z]) _ (fun z => spl_ne n P k z)
      have ih := spn_end he hw hs hk f (sd (P.getD (x - n) (0, 0))) (some (x - n)) (by rw [hg]; omega) (by rw [hg]; omega) (show k ≤ x - n by omega)
      rw [e]
      have es : spn sd n P (f + 1) x b = (x, b) :: spn sd n P f (sd (P.getD (x - n) (0, 0))) (some (x - n)) := by
        show (x, b) :: (if x < n then [] else _) = _
        rw [if_neg (by omega)]
      rw [es]
      obtain ⟨⟨y, yb, h1, h2, h3, h4⟩, hu⟩ := ih
      refine ⟨⟨y, yb, List.mem_cons_of_mem _ h1, h2, h3, h4⟩, fun y yb hy h1 h2 => ?_⟩
      rcases List.mem_cons.mp hy with hy | hy
      · cases hy; exact absurd h1 h
      · exact hu y yb hy h1 h2
abbrev rsp (n : Nat) (P : List Pr) (x : Nat) : List Sp1 := spn Prod.snd n P x x none
abbrev lsp (n : Nat) (P : List Pr) (x : Nat) : List Sp1 := spn Prod.fst n P x x none
theorem crossAt_spn {n : Nat} {P : List Pr} (hw : Wf n P) {u v : List Nat} {a b : Nat} (hul : ∀ x ∈ u, x < n) (hvl : ∀ x ∈ v, x < n) (hu : stg n P u = [a]) (hv : stg n P v = [b]) (ha : a < n + P.length) (hb : b < n + P.length) {r : Nat} :
    crossAt n P u v r ↔ ∃ x xb y yb, (x, xb) ∈ rsp n P a ∧ (y, yb) ∈ lsp n P b ∧ P[r]? = some (x, y) ∧ okBd (r + 1) xb ∧ okBd r yb := by
  have hs2 : ∀ r (h : r < P.length), P[r].2 < n + r := fun r h => (hw.lt r h).2
  have hs1 : ∀ r (h : r < P.length), P[r].1 < n + r := fun r h => (hw.lt r h).1
  have eu : ∀ k, k ≤ P.length → stN n P k u = spl n P k [a] := fun k hk => by rw [← hu]; exact (spl_stg hw hul hk).symm
  have ev : ∀ k, k ≤ P.length → stN n P k v = spl n P k [b] := fun k hk => by rw [← hv]; exact (spl_stg hw hvl hk).symm
  have pe : ∀ (h : r < P.length), (pend P[r].1 P[r].2 (stN n P r u) = true ↔ (stN n P (r + 1) u).getLast? = (stN n P r u).getLast?) := fun h => by
    rw [stN_succ h]
    refine pend_last (fun hc => ?_) ?_
    · have := (stage_inv hw hul r (by omega)).2.1 _ hc
      omega
    · rw [eu r (by omega)]; exact spl_ne n P r a
  constructor
  · rintro ⟨h, h1, h2, h3⟩
    have h1 := (pe h).mp h1
    rw [h2, eu (r + 1) h] at h1
    rw [ev r (by omega)] at h3
    obtain ⟨⟨x, xb, g1, g2, g3, g4⟩, _⟩ := spn_end endR hw hs2 (k := r + 1) h a a none (Nat.le_refl _) ha trivial
    obtain ⟨⟨y, yb, g5, g6, g7, g8⟩, _⟩ := spn_end endL hw hs1 (k := r) (by omega) b b none (Nat.le_refl _) hb trivial
    rw [h1] at g2
    rw [h3] at g6
    refine ⟨x, xb, y, yb, g1, g5, ?_, g4, g8⟩
    rw [List.getElem?_eq_getElem h, ← Option.some.inj g2, ← Option.some.inj g6]
  · rintro ⟨x, xb, y, yb, g1, g2, g3, g4, g5⟩
    obtain ⟨h, e⟩ := List.getElem?_eq_some_iff.mp g3
    have hlt := hw.lt r h
    rw [e] at hlt
    have g4' : okBd r xb := by
      cases xb with
      | none => trivial
      | some q => have : r + 1 ≤ q := g4; show r ≤ q; omega
    have k1 := (spn_end endR hw hs2 (k := r) (by omega) a a none (Nat.le_refl _) ha trivial).2 x xb g1 hlt.1 g4'
    have k2 := (spn_end endR hw hs2 (k := r + 1) h a a none (Nat.le_refl _) ha trivial).2 x xb g1 (by have := hlt.1; show x < n + (r + 1); omega) g4
    have k3 := (spn_end endL hw hs1 (k := r) (by omega) b b none (Nat.le_refl _) hb trivial).2 y yb g2 hlt.2 g5
    refine ⟨h, ?_, ?_, ?_⟩
    · rw [pe h, eu (r + 1) h, eu r (by omega), k1, k2]
    · rw [eu r (by omega), k1, e]
    · rw [ev r (by omega), k3, e]
/-! ### the least of the ranks -/
def minS (b : Option Nat) (r : Nat) : Option Nat := match b with
  | none => some r
  | some q => if r < q then some r else some q
def minL (L : List Nat) : Option Nat := L.foldl minS none
theorem minL_snoc (L : List Nat) (r : Nat) : minL (L ++ [r]) = minS (minL L) r := by simp [minL]
theorem minL_ok (L : List Nat) : (∀ r, minL L = some r → r ∈ L ∧ ∀ q ∈ L, r ≤ q) ∧ (minL L = none → L = []) := by
  have key : ∀ (m : Nat) (L : List Nat), L.length = m → (∀ r, minL L = some r → r ∈ L ∧ ∀ q ∈ L, r ≤ q) ∧ (minL L = none → L = []) := by
    intro m
    induction m with
    | zero =>
      intro L hL
      have : L = [] := List.eq_nil_of_length_eq_zero hL
      subst this
      exact ⟨fun r h => by simp [minL] at h, fun _ => rfl⟩
    | succ m ih =>
      intro L hL
      obtain ⟨M, z, rfl⟩ : ∃ M z, L = M ++ [z] := by
        have hne : L ≠ [] := fun e => by rw [e] at hL; simp at hL
        exact ⟨L.dropLast, L.getLast hne, (List.dropLast_concat_getLast hne).symm⟩
      obtain ⟨i1, i2⟩ := ih M (by simpa using hL)
      rw [minL_snoc]
      cases q : minL M with
      | none =>
        have := i2 q
        subst this
        exact ⟨fun r h => by cases h; simp, fun h => by cases h⟩
      | some w =>
        obtain ⟨w1, w2⟩ := i1 w q
        refine ⟨fun r h => ?_, fun h => ?_⟩
        · unfold minS at h
          dsimp only at h
          split at h
          · cases h
            refine ⟨by simp, fun q hq => ?_⟩
            rcases List.mem_append.mp hq with hq | hq
            · have := w2 q hq; omega
            · have : q = z := by simpa using hq
              omega
          · cases h
            refine ⟨List.mem_append_left _ w1, fun q hq => ?_⟩
            rcases List.mem_append.mp hq with hq | hq
            · exact w2 q hq
            · have : q = z := by simpa using hq
              omega
        · unfold minS at h
          dsimp only at h
          split at h <;> cases h
  exact key L.length L rfl
/-- the rank that two entries of the spines tell -/
def ltB (r : Nat) : Option Nat → Bool
  | none => true
  | some w => decide (r < w)
def leB (r : Nat) : Option Nat → Bool
  | none => true
  | some w => decide (r ≤ w)
theorem ltB_ok {r : Nat} {b : Option Nat} : ltB r b = true ↔ okBd (r + 1) b := by
  cases b with
  | none => simp [ltB, okBd]
  | some w => simp [ltB, okBd]; omega
theorem leB_ok {r : Nat} {b : Option Nat} : leB r b = true ↔ okBd r b := by
  cases b with
  | none => simp [leB, okBd]
  | some w => simp [leB, okBd]
def candS (P : List Pr) (p q : Sp1) : Option Nat :=
  if (p.1, q.1) ∈ P ∧ ltB (P.idxOf (p.1, q.1)) p.2 = true ∧ leB (P.idxOf (p.1, q.1)) q.2 = true then some (P.idxOf (p.1, q.1)) else none
def crossL (P : List Pr) (L M : List Sp1) : List Nat := L.flatMap fun p => M.filterMap (candS P p)
def crossF (n : Nat) (P : List Pr) (a b : Nat) : Option Nat := minL (crossL P (rsp n P a) (lsp n P b))
theorem firstX_crossF {n : Nat} {P : List Pr} (hw : Wf n P) {u v : List Nat} {a b : Nat} (hul : ∀ x ∈ u, x < n) (hvl : ∀ x ∈ v, x < n) (hu : stg n P u = [a]) (hv : stg n P v = [b]) (ha : a < n + P.length) (hb : b < n + P.length) : FirstX n P u v (crossF n P a b) := by
  have hm : ∀ r, r ∈ crossL P (rsp n P a) (lsp n P b) ↔ crossAt n P u v r := by
    intro r
    rw [crossAt_spn hw hul hvl hu hv ha hb]
    unfold crossL
    constructor
    · intro h
      obtain ⟨p, hp, h⟩ := List.mem_flatMap.mp h
      obtain ⟨q, hq, h⟩ := List.mem_filterMap.mp h
      unfold candS at h
      split at h
      · rename_i hc
        have hr : P.idxOf (p.1, q.1) = r := Option.some.inj h
        rw [hr] at hc
        have hlt := List.idxOf_lt_length_of_mem hc.1
        refine ⟨p.1, p.2, q.1, q.2, hp, hq, ?_, ltB_ok.mp hc.2.1, leB_ok.mp hc.2.2⟩
        rw [← hr, List.getElem?_eq_getElem hlt, List.getElem_idxOf hlt]
      · cases h
    · rintro ⟨x, xb, y, yb, h1, h2, h3, h4, h5⟩
      obtain ⟨hr, e⟩ := List.getElem?_eq_some_iff.mp h3
      have hi : P.idxOf (x, y) = r := by
        rw [← e]; exact hw.nd.idxOf_getElem r hr
      refine List.mem_flatMap.mpr ⟨(x, xb), h1, List.mem_filterMap.mpr ⟨(y, yb), h2, ?_⟩⟩
      unfold candS
      rw [hi, if_pos ⟨by rw [← e]; exact List.getElem_mem hr, ltB_ok.mpr h4, leB_ok.mpr h5⟩]
  obtain ⟨h1, h2⟩ := minL_ok (crossL P (rsp n P a) (lsp n P b))
  unfold crossF
  cases q : minL (crossL P (rsp n P a) (lsp n P b)) with
  | none =>
    have := h2 q
    intro r hr
    have := (hm r).mpr hr
    rw [h2 q] at this
    simp at this
  | some r =>
    obtain ⟨g1, g2⟩ := h1 r q
    exact ⟨(hm r).mp g1, fun w hw' hc => by have := g2 w ((hm w).mpr hc); omega⟩
end DL
set_option Elab.async false
set_option linter.all false
set_option maxRecDepth 100000
set_option maxHeartbeats 4000000
namespace DL
open PySem PySem.Spec PyProof.Rows
open L2 hiding Takes passAt takes_of ps_raise PMk ps_try_as
open L2N (Takes passAt takes_of ps_raise PMk ps_try_as)
/-! ### many pieces side by side -/
theorem pend_app {a b : Nat} : ∀ (u w : List Nat), w ≠ [] → ¬ (pend a b u = true ∧ u.getLast? = some a ∧ w.head? = some b) → pend a b (u ++ w) = pend a b w
  | [], _, _, _ => rfl
  | [x], w, hw, h => by
    cases w with
    | nil => exact absurd rfl hw
    | cons y w =>
      show (if x = a ∧ y = b then pend a b w else pend a b (y :: w)) = _
      rw [if_neg fun z => h ⟨rfl, by rw [z.1]; rfl, by rw [z.2]; rfl⟩]
  | x :: y :: r, w, hw, h => by
    have e2 : pend a b (x :: y :: r) = if x = a ∧ y = b then pend a b r else pend a b (y :: r) := rfl
    show (if x = a ∧ y = b then pend a b (r ++ w) else pend a b (y :: r ++ w)) = _
    rw [e2] at h
    by_cases hh : x = a ∧ y = b
    · rw [if_pos hh] at h ⊢
      by_cases hr : r = []
      · subst hr; rfl
      · exact pend_app r w hw fun z => h ⟨z.1, by rw [glast_cons (by simp), glast_cons hr]; exact z.2.1, z.2.2⟩
    · rw [if_neg hh] at h ⊢
      exact pend_app (y :: r) w hw fun z => h ⟨z.1, by rw [glast_cons (x := x) (r := y :: r) (by simp)]; exact z.2.1, z.2.2⟩
/-- what stands further left does not matter -/
theorem crossAt_left {n : Nat} {P : List Pr} {U u v : List Nat} (hu : u ≠ []) (h : ∀ r, ¬ crossAt n P U u r) (r : Nat) : crossAt n P (U ++ u) v r ↔ crossAt n P u v r := by
  have key : ∀ hr : r < P.length, stN n P r (U ++ u) = stN n P r U ++ stN n P r u := fun hr => stN_app r (by omega) fun q _ => h q
  have hne : ∀ hr : r < P.length, stN n P r u ≠ [] := fun hr => stN_ne hu r (by omega)
  have hp : ∀ hr : r < P.length, pend P[r].1 P[r].2 (stN n P r U ++ stN n P r u) = pend P[r].1 P[r].2 (stN n P r u) := fun hr => pend_app _ _ (hne hr) fun z => h r ⟨hr, z⟩
  have hl : ∀ hr : r < P.length, (stN n P r U ++ stN n P r u).getLast? = (stN n P r u).getLast? := fun hr => by
    rw [List.getLast?_append]
    cases q : (stN n P r u).getLast? with
    | none => exact absurd (List.getLast?_eq_none_iff.mp q) (hne hr)
    | some x => rfl
  constructor
  · rintro ⟨hr, h1, h2, h3⟩
    rw [key hr, hp hr] at h1
    rw [key hr, hl hr] at h2
    exact ⟨hr, h1, h2, h3⟩
  · rintro ⟨hr, h1, h2, h3⟩
    exact ⟨hr, by rw [key hr, hp hr]; exact h1, by rw [key hr, hl hr]; exact h2, h3⟩
/-- f tells the letters of a piece -/
structure Ltr (n : Nat) (P : List Pr) (f : Nat → List Nat) : Prop where
  lt : ∀ x, x < n + P.length → ∀ c ∈ f x, c < n
  one : ∀ x, x < n + P.length → stg n P (f x) = [x]
theorem Ltr.ne {n : Nat} {P : List Pr} {f : Nat → List Nat} (h : Ltr n P f) {x : Nat} (hx : x < n + P.length) : f x ≠ [] := fun e => by
  have := h.one x hx
  rw [e] at this
  have hl := stg_len n [] P
  rw [this] at hl
  simp at hl
theorem Ltr.stN {n : Nat} {P : List Pr} {f : Nat → List Nat} (h : Ltr n P f) {x : Nat} (hx : x < n + P.length) : stN n P P.length (f x) = [x] := by
  unfold DL.stN; rw [List.take_length]; exact h.one x hx
def catF (f : Nat → List Nat) (row : List Nat) : List Nat := row.flatMap f
theorem catF_snoc (f : Nat → List Nat) (row : List Nat) (x : Nat) : catF f (row ++ [x]) = catF f row ++ f x := by simp [catF]
theorem cross_iff {n : Nat} {P : List Pr} {f : Nat → List Nat} (hw : Wf n P) (hf : Ltr n P f) {x y : Nat} (hx : x < n + P.length) (hy : y < n + P.length) : crossF n P x y = none ↔ ∀ r, ¬ crossAt n P (f x) (f y) r := by
  have hfx := firstX_crossF hw (hf.lt x hx) (hf.lt y hy) (hf.one x hx) (hf.one y hy) hx hy
  constructor
  · intro h
    rw [h] at hfx
    exact hfx
  · intro h
    exact hfx.uniq (y := none) h
/-- all neighbors are side by side -/
def sideR (n : Nat) (P : List Pr) (row : List Nat) : Prop := ∀ q ∈ adj row, crossF n P q.1 q.2 = none
theorem adj_snoc : ∀ (row : List Nat) (x y : Nat), adj (row ++ [x] ++ [y]) = adj (row ++ [x]) ++ [(x, y)]
  | [], x, y => rfl
  | [z], x, y => rfl
  | z :: w :: r, x, y => by
    have := adj_snoc (w :: r) x y
    show (z, w) :: adj (w :: r ++ [x] ++ [y]) = (z, w) :: adj (w :: r ++ [x]) ++ [(x, y)]
    rw [this]; rfl
theorem row_iff {n : Nat} {P : List Pr} {f : Nat → List Nat} {W : Nat → Nat} (hw : Wf n P) (hf : Ltr n P f) (hW : Wgt n P W) : ∀ (m : Nat) (row : List Nat), row.length = m → (∀ x ∈ row, x < n + P.length) → (stN n P P.length (catF f row) = row ↔ sideR n P row)
  | 0, row, hm, _ => by
    have : row = [] := List.eq_nil_of_length_eq_zero hm
    subst this
    refine ⟨fun _ q hq => by simp [adj] at hq, fun _ => ?_⟩
    show stN n P P.length [] = []
    have := stg_len n [] (P.take P.length)
    exact List.eq_nil_of_length_eq_zero (by unfold stN; simpa using this)
  | m + 1, row, hm, hx => by
    obtain ⟨R, y, rfl⟩ : ∃ R y, row = R ++ [y] := by
      have hne : row ≠ [] := fun e => by rw [e] at hm; simp at hm
      exact ⟨row.dropLast, row.getLast hne, (List.dropLast_concat_getLast hne).symm⟩
    have hy := hx y (by simp)
    have hR : ∀ x ∈ R, x < n + P.length := fun x h => hx x (List.mem_append_left _ h)
    have ih := row_iff hw hf hW m R (by simpa using hm) hR
    have ey := hf.stN hy
    rw [catF_snoc]
    by_cases hR0 : R = []
    · subst hR0
      refine ⟨fun _ q hq => by simp [adj] at hq, fun _ => ?_⟩
      show stN n P P.length (f y) = [y]
      exact ey
    obtain ⟨Q, x, rfl⟩ : ∃ Q x, R = Q ++ [x] := ⟨R.dropLast, R.getLast hR0, (List.dropLast_concat_getLast hR0).symm⟩
    have hxx := hR x (by simp)
    have hQ : ∀ z ∈ Q, z < n + P.length := fun z h => hR z (List.mem_append_left _ h)
    -- no crossing inside R: then the place before y is told by x alone
    have hin : sideR n P (Q ++ [x]) → ∀ r, ¬ crossAt n P (catF f Q) (f x) r := fun hs => by
      have hst := ih.mpr hs
      rw [catF_snoc] at hst
      intro r hc
      obtain ⟨q, hq1, hq2⟩ : ∃ q, crossAt n P (catF f Q) (f x) q ∧ ∀ z, z < q → ¬ crossAt n P (catF f Q) (f x) z := by
        induction r using Nat.strongRecOn with
        | ind r ihr =>
          by_cases h : ∃ z, z < r ∧ crossAt n P (catF f Q) (f x) z
          · obtain ⟨z, h1, h2⟩ := h
            exact ihr z h1 h2
          · exact ⟨r, hc, fun z hz hcz => h ⟨z, hz, hcz⟩⟩
      have hno := mark_no hw hW (Nat.le_refl P.length) hq1.1 hq2 hq1
      rw [hst] at hno
      refine hno ⟨Q, [x], rfl, ?_⟩
      have h1 := sumW_stN hW (row := catF f Q ++ f x) P.length (Nat.le_refl _)
      rw [hst, sumW_app, sumW_app] at h1
      have h2 := sumW_stN hW (row := f x) P.length (Nat.le_refl _)
      rw [hf.stN hxx] at h2
      omega
    have hcx : (∀ r, ¬ crossAt n P (catF f Q) (f x) r) → ∀ r, crossAt n P (catF f (Q ++ [x])) (f y) r ↔ crossAt n P (f x) (f y) r := fun h r => by
      rw [catF_snoc]; exact crossAt_left (hf.ne hxx) h r
    have hside : sideR n P (Q ++ [x] ++ [y]) ↔ sideR n P (Q ++ [x]) ∧ crossF n P x y = none := by
      unfold sideR
      rw [adj_snoc]
      constructor
      · exact fun h => ⟨fun q hq => h q (List.mem_append_left _ hq), h (x, y) (by simp)⟩
      · rintro ⟨h1, h2⟩ q hq
        rcases List.mem_append.mp hq with hq | hq
        · exact h1 q hq
        · have : q = (x, y) := by simpa using hq
          subst this; exact h2
    rw [hside]
    constructor
    · intro hst
      have hno : ∀ r, ¬ crossAt n P (catF f (Q ++ [x])) (f y) r := by
        intro r hc
        obtain ⟨q, hq1, hq2⟩ : ∃ q, crossAt n P (catF f (Q ++ [x])) (f y) q ∧ ∀ z, z < q → ¬ crossAt n P (catF f (Q ++ [x])) (f y) z := by
          induction r using Nat.strongRecOn with
          | ind r ihr =>
            by_cases h : ∃ z, z < r ∧ crossAt n P (catF f (Q ++ [x])) (f y) z
            · obtain ⟨z, h1, h2⟩ := h
              exact ihr z h1 h2
            · exact ⟨r, hc, fun z hz hcz => h ⟨z, hz, hcz⟩⟩
        have hnm := mark_no hw hW (Nat.le_refl P.length) hq1.1 hq2 hq1
        rw [hst] at hnm
        refine hnm ⟨Q ++ [x], [y], rfl, ?_⟩
        have h1 := sumW_stN hW (row := catF f (Q ++ [x]) ++ f y) P.length (Nat.le_refl _)
        rw [hst, sumW_app W (Q ++ [x]) [y], sumW_app W (catF f (Q ++ [x])) (f y)] at h1
        have h2 := sumW_stN hW (row := f y) P.length (Nat.le_refl _)
        rw [ey] at h2
        omega
      have happ := stN_app P.length (Nat.le_refl _) (fun r _ => hno r)
      rw [happ, ey] at hst
      have hst := List.append_cancel_right hst
      have hs := ih.mp hst
      refine ⟨hs, (cross_iff hw hf hxx hy).mpr fun r hc => hno r ?_⟩
      exact (hcx (hin hs) r).mpr hc
    · rintro ⟨hs, hxy⟩
      have hno : ∀ r, ¬ crossAt n P (catF f (Q ++ [x])) (f y) r := fun r hc => (cross_iff hw hf hxx hy).mp hxy r ((hcx (hin hs) r).mp hc)
      rw [stN_app P.length (Nat.le_refl _) (fun r _ => hno r), ih.mpr hs, ey]
end DL
set_option Elab.async false
set_option linter.all false
set_option maxRecDepth 100000
set_option maxHeartbeats 4000000
namespace DL
open PySem PySem.Spec PyProof.Rows
open L2 hiding Takes passAt takes_of ps_raise PMk ps_try_as
open L2N (Takes passAt takes_of ps_raise PMk ps_try_as)
/-- proper by the law's own stages -/
def propS (l : List Nat) (ts : List (List Nat)) (P : List Pr) (p : Pr) : Prop :=
  p.1 < ts.length ∧ p.2 < ts.length ∧ (ts.getD p.1 [] ++ ts.getD p.2 []).length ≤ 40 ∧ stg l.length P (rowL l (ts.getD p.1 [] ++ ts.getD p.2 [])) = [p.1, p.2]
instance (l : List Nat) (ts : List (List Nat)) (P : List Pr) (p : Pr) : Decidable (propS l ts P p) := by unfold propS; exact inferInstance
/-- what the law draws: each pair proper by its own stages -/
def GoodS (l : List Nat) (P : List Pr) : Prop := ∀ r (h : r < P.length), propS l (txts l (P.take r)) (P.take r) P[r]
theorem GoodS.nil (l : List Nat) : GoodS l [] := fun r h => by simp at h
theorem GoodS.snoc {l : List Nat} {P : List Pr} {p : Pr} (h : GoodS l P) (hp : propS l (txts l P) P p) : GoodS l (P ++ [p]) := fun r hr => by
  by_cases e : r < P.length
  · have e1 : (P ++ [p]).take r = P.take r := List.take_append_of_le_length (Nat.le_of_lt e)
    have e2 : (P ++ [p])[r] = P[r] := List.getElem_append_left e
    rw [e1, e2]; exact h r e
  · have e3 : r = P.length := by simp at hr; omega
    subst e3
    have e1 : (P ++ [p]).take P.length = P := List.take_left
    have e2 : (P ++ [p])[P.length] = p := by simp
    rw [e1, e2]; exact hp
theorem GoodS.short {l : List Nat} {P : List Pr} (h : GoodS l P) : ∀ t ∈ txts l P, t.length ≤ 40 := by
  have key : ∀ r, r ≤ P.length → ∀ t ∈ txts l (P.take r), t.length ≤ 40 := by
    intro r
    induction r with
    | zero =>
      intro _ t ht
      simp [txts] at ht
      obtain ⟨c, _, rfl⟩ := ht
      simp
    | succ r ih =>
      intro hr t ht
      have hr' : r < P.length := hr
      rw [take_snoc hr', txts_snoc, addT] at ht
      rcases List.mem_append.mp ht with ht | ht
      · exact ih (Nat.le_of_lt hr') t ht
      · have ht : t = (txts l (P.take r)).getD P[r].1 [] ++ (txts l (P.take r)).getD P[r].2 [] := by simpa using ht
        rw [ht]
        exact (h r hr').2.2.1
  have := key P.length (Nat.le_refl _)
  rwa [List.take_length] at this
end DL
set_option Elab.async false
set_option linter.all false
set_option maxRecDepth 100000
set_option maxHeartbeats 4000000
namespace DL
open PySem PySem.Spec PyProof.Rows
open L2 hiding Takes passAt takes_of ps_raise PMk ps_try_as
open L2N (Takes passAt takes_of ps_raise PMk ps_try_as)
/-! ### what the law draws is what Joins takes -/
theorem rowL_lt {l t : List Nat} (h : ∀ c ∈ t, c ∈ l) : ∀ x ∈ rowL l t, x < l.length := fun x hx => by
  obtain ⟨c, hc, rfl⟩ := List.mem_map.mp hx
  exact List.idxOf_lt_length_of_mem (h c hc)
theorem getD_mem {l : List Nat} {P : List Pr} (i : Nat) : ∀ c ∈ (txts l P).getD i [], c ∈ l := fun c hc => by
  rw [List.getD_eq_getElem?_getD] at hc
  cases q : (txts l P)[i]? with
  | none => rw [q] at hc; simp at hc
  | some t => rw [q] at hc; exact txts_mem t (List.mem_of_getElem? q) c hc
theorem GoodS.take {l : List Nat} {P : List Pr} (h : GoodS l P) (r : Nat) : GoodS l (P.take r) := fun j hj => by
  rw [List.length_take] at hj
  have := h j (by omega)
  rw [List.getElem_take, List.take_take, Nat.min_eq_left (by omega)]
  exact this
theorem good_wf {l : List Nat} (P : List Pr) : GoodS l P → Wf l.length P := by
  have key : ∀ k, ∀ P : List Pr, P.length = k → GoodS l P → Wf l.length P := by
    intro k
    induction k with
    | zero =>
      intro P hk _
      rw [List.eq_nil_of_length_eq_zero hk]
      exact ⟨List.nodup_nil, fun r h => by simp at h⟩
    | succ k ih =>
      intro P hk hg
      have hkl : k < P.length := by omega
      have w := ih (P.take k) (by rw [List.length_take]; omega) (hg.take k)
      have hp := hg k hkl
      have hml := txts_len l (P.take k)
      have e : P = P.take k ++ [P[k]] := by rw [← take_snoc hkl, List.take_of_length_le (by omega)]
      have hmem : ∀ c ∈ (txts l (P.take k)).getD P[k].1 [] ++ (txts l (P.take k)).getD P[k].2 [], c ∈ l := fun c hc => by
        rcases List.mem_append.mp hc with hc | hc
        · exact getD_mem _ c hc
        · exact getD_mem _ c hc
      have hst := (stage_inv w (rowL_lt hmem) (P.take k).length (Nat.le_refl _)).1
      rw [List.take_length, hp.2.2.2] at hst
      have hnew : P[k] ∉ P.take k := hst P[k] (by simp [adj])
      refine ⟨?_, fun r hr => ?_⟩
      · rw [e, List.nodup_append]
        refine ⟨w.nd, by simp, fun a ha b hb z => hnew ?_⟩
        have hb : b = P[k] := by simpa using hb
        rw [← hb, ← z]; exact ha
      · have := hg r hr
        have h1 := this.1
        have h2 := this.2.1
        rw [txts_len, List.length_take] at h1 h2
        omega
  exact fun hg => key P.length P rfl hg
/-- each piece's text is cut into the piece alone -/
theorem whole {l : List Nat} (hnd : l.Nodup) (P : List Pr) (hg : GoodS l P) : ∀ i t, (txts l P)[i]? = some t → stg l.length P (rowL l t) = [i] := by
  have key : ∀ r, r ≤ P.length → ∀ i t, (txts l (P.take r))[i]? = some t → stg l.length (P.take r) (rowL l t) = [i] := by
    intro r
    induction r with
    | zero =>
      intro _ i t ht
      have ht : (l.map fun c => [c])[i]? = some t := by simpa [txts] using ht
      rw [List.getElem?_map] at ht
      obtain ⟨c, hc, rfl⟩ := Option.map_eq_some_iff.mp ht
      obtain ⟨hi, rfl⟩ := List.getElem?_eq_some_iff.mp hc
      have hm := List.getElem_mem hi
      have h1 := List.idxOf_lt_length_of_mem hm
      have h2 : l[l.idxOf l[i]] = l[i] := List.getElem_idxOf h1
      have h3 : l.idxOf l[i] = i := by
        rcases Nat.lt_trichotomy (l.idxOf l[i]) i with q | q | q
        · exact absurd h2 ((List.pairwise_iff_getElem.mp (List.nodup_iff_pairwise_ne.mp hnd)) _ _ h1 hi q)
        · exact q
        · exact absurd h2.symm ((List.pairwise_iff_getElem.mp (List.nodup_iff_pairwise_ne.mp hnd)) _ _ hi h1 q)
      simp [stg, rowL, h3]
    | succ r ih =>
      intro hr i t ht
      have hr' : r < P.length := hr
      have hml := txts_len l (P.take r)
      have el : (P.take r).length = r := by rw [List.length_take]; omega
      rw [take_snoc hr', txts_snoc, addT] at ht
      rw [take_snoc hr', stg_snoc, el]
      by_cases hi : i < (txts l (P.take r)).length
      · rw [List.getElem?_append_left hi] at ht
        rw [ih (Nat.le_of_lt hr') i t ht]
        rfl
      · rw [List.getElem?_append_right (by omega)] at ht
        have hi0 : i - (txts l (P.take r)).length = 0 := by
          rcases Nat.eq_zero_or_pos (i - (txts l (P.take r)).length) with q | q
          · exact q
          · rw [List.getElem?_eq_none (by simp; omega)] at ht; cases ht
        rw [hi0] at ht
        have ht : (txts l (P.take r)).getD P[r].1 [] ++ (txts l (P.take r)).getD P[r].2 [] = t := by simpa using ht
        rw [← ht, (hg r hr').2.2.2]
        show (if P[r].1 = P[r].1 ∧ P[r].2 = P[r].2 then (l.length + r) :: putT P[r].1 P[r].2 (l.length + r) [] else _) = _
        rw [if_pos ⟨rfl, rfl⟩]
        show [l.length + r] = [i]
        congr 1
        omega
  have := key P.length (Nat.le_refl _)
  rwa [List.take_length] at this
theorem good_proper {l : List Nat} (hnd : l.Nodup) {P : List Pr} (hg : GoodS l P) : ProperL l P := fun r hr => by
  have hp := hg r hr
  have w := good_wf (P.take r) (hg.take r)
  have hmem : ∀ c ∈ (txts l (P.take r)).getD P[r].1 [] ++ (txts l (P.take r)).getD P[r].2 [], c ∈ l := fun c hc => by
    rcases List.mem_append.mp hc with hc | hc
    · exact getD_mem _ c hc
    · exact getD_mem _ c hc
  have hst := (stage_inv w (rowL_lt hmem) (P.take r).length (Nat.le_refl _)).1
  rw [List.take_length, hp.2.2.2] at hst
  refine ⟨⟨by rw [← txts_len]; exact hp.1, by rw [← txts_len]; exact hp.2.1, hp.2.2.1, by rw [cut_stg w (rowL_lt hmem)]; exact hp.2.2.2⟩, hst P[r] (by simp [adj]), fun hm => ?_⟩
  obtain ⟨i, hi⟩ := List.mem_iff_getElem?.mp hm
  have h1 := whole hnd (P.take r) (hg.take r) i _ hi
  rw [hp.2.2.2] at h1
  simp at h1
end DL
set_option Elab.async false
set_option linter.all false
set_option maxRecDepth 100000
set_option maxHeartbeats 4000000
namespace DL
open PySem PySem.Spec PyProof.Rows
open L2 hiding Takes passAt takes_of ps_raise PMk ps_try_as
open L2N (Takes passAt takes_of ps_raise PMk ps_try_as)
/-! ### the text of a cut is the text -/
def tx (ts : List (List Nat)) (row : List Nat) : List Nat := (row.map fun i => ts.getD i []).flatten
theorem tx_put {ts : List (List Nat)} {a b c : Nat} (h : ts.getD c [] = ts.getD a [] ++ ts.getD b []) : ∀ row : List Nat, tx ts (putT a b c row) = tx ts row
  | [] => rfl
  | [_] => rfl
  | x :: y :: r => by
    unfold putT
    split
    · rename_i hc
      have ih := tx_put h r
      unfold tx at ih ⊢
      rw [List.map_cons, List.flatten_cons, ih, h, hc.1, hc.2]
      simp
    · have ih := tx_put h (y :: r)
      unfold tx at ih ⊢
      rw [List.map_cons, List.flatten_cons, ih]
      simp
theorem txts_at {l : List Nat} {P : List Pr} {r : Nat} (hr : r < P.length) (hw : Wf l.length P) : (txts l P).getD (l.length + r) [] = (txts l P).getD P[r].1 [] ++ (txts l P).getD P[r].2 [] := by
  have key : ∀ k, r < k → (hk : k ≤ P.length) → (txts l (P.take k)).getD (l.length + r) [] = (txts l (P.take k)).getD P[r].1 [] ++ (txts l (P.take k)).getD P[r].2 [] := by
    intro k
    induction k with
    | zero => omega
    | succ k ih =>
      intro hrk hk
      have hk' : k < P.length := hk
      have el : (txts l (P.take k)).length = l.length + k := by rw [txts_len, List.length_take]; omega
      have hlt := hw.lt r hr
      rw [take_snoc hk', txts_snoc]
      have g : ∀ i, i < l.length + k → (addT (txts l (P.take k)) P[k]).getD i [] = (txts l (P.take k)).getD i [] := fun i hi => by
        unfold addT
        rw [List.getD_eq_getElem?_getD, List.getElem?_append_left (by omega), List.getD_eq_getElem?_getD]
      by_cases e : r = k
      · subst e
        rw [g _ hlt.1, g _ hlt.2]
        unfold addT
        rw [List.getD_eq_getElem?_getD, List.getElem?_append_right (by omega), el]
        simp
      · rw [g _ (by omega), g _ (by omega), g _ (by omega)]
        exact ih (by omega) (by omega)
  have := key P.length hr (Nat.le_refl _)
  rwa [List.take_length] at this
theorem tx_letters {l t : List Nat} {P : List Pr} (h : ∀ c ∈ t, c ∈ l) : tx (txts l P) (rowL l t) = t := by
  obtain ⟨u, hu, _⟩ := txts_pre l P
  unfold tx rowL
  rw [List.map_map]
  induction t with
  | nil => rfl
  | cons c t ih =>
    have hc := h c List.mem_cons_self
    have h1 := List.idxOf_lt_length_of_mem hc
    have e : (txts l P).getD (l.idxOf c) [] = [c] := by
      rw [hu, List.getD_eq_getElem?_getD, List.getElem?_append_left (by simpa using h1), List.getElem?_map, List.getElem?_eq_getElem h1, List.getElem_idxOf h1]
      rfl
    rw [List.map_cons, List.flatten_cons, ih (fun c hc => h c (List.mem_cons_of_mem _ hc))]
    show (txts l P).getD (l.idxOf c) [] ++ t = _
    rw [e]; rfl
theorem tx_stg {l : List Nat} {P : List Pr} (hw : Wf l.length P) (row : List Nat) : tx (txts l P) (stg l.length P row) = tx (txts l P) row := by
  have key : ∀ k, k ≤ P.length → tx (txts l P) (stg l.length (P.take k) row) = tx (txts l P) row := by
    intro k
    induction k with
    | zero => intro _; rfl
    | succ k ih =>
      intro hk
      have hk' : k < P.length := hk
      have el : (P.take k).length = k := by rw [List.length_take]; omega
      rw [take_snoc hk', stg_snoc, el, tx_put (txts_at hk' hw), ih (by omega)]
  have := key P.length (Nat.le_refl _)
  rwa [List.take_length] at this
end DL
set_option Elab.async false
set_option linter.all false
set_option maxRecDepth 100000
set_option maxHeartbeats 4000000
namespace DL
open PySem PySem.Spec PyProof.Rows
open L2 hiding Takes passAt takes_of ps_raise PMk ps_try_as
open L2N (Takes passAt takes_of ps_raise PMk ps_try_as)
theorem txts_pos {l : List Nat} {P : List Pr} (hw : Wf l.length P) : ∀ t ∈ txts l P, 1 ≤ t.length := by
  have key : ∀ k, k ≤ P.length → ∀ t ∈ txts l (P.take k), 1 ≤ t.length := by
    intro k
    induction k with
    | zero =>
      intro _ t ht
      simp [txts] at ht
      obtain ⟨c, _, rfl⟩ := ht
      simp
    | succ k ih =>
      intro hk t ht
      have hk' : k < P.length := hk
      have el : (txts l (P.take k)).length = l.length + k := by rw [txts_len, List.length_take]; omega
      have hlt := hw.lt k hk'
      rw [take_snoc hk', txts_snoc, addT] at ht
      rcases List.mem_append.mp ht with ht | ht
      · exact ih (by omega) t ht
      · have ht : t = (txts l (P.take k)).getD P[k].1 [] ++ (txts l (P.take k)).getD P[k].2 [] := by simpa using ht
        have := ih (by omega) ((txts l (P.take k)).getD P[k].1 []) (by rw [List.getD_eq_getElem?_getD, List.getElem?_eq_getElem (by omega)]; exact List.getElem_mem _)
        rw [ht, List.length_append]; omega
  have := key P.length (Nat.le_refl _)
  rwa [List.take_length] at this
def wOf (ts : List (List Nat)) (x : Nat) : Nat := (ts.getD x []).length
theorem rowL_app (l s t : List Nat) : rowL l (s ++ t) = rowL l s ++ rowL l t := by simp [rowL]
theorem wgt_txts {l : List Nat} {P : List Pr} (hw : Wf l.length P) : Wgt l.length P (wOf (txts l P)) := by
  refine ⟨fun r hr => ?_, fun x hx => ?_⟩
  · unfold wOf
    rw [txts_at hr hw, List.length_append]
  · unfold wOf
    have hx : x < (txts l P).length := by rw [txts_len]; exact hx
    refine txts_pos hw _ ?_
    rw [List.getD_eq_getElem?_getD, List.getElem?_eq_getElem hx]
    exact List.getElem_mem hx
/-- the letters of the pieces -/
def ltrF (l : List Nat) (P : List Pr) (x : Nat) : List Nat := rowL l ((txts l P).getD x [])
theorem ltr_ok {l : List Nat} {P : List Pr} (hnd : l.Nodup) (hg : GoodS l P) : Ltr l.length P (ltrF l P) := by
  have htl := txts_len l P
  have key : ∀ x, x < l.length + P.length → (txts l P)[x]? = some ((txts l P).getD x []) := fun x hx => by rw [List.getD_eq_getElem?_getD, List.getElem?_eq_getElem (by omega)]; rfl
  exact ⟨fun x hx => rowL_lt (txts_mem _ (List.mem_of_getElem? (key x hx))), fun x hx => whole hnd P hg x _ (key x hx)⟩
theorem cat_tx (l : List Nat) (P : List Pr) : ∀ row : List Nat, catF (ltrF l P) row = rowL l (tx (txts l P) row)
  | [] => rfl
  | x :: r => by
    have ih := cat_tx l P r
    unfold catF at ih ⊢
    rw [List.flatMap_cons, ih]
    unfold ltrF tx
    rw [← rowL_app, List.map_cons, List.flatten_cons]
/-- a row is the cut of its text just if its pieces are side by side -/
theorem cut_iff {l : List Nat} {P : List Pr} (hnd : l.Nodup) (hg : GoodS l P) {row : List Nat} (hx : ∀ x ∈ row, x < l.length + P.length) : stg l.length P (rowL l (tx (txts l P) row)) = row ↔ sideR l.length P row := by
  have hw := good_wf P hg
  have := row_iff hw (ltr_ok hnd hg) (wgt_txts hw) row.length row rfl hx
  rw [cat_tx] at this
  unfold stN at this
  rw [List.take_length] at this
  exact this
end DL
set_option Elab.async false
set_option linter.all false
set_option maxRecDepth 100000
set_option maxHeartbeats 4000000
namespace DL
open PySem PySem.Spec PyProof.Rows
open L2 hiding Takes passAt takes_of ps_raise PMk ps_try_as
open L2N (Takes passAt takes_of ps_raise PMk ps_try_as)
theorem stg_lt {n : Nat} {P : List Pr} (w : Wf n P) {row : List Nat} (h : ∀ x ∈ row, x < n) : ∀ x ∈ stg n P row, x < n + P.length := by
  have := (stage_inv w h P.length (Nat.le_refl _)).2.1
  rwa [List.take_length] at this
/-! ### the joins of each two letters that follow one another, the last ones first -/
def dbl (n : Nat) : List Pr := (List.range (n - 1)).map fun z => (n - 2 - z, n - 1 - z)
theorem dbl_len (n : Nat) : (dbl n).length = n - 1 := by simp [dbl]
theorem dbl_get {n r : Nat} (h : r < (dbl n).length) : (dbl n)[r] = (n - 2 - r, n - 1 - r) := by simp [dbl]
theorem dbl_take {n r : Nat} (h : r ≤ (dbl n).length) : (dbl n).take r = (List.range r).map fun z => (n - 2 - z, n - 1 - z) := by
  have hn := dbl_len n
  unfold dbl
  rw [← List.map_take, List.take_range]
  congr 2
  omega
theorem stg_idl {n : Nat} {row : List Nat} (Q : List Pr) : (∀ p ∈ Q, p ∉ adj row) → stg n Q row = row := by
  refine rev_ind (M := fun Q => (∀ p ∈ Q, p ∉ adj row) → stg n Q row = row) (fun _ => rfl) (fun Q p ih h => ?_) Q
  rw [stg_snoc, ih fun q hq => h q (by simp [hq])]
  exact putT_none (h p (by simp))
theorem nodup_idxN {l : List Nat} (nd : l.Nodup) {i : Nat} (hi : i < l.length) : l.idxOf l[i] = i := by
  have hm := List.getElem_mem hi
  have h1 := List.idxOf_lt_length_of_mem hm
  have h2 : l[l.idxOf l[i]] = l[i] := List.getElem_idxOf h1
  rcases Nat.lt_trichotomy (l.idxOf l[i]) i with q | q | q
  · exact absurd h2 ((List.pairwise_iff_getElem.mp (List.nodup_iff_pairwise_ne.mp nd)) _ _ h1 hi q)
  · exact q
  · exact absurd h2.symm ((List.pairwise_iff_getElem.mp (List.nodup_iff_pairwise_ne.mp nd)) _ _ hi h1 q)
theorem letter_at {l : List Nat} {P : List Pr} {i : Nat} (hi : i < l.length) : (txts l P).getD i [] = [l[i]] := by
  obtain ⟨u, e, _⟩ := txts_pre l P
  rw [e, List.getD_eq_getElem?_getD, List.getElem?_append_left (by simpa using hi), List.getElem?_map, List.getElem?_eq_getElem hi]
  rfl
theorem two_sl {l : List Nat} {k : Nat} (h : k + 1 < l.length) : (l.take (k + 2)).drop k = [l[k], l[k + 1]] := by
  refine List.ext_getElem (by simp; omega) fun i h1 h2 => ?_
  rw [List.getElem_drop, List.getElem_take]
  simp at h2
  rcases i with _ | _ | i
  · rfl
  · rfl
  · omega
theorem dbl_txts {l : List Nat} : ∀ r, r ≤ (dbl l.length).length → txts l ((dbl l.length).take r) = (l.map fun c => [c]) ++ (List.range r).map fun z => (l.take (l.length - 2 - z + 2)).drop (l.length - 2 - z) := by
  have hn := dbl_len l.length
  intro r
  induction r with
  | zero => intro _; simp [txts]
  | succ r ih =>
    intro hr
    have hr' : r < (dbl l.length).length := hr
    rw [take_snoc hr', txts_snoc, addT, ih (Nat.le_of_lt hr'), List.range_succ, List.map_append, ← List.append_assoc]
    congr 1
    rw [← ih (Nat.le_of_lt hr'), dbl_get hr', letter_at (by omega), letter_at (by omega)]
    show [[l[l.length - 2 - r], l[l.length - 1 - r]]] = [(l.take (l.length - 2 - r + 2)).drop (l.length - 2 - r)]
    rw [two_sl (by omega)]
    have e : l.length - 2 - r + 1 = l.length - 1 - r := by omega
    simp only [e]
theorem dbl_good {l : List Nat} (nd : l.Nodup) : GoodS l (dbl l.length) := fun r hr => by
  have hn := dbl_len l.length
  have hm := txts_len l ((dbl l.length).take r)
  rw [List.length_take] at hm
  rw [dbl_get hr]
  refine ⟨by dsimp only; omega, by dsimp only; omega, ?_, ?_⟩
  · dsimp only
    rw [letter_at (by omega), letter_at (by omega)]; simp
  · dsimp only
    rw [letter_at (by omega), letter_at (by omega)]
    have e : rowL l ([l[l.length - 2 - r]] ++ [l[l.length - 1 - r]]) = [l.length - 2 - r, l.length - 1 - r] := by
      show [l.idxOf _, l.idxOf _] = _
      rw [nodup_idxN nd, nodup_idxN nd]
    rw [e]
    refine stg_idl _ fun p hp => ?_
    rw [dbl_take (Nat.le_of_lt hr)] at hp
    obtain ⟨z, hz, rfl⟩ := List.mem_map.mp hp
    have hz := List.mem_range.mp hz
    intro h
    have h : (l.length - 2 - z, l.length - 1 - z) ∈ [(l.length - 2 - r, l.length - 1 - r)] := h
    have h := List.mem_singleton.mp h
    have := congrArg Prod.fst h
    dsimp only at this
    omega
end DL
set_option Elab.async false
set_option linter.all false
set_option maxRecDepth 100000
set_option maxHeartbeats 4000000
namespace DL
open PySem PySem.Spec PyProof.Rows
open L2 hiding Takes passAt takes_of ps_raise PMk ps_try_as
open L2N (Takes passAt takes_of ps_raise PMk ps_try_as)
theorem nil_snoc {α : Type} (l : List α) : l = [] ∨ ∃ (l' : List α) (x : α), l = l' ++ [x] := by
  rcases List.eq_nil_or_concat l with h | ⟨l', x, h⟩
  · exact .inl h
  · exact .inr ⟨l', x, by rw [h, List.concat_eq_append]⟩
/-! ### rows whose neighbors are side by side -/
theorem adj_two (x y : Nat) : adj [x, y] = [(x, y)] := rfl
theorem side_two {n : Nat} {P : List Pr} {x y : Nat} : sideR n P [x, y] ↔ crossF n P x y = none := by
  unfold sideR
  rw [adj_two]
  exact ⟨fun h => h (x, y) (List.mem_singleton_self _), fun h q hq => by rw [List.mem_singleton.mp hq]; exact h⟩
theorem adj_app : ∀ (u : List Nat) (x y : Nat) (v : List Nat), adj (u ++ [x] ++ y :: v) = adj (u ++ [x]) ++ (x, y) :: adj (y :: v)
  | [], x, y, v => rfl
  | [z], x, y, v => rfl
  | z :: w :: r, x, y, v => by
    have := adj_app (w :: r) x y v
    show (z, w) :: adj (w :: r ++ [x] ++ y :: v) = (z, w) :: adj (w :: r ++ [x]) ++ (x, y) :: adj (y :: v)
    rw [this]; rfl
theorem side_app {n : Nat} {P : List Pr} {u v : List Nat} {x y : Nat} : sideR n P (u ++ [x] ++ y :: v) ↔ sideR n P (u ++ [x]) ∧ crossF n P x y = none ∧ sideR n P (y :: v) := by
  unfold sideR
  rw [adj_app]
  constructor
  · intro h
    exact ⟨fun q hq => h q (List.mem_append_left _ hq), h (x, y) (List.mem_append_right _ List.mem_cons_self), fun q hq => h q (List.mem_append_right _ (List.mem_cons_of_mem _ hq))⟩
  · rintro ⟨h1, h2, h3⟩ q hq
    rcases List.mem_append.mp hq with hq | hq
    · exact h1 q hq
    · rcases List.mem_cons.mp hq with rfl | hq
      · exact h2
      · exact h3 q hq
theorem side_nil (n : Nat) (P : List Pr) : sideR n P [] := fun q hq => by simp [adj] at hq
theorem side_one (n : Nat) (P : List Pr) (x : Nat) : sideR n P [x] := fun q hq => by simp [adj] at hq
theorem adj_takeG {q : Pr} : ∀ (j : Nat) {l : List Nat}, q ∈ adj (l.take j) → q ∈ adj l
  | 0, l, h => by simp [adj] at h
  | 1, [], h => by simp [adj] at h
  | 1, x :: l, h => by simp [adj] at h
  | j + 2, [], h => by simp [adj] at h
  | j + 2, [x], h => by simp [adj] at h
  | j + 2, x :: y :: l, h => by
    have h : q ∈ (x, y) :: adj (y :: l.take j) := h
    show q ∈ (x, y) :: adj (y :: l)
    rcases List.mem_cons.mp h with h | h
    · rw [h]; exact List.mem_cons_self
    · exact List.mem_cons_of_mem _ (adj_takeG (j + 1) (l := y :: l) h)
theorem side_take {n : Nat} {P : List Pr} {row : List Nat} (h : sideR n P row) (k : Nat) : sideR n P (row.take k) := fun q hq => h q (adj_takeG k hq)
theorem tx_app (ts : List (List Nat)) (u v : List Nat) : tx ts (u ++ v) = tx ts u ++ tx ts v := by simp [tx]
theorem tx_one (ts : List (List Nat)) (x : Nat) : tx ts [x] = ts.getD x [] := by simp [tx]
theorem tx_two (ts : List (List Nat)) (x y : Nat) : tx ts [x, y] = ts.getD x [] ++ ts.getD y [] := by simp [tx]
/-- the cut of a text: pieces that are side by side -/
theorem cut_side {l t : List Nat} {P : List Pr} (hnd : l.Nodup) (hg : GoodS l P) (ht : ∀ c ∈ t, c ∈ l) : (∀ x ∈ stg l.length P (rowL l t), x < l.length + P.length) ∧ sideR l.length P (stg l.length P (rowL l t)) ∧ tx (txts l P) (stg l.length P (rowL l t)) = t := by
  have hw := good_wf P hg
  have hrow := stg_lt hw (rowL_lt ht)
  have e : tx (txts l P) (stg l.length P (rowL l t)) = t := by rw [tx_stg hw, tx_letters ht]
  exact ⟨hrow, (cut_iff hnd hg hrow).mp (by rw [e]), e⟩
end DL
set_option Elab.async false
set_option linter.all false
set_option maxRecDepth 100000
set_option maxHeartbeats 4000000
namespace DL
open PySem PySem.Spec PyProof.Rows
open L2 hiding Takes passAt takes_of ps_raise PMk ps_try_as
open L2N (Takes passAt takes_of ps_raise PMk ps_try_as)
/-! ### the longest text -/
def LgO (l : List Nat) (P : List Pr) (lg : Nat) : Prop := (∀ t ∈ txts l P, t.length ≤ lg) ∧ lg ≤ 1000
theorem LgO.snoc {l : List Nat} {P : List Pr} {p : Pr} {t : List Nat} {lg : Nat} (hs : txts l (P ++ [p]) = txts l P ++ [t]) (h : LgO l P lg) (ht : t.length ≤ 1000) : LgO l (P ++ [p]) (if t.length > lg then t.length else lg) := by
  obtain ⟨h1, h2⟩ := h
  unfold LgO
  rw [hs]
  by_cases z : t.length > lg
  · rw [if_pos z]
    refine ⟨fun u hu => ?_, ht⟩
    rcases List.mem_append.mp hu with hu | hu
    · have := h1 u hu; omega
    · rw [List.mem_singleton.mp hu]; exact Nat.le_refl _
  · rw [if_neg z]
    refine ⟨fun u hu => ?_, h2⟩
    rcases List.mem_append.mp hu with hu | hu
    · exact h1 u hu
    · rw [List.mem_singleton.mp hu]; omega
theorem LgO.start (l : List Nat) : LgO l [] 1 := ⟨fun t ht => by
  simp [txts] at ht
  obtain ⟨c, _, rfl⟩ := ht
  exact Nat.le_refl _, by decide⟩
/-! ### the cut, its last piece -/
def cutr (l : List Nat) (P : List Pr) (t : List Nat) : List Nat := stg l.length P (rowL l t)
def tailF (l : List Nat) (P : List Pr) (t : List Nat) : Nat := (cutr l P t).getLast?.getD 0
section
variable {l : List Nat} {P : List Pr}
theorem cutr_ok (hnd : l.Nodup) (hg : GoodS l P) {t : List Nat} (ht : ∀ c ∈ t, c ∈ l) : (∀ x ∈ cutr l P t, x < l.length + P.length) ∧ sideR l.length P (cutr l P t) ∧ tx (txts l P) (cutr l P t) = t := cut_side hnd hg ht
theorem cutr_of (hnd : l.Nodup) (hg : GoodS l P) {row : List Nat} (hx : ∀ x ∈ row, x < l.length + P.length) (hs : sideR l.length P row) : cutr l P (tx (txts l P) row) = row := (cut_iff hnd hg hx).mpr hs
theorem cutr_nil (hnd : l.Nodup) (hg : GoodS l P) : cutr l P [] = [] := cutr_of hnd hg (row := []) (fun x h => by simp at h) (side_nil _ _)
theorem cutr_len (t : List Nat) : (cutr l P t).length ≤ t.length := Nat.le_trans (stg_len _ _ _) (by unfold rowL; rw [List.length_map]; exact Nat.le_refl _)
theorem getD_len (hw : Wf l.length P) {x : Nat} (hx : x < l.length + P.length) : 1 ≤ ((txts l P).getD x []).length := (wgt_txts hw).pos x hx
/-- the cut without its last piece -/
theorem cutr_snoc (hnd : l.Nodup) (hg : GoodS l P) {t : List Nat} (ht : ∀ c ∈ t, c ∈ l) (hne : t ≠ []) : ∃ u R, t = u ++ (txts l P).getD (tailF l P t) [] ∧ cutr l P t = R ++ [tailF l P t] ∧ cutr l P u = R ∧ tailF l P t < l.length + P.length ∧ (u = [] ∨ crossF l.length P (tailF l P u) (tailF l P t) = none) := by
  obtain ⟨h1, h2, h3⟩ := cutr_ok hnd hg ht
  have hr : cutr l P t ≠ [] := fun e => hne (by rw [← h3, e]; rfl)
  obtain ⟨R, q, e⟩ : ∃ R q, cutr l P t = R ++ [q] := ⟨_, _, (List.dropLast_concat_getLast hr).symm⟩
  have et : tailF l P t = q := by unfold tailF; rw [e, List.getLast?_concat]; rfl
  rw [e] at h1 h2 h3
  have hR : ∀ x ∈ R, x < l.length + P.length := fun x h => h1 x (List.mem_append_left _ h)
  have sR : sideR l.length P R := by
    have := side_take h2 R.length
    rwa [List.take_left'] at this
    rfl
  have cR := cutr_of hnd hg hR sR
  refine ⟨tx (txts l P) R, R, ?_, by rw [e, et], cR, by rw [et]; exact h1 q (by simp), ?_⟩
  · rw [et, ← tx_one, ← tx_app]; exact h3.symm
  · rcases nil_snoc R with rfl | ⟨R', x, rfl⟩
    · exact .inl rfl
    · refine .inr ?_
      have ex : tailF l P (tx (txts l P) (R' ++ [x])) = x := by unfold tailF; rw [cR, List.getLast?_concat]; rfl
      rw [ex, et]
      exact (side_app (v := []) (y := q)).mp h2 |>.2.1
/-! ### the tails of all beginnings -/
def tlsF (l : List Nat) (P : List Pr) (t : List Nat) : List Nat := (List.range t.length).map fun e => tailF l P (t.take (e + 1))
end
end DL
set_option Elab.async false
set_option linter.all false
set_option maxRecDepth 100000
set_option maxHeartbeats 4000000
namespace DL
open PySem PySem.Spec PyProof.Rows
open L2 hiding Takes passAt takes_of ps_raise PMk ps_try_as
open L2N (Takes passAt takes_of ps_raise PMk ps_try_as)
/-- two pieces asked before: side by side or not -/
def knN (n : Nat) (P K : List Pr) : Node := .dT (K.map kP) ((K.map fun p : Pr => D.bl (crossF n P p.1 p.2).isNone).map .val)
end DL
set_option Elab.async false
set_option linter.all false
set_option maxRecDepth 100000
set_option maxHeartbeats 4000000
namespace DL
open PySem PySem.Spec PyProof.Rows
open L2 hiding Takes passAt takes_of ps_raise PMk ps_try_as
open L2N (Takes passAt takes_of ps_raise PMk ps_try_as)
/-! ### borders of cuts -/
def Bd (l : List Nat) (P : List Pr) (t : List Nat) (b : Nat) : Prop := b ≤ t.length ∧ cutr l P (t.take b) <+: cutr l P t
section
variable {l : List Nat} {P : List Pr}
theorem mem_take {t : List Nat} (h : ∀ c ∈ t, c ∈ l) (n : Nat) : ∀ c ∈ t.take n, c ∈ l := fun c hc => h c (List.mem_of_mem_take hc)
theorem Bd_zero (hnd : l.Nodup) (hg : GoodS l P) (t : List Nat) : Bd l P t 0 := ⟨Nat.zero_le _, by rw [List.take_zero, cutr_nil hnd hg]; exact List.nil_prefix⟩
theorem Bd.pre (hnd : l.Nodup) (hg : GoodS l P) {t : List Nat} (ht : ∀ c ∈ t, c ∈ l) {b c : Nat} (hb : Bd l P t b) (hc : Bd l P t c) (h : b ≤ c) : cutr l P (t.take b) <+: cutr l P (t.take c) := by
  rcases List.prefix_or_prefix_of_prefix hb.2 hc.2 with z | z
  · exact z
  · obtain ⟨X, e⟩ := z
    have h1 := (cutr_ok hnd hg (mem_take ht b)).2.2
    have h2 := (cutr_ok hnd hg (mem_take ht c)).2.2
    rw [← e, tx_app, h2] at h1
    have h3 := congrArg List.length h1
    rw [List.length_append, List.length_take, List.length_take] at h3
    have := hb.1
    have := hc.1
    have : b = c := by omega
    rw [this]
    exact List.prefix_rfl
theorem Bd.take (hnd : l.Nodup) (hg : GoodS l P) {t : List Nat} (ht : ∀ c ∈ t, c ∈ l) {b c : Nat} (hb : Bd l P t b) (hc : Bd l P t c) (h : b ≤ c) : Bd l P (t.take c) b := by
  refine ⟨by rw [List.length_take]; exact Nat.le_min.mpr ⟨h, hb.1⟩, ?_⟩
  rw [List.take_take, Nat.min_eq_left h]
  exact hb.pre hnd hg ht hc h
theorem Bd.trans {t : List Nat} {b c : Nat} (hb : Bd l P (t.take c) b) (hc : Bd l P t c) : Bd l P t b := by
  have h1 := hb.1
  rw [List.length_take] at h1
  have h2 := hb.2
  rw [List.take_take, Nat.min_eq_left (by omega)] at h2
  exact ⟨by omega, h2.trans hc.2⟩
/-- the border ahead of the last piece -/
def aheadB (l : List Nat) (P : List Pr) (t : List Nat) : Nat := t.length - ((txts l P).getD (tailF l P t) []).length
/-! ### borders for good -/
def Sure (l : List Nat) (P : List Pr) (t : List Nat) (b : Nat) : Prop := b ≤ t.length ∧ ∀ m : List Nat, (∀ c ∈ m, c ∈ l) → Bd l P (t ++ m) b
theorem Sure.here {t : List Nat} {b : Nat} (h : Sure l P t b) : Bd l P t b := by
  have := h.2 [] (fun c hc => by simp at hc)
  rwa [List.append_nil] at this
theorem Sure.more {t u : List Nat} {b : Nat} (h : Sure l P t b) (hu : ∀ c ∈ u, c ∈ l) : Sure l P (t ++ u) b := ⟨by rw [List.length_append]; have := h.1; omega, fun m hm => by
  rw [List.append_assoc]
  exact h.2 (u ++ m) fun c hc => (List.mem_append.mp hc).elim (hu c) (hm c)⟩
theorem Sure.zero (hnd : l.Nodup) (hg : GoodS l P) (t : List Nat) : Sure l P t 0 := ⟨Nat.zero_le _, fun m _ => Bd_zero hnd hg _⟩
/-- a piece may begin at this border and go on beyond the text -/
def MayB (l : List Nat) (P : List Pr) (t : List Nat) (a : Nat) : Prop := ∃ q, q < l.length + P.length ∧ (t.length - a < ((txts l P).getD q []).length ∧ t.drop a <+: (txts l P).getD q []) ∧ (a = 0 ∨ crossF l.length P (tailF l P (t.take a)) q = none)
end
end DL
set_option Elab.async false
set_option linter.all false
set_option maxRecDepth 100000
set_option maxHeartbeats 4000000
namespace DL
open PySem PySem.Spec PyProof.Rows
open L2 hiding Takes passAt takes_of ps_raise PMk ps_try_as
open L2N (Takes passAt takes_of ps_raise PMk ps_try_as)
/-! ### two objects go along, the first one names the second -/
abbrev nM (ns : List Nat) : Node := nl (ns.map iN)
end DL
set_option Elab.async false
set_option linter.all false
set_option maxRecDepth 100000
set_option maxHeartbeats 4000000
namespace DL
open PySem PySem.Spec PyProof.Rows
open L2 hiding Takes passAt takes_of ps_raise PMk ps_try_as
open L2N (Takes passAt takes_of ps_raise PMk ps_try_as)
section
variable {C : DC} {env : Nv} {S : Sto} {Ψ : R → Sto → Prop} {pos p1 p2 : Pos} {l m : List Nat} {x : Str}
end
/-! ### a stream: its object and its list of tails -/
abbrev sF : List Str := ["joins", "letters", "ends", "many", "begun"]
def smN (B A : Addr) (l : List Nat) (P : List Pr) (lg : Nat) (t : List Nat) (m b k : Nat) : Node := .ins B sF [.val (jD A l P lg), .val (sL t), .loc k, .val (iN m), .val (iN b)]
end DL
set_option Elab.async false
set_option linter.all false
set_option maxRecDepth 100000
set_option maxHeartbeats 4000000
namespace DL
open PySem PySem.Spec PyProof.Rows
open L2 hiding Takes passAt takes_of ps_raise PMk ps_try_as
open L2N (Takes passAt takes_of ps_raise PMk ps_try_as)
/-! ### list.extend of a tuple -/
set_option maxRecDepth 8000 in
def rExtT (X : Cx) : V → List V → Hp → VK → Prop := fun x vs H Q => ∃ l b xs zs, x = .ref l ∧ vs = [.ref b] ∧ H l = some (.lst xs) ∧ SqT X.K H b zs ∧
  xs.length + zs.length ≤ sizeLine ∧ Q .non (upd H l (.lst (xs ++ zs)))
section
variable {C : DC} {env : Nv} {S : Sto} {Ψ : R → Sto → Prop} {pos apos : Pos} {o e : Expr}
end
end DL
set_option Elab.async false
set_option linter.all false
set_option maxRecDepth 100000
set_option maxHeartbeats 4000000
namespace DL
open PySem PySem.Spec PyProof.Rows
open L2 hiding Takes passAt takes_of ps_raise PMk ps_try_as
open L2N (Takes passAt takes_of ps_raise PMk ps_try_as)
/-! ### the store in another order -/
inductive EnvR (π : List Nat) : Nv → Nv → Prop where
  | nil : EnvR π [] []
  | drop {x : Option R} {e e' : Nv} : EnvR π e e' → EnvR π (x :: e) (none :: e')
  | val {d : D} {e e' : Nv} : EnvR π e e' → EnvR π (some (.val d) :: e) (some (.val d) :: e')
  | bor {ds : List D} {e e' : Nv} : EnvR π e e' → EnvR π (some (.bor ds) :: e) (some (.bor ds) :: e')
  | loc {j k : Nat} {e e' : Nv} : π[j]? = some k → EnvR π e e' → EnvR π (some (.loc k) :: e) (some (.loc j) :: e')
theorem EnvR.is {K : PySem.W.Frag} {b : Base} {w : Wd} {π : List Nat} (hk : ∀ (j k : Nat), π[j]? = some k → ∃ a, w.as[k]? = some a) : ∀ {e e' : Nv} {σ : L2.St}, EnvR π e e' → EnvIs K b w e σ → EnvIs K b ⟨w.G, asC w π⟩ e' σ
  | _, _, _, .nil, h => ⟨h.1, fun i r e => by simp at e⟩
  | _, _, [], .drop _, h => by have := h.1; simp at this
  | _, _, [], .val _, h => by have := h.1; simp at this
  | _, _, [], .bor _, h => by have := h.1; simp at this
  | _, _, [], .loc _ _, h => by have := h.1; simp at this
  | _, _, v :: σ, .drop t, h => by
    have q := EnvR.is hk t (σ := σ) ⟨by simpa using h.1, fun i r e => by simpa using h.2 (i + 1) r (by simpa using e)⟩
    refine ⟨by simpa using q.1, fun i r e => ?_⟩
    cases i with
    | zero => simp at e
    | succ i => simpa using q.2 i r (by simpa using e)
  | _, _, v :: σ, .val (d := d) t, h => by
    have q := EnvR.is hk t (σ := σ) ⟨by simpa using h.1, fun i r e => by simpa using h.2 (i + 1) r (by simpa using e)⟩
    refine ⟨by simpa using q.1, fun i r e => ?_⟩
    cases i with
    | zero =>
      simp at e; subst e
      exact h.2 0 (.val d) (by simp)
    | succ i => simpa using q.2 i r (by simpa using e)
  | _, _, v :: σ, .bor (ds := ds) t, h => by
    have q := EnvR.is hk t (σ := σ) ⟨by simpa using h.1, fun i r e => by simpa using h.2 (i + 1) r (by simpa using e)⟩
    refine ⟨by simpa using q.1, fun i r e => ?_⟩
    cases i with
    | zero =>
      simp at e; subst e
      exact h.2 0 (.bor ds) (by simp)
    | succ i => simpa using q.2 i r (by simpa using e)
  | _, _, v :: σ, .loc (j := j) (k := k) hj t, h => by
    have q := EnvR.is hk t (σ := σ) ⟨by simpa using h.1, fun i r e => by simpa using h.2 (i + 1) r (by simpa using e)⟩
    refine ⟨by simpa using q.1, fun i r e => ?_⟩
    cases i with
    | zero =>
      simp at e; subst e
      obtain ⟨u, h1, a, h2, h3⟩ := h.2 0 (.loc k) (by simp)
      exact ⟨u, h1, a, asC_get.mpr ⟨k, hj, getD_of h2⟩, h3⟩
    | succ i => simpa using q.2 i r (by simpa using e)
/-! ### lists of objects -/
section
variable {C : DC} {env : Nv} {S : Sto} {Ψ : R → Sto → Prop} {Ω : Nv → Sto → Prop} {pos p2 : Pos} {es : List Expr} {o i : Expr}
theorem atI_mapR {K : PySem.W.Frag} {B : Hp} {w : Wd} {rs : List R} {vs : List V} {i : Int} {r : R} (h : IsRs K B w rs vs) (e : atI rs i = some r) : ∃ v, atI vs i = some v ∧ IsR K B w r v := by
  unfold atI at e ⊢
  rw [← h.length]
  cases q : ixN rs.length i with
  | none => rw [q] at e; cases e
  | some j =>
    rw [q] at e
    have e : rs[j]? = some r := e
    obtain ⟨v, h1, h2⟩ := h.get e
    exact ⟨v, h1, h2⟩
theorem wix_R {k : Nat} {rs : List R} {i : Int} {r : R} (hk : S[k]? = some (.lst rs)) (hi : atI rs i = some r) (h : Ψ r S) : WIx C (.loc k) (.val (.int i)) S Ψ := fun X b ok w H rp v u hv hu Q n => by
  have hu : u = .int i := hu
  subst hu
  obtain ⟨a, h2, e⟩ := hv
  subst e
  obtain ⟨a', h3, _, _, vs, h4, h5⟩ := rp.at_ _ _ hk rfl
  rw [h2] at h3; cases h3
  obtain ⟨v, g1, g2⟩ := atI_mapR h5 hi
  exact ⟨_, ix_seq, .inl ⟨a, vs, i, v, rfl, rfl, SqL.of h4, g1, n w S H r v (Le.refl w) rp g2 h⟩⟩
theorem wc_sumI {r : R} {ns : List Int} (hc : C.calm = true) (hr : LsD S r (ns.map .int)) (h : Ψ (.val (.int ns.sum)) S) : WC C (.builtin "sum") [r] S Ψ := fun X b ok w H rp vs hv Q n => by
  obtain ⟨v, e, h1⟩ := vals1' hv
  subst e
  obtain ⟨p, us, e, g1, g2⟩ := hr.sq rp h1
  have g2 := IsL.of_ints g2
  subst e g2
  rw [← ok.K] at g1
  exact ⟨_, cr_sum (ok.calm hc).1, p, ns, rfl, g1, n.at_ (d := .int ns.sum) rp rfl h⟩
end
end DL
set_option Elab.async false
set_option linter.all false
set_option maxRecDepth 100000
set_option maxHeartbeats 4000000
namespace DL
open PySem PySem.Spec PyProof.Rows
open L2 hiding Takes passAt takes_of ps_raise PMk ps_try_as
open L2N (Takes passAt takes_of ps_raise PMk ps_try_as)
/-! ### for x in range(..), where the store may be put in another order -/
end DL
set_option Elab.async false
set_option linter.all false
set_option maxRecDepth 100000
set_option maxHeartbeats 4000000
namespace DL
open PySem PySem.Spec PyProof.Rows
open L2 hiding Takes passAt takes_of ps_raise PMk ps_try_as
open L2N (Takes passAt takes_of ps_raise PMk ps_try_as)
section
variable {C : DC} {S : Sto} {Ψ : R → Sto → Prop}
end
/-! ### how far two rows are the same -/
def cpl : List Nat → List Nat → Nat
  | x :: u, y :: v => if x = y then cpl u v + 1 else 0
  | _, _ => 0
section
variable {l : List Nat} {P : List Pr}
end
end DL
set_option Elab.async false
set_option linter.all false
set_option maxRecDepth 100000
set_option maxHeartbeats 4000000
namespace DL
open PySem PySem.Spec PyProof.Rows
open L2 hiding Takes passAt takes_of ps_raise PMk ps_try_as
open L2N (Takes passAt takes_of ps_raise PMk ps_try_as)
/-! ### dicts with texts as keys, whose values may be objects -/
section
variable {C : DC} {env : Nv} {S : Sto} {Ψ : R → Sto → Prop} {E : Nd}
abbrev sK (fs : List Str) : List Key := fs.map Sum.inr
/-! ### {"name": .., ..} -/
inductive KeyS : List (Option Expr) → List Str → Prop where
  | nil : KeyS [] []
  | cons {k : Str} {j : Nat} {p : Pos} {ks : List (Option Expr)} {ss : List Str} : KeyS ks ss → KeyS (some (.Constant (.str k) j p) :: ks) (k :: ss)
def prT (X : Cx) : List Str → List Expr → List (TE × TE)
  | k :: ks, v :: vs => (tC (.str k), cE X v) :: prT X ks vs
  | _, _ => []
theorem KeyS.len : ∀ {keys : List (Option Expr)} {ss : List Str}, KeyS keys ss → keys.length = ss.length ∧ (keys.all fun x => x.isSome) = true
  | _, _, .nil => ⟨rfl, rfl⟩
  | _, _, .cons h => ⟨by simp [h.len.1], by simpa using h.len.2⟩
def WPs (C : DC) (ss : List Str) (es : List Expr) (env : Nv) (S : Sto) (Φ : List R → Sto → Prop) : Prop :=
  ∀ (X : Cx) (W : WX) (b : Base), OkC X C → Takes X W → ∀ (w : Wd) (σ : L2.St) (H : Hp), Rp C.g.K b w S H → EnvIs C.g.K b w env σ → XCov C.g.K b w C.n0 C.xi W → ∀ Q : List (V × V) → Hp → Prop,
    (∀ (w2 : Wd) (S2 : Sto) (H2 : Hp) (rs : List R) (vs : List V), Le w w2 → Rp C.g.K b w2 S2 H2 → IsRs C.g.K b.B w2 rs vs → vs.length = ss.length → Φ rs S2 → Q ((ss.map V.str).zip vs) H2) → tPairs (prT X ss es) σ H Q
end
end DL
set_option Elab.async false
set_option linter.all false
set_option maxRecDepth 100000
set_option maxHeartbeats 4000000
namespace DL
open PySem PySem.Spec PyProof.Rows
open L2 hiding Takes passAt takes_of ps_raise PMk ps_try_as
open L2N (Takes passAt takes_of ps_raise PMk ps_try_as)
/-! ### a call without arguments -/
section
variable {C : DC} {env : Nv} {S : Sto} {Ψ : R → Sto → Prop} {x : Str} {p2 pos : Pos}
end
end DL
set_option Elab.async false
set_option linter.all false
set_option maxRecDepth 100000
set_option maxHeartbeats 4000000
namespace DL
open PySem PySem.Spec PyProof.Rows
open L2 hiding Takes passAt takes_of ps_raise PMk ps_try_as
open L2N (Takes passAt takes_of ps_raise PMk ps_try_as)
section
variable {C : DC} {env : Nv} {S : Sto} {Ψ : R → Sto → Prop} {pos apos : Pos} {e f o : Expr} {l : List Nat}
/-- d.get(k, x), keys that are tuples -/
theorem we_dget2T (h : WE C o env S fun r S1 => (∃ ks ds, DctT S1 r ks ds) ∧ WE C e env S1 fun y S2 => WE C f env S2 fun z S3 => ∃ q d, z = .val d ∧ LookD S3 r y q ∧ Ψ (.val (q.getD d)) S3) (hm : ∀ X : Cx, M2 X o "get" apos e f pos) : WE C (.Call (.Attribute o "get" apos) [e, f] [] pos) env S Ψ := fun X W bb ok tk w σ H rp en xc Q n => by
  refine ⟨_, pe_dget2 ok.u1 cE_ok cE_ok cE_ok (hm X), ?_⟩
  refine h X W bb ok tk w σ H rp en xc _ fun w1 S1 H1 r v l1 r1 i1 ⟨⟨ks, ds, hd⟩, k1⟩ => ?_
  obtain ⟨p, vs, e1, h1, h2, h3⟩ := hd.at_ r1 i1
  refine ⟨p, e1, .inr ⟨_, .inl h1⟩, ?_⟩
  refine k1 X W bb ok tk w1 σ H1 r1 (en.mono l1) (xc.mono l1) _ fun w2 S2 H2 y u l2 r2 i2 k2 => ?_
  refine k2 X W bb ok tk w2 σ H2 r2 (en.mono (l1.trans l2)) (xc.mono (l1.trans l2)) _ fun w3 S3 H3 z zv l3 r3 i3 ⟨q, d, ez, hl, k3⟩ => ?_
  subst ez
  obtain ⟨p', ov, e2, g1, g2⟩ := hl.get r3 (i1.mono (l2.trans l3)) (i2.mono l3)
  rw [e1] at e2
  cases e2
  refine ⟨ov, g1, n w3 S3 H3 (.val (q.getD d)) _ ((l1.trans l2).trans l3) r3 ?_ k3⟩
  cases q with
  | none => have g2 : ov = none := g2; subst g2; exact i3
  | some d => obtain ⟨v', e3, g3⟩ := g2; subst e3; exact g3
end
/-! ### a list of joins as a law keeps it -/
abbrev jnF : List Str := ["letters", "pairs", "ranks", "texts"]
def jnD (l : List Nat) (P : List Pr) : D := .dct (sK jnF) [sL l, .lst (P.map pN), .dcT (rkK P) (rkD P), .lst ((txts l P).map sL)]
inductive JnD (S : Sto) : R → List Nat → List Pr → Prop where
  | val (l : List Nat) (P : List Pr) : JnD S (.val (jnD l P)) l P
  | loc {k p q t : Nat} {l : List Nat} {P : List Pr} : S[k]? = some (.dK (sK jnF) [.val (sL l), .loc p, .loc q, .loc t]) → S[p]? = some (nl (P.map pN)) → S[q]? = some (.dT (rkK P) ((rkD P).map .val)) → S[t]? = some (nl ((txts l P).map sL)) → JnD S (.loc k) l P
section
variable {C : DC} {S : Sto} {Ψ : R → Sto → Prop} {r : R} {l : List Nat} {P : List Pr}
end
end DL
set_option Elab.async false
set_option linter.all false
set_option maxRecDepth 100000
set_option maxHeartbeats 4000000
namespace DL
open PySem PySem.Spec PyProof.Rows
open L2 hiding Takes passAt takes_of ps_raise PMk ps_try_as
open L2N (Takes passAt takes_of ps_raise PMk ps_try_as)
section
variable {C : DC} {S : Sto} {Ψ : R → Sto → Prop}
end
end DL
set_option Elab.async false
set_option linter.all false
set_option maxRecDepth 100000
set_option maxHeartbeats 4000000
namespace DL
open PySem PySem.Spec PyProof.Rows
open L2 hiding Takes passAt takes_of ps_raise PMk ps_try_as
open L2N (Takes passAt takes_of ps_raise PMk ps_try_as)
/-! ### own exceptions: made and raised where nothing is handled -/
end DL
set_option Elab.async false
set_option linter.all false
set_option maxRecDepth 100000
set_option maxHeartbeats 4000000
namespace DL
open PySem PySem.Spec PyProof.Rows
open L2 hiding Takes passAt takes_of ps_raise PMk ps_try_as
open L2N (Takes passAt takes_of ps_raise PMk ps_try_as)
/-- self, then a value for each field, in the order of the stores -/
def spXI (C : Addr) (fs : List Str) : Sp := fun vs H Q E => ∃ (a : Addr) (ys : List V), vs = .ref a :: ys ∧ ys.length = fs.length ∧ H a = some (exo a C none) ∧ ∀ dx, H dx = none → dx ≠ a → Q .non (upd (upd H dx (exd dx ((fs.zip ys).reverse))) a (exo a C (some dx)))
section
variable {g : Gd} {f C : Addr} {fd : FuncData} {x qual : Str} {params : Arguments} {scope : Scope} {f1 f2 v1 v2 : Str} {p1 p2 p3 p4 q1 q2 q3 q4 : Pos}
end
/-- an own class of error, whose __init__ only stores its values -/
structure XcC (g : Gd) (A : Addr) (ps fs : List Str) : Prop where
  oc : OexC g.K A
  ini : ∃ fI fd, PySem.W.findIn g.K (.ref A) "__init__" = some (some (.ref fI)) ∧ PySem.W.typeIn g.K (.ref fI) = some (.type "function") ∧ FnOk g.prog g.w g.K g.mg g.base (L2N.CX g.prog g.w) 1 fI fd ps (spXI A fs) ∧ L2.Binds g.K fd ps []
/-! ### own defs called where an exception is handled -/
structure FnDH (g : Gd) (k : Nat) (f : Addr) (ps : List Str) (s : DSp) : Prop where
  ok : ∃ fd, L2H.FnH g.prog g.w g.K g.mg g.base (L2N.CX g.prog g.w) k f fd ps (spD g.K s) ∧ L2.Binds g.K fd ps []
  kp : PySem.W.keepIn g.K (.ref f) = true
section
variable {C : DC} {env : Nv} {S : Sto} {Ψ : R → Sto → Prop} {Θ : Bool → Sto → Prop} {E : Nd} {pos p2 p3 : Pos} {c e : Expr} {es : List Expr} {x : Str} {body els : List Stmt}
end
section
variable {g : Gd} {k : Nat} {f : Addr} {ps : List Str} {s : DSp} {fd : FuncData} {x qual : Str} {params : Arguments} {body : List Stmt} {scope : Scope} {N gl : List Str}
end

/-! ### try: .. except E as n: .. -/
abbrev DC.sui (C : DC) (a A d : Addr) : DC := { C with calm := false, xi := fun _ _ _ _ _ => False, ho := ⟨false, some C.k, some (a, A, d)⟩ }
theorem OkC.sui {X : Cx} {C : DC} (ok : OkC X C) (hc : C.calm = true) {a A d : Addr} {oe : Obj} {pn : List (Addr × Obj)} (hz : L2N.Zn (.ref A) (some d) oe) (hf : ∃ vs, oe.data = .fields vs) : OkC (X.suite a ((a, oe) :: pn)) (C.sui a A d) := by
  refine ⟨ok.gd, ok.N, ok.sc, ok.nd, ok.vis, ok.wr, ok.gl, (fun z => nomatch z), ok.un, PassesOwn.never, (fun k z => ?_), (fun e z => ?_), fun z => nomatch z⟩
  · cases z
    obtain ⟨vs, hv⟩ := hf
    exact ⟨⟨(a, oe), ⟨rfl, vs, hv, hz.2.2 vs hv⟩, List.mem_cons_self⟩, ⟨(ok.calm hc).2.dp, (ok.calm hc).2.un⟩⟩
  · cases z
    obtain ⟨vs, hv⟩ := hf
    exact ⟨rfl, oe, ⟨rfl, vs, hv, hz.2.2 vs hv⟩, List.mem_cons_self, ⟨hz.1, hz.2.1⟩, ⟨vs, hv⟩, fun _ => ⟨X, pn, rfl⟩⟩
/-- what the clause asks of an exception of the body -/
def TryX (C : DC) (c : Addr) (i : Nat) (suite : List Stmt) (E : Nd) : Xi := fun A fs ds env S => ∃ q, PySem.W.exmOne C.g.K (.ref A) (.ref c) = some q ∧
  (q = true → ∀ a d, WSs (C.sui a A d) suite (env.set i (some (.val (.exc a d A fs ds)))) S ⟨fun env' => E.nx (env'.set i none), E.rt, fun env' => E.bk (env'.set i none), fun env' => E.ct (env'.set i none)⟩) ∧ (q = false → C.xi A fs ds env S)
end DL
set_option Elab.async false
set_option linter.all false
set_option maxRecDepth 100000
set_option maxHeartbeats 4000000
namespace DL
open PySem PySem.Spec PyProof.Rows
open L2 hiding Takes passAt takes_of ps_raise PMk ps_try_as
open L2N (Takes passAt takes_of ps_raise PMk ps_try_as)
/-! ### what is asked of an own class of error -/
structure ErC (K : PySem.W.Frag) (A : Addr) (fs : List Str) : Prop where
  oc : OexC K A
  xf : XfC K A
  cl : (PySem.W.clsIn K A).isSome = true
  ca : PySem.W.findIn K (.ref A) "__class__" = some (some (.builtin "object.__class__"))
  gs : PySem.W.specialIn K (.builtin "object.__class__") "__get__" = some (some (.builtin "getset_descriptor.__get__"))
  tk : PySem.W.takesIn K (.builtin "object.__class__") = some true
  mr : PySem.W.mroIn K A (.type "object") = some true
  nf : ∀ f ∈ fs, PySem.W.findIn K (.ref A) f = some none
  i1 : PySem.W.findIn K (.ref A) "__init__" = some (some (.ref (He.ma K A "__init__")))
  i2 : PySem.W.typeIn K (.ref (He.ma K A "__init__")) = some (.type "function")
def shapeB (K : PySem.W.Frag) (A : Addr) : Bool := match K.lookup A with
  | some ⟨.type "type", _, .cls cd, sl⟩ => (match cd.mro, sl.toList with
    | .ref B :: bm, [_, _, _, _, some (.builtin n), _] => decide (B = A) && (decide (n = "ValueError.__new__") && (!cd.hasDel && (cd.hasDict && PySem.HandSPX.refsVE bm)))
    | _, _ => false)
  | _ => false
def erB (K : PySem.W.Frag) (A : Addr) (fs : List Str) : Bool := shapeB K A && (xfB K A && (decide (PySem.W.findIn K (.ref A) "__setattr__" = some (some (.builtin "object.__setattr__"))) && (decide (PySem.W.typeIn K (.ref A) = some (.type "type")) && (PySem.W.keepIn K (.ref A) &&
  ((PySem.W.clsIn K A).isSome && (decide (PySem.W.findIn K (.ref A) "__class__" = some (some (.builtin "object.__class__"))) && (decide (PySem.W.specialIn K (.builtin "object.__class__") "__get__" = some (some (.builtin "getset_descriptor.__get__"))) &&
  (decide (PySem.W.takesIn K (.builtin "object.__class__") = some true) && (decide (PySem.W.mroIn K A (.type "object") = some true) && (fs.all (fun f => decide (PySem.W.findIn K (.ref A) f = some none)) &&
  (decide (PySem.W.findIn K (.ref A) "__init__" = some (some (.ref (He.ma K A "__init__")))) && decide (PySem.W.typeIn K (.ref (He.ma K A "__init__")) = some (.type "function")))))))))))))
theorem ErC.less {K : PySem.W.Frag} {A : Addr} {fs gs : List Str} (h : ErC K A fs) (l : ∀ f ∈ gs, f ∈ fs) : ErC K A gs := ⟨h.oc, h.xf, h.cl, h.ca, h.gs, h.tk, h.mr, fun f hf => h.nf f (l f hf), h.i1, h.i2⟩

/-! ### isinstance(e, ..), e.f -/
section
variable {C : DC} {env : Nv} {S : Sto} {Ψ : R → Sto → Prop} {a d A B : Addr} {fs gs : List Str} {ds : List D} {b : Bool} {o : Expr} {f : Str} {pos : Pos}
/-- e.f -/
inductive FldX (f : Str) : R → Addr → Addr → Addr → D → Prop where
  | mk {a d A : Addr} {fs : List Str} {ds : List D} {j : Nat} {z : D} : fs.Nodup → AtN f j fs → ds[j]? = some z → FldX f (.val (.exc a d A fs ds)) a A d z
/-! ### an own class of error, ready to be raised -/
end
/-! ### pure defs that may raise -/
abbrev Ex3 : Type := Addr × List Str × List D
def resP (Ψ : R → Sto → Prop) (ξ : Addr → List Str → List D → Sto → Prop) (S : Sto) : Except Ex3 D → Prop
  | .ok d => Ψ (.val d) S
  | .error e => ξ e.1 e.2.1 e.2.2 S
def spE (A : Type) (arg : A → List D) (pre : A → Prop) (res : A → Except Ex3 D) : DSp := fun rs S Ψ ξ => ∃ a : A, rs = (arg a).map .val ∧ S = [] ∧ pre a ∧ resP Ψ ξ [] (res a)
section
variable {C : DC} {env : Nv} {S : Sto} {Ψ : R → Sto → Prop}
theorem RaiC.now {n0 : Nat} {ξ : Addr → List Str → List D → Sto → Prop} {c : Addr} {fs : List Str} {ds : List D} {S : Sto} (h0 : n0 ≤ S.length) (h1 : S.all (Node.okB S.length) = true) (h : ξ c fs ds S) : RaiC n0 ξ c fs ds [] S :=
  ⟨S.length, h0, Nat.le_refl _, by rw [List.take_length]; exact h1, by rw [List.take_length]; exact h⟩
theorem RaiC.cut {ξ : Addr → List Str → List D → Sto → Prop} {c : Addr} {fs : List Str} {ds : List D} {S T : Sto} (h1 : S.all (Node.okB S.length) = true) (h : ξ c fs ds S) : RaiC S.length ξ c fs ds [] (S ++ T) :=
  ⟨S.length, Nat.le_refl _, by simp, by rw [List.take_left]; exact h1, by rw [List.take_left]; exact h⟩
theorem RaiC.cut0 {ξ : Addr → List Str → List D → Sto → Prop} {c : Addr} {fs : List Str} {ds : List D} {T : Sto} (h : ξ c fs ds []) : RaiC 0 ξ c fs ds [] T :=
  ⟨0, Nat.le_refl _, Nat.zero_le _, rfl, h⟩
end
end DL
set_option Elab.async false
set_option linter.all false
set_option maxRecDepth 100000
set_option maxHeartbeats 4000000
set_option pp.maxSteps 1500
namespace DL
open PySem PySem.Spec PyProof.Rows
open L2 hiding Takes passAt takes_of ps_raise PMk ps_try_as
open L2N (Takes passAt takes_of ps_raise PMk ps_try_as)
theorem sum_le {ls : List (List Nat)} {k : Nat} (h : ∀ t ∈ ls, t.length ≤ k) : (ls.map (·.length)).sum ≤ ls.length * k := by
  induction ls with
  | nil => simp
  | cons t ls ih =>
    have h1 := h t List.mem_cons_self
    have h2 := ih fun t ht => h t (List.mem_cons_of_mem _ ht)
    rw [List.map_cons, List.sum_cons, List.length_cons, Nat.succ_mul]
    omega
def top (i : Nat) : Stmt := PySem.Challenge.pw_rankedjoins_k35_cuts_and_texts_counted.main.body.getD i (.Pass ⟨0, 0, 0, 0⟩)
local macro_rules | `(tactic| walk_at "inv") => `(tactic| (dsimp only; repeat (first | with_reducible exact InV.here | with_reducible apply InV.there)))
local macro_rules | `(tactic| walk_at "ing") => `(tactic| (dsimp only; repeat (first | with_reducible exact InG.here | with_reducible apply InG.there)))
local macro_rules | `(tactic| walk_at "nb") => `(tactic| first | assumption | (dsimp only; refine BltF.at_ (by assumption) ?_; repeat (first | with_reducible exact InG.here | with_reducible apply InG.there)))
local macro_rules | `(tactic| walk_at "s") => `(tactic| first
  | refine wss_cons ?_ | refine wss_nil ?_ | refine ws_set (by walk_at "inv") ?_ (fun _ => rfl) | refine ws_if ?_ | refine ws_ret ?_ | refine ws_aug (by walk_at "inv") rfl ?_
  | refine ws_expr ?_ (fun _ => rfl) | refine ws_pass ?_ | refine ws_break ?_ | refine ws_cont ?_ | refine ws_retN ?_
  | refine ws_asg ?_ (fun _ => rfl) (fun _ => rfl) (fun _ => rfl) | refine ws_setA ?_ (fun _ => rfl) | refine ws_put ?_ (fun _ => rfl))
local macro_rules | `(tactic| walk_at "we") => `(tactic| first
  | refine we_name (by walk_at "inv") rfl ?_ | refine we_int ?_ | refine we_op ?_ | refine we_str ?_
  | refine we_callB (by walk_at "ing") (by walk_at "nb") (by first | exact PySem.boot_len | exact boot_abs | exact boot_min | exact boot_max | exact boot_sorted | exact boot_isinstance) ?_ (fun _ => rfl) (fun _ => rfl)
  | refine we_callT (by walk_at "ing") (by walk_at "nb") (by first | exact boot_tuple | exact boot_list | exact boot_int) ?_ (fun _ => rfl) (fun _ => rfl)
  | refine we_attr ?_ (fun _ => rfl) | refine we_ix ?_ (fun _ _ => rfl) | refine we_tup ?_
  | refine we_append ?_ (fun _ => rfl) (fun _ => rfl) rfl (fun _ => rfl) (fun _ => rfl)
  | refine we_bl ?_ | refine we_non ?_ | refine we_chain ?_ rfl | refine we_cmp ?_ rfl | refine we_one ?_ | refine we_and ?_ | refine we_or ?_ | refine we_not ?_ | refine we_ifx ?_ | refine we_neg ?_ | refine we_slice ?_)
local macro_rules | `(tactic| walk_at "wb") => `(tactic| first | refine we_type (by walk_at "ing") (by walk_at "nb") boot_int ?_ | refine we_type (by walk_at "ing") (by walk_at "nb") boot_bool ?_ | refine we_type (by walk_at "ing") (by walk_at "nb") boot_str ?_ | refine we_type (by walk_at "ing") (by walk_at "nb") boot_tuple ?_)
local macro_rules | `(tactic| walk_at "wt") => `(tactic| first | refine wt_cmp ?_ rfl | refine wt_not ?_ | refine wt_chain ?_ rfl | refine wt_of ?_)
local macro_rules | `(tactic| walk_at "wto") => `(tactic| first | refine wto_and1 ?_ | refine wto_or1 ?_ | refine wto_and ?_ | refine wto_or ?_)
local macro_rules | `(tactic| walk_at "wo") => `(tactic| first
  | refine wo_add ?_ | refine wo_sub ?_ | refine wo_lt ?_ | refine wo_le ?_ | refine wo_gt ?_ | refine wo_ge ?_ | refine wo_eqI ?_ | refine wo_neI ?_ | refine wo_eqL ?_ | refine wo_neL ?_ | refine wo_lt1 ?_ | refine wo_le1 ?_ | refine wo_ge1 ?_ | refine wo_inL ?_ | refine wo_notInL ?_
  | refine wo_isN (by intro _ h; cases h) ?_ | refine wo_notN (by intro _ h; cases h) ?_)
local macro_rules | `(tactic| walk_at "wc") => `(tactic| first
  | refine wc_len (by first | exact .tup _ | exact .lst _ | exact .bor _ | exact .loc rfl) ?_ | refine wc_int ?_ | refine wc_intB ?_ | refine wc_abs ?_ | refine wc_min2 rfl ?_ | refine wc_max2 rfl ?_ | refine wc_tuple (by first | exact .tup _ | exact .lst _ | exact .bor _ | exact .loc rfl) ?_)
local macro_rules | `(tactic| walk_at "e") => `(tactic| first
  | (with_reducible show WE _ _ _ _ _); walk_at "we"
  | (with_reducible show WT _ _ _ _ _); walk_at "wt"
  | (with_reducible show WTo _ _ _ _ _); walk_at "wto"
  | (with_reducible show WO _ _ _ _ _ _); walk_at "wo"
  | (with_reducible show WA _ _ _ _ _); first | refine wa_cons ?_ (fun _ => rfl) | refine wa_nil ?_
  | (with_reducible show WC _ _ _ _ _); walk_at "wc"
  | (with_reducible show WPO _ _ _ _ _); first | refine wpo_none ?_ | refine wpo_some ?_
  | refine asB_mk ?_ | refine wip_add ?_
  | refine ⟨_, rfl, (by first | decide | exact Nat.le_of_ble_eq_true rfl), ?_⟩)
local macro_rules | `(tactic| walk_at "ew") => `(tactic| ((try simp only [List.set_cons_zero, List.set_cons_succ]); repeat (first | exact EnvW.nil | refine EnvW.keep (by first | rfl | assumption) ?_ | refine EnvW.drop ?_)))
local macro_rules | `(tactic| walk_at "fl") => `(tactic| (refine ⟨_, _, fldL rfl (by repeat (first | with_reducible exact AtN.here | with_reducible apply AtN.there)) rfl, by assumption, NoA.at_ (by assumption) (by walk_at "ing"), ?_⟩))
local macro_rules | `(tactic| walk_at "fv") => `(tactic| (refine ⟨_, _, fldV (by repeat (first | with_reducible exact AtN.here | with_reducible apply AtN.there)) rfl, by assumption, NoA.at_ (by assumption) (by walk_at "ing"), ?_⟩))
structure PT where
  row : List Nat
  a : Nat
  b : Nat
  c : Nat
abbrev spPT := spF PT (fun p => [tN p.row, pN (p.a, p.b), iN p.c]) (fun p => p.row.length ≤ 100000) (fun p => tN (putT p.a p.b p.c p.row))
theorem scPT : FnScope ["row", "pair", "piece", "found", "at"] ["row", "pair", "piece"] (defScope (top 13)) := ⟨rfl, rfl, rfl, by decide +kernel, rfl, by decide +kernel, by decide +kernel⟩
theorem ok_pt {g : Gd} {f : Addr} {fd : FuncData} (F : FunD g.K "put_together" "put_together" (defArgs (top 13)) (defBody (top 13)) (defScope (top 13)) [] [] f fd) (hb : Binds g.K fd ["row", "pair", "piece"] []) (hB : BltF g ["len", "tuple"]) :
    FnD g 1 f ["row", "pair", "piece"] spPT := by
  refine fn_mk F hb scPT (gl := ["len", "tuple"]) [("row", 0), ("pair", 1), ("piece", 2), ("found", 3), ("at", 4)] (by decide +kernel) (by decide +kernel) (fun rs S Ψ ξ h => ?_) (fun rs S Ψ ξ h => ?_)
  · obtain ⟨_, rfl, _⟩ := h; rfl
  · obtain ⟨⟨row, a, b, c⟩, rfl, rfl, hl, hΨ⟩ := h
    dsimp only at hl hΨ
    refine wss_cons ?_
    refine ws_set (by walk_at "inv") ?_ (fun _ => rfl)
    refine we_lstN ?_
    refine wa_nil ⟨[], rfl, by decide, ?_⟩
    walk_at "s"
    walk_at "s"
    walk_at "e"
    refine wss_cons ?_
    refine ws_while (fun m env S => ∃ (k : Nat) (acc : List Nat), m = row.length - k ∧ k ≤ row.length ∧ acc.length ≤ k ∧ acc ++ putT a b c (row.drop k) = putT a b c row ∧ env = [some (.val (tN row)), some (.val (pN (a, b))), some (.val (iN c)), some (.loc 0), some (.val (.int k))] ∧ S = [nl (acc.map iN)]) row.length (Nat.zero_le _) ⟨0, [], rfl, Nat.zero_le _, Nat.le_refl _, rfl, rfl, rfl⟩ ?_
    rintro m env' S' ⟨k, acc, rfl, hk, ha, hp, rfl, rfl⟩
    repeat walk_at "e"
    refine ⟨fun h => ?_, fun h => ?_⟩
    · have hk' : k < row.length := by simpa using h
      have ex : row[k]? = some row[k] := by simp [hk']
      refine wss_one ?_
      refine ws_ifB (∃ h : k + 1 < row.length, row[k] = a ∧ row[k + 1] = b) ?_ (fun ht => ?_) (fun hf => ?_)
      · repeat walk_at "e"
        refine ⟨fun h => ?_, fun h => ?_⟩
        · have h1 : k + 1 < row.length := by simp at h; omega
          have ey : row[k + 1]? = some row[k + 1] := by simp [h1]
          repeat walk_at "e"
          refine wix_F (g := iN) (.tup _) rfl ex ?_
          repeat walk_at "e"
          refine wix_F (g := iN) (.tup _) (j := k + 1) (by simp) ey ?_
          repeat walk_at "e"
          refine wo_eqF (f := pN) (a := (row[k], row[k + 1])) (b := (a, b)) flt_pair (by decide) (.val _) (.val _) ?_
          repeat walk_at "e"
          exact ⟨by simp [h1], rfl⟩
        · have h1 : ¬ k + 1 < row.length := by simp at h; omega
          exact ⟨by simp [h1], rfl⟩
      · obtain ⟨h1, e1, e2⟩ := ht
        refine wss_cons ?_
        walk_at "s"
        repeat walk_at "e"
        refine ⟨0, _, rfl, rfl, ?_⟩
        repeat walk_at "e"
        refine ⟨_, _, rfl, rfl, by simp [sizeLine_eq]; omega, ?_⟩
        refine wss_one ?_
        walk_at "s"
        repeat walk_at "e"
        refine ⟨row.length - (k + 2), by omega, Wk.now (Nat.le_refl _) (by simp [okB_nl]) rfl ⟨k + 2, acc ++ [c], rfl, by omega, by simp; omega, ?_, by simp, by simp⟩⟩
        rw [← hp, List.drop_eq_getElem_cons hk', List.drop_eq_getElem_cons h1, putT, if_pos ⟨e1, e2⟩]
        simp
      · refine wss_cons ?_
        walk_at "s"
        repeat walk_at "e"
        refine ⟨0, _, rfl, rfl, ?_⟩
        repeat walk_at "e"
        refine wix_F (g := iN) (.tup _) rfl ex ?_
        refine ⟨_, _, rfl, rfl, by simp [sizeLine_eq]; omega, ?_⟩
        refine wss_one ?_
        walk_at "s"
        repeat walk_at "e"
        refine ⟨row.length - (k + 1), by omega, Wk.now (Nat.le_refl _) (by simp [okB_nl]) rfl ⟨k + 1, acc ++ [row[k]], rfl, by omega, by simp; omega, ?_, by simp, by simp⟩⟩
        rw [← hp, List.drop_eq_getElem_cons hk']
        by_cases h1 : k + 1 < row.length
        · rw [List.drop_eq_getElem_cons h1, putT, if_neg (fun z => hf ⟨h1, z⟩)]
          simp
        · rw [List.drop_eq_nil_of_le (by omega)]
          simp [putT]
    · have hk' : k = row.length := by simp at h; omega
      subst hk'
      refine wss_one ?_
      walk_at "s"
      repeat walk_at "e"
      refine RetC.cut0 ?_
      rw [List.drop_length] at hp
      simp [putT] at hp
      rw [hp]
      exact hΨ
end DL
set_option Elab.async false
set_option linter.all false
set_option maxRecDepth 100000
set_option maxHeartbeats 0
namespace DL
open PySem PySem.Spec PyProof.Rows
open L2 hiding Takes passAt takes_of ps_raise PMk ps_try_as
open L2N (Takes passAt takes_of ps_raise PMk ps_try_as)
def gD (x : Str) (s : Stmt) : He.DefD := ⟨(x, none), x, x, defArgs s, defBody s, defScope s, [], []⟩
def mD (c x q : Str) (s : Stmt) : He.DefD := ⟨(c, some x), x, q, defArgs s, defBody s, defScope s, [], []⟩
def fn : List He.DefD := (List.append ([gD "put_together" (top 13),
  gD "lowest_pair" (top 14),
  gD "cut_row" (top 15),
  gD "is_between" (top 10),
  gD "is_alphabet" (top 11),
  gD "is_between" (top 10),
  gD "checked_alphabet" (top 12),
  mD "Joins" "is_proper" "Joins.is_proper" (inClass (top 16) 2),
  mD "Joins" "take" "Joins.take" (inClass (top 16) 1),
  mD "Joins" "__init__" "Joins.__init__" (inClass (top 16) 0),
  mD "Joins" "is_piece" "Joins.is_piece" (inClass (top 16) 4),
  mD "Joins" "check_piece" "Joins.check_piece" (inClass (top 16) 5),
  mD "Joins" "text_of" "Joins.text_of" (inClass (top 16) 6),
  mD "Joins" "parts_of" "Joins.parts_of" (inClass (top 16) 7),
  gD "right_spine" (top 18),
  gD "left_spine" (top 19),
  gD "crossing" (top 20),
  gD "side_by_side" (top 21),
  gD "_law_draw" (top 30),
  gD "_law_alphabet" (top 31)] : List He.DefD) ([gD "_law_pool" (top 29),
  gD "_law_staged" (top 32),
  gD "_law_cut" (top 33),
  gD "_law_pairs" (top 34),
  gD "_law_same" (top 38),
  gD "followers_of" (top 23),
  gD "behind_counts" (top 24),
  gD "count_cuts" (top 25),
  gD "_law_few_letters" (top 35),
  gD "_law_sides" (top 36),
  gD "_law_after" (top 37),
  gD "added" (top 26),
  gD "texts_by_pieces" (top 27),
  gD "_law_counted" (top 39),
  gD "_law_texts" (top 40),
  gD "_law_by_pieces" (top 41),
  gD "_law_carried" (top 42),
  gD "law" (top 43)] : List He.DefD))
abbrev fnL (i : Nat) : He.DefD := fn.getD i (gD "" (top 0))
def fa : List He.Fa := (List.append ([.free "tuple", .free "len", .free "range", .glo "lowest_pair", .glo "put_together", .free "bool", .free "int", .free "isinstance", .int "MOST_LETTERS" 30, .glo "is_alphabet", .int "LONGEST_PIECE" 40, .cls "Joins", .noat "Joins" "longest", .noat "Joins" "numbers", .noat "Joins" "ranks", .noat "Joins" "texts", .noat "Joins" "pairs", .noat "Joins" "alphabet", .glo "is_between", .glo "cut_row"] : List He.Fa) (List.append ([.free "max", .meth "Joins" "is_proper", .free "enumerate", .free "list", .glo "checked_alphabet", .meth "Joins" "take", .meth "Joins" "is_piece", .meth "Joins" "check_piece", .meth "Joins" "parts_of", .glo "right_spine", .glo "left_spine", .glo "crossing", .free "sorted", .glo "_law_draw", .free "min", .free "abs", .glo "_law_staged", .glo "_law_cut", .free "str", .glo "_law_same"] : List He.Fa) (List.append ([.glo "side_by_side", .free "sum", .glo "followers_of", .glo "behind_counts", .glo "_law_alphabet", .meth "Joins" "text_of", .glo "added", .glo "_law_after", .glo "_law_texts", .glo "_law_pool", .glo "_law_few_letters", .glo "_law_pairs", .glo "_law_sides", .glo "count_cuts", .glo "_law_counted", .glo "texts_by_pieces", .glo "_law_by_pieces", .glo "_law_carried", .mkr "Joins", .glo "Joins"] : List He.Fa) ([.glo "law"] : List He.Fa))))
abbrev Rw : PySem.W.OpenRow := PySem.W.OpenLaw.row PySem.Challenge.rw_rankedjoins_k35_cuts_and_texts_counted
def pr : List PrD := [⟨"Joins", "pieces", "Joins.pieces", defArgs (inClass (top 16) 3), defBody (inClass (top 16) 3), defScope (inClass (top 16) 3)⟩]
abbrev prL (i : Nat) : PrD := pr.getD i ⟨"", "", "", defArgs (top 0), defBody (top 0), defScope (top 0)⟩
def fb : List (PySem.W.Frag → Bool) := [fun K => propB K "Joins" "pieces"]
abbrev hk : PySem.W.Hook := hookM 6 fa fn pr fb
def ob (s : PySem.W.SharedT) : AlM := obsMG 6 fa fn pr fb (HandSHeadRun.getT s)
theorem ob_eq (s : PySem.W.SharedT) : ob s = hk.obs s.abs := obsMG_eq (HandSHeadRun.getT_eq s)
def loose : List Str := (List.append (["_wall", "JoinError", "InvalidAlphabet", "NotProper", "NoPiece", "InvalidNumber", "MOST_LETTERS", "LONGEST_PIECE", "is_between", "is_alphabet", "checked_alphabet", "put_together", "lowest_pair", "cut_row", "Joins", "right_spine", "left_spine", "crossing", "side_by_side", "followers_of"] : List Str) (["behind_counts", "count_cuts", "added", "texts_by_pieces", "_law_pool", "_law_draw", "_law_alphabet", "_law_staged", "_law_cut", "_law_pairs", "_law_few_letters", "_law_sides", "_law_after", "_law_same", "_law_counted", "_law_texts", "_law_by_pieces", "_law_carried"] : List Str))
theorem run (w : World) : HandSHeadRun.RunEq Rw (PySem.W.view Rw.prog [43]) hk ob 8000 loose w := by
  intro os
  kernel_rfl

end DL
set_option Elab.async false
set_option linter.all false
set_option maxRecDepth 100000
set_option maxHeartbeats 4000000
namespace DL
open PySem PySem.Spec PyProof.Rows
open L2 hiding Takes passAt takes_of ps_raise PMk ps_try_as
open L2N (Takes passAt takes_of ps_raise PMk ps_try_as)
/-! ### a list's place is written -/
theorem ixN_of {n j : Nat} (h : j < n) : ixN n (j : Int) = some j := by
  unfold ixN
  rw [if_pos (by omega), if_pos (by omega)]
  congr 1
theorem wg_setL {C : DC} {env : Nv} {S : Sto} {Ω : Nv → Sto → Prop} {o i : Expr} {pos : Pos} {r : R} (h : WE C o env S fun q S1 => WE C i env S1 fun y S2 => ∃ (k : Nat) (rs : List R) (z : Int) (j : Nat), q = .loc k ∧ y = .val (.int z) ∧ S2[k]? = some (.lst rs) ∧ ixN rs.length z = some j ∧ Ω env (S2.set k (.lst (rs.set j r))))
    (ha : ∀ X : Cx, ∀ v, assign (.Subscript o i pos) X.env v = (do
      let ov ← holding [v] (eval o X.env)
      let iv ← holding [v, ov] (eval i X.env)
      standAt pos
      holding [v, ov, iv] (setItem ov iv v)
      release [v, ov, iv] [])) : WG C (.Subscript o i pos) r env S Ω := fun X W bb ok tk w σ H rp en xc v hv Q n => by
  refine ⟨_, pg_sub cE_ok cE_ok set_list (ha X), ?_⟩
  refine h X W bb ok tk w σ H rp en xc _ fun w1 S1 H1 q u l1 r1 i1 k1 => ?_
  refine k1 X W bb ok tk w1 σ H1 r1 (en.mono l1) (xc.mono l1) _ fun w2 S2 H2 y t l2 r2 i2 ⟨k, rs, z, j, eq, ey, hk, hj, k2⟩ => ?_
  subst eq ey
  have i2 : t = .int z := i2
  subst i2
  obtain ⟨a, h1, e⟩ := i1.mono l2
  subst e
  obtain ⟨a', h3, _, _, vs, h4, h5⟩ := r2.at_ _ _ hk rfl
  rw [h1] at h3
  cases h3
  have hv' := hv.mono (l1.trans l2)
  refine ⟨a, vs, z, j, rfl, rfl, h4, by rw [← h5.length]; exact hj, ?_⟩
  exact n w2 _ _ env σ ((l1.trans l2).n _) (r2.write (n' := .lst (rs.set j r)) hk rfl h1 ⟨_, upd_same, h5.set j hv'⟩) (en.mono (l1.trans l2)) k2
theorem nl_set (ds : List D) (j : Nat) (d : D) : Node.lst ((ds.map R.val).set j (.val d)) = nl (ds.set j d) := by
  show _ = Node.lst _
  rw [List.map_set]
abbrev tD3 (p : Nat × Nat × Nat) : D := .tup [iN p.1, iN p.2.1, iN p.2.2]
theorem FnD.imp {g : Gd} {k : Nat} {f : Addr} {ps : List Str} {s s' : DSp} (h : FnD g k f ps s) (i : ∀ rs S Ψ ξ, s' rs S Ψ ξ → s rs S Ψ ξ) : FnD g k f ps s' := by
  obtain ⟨⟨fd, F, B⟩, kp⟩ := h
  have key : ∀ vs H Q E, spD g.K s' vs H Q E → spD g.K s vs H Q E := fun vs H Q E ⟨w, S, rs, Ψ, ξ, h1, h2, h3, h4⟩ => ⟨w, S, rs, Ψ, ξ, h1, h2, i _ _ _ _ h3, h4⟩
  exact ⟨⟨fd, ⟨fun vs H Q E z => F.len vs H Q E (key _ _ _ _ z), fun A outer s0 H args us vs Q E hr e0 hb r hs => F.run A outer s0 H args us vs Q E hr e0 hb r (key _ _ _ _ hs)⟩, B⟩, kp⟩
end DL
set_option Elab.async false
set_option linter.all false
set_option maxRecDepth 100000
set_option maxHeartbeats 4000000
namespace DL
open PySem PySem.Spec PyProof.Rows
open L2 hiding Takes passAt takes_of ps_raise PMk ps_try_as
open L2N (Takes passAt takes_of ps_raise PMk ps_try_as)
/-! ### dict(a list of pairs) -/
abbrev kvD (p : Int × D) : D := .tup [.int p.1, p.2]
/-- a text and a number -/
abbrev tcD (p : List Nat × Int) : D := .tup [sL p.1, .int p.2]
end DL
set_option Elab.async false
set_option linter.all false
set_option maxRecDepth 100000
set_option maxHeartbeats 4000000
namespace DL
open PySem PySem.Spec PyProof.Rows PySem.W
open L2 hiding Takes passAt takes_of ps_raise PMk ps_try_as
open L2N (Takes passAt takes_of ps_raise PMk ps_try_as)
/-! ### tuples (number, text): their order -/
def ltT (p q : Int × List Nat) : Prop := p.1 < q.1 ∨ (p.1 = q.1 ∧ p.2 < q.2)
instance (p q : Int × List Nat) : Decidable (ltT p q) := inferInstanceAs (Decidable (_ ∨ _))
def tsD (p : Int × List Nat) : D := .tup [.int p.1, sL p.2]
section
variable {C : DC} {S : Sto} {Ψ : R → Sto → Prop}
end
/-! ### a dict of texts that are all True -/
def nTS (ks : List (List Nat)) : Node := .dK (ks.map fun k => Sum.inr ⟨k.toArray⟩) (ks.map fun _ => R.val (.bl true))
section
variable {C : DC} {env : Nv} {S : Sto} {Ψ : R → Sto → Prop} {E : Nd} {pos p2 : Pos} {o i v : Expr} {r : R}
end
section
variable {C : DC} {S : Sto} {Ψ : R → Sto → Prop}
end
end DL
set_option Elab.async false
set_option linter.all false
set_option maxRecDepth 100000
set_option maxHeartbeats 4000000
namespace DL
open PySem PySem.Spec PyProof.Rows
open L2 hiding Takes passAt takes_of ps_raise PMk ps_try_as
open L2N (Takes passAt takes_of ps_raise PMk ps_try_as)
/-! ### zip of two lists -/
def zipD (ds es : List D) : List D := (ds.zip es).map fun p => .tup [p.1, p.2]
section
variable {C : DC} {env : Nv} {S : Sto} {Λ : List D → (Sto → Prop) → Sto → Prop} {pos p2 tpos : Pos} {e1 e2 : Expr} {elts : List Expr} {kk : Nat}
end
/-! ### f(q = .., p = ..) of a def f(p, q) -/
structure FnDW (g : Gd) (k : Nat) (f : Addr) (p q : Str) (s : DSp) : Prop where
  ok : ∃ fd, FnOk g.prog g.w g.K g.mg g.base (L2N.CX g.prog g.w) k f fd [p, q] (spD g.K s) ∧ L2.Binds g.K fd [p, q] [] ∧ KBinds g.K fd [p, q] [q, p] (fun us ws => us ++ ws.reverse) (fun vs zs => vs ++ zs.reverse)
  kp : PySem.W.keepIn g.K (.ref f) = true
theorem FnDW.d {g : Gd} {k : Nat} {f : Addr} {p q : Str} {s : DSp} (h : FnDW g k f p q s) : FnD g k f [p, q] s := by
  obtain ⟨⟨fd, F, B, _⟩, kp⟩ := h
  exact ⟨⟨fd, F, B⟩, kp⟩
def tCallSK (sp : Sp) (E : L2.St → XK) (t : TA) : TE := fun σ H Q => t σ H fun zs H1 => sp zs.reverse H1 Q (E σ)
section
variable {C : DC} {env : Nv} {S : Sto} {Ψ : R → Sto → Prop} {x : Str} {p2 pos kp1 kp2 : Pos} {e1 e2 : Expr}
end
end DL
set_option Elab.async false
set_option linter.all false
set_option maxRecDepth 100000
set_option maxHeartbeats 4000000
namespace DL
open PySem PySem.Spec PyProof.Rows
open L2 hiding Takes passAt takes_of ps_raise PMk ps_try_as
open L2N (Takes passAt takes_of ps_raise PMk ps_try_as)
theorem sw_cell {e : Expr} {py : Pos} {y : Str} {l : Nat} {en : Env} (hy : en.scope.names.lookup y = some .cell) : swapsWith e (some (.Name y py)) l en = pure false := by
  have ky : en.kindOf y = some .cell := hy
  unfold swapsWith
  have hc : (NameKind.cell == NameKind.local) = false := by decide
  cases e <;> simp [ky, hc]
/-- name = e, the name is used in a comprehension too -/
theorem ws_setCe {C : DC} {env : Nv} {S : Sto} {E : Nd} {e : Expr} {x : Str} {pos p2 : Pos} {i : Nat} (hx : InV x i C.wr) (hy : C.sc.names.lookup x = some .cell) (h : WE C e env S fun r S1 => E.nx (env.set i (some r)) S1) : WS C (.Assign [.Name x p2] e pos) env S E := fun X W bb ok tk w σ H rp en xc D n => by
  obtain ⟨h1, h2, h3⟩ := ok.wr _ hx.mem
  refine ⟨_, ps_set ok.nd h1 h2 cE_ok (sw_cell (by rw [ok.sc]; exact hy)) h3, ?_⟩
  exact h X W bb ok tk w σ H rp en xc _ fun w1 S1 H1 r v l1 r1 i1 k1 => n.nx w1 S1 H1 _ _ (l1.n _) r1 ((en.mono l1).set i i1) k1
end DL
set_option Elab.async false
set_option linter.all false
set_option maxRecDepth 100000
set_option maxHeartbeats 4000000
namespace DL
open PySem PySem.Spec PyProof.Rows
open L2 hiding Takes passAt takes_of ps_raise PMk ps_try_as
open L2N (Takes passAt takes_of ps_raise PMk ps_try_as)
/-! ### isinstance(x, (T, U)), xs.clear(), len of an object that may change -/
section
variable {C : DC} {env : Nv} {S : Sto} {Ψ : R → Sto → Prop} {pos apos : Pos} {o : Expr}
end
/-! ### a page: its object, its tails, its edits done and undone -/
abbrev pF : List Str := ["joins", "letters", "ends", "done", "undone"]
def pgN (B A : Addr) (l : List Nat) (P : List Pr) (lg : Nat) (t : List Nat) (e d u : Nat) : Node := .ins B pF [.val (jD A l P lg), .val (sL t), .loc e, .loc d, .loc u]
def repT (t : List Nat) (a m : Nat) (x : List Nat) : List Nat := t.take a ++ x ++ t.drop (a + m)
structure Pg (S : Sto) (k e d u : Nat) (B A : Addr) (l : List Nat) (P : List Pr) (lg : Nat) (t : List Nat) (F : List Nat) (dd uu : List D) : Prop where
  n0 : S[k]? = some (pgN B A l P lg t e d u)
  n1 : S[e]? = some (nM F)
  n2 : S[d]? = some (nl dd)
  n3 : S[u]? = some (nl uu)
  nd : [k, e, d, u].Nodup
abbrev pgS (B A : Addr) (l : List Nat) (P : List Pr) (lg : Nat) (t F : List Nat) (dd uu : List D) : Sto := [pgN B A l P lg t 1 2 3, nM F, nl dd, nl uu]
section
variable {C : DC} {env : Nv} {S : Sto} {Ψ : R → Sto → Prop} {s : DSp} {k e d u : Nat} {B A : Addr} {l : List Nat} {P : List Pr} {lg : Nat} {t F : List Nat} {dd uu : List D} {ds : List D}
end
end DL
set_option Elab.async false
set_option linter.all false
set_option maxRecDepth 100000
set_option maxHeartbeats 4000000
namespace DL
open PySem PySem.Spec PyProof.Rows
open L2 hiding Takes passAt takes_of ps_raise PMk ps_try_as
open L2N (Takes passAt takes_of ps_raise PMk ps_try_as)
/-! ### data with settled lists, compared -/
inductive SmL : Nat → D → Prop where
  | non {n : Nat} : SmL n .non
  | str {n : Nat} (s : Str) : SmL n (.str s)
  | bl {n : Nat} (b : Bool) : SmL n (.bl b)
  | int {n : Nat} (i : Int) : SmL n (.int i)
  | tup {n : Nat} {ds : List D} : (∀ d ∈ ds, SmL n d) → ds.length ≤ 100000 → SmL (n + 1) (.tup ds)
  | lst {n : Nat} {ds : List D} : (∀ d ∈ ds, SmL n d) → ds.length ≤ 100000 → SmL (n + 1) (.lst ds)
theorem SmL.tN {n : Nat} {l : List Nat} (h : l.length ≤ 100000) : SmL (n + 1) (tN l) := .tup (fun d hd => by obtain ⟨x, _, rfl⟩ := List.mem_map.mp hd; exact .int _) (by simpa using h)
def spSL (n : Nat) : DSp := fun rs S Ψ _ => ∃ d, rs = [.val d, .val d] ∧ S = [] ∧ SmL n d ∧ Ψ (.val (.bl true)) []
/-- a value of any kind, and two bounds -/
def btw : D → Int → Int → Bool
  | .int v, a, b => decide (a ≤ v ∧ v ≤ b)
  | _, _, _ => false
/-- values that is_between refuses -/
inductive OddD : D → Int → Int → Prop where
  | non {a b : Int} : OddD .non a b
  | str {a b : Int} (s : Str) : OddD (.str s) a b
  | bl {a b : Int} (k : Bool) : OddD (.bl k) a b
  | int {a b v : Int} : ¬ (a ≤ v ∧ v ≤ b) → OddD (.int v) a b
  | tup {a b : Int} (ds : List D) : OddD (.tup ds) a b
  | lst {a b : Int} (ds : List D) : OddD (.lst ds) a b
def spIO : DSp := fun rs S Ψ _ => ∃ (d : D) (a b : Int), rs = [.val d, .val (.int a), .val (.int b)] ∧ S = [] ∧ OddD d a b ∧ Ψ (.val (.bl false)) []
end DL
set_option Elab.async false
set_option linter.all false
set_option maxRecDepth 100000
set_option maxHeartbeats 4000000
namespace DL
open PySem PySem.Spec PyProof.Rows
open L2 hiding Takes passAt takes_of ps_raise PMk ps_try_as
open L2N (Takes passAt takes_of ps_raise PMk ps_try_as)
/-! ### counting rows: fl tells for each piece the ascending ones that may stand behind it -/
def cnF (fl : List (List Nat)) : Nat → Nat → Nat
  | 0, _ => 1
  | k + 1, x => ((fl.getD x []).map (cnF fl k)).sum
def chF (fl : List (List Nat)) : Option Nat → List Nat
  | none => List.range fl.length
  | some x => fl.getD x []
def TF (fl : List (List Nat)) : Nat → Option Nat → Nat
  | 0, _ => 1
  | k + 1, o => ((chF fl o).map (cnF fl k)).sum
def termF (fl : List (List Nat)) (many : Nat) (row : List Nat) (j : Nat) : Nat := (((chF fl (row.take j).getLast?).filter fun y => decide (y < row.getD j 0)).map (cnF fl (many - j - 1))).sum
def numF (fl : List (List Nat)) (many : Nat) (row : List Nat) : Nat → Nat
  | 0 => 0
  | i + 1 => numF fl many row i + termF fl many row i
structure FlOk (fl : List (List Nat)) : Prop where
  lt : ∀ r ∈ fl, ∀ y ∈ r, y < fl.length
  so : ∀ r ∈ fl, r.Pairwise (· < ·)
section
variable {fl : List (List Nat)}
theorem sum_cast {α : Type} (f : α → Nat) : ∀ L : List α, (L.map fun y => (f y : Int)).sum = (((L.map f).sum : Nat) : Int)
  | [] => rfl
  | a :: L => by rw [List.map_cons, List.sum_cons, sum_cast f L, List.map_cons, List.sum_cons]; omega
theorem rangeN (m : Nat) : rangeD 0 m = (List.range m).map iN := by
  unfold rangeD
  exact List.map_congr_left fun z _ => by show D.int (0 + (z : Int)) = D.int (z : Int); rw [Int.zero_add]
end
/-! ### the pieces of a list of joins -/
def fowL (l : List Nat) (P : List Pr) : List (List Nat) := (List.range (l.length + P.length)).map fun x => (List.range (l.length + P.length)).filter fun y => (crossF l.length P x y).isNone
section
variable {l : List Nat} {P : List Pr}
theorem fowL_len : (fowL l P).length = l.length + P.length := by simp [fowL]
theorem fowL_at {x : Nat} (hx : x < l.length + P.length) : (fowL l P)[x]? = some ((List.range (l.length + P.length)).filter fun y => (crossF l.length P x y).isNone) := by simp [fowL, hx]
theorem fowL_get {x : Nat} (hx : x < l.length + P.length) : (fowL l P).getD x [] = (List.range (l.length + P.length)).filter fun y => (crossF l.length P x y).isNone := by
  rw [List.getD_eq_getElem?_getD, fowL_at hx]; rfl
theorem fowL_ok : FlOk (fowL l P) := ⟨fun r hr y hy => by
    obtain ⟨x, _, rfl⟩ := List.mem_map.mp hr
    rw [fowL_len]
    exact List.mem_range.mp (List.mem_filter.mp hy).1, fun r hr => by
    obtain ⟨x, _, rfl⟩ := List.mem_map.mp hr
    exact List.Pairwise.filter _ List.pairwise_lt_range⟩
end
end DL
set_option Elab.async false
set_option linter.all false
set_option maxRecDepth 100000
set_option maxHeartbeats 4000000
namespace DL
/-! ### all texts of so many letters, by the pieces of their cuts -/
def allT (l : List Nat) : Nat → List (List Nat)
  | 0 => [[]]
  | m + 1 => (allT l m).flatMap fun t => l.map fun c => t ++ [c]
theorem mem_allT {l : List Nat} : ∀ {m : Nat} {t : List Nat}, t ∈ allT l m ↔ t.length = m ∧ ∀ c ∈ t, c ∈ l
  | 0, t => by
    show t ∈ [[]] ↔ _
    rw [List.mem_singleton]
    constructor
    · rintro rfl; exact ⟨rfl, by simp⟩
    · rintro ⟨h, _⟩; exact List.eq_nil_of_length_eq_zero h
  | m + 1, t => by
    show t ∈ (allT l m).flatMap _ ↔ _
    rw [List.mem_flatMap]
    constructor
    · rintro ⟨u, hu, ht⟩
      obtain ⟨c, hc, rfl⟩ := List.mem_map.mp ht
      obtain ⟨h1, h2⟩ := mem_allT.mp hu
      refine ⟨by simp [h1], fun d hd => ?_⟩
      rcases List.mem_append.mp hd with hd | hd
      · exact h2 d hd
      · rw [List.mem_singleton.mp hd]; exact hc
    · rintro ⟨h1, h2⟩
      have hne : t ≠ [] := fun e => by rw [e] at h1; simp at h1
      have e := List.dropLast_concat_getLast hne
      refine ⟨t.dropLast, mem_allT.mpr ⟨by simp [h1], fun c hc => h2 c ((List.dropLast_sublist t).subset hc)⟩, List.mem_map.mpr ⟨t.getLast hne, h2 _ (List.getLast_mem hne), e⟩⟩
theorem nodup_flatMap {α β : Type} {f : α → List β} : ∀ {xs : List α}, xs.Nodup → (∀ x ∈ xs, (f x).Nodup) → (∀ x ∈ xs, ∀ y ∈ xs, x ≠ y → ∀ z, z ∈ f x → z ∉ f y) → (xs.flatMap f).Nodup
  | [], _, _, _ => by simp
  | x :: xs, h, h1, h2 => by
    obtain ⟨hx, hn⟩ := List.nodup_cons.mp h
    rw [List.flatMap_cons, List.nodup_append]
    refine ⟨h1 x (by simp), nodup_flatMap hn (fun y hy => h1 y (by simp [hy])) (fun a ha b hb => h2 a (by simp [ha]) b (by simp [hb])), fun a ha b hb e => ?_⟩
    obtain ⟨y, hy, hb⟩ := List.mem_flatMap.mp hb
    subst e
    exact h2 x (by simp) y (by simp [hy]) (fun e => hx (by rw [e]; exact hy)) a ha hb
theorem nodup_allT {l : List Nat} (hl : l.Nodup) : ∀ m, (allT l m).Nodup
  | 0 => by show [[]].Nodup; simp
  | m + 1 => by
    refine nodup_flatMap (nodup_allT hl m) (fun t _ => ?_) (fun x _ y _ hxy z hz hz2 => ?_)
    · rw [List.nodup_iff_pairwise_ne, List.pairwise_map]
      exact (List.nodup_iff_pairwise_ne.mp hl).imp fun h e => h (by simpa using e)
    · obtain ⟨c, _, rfl⟩ := List.mem_map.mp hz
      obtain ⟨d, _, e⟩ := List.mem_map.mp hz2
      exact hxy (List.append_inj' e rfl).1.symm
theorem len_allT (l : List Nat) : ∀ m, (allT l m).length = l.length ^ m
  | 0 => rfl
  | m + 1 => by
    show ((allT l m).flatMap _).length = _
    rw [List.length_flatMap]
    have : (allT l m).map (fun t => (l.map fun c => t ++ [c]).length) = (allT l m).map fun _ => l.length := List.map_congr_left fun t _ => by simp
    rw [this, Nat.pow_succ, ← len_allT l m]
    generalize allT l m = xs
    induction xs with
    | nil => simp
    | cons x xs ih => rw [List.map_cons, List.sum_cons, ih, List.length_cons, Nat.succ_mul]; omega
/-- a filter split by what f says -/
theorem filter_parts {α : Type} (f : α → Option Nat) (g : α → Bool) : ∀ (Q : List Nat), Q.Nodup → ∀ xs : List α, (xs.filter fun x => g x && Q.any fun q => decide (f x = some q)).length = (Q.map fun q => (xs.filter fun x => g x && decide (f x = some q)).length).sum
  | [], _, xs => by simp
  | q :: Q, h, xs => by
    obtain ⟨hq, hn⟩ := List.nodup_cons.mp h
    rw [List.map_cons, List.sum_cons, ← filter_parts f g Q hn xs]
    induction xs with
    | nil => simp
    | cons x xs ih =>
      rw [List.filter_cons, List.filter_cons, List.filter_cons]
      by_cases hg : g x = true
      · by_cases e : f x = some q
        · have e2 : (Q.any fun q' => decide (f x = some q')) = false := by
            rw [List.any_eq_false]
            intro q' hq' e3
            have e3 := of_decide_eq_true e3
            rw [e] at e3
            exact hq (by rw [Option.some.inj e3]; exact hq')
          simp only [hg, e2, List.any_cons, e, decide_true, Bool.true_or, Bool.and_self, Bool.and_false, if_true, List.length_cons]
          simp only [List.any_cons] at ih
          rw [if_neg (by simpa using hq)]
          omega
        · simp only [hg, List.any_cons, e, decide_false, Bool.false_or, Bool.true_and, Bool.false_eq_true, if_false] at ih ⊢
          by_cases e2 : (Q.any fun q' => decide (f x = some q')) = true
          · rw [if_pos e2, if_pos e2, List.length_cons, List.length_cons]; omega
          · rw [if_neg e2, if_neg e2]; exact ih
      · have hg : g x = false := by simpa using hg
        simp only [hg, Bool.false_and, Bool.false_eq_true, if_false]
        exact ih
/-- how many texts of m letters have a cut of k pieces, the last one p -/
def cntT (l : List Nat) (P : List Pr) (m k p : Nat) : Nat := ((allT l m).filter fun t => decide ((cutr l P t).length = k) && decide ((cutr l P t).getLast? = some p)).length
section
variable {l : List Nat} {P : List Pr}
theorem cut_app (hnd : l.Nodup) (hg : GoodS l P) {u : List Nat} {p : Nat} (hu : ∀ c ∈ u, c ∈ l) (hp : p < l.length + P.length) (h : u = [] ∨ crossF l.length P (tailF l P u) p = none) : cutr l P (u ++ (txts l P).getD p []) = cutr l P u ++ [p] := by
  obtain ⟨h1, h2, h3⟩ := cutr_ok hnd hg hu
  have hs : sideR l.length P (cutr l P u ++ [p]) := by
    by_cases e : u = []
    · subst e
      rw [cutr_nil hnd hg]
      exact side_one _ _ _
    · have h := h.resolve_left e
      obtain ⟨u', R, _, e2, _, _, _⟩ := cutr_snoc hnd hg hu e
      rw [e2] at h2 ⊢
      exact side_app.mpr ⟨h2, h, side_one _ _ _⟩
  have := cutr_of hnd hg (row := cutr l P u ++ [p]) (fun x hx => by
    rcases List.mem_append.mp hx with hx | hx
    · exact h1 x hx
    · rw [List.mem_singleton.mp hx]; exact hp) hs
  rw [tx_app, tx_one, h3] at this
  exact this
def okP (l : List Nat) (P : List Pr) (u : List Nat) (p : Nat) : Bool := decide (u = []) || (crossF l.length P (tailF l P u) p).isNone
theorem cntT_eq (hnd : l.Nodup) (hg : GoodS l P) {m k p : Nat} (hp : p < l.length + P.length) (hm : ((txts l P).getD p []).length ≤ m) :
    cntT l P m k p = ((allT l (m - ((txts l P).getD p []).length)).filter fun u => decide ((cutr l P u).length + 1 = k) && okP l P u p).length := by
  generalize hx : (txts l P).getD p [] = x at *
  have hxl : ∀ c ∈ x, c ∈ l := fun c hc => by rw [← hx] at hc; exact getD_mem _ c hc
  have hw := good_wf P hg
  unfold cntT
  have key : ((allT l m).filter fun t => decide ((cutr l P t).length = k) && decide ((cutr l P t).getLast? = some p)).Perm (((allT l (m - x.length)).filter fun u => decide ((cutr l P u).length + 1 = k) && okP l P u p).map (· ++ x)) := by
    refine (List.perm_ext_iff_of_nodup ((nodup_allT hnd m).filter _) ?_).mpr fun t => ?_
    · rw [List.nodup_iff_pairwise_ne, List.pairwise_map]
      exact (List.nodup_iff_pairwise_ne.mp ((nodup_allT hnd _).filter _)).imp fun h e => h (List.append_cancel_right e)
    · rw [List.mem_filter, List.mem_map]
      simp only [Bool.and_eq_true, decide_eq_true_eq]
      constructor
      · rintro ⟨h1, h2, h3⟩
        obtain ⟨g1, g2⟩ := mem_allT.mp h1
        have hne : t ≠ [] := fun e => by
          rw [e, cutr_nil hnd hg] at h3
          simp at h3
        obtain ⟨u, R, e1, e2, e3, e4, e5⟩ := cutr_snoc hnd hg g2 hne
        have ep : tailF l P t = p := by
          rw [e2, List.getLast?_concat] at h3
          exact Option.some.inj h3
        rw [ep] at e1 e2 e5
        rw [hx] at e1
        refine ⟨u, List.mem_filter.mpr ⟨mem_allT.mpr ⟨by rw [← g1, e1, List.length_append]; omega, fun c hc => g2 c (by rw [e1]; exact List.mem_append_left _ hc)⟩, ?_⟩, e1.symm⟩
        rw [Bool.and_eq_true, decide_eq_true_eq]
        refine ⟨by rw [e3, ← h2, e2, List.length_append]; rfl, ?_⟩
        unfold okP
        rcases e5 with e5 | e5
        · simp [e5]
        · simp [e5]
      · rintro ⟨u, hu, rfl⟩
        obtain ⟨hu1, hu2⟩ := List.mem_filter.mp hu
        obtain ⟨g1, g2⟩ := mem_allT.mp hu1
        rw [Bool.and_eq_true, decide_eq_true_eq] at hu2
        obtain ⟨hk, ho⟩ := hu2
        have ho2 : u = [] ∨ crossF l.length P (tailF l P u) p = none := by
          unfold okP at ho
          rcases Bool.or_eq_true_iff.mp ho with h | h
          · exact .inl (of_decide_eq_true h)
          · exact .inr (Option.isNone_iff_eq_none.mp h)
        have ec := cut_app hnd hg g2 hp ho2
        rw [hx] at ec
        refine ⟨mem_allT.mpr ⟨by rw [List.length_append, g1]; omega, fun c hc => ?_⟩, ?_, ?_⟩
        · rcases List.mem_append.mp hc with hc | hc
          · exact g2 c hc
          · exact hxl c hc
        · rw [ec, List.length_append]; exact hk
        · rw [ec, List.getLast?_concat]
  rw [key.length_eq, List.length_map]
theorem cntT_small {m k p : Nat} (hnd : l.Nodup) (hg : GoodS l P) (hm : m < ((txts l P).getD p []).length) : cntT l P m k p = 0 := by
  unfold cntT
  rw [List.length_eq_zero_iff, List.filter_eq_nil_iff]
  intro t ht h
  rw [Bool.and_eq_true, decide_eq_true_eq, decide_eq_true_eq] at h
  obtain ⟨g1, g2⟩ := mem_allT.mp ht
  have hne : t ≠ [] := fun e => by
    rw [e, cutr_nil hnd hg] at h
    simp at h
  obtain ⟨u, R, e1, e2, e3, e4, e5⟩ := cutr_snoc hnd hg g2 hne
  have ep : tailF l P t = p := by
    have h3 := h.2
    rw [e2, List.getLast?_concat] at h3
    exact Option.some.inj h3
  rw [ep] at e1
  have := congrArg List.length e1
  rw [List.length_append] at this
  omega
theorem cntT_whole (hnd : l.Nodup) (hg : GoodS l P) {k p : Nat} (hp : p < l.length + P.length) : cntT l P ((txts l P).getD p []).length k p = if k = 1 then 1 else 0 := by
  rw [cntT_eq hnd hg hp (Nat.le_refl _), Nat.sub_self]
  show ([[]].filter _).length = _
  rw [List.filter_cons, cutr_nil hnd hg]
  by_cases h : k = 1
  · subst h; simp [okP]
  · have : ¬ (0 + 1 = k) := fun e => h e.symm
    simp [h, okP, this]
theorem cntT_more (hnd : l.Nodup) (hg : GoodS l P) {m k p : Nat} (hp : p < l.length + P.length) (hm : ((txts l P).getD p []).length < m) : cntT l P m (k + 1) p = (((List.range (l.length + P.length)).filter fun q => (crossF l.length P q p).isNone).map fun q => cntT l P (m - ((txts l P).getD p []).length) k q).sum := by
  rw [cntT_eq hnd hg hp (Nat.le_of_lt hm)]
  generalize (txts l P).getD p [] = x at *
  have hn : ((List.range (l.length + P.length)).filter fun q => (crossF l.length P q p).isNone).Nodup := List.nodup_range.filter _
  have := filter_parts (fun t => (cutr l P t).getLast?) (fun t => decide ((cutr l P t).length = k)) _ hn (allT l (m - x.length))
  unfold cntT
  rw [← this]
  congr 1
  refine List.filter_congr fun u hu => ?_
  obtain ⟨g1, g2⟩ := mem_allT.mp hu
  have hne : u ≠ [] := fun e => by rw [e] at g1; simp at g1; omega
  obtain ⟨v, R, e1, e2, e3, e4, e5⟩ := cutr_snoc hnd hg g2 hne
  have ek : decide ((cutr l P u).length + 1 = k + 1) = decide ((cutr l P u).length = k) := decide_eq_decide.mpr (by omega)
  rw [ek]
  congr 1
  unfold okP
  rw [e2, List.getLast?_concat, Bool.eq_iff_iff, List.any_eq_true]
  constructor
  · intro h
    have h : (crossF l.length P (tailF l P u) p).isNone = true := by simpa [hne] using h
    exact ⟨tailF l P u, List.mem_filter.mpr ⟨List.mem_range.mpr e4, h⟩, by simp⟩
  · rintro ⟨q, hq, e⟩
    have e := Option.some.inj (of_decide_eq_true e)
    have := (List.mem_filter.mp hq).2
    rw [← e] at this
    simp [this]
theorem cntT_zero (hnd : l.Nodup) (hg : GoodS l P) {m p : Nat} : cntT l P m 0 p = 0 := by
  unfold cntT
  rw [List.length_eq_zero_iff, List.filter_eq_nil_iff]
  intro t ht h
  rw [Bool.and_eq_true, decide_eq_true_eq, decide_eq_true_eq] at h
  rw [List.eq_nil_of_length_eq_zero h.1] at h
  simp at h
/-- how many texts of m letters have a cut of k pieces -/
def cntK (l : List Nat) (P : List Pr) (m k : Nat) : Nat := ((allT l m).filter fun t => decide ((cutr l P t).length = k)).length
theorem cntK_sum (hnd : l.Nodup) (hg : GoodS l P) {m k : Nat} (hm : 1 ≤ m) : cntK l P m k = ((List.range (l.length + P.length)).map fun p => cntT l P m k p).sum := by
  have := filter_parts (fun t => (cutr l P t).getLast?) (fun t => decide ((cutr l P t).length = k)) (List.range (l.length + P.length)) List.nodup_range (allT l m)
  unfold cntT
  rw [← this]
  unfold cntK
  congr 1
  refine List.filter_congr fun u hu => ?_
  obtain ⟨g1, g2⟩ := mem_allT.mp hu
  have hne : u ≠ [] := fun e => by rw [e] at g1; simp at g1; omega
  obtain ⟨v, R, e1, e2, e3, e4, e5⟩ := cutr_snoc hnd hg g2 hne
  have : ((List.range (l.length + P.length)).any fun q => decide ((cutr l P u).getLast? = some q)) = true := by
    rw [List.any_eq_true]
    exact ⟨tailF l P u, List.mem_range.mpr e4, by rw [e2, List.getLast?_concat]; simp⟩
  rw [this, Bool.and_true]
end
end DL
set_option Elab.async false
set_option linter.all false
set_option maxRecDepth 100000
set_option maxHeartbeats 4000000
namespace DL
/-! ### the table of texts_by_pieces -/
section
variable {l : List Nat} {P : List Pr}
def pl (l : List Nat) (P : List Pr) (p : Nat) : Nat := ((txts l P).getD p []).length
theorem pl_pos (hg : GoodS l P) {p : Nat} (hp : p < l.length + P.length) : 1 ≤ pl l P p := getD_len (good_wf P hg) hp
def partS (l : List Nat) (P : List Pr) (m k p a : Nat) : Nat := (((List.range a).filter fun q => (crossF l.length P q p).isNone).map fun q => cntT l P m k q).sum
theorem partS_zero (m k p : Nat) : partS l P m k p 0 = 0 := rfl
theorem partS_succ (m k p a : Nat) : partS l P m k p (a + 1) = partS l P m k p a + if (crossF l.length P a p).isNone = true then cntT l P m k a else 0 := by
  unfold partS
  rw [List.range_succ, List.filter_append, List.map_append, List.sum_append]
  congr 1
  by_cases h : (crossF l.length P a p).isNone = true
  · rw [if_pos h]; simp [h]
  · rw [if_neg h]; simp [h]
theorem partS_full (hnd : l.Nodup) (hg : GoodS l P) {m k p : Nat} (hp : p < l.length + P.length) (hm : 1 ≤ m) : partS l P m k p (l.length + P.length) = cntT l P (m + pl l P p) (k + 1) p := by
  have := cntT_more hnd hg (m := m + pl l P p) (k := k) hp (by unfold pl; omega)
  rw [this]
  unfold partS pl
  rw [Nat.add_sub_cancel]
def tV (l : List Nat) (P : List Pr) (m a : Nat) (S : List Nat) (e p k : Nat) : Nat :=
  if e = pl l P p then (if k = 1 then 1 else 0) else if pl l P p < e ∧ e - pl l P p < m then cntT l P e k p else if e = m + pl l P p then (if k = 0 then 0 else partS l P m (k - 1) p a + if p ∈ S then cntT l P m (k - 1) a else 0) else 0
theorem tV_row (hnd : l.Nodup) (hg : GoodS l P) {m a : Nat} {S : List Nat} {p k : Nat} (hp : p < l.length + P.length) : tV l P m a S m p k = cntT l P m k p := by
  have h1 := pl_pos hg hp
  unfold tV
  by_cases e : m = pl l P p
  · rw [if_pos e]
    have := cntT_whole hnd hg (k := k) hp
    rw [show ((txts l P).getD p []).length = pl l P p from rfl, ← e] at this
    exact this.symm
  · rw [if_neg e]
    by_cases h2 : pl l P p < m
    · rw [if_pos ⟨h2, by omega⟩]
    · rw [if_neg (fun q => h2 q.1), if_neg (by omega)]
      exact (cntT_small hnd hg (show m < ((txts l P).getD p []).length by unfold pl at e h2; omega)).symm
theorem tV_start (e p k : Nat) : tV l P 1 0 [] e p k = if e = pl l P p then (if k = 1 then 1 else 0) else 0 := by
  unfold tV
  by_cases h : e = pl l P p
  · rw [if_pos h, if_pos h]
  · rw [if_neg h, if_neg h, if_neg (fun q => by have := q.1; have := q.2; omega)]
    by_cases h2 : e = 1 + pl l P p
    · rw [if_pos h2]
      simp [partS_zero]
    · rw [if_neg h2]
theorem tV_next {m a : Nat} {S : List Nat} {e p k : Nat} (hS : p ∈ S ↔ (crossF l.length P a p).isNone = true) : tV l P m a S e p k = tV l P m (a + 1) [] e p k := by
  unfold tV
  by_cases h : e = pl l P p
  · rw [if_pos h, if_pos h]
  · rw [if_neg h, if_neg h]
    by_cases h2 : pl l P p < e ∧ e - pl l P p < m
    · rw [if_pos h2, if_pos h2]
    · rw [if_neg h2, if_neg h2]
      by_cases h3 : e = m + pl l P p
      · rw [if_pos h3, if_pos h3]
        by_cases hk : k = 0
        · rw [if_pos hk, if_pos hk]
        · rw [if_neg hk, if_neg hk, partS_succ, if_neg (show ¬ p ∈ ([] : List Nat) by simp), Nat.add_zero]
          by_cases q : p ∈ S
          · rw [if_pos q, if_pos (hS.mp q)]
          · rw [if_neg q, if_neg (fun z => q (hS.mpr z))]
      · rw [if_neg h3, if_neg h3]
theorem tV_skip {m a : Nat} (h0 : ∀ k, cntT l P m k a = 0) {S : List Nat} {e p k : Nat} : tV l P m a S e p k = tV l P m (a + 1) [] e p k := by
  unfold tV
  by_cases h : e = pl l P p
  · rw [if_pos h, if_pos h]
  · rw [if_neg h, if_neg h]
    by_cases h2 : pl l P p < e ∧ e - pl l P p < m
    · rw [if_pos h2, if_pos h2]
    · rw [if_neg h2, if_neg h2]
      by_cases h3 : e = m + pl l P p
      · rw [if_pos h3, if_pos h3]
        by_cases hk : k = 0
        · rw [if_pos hk, if_pos hk]
        · rw [if_neg hk, if_neg hk, partS_succ, h0, if_neg (show ¬ p ∈ ([] : List Nat) by simp)]
          simp
      · rw [if_neg h3, if_neg h3]
theorem tV_end (hnd : l.Nodup) (hg : GoodS l P) {m e p k : Nat} (hm : 1 ≤ m) (hp : p < l.length + P.length) : tV l P m (l.length + P.length) [] e p k = tV l P (m + 1) 0 [] e p k := by
  unfold tV
  by_cases h : e = pl l P p
  · rw [if_pos h, if_pos h]
  · rw [if_neg h, if_neg h]
    by_cases h2 : pl l P p < e ∧ e - pl l P p < m
    · rw [if_pos h2, if_pos ⟨h2.1, by omega⟩]
    · rw [if_neg h2]
      by_cases h3 : e = m + pl l P p
      · rw [if_pos h3, if_pos (show pl l P p < e ∧ e - pl l P p < m + 1 from ⟨by omega, by omega⟩)]
        by_cases hk : k = 0
        · rw [if_pos hk, hk, cntT_zero hnd hg]
        · rw [if_neg hk, if_neg (show ¬ p ∈ ([] : List Nat) by simp), Nat.add_zero, partS_full hnd hg hp hm, h3, show k - 1 + 1 = k by omega]
      · rw [if_neg h3, if_neg (fun q => by have := q.1; have := q.2; omega)]
        by_cases h4 : e = m + 1 + pl l P p
        · rw [if_pos h4]
          simp [partS_zero]
        · rw [if_neg h4]
theorem tV_step (hg : GoodS l P) {m a : Nat} {S : List Nat} {p k : Nat} (hp : p ∉ S) (hm : 1 ≤ m) : tV l P m a (S ++ [p]) (m + pl l P p) p k = tV l P m a S (m + pl l P p) p k + if 1 ≤ k then cntT l P m (k - 1) a else 0 := by
  unfold tV
  rw [if_neg (show ¬ m + pl l P p = pl l P p by omega), if_neg (show ¬ m + pl l P p = pl l P p by omega), if_neg (show ¬ (pl l P p < m + pl l P p ∧ m + pl l P p - pl l P p < m) by omega), if_neg (show ¬ (pl l P p < m + pl l P p ∧ m + pl l P p - pl l P p < m) by omega), if_pos rfl, if_pos rfl]
  by_cases hk : k = 0
  · rw [if_pos hk, if_pos hk, if_neg (by omega)]
  · rw [if_neg hk, if_neg hk, if_pos (show p ∈ S ++ [p] by simp), if_neg hp, if_pos (by omega)]
    omega
theorem tV_other {m a : Nat} {S : List Nat} {e p p' k : Nat} (h : ¬ (e = m + pl l P p ∧ p' = p)) : tV l P m a (S ++ [p]) e p' k = tV l P m a S e p' k := by
  unfold tV
  by_cases h1 : e = pl l P p'
  · rw [if_pos h1, if_pos h1]
  · rw [if_neg h1, if_neg h1]
    by_cases h2 : pl l P p' < e ∧ e - pl l P p' < m
    · rw [if_pos h2, if_pos h2]
    · rw [if_neg h2, if_neg h2]
      by_cases h3 : e = m + pl l P p'
      · rw [if_pos h3, if_pos h3]
        have hpp : p' ≠ p := fun q => h ⟨by rw [← q]; exact h3, q⟩
        have hm : p' ∈ S ++ [p] ↔ p' ∈ S := by simp [hpp]
        by_cases hS : p' ∈ S
        · rw [if_pos (hm.mpr hS), if_pos hS]
        · rw [if_neg (fun z => hS (hm.mp z)), if_neg hS]
      · rw [if_neg h3, if_neg h3]
theorem cntK_zero : cntK l P 0 0 = 1 := by
  unfold cntK
  show ([[]].filter _).length = 1
  have : cutr l P [] = [] := by
    have := cutr_len (l := l) (P := P) []
    exact List.eq_nil_of_length_eq_zero (Nat.le_zero.mp this)
  rw [List.filter_cons, this]
  rfl
/-- all texts are counted -/
theorem cntK_all (m : Nat) : ((List.range (m + 1)).map fun k => cntK l P m k).sum = l.length ^ m := by
  rw [← len_allT l m]
  have := filter_parts (fun t => some (cutr l P t).length) (fun _ => true) (List.range (m + 1)) List.nodup_range (allT l m)
  have e : ((List.range (m + 1)).map fun k => cntK l P m k) = (List.range (m + 1)).map fun q => ((allT l m).filter fun x => true && decide (some (cutr l P x).length = some q)).length := by
    refine List.map_congr_left fun k _ => ?_
    unfold cntK
    congr 1
    refine List.filter_congr fun t _ => ?_
    simp
  rw [e, ← this]
  congr 1
  rw [List.filter_eq_self]
  intro t ht
  obtain ⟨g1, _⟩ := mem_allT.mp ht
  rw [Bool.true_and, List.any_eq_true]
  have := cutr_len (l := l) (P := P) t
  exact ⟨(cutr l P t).length, List.mem_range.mpr (by omega), by simp⟩
end
end DL
set_option Elab.async false
set_option linter.all false
set_option maxRecDepth 100000
set_option maxHeartbeats 4000000
namespace DL
open PySem PySem.Spec PyProof.Rows
open L2 hiding Takes passAt takes_of ps_raise PMk ps_try_as
open L2N (Takes passAt takes_of ps_raise PMk ps_try_as)
/-! ### list.extend of another list -/
set_option maxRecDepth 8000 in
theorem ext_lst (l b : Addr) (hlb : l ≠ b) (xs ys : Array Value) (n n2 : Nat) (dd : Option Addr) (sl : Array (Option Value))
    (h0 : ¬(!xs.isEmpty && Builtin.List.listTooLong (xs.size + ys.size)) = true) (h1 : xs.size ≤ sizeLine)
    (h2 : xs.size + ys.size ≤ sizeLine + 1) :
    Meets (Builtin.«list.extend» ⟨[.ref l, .ref b], []⟩) (fun _ R s =>
      s.heap.get? l = some { cls := .type "list", dict := none, data := .seq xs n, slots := #[] } ∧
      s.heap.get? b = some { cls := .type "list", dict := dd, data := .seq ys n2, slots := sl } ∧
      R (.ok (.ret Value.none)) { s with heap := s.heap.update l (Obj.mapSeq fun x => x ++ ys), toks := s.toks }) :=
  .of_wp fun prog w A R s h => by
    obtain ⟨hp, g, d, tk, os⟩ := s
    obtain ⟨hl, hb, h⟩ := h
    have f1 := AutoSeq1.idx_int
    have f2 := AutoSeq1.sub_tuple_tuple
    have f3 := AutoSeq1.sub_list_list
    have f4 := AutoSeq1.sub_tuple_list
    have f5 := AutoSeq1.sub_list_tuple
    have h2' : (xs ++ ys).size ≤ sizeLine + 1 := by rw [Array.size_append]; exact h2
    have hne : Builtin.List.listSameRef (.ref l) (.ref b) = false := by simp [Builtin.List.listSameRef, hlb]
    wp_walk using (wpAny_updateSeq hl rfl (hz := h1) (_hz' := h2')), wpAny_loadPart' hl, wpAny_loadPart' hb
    exact ⟨_, rfl, h⟩
def rExtL (X : Cx) : V → List V → Hp → VK → Prop := fun x vs H Q => ∃ l b xs zs, x = .ref l ∧ vs = [.ref b] ∧ l ≠ b ∧ H l = some (.lst xs) ∧ H b = some (.lst zs) ∧
  xs.length + zs.length ≤ sizeLine ∧ Q .non (upd H l (.lst (xs ++ zs)))
theorem mt_extL {X : Cx} : MtR X "list.extend" (rExtL X) := by
  intro pins s σ H x vs v us Q I rx rv h
  obtain ⟨l, b, xs, zs, rfl, rfl, hlb, hH, hB, hz, q⟩ := h
  cases rx
  obtain ⟨u, rfl, ru⟩ := rv.one
  cases ru
  obtain ⟨z, its, n, r, hl, e⟩ := I.lstM hH
  obtain ⟨z2, its2, n2, r2, hl2, e2⟩ := I.lstM hB
  have k1 := r.length
  have k2 := r2.length
  have hsz : its.toArray.size + its2.toArray.size ≤ sizeLine := by rw [List.size_toArray, List.size_toArray]; omega
  have hlong : ¬ (!its.toArray.isEmpty && Builtin.List.listTooLong (its.toArray.size + its2.toArray.size)) = true := by
    rw [notLongL hsz, Bool.and_false]
    exact Bool.false_ne_true
  refine call_meets PySem.F.slot_list_extend ⟨_, e, rfl⟩ PySem.F.entry_list_extend (PySem.F.args_list_extend_2 _ _)
    (ext_lst l b hlb its.toArray its2.toArray n n2 none #[] hlong (by omega) (by omega)) ⟨e, e2, ?_⟩
  exact ⟨.non, _, I.lset (its' := its ++ its2) hH e (by simp) (r.append r2) (by rw [List.length_append]; omega), rfl, q⟩
section
variable {C : DC} {env : Nv} {S : Sto} {Ψ : R → Sto → Prop} {pos apos : Pos} {o e : Expr}
theorem we_extL (h : WE C o env S fun r S1 => ∃ k ds, r = .loc k ∧ S1[k]? = some (nl ds) ∧ WE C e env S1 fun q S2 => ∃ k2 es ds2, q = .loc k2 ∧ k ≠ k2 ∧ S2[k2]? = some (nl es) ∧ S2[k]? = some (nl ds2) ∧ ds2.length + es.length ≤ sizeLine ∧ Ψ (.val .non) (S2.set k (nl (ds2 ++ es))))
    (hbase : ∀ X : Cx, attributeBase o "extend" X.env (eval o X.env) = eval o X.env) (hfew : ∀ X : Cx, ((backTo pos (starEach [e] X.env)).all (fun x => !x.1) && (backToKw pos (keywordEach [] X.env)).all (fun x => x.1.isSome) && decide ([e].length + ([] : List Keyword).length + (if ([] : List Keyword).isEmpty then 0 else 1) < 30)) = true)
    (hline : (apos.endLine == pos.line) = true) (hs : ∀ X : Cx, starEach [e] X.env = (false, eval e X.env) :: starEach [] X.env) (hpl : ∀ X : Cx, (backTo pos (starEach [] X.env)).any (·.1) = false) : WE C (.Call (.Attribute o "extend" apos) [e] [] pos) env S Ψ := fun X W bb ok tk w σ H rp en xc Q n => by
  refine ⟨_, pe_bm PySem.F.plainAttrs_list PySem.F.slot_list_extend PySem.F.type_list_extend mt_extL cE_ok (pa_cons cE_ok pa_nil (hs X)) (hbase X) (hfew X) hline (hs X) (hpl X), ?_⟩
  refine h X W bb ok tk w σ H rp en xc _ fun w1 S1 H1 r v l1 r1 i1 ⟨k, ds, e1, hk, k1⟩ => ?_
  subst e1
  obtain ⟨a, ha, ev⟩ := i1
  subst ev
  obtain ⟨a', h3, _, _, vs, h4, h5⟩ := r1.at_ _ _ hk rfl
  rw [ha] at h3; cases h3
  refine ⟨.inl ⟨rfl, vs, SqL.of h4⟩, ?_⟩
  refine k1 X W bb ok tk w1 σ H1 r1 (en.mono l1) (xc.mono l1) _ fun w2 S2 H2 q u l2 r2 i2 ⟨k2, es, ds2, e2, hkk, hk2e, hk2, hz, k2'⟩ => ?_
  subst e2
  obtain ⟨p, hpa, e3⟩ := i2
  subst e3
  obtain ⟨p', hp3, _, _, zs, hp4, hp5⟩ := r2.at_ _ _ hk2e rfl
  rw [hpa] at hp3; cases hp3
  obtain ⟨a', g3, _, _, us, g4, g5⟩ := r2.at_ _ _ hk2 rfl
  have ha2 := l2.at_ ha
  rw [ha2] at g3; cases g3
  have g5' : IsL C.g.K w2.G ds2 us := IsRs.vals.mp g5
  have hzs : IsL C.g.K w2.G es zs := IsRs.vals.mp hp5
  have z1 := IsL.length g5'
  have z2 := IsL.length hzs
  have hap : a ≠ p := fun q => hkk (r2.inj k k2 _ _ a hk2 rfl hk2e rfl ha2 (by rw [q]; exact hpa))
  refine ⟨a, p, us, zs, rfl, rfl, hap, g4, hp4, by omega, ?_⟩
  have r3 := r2.write hk2 rfl ha2 (n' := nl (ds2 ++ es)) (o := .lst (us ++ zs)) ⟨us ++ zs, upd_same, IsRs.vals.mpr (IsL.append g5' hzs)⟩
  exact n w2 _ _ (.val .non) _ (l1.trans l2) r3 rfl k2'
end
end DL
set_option Elab.async false
set_option linter.all false
set_option maxRecDepth 100000
set_option maxHeartbeats 4000000
namespace DL
open PySem PySem.Spec PyProof.Rows
open L2 hiding Takes passAt takes_of ps_raise PMk ps_try_as
open L2N (Takes passAt takes_of ps_raise PMk ps_try_as)
/-! ### dicts by tuples: keys told one by one, a value exchanged -/
section
variable {K : PySem.W.Frag} {b : Base} {w : Wd} {S : Sto} {H : Hp} {q : Addr} {us : List V}
theorem Rp.know (r : Rp K b w S H) (h : H q = some (.tup us)) : ∃ w', Le w w' ∧ Rp K b w' S H ∧ w'.G q = some (.tup us) := by
  cases hg : w.G q with
  | some o =>
    have e := r.ex _ _ hg
    rw [h] at e
    cases e
    exact ⟨w, Le.refl _, r, hg⟩
  | none =>
    have l : Le w ⟨upd w.G q (.tup us), w.as⟩ := ⟨Ex.upd hg, [], by simp⟩
    refine ⟨⟨upd w.G q (.tup us), w.as⟩, l, ⟨fun a u e => ?_, r.len, r.pre, fun k n hn hl => ?_, r.inj, r.fr, r.th, fun a o e => ?_⟩, upd_same⟩
    · have e : upd w.G q (.tup us) a = some u := e
      by_cases z : a = q
      · subst z; rw [upd_same] at e; rw [h]; exact e
      · rw [upd_ne z] at e; exact r.ex a u e
    · obtain ⟨a, h1, h2, h4, h5⟩ := r.at_ k n hn hl
      have na : a ≠ q := fun z => by subst z; exact (NodeAt.noTup h h5).elim
      exact ⟨a, h1, (upd_ne na).trans h2, h4, h5.move l rfl⟩
    · have e : upd w.G q (.tup us) a = some o := e
      by_cases z : a = q
      · subst z; rw [upd_same] at e; cases e; exact .inr (.inr ⟨_, rfl⟩)
      · rw [upd_ne z] at e; exact r.gn a o e
theorem keyD_is {G : Hp} : ∀ k : List Key, IsL K G (k.map kD) (k.map kV)
  | [] => rfl
  | .inl i :: r => .cons rfl (keyD_is r)
  | .inr s :: r => .cons rfl (keyD_is r)
def keyT (k : List Key) : D := .tup (k.map kD)
theorem Rp.keys (r : Rp K b w S H) : ∀ {kvs : List (List Key × V)} {bs : List Addr}, IsKeys H kvs bs → ∃ w', Le w w' ∧ Rp K b w' S H ∧ IsL K w'.G (kvs.map fun p => keyT p.1) (bs.map V.ref) := fun {kvs} {bs} h => by
  unfold IsKeys at h
  induction h with
  | nil => exact ⟨w, Le.refl _, r, rfl⟩
  | @cons p a kvs bs h t ih =>
    obtain ⟨w1, l1, r1, i1⟩ := ih
    obtain ⟨w2, l2, r2, i2⟩ := r1.know h
    exact ⟨w2, l1.trans l2, r2, .cons ⟨a, _, rfl, i2, keyD_is _⟩ (IsL.mono l2.g _ _ i1)⟩
theorem zip_fst {α β γ : Type} (f : α → γ) : ∀ {ks : List α} {vs : List β}, ks.length = vs.length → (ks.zip vs).map (fun p => f p.1) = ks.map f
  | [], [], _ => rfl
  | k :: ks, v :: vs, h => by rw [List.zip_cons_cons, List.map_cons, List.map_cons, zip_fst f (by simpa using h)]
  | [], _ :: _, h => by simp at h
  | _ :: _, [], h => by simp at h
end
section
variable {C : DC} {env : Nv} {S : Sto} {Ψ : R → Sto → Prop} {E : Nd} {pos p2 : Pos} {o i v e tg : Expr} {st : Stmt} {Λ : List D → (Sto → Prop) → Sto → Prop}
/-- list(d) -/
theorem wc_listT {k : Nat} {ks : List (List Key)} {rs : List R} (hc : C.calm = true) (hk : S[k]? = some (.dT ks rs)) (h : Ψ (.loc S.length) (S ++ [nl (ks.map keyT)])) : WC C (.type "list") [.loc k] S Ψ := fun X b ok w H rp vs hv Q n => by
  obtain ⟨v, e, h1⟩ := vals1' hv
  obtain ⟨a, ha, e1⟩ := h1
  subst e e1
  obtain ⟨a', h3, _, _, us, h4, h5, h6⟩ := rp.at_ _ _ hk rfl
  rw [ha] at h3; cases h3
  refine ⟨_, call_list_dT (ok.calm hc).1, a, _, rfl, .inl h4, fun l bs hl hb => ?_⟩
  obtain ⟨w1, l1, r1, i1⟩ := rp.keys hb
  rw [zip_fst _ h5] at i1
  obtain ⟨r2, l2⟩ := r1.alloc (n := nl (ks.map keyT)) (o := .lst (bs.map V.ref)) hl ⟨_, upd_same, IsRs.vals.mpr i1⟩
  exact n _ _ _ (.loc S.length) _ (l1.trans l2) r2 ⟨l, by show (w1.as ++ [l])[S.length]? = some l; rw [← r1.len]; simp, rfl⟩ h
/-- d[key] = z, the key there or not -/
def putO {α : Type} (ks : List (List Key)) (rs : List α) (k : List Key) (z : α) : List α := List.zipWith (fun k' u => if k' = k then z else u) ks rs
theorem putK_old {k : List Key} {v : V} : ∀ {ks : List (List Key)} {vs : List V}, (ks.zip vs).map (fun kv => if kv.1 = k then (kv.1, v) else kv) = ks.zip (putO ks vs k v)
  | [], _ => rfl
  | _ :: _, [] => rfl
  | a :: ks, u :: vs => by
    unfold putO
    rw [List.zip_cons_cons, List.map_cons, List.zipWith_cons_cons, List.zip_cons_cons, putK_old (ks := ks) (vs := vs)]
    by_cases h : a = k
    · rw [if_pos h, if_pos h]; rfl
    · rw [if_neg h, if_neg h]; rfl
theorem putO_is {K : PySem.W.Frag} {B : Hp} {w : Wd} {k : List Key} {z : R} {zv : V} (hz : IsR K B w z zv) : ∀ {ks : List (List Key)} {rs : List R} {vs : List V}, IsRs K B w rs vs → IsRs K B w (putO ks rs k z) (putO ks vs k zv)
  | [], _, _, _ => rfl
  | _ :: _, [], _, h => by have h : _ = _ := h; subst h; rfl
  | a :: ks, r :: rs, _, ⟨u, t, e, h1, h2⟩ => by
    subst e
    unfold putO
    rw [List.zipWith_cons_cons, List.zipWith_cons_cons]
    refine .cons ?_ (putO_is hz h2)
    by_cases h : a = k
    · rw [if_pos h, if_pos h]; exact hz
    · rw [if_neg h, if_neg h]; exact h1
theorem ws_putO {k : List Key} (h : WE C v env S fun z S1 => WE C o env S1 fun r S2 => WE C i env S2 fun y S3 => ∃ (j : Nat) (ks : List (List Key)) (rs : List R), r = .loc j ∧ y = .val (keyT k) ∧ S3[j]? = some (.dT ks rs) ∧ ks.length < sizeLine ∧ (k ∈ ks → E.nx env (S3.set j (.dT ks (putO ks rs k z)))) ∧ (k ∉ ks → E.nx env (S3.set j (.dT (ks ++ [k]) (rs ++ [z])))))
    (hs : ∀ X : Cx, swapsWith v (some (.Subscript o i p2)) pos.line X.env = pure false) : WS C (.Assign [.Subscript o i p2] v pos) env S E := fun X W bb ok tk w σ H rp en xc D n => by
  refine ⟨_, ps_dput ok.u1 cE_ok cE_ok cE_ok (hs X), ?_⟩
  refine h X W bb ok tk w σ H rp en xc _ fun w1 S1 H1 z zv l1 r1 i1 k1 => ?_
  refine k1 X W bb ok tk w1 σ H1 r1 (en.mono l1) (xc.mono l1) _ fun w2 S2 H2 r v l2 r2 i2 k2 => ?_
  refine k2 X W bb ok tk w2 σ H2 r2 (en.mono (l1.trans l2)) (xc.mono (l1.trans l2)) _ fun w3 S3 H3 y u l3 r3 i3 ⟨j, ks, rs, er, ey, hk, hl, k3, k4⟩ => ?_
  subst er ey
  have l13 := (l1.trans l2).trans l3
  have iz := i1.mono (l2.trans l3)
  obtain ⟨a, ha, ev⟩ := i2.mono l3
  subst ev
  obtain ⟨a', h3, _, _, vs, h4, h5, h6⟩ := r3.at_ _ _ hk rfl
  rw [ha] at h3; cases h3
  obtain ⟨q, us, e2, g1, g2⟩ := i3
  have g2 := kDs_is g2
  subst e2 g2
  refine ⟨a, _, rfl, DPut.t h4 (r3.ex _ _ g1) (by rw [List.length_zip]; omega), ?_⟩
  by_cases hm : k ∈ ks
  · have k3 := k3 hm
    have hp : putK (ks.zip vs) k zv = ks.zip (putO ks vs k zv) := by
      unfold putK
      rw [if_pos, putK_old]
      obtain ⟨t, ht, e⟩ := List.getElem_of_mem hm
      rw [List.any_eq_true]
      refine ⟨(ks[t], vs[t]'(by omega)), List.mem_of_getElem? (i := t) ?_, decide_eq_true e⟩
      rw [List.getElem?_zip_eq_some]
      exact ⟨List.getElem?_eq_getElem ht, List.getElem?_eq_getElem (by omega)⟩
    rw [hp]
    exact n.nx w3 _ _ env σ (l13.n _) (r3.write (n' := .dT ks (putO ks rs k z)) hk rfl ha ⟨_, upd_same, by unfold putO; rw [List.length_zipWith]; omega, putO_is iz h6⟩) (en.mono l13) k3
  · have k3 := k4 hm
    rw [putK_new h5 hm]
    exact n.nx w3 _ _ env σ (l13.n _) (r3.write (n' := .dT (ks ++ [k]) (rs ++ [z])) hk rfl ha ⟨vs ++ [zv], upd_same, by simp [h5], h6.append (.cons iz .nil)⟩) (en.mono l13) k3
def lkD (o : Obj) (ks : List (List Key)) (ns : List Int) : Node := .lkT o ks ((ns.map D.int).map .val)
def dtD (ks : List (List Key)) (ns : List Int) : Node := .dT ks ((ns.map D.int).map .val)
/-- a statement while a dict is locked -/
theorem ws_lock {k : Nat} {ks : List (List Key)} {ns : List Int} (hk : S[k]? = some (dtD ks ns)) (h0 : C.n0 ≤ S.length) (h : ∀ o : Obj, WS (C.at0 S.length) st env (S.set k (lkD o ks ns)) ⟨fun env' S' => S'[k]? = some (lkD o ks ns) ∧ E.nx env' (S'.set k (dtD ks ns)), fun _ _ => False, fun _ _ => False, fun _ _ => False⟩) : WS C st env S E := fun X W bb ok tk w σ H rp en xc D n => by
  obtain ⟨a, ha, hg, hf, vs, h1, h2, h3⟩ := rp.at_ k _ hk rfl
  have h3 := IsL.of_ints (IsRs.vals.mp h3)
  subst h3
  refine ⟨_, ps_lock cS_ok, a, _, h1, trivial, fun od => ?_⟩
  have r1 := rp.write hk rfl ha (n' := lkD od ks ns) (o := .frz od (.dT (ks.zip (ns.map V.int)))) ⟨_, upd_same, h2, IsRs.vals.mpr (IsL.ints ns)⟩
  have kl : k < S.length := (List.getElem?_eq_some_iff.mp hk).1
  refine h od X W bb (ok.at0 _) tk w σ _ r1 en (xc.less h0) _ ⟨fun w' S' H' env' σ' l' r' e' ⟨k1, k2⟩ => ?_, fun _ _ _ _ _ _ _ _ z => z.elim, fun _ _ _ _ _ _ _ _ z => z.elim, fun _ _ _ _ _ _ _ _ z => z.elim⟩
  obtain ⟨a', q1, _, _, vs', q2, q3, q4⟩ := r'.at_ k _ k1 rfl
  have q4 := IsL.of_ints (IsRs.vals.mp q4)
  subst q4
  rw [l'.a k a kl ha] at q1
  cases q1
  refine ⟨q2, n.nx w' _ _ env' σ' (l'.less h0) (r'.write k1 rfl (l'.a k a kl ha) (n' := dtD ks ns) ⟨_, upd_same, h2, IsRs.vals.mpr (IsL.ints ns)⟩) e' k2⟩
/-- for key in d, d locked -/
theorem wi_keysT (h : WE C e env S fun r S1 => ∃ (k : Nat) (o : Obj) (ks : List (List Key)) (ns : List Int), r = .loc k ∧ S1[k]? = some (lkD o ks ns) ∧ Λ (ks.map keyT) (fun S' => S'[k]? = some (lkD o ks ns)) S1) : WI C tg e env S Λ := fun X W bb ok tk w σ H rp en xc R' n => by
  refine ⟨_, pi_keys cE_ok, ?_⟩
  refine h X W bb ok tk w σ H rp en xc _ fun w1 S1 H1 r v l1 r1 i1 ⟨k, o, ks, ns, er, hk, k1⟩ => ?_
  subst er
  obtain ⟨a, ha, ev⟩ := i1
  subst ev
  have at2 : ∀ w' S' H', Le w1 w' → Rp C.g.K bb w' S' H' → S'[k]? = some (lkD o ks ns) → H' a = some (.frz o (.dT (ks.zip (ns.map V.int)))) ∧ ks.length = ns.length := fun w' S' H' l r' hk' => by
    obtain ⟨a', q1, _, _, vs', q2, q3, q4⟩ := r'.at_ k _ hk' rfl
    have q4 := IsL.of_ints (IsRs.vals.mp q4)
    subst q4
    rw [l.at_ ha] at q1
    cases q1
    exact ⟨q2, by simpa using q3⟩
  obtain ⟨g1, g2⟩ := at2 w1 S1 H1 (Le.refl _) r1 hk
  have gl : (ks.map keyT).length = (ks.zip (ns.map V.int)).length := by rw [List.length_map, List.length_zip, List.length_map]; omega
  refine ⟨a, o, rfl, .inr ⟨_, g1, n w1 S1 H1 _ _ _ l1 r1 ⟨_, _, gl ▸ walk_keysT, fun w' S' H' l r' g => (at2 w' S' H' l r' g).1, fun w' S' H' i x H2 d l r' g hd y => ?_⟩ k1⟩⟩
  obtain ⟨rfl, key, u, q, y1, rfl, y3⟩ := y
  obtain ⟨w2, l2, r2, q2⟩ := r'.know y3
  refine ⟨w2, l2, r2, ?_⟩
  rw [List.getElem?_map] at hd
  obtain ⟨key', hk', rfl⟩ := Option.map_eq_some_iff.mp hd
  have : key' = key := by
    rw [List.getElem?_zip_eq_some] at y1
    have := y1.1
    rw [hk'] at this
    exact Option.some.inj this
  subst this
  exact ⟨q, _, rfl, q2, keyD_is _⟩
/-- d[key] of a locked dict -/
theorem wix_lk {k : Nat} {ob : Obj} {ks : List (List Key)} {ns : List Int} {key : List Key} {z : Int} (hk : S[k]? = some (lkD ob ks ns)) (hl : look ks ns key = some z) (h : Ψ (.val (.int z)) S) : WIx C (.loc k) (.val (keyT key)) S Ψ := fun X b ok w H rp v u hv hu Q n => by
  obtain ⟨a, ha, ev⟩ := hv
  subst ev
  obtain ⟨a', q1, _, _, vs', q2, q3, q4⟩ := rp.at_ k _ hk rfl
  have q4 := IsL.of_ints (IsRs.vals.mp q4)
  subst q4
  rw [ha] at q1
  cases q1
  obtain ⟨q, us, e2, g1, g2⟩ := hu
  have g2 := kDs_is g2
  subst e2 g2
  have hv : valV (ks.zip (ns.map V.int)) key = some (V.int z) := by
    unfold look at hl
    unfold valV
    rw [List.zip_map_right, List.find?_map]
    obtain ⟨p, hp, e⟩ := Option.map_eq_some_iff.mp hl
    have : (ks.zip ns).find? ((fun kv => decide (kv.1 = key)) ∘ Prod.map id V.int) = some p := hp
    rw [this, ← e]
    rfl
  refine ⟨fun x y H Q => ∃ a v, x = .ref a ∧ DGet H a y (some v) ∧ Q v H, fun value slice pins s σ H x y v u Q I rx ry hq hs => ?_, a, _, rfl, .inr ⟨_, key, q, .inr ⟨_, q2⟩, rfl, rp.ex _ _ g1, hv.symm⟩, n.at_ (d := .int z) rp rfl h⟩
  obtain ⟨a, z, e, g, q⟩ := hq
  subst e
  obtain rfl : v = Value.ref a := rx
  exact tail_of PySem.F.slot_dict_getitem.lookup (dict_typeIs I g) (d_getItem ok.u1 I g ry fun w' s' I' rw' => ⟨z, H, I', rw', q⟩) hs
end
end DL
set_option Elab.async false
set_option linter.all false
set_option maxRecDepth 100000
set_option maxHeartbeats 4000000
namespace DL
open PySem PySem.Spec PyProof.Rows
open L2 hiding Takes passAt takes_of ps_raise PMk ps_try_as
open L2N (Takes passAt takes_of ps_raise PMk ps_try_as)
/-! ### dicts by pairs of numbers, of numbers -/
theorem look_kP {α : Type} (g : Pr → α) (x : Pr) : ∀ ks : List Pr, look (ks.map kP) (ks.map g) (kP x) = if x ∈ ks then some (g x) else none
  | [] => rfl
  | y :: ks => by
    have ih := look_kP g x ks
    unfold look at ih ⊢
    rw [List.map_cons, List.map_cons, List.zip_cons_cons, List.find?_cons]
    by_cases h : y = x
    · subst h
      simp
    · rw [show decide (kP y = kP x) = false from decide_eq_false fun e => h (kP_inj e)]
      show Option.map _ (List.find? _ _) = _
      rw [ih]
      by_cases h2 : x ∈ ks
      · rw [if_pos h2, if_pos (List.mem_cons_of_mem _ h2)]
      · rw [if_neg h2, if_neg fun z => (List.mem_cons.mp z).elim (fun e => h e.symm) h2]
def dN (ks : List Pr) (V : Pr → Nat) : Node := dtD (ks.map kP) (ks.map fun x => (V x : Int))
theorem dN_eq (ks : List Pr) (V : Pr → Nat) : dN ks V = .dT (ks.map kP) ((ks.map fun x => D.int (V x : Int)).map .val) := by
  unfold dN dtD
  congr 2
  rw [List.map_map]; rfl
def updV (V : Pr → Nat) (x : Pr) (z : Nat) : Pr → Nat := fun y => if y = x then z else V y
theorem dN_old {ks : List Pr} {V : Pr → Nat} {x : Pr} {z : Nat} : Node.dT (ks.map kP) (putO (ks.map kP) (((ks.map fun x => D.int (V x : Int))).map .val) (kP x) (.val (.int (z : Int)))) = dN ks (updV V x z) := by
  rw [dN_eq]
  congr 1
  unfold putO
  rw [List.map_map, List.map_map, List.zipWith_map]
  rw [List.zipWith_self]
  refine List.map_congr_left fun y _ => ?_
  show (if kP y = kP x then _ else _) = R.val (.int (updV V x z y : Int))
  unfold updV
  by_cases h : y = x
  · rw [if_pos (by rw [h]), if_pos h]
  · rw [if_neg (fun e => h (kP_inj e)), if_neg h]; rfl
theorem dN_new {ks : List Pr} {V : Pr → Nat} {x : Pr} {z : Nat} (hx : x ∉ ks) : Node.dT (ks.map kP ++ [kP x]) (((ks.map fun x => D.int (V x : Int)).map .val) ++ [.val (.int (z : Int))]) = dN (ks ++ [x]) (updV V x z) := by
  rw [dN_eq]
  congr 1
  · rw [List.map_append]; rfl
  · rw [List.map_append, List.map_append]
    congr 1
    · rw [List.map_map, List.map_map]
      refine List.map_congr_left fun y hy => ?_
      show R.val (.int (V y : Int)) = R.val (.int (updV V x z y : Int))
      unfold updV
      rw [if_neg fun e => hx (by rw [← e]; exact hy)]
    · unfold updV
      simp
def insK (ks : List Pr) (x : Pr) : List Pr := if x ∈ ks then ks else ks ++ [x]
theorem mem_insK {ks : List Pr} {x y : Pr} : y ∈ insK ks x ↔ y ∈ ks ∨ y = x := by
  unfold insK
  by_cases h : x ∈ ks
  · rw [if_pos h]
    exact ⟨.inl, fun q => q.elim id fun e => by rw [e]; exact h⟩
  · rw [if_neg h]; simp
theorem nodup_insK {ks : List Pr} {x : Pr} (h : ks.Nodup) : (insK ks x).Nodup := by
  unfold insK
  by_cases q : x ∈ ks
  · rw [if_pos q]; exact h
  · rw [if_neg q, List.nodup_append]
    exact ⟨h, by simp, fun a ha b hb e => q (by rw [← List.mem_singleton.mp hb, ← e]; exact ha)⟩
structure DOk (n e : Nat) (ks : List Pr) (V : Pr → Nat) : Prop where
  nd : ks.Nodup
  lt : ∀ x ∈ ks, x.1 < n ∧ x.2 ≤ e
  out : ∀ x, x ∉ ks → V x = 0
theorem DOk.nil (n e : Nat) : DOk n e [] fun _ => 0 := ⟨List.nodup_nil, fun x h => by simp at h, fun _ _ => rfl⟩
theorem DOk.put {n e : Nat} {ks : List Pr} {V : Pr → Nat} (h : DOk n e ks V) {x : Pr} (hx : x.1 < n ∧ x.2 ≤ e) (z : Nat) : DOk n e (insK ks x) (updV V x z) :=
  ⟨nodup_insK h.nd, fun y hy => (mem_insK.mp hy).elim (h.lt y) fun q => by rw [q]; exact hx, fun y hy => by
    unfold updV
    rw [if_neg fun q => hy (mem_insK.mpr (.inr q))]
    exact h.out y fun q => hy (mem_insK.mpr (.inl q))⟩
theorem DOk.len {n e : Nat} {ks : List Pr} {V : Pr → Nat} (h : DOk n e ks V) : ks.length ≤ n * (e + 1) := by
  have hp : ((List.range n).flatMap fun p => (List.range (e + 1)).map fun k => (p, k)).Nodup := by
    refine nodup_flatMap List.nodup_range (fun p _ => ?_) (fun p _ q _ hpq z h1 h2 => ?_)
    · rw [List.nodup_iff_pairwise_ne, List.pairwise_map]
      exact (List.nodup_iff_pairwise_ne.mp List.nodup_range).imp fun h e => h (Prod.ext_iff.mp e).2
    · obtain ⟨k, _, rfl⟩ := List.mem_map.mp h1
      obtain ⟨k', _, e⟩ := List.mem_map.mp h2
      exact hpq (Prod.ext_iff.mp e).1.symm
  have key : ks.Perm (((List.range n).flatMap fun p => (List.range (e + 1)).map fun k => (p, k)).filter fun x => decide (x ∈ ks)) := by
    refine (List.perm_ext_iff_of_nodup h.nd (hp.filter _)).mpr fun x => ?_
    rw [List.mem_filter, List.mem_flatMap, decide_eq_true_eq]
    refine ⟨fun hx => ⟨⟨x.1, List.mem_range.mpr (h.lt x hx).1, List.mem_map.mpr ⟨x.2, List.mem_range.mpr (by have := (h.lt x hx).2; omega), rfl⟩⟩, hx⟩, fun q => q.2⟩
  rw [key.length_eq]
  refine Nat.le_trans (List.length_filter_le _ _) ?_
  rw [List.length_flatMap]
  simp only [List.length_map, List.length_range]
  have : ∀ m : Nat, ((List.range m).map fun _ => e + 1).sum = m * (e + 1) := fun m => by
    induction m with
    | zero => simp
    | succ m ih => rw [List.range_succ, List.map_append, List.sum_append, ih, Nat.succ_mul]; simp
  rw [this]
  exact Nat.le_refl _
/-- the sum of the values at k of those that f takes -/
def selS (ks : List Pr) (V : Pr → Nat) (f : Nat → Bool) (k : Nat) : Nat := ((ks.filter fun x => f x.1 && decide (x.2 = k)).map V).sum
theorem selS_snoc (ks : List Pr) (x : Pr) (V : Pr → Nat) (f : Nat → Bool) (k : Nat) : selS (ks ++ [x]) V f k = selS ks V f k + if f x.1 = true ∧ x.2 = k then V x else 0 := by
  unfold selS
  rw [List.filter_append, List.map_append, List.sum_append]
  congr 1
  by_cases h : f x.1 = true ∧ x.2 = k
  · rw [if_pos h]; simp [h.1, h.2]
  · rw [if_neg h, List.filter_cons_of_neg (by simpa using h)]; rfl
theorem sum_filt {α : Type} (V : α → Nat) (p : α → Bool) : ∀ xs : List α, (∀ x ∈ xs, p x = false → V x = 0) → (xs.map V).sum = ((xs.filter p).map V).sum
  | [], _ => rfl
  | x :: xs, h => by
    have ih := sum_filt V p xs fun y hy => h y (by simp [hy])
    rw [List.map_cons, List.sum_cons, ih]
    by_cases q : p x = true
    · rw [List.filter_cons_of_pos q, List.map_cons, List.sum_cons]
    · rw [List.filter_cons_of_neg q, h x (by simp) (by simpa using q), Nat.zero_add]
theorem selS_full {n e : Nat} {ks : List Pr} {V : Pr → Nat} (h : DOk n e ks V) (f : Nat → Bool) (k : Nat) : selS ks V f k = (((List.range n).filter f).map fun q => V (q, k)).sum := by
  have hn : (((List.range n).filter f).map fun q => ((q, k) : Pr)).Nodup := by
    rw [List.nodup_iff_pairwise_ne, List.pairwise_map]
    exact (List.nodup_iff_pairwise_ne.mp (List.nodup_range.filter _)).imp fun h e => h (Prod.ext_iff.mp e).1
  have key : (ks.filter fun x => f x.1 && decide (x.2 = k)).Perm ((((List.range n).filter f).map fun q => ((q, k) : Pr)).filter fun x => decide (x ∈ ks)) := by
    refine (List.perm_ext_iff_of_nodup (h.nd.filter _) (hn.filter _)).mpr fun x => ?_
    rw [List.mem_filter, List.mem_filter, List.mem_map, Bool.and_eq_true, decide_eq_true_eq, decide_eq_true_eq]
    constructor
    · rintro ⟨h1, h2, h3⟩
      exact ⟨⟨x.1, List.mem_filter.mpr ⟨List.mem_range.mpr (h.lt x h1).1, h2⟩, Prod.ext rfl h3.symm⟩, h1⟩
    · rintro ⟨⟨q, hq, rfl⟩, h2⟩
      exact ⟨h2, (List.mem_filter.mp hq).2, rfl⟩
  unfold selS
  rw [(key.map V).sum_nat, ← sum_filt V (fun x => decide (x ∈ ks)) _ (fun x _ hx => h.out x (by simpa using hx)), List.map_map]
  rfl
/-! ### the table -/
def dS (M : Nat) (KS : Nat → List Pr) (VS : Nat → Pr → Nat) : Sto := .lst ((List.range (M + 1)).map fun e => R.loc (e + 1)) :: (List.range (M + 1)).map fun e => dN (KS e) (VS e)
def updK {α : Type} (KS : Nat → α) (e : Nat) (v : α) : Nat → α := fun e' => if e' = e then v else KS e'
theorem updK_same {α : Type} (KS : Nat → α) (e : Nat) (v : α) : updK KS e v e = v := if_pos rfl
theorem updK_ne {α : Type} {KS : Nat → α} {e e' : Nat} {v : α} (h : e' ≠ e) : updK KS e v e' = KS e' := if_neg h
theorem dS_len (M : Nat) (KS : Nat → List Pr) (VS : Nat → Pr → Nat) : (dS M KS VS).length = M + 2 := by simp [dS]
theorem dS_out (M : Nat) (KS : Nat → List Pr) (VS : Nat → Pr → Nat) : (dS M KS VS)[0]? = some (.lst ((List.range (M + 1)).map fun e => R.loc (e + 1))) := rfl
theorem dS_row {M e : Nat} {KS : Nat → List Pr} {VS : Nat → Pr → Nat} (h : e ≤ M) : (dS M KS VS)[e + 1]? = some (dN (KS e) (VS e)) := by
  unfold dS
  rw [List.getElem?_cons_succ, List.getElem?_map, List.getElem?_range (by omega)]; rfl
theorem dS_set {M e : Nat} {KS : Nat → List Pr} {VS : Nat → Pr → Nat} (h : e ≤ M) (ks : List Pr) (V : Pr → Nat) : (dS M KS VS).set (e + 1) (dN ks V) = dS M (updK KS e ks) (updK VS e V) := by
  unfold dS
  rw [List.set_cons_succ]
  congr 1
  refine List.ext_getElem? fun k => ?_
  rw [List.getElem?_set, List.length_map, List.length_range]
  by_cases hk : e = k
  · subst hk
    rw [if_pos rfl, if_pos (by omega), List.getElem?_map, List.getElem?_range (by omega)]
    show _ = some (dN _ _)
    rw [updK_same, updK_same]
  · rw [if_neg hk, List.getElem?_map, List.getElem?_map]
    by_cases h2 : k < M + 1
    · rw [List.getElem?_range h2]
      show some (dN _ _) = some (dN _ _)
      rw [updK_ne (fun q => hk q.symm), updK_ne (fun q => hk q.symm)]
    · rw [List.getElem?_eq_none (by simp; omega)]; rfl
theorem okB_dN (n : Nat) (ks : List Pr) (V : Pr → Nat) : Node.okB n (dN ks V) = true := by
  rw [dN_eq]; exact okB_vals n _
theorem dS_ok (M : Nat) (KS : Nat → List Pr) (VS : Nat → Pr → Nat) {n : Nat} (hn : M + 2 ≤ n) : (dS M KS VS).all (Node.okB n) = true := by
  unfold dS
  rw [List.all_cons, Bool.and_eq_true]
  refine ⟨?_, ?_⟩
  · show (List.map _ _).all (R.okB n) = true
    rw [List.all_map, List.all_eq_true]
    intro e he
    have he := List.mem_range.mp he
    show decide (e + 1 < n) = true
    simp; omega
  · rw [List.all_map, List.all_eq_true]
    intro e _
    exact okB_dN _ _ _
/-! ### the rules for such dicts -/
section
variable {C : DC} {env : Nv} {S : Sto} {Ψ : R → Sto → Prop} {E : Nd} {pos p2 : Pos} {o i v e tg : Expr} {st : Stmt} {Λ : List D → (Sto → Prop) → Sto → Prop}
theorem ws_putN {x : Pr} (h : WE C v env S fun zr S1 => WE C o env S1 fun r S2 => WE C i env S2 fun y S3 => ∃ (j : Nat) (ks : List Pr) (V : Pr → Nat) (z : Nat), zr = .val (.int (z : Int)) ∧ r = .loc j ∧ y = .val (.tup [.int (x.1 : Int), .int (x.2 : Int)]) ∧ S3[j]? = some (dN ks V) ∧ ks.length < sizeLine ∧ E.nx env (S3.set j (dN (insK ks x) (updV V x z))))
    (hs : ∀ X : Cx, swapsWith v (some (.Subscript o i p2)) pos.line X.env = pure false) : WS C (.Assign [.Subscript o i p2] v pos) env S E := by
  refine ws_putO (k := kP x) (we_mono h fun zr S1 h => we_mono h fun r S2 h => we_mono h fun y S3 ⟨j, ks, V, z, e1, e2, e3, hj, hl, hn⟩ => ?_) hs
  subst e1
  refine ⟨j, ks.map kP, (ks.map fun x => D.int (V x : Int)).map .val, e2, e3, by rw [hj, dN_eq], by rw [List.length_map]; exact hl, fun hm => ?_, fun hm => ?_⟩
  · obtain ⟨y, hy, e⟩ := List.mem_map.mp hm
    have hx : x ∈ ks := by rw [← kP_inj e]; exact hy
    unfold insK at hn
    rw [if_pos hx] at hn
    rw [dN_old]; exact hn
  · have hx : x ∉ ks := fun q => hm (List.mem_map.mpr ⟨x, q, rfl⟩)
    unfold insK at hn
    rw [if_neg hx] at hn
    rw [dN_new hx]; exact hn
theorem dN_look {j : Nat} {ks : List Pr} {V : Pr → Nat} (hj : S[j]? = some (dN ks V)) (x : Pr) : LookD S (.loc j) (.val (.tup [.int (x.1 : Int), .int (x.2 : Int)])) (if x ∈ ks then some (.int (V x : Int)) else none) := by
  have := LookD.t (k := kP x) (DctT.loc (S := S) (k := j) (ks := ks.map kP) (ds := ks.map fun x => D.int (V x : Int)) (by rw [hj, dN_eq]))
  rw [look_kP] at this
  exact this
theorem dN_isT {j : Nat} {ks : List Pr} {V : Pr → Nat} (hj : S[j]? = some (dN ks V)) : ∃ ks ds, DctT S (.loc j) ks ds := ⟨_, _, DctT.loc (by rw [hj, dN_eq])⟩
def lN (ob : Obj) (ks : List Pr) (V : Pr → Nat) : Node := lkD ob (ks.map kP) (ks.map fun x => (V x : Int))
theorem wix_lN {j : Nat} {ob : Obj} {ks : List Pr} {V : Pr → Nat} {x : Pr} (hj : S[j]? = some (lN ob ks V)) (hx : x ∈ ks) (h : Ψ (.val (.int (V x : Int))) S) : WIx C (.loc j) (.val (.tup [.int (x.1 : Int), .int (x.2 : Int)])) S Ψ :=
  wix_lk (key := kP x) hj (by rw [look_kP (fun x => (V x : Int)), if_pos hx]) h
end
end DL
set_option Elab.async false
set_option linter.all false
set_option maxRecDepth 100000
set_option maxHeartbeats 4000000
namespace DL
open PySem PySem.Spec PyProof.Rows
/-! ### the law's own table of counts, row by row -/
def fP (l : List Nat) (P : List Pr) (p : Nat) : Nat → Bool := fun q => (crossF l.length P q p).isNone
structure TabR (l : List Nat) (P : List Pr) (a : Nat) (KS : Nat → List Pr) (VS : Nat → Pr → Nat) : Prop where
  done : ∀ e, e < a → DOk (l.length + P.length) e (KS e) (VS e) ∧ ∀ q, q < l.length + P.length → ∀ k, VS e (q, k) = cntT l P e k q
  row : DOk (l.length + P.length) a (KS a) (VS a)
  rest : ∀ e, a < e → KS e = [] ∧ ∀ x, VS e x = 0
structure TabO (l : List Nat) (P : List Pr) (a p : Nat) (KS : Nat → List Pr) (VS : Nat → Pr → Nat) : Prop where
  r : TabR l P a KS VS
  low : ∀ q, q < p → ∀ k, VS a (q, k) = cntT l P a k q
  high : ∀ q, p ≤ q → ∀ k, VS a (q, k) = 0
structure TabP (l : List Nat) (P : List Pr) (a p h : Nat) (Kh : List Pr) (j : Nat) (KS : Nat → List Pr) (VS : Nat → Pr → Nat) : Prop where
  r : TabR l P a KS VS
  low : ∀ q, q < p → ∀ k, VS a (q, k) = cntT l P a k q
  high : ∀ q, p < q → ∀ k, VS a (q, k) = 0
  hk : KS h = Kh
  mid0 : VS a (p, 0) = 0
  mid : ∀ k, VS a (p, k + 1) = selS (Kh.take j) (VS h) (fP l P p) k
section
variable {l : List Nat} {P : List Pr} {a p h j : Nat} {Kh : List Pr} {KS : Nat → List Pr} {VS : Nat → Pr → Nat}
theorem TabR.put (t : TabR l P a KS VS) {x : Pr} (hx : x.1 < l.length + P.length ∧ x.2 ≤ a) (z : Nat) : TabR l P a (updK KS a (insK (KS a) x)) (updK VS a (updV (VS a) x z)) := by
  refine ⟨fun e he => ?_, ?_, fun e he => ?_⟩
  · rw [updK_ne (by omega), updK_ne (by omega)]; exact t.done e he
  · rw [updK_same, updK_same]; exact t.row.put hx z
  · rw [updK_ne (by omega), updK_ne (by omega)]; exact t.rest e he
theorem TabO.start (hnd : l.Nodup) (hg : GoodS l P) : TabO l P 1 0 (fun _ => []) (fun _ _ => 0) := by
  refine ⟨⟨fun e he => ⟨DOk.nil _ _, fun q hq k => ?_⟩, DOk.nil _ _, fun _ _ => ⟨rfl, fun _ => rfl⟩⟩, fun q hq => absurd hq (by omega), fun _ _ _ => rfl⟩
  obtain rfl : e = 0 := by omega
  exact (cntT_small hnd hg (by have := pl_pos hg hq; unfold pl at this; omega)).symm
theorem TabO.next (t : TabO l P a (l.length + P.length) KS VS) : TabO l P (a + 1) 0 KS VS := by
  obtain ⟨h1, h2⟩ := t.r.rest (a + 1) (by omega)
  refine ⟨⟨fun e he => ?_, ?_, fun e he => t.r.rest e (by omega)⟩, fun q hq => absurd hq (by omega), fun q _ k => h2 _⟩
  · by_cases z : e = a
    · subst z; exact ⟨t.r.row, t.low⟩
    · exact t.r.done e (by omega)
  · rw [h1]
    exact ⟨List.nodup_nil, fun x h => by simp at h, fun x _ => h2 x⟩
theorem TabO.far (hnd : l.Nodup) (hg : GoodS l P) (t : TabO l P a p KS VS) (h : a < pl l P p) : TabO l P a (p + 1) KS VS := by
  refine ⟨t.r, fun q hq k => ?_, fun q hq => t.high q (by omega)⟩
  by_cases z : q = p
  · subst z
    rw [t.high q (Nat.le_refl _)]
    exact (cntT_small hnd hg h).symm
  · exact t.low q (by omega) k
theorem TabO.whole (hnd : l.Nodup) (hg : GoodS l P) (t : TabO l P a p KS VS) (hp : p < l.length + P.length) (h : pl l P p = a) : TabO l P a (p + 1) (updK KS a (insK (KS a) (p, 1))) (updK VS a (updV (VS a) (p, 1) 1)) := by
  have h1 := pl_pos hg hp
  refine ⟨t.r.put ⟨hp, by show 1 ≤ a; omega⟩ 1, fun q hq k => ?_, fun q hq k => ?_⟩
  · rw [updK_same]
    unfold updV
    by_cases z : q = p
    · subst z
      have := cntT_whole hnd hg (k := k) hp
      rw [show ((txts l P).getD q []).length = a from h] at this
      rw [this]
      by_cases e : k = 1
      · rw [if_pos (by rw [e]), if_pos e]
      · rw [if_neg (fun y => e (Prod.ext_iff.mp y).2), if_neg e, t.high q (Nat.le_refl _)]
    · rw [if_neg (fun y => z (Prod.ext_iff.mp y).1)]
      exact t.low q (by omega) k
  · rw [updK_same]
    unfold updV
    rw [if_neg (fun y => by have := (Prod.ext_iff.mp y).1; dsimp only at this; omega)]
    exact t.high q (by omega) k
theorem TabO.into (t : TabO l P a p KS VS) : TabP l P a p h (KS h) 0 KS VS := ⟨t.r, t.low, fun q hq => t.high q (by omega), rfl, t.high p (Nat.le_refl _) 0, fun k => by rw [t.high p (Nat.le_refl _), List.take_zero]; rfl⟩
theorem TabP.step (t : TabP l P a p h Kh j KS VS) {x : Pr} (hx : Kh[j]? = some x) (hp : p < l.length + P.length) (ha : h < a) (hs : fP l P p x.1 = true) : TabP l P a p h Kh (j + 1) (updK KS a (insK (KS a) (p, x.2 + 1))) (updK VS a (updV (VS a) (p, x.2 + 1) (VS a (p, x.2 + 1) + VS h x))) := by
  have hxk := (t.r.done h ha).1.lt x (by rw [t.hk]; exact List.mem_of_getElem? hx)
  refine ⟨t.r.put ⟨hp, by show x.2 + 1 ≤ a; have := hxk.2; omega⟩ _, fun q hq k => ?_, fun q hq k => ?_, ?_, ?_, fun k => ?_⟩
  · rw [updK_same]
    unfold updV
    rw [if_neg (fun y => by have := (Prod.ext_iff.mp y).1; dsimp only at this; omega)]
    exact t.low q hq k
  · rw [updK_same]
    unfold updV
    rw [if_neg (fun y => by have := (Prod.ext_iff.mp y).1; dsimp only at this; omega)]
    exact t.high q hq k
  · rw [updK_ne (by omega)]; exact t.hk
  · rw [updK_same]
    unfold updV
    rw [if_neg (fun y => by have := (Prod.ext_iff.mp y).2; dsimp only at this; omega)]
    exact t.mid0
  · rw [updK_same, updK_ne (show h ≠ a by omega), List.take_add_one, hx]
    show _ = selS (_ ++ [x]) _ _ _
    rw [selS_snoc, ← t.mid]
    unfold updV
    by_cases z : x.2 = k
    · rw [if_pos (by rw [z]), if_pos ⟨hs, z⟩, z]
    · rw [if_neg (fun y => z (Nat.succ.inj (Prod.ext_iff.mp y).2).symm), if_neg (fun y => z y.2)]; rfl
theorem TabP.skip (t : TabP l P a p h Kh j KS VS) {x : Pr} (hx : Kh[j]? = some x) (hs : ¬ fP l P p x.1 = true) : TabP l P a p h Kh (j + 1) KS VS := by
  refine ⟨t.r, t.low, t.high, t.hk, t.mid0, fun k => ?_⟩
  rw [List.take_add_one, hx]
  show _ = selS (_ ++ [x]) _ _ _
  rw [selS_snoc, ← t.mid, if_neg (fun y => hs y.1)]; rfl
theorem TabP.fin (hnd : l.Nodup) (hg : GoodS l P) (t : TabP l P a p h Kh Kh.length KS VS) (hp : p < l.length + P.length) (ha : pl l P p + h = a) (h1 : 1 ≤ h) : TabO l P a (p + 1) KS VS := by
  have hl := pl_pos hg hp
  have dh := t.r.done h (by omega)
  refine ⟨t.r, fun q hq k => ?_, fun q hq => t.high q (by omega)⟩
  by_cases z : q = p
  · subst z
    rcases k with _ | k
    · rw [t.mid0, cntT_zero hnd hg]
    · rw [t.mid, List.take_length, ← t.hk, selS_full dh.1]
      have := cntT_more hnd hg (m := a) (k := k) hp (by unfold pl at ha; omega)
      rw [this]
      congr 1
      refine List.map_congr_left fun y hy => ?_
      have hy := List.mem_range.mp (List.mem_filter.mp hy).1
      rw [dh.2 y hy, show a - ((txts l P).getD q []).length = h by unfold pl at ha; omega]
  · exact t.low q (by omega) k
/-- the sums of the last row -/
theorem TabO.sums (hnd : l.Nodup) (hg : GoodS l P) {M : Nat} (t : TabO l P (M + 1) 0 KS VS) (k : Nat) (hk : k ≤ M) : selS (KS M) (VS M) (fun _ => true) k + (if M = 0 ∧ k = 0 then 1 else 0) = cntK l P M k := by
  obtain ⟨d1, d2⟩ := t.r.done M (by omega)
  rw [selS_full d1]
  have e : ((List.range (l.length + P.length)).filter fun _ => true) = List.range (l.length + P.length) := List.filter_eq_self.mpr fun _ _ => rfl
  rw [e]
  have e2 : ((List.range (l.length + P.length)).map fun q => VS M (q, k)) = (List.range (l.length + P.length)).map fun q => cntT l P M k q := List.map_congr_left fun q hq => d2 q (List.mem_range.mp hq) k
  rw [e2]
  by_cases h : M = 0
  · subst h
    obtain rfl : k = 0 := by omega
    rw [if_pos ⟨rfl, rfl⟩, cntK_zero]
    have : ((List.range (l.length + P.length)).map fun q => cntT l P 0 0 q) = (List.range (l.length + P.length)).map fun _ => 0 := List.map_congr_left fun q hq => cntT_zero hnd hg
    rw [this]
    have z : ∀ m : Nat, ((List.range m).map fun _ => 0).sum = 0 := fun m => by
      induction m with
      | zero => rfl
      | succ m ih => rw [List.range_succ, List.map_append, List.sum_append, ih]; rfl
    rw [z]
  · rw [if_neg (fun q => h q.1), Nat.add_zero, ← cntK_sum hnd hg (by omega)]
end
end DL
set_option Elab.async false
set_option linter.all false
set_option maxRecDepth 100000
set_option maxHeartbeats 4000000
namespace DL
open PySem PySem.Spec PyProof.Rows
open L2 hiding Takes passAt takes_of ps_raise PMk ps_try_as
open L2N (Takes passAt takes_of ps_raise PMk ps_try_as)

local macro_rules | `(tactic| walk_at "inv") => `(tactic| (dsimp only; repeat (first | with_reducible exact InV.here | with_reducible apply InV.there)))
local macro_rules | `(tactic| walk_at "ing") => `(tactic| (dsimp only; repeat (first | with_reducible exact InG.here | with_reducible apply InG.there)))
local macro_rules | `(tactic| walk_at "nb") => `(tactic| first | assumption | (dsimp only; refine BltF.at_ (by assumption) ?_; repeat (first | with_reducible exact InG.here | with_reducible apply InG.there)))
local macro_rules | `(tactic| walk_at "s") => `(tactic| first
  | refine wss_cons ?_ | refine wss_nil ?_ | refine ws_set (by walk_at "inv") ?_ (fun _ => rfl) | refine ws_if ?_ | refine ws_ret ?_ | refine ws_aug (by walk_at "inv") rfl ?_
  | refine ws_expr ?_ (fun _ => rfl) | refine ws_pass ?_ | refine ws_break ?_ | refine ws_cont ?_ | refine ws_retN ?_
  | refine ws_asg ?_ (fun _ => rfl) (fun _ => rfl) (fun _ => rfl) | refine ws_setA ?_ (fun _ => rfl) | refine ws_put ?_ (fun _ => rfl))
local macro_rules | `(tactic| walk_at "we") => `(tactic| first
  | refine we_name (by walk_at "inv") rfl ?_ | refine we_int ?_ | refine we_op ?_ | refine we_str ?_
  | refine we_callB (by walk_at "ing") (by walk_at "nb") (by first | exact PySem.boot_len | exact boot_abs | exact boot_min | exact boot_max | exact boot_sorted | exact boot_isinstance) ?_ (fun _ => rfl) (fun _ => rfl)
  | refine we_callT (by walk_at "ing") (by walk_at "nb") (by first | exact boot_tuple | exact boot_list | exact boot_int) ?_ (fun _ => rfl) (fun _ => rfl)
  | refine we_attr ?_ (fun _ => rfl) | refine we_ix ?_ (fun _ _ => rfl) | refine we_tup ?_
  | refine we_append ?_ (fun _ => rfl) (fun _ => rfl) rfl (fun _ => rfl) (fun _ => rfl)
  | refine we_bl ?_ | refine we_non ?_ | refine we_chain ?_ rfl | refine we_cmp ?_ rfl | refine we_one ?_ | refine we_and ?_ | refine we_or ?_ | refine we_not ?_ | refine we_ifx ?_ | refine we_neg ?_ | refine we_slice ?_)
local macro_rules | `(tactic| walk_at "wb") => `(tactic| first | refine we_type (by walk_at "ing") (by walk_at "nb") boot_int ?_ | refine we_type (by walk_at "ing") (by walk_at "nb") boot_bool ?_ | refine we_type (by walk_at "ing") (by walk_at "nb") boot_str ?_ | refine we_type (by walk_at "ing") (by walk_at "nb") boot_tuple ?_)
local macro_rules | `(tactic| walk_at "wt") => `(tactic| first | refine wt_cmp ?_ rfl | refine wt_not ?_ | refine wt_chain ?_ rfl | refine wt_of ?_)
local macro_rules | `(tactic| walk_at "wto") => `(tactic| first | refine wto_and1 ?_ | refine wto_or1 ?_ | refine wto_and ?_ | refine wto_or ?_)
local macro_rules | `(tactic| walk_at "wo") => `(tactic| first
  | refine wo_add ?_ | refine wo_sub ?_ | refine wo_lt ?_ | refine wo_le ?_ | refine wo_gt ?_ | refine wo_ge ?_ | refine wo_eqI ?_ | refine wo_neI ?_ | refine wo_eqL ?_ | refine wo_neL ?_ | refine wo_lt1 ?_ | refine wo_le1 ?_ | refine wo_ge1 ?_ | refine wo_inL ?_ | refine wo_notInL ?_
  | refine wo_isN (by intro _ h; cases h) ?_ | refine wo_notN (by intro _ h; cases h) ?_)
local macro_rules | `(tactic| walk_at "wc") => `(tactic| first
  | refine wc_len (by first | exact .tup _ | exact .lst _ | exact .bor _ | exact .loc rfl) ?_ | refine wc_int ?_ | refine wc_intB ?_ | refine wc_abs ?_ | refine wc_min2 rfl ?_ | refine wc_max2 rfl ?_ | refine wc_tuple (by first | exact .tup _ | exact .lst _ | exact .bor _ | exact .loc rfl) ?_)
local macro_rules | `(tactic| walk_at "e") => `(tactic| first
  | (with_reducible show WE _ _ _ _ _); walk_at "we"
  | (with_reducible show WT _ _ _ _ _); walk_at "wt"
  | (with_reducible show WTo _ _ _ _ _); walk_at "wto"
  | (with_reducible show WO _ _ _ _ _ _); walk_at "wo"
  | (with_reducible show WA _ _ _ _ _); first | refine wa_cons ?_ (fun _ => rfl) | refine wa_nil ?_
  | (with_reducible show WC _ _ _ _ _); walk_at "wc"
  | (with_reducible show WPO _ _ _ _ _); first | refine wpo_none ?_ | refine wpo_some ?_
  | refine asB_mk ?_ | refine wip_add ?_
  | refine ⟨_, rfl, (by first | decide | exact Nat.le_of_ble_eq_true rfl), ?_⟩)
local macro_rules | `(tactic| walk_at "ew") => `(tactic| ((try simp only [List.set_cons_zero, List.set_cons_succ]); repeat (first | exact EnvW.nil | refine EnvW.keep (by first | rfl | assumption) ?_ | refine EnvW.drop ?_)))
local macro_rules | `(tactic| walk_at "fl") => `(tactic| (refine ⟨_, _, fldL rfl (by repeat (first | with_reducible exact AtN.here | with_reducible apply AtN.there)) rfl, by assumption, NoA.at_ (by assumption) (by walk_at "ing"), ?_⟩))
local macro_rules | `(tactic| walk_at "fv") => `(tactic| (refine ⟨_, _, fldV (by repeat (first | with_reducible exact AtN.here | with_reducible apply AtN.there)) rfl, by assumption, NoA.at_ (by assumption) (by walk_at "ing"), ?_⟩))
/-- lowest_pair: the ranks by any dict of them -/
def spLP : DSp := fun rs S Ψ _ => ∃ (r0 : R) (P : List Pr) (row : List Nat), rs = [r0, .val (tN row)] ∧ DctT S r0 (rkK P) (rkD P) ∧ okE S.length r0 = true ∧ S.all (Node.okB S.length) = true ∧ row.length ≤ 100000 ∧ Ψ (.val (oP (lowF P (adj row)))) S
theorem scLP : FnScope ["ranks", "row", "best", "at", "pair"] ["ranks", "row"] (defScope (top 14)) := ⟨rfl, rfl, rfl, by decide +kernel, rfl, by decide +kernel, by decide +kernel⟩
theorem ok_lp {g : Gd} {f : Addr} {fd : FuncData} (F : FunD g.K "lowest_pair" "lowest_pair" (defArgs (top 14)) (defBody (top 14)) (defScope (top 14)) [] [] f fd) (hb : Binds g.K fd ["ranks", "row"] []) (hB : BltF g ["len", "range"]) :
    FnD g 1 f ["ranks", "row"] spLP := by
  refine fn_mk F hb scLP (gl := ["len", "range"]) [("ranks", 0), ("row", 1), ("best", 2), ("at", 3), ("pair", 4)] (by decide +kernel) (by decide +kernel) (fun rs S Ψ ξ h => ?_) (fun rs S Ψ ξ h => ?_)
  · obtain ⟨_, _, _, rfl, _⟩ := h; rfl
  · obtain ⟨r0, P, row, rfl, hd, h0, hS, hl, hΨ⟩ := h
    refine wss_cons ?_
    walk_at "s"
    walk_at "e"
    refine wss_cons ?_
    refine ws_for rfl ?_ (fun _ _ => rfl)
    refine wi_range1 (by walk_at "ing") (by walk_at "nb") ?_ (fun _ => rfl)
    repeat walk_at "e"
    refine ⟨_, rfl, by simp; omega, fun i env S' => env = [some r0, some (.val (tN row)), some (.val (oP (lowF P ((adj row).take i)))), none, none] ∧ S' = S, Nat.le_refl _, ⟨rfl, rfl⟩, fun _ _ _ _ => trivial, ?_, ?_⟩
    · rintro i d env' S' hd' ⟨rfl, rfl⟩
      obtain ⟨hi, rfl⟩ := rangeD_get hd'
      have hi1 : i + 1 < row.length := by simp at hi; omega
      have hi0 : i < row.length := by omega
      refine wg_name (by walk_at "inv") ?_
      walk_at "s"
      walk_at "s"
      repeat walk_at "e"
      refine wix_F (g := iN) (.tup _) (j := i) (c := row[i]) (by simp) (by simp) ?_
      repeat walk_at "e"
      refine wix_F (g := iN) (.tup _) (j := i + 1) (c := row[i + 1]) (by simp) (by simp) ?_
      repeat walk_at "e"
      refine wss_one ?_
      have hP := LookD.rk hd (row[i], row[i + 1])
      refine ws_ifB (((row[i], row[i + 1]) : Pr) ∈ P ∧ lowB P (row[i], row[i + 1]) (lowF P ((adj row).take i)) = true) ?_ (fun ht => ?_) (fun hf => ?_)
      · generalize hbest : lowF P ((adj row).take i) = best
        repeat walk_at "e"
        refine wo_inD hP ?_
        repeat walk_at "e"
        by_cases hm : ((row[i], row[i + 1]) : Pr) ∈ P
        · refine ⟨fun _ => ?_, fun h => (by rw [if_pos hm] at h; cases h)⟩
          rw [if_pos hm] at hP
          cases best with
          | none =>
            repeat walk_at "e"
            refine ⟨fun _ => ?_, fun h => by cases h⟩
            exact ⟨by simp [hm, lowB], rfl⟩
          | some q =>
            have hq : q ∈ P := by
              rcases lowF_mem hbest with ⟨_, h⟩ | h
              · exact h
              · cases h
            have hQ := LookD.rk hd q
            rw [if_pos hq] at hQ
            repeat walk_at "e"
            refine ⟨fun h => (by cases h), fun _ => ?_⟩
            repeat walk_at "e"
            refine wix_dct hP ?_
            repeat walk_at "e"
            refine wix_dct hQ ?_
            repeat walk_at "e"
            refine ⟨?_, rfl⟩
            simp [hm, lowB]
        · refine ⟨fun h => (by rw [if_neg hm] at h; cases h), fun _ => ⟨by simp [hm], rfl⟩⟩
      · have hn : lowF P ((adj row).take (i + 1)) = some (row[i], row[i + 1]) := by
          rw [lowF_succ (adj_get hi1), lowS, if_pos ht]
        refine wss_one ?_
        walk_at "s"
        walk_at "e"
        dsimp only
        refine Wk.drop (env' := [some r0, some (.val (tN row)), some (.val (oP (some (row[i], row[i + 1])))), none, none]) ⟨by rw [hn], rfl⟩ (by walk_at "ew") (Nat.le_refl _) hS
      · have hn : lowF P ((adj row).take (i + 1)) = lowF P ((adj row).take i) := by
          rw [lowF_succ (adj_get hi1), lowS, if_neg hf]
        walk_at "s"
        dsimp only
        refine Wk.drop (env' := [some r0, some (.val (tN row)), some (.val (oP (lowF P ((adj row).take i)))), none, none]) ⟨by rw [hn], rfl⟩ (by walk_at "ew") (Nat.le_refl _) hS
    · rintro env' S' ⟨rfl, rfl⟩
      refine wss_one ?_
      walk_at "s"
      walk_at "e"
      refine RetC.now (Nat.le_refl _) hS rfl ?_
      rw [List.take_of_length_le (by rw [adj_len, rangeD_len]; simp)]
      exact hΨ
end DL
set_option Elab.async false
set_option linter.all false
set_option maxRecDepth 100000
set_option maxHeartbeats 4000000
namespace DL
open PySem PySem.Spec PyProof.Rows
open L2 hiding Takes passAt takes_of ps_raise PMk ps_try_as
open L2N (Takes passAt takes_of ps_raise PMk ps_try_as)
local macro_rules | `(tactic| walk_at "inv") => `(tactic| (dsimp only; repeat (first | with_reducible exact InV.here | with_reducible apply InV.there)))
local macro_rules | `(tactic| walk_at "ing") => `(tactic| (dsimp only; repeat (first | with_reducible exact InG.here | with_reducible apply InG.there)))
local macro_rules | `(tactic| walk_at "nb") => `(tactic| first | assumption | (dsimp only; refine BltF.at_ (by assumption) ?_; repeat (first | with_reducible exact InG.here | with_reducible apply InG.there)))
local macro_rules | `(tactic| walk_at "s") => `(tactic| first
  | refine wss_cons ?_ | refine wss_nil ?_ | refine ws_set (by walk_at "inv") ?_ (fun _ => rfl) | refine ws_if ?_ | refine ws_ret ?_ | refine ws_aug (by walk_at "inv") rfl ?_
  | refine ws_expr ?_ (fun _ => rfl) | refine ws_pass ?_ | refine ws_break ?_ | refine ws_cont ?_ | refine ws_retN ?_
  | refine ws_asg ?_ (fun _ => rfl) (fun _ => rfl) (fun _ => rfl) | refine ws_setA ?_ (fun _ => rfl) | refine ws_put ?_ (fun _ => rfl))
local macro_rules | `(tactic| walk_at "we") => `(tactic| first
  | refine we_name (by walk_at "inv") rfl ?_ | refine we_int ?_ | refine we_op ?_ | refine we_str ?_
  | refine we_callB (by walk_at "ing") (by walk_at "nb") (by first | exact PySem.boot_len | exact boot_abs | exact boot_min | exact boot_max | exact boot_sorted | exact boot_isinstance) ?_ (fun _ => rfl) (fun _ => rfl)
  | refine we_callT (by walk_at "ing") (by walk_at "nb") (by first | exact boot_tuple | exact boot_list | exact boot_int) ?_ (fun _ => rfl) (fun _ => rfl)
  | refine we_attr ?_ (fun _ => rfl) | refine we_ix ?_ (fun _ _ => rfl) | refine we_tup ?_
  | refine we_append ?_ (fun _ => rfl) (fun _ => rfl) rfl (fun _ => rfl) (fun _ => rfl)
  | refine we_bl ?_ | refine we_non ?_ | refine we_chain ?_ rfl | refine we_cmp ?_ rfl | refine we_one ?_ | refine we_and ?_ | refine we_or ?_ | refine we_not ?_ | refine we_ifx ?_ | refine we_neg ?_ | refine we_slice ?_)
local macro_rules | `(tactic| walk_at "wb") => `(tactic| first | refine we_type (by walk_at "ing") (by walk_at "nb") boot_int ?_ | refine we_type (by walk_at "ing") (by walk_at "nb") boot_bool ?_ | refine we_type (by walk_at "ing") (by walk_at "nb") boot_str ?_ | refine we_type (by walk_at "ing") (by walk_at "nb") boot_tuple ?_)
local macro_rules | `(tactic| walk_at "wt") => `(tactic| first | refine wt_cmp ?_ rfl | refine wt_not ?_ | refine wt_chain ?_ rfl | refine wt_of ?_)
local macro_rules | `(tactic| walk_at "wto") => `(tactic| first | refine wto_and1 ?_ | refine wto_or1 ?_ | refine wto_and ?_ | refine wto_or ?_)
local macro_rules | `(tactic| walk_at "wo") => `(tactic| first
  | refine wo_add ?_ | refine wo_sub ?_ | refine wo_lt ?_ | refine wo_le ?_ | refine wo_gt ?_ | refine wo_ge ?_ | refine wo_eqI ?_ | refine wo_neI ?_ | refine wo_eqL ?_ | refine wo_neL ?_ | refine wo_lt1 ?_ | refine wo_le1 ?_ | refine wo_ge1 ?_ | refine wo_inL ?_ | refine wo_notInL ?_
  | refine wo_isN (by intro _ h; cases h) ?_ | refine wo_notN (by intro _ h; cases h) ?_)
local macro_rules | `(tactic| walk_at "wc") => `(tactic| first
  | refine wc_len (by first | exact .tup _ | exact .lst _ | exact .bor _ | exact .loc rfl) ?_ | refine wc_int ?_ | refine wc_intB ?_ | refine wc_abs ?_ | refine wc_min2 rfl ?_ | refine wc_max2 rfl ?_ | refine wc_tuple (by first | exact .tup _ | exact .lst _ | exact .bor _ | exact .loc rfl) ?_)
local macro_rules | `(tactic| walk_at "e") => `(tactic| first
  | (with_reducible show WE _ _ _ _ _); walk_at "we"
  | (with_reducible show WT _ _ _ _ _); walk_at "wt"
  | (with_reducible show WTo _ _ _ _ _); walk_at "wto"
  | (with_reducible show WO _ _ _ _ _ _); walk_at "wo"
  | (with_reducible show WA _ _ _ _ _); first | refine wa_cons ?_ (fun _ => rfl) | refine wa_nil ?_
  | (with_reducible show WC _ _ _ _ _); walk_at "wc"
  | (with_reducible show WPO _ _ _ _ _); first | refine wpo_none ?_ | refine wpo_some ?_
  | refine asB_mk ?_ | refine wip_add ?_
  | refine ⟨_, rfl, (by first | decide | exact Nat.le_of_ble_eq_true rfl), ?_⟩)
local macro_rules | `(tactic| walk_at "ew") => `(tactic| ((try simp only [List.set_cons_zero, List.set_cons_succ]); repeat (first | exact EnvW.nil | refine EnvW.keep (by first | rfl | assumption) ?_ | refine EnvW.drop ?_)))
local macro_rules | `(tactic| walk_at "fl") => `(tactic| (refine ⟨_, _, fldL rfl (by repeat (first | with_reducible exact AtN.here | with_reducible apply AtN.there)) rfl, by assumption, NoA.at_ (by assumption) (by walk_at "ing"), ?_⟩))
local macro_rules | `(tactic| walk_at "fv") => `(tactic| (refine ⟨_, _, fldV (by repeat (first | with_reducible exact AtN.here | with_reducible apply AtN.there)) rfl, by assumption, NoA.at_ (by assumption) (by walk_at "ing"), ?_⟩))
section
variable {C : DC} {env : Nv} {S : Sto} {Ψ : R → Sto → Prop}
theorem fnc_LP {r0 : R} {P : List Pr} {row : List Nat} (hd : DctT S r0 (rkK P) (rkD P)) (hl : row.length ≤ 100000) (h : Ψ (.val (oP (lowF P (adj row)))) S) : FnC C spLP [r0, .val (tN row)] env S Ψ := by
  obtain ⟨ks, T, r0', p, a, d', o1, o2, e⟩ := passDct hd
  refine ⟨ks, T, [r0', .val (tN row)], p, .cons a (.cons (.val _) .nil), r0', P, row, rfl, d', o1, o2, hl, ?_⟩
  show Ψ (R.ren _ (.val _)) (backS ks S T)
  rw [e]; exact h
end
def spCR : DSp := fun rs S Ψ _ => ∃ (r0 : R) (P : List Pr) (n : Nat) (row : List Nat), rs = [r0, .val (iN n), .val (tN row)] ∧ DctT S r0 (rkK P) (rkD P) ∧ okE S.length r0 = true ∧ S.all (Node.okB S.length) = true ∧ row.length ≤ 100000 ∧ Ψ (.val (tN (cutF P n row))) S
theorem isNon_oP (o : Option Pr) : isNonR (.val (oP o)) = o.isNone := by cases o <;> rfl
theorem oP_opq (o : Option Pr) : ∀ u, R.val (oP o) ≠ .val (.opq u) := by cases o <;> exact fun _ => nofun
theorem scCR : FnScope ["ranks", "letters", "row", "pair"] ["ranks", "letters", "row"] (defScope (top 15)) := ⟨rfl, rfl, rfl, by decide +kernel, rfl, by decide +kernel, by decide +kernel⟩
theorem ok_cr {g : Gd} {f f1 f2 : Addr} {fd : FuncData} (F : FunD g.K "cut_row" "cut_row" (defArgs (top 15)) (defBody (top 15)) (defScope (top 15)) [] [] f fd) (hb : Binds g.K fd ["ranks", "letters", "row"] [])
    (G1 : FnD g 1 f1 ["ranks", "row"] spLP) (m1 : g.mg "lowest_pair" = some (.ref f1)) (G2 : FnD g 1 f2 ["row", "pair", "piece"] spPT) (m2 : g.mg "put_together" = some (.ref f2)) :
    FnD g 2 f ["ranks", "letters", "row"] spCR := by
  refine fn_mk F hb scCR (gl := ["lowest_pair", "put_together"]) [("ranks", 0), ("letters", 1), ("row", 2), ("pair", 3)] (by decide +kernel) (by decide +kernel) (fun rs S Ψ ξ h => ?_) (fun rs S Ψ ξ h => ?_)
  · obtain ⟨_, _, _, _, rfl, _⟩ := h; rfl
  · obtain ⟨r0, P, n, row, rfl, hd, h0, hS, hl, hΨ⟩ := h
    refine wss_cons ?_
    walk_at "s"
    refine we_call G1 (by walk_at "ing") m1 (Nat.le_of_ble_eq_true rfl) rfl ?_ (fun _ => rfl) (fun _ => rfl)
    repeat walk_at "e"
    refine fnc_LP hd hl ?_
    refine wss_cons ?_
    refine ws_while (fun m env S' => ∃ row', m = row'.length ∧ row'.length ≤ 100000 ∧ cutF P n row' = cutF P n row ∧ env = [some r0, some (.val (iN n)), some (.val (tN row')), some (.val (oP (lowF P (adj row'))))] ∧ S' = S) row.length (Nat.le_refl _) ⟨row, rfl, hl, rfl, rfl, rfl⟩ ?_
    rintro m env' S' ⟨row', rfl, hl', hc, rfl, rfl⟩
    generalize ho : lowF P (adj row') = o
    repeat walk_at "e"
    refine wo_notN (oP_opq o) ?_
    repeat walk_at "e"
    rw [isNon_oP]
    cases o with
    | none =>
      refine ⟨fun h => (by cases h), fun _ => ?_⟩
      refine wss_one ?_
      walk_at "s"
      walk_at "e"
      refine RetC.now (Nat.le_refl _) hS rfl ?_
      rw [← hc, cutF_none ho] at hΨ
      exact hΨ
    | some p =>
      refine ⟨fun _ => ?_, fun h => (by cases h)⟩
      have hp : p ∈ adj row' ∧ p ∈ P := by
        rcases lowF_mem ho with h | h
        · exact h
        · cases h
      have hP := LookD.rk hd p
      rw [if_pos hp.2] at hP
      have hlt : (putT p.1 p.2 (n + P.idxOf p) row').length < row'.length := putT_lt hp.1
      refine wss_cons ?_
      walk_at "s"
      refine we_call G2 (by walk_at "ing") m2 (Nat.le_of_ble_eq_true rfl) rfl ?_ (fun _ => rfl) (fun _ => rfl)
      repeat walk_at "e"
      refine wix_dct hP ?_
      repeat walk_at "e"
      refine fnc_F (A := PT) ⟨row', p.1, p.2, n + P.idxOf p⟩ rfl hl' ?_
      refine wss_one ?_
      walk_at "s"
      refine we_call G1 (by walk_at "ing") m1 (Nat.le_of_ble_eq_true rfl) rfl ?_ (fun _ => rfl) (fun _ => rfl)
      repeat walk_at "e"
      refine fnc_LP hd (by dsimp only; omega) ?_
      dsimp only
      refine ⟨_, hlt, Wk.drop (env' := [some r0, some (.val (iN n)), some (.val (tN (putT p.1 p.2 (n + P.idxOf p) row'))), some (.val (oP (lowF P (adj (putT p.1 p.2 (n + P.idxOf p) row')))))]) ⟨_, rfl, by omega, ?_, rfl, rfl⟩ (by walk_at "ew") (Nat.le_refl _) hS⟩
      rw [← hc, cutF_some ho]
theorem fnc_CR {C : DC} {env : Nv} {S : Sto} {Ψ : R → Sto → Prop} {r0 : R} {P : List Pr} {n : Nat} {row : List Nat} (hd : DctT S r0 (rkK P) (rkD P)) (hl : row.length ≤ 100000) (h : Ψ (.val (tN (cutF P n row))) S) : FnC C spCR [r0, .val (iN n), .val (tN row)] env S Ψ := by
  obtain ⟨ks, T, r0', p, a, d', o1, o2, e⟩ := passDct hd
  refine ⟨ks, T, [r0', .val (iN n), .val (tN row)], p, .cons a (.cons (.val _) (.cons (.val _) .nil)), r0', P, n, row, rfl, d', o1, o2, hl, ?_⟩
  show Ψ (R.ren _ (.val _)) (backS ks S T)
  rw [e]; exact h
end DL
set_option Elab.async false
set_option linter.all false
set_option maxRecDepth 100000
set_option maxHeartbeats 4000000
namespace DL
open PySem PySem.Spec PyProof.Rows
open L2 hiding Takes passAt takes_of ps_raise PMk ps_try_as
open L2N (Takes passAt takes_of ps_raise PMk ps_try_as)
local macro_rules | `(tactic| walk_at "inv") => `(tactic| (dsimp only; repeat (first | with_reducible exact InV.here | with_reducible apply InV.there)))
local macro_rules | `(tactic| walk_at "ing") => `(tactic| (dsimp only; repeat (first | with_reducible exact InG.here | with_reducible apply InG.there)))
local macro_rules | `(tactic| walk_at "nb") => `(tactic| first | assumption | (dsimp only; refine BltF.at_ (by assumption) ?_; repeat (first | with_reducible exact InG.here | with_reducible apply InG.there)))
local macro_rules | `(tactic| walk_at "s") => `(tactic| first
  | refine wss_cons ?_ | refine wss_nil ?_ | refine ws_set (by walk_at "inv") ?_ (fun _ => rfl) | refine ws_if ?_ | refine ws_ret ?_ | refine ws_aug (by walk_at "inv") rfl ?_
  | refine ws_expr ?_ (fun _ => rfl) | refine ws_pass ?_ | refine ws_break ?_ | refine ws_cont ?_ | refine ws_retN ?_
  | refine ws_asg ?_ (fun _ => rfl) (fun _ => rfl) (fun _ => rfl) | refine ws_setA ?_ (fun _ => rfl) | refine ws_put ?_ (fun _ => rfl))
local macro_rules | `(tactic| walk_at "we") => `(tactic| first
  | refine we_name (by walk_at "inv") rfl ?_ | refine we_int ?_ | refine we_op ?_ | refine we_str ?_
  | refine we_callB (by walk_at "ing") (by walk_at "nb") (by first | exact PySem.boot_len | exact boot_abs | exact boot_min | exact boot_max | exact boot_sorted | exact boot_isinstance) ?_ (fun _ => rfl) (fun _ => rfl)
  | refine we_callT (by walk_at "ing") (by walk_at "nb") (by first | exact boot_tuple | exact boot_list | exact boot_int) ?_ (fun _ => rfl) (fun _ => rfl)
  | refine we_attr ?_ (fun _ => rfl) | refine we_ix ?_ (fun _ _ => rfl) | refine we_tup ?_
  | refine we_append ?_ (fun _ => rfl) (fun _ => rfl) rfl (fun _ => rfl) (fun _ => rfl)
  | refine we_bl ?_ | refine we_non ?_ | refine we_chain ?_ rfl | refine we_cmp ?_ rfl | refine we_one ?_ | refine we_and ?_ | refine we_or ?_ | refine we_not ?_ | refine we_ifx ?_ | refine we_neg ?_ | refine we_slice ?_)
local macro_rules | `(tactic| walk_at "wb") => `(tactic| first | refine we_type (by walk_at "ing") (by walk_at "nb") boot_int ?_ | refine we_type (by walk_at "ing") (by walk_at "nb") boot_bool ?_ | refine we_type (by walk_at "ing") (by walk_at "nb") boot_str ?_ | refine we_type (by walk_at "ing") (by walk_at "nb") boot_tuple ?_)
local macro_rules | `(tactic| walk_at "wt") => `(tactic| first | refine wt_cmp ?_ rfl | refine wt_not ?_ | refine wt_chain ?_ rfl | refine wt_of ?_)
local macro_rules | `(tactic| walk_at "wto") => `(tactic| first | refine wto_and1 ?_ | refine wto_or1 ?_ | refine wto_and ?_ | refine wto_or ?_)
local macro_rules | `(tactic| walk_at "wo") => `(tactic| first
  | refine wo_add ?_ | refine wo_sub ?_ | refine wo_lt ?_ | refine wo_le ?_ | refine wo_gt ?_ | refine wo_ge ?_ | refine wo_eqI ?_ | refine wo_neI ?_ | refine wo_eqL ?_ | refine wo_neL ?_ | refine wo_lt1 ?_ | refine wo_le1 ?_ | refine wo_ge1 ?_ | refine wo_inL ?_ | refine wo_notInL ?_
  | refine wo_isN (by intro _ h; cases h) ?_ | refine wo_notN (by intro _ h; cases h) ?_)
local macro_rules | `(tactic| walk_at "wc") => `(tactic| first
  | refine wc_len (by first | exact .tup _ | exact .lst _ | exact .bor _ | exact .loc rfl) ?_ | refine wc_int ?_ | refine wc_intB ?_ | refine wc_abs ?_ | refine wc_min2 rfl ?_ | refine wc_max2 rfl ?_ | refine wc_tuple (by first | exact .tup _ | exact .lst _ | exact .bor _ | exact .loc rfl) ?_)
local macro_rules | `(tactic| walk_at "e") => `(tactic| first
  | (with_reducible show WE _ _ _ _ _); walk_at "we"
  | (with_reducible show WT _ _ _ _ _); walk_at "wt"
  | (with_reducible show WTo _ _ _ _ _); walk_at "wto"
  | (with_reducible show WO _ _ _ _ _ _); walk_at "wo"
  | (with_reducible show WA _ _ _ _ _); first | refine wa_cons ?_ (fun _ => rfl) | refine wa_nil ?_
  | (with_reducible show WC _ _ _ _ _); walk_at "wc"
  | (with_reducible show WPO _ _ _ _ _); first | refine wpo_none ?_ | refine wpo_some ?_
  | refine asB_mk ?_ | refine wip_add ?_
  | refine ⟨_, rfl, (by first | decide | exact Nat.le_of_ble_eq_true rfl), ?_⟩)
local macro_rules | `(tactic| walk_at "ew") => `(tactic| ((try simp only [List.set_cons_zero, List.set_cons_succ]); repeat (first | exact EnvW.nil | refine EnvW.keep (by first | rfl | assumption) ?_ | refine EnvW.drop ?_)))
local macro_rules | `(tactic| walk_at "fl") => `(tactic| (refine ⟨_, _, fldL rfl (by repeat (first | with_reducible exact AtN.here | with_reducible apply AtN.there)) rfl, by assumption, NoA.at_ (by assumption) (by walk_at "ing"), ?_⟩))
local macro_rules | `(tactic| walk_at "fv") => `(tactic| (refine ⟨_, _, fldV (by repeat (first | with_reducible exact AtN.here | with_reducible apply AtN.there)) rfl, by assumption, NoA.at_ (by assumption) (by walk_at "ing"), ?_⟩))
structure IB where
  v : Int
  a : Int
  b : Int
abbrev spIB := spF IB (fun p => [.int p.v, .int p.a, .int p.b]) (fun _ => True) (fun p => .bl (decide (p.a ≤ p.v ∧ p.v ≤ p.b)))
theorem scIB : FnScope ["value", "least", "most"] ["value", "least", "most"] (defScope (top 10)) := ⟨rfl, rfl, rfl, by decide +kernel, rfl, by decide +kernel, by decide +kernel⟩
theorem ok_ib {g : Gd} {f : Addr} {fd : FuncData} (F : FunD g.K "is_between" "is_between" (defArgs (top 10)) (defBody (top 10)) (defScope (top 10)) [] [] f fd) (hb : Binds g.K fd ["value", "least", "most"] []) (hB : BltF g ["isinstance", "int", "bool"]) :
    FnD g 1 f ["value", "least", "most"] spIB := by
  refine fn_mk F hb scIB (gl := ["isinstance", "int", "bool"]) [("value", 0), ("least", 1), ("most", 2)] (by decide +kernel) (by decide +kernel) (fun rs S Ψ ξ h => ?_) (fun rs S Ψ ξ h => ?_)
  · obtain ⟨_, rfl, _⟩ := h; rfl
  · obtain ⟨⟨v, a, b⟩, rfl, rfl, _, hΨ⟩ := h
    dsimp only at hΨ
    refine wss_one ?_
    walk_at "s"
    repeat walk_at "e"
    walk_at "wb"
    repeat walk_at "e"
    refine wc_isi (T := "int") (q := true) rfl (by decide +kernel) ?_
    walk_at "e"
    refine ⟨fun _ => ?_, fun h => (by cases h)⟩
    repeat walk_at "e"
    walk_at "wb"
    repeat walk_at "e"
    refine wc_isi (T := "int") (q := false) rfl (by decide +kernel) ?_
    repeat walk_at "e"
    refine ⟨fun _ => ?_, fun h => (by cases h)⟩
    repeat walk_at "e"
    refine ⟨fun h1 => ?_, fun h1 => ?_⟩
    · repeat walk_at "e"
      refine RetC.now (Nat.le_refl _) rfl rfl ?_
      rw [show decide (v ≤ b) = decide (a ≤ v ∧ v ≤ b) from decide_eq_decide.mpr (by have h1 : a ≤ v := of_decide_eq_true h1; omega)]
      exact hΨ
    · refine RetC.now (Nat.le_refl _) rfl rfl ?_
      rw [show decide (a ≤ v ∧ v ≤ b) = false from decide_eq_false (by have h1 : ¬ a ≤ v := of_decide_eq_false h1; omega)] at hΨ
      exact hΨ

def alphB (l : List Nat) : Bool := decide (1 ≤ l.length ∧ l.length ≤ 30 ∧ (∀ i < l.length, 32 ≤ l.getD i 0 ∧ l.getD i 0 ≤ 126) ∧ ∀ i < l.length - 1, l.getD i 0 < l.getD (i + 1) 0)
abbrev spIA := spF (List Nat) (fun l => [sL l]) (fun l => l.length ≤ 100000) (fun l => .bl (alphB l))
theorem scIA : FnScope ["alphabet", "sign", "at"] ["alphabet"] (defScope (top 11)) := ⟨rfl, rfl, rfl, by decide +kernel, rfl, by decide +kernel, by decide +kernel⟩
theorem ok_ia {g : Gd} {f : Addr} {fd : FuncData} {tk : Tok} (F : FunD g.K "is_alphabet" "is_alphabet" (defArgs (top 11)) (defBody (top 11)) (defScope (top 11)) [] [] f fd) (hb : Binds g.K fd ["alphabet"] []) (hB : BltF g ["len", "range"]) (hM : g.mg "MOST_LETTERS" = some (.int 30 tk)) :
    FnD g 1 f ["alphabet"] spIA := by
  refine fn_mk F hb scIA (gl := ["len", "range", "MOST_LETTERS"]) [("alphabet", 0), ("sign", 1), ("at", 2)] (by decide +kernel) (by decide +kernel) (fun rs S Ψ ξ h => ?_) (fun rs S Ψ ξ h => ?_)
  · obtain ⟨_, rfl, _⟩ := h; rfl
  · obtain ⟨l, rfl, rfl, hl, hΨ⟩ := h
    dsimp only at hl hΨ
    have hz : l.length ≤ sizeLine := by rw [sizeLine_eq]; omega
    refine wss_cons ?_
    refine ws_ifB (¬ (1 ≤ l.length ∧ l.length ≤ 30)) ?_ (fun ht => ?_) (fun hf => ?_)
    · repeat walk_at "e"
      refine wc_lenL hz ?_
      repeat walk_at "e"
      refine ⟨fun h1 => ?_, fun h1 => ?_⟩
      · have h1 := of_decide_eq_true h1
        repeat walk_at "e"
        refine we_glob (d := .int 30) (by walk_at "ing") hM ⟨.int 30, ⟨_, rfl⟩, fun _ => rfl⟩ ?_
        repeat walk_at "e"
        exact ⟨by rw [← decide_not]; exact decide_eq_decide.mpr (by omega), rfl⟩
      · have h1 := of_decide_eq_false h1
        exact ⟨(decide_eq_true (by omega)).symm, rfl⟩
    · refine wss_one ?_
      walk_at "s"
      walk_at "e"
      refine RetC.now (Nat.le_refl _) rfl rfl ?_
      rw [show alphB l = false from decide_eq_false (fun h => ht ⟨h.1, h.2.1⟩)] at hΨ
      exact hΨ
    · have hf : 1 ≤ l.length ∧ l.length ≤ 30 := Decidable.not_not.mp hf
      walk_at "s"
      refine wss_cons ?_
      refine ws_for rfl ?_ (fun _ _ => rfl)
      refine wi_strL ?_
      repeat walk_at "e"
      refine ⟨l, rfl, fun i env S' => env = [some (.val (sL l)), none, none] ∧ S' = [] ∧ ∀ j < i, 32 ≤ l.getD j 0 ∧ l.getD j 0 ≤ 126, Nat.le_refl _, ⟨rfl, rfl, by simp⟩, fun _ _ _ _ => trivial, ?_, ?_⟩
      · rintro i d env' S' hd ⟨rfl, rfl, hj⟩
        rw [List.getElem?_map] at hd
        obtain ⟨c, hc, rfl⟩ := Option.map_eq_some_iff.mp hd
        have hcD : l.getD i 0 = c := by rw [List.getD_eq_getElem?_getD, hc]; rfl
        have hi : i < l.length := (List.getElem?_eq_some_iff.mp hc).1
        refine wg_name (by walk_at "inv") ?_
        refine wss_one ?_
        refine ws_ifB (¬ (32 ≤ c ∧ c ≤ 126)) ?_ (fun ht => ?_) (fun hf => ?_)
        · repeat walk_at "e"
          refine ⟨fun h1 => ?_, fun h1 => ?_⟩
          · have h1 : 32 ≤ c := of_decide_eq_true h1
            repeat walk_at "e"
            refine ⟨?_, rfl⟩
            show (!decide (c ≤ 126)) = _
            rw [← decide_not]; exact decide_eq_decide.mpr (by omega)
          · have h1 : ¬ 32 ≤ c := of_decide_eq_false h1
            exact ⟨(decide_eq_true (by omega)).symm, rfl⟩
        · refine wss_one ?_
          walk_at "s"
          walk_at "e"
          refine RetC.now (Nat.le_refl _) rfl rfl ?_
          rw [show alphB l = false from decide_eq_false (fun h => ht (by have := h.2.2.1 i hi; rw [hcD] at this; exact this))] at hΨ
          exact hΨ
        · have hf := Decidable.not_not.mp hf
          walk_at "s"
          dsimp only
          refine Wk.drop (env' := [some (.val (sL l)), none, none]) ⟨rfl, rfl, fun j hj' => ?_⟩ (by walk_at "ew") (Nat.le_refl _) rfl
          by_cases e : j = i
          · subst e; rw [hcD]; exact hf
          · exact hj j (by omega)
      · rintro env' S' ⟨rfl, rfl, hj⟩
        rw [List.length_map] at hj
        refine wss_cons ?_
        refine ws_for rfl ?_ (fun _ _ => rfl)
        refine wi_range2 (by walk_at "ing") (by walk_at "nb") ?_ (fun _ => rfl) (fun _ => rfl)
        repeat walk_at "e"
        refine wc_lenL hz ?_
        refine ⟨1, l.length, rfl, rfl, by omega, fun i env S' => env = [some (.val (sL l)), none, none] ∧ S' = [] ∧ ∀ j < i, l.getD j 0 < l.getD (j + 1) 0, Nat.le_refl _, ⟨rfl, rfl, by simp⟩, fun _ _ _ _ => trivial, ?_, ?_⟩
        · rintro i d env' S' hd ⟨rfl, rfl, hj2⟩
          obtain ⟨hi, rfl⟩ := rangeD_get hd
          have hi1 : i + 1 < l.length := by omega
          have hi0 : i < l.length := by omega
          refine wg_name (by walk_at "inv") ?_
          refine wss_one ?_
          refine ws_ifB (l[i + 1] ≤ l[i]) ?_ (fun ht => ?_) (fun hf => ?_)
          · repeat walk_at "e"
            refine wix_L hz (c := l[i]) (atI_get (k := i) (by omega) (by simp)) ?_
            repeat walk_at "e"
            refine wix_L hz (c := l[i + 1]) (atI_get (k := i + 1) (by omega) (by simp)) ?_
            repeat walk_at "e"
            exact ⟨rfl, rfl⟩
          · refine wss_one ?_
            walk_at "s"
            walk_at "e"
            refine RetC.now (Nat.le_refl _) rfl rfl ?_
            rw [show alphB l = false from decide_eq_false (fun h => by
              have := h.2.2.2 i (by omega)
              rw [List.getD_eq_getElem?_getD, List.getD_eq_getElem?_getD, List.getElem?_eq_getElem hi0, List.getElem?_eq_getElem hi1] at this
              simp at this; omega)] at hΨ
            exact hΨ
          · walk_at "s"
            dsimp only
            refine Wk.drop (env' := [some (.val (sL l)), none, none]) ⟨rfl, rfl, fun j hj' => ?_⟩ (by walk_at "ew") (Nat.le_refl _) rfl
            by_cases e : j = i
            · subst e
              rw [List.getD_eq_getElem?_getD, List.getD_eq_getElem?_getD, List.getElem?_eq_getElem hi0, List.getElem?_eq_getElem hi1]
              simp; omega
            · exact hj2 j (by omega)
        · rintro env' S' ⟨rfl, rfl, hj2⟩
          rw [rangeD_len] at hj2
          refine wss_one ?_
          walk_at "s"
          walk_at "e"
          refine RetC.now (Nat.le_refl _) rfl rfl ?_
          rw [show alphB l = true from decide_eq_true ⟨hf.1, hf.2, hj, fun i hi => hj2 i (by omega)⟩] at hΨ
          exact hΨ
end DL
set_option Elab.async false
set_option linter.all false
set_option maxRecDepth 100000
set_option maxHeartbeats 4000000
namespace DL
open PySem PySem.Spec PyProof.Rows
open L2 hiding Takes passAt takes_of ps_raise PMk ps_try_as
open L2N (Takes passAt takes_of ps_raise PMk ps_try_as)
local macro_rules | `(tactic| walk_at "inv") => `(tactic| ((try dsimp only); repeat (first | with_reducible exact InV.here | with_reducible apply InV.there)))
local macro_rules | `(tactic| walk_at "ing") => `(tactic| ((try dsimp only); repeat (first | with_reducible exact InG.here | with_reducible apply InG.there)))
local macro_rules | `(tactic| walk_at "nb") => `(tactic| first | assumption | (dsimp only; refine BltF.at_ (by assumption) ?_; repeat (first | with_reducible exact InG.here | with_reducible apply InG.there)))
local macro_rules | `(tactic| walk_at "s") => `(tactic| first
  | refine wss_cons ?_ | refine wss_nil ?_ | refine ws_set (by walk_at "inv") ?_ (fun _ => rfl) | refine ws_if ?_ | refine ws_ret ?_ | refine ws_aug (by walk_at "inv") rfl ?_
  | refine ws_expr ?_ (fun _ => rfl) | refine ws_pass ?_ | refine ws_break ?_ | refine ws_cont ?_ | refine ws_retN ?_
  | refine ws_setA ?_ (fun _ => rfl) | refine ws_put ?_ (fun _ => rfl) | refine ws_asg ?_ (fun _ => rfl) (fun _ => rfl) (fun _ => rfl))
local macro_rules | `(tactic| walk_at "we") => `(tactic| first
  | refine we_name (by walk_at "inv") rfl ?_ | refine we_int ?_ | refine we_op ?_ | refine we_str ?_
  | refine we_callB (by walk_at "ing") (by walk_at "nb") (by first | exact PySem.boot_len | exact boot_abs | exact boot_min | exact boot_max | exact boot_sorted | exact boot_isinstance) ?_ (fun _ => rfl) (fun _ => rfl)
  | refine we_callT (by walk_at "ing") (by walk_at "nb") (by first | exact boot_tuple | exact boot_list | exact boot_int) ?_ (fun _ => rfl) (fun _ => rfl)
  | refine we_attr ?_ (fun _ => rfl) | refine we_ix ?_ (fun _ _ => rfl) | refine we_tup ?_
  | refine we_append ?_ (fun _ => rfl) (fun _ => rfl) rfl (fun _ => rfl) (fun _ => rfl)
  | refine we_bl ?_ | refine we_non ?_ | refine we_chain ?_ rfl | refine we_cmp ?_ rfl | refine we_one ?_ | refine we_and ?_ | refine we_or ?_ | refine we_not ?_ | refine we_ifx ?_ | refine we_neg ?_ | refine we_slice ?_)
local macro_rules | `(tactic| walk_at "wb") => `(tactic| first | refine we_type (by walk_at "ing") (by walk_at "nb") boot_int ?_ | refine we_type (by walk_at "ing") (by walk_at "nb") boot_bool ?_ | refine we_type (by walk_at "ing") (by walk_at "nb") boot_str ?_ | refine we_type (by walk_at "ing") (by walk_at "nb") boot_tuple ?_)
local macro_rules | `(tactic| walk_at "wt") => `(tactic| first | refine wt_cmp ?_ rfl | refine wt_not ?_ | refine wt_chain ?_ rfl | refine wt_of ?_)
local macro_rules | `(tactic| walk_at "wto") => `(tactic| first | refine wto_and1 ?_ | refine wto_or1 ?_ | refine wto_and ?_ | refine wto_or ?_)
local macro_rules | `(tactic| walk_at "wo") => `(tactic| first
  | refine wo_add ?_ | refine wo_sub ?_ | refine wo_lt ?_ | refine wo_le ?_ | refine wo_gt ?_ | refine wo_ge ?_ | refine wo_eqI ?_ | refine wo_neI ?_ | refine wo_eqL ?_ | refine wo_neL ?_ | refine wo_lt1 ?_ | refine wo_le1 ?_ | refine wo_ge1 ?_ | refine wo_inL ?_ | refine wo_notInL ?_
  | refine wo_mod (by omega) ?_ | refine wo_fdiv ⟨by omega, by omega⟩ ?_ | refine wo_mul (by first | exact Or.inr ⟨by omega, by omega⟩ | exact Or.inl ⟨by omega, by omega⟩) ?_ | refine wo_pow ⟨by omega, by omega, by decide⟩ ?_
  | refine wo_isN (by intro _ h; cases h) ?_ | refine wo_notN (by intro _ h; cases h) ?_)
local macro_rules | `(tactic| walk_at "wc") => `(tactic| first
  | refine wc_len (by first | exact .tup _ | exact .lst _ | exact .bor _ | exact .loc rfl) ?_ | refine wc_int ?_ | refine wc_intB ?_ | refine wc_abs ?_ | refine wc_min2 rfl ?_ | refine wc_max2 rfl ?_ | refine wc_tuple (by first | exact .tup _ | exact .lst _ | exact .bor _ | exact .loc rfl) ?_)
local macro_rules | `(tactic| walk_at "e") => `(tactic| first
  | (with_reducible show WE _ _ _ _ _); walk_at "we"
  | (with_reducible show WT _ _ _ _ _); walk_at "wt"
  | (with_reducible show WTo _ _ _ _ _); walk_at "wto"
  | (with_reducible show WO _ _ _ _ _ _); walk_at "wo"
  | (with_reducible show WA _ _ _ _ _); first | refine wa_cons ?_ (fun _ => rfl) | refine wa_nil ?_
  | (with_reducible show WC _ _ _ _ _); walk_at "wc"
  | (with_reducible show WPO _ _ _ _ _); first | refine wpo_none ?_ | refine wpo_some ?_
  | refine asB_mk ?_ | refine wip_add ?_
  | refine ⟨_, rfl, (by first | decide | exact Nat.le_of_ble_eq_true rfl), ?_⟩)
local macro_rules | `(tactic| walk_at "ew") => `(tactic| ((try simp only [List.set_cons_zero, List.set_cons_succ]); repeat (first | exact EnvW.nil | refine EnvW.keep (by first | rfl | assumption) ?_ | refine EnvW.drop ?_)))
local macro_rules | `(tactic| walk_at "fl") => `(tactic| (refine ⟨_, _, fldL rfl (by repeat (first | with_reducible exact AtN.here | with_reducible apply AtN.there)) rfl, by assumption, NoA.at_ (by assumption) (by walk_at "ing"), ?_⟩))
local macro_rules | `(tactic| walk_at "fv") => `(tactic| (refine ⟨_, _, fldV (by repeat (first | with_reducible exact AtN.here | with_reducible apply AtN.there)) rfl, by assumption, NoA.at_ (by assumption) (by walk_at "ing"), ?_⟩))
/-! ### is_between of what is no number between -/
theorem ok_io {g : Gd} {f : Addr} {fd : FuncData} (F : FunD g.K "is_between" "is_between" (defArgs (top 10)) (defBody (top 10)) (defScope (top 10)) [] [] f fd) (hb : Binds g.K fd ["value", "least", "most"] []) (hB : BltF g ["isinstance", "int", "bool"]) :
    FnD g 1 f ["value", "least", "most"] spIO := by
  refine fn_mk F hb scIB (gl := ["isinstance", "int", "bool"]) [("value", 0), ("least", 1), ("most", 2)] (by decide +kernel) (by decide +kernel) (fun rs S Ψ ξ h => ?_) (fun rs S Ψ ξ h => ?_)
  · obtain ⟨_, _, _, rfl, _⟩ := h; rfl
  · obtain ⟨d, a, b, rfl, rfl, hd, hΨ⟩ := h
    cases hd with
    | non =>
      refine wss_one ?_
      refine ws_ret ?_
      repeat walk_at "e"
      walk_at "wb"
      repeat walk_at "e"
      refine wc_isi (T := "NoneType") (q := false) rfl (by decide +kernel) ?_
      walk_at "e"
      refine ⟨fun h => (by cases h), fun _ => ?_⟩
      exact RetC.now (Nat.le_refl _) rfl rfl hΨ
    | str s =>
      refine wss_one ?_
      refine ws_ret ?_
      repeat walk_at "e"
      walk_at "wb"
      repeat walk_at "e"
      refine wc_isi (T := "str") (q := false) rfl (by decide +kernel) ?_
      walk_at "e"
      refine ⟨fun h => (by cases h), fun _ => ?_⟩
      exact RetC.now (Nat.le_refl _) rfl rfl hΨ
    | tup ds =>
      refine wss_one ?_
      refine ws_ret ?_
      repeat walk_at "e"
      walk_at "wb"
      repeat walk_at "e"
      refine wc_isi (T := "tuple") (q := false) rfl (by decide +kernel) ?_
      walk_at "e"
      refine ⟨fun h => (by cases h), fun _ => ?_⟩
      exact RetC.now (Nat.le_refl _) rfl rfl hΨ
    | lst ds =>
      refine wss_one ?_
      refine ws_ret ?_
      repeat walk_at "e"
      walk_at "wb"
      repeat walk_at "e"
      refine wc_isi (T := "list") (q := false) rfl (by decide +kernel) ?_
      walk_at "e"
      refine ⟨fun h => (by cases h), fun _ => ?_⟩
      exact RetC.now (Nat.le_refl _) rfl rfl hΨ
    | bl k =>
      refine wss_one ?_
      refine ws_ret ?_
      repeat walk_at "e"
      walk_at "wb"
      repeat walk_at "e"
      refine wc_isi (T := "bool") (q := true) rfl (by decide +kernel) ?_
      walk_at "e"
      refine ⟨fun _ => ?_, fun h => (by cases h)⟩
      repeat walk_at "e"
      walk_at "wb"
      repeat walk_at "e"
      refine wc_isi (T := "bool") (q := true) rfl (by decide +kernel) ?_
      repeat walk_at "e"
      refine ⟨fun h => (by cases h), fun _ => ?_⟩
      exact RetC.now (Nat.le_refl _) rfl rfl hΨ
    | int hv =>
      rename_i v
      refine wss_one ?_
      refine ws_ret ?_
      repeat walk_at "e"
      walk_at "wb"
      repeat walk_at "e"
      refine wc_isi (T := "int") (q := true) rfl (by decide +kernel) ?_
      walk_at "e"
      refine ⟨fun _ => ?_, fun h => (by cases h)⟩
      repeat walk_at "e"
      walk_at "wb"
      repeat walk_at "e"
      refine wc_isi (T := "int") (q := false) rfl (by decide +kernel) ?_
      repeat walk_at "e"
      refine ⟨fun _ => ?_, fun h => (by cases h)⟩
      repeat walk_at "e"
      refine ⟨fun h1 => ?_, fun h1 => ?_⟩
      · repeat walk_at "e"
        refine RetC.now (Nat.le_refl _) rfl rfl ?_
        rw [show decide (v ≤ b) = false from decide_eq_false (by have h1 : a ≤ v := of_decide_eq_true h1; omega)]
        exact hΨ
      · exact RetC.now (Nat.le_refl _) rfl rfl hΨ
end DL
set_option Elab.async false
set_option linter.all false
set_option maxRecDepth 100000
set_option maxHeartbeats 4000000
namespace DL
open PySem PySem.Spec PyProof.Rows
open L2 hiding Takes passAt takes_of ps_raise PMk ps_try_as
open L2N (Takes passAt takes_of ps_raise PMk ps_try_as)
local macro_rules | `(tactic| walk_at "inv") => `(tactic| ((try dsimp only); repeat (first | with_reducible exact InV.here | with_reducible apply InV.there)))
local macro_rules | `(tactic| walk_at "ing") => `(tactic| ((try dsimp only); repeat (first | with_reducible exact InG.here | with_reducible apply InG.there)))
local macro_rules | `(tactic| walk_at "nb") => `(tactic| first | assumption | (dsimp only; refine BltF.at_ (by assumption) ?_; repeat (first | with_reducible exact InG.here | with_reducible apply InG.there)))
local macro_rules | `(tactic| walk_at "s") => `(tactic| first
  | refine wss_cons ?_ | refine wss_nil ?_ | refine ws_set (by walk_at "inv") ?_ (fun _ => rfl) | refine ws_if ?_ | refine ws_ret ?_ | refine ws_aug (by walk_at "inv") rfl ?_
  | refine ws_expr ?_ (fun _ => rfl) | refine ws_pass ?_ | refine ws_break ?_ | refine ws_cont ?_ | refine ws_retN ?_
  | refine ws_asg ?_ (fun _ => rfl) (fun _ => rfl) (fun _ => rfl) | refine ws_setA ?_ (fun _ => rfl) | refine ws_put ?_ (fun _ => rfl))
local macro_rules | `(tactic| walk_at "we") => `(tactic| first
  | refine we_name (by walk_at "inv") rfl ?_ | refine we_int ?_ | refine we_op ?_ | refine we_str ?_
  | refine we_callB (by walk_at "ing") (by walk_at "nb") (by first | exact PySem.boot_len | exact boot_abs | exact boot_min | exact boot_max | exact boot_sorted | exact boot_isinstance) ?_ (fun _ => rfl) (fun _ => rfl)
  | refine we_callT (by walk_at "ing") (by walk_at "nb") (by first | exact boot_tuple | exact boot_list | exact boot_int) ?_ (fun _ => rfl) (fun _ => rfl)
  | refine we_attr ?_ (fun _ => rfl) | refine we_ix ?_ (fun _ _ => rfl) | refine we_tup ?_
  | refine we_append ?_ (fun _ => rfl) (fun _ => rfl) rfl (fun _ => rfl) (fun _ => rfl)
  | refine we_bl ?_ | refine we_non ?_ | refine we_chain ?_ rfl | refine we_cmp ?_ rfl | refine we_one ?_ | refine we_and ?_ | refine we_or ?_ | refine we_not ?_ | refine we_ifx ?_ | refine we_neg ?_ | refine we_slice ?_)
local macro_rules | `(tactic| walk_at "wb") => `(tactic| first | refine we_type (by walk_at "ing") (by walk_at "nb") boot_int ?_ | refine we_type (by walk_at "ing") (by walk_at "nb") boot_bool ?_ | refine we_type (by walk_at "ing") (by walk_at "nb") boot_str ?_ | refine we_type (by walk_at "ing") (by walk_at "nb") boot_tuple ?_)
local macro_rules | `(tactic| walk_at "wt") => `(tactic| first | refine wt_cmp ?_ rfl | refine wt_not ?_ | refine wt_chain ?_ rfl | refine wt_of ?_)
local macro_rules | `(tactic| walk_at "wto") => `(tactic| first | refine wto_and1 ?_ | refine wto_or1 ?_ | refine wto_and ?_ | refine wto_or ?_)
local macro_rules | `(tactic| walk_at "wo") => `(tactic| first
  | refine wo_add ?_ | refine wo_sub ?_ | refine wo_lt ?_ | refine wo_le ?_ | refine wo_gt ?_ | refine wo_ge ?_ | refine wo_eqI ?_ | refine wo_neI ?_ | refine wo_eqL ?_ | refine wo_neL ?_ | refine wo_lt1 ?_ | refine wo_le1 ?_ | refine wo_ge1 ?_ | refine wo_inL ?_ | refine wo_notInL ?_
  | refine wo_isN (by intro _ h; cases h) ?_ | refine wo_notN (by intro _ h; cases h) ?_)
local macro_rules | `(tactic| walk_at "wc") => `(tactic| first
  | refine wc_len (by first | exact .tup _ | exact .lst _ | exact .bor _ | exact .loc rfl) ?_ | refine wc_int ?_ | refine wc_intB ?_ | refine wc_abs ?_ | refine wc_min2 rfl ?_ | refine wc_max2 rfl ?_ | refine wc_tuple (by first | exact .tup _ | exact .lst _ | exact .bor _ | exact .loc rfl) ?_)
local macro_rules | `(tactic| walk_at "e") => `(tactic| first
  | (with_reducible show WE _ _ _ _ _); walk_at "we"
  | (with_reducible show WT _ _ _ _ _); walk_at "wt"
  | (with_reducible show WTo _ _ _ _ _); walk_at "wto"
  | (with_reducible show WO _ _ _ _ _ _); walk_at "wo"
  | (with_reducible show WA _ _ _ _ _); first | refine wa_cons ?_ (fun _ => rfl) | refine wa_nil ?_
  | (with_reducible show WC _ _ _ _ _); walk_at "wc"
  | (with_reducible show WPO _ _ _ _ _); first | refine wpo_none ?_ | refine wpo_some ?_
  | refine asB_mk ?_ | refine wip_add ?_
  | refine ⟨_, rfl, (by first | decide | exact Nat.le_of_ble_eq_true rfl), ?_⟩)
local macro_rules | `(tactic| walk_at "ew") => `(tactic| ((try simp only [List.set_cons_zero, List.set_cons_succ]); repeat (first | exact EnvW.nil | refine EnvW.keep (by first | rfl | assumption) ?_ | refine EnvW.drop ?_)))
local macro_rules | `(tactic| walk_at "fl") => `(tactic| (refine ⟨_, _, fldL rfl (by repeat (first | with_reducible exact AtN.here | with_reducible apply AtN.there)) rfl, by assumption, NoA.at_ (by assumption) (by walk_at "ing"), ?_⟩))
local macro_rules | `(tactic| walk_at "fv") => `(tactic| (refine ⟨_, _, fldV (by repeat (first | with_reducible exact AtN.here | with_reducible apply AtN.there)) rfl, by assumption, NoA.at_ (by assumption) (by walk_at "ing"), ?_⟩))
abbrev spCA := spF (List Nat) (fun l => [sL l]) (fun l => l.length ≤ 100000 ∧ alphB l = true) (fun l => sL l)
theorem scCA : FnScope ["alphabet"] ["alphabet"] (defScope (top 12)) := ⟨rfl, rfl, rfl, by decide +kernel, rfl, by decide +kernel, by decide +kernel⟩
theorem ok_ca {g : Gd} {f f1 : Addr} {fd : FuncData} (F : FunD g.K "checked_alphabet" "checked_alphabet" (defArgs (top 12)) (defBody (top 12)) (defScope (top 12)) [] [] f fd) (hb : Binds g.K fd ["alphabet"] [])
    (G1 : FnD g 1 f1 ["alphabet"] spIA) (m1 : g.mg "is_alphabet" = some (.ref f1)) :
    FnD g 2 f ["alphabet"] spCA := by
  refine fn_mk F hb scCA (gl := ["is_alphabet"]) [("alphabet", 0)] (by decide +kernel) (by decide +kernel) (fun rs S Ψ ξ h => ?_) (fun rs S Ψ ξ h => ?_)
  · obtain ⟨_, rfl, _⟩ := h; rfl
  · obtain ⟨l, rfl, rfl, ⟨hl, hal⟩, hΨ⟩ := h
    dsimp only at hl hΨ
    refine wss_cons ?_
    walk_at "s"
    walk_at "e"
    refine wt_val ?_ (fun _ _ => rfl)
    refine we_call G1 (by walk_at "ing") m1 (Nat.le_of_ble_eq_true rfl) rfl ?_ (fun _ => rfl) (fun _ => rfl)
    repeat walk_at "e"
    refine fnc_F (A := List Nat) l rfl hl ?_
    dsimp only
    rw [hal]
    refine ⟨true, rfl, fun h => (by cases h), fun _ => ?_⟩
    walk_at "s"
    refine wss_one ?_
    walk_at "s"
    walk_at "e"
    exact RetC.now (Nat.le_refl _) rfl rfl hΨ
/-! ### Joins -/
def spIP (A : Addr) : DSp := fun rs S Ψ _ => ∃ l P lg p, rs = [.loc 0, .val (pN p)] ∧ S = jS A l P lg ∧ l.length ≤ 30 ∧ P.length ≤ 100 ∧ (∀ t ∈ txts l P, t.length ≤ 1000) ∧ Ψ (.val (.bl (decide (propT l P p)))) S
theorem scIP : FnScope ["self", "pair", "left", "right", "most", "text", "row", "letter"] ["self", "pair"] (defScope (inClass (top 16) 2)) := ⟨rfl, rfl, rfl, by decide +kernel, rfl, by decide +kernel, by decide +kernel⟩
theorem ok_ip {g : Gd} {f f1 f2 A : Addr} {fd : FuncData} {tk : Tok} (F : FunD g.K "is_proper" "Joins.is_proper" (defArgs (inClass (top 16) 2)) (defBody (inClass (top 16) 2)) (defScope (inClass (top 16) 2)) [] [] f fd) (hb : Binds g.K fd ["self", "pair"] [])
    (hB : BltF g ["len", "tuple"]) (hM : g.mg "LONGEST_PIECE" = some (.int 40 tk)) (hcl : Cls g.K A) (hna : NoA g A jF)
    (G1 : FnD g 1 f1 ["value", "least", "most"] spIB) (m1 : g.mg "is_between" = some (.ref f1)) (G2 : FnD g 2 f2 ["ranks", "letters", "row"] spCR) (m2 : g.mg "cut_row" = some (.ref f2)) :
    FnD g 3 f ["self", "pair"] (spIP A) := by
  refine fn_mk F hb scIP (gl := ["len", "tuple", "LONGEST_PIECE", "is_between", "cut_row"]) [("self", 0), ("pair", 1), ("left", 2), ("right", 3), ("most", 4), ("text", 5), ("row", 6)] (by decide +kernel) (by decide +kernel) (fun rs S Ψ ξ h => ?_) (fun rs S Ψ ξ h => ?_)
  · obtain ⟨_, _, _, _, rfl, _⟩ := h; rfl
  · obtain ⟨l, P, lg, ⟨a, b⟩, rfl, rfl, hl, hP, ht, hΨ⟩ := h
    have hS := jS_ok A l P lg
    refine wss_cons ?_
    walk_at "s"
    repeat walk_at "e"
    refine wg_tup rfl ?_ (fun _ => rfl) (fun _ => rfl)
    refine wgs_cons ?_ (fun _ => rfl)
    refine wg_name (by walk_at "inv") ?_
    refine wgs_cons ?_ (fun _ => rfl)
    refine wg_name (by walk_at "inv") ?_
    refine wgs_nil ?_
    refine wss_cons ?_
    walk_at "s"
    repeat walk_at "e"
    walk_at "fl"
    repeat walk_at "e"
    have hm : ((txts l P).map sL).length = (txts l P).length := List.length_map ..
    have hml := txts_len l P
    refine wss_cons ?_
    refine ws_ifB (¬ (a < (txts l P).length ∧ b < (txts l P).length)) ?_ (fun ht => ?_) (fun hf => ?_)
    · walk_at "e"
      walk_at "e"
      walk_at "e"
      refine wt_val ?_ (fun _ _ => rfl)
      refine we_call G1 (by walk_at "ing") m1 (Nat.le_of_ble_eq_true rfl) rfl ?_ (fun _ => rfl) (fun _ => rfl)
      repeat walk_at "e"
      refine fnc_F (A := IB) ⟨(a : Int), 0, _⟩ rfl trivial ?_
      walk_at "e"
      refine ⟨fun h1 => ?_, fun h1 => ?_⟩
      · have h1 := of_decide_eq_false ((Bool.not_eq_true' _).mp h1)
        dsimp only at h1
        rw [hm] at h1
        exact ⟨(decide_eq_true (by omega)).symm, rfl⟩
      · have h1 := of_decide_eq_true ((Bool.not_eq_false' _).mp h1)
        dsimp only at h1
        rw [hm] at h1
        walk_at "e"
        walk_at "e"
        refine wt_val ?_ (fun _ _ => rfl)
        refine we_call G1 (by walk_at "ing") m1 (Nat.le_of_ble_eq_true rfl) rfl ?_ (fun _ => rfl) (fun _ => rfl)
        repeat walk_at "e"
        refine fnc_F (A := IB) ⟨(b : Int), 0, _⟩ rfl trivial ?_
        walk_at "e"
        refine ⟨?_, rfl⟩
        dsimp only
        rw [← decide_not, hm]
        exact decide_eq_decide.mpr (by omega)
    · refine wss_one ?_
      walk_at "s"
      walk_at "e"
      refine RetC.now (Nat.le_refl _) hS rfl ?_
      rw [show decide (propT l P (a, b)) = false from decide_eq_false (fun h => ht ⟨by rw [hml]; exact h.1, by rw [hml]; exact h.2.1⟩)] at hΨ
      exact hΨ
    · obtain ⟨ha, hb⟩ := Decidable.not_not.mp hf
      have xa : (txts l P)[a]? = some ((txts l P).getD a []) := by rw [List.getD_eq_getElem?_getD, List.getElem?_eq_getElem ha]; rfl
      have xb : (txts l P)[b]? = some ((txts l P).getD b []) := by rw [List.getD_eq_getElem?_getD, List.getElem?_eq_getElem hb]; rfl
      have la := ht _ (List.mem_of_getElem? xa)
      have lb := ht _ (List.mem_of_getElem? xb)
      have hmem : ∀ c ∈ (txts l P).getD a [] ++ (txts l P).getD b [], c ∈ l := fun c hc => by
        rcases List.mem_append.mp hc with hc | hc
        · exact txts_mem _ (List.mem_of_getElem? xa) c hc
        · exact txts_mem _ (List.mem_of_getElem? xb) c hc
      have hprop : propT l P (a, b) ↔ ((txts l P).getD a [] ++ (txts l P).getD b []).length ≤ 40 ∧ cutF P l.length (rowL l ((txts l P).getD a [] ++ (txts l P).getD b [])) = [a, b] := by
        unfold propT
        rw [← hml]
        exact ⟨fun h => h.2.2, fun h => ⟨ha, hb, h⟩⟩
      generalize hta : (txts l P).getD a [] = tA at *
      generalize htb : (txts l P).getD b [] = tB at *
      walk_at "s"
      refine wss_cons ?_
      walk_at "s"
      repeat walk_at "e"
      walk_at "fl"
      repeat walk_at "e"
      refine wix_F (g := sL) (.loc rfl) rfl xa ?_
      repeat walk_at "e"
      walk_at "fl"
      repeat walk_at "e"
      refine wix_F (g := sL) (.loc rfl) rfl xb ?_
      refine wo_addL (by rw [sizeLine_eq]; omega) ?_
      refine wss_cons ?_
      refine ws_ifB (40 < (tA ++ tB).length) ?_ (fun ht => ?_) (fun hf => ?_)
      · repeat walk_at "e"
        refine wc_lenL (by rw [sizeLine_eq, List.length_append]; omega) ?_
        repeat walk_at "e"
        refine we_glob (d := .int 40) (by walk_at "ing") hM ⟨.int 40, ⟨_, rfl⟩, fun _ => rfl⟩ ?_
        repeat walk_at "e"
        exact ⟨decide_eq_decide.mpr (by omega), rfl⟩
      · refine wss_one ?_
        walk_at "s"
        walk_at "e"
        refine RetC.now (Nat.le_refl _) hS rfl ?_
        rw [show decide (propT l P (a, b)) = false from decide_eq_false (fun h => by have := (hprop.mp h).1; omega)] at hΨ
        exact hΨ
      · walk_at "s"
        refine wss_cons ?_
        walk_at "s"
        repeat walk_at "e"
        refine we_lc [("letter", 7)] [("self", 0), ("letter", 7)] [("letter", 7)] [] (by dsimp only; decide +kernel) rfl ?_ (fun _ _ => rfl)
        refine wi_strL ?_
        repeat walk_at "e"
        generalize htt : tA ++ tB = t at *
        have hlt : t.length ≤ 40 := by omega
        refine ⟨t, rfl, fun i S' => S' = jS A l P lg ++ [nl ((rowL l (t.take i)).map iN)], rfl, fun _ _ _ => trivial, ?_, ?_⟩
        · rintro i d S' hd rfl
          rw [List.getElem?_map] at hd
          obtain ⟨c, hc, rfl⟩ := Option.map_eq_some_iff.mp hd
          have hcl' : c ∈ l := hmem c (List.mem_of_getElem? hc)
          refine wgw_name (by walk_at "inv") (by decide) ?_
          refine wts_nil ⟨fun h => (by cases h), fun _ => ?_⟩
          have hL := LookD.nm (S := jS A l P lg ++ [nl ((rowL l (t.take i)).map iN)]) (r := .loc 3) (ts := txts l P) (.loc rfl) [c]
          obtain ⟨u, hu, _⟩ := txts_pre l P
          have hidx := idx_single (u := u) hcl'
          rw [hu] at hL
          rw [if_pos hidx.2, hidx.1] at hL
          repeat walk_at "e"
          walk_at "fl"
          repeat walk_at "e"
          refine wix_dct hL ?_
          refine ⟨_, rfl, by simp [rowL, sizeLine_eq]; omega, ?_⟩
          show _ = _
          rw [List.take_add_one, hc]
          simp [rowL, jS]
        · rintro S' rfl
          repeat walk_at "e"
          refine wss_one ?_
          walk_at "s"
          repeat walk_at "e"
          refine we_call G2 (by walk_at "ing") m2 (Nat.le_of_ble_eq_true rfl) rfl ?_ (fun _ => rfl) (fun _ => rfl)
          repeat walk_at "e"
          walk_at "fl"
          repeat walk_at "e"
          walk_at "fl"
          repeat walk_at "e"
          refine wc_lenL (by rw [sizeLine_eq]; omega) ?_
          repeat walk_at "e"
          rw [List.length_map, List.take_length]
          refine fnc_CR (.loc rfl) (by simp [rowL]; omega) ?_
          repeat walk_at "e"
          refine wo_eqF (f := fun l : List Nat => tN l) (a := cutF P l.length (rowL l t)) (b := [a, b]) flt_nat.tup (by decide) (.val _) (.val _) ?_
          refine RetC.cut hS ?_
          rw [show decide (propT l P (a, b)) = decide (cutF P l.length (rowL l t) = [a, b]) from decide_eq_decide.mpr ⟨fun h => (hprop.mp h).2, fun h => hprop.mpr ⟨hlt, h⟩⟩] at hΨ
          exact hΨ
end DL
set_option Elab.async false
set_option linter.all false
set_option maxRecDepth 100000
set_option maxHeartbeats 4000000
set_option pp.maxSteps 6000
namespace DL
open PySem PySem.Spec PyProof.Rows
open L2 hiding Takes passAt takes_of ps_raise PMk ps_try_as
open L2N (Takes passAt takes_of ps_raise PMk ps_try_as)
local macro_rules | `(tactic| walk_at "inv") => `(tactic| ((try dsimp only); repeat (first | with_reducible exact InV.here | with_reducible apply InV.there)))
local macro_rules | `(tactic| walk_at "ing") => `(tactic| ((try dsimp only); repeat (first | with_reducible exact InG.here | with_reducible apply InG.there)))
local macro_rules | `(tactic| walk_at "nb") => `(tactic| first | assumption | (dsimp only; refine BltF.at_ (by assumption) ?_; repeat (first | with_reducible exact InG.here | with_reducible apply InG.there)))
local macro_rules | `(tactic| walk_at "s") => `(tactic| first
  | refine wss_cons ?_ | refine wss_nil ?_ | refine ws_set (by walk_at "inv") ?_ (fun _ => rfl) | refine ws_if ?_ | refine ws_ret ?_ | refine ws_aug (by walk_at "inv") rfl ?_
  | refine ws_expr ?_ (fun _ => rfl) | refine ws_pass ?_ | refine ws_break ?_ | refine ws_cont ?_ | refine ws_retN ?_
  | refine ws_setA ?_ (fun _ => rfl) | refine ws_put ?_ (fun _ => rfl) | refine ws_asg ?_ (fun _ => rfl) (fun _ => rfl) (fun _ => rfl))
local macro_rules | `(tactic| walk_at "we") => `(tactic| first
  | refine we_name (by walk_at "inv") rfl ?_ | refine we_int ?_ | refine we_op ?_ | refine we_str ?_
  | refine we_callB (by walk_at "ing") (by walk_at "nb") (by first | exact PySem.boot_len | exact boot_abs | exact boot_min | exact boot_max | exact boot_sorted | exact boot_isinstance) ?_ (fun _ => rfl) (fun _ => rfl)
  | refine we_callT (by walk_at "ing") (by walk_at "nb") (by first | exact boot_tuple | exact boot_list | exact boot_int) ?_ (fun _ => rfl) (fun _ => rfl)
  | refine we_attr ?_ (fun _ => rfl) | refine we_ix ?_ (fun _ _ => rfl) | refine we_tup ?_
  | refine we_append ?_ (fun _ => rfl) (fun _ => rfl) rfl (fun _ => rfl) (fun _ => rfl)
  | refine we_bl ?_ | refine we_non ?_ | refine we_chain ?_ rfl | refine we_cmp ?_ rfl | refine we_one ?_ | refine we_and ?_ | refine we_or ?_ | refine we_not ?_ | refine we_ifx ?_ | refine we_neg ?_ | refine we_slice ?_)
local macro_rules | `(tactic| walk_at "wb") => `(tactic| first | refine we_type (by walk_at "ing") (by walk_at "nb") boot_int ?_ | refine we_type (by walk_at "ing") (by walk_at "nb") boot_bool ?_ | refine we_type (by walk_at "ing") (by walk_at "nb") boot_str ?_ | refine we_type (by walk_at "ing") (by walk_at "nb") boot_tuple ?_)
local macro_rules | `(tactic| walk_at "wt") => `(tactic| first | refine wt_cmp ?_ rfl | refine wt_not ?_ | refine wt_chain ?_ rfl | refine wt_of ?_)
local macro_rules | `(tactic| walk_at "wto") => `(tactic| first | refine wto_and1 ?_ | refine wto_or1 ?_ | refine wto_and ?_ | refine wto_or ?_)
local macro_rules | `(tactic| walk_at "wo") => `(tactic| first
  | refine wo_add ?_ | refine wo_sub ?_ | refine wo_lt ?_ | refine wo_le ?_ | refine wo_gt ?_ | refine wo_ge ?_ | refine wo_eqI ?_ | refine wo_neI ?_ | refine wo_eqL ?_ | refine wo_neL ?_ | refine wo_lt1 ?_ | refine wo_le1 ?_ | refine wo_ge1 ?_ | refine wo_inL ?_ | refine wo_notInL ?_
  | refine wo_isN (by intro _ h; cases h) ?_ | refine wo_notN (by intro _ h; cases h) ?_)
local macro_rules | `(tactic| walk_at "wc") => `(tactic| first
  | refine wc_len (by first | exact .tup _ | exact .lst _ | exact .bor _ | exact .loc rfl) ?_ | refine wc_int ?_ | refine wc_intB ?_ | refine wc_abs ?_ | refine wc_min2 rfl ?_ | refine wc_max2 rfl ?_ | refine wc_tuple (by first | exact .tup _ | exact .lst _ | exact .bor _ | exact .loc rfl) ?_)
local macro_rules | `(tactic| walk_at "e") => `(tactic| first
  | (with_reducible show WE _ _ _ _ _); walk_at "we"
  | (with_reducible show WT _ _ _ _ _); walk_at "wt"
  | (with_reducible show WTo _ _ _ _ _); walk_at "wto"
  | (with_reducible show WO _ _ _ _ _ _); walk_at "wo"
  | (with_reducible show WA _ _ _ _ _); first | refine wa_cons ?_ (fun _ => rfl) | refine wa_nil ?_
  | (with_reducible show WC _ _ _ _ _); walk_at "wc"
  | (with_reducible show WPO _ _ _ _ _); first | refine wpo_none ?_ | refine wpo_some ?_
  | refine asB_mk ?_ | refine wip_add ?_
  | refine ⟨_, rfl, (by first | decide | exact Nat.le_of_ble_eq_true rfl), ?_⟩)
local macro_rules | `(tactic| walk_at "ew") => `(tactic| ((try simp only [List.set_cons_zero, List.set_cons_succ]); repeat (first | exact EnvW.nil | refine EnvW.keep (by first | rfl | assumption) ?_ | refine EnvW.drop ?_)))
local macro_rules | `(tactic| walk_at "fl") => `(tactic| (refine ⟨_, _, fldL rfl (by repeat (first | with_reducible exact AtN.here | with_reducible apply AtN.there)) rfl, by assumption, NoA.at_ (by assumption) (by walk_at "ing"), ?_⟩))
local macro_rules | `(tactic| walk_at "fv") => `(tactic| (refine ⟨_, _, fldV (by repeat (first | with_reducible exact AtN.here | with_reducible apply AtN.there)) rfl, by assumption, NoA.at_ (by assumption) (by walk_at "ing"), ?_⟩))
def spTK (A : Addr) : DSp := fun rs S Ψ _ => ∃ l P lg p, rs = [.loc 0, .val (pN p)] ∧ S = jS A l P lg ∧ l.length ≤ 30 ∧ P.length ≤ 100 ∧ (∀ t ∈ txts l P, t.length ≤ 1000) ∧ propT l P p ∧ p ∉ P ∧ (txts l P).getD p.1 [] ++ (txts l P).getD p.2 [] ∉ txts l P ∧ LgO l P lg ∧
  ∀ lg', LgO l (P ++ [p]) lg' → Ψ (.val .non) (jS A l (P ++ [p]) lg')
theorem scTK : FnScope ["self", "pair", "rank", "text"] ["self", "pair"] (defScope (inClass (top 16) 1)) := ⟨rfl, rfl, rfl, by decide +kernel, rfl, by decide +kernel, by decide +kernel⟩
theorem ok_tk {g : Gd} {f f1 A : Addr} {fd : FuncData} (F : FunD g.K "take" "Joins.take" (defArgs (inClass (top 16) 1)) (defBody (inClass (top 16) 1)) (defScope (inClass (top 16) 1)) [] [] f fd) (hb : Binds g.K fd ["self", "pair"] [])
    (hB : BltF g ["len", "max"]) (hcl : Cls g.K A) (hna : NoA g A jF) (G1 : FnD g 3 f1 ["self", "pair"] (spIP A)) (m1 : Meth g.K A "is_proper" f1) :
    FnD g 4 f ["self", "pair"] (spTK A) := by
  refine fn_mk F hb scTK (gl := ["len", "max"]) [("self", 0), ("pair", 1), ("rank", 2), ("text", 3)] (by decide +kernel) (by decide +kernel) (fun rs S Ψ ξ h => ?_) (fun rs S Ψ ξ h => ?_)
  · obtain ⟨_, _, _, _, rfl, _⟩ := h; rfl
  · obtain ⟨l, P, lg, ⟨a, b⟩, rfl, rfl, hl, hP, ht, hp, hnp, hnt, hlg, hΨ⟩ := h
    have hml := txts_len l P
    have ha : a < (txts l P).length := by rw [hml]; exact hp.1
    have hb : b < (txts l P).length := by rw [hml]; exact hp.2.1
    have xa : (txts l P)[a]? = some ((txts l P).getD a []) := by rw [List.getD_eq_getElem?_getD, List.getElem?_eq_getElem ha]; rfl
    have xb : (txts l P)[b]? = some ((txts l P).getD b []) := by rw [List.getD_eq_getElem?_getD, List.getElem?_eq_getElem hb]; rfl
    have hlen := hp.2.2.1
    have hsn := txts_snoc l P (a, b)
    unfold addT at hsn
    dsimp only at hlen hnt hsn
    refine wss_cons ?_
    walk_at "s"
    repeat walk_at "e"
    walk_at "fl"
    repeat walk_at "e"
    refine wss_cons ?_
    walk_at "s"
    walk_at "e"
    refine wt_val ?_ (fun _ _ => rfl)
    refine we_meth G1 hcl m1 (Nat.le_of_ble_eq_true rfl) rfl ?_ (fun _ => rfl) (fun _ => rfl) (fun _ => rfl)
    repeat walk_at "e"
    refine ⟨_, .loc rfl, by decide +kernel, ?_⟩
    repeat walk_at "e"
    refine fnc_J0 (ds := [pN (a, b)]) ⟨l, P, lg, (a, b), rfl, rfl, hl, hP, ht, ?_⟩
    dsimp only
    rw [backJ0, decide_eq_true hp]
    refine asB_mk ?_
    refine ⟨fun h => (by cases h), fun _ => ?_⟩
    generalize hta : (txts l P).getD a [] = tA at *
    generalize htb : (txts l P).getD b [] = tB at *
    have hlen2 : tA.length + tB.length ≤ 40 := by rw [List.length_append] at hlen; exact hlen
    walk_at "s"
    refine wss_cons ?_
    walk_at "s"
    repeat walk_at "e"
    walk_at "fl"
    repeat walk_at "e"
    refine wix_seq (.tup _) (d := iN a) rfl ?_
    refine wix_F (g := sL) (.loc rfl) rfl xa ?_
    repeat walk_at "e"
    walk_at "fl"
    repeat walk_at "e"
    refine wix_seq (.tup _) (d := iN b) rfl ?_
    refine wix_F (g := sL) (.loc rfl) rfl xb ?_
    refine wo_addL (by rw [sizeLine_eq]; omega) ?_
    refine wss_cons ?_
    walk_at "s"
    repeat walk_at "e"
    walk_at "fl"
    repeat walk_at "e"
    refine wo_catT (by simp [sizeLine_eq]; omega) ?_
    repeat walk_at "e"
    refine ⟨0, A, _, rfl, .old rfl (by decide) jF_nd (.there .here), hcl, NoA.at_ hna (.there .here), ?_⟩
    refine wss_cons ?_
    walk_at "s"
    repeat walk_at "e"
    walk_at "fl"
    repeat walk_at "e"
    walk_at "fl"
    repeat walk_at "e"
    refine ⟨_, .newK (k := kT (tA ++ tB)) rfl (by simp [sizeLine_eq]; omega) (fun h => ?_), ?_⟩
    · obtain ⟨t, ht1, ht2⟩ := List.mem_map.mp h
      rw [kT_inj ht2] at ht1
      exact hnt ht1
    refine wss_cons ?_
    walk_at "s"
    repeat walk_at "e"
    walk_at "fl"
    refine ⟨1, _, rfl, rfl, ?_⟩
    repeat walk_at "e"
    refine ⟨_, _, rfl, rfl, by simp [sizeLine_eq]; omega, ?_⟩
    refine wss_cons ?_
    walk_at "s"
    repeat walk_at "e"
    walk_at "fl"
    repeat walk_at "e"
    refine ⟨_, .newT (k := kP (a, b)) rfl (by simp [sizeLine_eq]; omega) (fun h => ?_), ?_⟩
    · obtain ⟨t, ht1, ht2⟩ := List.mem_map.mp h
      rw [kP_inj ht2] at ht1
      exact hnp ht1
    refine wss_one ?_
    walk_at "s"
    repeat walk_at "e"
    walk_at "fl"
    repeat walk_at "e"
    refine wc_lenL (by rw [sizeLine_eq, List.length_append]; omega) ?_
    repeat walk_at "e"
    have emx : (if ((tA ++ tB).length : Int) > (lg : Int) then ((tA ++ tB).length : Int) else (lg : Int)) = ((if (tA ++ tB).length > lg then (tA ++ tB).length else lg : Nat) : Int) := by
      by_cases h : (tA ++ tB).length > lg
      · rw [if_pos h, if_pos (by omega)]
      · rw [if_neg h, if_neg (by omega)]
    rw [emx]
    refine ⟨0, A, _, rfl, .old rfl (by decide) jF_nd (.there (.there (.there (.there (.there .here))))), hcl, NoA.at_ hna (.there (.there (.there (.there (.there .here))))), ?_⟩
    refine RetC.eq (S' := jS A l (P ++ [(a, b)]) (if (tA ++ tB).length > lg then (tA ++ tB).length else lg)) ?_ (RetC.now (Nat.le_refl _) (jS_ok _ _ _ _) rfl (hΨ _ (LgO.snoc hsn hlg (by rw [List.length_append]; omega))))
    simp [jS, hsn, List.range_succ]
end DL
set_option Elab.async false
set_option linter.all false
set_option maxRecDepth 100000
set_option maxHeartbeats 4000000
namespace DL
open PySem PySem.Spec PyProof.Rows
open L2 hiding Takes passAt takes_of ps_raise PMk ps_try_as
open L2N (Takes passAt takes_of ps_raise PMk ps_try_as)
local macro_rules | `(tactic| walk_at "inv") => `(tactic| ((try dsimp only); repeat (first | with_reducible exact InV.here | with_reducible apply InV.there)))
local macro_rules | `(tactic| walk_at "ing") => `(tactic| ((try dsimp only); repeat (first | with_reducible exact InG.here | with_reducible apply InG.there)))
local macro_rules | `(tactic| walk_at "nb") => `(tactic| first | assumption | (dsimp only; refine BltF.at_ (by assumption) ?_; repeat (first | with_reducible exact InG.here | with_reducible apply InG.there)))
local macro_rules | `(tactic| walk_at "s") => `(tactic| first
  | refine wss_cons ?_ | refine wss_nil ?_ | refine ws_set (by walk_at "inv") ?_ (fun _ => rfl) | refine ws_if ?_ | refine ws_ret ?_ | refine ws_aug (by walk_at "inv") rfl ?_
  | refine ws_expr ?_ (fun _ => rfl) | refine ws_pass ?_ | refine ws_break ?_ | refine ws_cont ?_ | refine ws_retN ?_
  | refine ws_setA ?_ (fun _ => rfl) | refine ws_put ?_ (fun _ => rfl) | refine ws_asg ?_ (fun _ => rfl) (fun _ => rfl) (fun _ => rfl))
local macro_rules | `(tactic| walk_at "we") => `(tactic| first
  | refine we_name (by walk_at "inv") rfl ?_ | refine we_int ?_ | refine we_op ?_ | refine we_str ?_
  | refine we_callB (by walk_at "ing") (by walk_at "nb") (by first | exact PySem.boot_len | exact boot_abs | exact boot_min | exact boot_max | exact boot_sorted | exact boot_isinstance) ?_ (fun _ => rfl) (fun _ => rfl)
  | refine we_callT (by walk_at "ing") (by walk_at "nb") (by first | exact boot_tuple | exact boot_list | exact boot_int) ?_ (fun _ => rfl) (fun _ => rfl)
  | refine we_attr ?_ (fun _ => rfl) | refine we_ix ?_ (fun _ _ => rfl) | refine we_tup ?_
  | refine we_append ?_ (fun _ => rfl) (fun _ => rfl) rfl (fun _ => rfl) (fun _ => rfl)
  | refine we_bl ?_ | refine we_non ?_ | refine we_chain ?_ rfl | refine we_cmp ?_ rfl | refine we_one ?_ | refine we_and ?_ | refine we_or ?_ | refine we_not ?_ | refine we_ifx ?_ | refine we_neg ?_ | refine we_slice ?_)
local macro_rules | `(tactic| walk_at "wb") => `(tactic| first | refine we_type (by walk_at "ing") (by walk_at "nb") boot_int ?_ | refine we_type (by walk_at "ing") (by walk_at "nb") boot_bool ?_ | refine we_type (by walk_at "ing") (by walk_at "nb") boot_str ?_ | refine we_type (by walk_at "ing") (by walk_at "nb") boot_tuple ?_)
local macro_rules | `(tactic| walk_at "wt") => `(tactic| first | refine wt_cmp ?_ rfl | refine wt_not ?_ | refine wt_chain ?_ rfl | refine wt_of ?_)
local macro_rules | `(tactic| walk_at "wto") => `(tactic| first | refine wto_and1 ?_ | refine wto_or1 ?_ | refine wto_and ?_ | refine wto_or ?_)
local macro_rules | `(tactic| walk_at "wo") => `(tactic| first
  | refine wo_add ?_ | refine wo_sub ?_ | refine wo_lt ?_ | refine wo_le ?_ | refine wo_gt ?_ | refine wo_ge ?_ | refine wo_eqI ?_ | refine wo_neI ?_ | refine wo_eqL ?_ | refine wo_neL ?_ | refine wo_lt1 ?_ | refine wo_le1 ?_ | refine wo_ge1 ?_ | refine wo_inL ?_ | refine wo_notInL ?_
  | refine wo_isN (by intro _ h; cases h) ?_ | refine wo_notN (by intro _ h; cases h) ?_)
local macro_rules | `(tactic| walk_at "wc") => `(tactic| first
  | refine wc_len (by first | exact .tup _ | exact .lst _ | exact .bor _ | exact .loc rfl) ?_ | refine wc_int ?_ | refine wc_intB ?_ | refine wc_abs ?_ | refine wc_min2 rfl ?_ | refine wc_max2 rfl ?_ | refine wc_tuple (by first | exact .tup _ | exact .lst _ | exact .bor _ | exact .loc rfl) ?_)
local macro_rules | `(tactic| walk_at "e") => `(tactic| first
  | (with_reducible show WE _ _ _ _ _); walk_at "we"
  | (with_reducible show WT _ _ _ _ _); walk_at "wt"
  | (with_reducible show WTo _ _ _ _ _); walk_at "wto"
  | (with_reducible show WO _ _ _ _ _ _); walk_at "wo"
  | (with_reducible show WA _ _ _ _ _); first | refine wa_cons ?_ (fun _ => rfl) | refine wa_nil ?_
  | (with_reducible show WC _ _ _ _ _); walk_at "wc"
  | (with_reducible show WPO _ _ _ _ _); first | refine wpo_none ?_ | refine wpo_some ?_
  | refine asB_mk ?_ | refine wip_add ?_
  | refine ⟨_, rfl, (by first | decide | exact Nat.le_of_ble_eq_true rfl), ?_⟩)
local macro_rules | `(tactic| walk_at "ew") => `(tactic| ((try simp only [List.set_cons_zero, List.set_cons_succ]); repeat (first | exact EnvW.nil | refine EnvW.keep (by first | rfl | assumption) ?_ | refine EnvW.drop ?_)))
local macro_rules | `(tactic| walk_at "fl") => `(tactic| (refine ⟨_, _, fldL rfl (by repeat (first | with_reducible exact AtN.here | with_reducible apply AtN.there)) rfl, by assumption, NoA.at_ (by assumption) (by walk_at "ing"), ?_⟩))
local macro_rules | `(tactic| walk_at "fv") => `(tactic| (refine ⟨_, _, fldV (by repeat (first | with_reducible exact AtN.here | with_reducible apply AtN.there)) rfl, by assumption, NoA.at_ (by assumption) (by walk_at "ing"), ?_⟩))
theorem alphB_ok {l : List Nat} (h : alphB l = true) : l.length ≤ 30 ∧ 1 ≤ l.length ∧ l.Nodup := by
  have h := of_decide_eq_true h
  refine ⟨h.2.1, h.1, ?_⟩
  have key : ∀ i j, i < j → (hj : j < l.length) → l.getD i 0 < l.getD j 0 := by
    intro i j hij
    induction j with
    | zero => omega
    | succ j ih =>
      intro hj
      have h1 := h.2.2.2 j (by omega)
      by_cases e : i = j
      · subst e; exact h1
      · exact Nat.lt_trans (ih (by omega) (by omega)) h1
  rw [List.nodup_iff_pairwise_ne, List.pairwise_iff_getElem]
  intro i j hi hj hij e
  have := key i j hij hj
  rw [List.getD_eq_getElem?_getD, List.getD_eq_getElem?_getD, List.getElem?_eq_getElem hi, List.getElem?_eq_getElem hj] at this
  simp at this
  omega
def spNI (A : Addr) : DSp := fun rs S Ψ _ => ∃ l P, rs = [.loc 0, .val (sL l), .val (.lst (P.map pN))] ∧ S = [.ins A [] []] ∧ alphB l = true ∧ P.length ≤ 100 ∧ ProperL l P ∧ ∀ lg', LgO l P lg' → Ψ (.val .non) (jS A l P lg')
theorem scNI : FnScope ["self", "alphabet", "pairs", "pair", "at", "letter"] ["self", "alphabet", "pairs"] (defScope (inClass (top 16) 0)) := ⟨rfl, rfl, rfl, by decide +kernel, rfl, by decide +kernel, by decide +kernel⟩
theorem ok_ni {g : Gd} {f f1 f2 A : Addr} {fd : FuncData} (F : FunD g.K "__init__" "Joins.__init__" (defArgs (inClass (top 16) 0)) (defBody (inClass (top 16) 0)) (defScope (inClass (top 16) 0)) [] [] f fd) (hb : Binds g.K fd ["self", "alphabet", "pairs"] [])
    (hB : BltF g ["list", "enumerate", "tuple"]) (hcl : Cls g.K A) (hna : NoA g A jF) (G1 : FnD g 2 f1 ["alphabet"] spCA) (m1 : g.mg "checked_alphabet" = some (.ref f1)) (G2 : FnD g 4 f2 ["self", "pair"] (spTK A)) (m2 : Meth g.K A "take" f2) :
    FnD g 5 f ["self", "alphabet", "pairs"] (spNI A) := by
  refine fn_mk F hb scNI (gl := ["list", "enumerate", "tuple", "checked_alphabet"]) [("self", 0), ("alphabet", 1), ("pairs", 2), ("pair", 3)] (by decide +kernel) (by decide +kernel) (fun rs S Ψ ξ h => ?_) (fun rs S Ψ ξ h => ?_)
  · obtain ⟨_, _, rfl, _⟩ := h; rfl
  · obtain ⟨l, P, rfl, rfl, hal, hP, hpr, hΨ⟩ := h
    obtain ⟨hl, hl1, hnd⟩ := alphB_ok hal
    refine wss_cons ?_
    walk_at "s"
    refine we_call G1 (by walk_at "ing") m1 (Nat.le_of_ble_eq_true rfl) rfl ?_ (fun _ => rfl) (fun _ => rfl)
    repeat walk_at "e"
    refine fnc_F (A := List Nat) l rfl ⟨by omega, hal⟩ ?_
    repeat walk_at "e"
    refine ⟨0, A, _, rfl, .new rfl (by decide) (by decide), hcl, NoA.at_ hna .here, ?_⟩
    refine wss_cons ?_
    walk_at "s"
    repeat walk_at "e"
    refine ⟨0, A, _, rfl, .new rfl (by decide) (by decide +kernel), hcl, NoA.at_ hna (.there .here), ?_⟩
    refine wss_cons ?_
    walk_at "s"
    repeat walk_at "e"
    refine wc_listL rfl (by rw [sizeLine_eq]; omega) ?_
    repeat walk_at "e"
    refine ⟨0, A, _, rfl, .new rfl (by decide) (by decide +kernel), hcl, NoA.at_ hna (.there (.there .here)), ?_⟩
    refine wss_cons ?_
    walk_at "s"
    refine we_dNewT ?_
    repeat walk_at "e"
    refine ⟨0, A, _, rfl, .new rfl (by decide) (by decide +kernel), hcl, NoA.at_ hna (.there (.there (.there .here))), ?_⟩
    refine wss_cons ?_
    walk_at "s"
    refine we_dc [("at", 4), ("letter", 5)] [("at", 4), ("letter", 5)] [("at", 4), ("letter", 5)] [] (by dsimp only; decide +kernel) rfl ?_ (fun _ _ => rfl)
    refine wi_enumL (by walk_at "ing") (by walk_at "nb") ?_ (fun _ => rfl)
    repeat walk_at "e"
    refine ⟨l, rfl, fun i S' => S' = [.ins A ["alphabet", "pairs", "texts", "ranks"] [.val (sL l), .val (.tup []), .loc 1, .loc 2], nl (l.map fun c => sL [c]), .dT [] [], .dK (nmK ((l.take i).map fun c => [c])) ((nmD (l.take i).length).map .val)], rfl, fun _ _ _ => trivial, ?_, ?_⟩
    · rintro i d S' hd rfl
      obtain ⟨d0, hd0, rfl⟩ := enumD_get hd
      rw [List.getElem?_map] at hd0
      obtain ⟨c, hc, rfl⟩ := Option.map_eq_some_iff.mp hd0
      have hi : i < l.length := (List.getElem?_eq_some_iff.mp hc).1
      refine wgw_tup rfl ?_ (fun _ => rfl) (fun _ => rfl)
      refine wgsw_cons ?_ (fun _ => rfl)
      refine wgw_name (by walk_at "inv") (by decide) ?_
      refine wgsw_cons ?_ (fun _ => rfl)
      refine wgw_name (by walk_at "inv") (by decide) ?_
      refine wgsw_nil ?_
      refine wts_nil ⟨fun h => (by cases h), fun _ => ?_⟩
      repeat walk_at "e"
      refine ⟨_, _, kT [c], rfl, rfl, ?_, ?_, ?_⟩
      · simp [sizeLine_eq]; omega
      · intro h
        simp only [List.mem_map] at h
        obtain ⟨t, ⟨c', hc', rfl⟩, ht2⟩ := h
        have e : [c'] = [c] := kT_inj ht2
        have e : c' = c := by simpa using e
        subst e
        obtain ⟨j, hj, ej⟩ := List.mem_iff_getElem.mp hc'
        rw [List.length_take] at hj
        rw [List.getElem_take] at ej
        have ei := (List.getElem?_eq_some_iff.mp hc).2
        exact (List.pairwise_iff_getElem.mp (List.nodup_iff_pairwise_ne.mp hnd)) j i (by omega) hi (by omega) (ej.trans ei.symm)
      · have e1 : l.take (i + 1) = l.take i ++ [c] := by rw [List.take_add_one, hc]; rfl
        have e2 : (l.take i).length = i := by rw [List.length_take]; omega
        show _ = _
        rw [e1]
        simp [List.range_succ, e2]
    · rintro S' rfl
      rw [enumD_len, List.length_map, List.take_length]
      repeat walk_at "e"
      refine ⟨0, A, _, rfl, .new rfl (by decide) (by decide +kernel), hcl, NoA.at_ hna (.there (.there (.there (.there .here)))), ?_⟩
      refine wss_cons ?_
      walk_at "s"
      repeat walk_at "e"
      refine ⟨0, A, _, rfl, .new rfl (by decide) (by decide +kernel), hcl, NoA.at_ hna (.there (.there (.there (.there (.there .here))))), ?_⟩
      refine wss_one ?_
      refine ws_for rfl ?_ (fun _ _ => rfl)
      refine wi_seq ?_
      repeat walk_at "e"
      refine ⟨_, .lst _, fun i env S' => env = [some (.loc 0), some (.val (sL l)), some (.val (.lst (P.map pN))), none, none, none] ∧ ∃ lg, LgO l (P.take i) lg ∧ S' = jS A l (P.take i) lg, (by show 1 ≤ 4; decide), ⟨rfl, 1, LgO.start l, ?_⟩, fun _ _ _ _ => trivial, ?_, ?_⟩
      · simp [jS, txts]
      · rintro i d env' S' hd ⟨rfl, lg, hlg, rfl⟩
        rw [List.getElem?_map] at hd
        obtain ⟨p, hp, rfl⟩ := Option.map_eq_some_iff.mp hd
        obtain ⟨hi, hpi⟩ := List.getElem?_eq_some_iff.mp hp
        refine wg_name (by walk_at "inv") ?_
        refine wss_one ?_
        walk_at "s"
        refine we_meth G2 hcl m2 (Nat.le_of_ble_eq_true rfl) rfl ?_ (fun _ => rfl) (fun _ => rfl) (fun _ => rfl)
        repeat walk_at "e"
        refine ⟨_, .loc rfl, by decide +kernel, ?_⟩
        repeat walk_at "e"
        have hpp := hpr i hi
        rw [hpi] at hpp
        refine fnc_J0 (ds := [pN p]) ⟨l, P.take i, lg, p, rfl, rfl, hl, by rw [List.length_take]; omega, fun t ht => Nat.le_trans (hpr.short i (Nat.le_of_lt hi) t ht) (by decide), hpp.1, hpp.2.1, hpp.2.2, hlg, fun lg' hlg' => ?_⟩
        dsimp only
        rw [backJ0]
        refine Wk.drop (env' := [some (.loc 0), some (.val (sL l)), some (.val (.lst (P.map pN))), none, none, none]) ⟨rfl, lg', by rw [take_snoc hi, hpi]; exact hlg', ?_⟩ (by walk_at "ew") (Nat.le_refl _) (jS_ok _ _ _ _)
        rw [take_snoc hi, hpi]
      · rintro env' S' ⟨rfl, lg, hlg, rfl⟩
        rw [List.length_map, List.take_length] at *
        exact RetC.now (by show 1 ≤ 4; decide) (jS_ok _ _ _ _) rfl (hΨ lg hlg)
end DL
set_option Elab.async false
set_option linter.all false
set_option maxRecDepth 100000
set_option maxHeartbeats 4000000
namespace DL
open PySem PySem.Spec PyProof.Rows
open L2 hiding Takes passAt takes_of ps_raise PMk ps_try_as
open L2N (Takes passAt takes_of ps_raise PMk ps_try_as)
local macro_rules | `(tactic| walk_at "inv") => `(tactic| ((try dsimp only); repeat (first | with_reducible exact InV.here | with_reducible apply InV.there)))
local macro_rules | `(tactic| walk_at "ing") => `(tactic| ((try dsimp only); repeat (first | with_reducible exact InG.here | with_reducible apply InG.there)))
local macro_rules | `(tactic| walk_at "nb") => `(tactic| first | assumption | (dsimp only; refine BltF.at_ (by assumption) ?_; repeat (first | with_reducible exact InG.here | with_reducible apply InG.there)))
local macro_rules | `(tactic| walk_at "s") => `(tactic| first
  | refine wss_cons ?_ | refine wss_nil ?_ | refine ws_set (by walk_at "inv") ?_ (fun _ => rfl) | refine ws_if ?_ | refine ws_ret ?_ | refine ws_aug (by walk_at "inv") rfl ?_
  | refine ws_expr ?_ (fun _ => rfl) | refine ws_pass ?_ | refine ws_break ?_ | refine ws_cont ?_ | refine ws_retN ?_
  | refine ws_setA ?_ (fun _ => rfl) | refine ws_put ?_ (fun _ => rfl) | refine ws_asg ?_ (fun _ => rfl) (fun _ => rfl) (fun _ => rfl))
local macro_rules | `(tactic| walk_at "we") => `(tactic| first
  | refine we_name (by walk_at "inv") rfl ?_ | refine we_int ?_ | refine we_op ?_ | refine we_str ?_
  | refine we_callB (by walk_at "ing") (by walk_at "nb") (by first | exact PySem.boot_len | exact boot_abs | exact boot_min | exact boot_max | exact boot_sorted | exact boot_isinstance) ?_ (fun _ => rfl) (fun _ => rfl)
  | refine we_callT (by walk_at "ing") (by walk_at "nb") (by first | exact boot_tuple | exact boot_list | exact boot_int) ?_ (fun _ => rfl) (fun _ => rfl)
  | refine we_attr ?_ (fun _ => rfl) | refine we_ix ?_ (fun _ _ => rfl) | refine we_tup ?_
  | refine we_append ?_ (fun _ => rfl) (fun _ => rfl) rfl (fun _ => rfl) (fun _ => rfl)
  | refine we_bl ?_ | refine we_non ?_ | refine we_chain ?_ rfl | refine we_cmp ?_ rfl | refine we_one ?_ | refine we_and ?_ | refine we_or ?_ | refine we_not ?_ | refine we_ifx ?_ | refine we_neg ?_ | refine we_slice ?_)
local macro_rules | `(tactic| walk_at "wb") => `(tactic| first | refine we_type (by walk_at "ing") (by walk_at "nb") boot_int ?_ | refine we_type (by walk_at "ing") (by walk_at "nb") boot_bool ?_ | refine we_type (by walk_at "ing") (by walk_at "nb") boot_str ?_ | refine we_type (by walk_at "ing") (by walk_at "nb") boot_tuple ?_)
local macro_rules | `(tactic| walk_at "wt") => `(tactic| first | refine wt_cmp ?_ rfl | refine wt_not ?_ | refine wt_chain ?_ rfl | refine wt_of ?_)
local macro_rules | `(tactic| walk_at "wto") => `(tactic| first | refine wto_and1 ?_ | refine wto_or1 ?_ | refine wto_and ?_ | refine wto_or ?_)
local macro_rules | `(tactic| walk_at "wo") => `(tactic| first
  | refine wo_add ?_ | refine wo_sub ?_ | refine wo_lt ?_ | refine wo_le ?_ | refine wo_gt ?_ | refine wo_ge ?_ | refine wo_eqI ?_ | refine wo_neI ?_ | refine wo_eqL ?_ | refine wo_neL ?_ | refine wo_lt1 ?_ | refine wo_le1 ?_ | refine wo_ge1 ?_ | refine wo_inL ?_ | refine wo_notInL ?_
  | refine wo_isN (by intro _ h; cases h) ?_ | refine wo_notN (by intro _ h; cases h) ?_)
local macro_rules | `(tactic| walk_at "wc") => `(tactic| first
  | refine wc_len (by first | exact .tup _ | exact .lst _ | exact .bor _ | exact .loc rfl) ?_ | refine wc_int ?_ | refine wc_intB ?_ | refine wc_abs ?_ | refine wc_min2 rfl ?_ | refine wc_max2 rfl ?_ | refine wc_tuple (by first | exact .tup _ | exact .lst _ | exact .bor _ | exact .loc rfl) ?_)
local macro_rules | `(tactic| walk_at "e") => `(tactic| first
  | (with_reducible show WE _ _ _ _ _); walk_at "we"
  | (with_reducible show WT _ _ _ _ _); walk_at "wt"
  | (with_reducible show WTo _ _ _ _ _); walk_at "wto"
  | (with_reducible show WO _ _ _ _ _ _); walk_at "wo"
  | (with_reducible show WA _ _ _ _ _); first | refine wa_cons ?_ (fun _ => rfl) | refine wa_nil ?_
  | (with_reducible show WC _ _ _ _ _); walk_at "wc"
  | (with_reducible show WPO _ _ _ _ _); first | refine wpo_none ?_ | refine wpo_some ?_
  | refine asB_mk ?_ | refine wip_add ?_
  | refine ⟨_, rfl, (by first | decide | exact Nat.le_of_ble_eq_true rfl), ?_⟩)
local macro_rules | `(tactic| walk_at "ew") => `(tactic| ((try simp only [List.set_cons_zero, List.set_cons_succ]); repeat (first | exact EnvW.nil | refine EnvW.keep (by first | rfl | assumption) ?_ | refine EnvW.drop ?_)))
local macro_rules | `(tactic| walk_at "fl") => `(tactic| (refine ⟨_, _, fldL rfl (by repeat (first | with_reducible exact AtN.here | with_reducible apply AtN.there)) rfl, by assumption, NoA.at_ (by assumption) (by walk_at "ing"), ?_⟩))
local macro_rules | `(tactic| walk_at "fv") => `(tactic| (refine ⟨_, _, fldV (by repeat (first | with_reducible exact AtN.here | with_reducible apply AtN.there)) rfl, by assumption, NoA.at_ (by assumption) (by walk_at "ing"), ?_⟩))
/-! ### is_piece, check_piece, text_of, piece_of -/
abbrev spQP (A : Addr) := spF JI (fun p => [jD A p.l p.P p.lg, iN p.i]) (fun p => p.ok) (fun p => .bl (decide (p.i < (txts p.l p.P).length)))
theorem scQP : FnScope ["self", "piece"] ["self", "piece"] (defScope (inClass (top 16) 4)) := ⟨rfl, rfl, rfl, by decide +kernel, rfl, by decide +kernel, by decide +kernel⟩
theorem ok_qp {g : Gd} {f f1 A : Addr} {fd : FuncData} (F : FunD g.K "is_piece" "Joins.is_piece" (defArgs (inClass (top 16) 4)) (defBody (inClass (top 16) 4)) (defScope (inClass (top 16) 4)) [] [] f fd) (hb : Binds g.K fd ["self", "piece"] [])
    (hB : BltF g ["len"]) (hcl : Cls g.K A) (hna : NoA g A jF) (G1 : FnD g 1 f1 ["value", "least", "most"] spIB) (m1 : g.mg "is_between" = some (.ref f1)) :
    FnD g 2 f ["self", "piece"] (spQP A) := by
  refine fn_mk F hb scQP (gl := ["len", "is_between"]) [("self", 0), ("piece", 1)] (by decide +kernel) (by decide +kernel) (fun rs S Ψ ξ h => ?_) (fun rs S Ψ ξ h => ?_)
  · obtain ⟨_, rfl, _⟩ := h; rfl
  · obtain ⟨⟨⟨l, P, lg⟩, i⟩, rfl, rfl, hok, hΨ⟩ := h
    dsimp only at hΨ
    refine wss_one ?_
    walk_at "s"
    refine we_call G1 (by walk_at "ing") m1 (Nat.le_of_ble_eq_true rfl) rfl ?_ (fun _ => rfl) (fun _ => rfl)
    repeat walk_at "e"
    walk_at "fv"
    repeat walk_at "e"
    refine fnc_F (A := IB) ⟨(i : Int), 0, _⟩ rfl trivial ?_
    dsimp only
    refine RetC.now (Nat.le_refl _) rfl rfl ?_
    rw [List.length_map, show decide ((0 : Int) ≤ (i : Int) ∧ (i : Int) ≤ ((txts l P).length : Int) - 1) = decide (i < (txts l P).length) from decide_eq_decide.mpr (by omega)]
    exact hΨ
abbrev spKP (A : Addr) := spF JI (fun p => [jD A p.l p.P p.lg, iN p.i]) (fun p => p.ok ∧ p.i < (txts p.l p.P).length) (fun p => .non)
theorem scKP : FnScope ["self", "piece"] ["self", "piece"] (defScope (inClass (top 16) 5)) := ⟨rfl, rfl, rfl, by decide +kernel, rfl, by decide +kernel, by decide +kernel⟩
theorem ok_kp {g : Gd} {f f1 A : Addr} {fd : FuncData} (F : FunD g.K "check_piece" "Joins.check_piece" (defArgs (inClass (top 16) 5)) (defBody (inClass (top 16) 5)) (defScope (inClass (top 16) 5)) [] [] f fd) (hb : Binds g.K fd ["self", "piece"] [])
    (hcl : Cls g.K A) (G1 : FnD g 2 f1 ["self", "piece"] (spQP A)) (m1 : Meth g.K A "is_piece" f1) :
    FnD g 3 f ["self", "piece"] (spKP A) := by
  refine fn_mk F hb scKP (gl := []) [("self", 0), ("piece", 1)] (by decide +kernel) (by decide +kernel) (fun rs S Ψ ξ h => ?_) (fun rs S Ψ ξ h => ?_)
  · obtain ⟨_, rfl, _⟩ := h; rfl
  · obtain ⟨⟨⟨l, P, lg⟩, i⟩, rfl, rfl, ⟨hok, hi⟩, hΨ⟩ := h
    dsimp only at hΨ hi
    refine wss_one ?_
    walk_at "s"
    walk_at "e"
    refine wt_val ?_ (fun _ _ => rfl)
    refine we_meth G1 hcl m1 (Nat.le_of_ble_eq_true rfl) rfl ?_ (fun _ => rfl) (fun _ => rfl) (fun _ => rfl)
    repeat walk_at "e"
    refine ⟨_, .val _ _ _, by decide +kernel, ?_⟩
    repeat walk_at "e"
    refine fnc_F (A := JI) ⟨⟨l, P, lg⟩, i⟩ rfl hok ?_
    dsimp only
    rw [decide_eq_true hi]
    refine ⟨true, rfl, fun h => (by cases h), fun _ => ?_⟩
    walk_at "s"
    exact RetC.now (Nat.le_refl _) rfl rfl hΨ
end DL
set_option Elab.async false
set_option linter.all false
set_option maxRecDepth 100000
set_option maxHeartbeats 4000000
namespace DL
open PySem PySem.Spec PyProof.Rows
open L2 hiding Takes passAt takes_of ps_raise PMk ps_try_as
open L2N (Takes passAt takes_of ps_raise PMk ps_try_as)
local macro_rules | `(tactic| walk_at "inv") => `(tactic| ((try dsimp only); repeat (first | with_reducible exact InV.here | with_reducible apply InV.there)))
local macro_rules | `(tactic| walk_at "ing") => `(tactic| ((try dsimp only); repeat (first | with_reducible exact InG.here | with_reducible apply InG.there)))
local macro_rules | `(tactic| walk_at "nb") => `(tactic| first | assumption | (dsimp only; refine BltF.at_ (by assumption) ?_; repeat (first | with_reducible exact InG.here | with_reducible apply InG.there)))
local macro_rules | `(tactic| walk_at "s") => `(tactic| first
  | refine wss_cons ?_ | refine wss_nil ?_ | refine ws_set (by walk_at "inv") ?_ (fun _ => rfl) | refine ws_if ?_ | refine ws_ret ?_ | refine ws_aug (by walk_at "inv") rfl ?_
  | refine ws_expr ?_ (fun _ => rfl) | refine ws_pass ?_ | refine ws_break ?_ | refine ws_cont ?_ | refine ws_retN ?_
  | refine ws_setA ?_ (fun _ => rfl) | refine ws_put ?_ (fun _ => rfl) | refine ws_asg ?_ (fun _ => rfl) (fun _ => rfl) (fun _ => rfl))
local macro_rules | `(tactic| walk_at "we") => `(tactic| first
  | refine we_name (by walk_at "inv") rfl ?_ | refine we_int ?_ | refine we_op ?_ | refine we_str ?_
  | refine we_callB (by walk_at "ing") (by walk_at "nb") (by first | exact PySem.boot_len | exact boot_abs | exact boot_min | exact boot_max | exact boot_sorted | exact boot_isinstance) ?_ (fun _ => rfl) (fun _ => rfl)
  | refine we_callT (by walk_at "ing") (by walk_at "nb") (by first | exact boot_tuple | exact boot_list | exact boot_int) ?_ (fun _ => rfl) (fun _ => rfl)
  | refine we_attr ?_ (fun _ => rfl) | refine we_ix ?_ (fun _ _ => rfl) | refine we_tup ?_
  | refine we_append ?_ (fun _ => rfl) (fun _ => rfl) rfl (fun _ => rfl) (fun _ => rfl)
  | refine we_bl ?_ | refine we_non ?_ | refine we_chain ?_ rfl | refine we_cmp ?_ rfl | refine we_one ?_ | refine we_and ?_ | refine we_or ?_ | refine we_not ?_ | refine we_ifx ?_ | refine we_neg ?_ | refine we_slice ?_)
local macro_rules | `(tactic| walk_at "wb") => `(tactic| first | refine we_type (by walk_at "ing") (by walk_at "nb") boot_int ?_ | refine we_type (by walk_at "ing") (by walk_at "nb") boot_bool ?_ | refine we_type (by walk_at "ing") (by walk_at "nb") boot_str ?_ | refine we_type (by walk_at "ing") (by walk_at "nb") boot_tuple ?_)
local macro_rules | `(tactic| walk_at "wt") => `(tactic| first | refine wt_cmp ?_ rfl | refine wt_not ?_ | refine wt_chain ?_ rfl | refine wt_of ?_)
local macro_rules | `(tactic| walk_at "wto") => `(tactic| first | refine wto_and1 ?_ | refine wto_or1 ?_ | refine wto_and ?_ | refine wto_or ?_)
local macro_rules | `(tactic| walk_at "wo") => `(tactic| first
  | refine wo_add ?_ | refine wo_sub ?_ | refine wo_lt ?_ | refine wo_le ?_ | refine wo_gt ?_ | refine wo_ge ?_ | refine wo_eqI ?_ | refine wo_neI ?_ | refine wo_eqL ?_ | refine wo_neL ?_ | refine wo_lt1 ?_ | refine wo_le1 ?_ | refine wo_ge1 ?_ | refine wo_inL ?_ | refine wo_notInL ?_
  | refine wo_isN (by intro _ h; cases h) ?_ | refine wo_notN (by intro _ h; cases h) ?_)
local macro_rules | `(tactic| walk_at "wc") => `(tactic| first
  | refine wc_len (by first | exact .tup _ | exact .lst _ | exact .bor _ | exact .loc rfl) ?_ | refine wc_int ?_ | refine wc_intB ?_ | refine wc_abs ?_ | refine wc_min2 rfl ?_ | refine wc_max2 rfl ?_ | refine wc_tuple (by first | exact .tup _ | exact .lst _ | exact .bor _ | exact .loc rfl) ?_)
local macro_rules | `(tactic| walk_at "e") => `(tactic| first
  | (with_reducible show WE _ _ _ _ _); walk_at "we"
  | (with_reducible show WT _ _ _ _ _); walk_at "wt"
  | (with_reducible show WTo _ _ _ _ _); walk_at "wto"
  | (with_reducible show WO _ _ _ _ _ _); walk_at "wo"
  | (with_reducible show WA _ _ _ _ _); first | refine wa_cons ?_ (fun _ => rfl) | refine wa_nil ?_
  | (with_reducible show WC _ _ _ _ _); walk_at "wc"
  | (with_reducible show WPO _ _ _ _ _); first | refine wpo_none ?_ | refine wpo_some ?_
  | refine asB_mk ?_ | refine wip_add ?_
  | refine ⟨_, rfl, (by first | decide | exact Nat.le_of_ble_eq_true rfl), ?_⟩)
local macro_rules | `(tactic| walk_at "ew") => `(tactic| ((try simp only [List.set_cons_zero, List.set_cons_succ]); repeat (first | exact EnvW.nil | refine EnvW.keep (by first | rfl | assumption) ?_ | refine EnvW.drop ?_)))
local macro_rules | `(tactic| walk_at "fl") => `(tactic| (refine ⟨_, _, fldL rfl (by repeat (first | with_reducible exact AtN.here | with_reducible apply AtN.there)) rfl, by assumption, NoA.at_ (by assumption) (by walk_at "ing"), ?_⟩))
local macro_rules | `(tactic| walk_at "fv") => `(tactic| (refine ⟨_, _, fldV (by repeat (first | with_reducible exact AtN.here | with_reducible apply AtN.there)) rfl, by assumption, NoA.at_ (by assumption) (by walk_at "ing"), ?_⟩))
/-! ### is_piece, check_piece, text_of, piece_of -/
abbrev spTX (A : Addr) := spF JI (fun p => [jD A p.l p.P p.lg, iN p.i]) (fun p => p.ok ∧ p.i < (txts p.l p.P).length) (fun p => sL ((txts p.l p.P).getD p.i []))
theorem scTX : FnScope ["self", "piece"] ["self", "piece"] (defScope (inClass (top 16) 6)) := ⟨rfl, rfl, rfl, by decide +kernel, rfl, by decide +kernel, by decide +kernel⟩
theorem ok_tx {g : Gd} {f f1 A : Addr} {fd : FuncData} (F : FunD g.K "text_of" "Joins.text_of" (defArgs (inClass (top 16) 6)) (defBody (inClass (top 16) 6)) (defScope (inClass (top 16) 6)) [] [] f fd) (hb : Binds g.K fd ["self", "piece"] [])
    (hcl : Cls g.K A) (hna : NoA g A jF) (G1 : FnD g 3 f1 ["self", "piece"] (spKP A)) (m1 : Meth g.K A "check_piece" f1) :
    FnD g 4 f ["self", "piece"] (spTX A) := by
  refine fn_mk F hb scTX (gl := []) [("self", 0), ("piece", 1)] (by decide +kernel) (by decide +kernel) (fun rs S Ψ ξ h => ?_) (fun rs S Ψ ξ h => ?_)
  · obtain ⟨_, rfl, _⟩ := h; rfl
  · obtain ⟨⟨⟨l, P, lg⟩, i⟩, rfl, rfl, ⟨hok, hi⟩, hΨ⟩ := h
    dsimp only at hΨ hi
    refine wss_cons ?_
    walk_at "s"
    refine we_meth G1 hcl m1 (Nat.le_of_ble_eq_true rfl) rfl ?_ (fun _ => rfl) (fun _ => rfl) (fun _ => rfl)
    repeat walk_at "e"
    refine ⟨_, .val _ _ _, by decide +kernel, ?_⟩
    repeat walk_at "e"
    refine fnc_F (A := JI) ⟨⟨l, P, lg⟩, i⟩ rfl ⟨hok, hi⟩ ?_
    dsimp only
    refine wss_one ?_
    walk_at "s"
    repeat walk_at "e"
    walk_at "fv"
    repeat walk_at "e"
    refine wix_F (g := sL) (.lst _) rfl (c := (txts l P).getD i []) (by rw [List.getD_eq_getElem?_getD, List.getElem?_eq_getElem hi]; rfl) ?_
    exact RetC.now (Nat.le_refl _) rfl rfl hΨ
end DL
set_option Elab.async false
set_option linter.all false
set_option maxRecDepth 100000
set_option maxHeartbeats 4000000
namespace DL
open PySem PySem.Spec PyProof.Rows
open L2 hiding Takes passAt takes_of ps_raise PMk ps_try_as
open L2N (Takes passAt takes_of ps_raise PMk ps_try_as)
local macro_rules | `(tactic| walk_at "inv") => `(tactic| ((try dsimp only); repeat (first | with_reducible exact InV.here | with_reducible apply InV.there)))
local macro_rules | `(tactic| walk_at "ing") => `(tactic| ((try dsimp only); repeat (first | with_reducible exact InG.here | with_reducible apply InG.there)))
local macro_rules | `(tactic| walk_at "nb") => `(tactic| first | assumption | (dsimp only; refine BltF.at_ (by assumption) ?_; repeat (first | with_reducible exact InG.here | with_reducible apply InG.there)))
local macro_rules | `(tactic| walk_at "s") => `(tactic| first
  | refine wss_cons ?_ | refine wss_nil ?_ | refine ws_set (by walk_at "inv") ?_ (fun _ => rfl) | refine ws_if ?_ | refine ws_ret ?_ | refine ws_aug (by walk_at "inv") rfl ?_
  | refine ws_expr ?_ (fun _ => rfl) | refine ws_pass ?_ | refine ws_break ?_ | refine ws_cont ?_ | refine ws_retN ?_
  | refine ws_setA ?_ (fun _ => rfl) | refine ws_put ?_ (fun _ => rfl) | refine ws_asg ?_ (fun _ => rfl) (fun _ => rfl) (fun _ => rfl))
local macro_rules | `(tactic| walk_at "we") => `(tactic| first
  | refine we_name (by walk_at "inv") rfl ?_ | refine we_int ?_ | refine we_op ?_ | refine we_str ?_
  | refine we_callB (by walk_at "ing") (by walk_at "nb") (by first | exact PySem.boot_len | exact boot_abs | exact boot_min | exact boot_max | exact boot_sorted | exact boot_isinstance) ?_ (fun _ => rfl) (fun _ => rfl)
  | refine we_callT (by walk_at "ing") (by walk_at "nb") (by first | exact boot_tuple | exact boot_list | exact boot_int) ?_ (fun _ => rfl) (fun _ => rfl)
  | refine we_attr ?_ (fun _ => rfl) | refine we_ix ?_ (fun _ _ => rfl) | refine we_tup ?_
  | refine we_append ?_ (fun _ => rfl) (fun _ => rfl) rfl (fun _ => rfl) (fun _ => rfl)
  | refine we_bl ?_ | refine we_non ?_ | refine we_chain ?_ rfl | refine we_cmp ?_ rfl | refine we_one ?_ | refine we_and ?_ | refine we_or ?_ | refine we_not ?_ | refine we_ifx ?_ | refine we_neg ?_ | refine we_slice ?_)
local macro_rules | `(tactic| walk_at "wb") => `(tactic| first | refine we_type (by walk_at "ing") (by walk_at "nb") boot_int ?_ | refine we_type (by walk_at "ing") (by walk_at "nb") boot_bool ?_ | refine we_type (by walk_at "ing") (by walk_at "nb") boot_str ?_ | refine we_type (by walk_at "ing") (by walk_at "nb") boot_tuple ?_)
local macro_rules | `(tactic| walk_at "wt") => `(tactic| first | refine wt_cmp ?_ rfl | refine wt_not ?_ | refine wt_chain ?_ rfl | refine wt_of ?_)
local macro_rules | `(tactic| walk_at "wto") => `(tactic| first | refine wto_and1 ?_ | refine wto_or1 ?_ | refine wto_and ?_ | refine wto_or ?_)
local macro_rules | `(tactic| walk_at "wo") => `(tactic| first
  | refine wo_add ?_ | refine wo_sub ?_ | refine wo_lt ?_ | refine wo_le ?_ | refine wo_gt ?_ | refine wo_ge ?_ | refine wo_eqI ?_ | refine wo_neI ?_ | refine wo_eqL ?_ | refine wo_neL ?_ | refine wo_lt1 ?_ | refine wo_le1 ?_ | refine wo_ge1 ?_ | refine wo_inL ?_ | refine wo_notInL ?_
  | refine wo_mod (by omega) ?_ | refine wo_fdiv ⟨by omega, by omega⟩ ?_ | refine wo_mul (by first | exact Or.inr ⟨by omega, by omega⟩ | exact Or.inl ⟨by omega, by omega⟩) ?_ | refine wo_pow ⟨by omega, by omega, by decide⟩ ?_
  | refine wo_isN (by intro _ h; cases h) ?_ | refine wo_notN (by intro _ h; cases h) ?_)
local macro_rules | `(tactic| walk_at "wc") => `(tactic| first
  | refine wc_len (by first | exact .tup _ | exact .lst _ | exact .bor _ | exact .loc rfl) ?_ | refine wc_int ?_ | refine wc_intB ?_ | refine wc_abs ?_ | refine wc_min2 rfl ?_ | refine wc_max2 rfl ?_ | refine wc_tuple (by first | exact .tup _ | exact .lst _ | exact .bor _ | exact .loc rfl) ?_)
local macro_rules | `(tactic| walk_at "e") => `(tactic| first
  | (with_reducible show WE _ _ _ _ _); walk_at "we"
  | (with_reducible show WT _ _ _ _ _); walk_at "wt"
  | (with_reducible show WTo _ _ _ _ _); walk_at "wto"
  | (with_reducible show WO _ _ _ _ _ _); walk_at "wo"
  | (with_reducible show WA _ _ _ _ _); first | refine wa_cons ?_ (fun _ => rfl) | refine wa_nil ?_
  | (with_reducible show WC _ _ _ _ _); walk_at "wc"
  | (with_reducible show WPO _ _ _ _ _); first | refine wpo_none ?_ | refine wpo_some ?_
  | refine asB_mk ?_ | refine wip_add ?_
  | refine ⟨_, rfl, (by first | decide | exact Nat.le_of_ble_eq_true rfl), ?_⟩)
local macro_rules | `(tactic| walk_at "ew") => `(tactic| ((try simp only [List.set_cons_zero, List.set_cons_succ]); repeat (first | exact EnvW.nil | refine EnvW.keep (by first | rfl | assumption) ?_ | refine EnvW.drop ?_)))
local macro_rules | `(tactic| walk_at "fl") => `(tactic| (refine ⟨_, _, fldL rfl (by repeat (first | with_reducible exact AtN.here | with_reducible apply AtN.there)) rfl, by assumption, NoA.at_ (by assumption) (by walk_at "ing"), ?_⟩))
local macro_rules | `(tactic| walk_at "fv") => `(tactic| (refine ⟨_, _, fldV (by repeat (first | with_reducible exact AtN.here | with_reducible apply AtN.there)) rfl, by assumption, NoA.at_ (by assumption) (by walk_at "ing"), ?_⟩))
/-! ### parts_of, first -/
abbrev spPA (A : Addr) := spF JI (fun p => [jD A p.l p.P p.lg, iN p.i]) (fun p => p.ok ∧ p.i < (txts p.l p.P).length) (fun p => if p.i < p.l.length then .non else pN (p.P.getD (p.i - p.l.length) (0, 0)))
theorem scPA : FnScope ["self", "piece"] ["self", "piece"] (defScope (inClass (top 16) 7)) := ⟨rfl, rfl, rfl, by decide +kernel, rfl, by decide +kernel, by decide +kernel⟩
theorem ok_pa {g : Gd} {f f1 A : Addr} {fd : FuncData} (F : FunD g.K "parts_of" "Joins.parts_of" (defArgs (inClass (top 16) 7)) (defBody (inClass (top 16) 7)) (defScope (inClass (top 16) 7)) [] [] f fd) (hb : Binds g.K fd ["self", "piece"] [])
    (hB : BltF g ["len"]) (hcl : Cls g.K A) (hna : NoA g A jF) (G1 : FnD g 3 f1 ["self", "piece"] (spKP A)) (m1 : Meth g.K A "check_piece" f1) :
    FnD g 4 f ["self", "piece"] (spPA A) := by
  refine fn_mk F hb scPA (gl := ["len"]) [("self", 0), ("piece", 1)] (by decide +kernel) (by decide +kernel) (fun rs S Ψ ξ h => ?_) (fun rs S Ψ ξ h => ?_)
  · obtain ⟨_, rfl, _⟩ := h; rfl
  · obtain ⟨⟨⟨l, P, lg⟩, i⟩, rfl, rfl, ⟨hok, hi⟩, hΨ⟩ := h
    dsimp only at hΨ hi
    have hll : l.length ≤ 30 := hok.1
    have htl := txts_len l P
    refine wss_cons ?_
    walk_at "s"
    refine we_meth G1 hcl m1 (Nat.le_of_ble_eq_true rfl) rfl ?_ (fun _ => rfl) (fun _ => rfl) (fun _ => rfl)
    repeat walk_at "e"
    refine ⟨_, .val _ _ _, by decide +kernel, ?_⟩
    repeat walk_at "e"
    refine fnc_F (A := JI) ⟨⟨l, P, lg⟩, i⟩ rfl ⟨hok, hi⟩ ?_
    dsimp only
    refine wss_cons ?_
    refine ws_ifB (i < l.length) ?_ (fun h => ?_) (fun h => ?_)
    · repeat walk_at "e"
      walk_at "fv"
      repeat walk_at "e"
      refine wc_lenL (l := l) (by rw [sizeLine_eq]; omega) ?_
      repeat walk_at "e"
      exact ⟨decide_eq_decide.mpr (by omega), rfl⟩
    · refine wss_one ?_
      walk_at "s"
      repeat walk_at "e"
      rw [if_pos h] at hΨ
      exact RetC.now (Nat.le_refl _) rfl rfl hΨ
    · walk_at "s"
      refine wss_one ?_
      walk_at "s"
      repeat walk_at "e"
      walk_at "fv"
      repeat walk_at "e"
      walk_at "fv"
      repeat walk_at "e"
      refine wc_lenL (l := l) (by rw [sizeLine_eq]; omega) ?_
      repeat walk_at "e"
      rw [if_neg h] at hΨ
      have hk : i - l.length < P.length := by omega
      refine wix_F (g := pN) (.tup _) (j := i - l.length) (c := P.getD (i - l.length) (0, 0)) (by omega) (by rw [List.getD_eq_getElem?_getD, List.getElem?_eq_getElem hk]; rfl) ?_
      exact RetC.now (Nat.le_refl _) rfl rfl hΨ
end DL
set_option Elab.async false
set_option linter.all false
set_option maxRecDepth 100000
set_option maxHeartbeats 4000000
namespace DL
open PySem PySem.Spec PyProof.Rows
open L2 hiding Takes passAt takes_of ps_raise PMk ps_try_as
open L2N (Takes passAt takes_of ps_raise PMk ps_try_as)
local macro_rules | `(tactic| walk_at "inv") => `(tactic| ((try dsimp only); repeat (first | with_reducible exact InV.here | with_reducible apply InV.there)))
local macro_rules | `(tactic| walk_at "ing") => `(tactic| ((try dsimp only); repeat (first | with_reducible exact InG.here | with_reducible apply InG.there)))
local macro_rules | `(tactic| walk_at "nb") => `(tactic| first | assumption | (dsimp only; refine BltF.at_ (by assumption) ?_; repeat (first | with_reducible exact InG.here | with_reducible apply InG.there)))
local macro_rules | `(tactic| walk_at "s") => `(tactic| first
  | refine wss_cons ?_ | refine wss_nil ?_ | refine ws_set (by walk_at "inv") ?_ (fun _ => rfl) | refine ws_if ?_ | refine ws_ret ?_ | refine ws_aug (by walk_at "inv") rfl ?_
  | refine ws_expr ?_ (fun _ => rfl) | refine ws_pass ?_ | refine ws_break ?_ | refine ws_cont ?_ | refine ws_retN ?_
  | refine ws_setA ?_ (fun _ => rfl) | refine ws_put ?_ (fun _ => rfl) | refine ws_asg ?_ (fun _ => rfl) (fun _ => rfl) (fun _ => rfl))
local macro_rules | `(tactic| walk_at "we") => `(tactic| first
  | refine we_name (by walk_at "inv") rfl ?_ | refine we_int ?_ | refine we_op ?_ | refine we_str ?_
  | refine we_callB (by walk_at "ing") (by walk_at "nb") (by first | exact PySem.boot_len | exact boot_abs | exact boot_min | exact boot_max | exact boot_sorted | exact boot_isinstance) ?_ (fun _ => rfl) (fun _ => rfl)
  | refine we_callT (by walk_at "ing") (by walk_at "nb") (by first | exact boot_tuple | exact boot_list | exact boot_int) ?_ (fun _ => rfl) (fun _ => rfl)
  | refine we_attr ?_ (fun _ => rfl) | refine we_ix ?_ (fun _ _ => rfl) | refine we_tup ?_
  | refine we_append ?_ (fun _ => rfl) (fun _ => rfl) rfl (fun _ => rfl) (fun _ => rfl)
  | refine we_bl ?_ | refine we_non ?_ | refine we_chain ?_ rfl | refine we_cmp ?_ rfl | refine we_one ?_ | refine we_and ?_ | refine we_or ?_ | refine we_not ?_ | refine we_ifx ?_ | refine we_neg ?_ | refine we_slice ?_)
local macro_rules | `(tactic| walk_at "wb") => `(tactic| first | refine we_type (by walk_at "ing") (by walk_at "nb") boot_int ?_ | refine we_type (by walk_at "ing") (by walk_at "nb") boot_bool ?_ | refine we_type (by walk_at "ing") (by walk_at "nb") boot_str ?_ | refine we_type (by walk_at "ing") (by walk_at "nb") boot_tuple ?_)
local macro_rules | `(tactic| walk_at "wt") => `(tactic| first | refine wt_cmp ?_ rfl | refine wt_not ?_ | refine wt_chain ?_ rfl | refine wt_of ?_)
local macro_rules | `(tactic| walk_at "wto") => `(tactic| first | refine wto_and1 ?_ | refine wto_or1 ?_ | refine wto_and ?_ | refine wto_or ?_)
local macro_rules | `(tactic| walk_at "wo") => `(tactic| first
  | refine wo_add ?_ | refine wo_sub ?_ | refine wo_lt ?_ | refine wo_le ?_ | refine wo_gt ?_ | refine wo_ge ?_ | refine wo_eqI ?_ | refine wo_neI ?_ | refine wo_eqL ?_ | refine wo_neL ?_ | refine wo_lt1 ?_ | refine wo_le1 ?_ | refine wo_ge1 ?_ | refine wo_inL ?_ | refine wo_notInL ?_
  | refine wo_mod (by omega) ?_ | refine wo_fdiv ⟨by omega, by omega⟩ ?_ | refine wo_mul (by first | exact Or.inr ⟨by omega, by omega⟩ | exact Or.inl ⟨by omega, by omega⟩) ?_ | refine wo_pow ⟨by omega, by omega, by decide⟩ ?_
  | refine wo_isN (by intro _ h; cases h) ?_ | refine wo_notN (by intro _ h; cases h) ?_)
local macro_rules | `(tactic| walk_at "wc") => `(tactic| first
  | refine wc_len (by first | exact .tup _ | exact .lst _ | exact .bor _ | exact .loc rfl) ?_ | refine wc_int ?_ | refine wc_intB ?_ | refine wc_abs ?_ | refine wc_min2 rfl ?_ | refine wc_max2 rfl ?_ | refine wc_tuple (by first | exact .tup _ | exact .lst _ | exact .bor _ | exact .loc rfl) ?_)
local macro_rules | `(tactic| walk_at "e") => `(tactic| first
  | (with_reducible show WE _ _ _ _ _); walk_at "we"
  | (with_reducible show WT _ _ _ _ _); walk_at "wt"
  | (with_reducible show WTo _ _ _ _ _); walk_at "wto"
  | (with_reducible show WO _ _ _ _ _ _); walk_at "wo"
  | (with_reducible show WA _ _ _ _ _); first | refine wa_cons ?_ (fun _ => rfl) | refine wa_nil ?_
  | (with_reducible show WC _ _ _ _ _); walk_at "wc"
  | (with_reducible show WPO _ _ _ _ _); first | refine wpo_none ?_ | refine wpo_some ?_
  | refine asB_mk ?_ | refine wip_add ?_
  | refine ⟨_, rfl, (by first | decide | exact Nat.le_of_ble_eq_true rfl), ?_⟩)
local macro_rules | `(tactic| walk_at "ew") => `(tactic| ((try simp only [List.set_cons_zero, List.set_cons_succ]); repeat (first | exact EnvW.nil | refine EnvW.keep (by first | rfl | assumption) ?_ | refine EnvW.drop ?_)))
local macro_rules | `(tactic| walk_at "fl") => `(tactic| (refine ⟨_, _, fldL rfl (by repeat (first | with_reducible exact AtN.here | with_reducible apply AtN.there)) rfl, by assumption, NoA.at_ (by assumption) (by walk_at "ing"), ?_⟩))
local macro_rules | `(tactic| walk_at "fv") => `(tactic| (refine ⟨_, _, fldV (by repeat (first | with_reducible exact AtN.here | with_reducible apply AtN.there)) rfl, by assumption, NoA.at_ (by assumption) (by walk_at "ing"), ?_⟩))
/-! ### the spines -/
def oD : Option Nat → D
  | none => .non
  | some q => iN q
theorem oD_opq (o : Option Nat) : ∀ u, R.val (oD o) ≠ .val (.opq u) := by cases o <;> exact fun _ => nofun
theorem isNon_oD (o : Option Nat) : isNonR (.val (oD o)) = o.isNone := by cases o <;> rfl
abbrev sbD (p : Sp1) : D := .tup [iN p.1, oD p.2]
structure JW extends JV where
  i : Nat
def JW.okW (p : JW) : Prop := p.toJV.ok ∧ Wf p.l.length p.P ∧ p.i < p.l.length + p.P.length
theorem spn_leaf {sd : Pr → Nat} {n : Nat} {P : List Pr} {f x : Nat} {b : Option Nat} (h : x < n) : spn sd n P f x b = [(x, b)] := by
  cases f with
  | zero => rfl
  | succ f => show (x, b) :: (if x < n then [] else _) = _; rw [if_pos h]
theorem spn_node {sd : Pr → Nat} {n : Nat} {P : List Pr} {f x : Nat} {b : Option Nat} (h : ¬ x < n) : spn sd n P (f + 1) x b = (x, b) :: spn sd n P f (sd (P.getD (x - n) (0, 0))) (some (x - n)) := by
  show (x, b) :: (if x < n then [] else _) = _; rw [if_neg h]
def paD (n : Nat) (P : List Pr) (x : Nat) : D := if x < n then .non else pN (P.getD (x - n) (0, 0))
theorem idx_at {P : List Pr} {r : Nat} (nd : P.Nodup) (h : r < P.length) : P.idxOf (P.getD r (0, 0)) = r ∧ P.getD r (0, 0) ∈ P := by
  have hg : P.getD r (0, 0) = P[r] := by rw [List.getD_eq_getElem?_getD, List.getElem?_eq_getElem h]; rfl
  rw [hg]
  exact ⟨nd.idxOf_getElem r h, List.getElem_mem h⟩
abbrev spRS (A : Addr) := spF JW (fun p => [jD A p.l p.P p.lg, iN p.i]) JW.okW (fun p => .tup ((rsp p.l.length p.P p.i).map sbD))
theorem scRS : FnScope ["joins", "piece", "parts", "spine"] ["joins", "piece"] (defScope (top 18)) := ⟨rfl, rfl, rfl, by decide +kernel, rfl, by decide +kernel, by decide +kernel⟩
theorem ok_rs {g : Gd} {f f1 A : Addr} {fd : FuncData} (F : FunD g.K "right_spine" "right_spine" (defArgs (top 18)) (defBody (top 18)) (defScope (top 18)) [] [] f fd) (hb : Binds g.K fd ["joins", "piece"] [])
    (hB : BltF g ["tuple"]) (hcl : Cls g.K A) (hna : NoA g A jF) (G1 : FnD g 4 f1 ["self", "piece"] (spPA A)) (m1 : Meth g.K A "parts_of" f1) :
    FnD g 5 f ["joins", "piece"] (spRS A) := by
  refine fn_mk F hb scRS (gl := ["tuple"]) [("joins", 0), ("piece", 1), ("parts", 2), ("spine", 3)] (by decide +kernel) (by decide +kernel) (fun rs S Ψ ξ h => ?_) (fun rs S Ψ ξ h => ?_)
  · obtain ⟨_, rfl, _⟩ := h; rfl
  · obtain ⟨⟨⟨l, P, lg⟩, a⟩, rfl, rfl, ⟨hok, hw, ha⟩, hΨ⟩ := h
    dsimp only at hΨ ha hw
    have hll : l.length ≤ 30 := hok.1
    have hpl : P.length ≤ 1000 := hok.2
    have htl := txts_len l P
    refine wss_cons ?_
    walk_at "s"
    refine we_meth G1 hcl m1 (Nat.le_of_ble_eq_true rfl) rfl ?_ (fun _ => rfl) (fun _ => rfl) (fun _ => rfl)
    repeat walk_at "e"
    refine ⟨_, .val _ _ _, by decide +kernel, ?_⟩
    repeat walk_at "e"
    refine fnc_F (A := JI) ⟨⟨l, P, lg⟩, a⟩ rfl ⟨hok, by rw [htl]; exact ha⟩ ?_
    dsimp only
    refine wss_cons ?_
    walk_at "s"
    refine we_lstN ?_
    repeat walk_at "e"
    refine wss_cons ?_
    refine ws_while (fun M env S' => ∃ (pre : List Sp1) (x f : Nat) (b : Option Nat), x = M ∧ x ≤ f ∧ x < l.length + P.length ∧ pre.length + x ≤ a ∧ pre ++ spn Prod.snd l.length P f x b = rsp l.length P a ∧ env = [some (.val (jD A l P lg)), some (.val (iN a)), some (.val (paD l.length P x)), some (.loc 0)] ∧ S' = [nl ((pre ++ [(x, b)]).map sbD)]) a (Nat.zero_le _) ⟨[], a, a, none, rfl, Nat.le_refl _, ha, by simp, rfl, rfl, rfl⟩ ?_
    rintro M env' S' ⟨pre, x, f, b, rfl, hxf, hx, hpre, hspn, rfl, rfl⟩
    repeat walk_at "e"
    by_cases h : x < l.length
    · have hp : paD l.length P x = .non := by unfold paD; rw [if_pos h]
      rw [hp]
      refine wo_notN (by intro _ h; cases h) ?_
      repeat walk_at "e"
      refine ⟨fun h => (by cases h), fun _ => ?_⟩
      refine wss_one ?_
      walk_at "s"
      repeat walk_at "e"
      rw [spn_leaf h] at hspn
      rw [hspn]
      exact RetC.cut0 hΨ
    · have hp : paD l.length P x = pN (P.getD (x - l.length) (0, 0)) := by unfold paD; rw [if_neg h]
      have hr : x - l.length < P.length := by omega
      obtain ⟨i1, i2⟩ := idx_at hw.nd hr
      have hlt := hw.lt (x - l.length) hr
      have hg : P.getD (x - l.length) (0, 0) = P[x - l.length] := by rw [List.getD_eq_getElem?_getD, List.getElem?_eq_getElem hr]; rfl
      rw [← hg] at hlt
      obtain ⟨f, rfl⟩ : ∃ f', f = f' + 1 := ⟨f - 1, by omega⟩
      rw [spn_node h] at hspn
      rw [hp]
      generalize hpp : P.getD (x - l.length) (0, 0) = p at *
      refine wo_notN (by intro _ h; cases h) ?_
      repeat walk_at "e"
      refine ⟨fun _ => ?_, fun h => (by cases h)⟩
      refine wss_cons ?_
      walk_at "s"
      repeat walk_at "e"
      refine ⟨_, _, rfl, rfl, ?_⟩
      repeat walk_at "e"
      refine wix_seq (.tup _) (d := iN p.2) rfl ?_
      repeat walk_at "e"
      walk_at "fv"
      repeat walk_at "e"
      have hL := LookD.rk (S := [nl ((pre ++ [(x, b)]).map sbD)]) (r := .val (.dcT (rkK P) (rkD P))) (.val _ _) p
      rw [if_pos i2, i1] at hL
      refine wix_dct hL ?_
      repeat walk_at "e"
      refine ⟨_, _, rfl, rfl, by simp [sizeLine_eq]; omega, ?_⟩
      refine wss_one ?_
      walk_at "s"
      refine we_meth G1 hcl m1 (Nat.le_of_ble_eq_true rfl) rfl ?_ (fun _ => rfl) (fun _ => rfl) (fun _ => rfl)
      repeat walk_at "e"
      refine ⟨_, .val _ _ _, by decide +kernel, ?_⟩
      repeat walk_at "e"
      refine wix_seq (.tup _) (d := iN p.2) rfl ?_
      repeat walk_at "e"
      refine fnc_F (A := JI) ⟨⟨l, P, lg⟩, p.2⟩ rfl ⟨hok, by rw [htl]; dsimp only; omega⟩ ?_
      dsimp only
      refine ⟨p.2, by omega, ?_⟩
      refine Wk.drop (env' := [some (.val (jD A l P lg)), some (.val (iN a)), some (.val (paD l.length P p.2)), some (.loc 0)]) ⟨pre ++ [(x, b)], p.2, f, some (x - l.length), rfl, by omega, by omega, by simp; omega, ?_, rfl, ?_⟩ (.keep rfl (.keep rfl (.keep rfl (.keep rfl .nil)))) (Nat.le_refl _) (by simp [okB_nl])
      · rw [List.append_assoc]; exact hspn
      · simp [oD]
abbrev spLSp (A : Addr) := spF JW (fun p => [jD A p.l p.P p.lg, iN p.i]) JW.okW (fun p => .tup ((lsp p.l.length p.P p.i).map sbD))
theorem scLSp : FnScope ["joins", "piece", "parts", "spine"] ["joins", "piece"] (defScope (top 19)) := ⟨rfl, rfl, rfl, by decide +kernel, rfl, by decide +kernel, by decide +kernel⟩
theorem ok_lsp {g : Gd} {f f1 A : Addr} {fd : FuncData} (F : FunD g.K "left_spine" "left_spine" (defArgs (top 19)) (defBody (top 19)) (defScope (top 19)) [] [] f fd) (hb : Binds g.K fd ["joins", "piece"] [])
    (hB : BltF g ["tuple"]) (hcl : Cls g.K A) (hna : NoA g A jF) (G1 : FnD g 4 f1 ["self", "piece"] (spPA A)) (m1 : Meth g.K A "parts_of" f1) :
    FnD g 5 f ["joins", "piece"] (spLSp A) := by
  refine fn_mk F hb scLSp (gl := ["tuple"]) [("joins", 0), ("piece", 1), ("parts", 2), ("spine", 3)] (by decide +kernel) (by decide +kernel) (fun rs S Ψ ξ h => ?_) (fun rs S Ψ ξ h => ?_)
  · obtain ⟨_, rfl, _⟩ := h; rfl
  · obtain ⟨⟨⟨l, P, lg⟩, a⟩, rfl, rfl, ⟨hok, hw, ha⟩, hΨ⟩ := h
    dsimp only at hΨ ha hw
    have hll : l.length ≤ 30 := hok.1
    have hpl : P.length ≤ 1000 := hok.2
    have htl := txts_len l P
    refine wss_cons ?_
    walk_at "s"
    refine we_meth G1 hcl m1 (Nat.le_of_ble_eq_true rfl) rfl ?_ (fun _ => rfl) (fun _ => rfl) (fun _ => rfl)
    repeat walk_at "e"
    refine ⟨_, .val _ _ _, by decide +kernel, ?_⟩
    repeat walk_at "e"
    refine fnc_F (A := JI) ⟨⟨l, P, lg⟩, a⟩ rfl ⟨hok, by rw [htl]; exact ha⟩ ?_
    dsimp only
    refine wss_cons ?_
    walk_at "s"
    refine we_lstN ?_
    repeat walk_at "e"
    refine wss_cons ?_
    refine ws_while (fun M env S' => ∃ (pre : List Sp1) (x f : Nat) (b : Option Nat), x = M ∧ x ≤ f ∧ x < l.length + P.length ∧ pre.length + x ≤ a ∧ pre ++ spn Prod.fst l.length P f x b = lsp l.length P a ∧ env = [some (.val (jD A l P lg)), some (.val (iN a)), some (.val (paD l.length P x)), some (.loc 0)] ∧ S' = [nl ((pre ++ [(x, b)]).map sbD)]) a (Nat.zero_le _) ⟨[], a, a, none, rfl, Nat.le_refl _, ha, by simp, rfl, rfl, rfl⟩ ?_
    rintro M env' S' ⟨pre, x, f, b, rfl, hxf, hx, hpre, hspn, rfl, rfl⟩
    repeat walk_at "e"
    by_cases h : x < l.length
    · have hp : paD l.length P x = .non := by unfold paD; rw [if_pos h]
      rw [hp]
      refine wo_notN (by intro _ h; cases h) ?_
      repeat walk_at "e"
      refine ⟨fun h => (by cases h), fun _ => ?_⟩
      refine wss_one ?_
      walk_at "s"
      repeat walk_at "e"
      rw [spn_leaf h] at hspn
      rw [hspn]
      exact RetC.cut0 hΨ
    · have hp : paD l.length P x = pN (P.getD (x - l.length) (0, 0)) := by unfold paD; rw [if_neg h]
      have hr : x - l.length < P.length := by omega
      obtain ⟨i1, i2⟩ := idx_at hw.nd hr
      have hlt := hw.lt (x - l.length) hr
      have hg : P.getD (x - l.length) (0, 0) = P[x - l.length] := by rw [List.getD_eq_getElem?_getD, List.getElem?_eq_getElem hr]; rfl
      rw [← hg] at hlt
      obtain ⟨f, rfl⟩ : ∃ f', f = f' + 1 := ⟨f - 1, by omega⟩
      rw [spn_node h] at hspn
      rw [hp]
      generalize hpp : P.getD (x - l.length) (0, 0) = p at *
      refine wo_notN (by intro _ h; cases h) ?_
      repeat walk_at "e"
      refine ⟨fun _ => ?_, fun h => (by cases h)⟩
      refine wss_cons ?_
      walk_at "s"
      repeat walk_at "e"
      refine ⟨_, _, rfl, rfl, ?_⟩
      repeat walk_at "e"
      refine wix_seq (.tup _) (d := iN p.1) rfl ?_
      repeat walk_at "e"
      walk_at "fv"
      repeat walk_at "e"
      have hL := LookD.rk (S := [nl ((pre ++ [(x, b)]).map sbD)]) (r := .val (.dcT (rkK P) (rkD P))) (.val _ _) p
      rw [if_pos i2, i1] at hL
      refine wix_dct hL ?_
      repeat walk_at "e"
      refine ⟨_, _, rfl, rfl, by simp [sizeLine_eq]; omega, ?_⟩
      refine wss_one ?_
      walk_at "s"
      refine we_meth G1 hcl m1 (Nat.le_of_ble_eq_true rfl) rfl ?_ (fun _ => rfl) (fun _ => rfl) (fun _ => rfl)
      repeat walk_at "e"
      refine ⟨_, .val _ _ _, by decide +kernel, ?_⟩
      repeat walk_at "e"
      refine wix_seq (.tup _) (d := iN p.1) rfl ?_
      repeat walk_at "e"
      refine fnc_F (A := JI) ⟨⟨l, P, lg⟩, p.1⟩ rfl ⟨hok, by rw [htl]; dsimp only; omega⟩ ?_
      dsimp only
      refine ⟨p.1, by omega, ?_⟩
      refine Wk.drop (env' := [some (.val (jD A l P lg)), some (.val (iN a)), some (.val (paD l.length P p.1)), some (.loc 0)]) ⟨pre ++ [(x, b)], p.1, f, some (x - l.length), rfl, by omega, by omega, by simp; omega, ?_, rfl, ?_⟩ (.keep rfl (.keep rfl (.keep rfl (.keep rfl .nil)))) (Nat.le_refl _) (by simp [okB_nl])
      · rw [List.append_assoc]; exact hspn
      · simp [oD]

/-! ### crossing -/
abbrev bsD (b : Option Nat) : D := oD b
structure JX extends JV where
  a : Nat
  b : Nat
def JX.okX (p : JX) : Prop := p.toJV.ok ∧ Wf p.l.length p.P ∧ p.a < p.l.length + p.P.length ∧ p.b < p.l.length + p.P.length
abbrev spCX (A : Addr) := spF JX (fun p => [jD A p.l p.P p.lg, iN p.a, iN p.b]) JX.okX (fun p => oD (crossF p.l.length p.P p.a p.b))
theorem scCX : FnScope ["joins", "left", "right", "best", "ahead", "behind", "x", "x_bound", "y", "y_bound", "rank"] ["joins", "left", "right"] (defScope (top 20)) := ⟨rfl, rfl, rfl, by decide +kernel, rfl, by decide +kernel, by decide +kernel⟩
theorem ok_cx {g : Gd} {f f1 f2 A : Addr} {fd : FuncData} (F : FunD g.K "crossing" "crossing" (defArgs (top 20)) (defBody (top 20)) (defScope (top 20)) [] [] f fd) (hb : Binds g.K fd ["joins", "left", "right"] [])
    (hcl : Cls g.K A) (hna : NoA g A jF) (G1 : FnD g 5 f1 ["joins", "piece"] (spRS A)) (m1 : g.mg "right_spine" = some (.ref f1)) (G2 : FnD g 5 f2 ["joins", "piece"] (spLSp A)) (m2 : g.mg "left_spine" = some (.ref f2)) :
    FnD g 6 f ["joins", "left", "right"] (spCX A) := by
  refine fn_mk F hb scCX (gl := ["right_spine", "left_spine"]) [("joins", 0), ("left", 1), ("right", 2), ("best", 3), ("ahead", 4), ("behind", 5), ("x", 6), ("x_bound", 7), ("y", 8), ("y_bound", 9), ("rank", 10)] (by decide +kernel) (by decide +kernel) (fun rs S Ψ ξ h => ?_) (fun rs S Ψ ξ h => ?_)
  · obtain ⟨_, rfl, _⟩ := h; rfl
  · obtain ⟨⟨⟨l, P, lg⟩, a, b⟩, rfl, rfl, ⟨hok, hw, ha, hb2⟩, hΨ⟩ := h
    dsimp only at hΨ ha hb2 hw
    unfold crossF at hΨ
    refine wss_cons ?_
    walk_at "s"
    repeat walk_at "e"
    refine wss_cons ?_
    walk_at "s"
    refine we_call G1 (by walk_at "ing") m1 (Nat.le_of_ble_eq_true rfl) rfl ?_ (fun _ => rfl) (fun _ => rfl)
    repeat walk_at "e"
    refine fnc_F (A := JW) ⟨⟨l, P, lg⟩, a⟩ rfl ⟨hok, hw, ha⟩ ?_
    dsimp only
    refine wss_cons ?_
    walk_at "s"
    refine we_call G2 (by walk_at "ing") m2 (Nat.le_of_ble_eq_true rfl) rfl ?_ (fun _ => rfl) (fun _ => rfl)
    repeat walk_at "e"
    refine fnc_F (A := JW) ⟨⟨l, P, lg⟩, b⟩ rfl ⟨hok, hw, hb2⟩ ?_
    dsimp only
    generalize rsp l.length P a = L at *
    generalize lsp l.length P b = M at *
    refine wss_cons ?_
    refine ws_for rfl ?_ (fun _ _ => rfl)
    refine wi_seq ?_
    repeat walk_at "e"
    refine ⟨_, .tup _, fun i env S' => env = [some (.val (jD A l P lg)), some (.val (iN a)), some (.val (iN b)), some (.val (oD (minL (crossL P (L.take i) M)))), some (.val (.tup (L.map sbD))), some (.val (.tup (M.map sbD))), none, none, none, none, none] ∧ S' = [], Nat.le_refl _, ⟨rfl, rfl⟩, fun _ _ _ _ => trivial, ?_, ?_⟩
    · rintro i d env' S' hd ⟨rfl, rfl⟩
      rw [List.getElem?_map] at hd
      obtain ⟨p, hp, rfl⟩ := Option.map_eq_some_iff.mp hd
      have hst : crossL P (L.take (i + 1)) M = crossL P (L.take i) M ++ M.filterMap (candS P p) := by
        rw [List.take_add_one, hp]
        simp [crossL]
      refine wg_tup rfl ?_ (fun _ => rfl) (fun _ => rfl)
      refine wgs_cons ?_ (fun _ => rfl)
      refine wg_name (by walk_at "inv") ?_
      refine wgs_cons ?_ (fun _ => rfl)
      refine wg_name (by walk_at "inv") ?_
      refine wgs_nil ?_
      refine wss_one ?_
      refine ws_for rfl ?_ (fun _ _ => rfl)
      refine wi_seq ?_
      repeat walk_at "e"
      refine ⟨_, .tup _, fun j env S' => env = [some (.val (jD A l P lg)), some (.val (iN a)), some (.val (iN b)), some (.val (oD (minL (crossL P (L.take i) M ++ (M.take j).filterMap (candS P p))))), some (.val (.tup (L.map sbD))), some (.val (.tup (M.map sbD))), some (.val (iN p.1)), some (.val (oD p.2)), none, none, none] ∧ S' = [], Nat.le_refl _, ⟨by simp, rfl⟩, fun _ _ _ _ => trivial, ?_, ?_⟩
      · rintro j d env' S' hd ⟨rfl, rfl⟩
        rw [List.getElem?_map] at hd
        obtain ⟨q, hq, rfl⟩ := Option.map_eq_some_iff.mp hd
        have hst2 : (M.take (j + 1)).filterMap (candS P p) = (M.take j).filterMap (candS P p) ++ (candS P p q).toList := by
          rw [List.take_add_one, hq]
          rw [List.filterMap_append]
          congr 1
        obtain ⟨K, hK⟩ : ∃ K, crossL P (L.take i) M ++ (M.take j).filterMap (candS P p) = K := ⟨_, rfl⟩
        have hst3 : crossL P (L.take i) M ++ (M.take (j + 1)).filterMap (candS P p) = K ++ (candS P p q).toList := by rw [hst2, ← List.append_assoc, hK]
        rw [hK]
        obtain ⟨x, xb⟩ := p
        obtain ⟨y, yb⟩ := q
        refine wg_tup rfl ?_ (fun _ => rfl) (fun _ => rfl)
        refine wgs_cons ?_ (fun _ => rfl)
        refine wg_name (by walk_at "inv") ?_
        refine wgs_cons ?_ (fun _ => rfl)
        refine wg_name (by walk_at "inv") ?_
        refine wgs_nil ?_
        refine wss_cons ?_
        walk_at "s"
        refine we_dget1T ?_ (fun _ => ⟨rfl, rfl, rfl, rfl⟩)
        repeat walk_at "e"
        walk_at "fv"
        refine ⟨⟨_, _, .val _ _⟩, ?_⟩
        repeat walk_at "e"
        refine ⟨_, LookD.rk (.val _ _) (x, y), ?_⟩
        by_cases hm : (x, y) ∈ P
        · rw [if_pos hm]
          have hcand : candS P (x, xb) (y, yb) = if ltB (P.idxOf (x, y)) xb = true ∧ leB (P.idxOf (x, y)) yb = true then some (P.idxOf (x, y)) else none := by
            unfold candS
            by_cases hh : ltB (P.idxOf (x, y)) xb = true ∧ leB (P.idxOf (x, y)) yb = true
            · rw [if_pos hh, if_pos ⟨hm, hh⟩]
            · rw [if_neg hh, if_neg (fun z => hh z.2)]
          rw [hcand] at hst3
          generalize P.idxOf (x, y) = w at *
          refine wss_one ?_
          refine ws_ifB (ltB w xb = true ∧ leB w yb = true) ?_ (fun h => ?_) (fun h => ?_)
          · refine wt_of ?_
            refine wto_and ?_
            repeat walk_at "e"
            refine ⟨fun _ => ?_, fun h => no_f h⟩
            refine wto_and ?_
            refine wt_mono (Θ' := fun k S1 => k = ltB w xb ∧ S1 = []) ?_ ?_
            · cases xb with
              | none =>
                refine wt_of ?_
                refine wto_or ?_
                repeat walk_at "e"
                exact ⟨fun _ => ⟨rfl, rfl⟩, fun h => no_f h⟩
              | some v =>
                refine wt_of ?_
                refine wto_or ?_
                repeat walk_at "e"
                refine ⟨fun h => no_t h, fun _ => ?_⟩
                refine wto_or1 ?_
                repeat walk_at "e"
                exact ⟨decide_eq_decide.mpr (by omega), rfl⟩
            rintro k S1 ⟨rfl, rfl⟩
            refine ⟨fun h1 => ?_, fun h1 => ⟨(decide_eq_false (fun z => by rw [h1] at z; exact absurd z.1 (by simp))).symm, rfl⟩⟩
            refine wto_and1 ?_
            refine wt_mono (Θ' := fun k S1 => k = leB w yb ∧ S1 = []) ?_ ?_
            · cases yb with
              | none =>
                refine wt_of ?_
                refine wto_or ?_
                repeat walk_at "e"
                exact ⟨fun _ => ⟨rfl, rfl⟩, fun h => no_f h⟩
              | some v =>
                refine wt_of ?_
                refine wto_or ?_
                repeat walk_at "e"
                refine ⟨fun h => no_t h, fun _ => ?_⟩
                refine wto_or1 ?_
                repeat walk_at "e"
                exact ⟨decide_eq_decide.mpr (by omega), rfl⟩
            rintro k S1 ⟨rfl, rfl⟩
            refine ⟨?_, rfl⟩
            rw [h1]
            cases leB w yb <;> rfl
          · rw [if_pos h] at hst3
            have hst4 := congrArg minL hst3
            rw [show (some w).toList = [w] from rfl, minL_snoc] at hst4
            refine wss_one ?_
            cases e : minL K with
            | none =>
              rw [e] at hst4
              refine ws_ifB True ?_ (fun h => ?_) (fun h => absurd trivial h)
              · refine wt_of ?_
                refine wto_or ?_
                repeat walk_at "e"
                exact ⟨fun _ => ⟨rfl, rfl⟩, fun h => no_f h⟩
              · refine wss_one ?_
                walk_at "s"
                repeat walk_at "e"
                dsimp only
                refine Wk.drop (env' := [some (.val (jD A l P lg)), some (.val (iN a)), some (.val (iN b)), some (.val (iN w)), some (.val (.tup (L.map sbD))), some (.val (.tup (M.map sbD))), some (.val (iN x)), some (.val (oD xb)), none, none, none]) ⟨by rw [hst4]; rfl, rfl⟩ (by walk_at "ew") (Nat.le_refl _) rfl
            | some v =>
              rw [e] at hst4
              refine ws_ifB (w < v) ?_ (fun h => ?_) (fun h => ?_)
              · refine wt_of ?_
                refine wto_or ?_
                repeat walk_at "e"
                refine ⟨fun h => no_t h, fun _ => ?_⟩
                refine wto_or1 ?_
                repeat walk_at "e"
                exact ⟨decide_eq_decide.mpr (by omega), rfl⟩
              · refine wss_one ?_
                walk_at "s"
                repeat walk_at "e"
                dsimp only
                refine Wk.drop (env' := [some (.val (jD A l P lg)), some (.val (iN a)), some (.val (iN b)), some (.val (iN w)), some (.val (.tup (L.map sbD))), some (.val (.tup (M.map sbD))), some (.val (iN x)), some (.val (oD xb)), none, none, none]) ⟨?_, rfl⟩ (by walk_at "ew") (Nat.le_refl _) rfl
                rw [hst4, show minS (some v) w = if w < v then some w else some v from rfl, if_pos h]; rfl
              · walk_at "s"
                dsimp only
                refine Wk.drop (env' := [some (.val (jD A l P lg)), some (.val (iN a)), some (.val (iN b)), some (.val (iN v)), some (.val (.tup (L.map sbD))), some (.val (.tup (M.map sbD))), some (.val (iN x)), some (.val (oD xb)), none, none, none]) ⟨?_, rfl⟩ (by walk_at "ew") (Nat.le_refl _) rfl
                rw [hst4, show minS (some v) w = if w < v then some w else some v from rfl, if_neg h]; rfl
          · rw [if_neg h] at hst3
            walk_at "s"
            dsimp only
            refine Wk.drop (env' := [some (.val (jD A l P lg)), some (.val (iN a)), some (.val (iN b)), some (.val (oD (minL K))), some (.val (.tup (L.map sbD))), some (.val (.tup (M.map sbD))), some (.val (iN x)), some (.val (oD xb)), none, none, none]) ⟨by rw [hst3]; simp, rfl⟩ (by walk_at "ew") (Nat.le_refl _) rfl
        · rw [if_neg hm]
          have hcand : candS P (x, xb) (y, yb) = none := by unfold candS; rw [if_neg (fun z => hm z.1)]
          rw [hcand] at hst3
          refine wss_one ?_
          refine ws_ifB False ?_ (fun h => h.elim) (fun _ => ?_)
          · refine wt_of ?_
            refine wto_and ?_
            repeat walk_at "e"
            exact ⟨fun h => no_t h, fun _ => ⟨rfl, rfl⟩⟩
          · walk_at "s"
            dsimp only
            refine Wk.drop (env' := [some (.val (jD A l P lg)), some (.val (iN a)), some (.val (iN b)), some (.val (oD (minL K))), some (.val (.tup (L.map sbD))), some (.val (.tup (M.map sbD))), some (.val (iN x)), some (.val (oD xb)), none, none, none]) ⟨by rw [hst3]; simp, rfl⟩ (by walk_at "ew") (Nat.le_refl _) rfl
      · rintro env' S' ⟨rfl, rfl⟩
        rw [List.length_map, List.take_length]
        dsimp only
        refine Wk.drop (env' := [some (.val (jD A l P lg)), some (.val (iN a)), some (.val (iN b)), some (.val (oD (minL (crossL P (L.take (i + 1)) M)))), some (.val (.tup (L.map sbD))), some (.val (.tup (M.map sbD))), none, none, none, none, none]) ⟨rfl, rfl⟩ (by rw [hst]; walk_at "ew") (Nat.le_refl _) rfl
    · rintro env' S' ⟨rfl, rfl⟩
      rw [List.length_map, List.take_length]
      refine wss_one ?_
      walk_at "s"
      repeat walk_at "e"
      exact RetC.now (Nat.le_refl _) rfl rfl hΨ
abbrev spSS (A : Addr) := spF JX (fun p => [jD A p.l p.P p.lg, iN p.a, iN p.b]) JX.okX (fun p => .bl (crossF p.l.length p.P p.a p.b).isNone)
theorem scSS : FnScope ["joins", "left", "right"] ["joins", "left", "right"] (defScope (top 21)) := ⟨rfl, rfl, rfl, by decide +kernel, rfl, by decide +kernel, by decide +kernel⟩
theorem ok_ss {g : Gd} {f f1 A : Addr} {fd : FuncData} (F : FunD g.K "side_by_side" "side_by_side" (defArgs (top 21)) (defBody (top 21)) (defScope (top 21)) [] [] f fd) (hb : Binds g.K fd ["joins", "left", "right"] [])
    (G1 : FnD g 6 f1 ["joins", "left", "right"] (spCX A)) (m1 : g.mg "crossing" = some (.ref f1)) :
    FnD g 7 f ["joins", "left", "right"] (spSS A) := by
  refine fn_mk F hb scSS (gl := ["crossing"]) [("joins", 0), ("left", 1), ("right", 2)] (by decide +kernel) (by decide +kernel) (fun rs S Ψ ξ h => ?_) (fun rs S Ψ ξ h => ?_)
  · obtain ⟨_, rfl, _⟩ := h; rfl
  · obtain ⟨⟨⟨l, P, lg⟩, a, b⟩, rfl, rfl, hok, hΨ⟩ := h
    dsimp only at hΨ
    refine wss_one ?_
    walk_at "s"
    repeat walk_at "e"
    refine we_call G1 (by walk_at "ing") m1 (Nat.le_of_ble_eq_true rfl) rfl ?_ (fun _ => rfl) (fun _ => rfl)
    repeat walk_at "e"
    refine fnc_F (A := JX) ⟨⟨l, P, lg⟩, a, b⟩ rfl hok ?_
    dsimp only
    repeat walk_at "e"
    refine wo_isN (oD_opq _) ?_
    rw [isNon_oD]
    exact RetC.now (Nat.le_refl _) rfl rfl hΨ
end DL
set_option Elab.async false
set_option linter.all false
set_option maxRecDepth 100000
set_option maxHeartbeats 4000000
namespace DL
open PySem PySem.Spec PyProof.Rows
open L2 hiding Takes passAt takes_of ps_raise PMk ps_try_as
open L2N (Takes passAt takes_of ps_raise PMk ps_try_as)
local macro_rules | `(tactic| walk_at "inv") => `(tactic| ((try dsimp only); repeat (first | with_reducible exact InV.here | with_reducible apply InV.there)))
local macro_rules | `(tactic| walk_at "ing") => `(tactic| ((try dsimp only); repeat (first | with_reducible exact InG.here | with_reducible apply InG.there)))
local macro_rules | `(tactic| walk_at "nb") => `(tactic| first | assumption | (dsimp only; refine BltF.at_ (by assumption) ?_; repeat (first | with_reducible exact InG.here | with_reducible apply InG.there)))
local macro_rules | `(tactic| walk_at "s") => `(tactic| first
  | refine wss_cons ?_ | refine wss_nil ?_ | refine ws_set (by walk_at "inv") ?_ (fun _ => rfl) | refine ws_if ?_ | refine ws_ret ?_ | refine ws_aug (by walk_at "inv") rfl ?_
  | refine ws_expr ?_ (fun _ => rfl) | refine ws_pass ?_ | refine ws_break ?_ | refine ws_cont ?_ | refine ws_retN ?_
  | refine ws_setA ?_ (fun _ => rfl) | refine ws_put ?_ (fun _ => rfl) | refine ws_asg ?_ (fun _ => rfl) (fun _ => rfl) (fun _ => rfl))
local macro_rules | `(tactic| walk_at "we") => `(tactic| first
  | refine we_name (by walk_at "inv") rfl ?_ | refine we_int ?_ | refine we_op ?_ | refine we_str ?_
  | refine we_callB (by walk_at "ing") (by walk_at "nb") (by first | exact PySem.boot_len | exact boot_abs | exact boot_min | exact boot_max | exact boot_sorted | exact boot_isinstance) ?_ (fun _ => rfl) (fun _ => rfl)
  | refine we_callT (by walk_at "ing") (by walk_at "nb") (by first | exact boot_tuple | exact boot_list | exact boot_int) ?_ (fun _ => rfl) (fun _ => rfl)
  | refine we_attr ?_ (fun _ => rfl) | refine we_ix ?_ (fun _ _ => rfl) | refine we_tup ?_
  | refine we_append ?_ (fun _ => rfl) (fun _ => rfl) rfl (fun _ => rfl) (fun _ => rfl)
  | refine we_bl ?_ | refine we_non ?_ | refine we_chain ?_ rfl | refine we_cmp ?_ rfl | refine we_one ?_ | refine we_and ?_ | refine we_or ?_ | refine we_not ?_ | refine we_ifx ?_ | refine we_neg ?_ | refine we_slice ?_)
local macro_rules | `(tactic| walk_at "wb") => `(tactic| first | refine we_type (by walk_at "ing") (by walk_at "nb") boot_int ?_ | refine we_type (by walk_at "ing") (by walk_at "nb") boot_bool ?_ | refine we_type (by walk_at "ing") (by walk_at "nb") boot_str ?_ | refine we_type (by walk_at "ing") (by walk_at "nb") boot_tuple ?_)
local macro_rules | `(tactic| walk_at "wt") => `(tactic| first | refine wt_cmp ?_ rfl | refine wt_not ?_ | refine wt_chain ?_ rfl | refine wt_of ?_)
local macro_rules | `(tactic| walk_at "wto") => `(tactic| first | refine wto_and1 ?_ | refine wto_or1 ?_ | refine wto_and ?_ | refine wto_or ?_)
local macro_rules | `(tactic| walk_at "wo") => `(tactic| first
  | refine wo_add ?_ | refine wo_sub ?_ | refine wo_lt ?_ | refine wo_le ?_ | refine wo_gt ?_ | refine wo_ge ?_ | refine wo_eqI ?_ | refine wo_neI ?_ | refine wo_eqL ?_ | refine wo_neL ?_ | refine wo_lt1 ?_ | refine wo_le1 ?_ | refine wo_ge1 ?_ | refine wo_inL ?_ | refine wo_notInL ?_
  | refine wo_mod (by omega) ?_ | refine wo_fdiv ⟨by omega, by omega⟩ ?_ | refine wo_mul (by first | exact Or.inr ⟨by omega, by omega⟩ | exact Or.inl ⟨by omega, by omega⟩) ?_ | refine wo_pow ⟨by omega, by omega, by decide⟩ ?_
  | refine wo_isN (by intro _ h; cases h) ?_ | refine wo_notN (by intro _ h; cases h) ?_)
local macro_rules | `(tactic| walk_at "wc") => `(tactic| first
  | refine wc_len (by first | exact .tup _ | exact .lst _ | exact .bor _ | exact .loc rfl) ?_ | refine wc_int ?_ | refine wc_intB ?_ | refine wc_abs ?_ | refine wc_min2 rfl ?_ | refine wc_max2 rfl ?_ | refine wc_tuple (by first | exact .tup _ | exact .lst _ | exact .bor _ | exact .loc rfl) ?_)
local macro_rules | `(tactic| walk_at "e") => `(tactic| first
  | (with_reducible show WE _ _ _ _ _); walk_at "we"
  | (with_reducible show WT _ _ _ _ _); walk_at "wt"
  | (with_reducible show WTo _ _ _ _ _); walk_at "wto"
  | (with_reducible show WO _ _ _ _ _ _); walk_at "wo"
  | (with_reducible show WA _ _ _ _ _); first | refine wa_cons ?_ (fun _ => rfl) | refine wa_nil ?_
  | (with_reducible show WC _ _ _ _ _); walk_at "wc"
  | (with_reducible show WPO _ _ _ _ _); first | refine wpo_none ?_ | refine wpo_some ?_
  | refine asB_mk ?_ | refine wip_add ?_
  | refine ⟨_, rfl, (by first | decide | exact Nat.le_of_ble_eq_true rfl), ?_⟩)
local macro_rules | `(tactic| walk_at "ew") => `(tactic| ((try simp only [List.set_cons_zero, List.set_cons_succ]); repeat (first | exact EnvW.nil | refine EnvW.keep (by first | rfl | assumption) ?_ | refine EnvW.drop ?_)))
local macro_rules | `(tactic| walk_at "fl") => `(tactic| (refine ⟨_, _, fldL rfl (by repeat (first | with_reducible exact AtN.here | with_reducible apply AtN.there)) rfl, by assumption, NoA.at_ (by assumption) (by walk_at "ing"), ?_⟩))
local macro_rules | `(tactic| walk_at "fv") => `(tactic| (refine ⟨_, _, fldV (by repeat (first | with_reducible exact AtN.here | with_reducible apply AtN.there)) rfl, by assumption, NoA.at_ (by assumption) (by walk_at "ing"), ?_⟩))
/-! ### the pool -/
abbrev nN (ns : List Nat) : Node := nl (ns.map iN)
theorem passOne {S : Sto} {k : Nat} {ds : List D} (h : S[k]? = some (nl ds)) : PassS [k] S [nl ds] := by
  have e : (nl ds).ren (rho [k] S.length) = nl ds := by
    show Node.lst ((ds.map R.val).map _) = _
    rw [ren_vals]
  refine ⟨by simp, rfl, fun j k' hj => ?_, by simp [okB_nl]⟩
  cases j with
  | zero => simp at hj; subst hj; exact ⟨_, rfl, rfl, by rw [e]; exact h⟩
  | succ j => simp at hj
theorem backOne {S : Sto} {k : Nat} {ds : List D} (T : List (List D)) : backS [k] S (nl ds :: T.map nl) = S.set k (nl ds) ++ T.map nl := by
  have e : ∀ ds : List D, (nl ds).ren (rho [k] S.length) = nl ds := fun ds => by
    show Node.lst ((ds.map R.val).map _) = _
    rw [ren_vals]
  have e2 : (T.map nl).map (Node.ren (rho [k] S.length)) = T.map nl := by
    rw [List.map_map]
    exact List.map_congr_left fun d _ => e d
  have e3 : ∀ (f : Nat → Nat) (X Y : Sto), upS f [] X Y = X := fun f X Y => by cases Y <;> rfl
  unfold backS
  show upS (rho [k] S.length) [] (S.set k ((nl ds).ren (rho [k] S.length))) (T.map nl) ++ (T.map nl).map (Node.ren (rho [k] S.length)) = _
  rw [e ds, e2, e3]
/-- draws: any number below, the pool shorter or the same -/
def spDR : DSp := fun rs S Ψ _ => ∃ (ns : List Nat) (m : Nat), rs = [.loc 0, .val (iN m)] ∧ S = [nN ns] ∧ 1 ≤ m ∧ ns.length ≤ 100000 ∧ ∀ (v : Nat) (ns' : List Nat), v < m → ns'.length ≤ ns.length → Ψ (.val (iN v)) [nN ns']
theorem fnc_DR {C : DC} {env : Nv} {S : Sto} {Ψ : R → Sto → Prop} {k m : Nat} {ns : List Nat} (hk : S[k]? = some (nN ns)) (hm : 1 ≤ m) (hl : ns.length ≤ 100000) (h : ∀ (v : Nat) (ns' : List Nat), v < m → ns'.length ≤ ns.length → Ψ (.val (iN v)) (S.set k (nN ns'))) : FnC C spDR [.loc k, .val (iN m)] env S Ψ := by
  refine ⟨[k], [nN ns], [.loc 0, .val (iN m)], passOne hk, .cons (.loc rfl) (.cons (.val _) .nil), ns, m, rfl, rfl, hm, hl, fun v ns' hv hn => ?_⟩
  show Ψ (.val (iN v)) (backS [k] S [nN ns'])
  have := backOne (S := S) (k := k) (ds := ns'.map iN) []
  rw [show backS [k] S [nN ns'] = S.set k (nN ns') ++ [] from this, List.append_nil]
  exact h v ns' hv hn
theorem scDR : FnScope ["_law_pool_here", "_law_many"] ["_law_pool_here", "_law_many"] (defScope (top 30)) := ⟨rfl, rfl, rfl, by decide +kernel, rfl, by decide +kernel, by decide +kernel⟩
theorem ok_dr {g : Gd} {f : Addr} {fd : FuncData} (F : FunD g.K "_law_draw" "_law_draw" (defArgs (top 30)) (defBody (top 30)) (defScope (top 30)) [] [] f fd) (hb : Binds g.K fd ["_law_pool_here", "_law_many"] [])
    (hB : BltF g ["len", "int"]) : FnD g 1 f ["_law_pool_here", "_law_many"] spDR := by
  refine fn_mk F hb scDR (gl := ["len", "int"]) [("_law_pool_here", 0), ("_law_many", 1)] (by decide +kernel) (by decide +kernel) (fun rs S Ψ ξ h => ?_) (fun rs S Ψ ξ h => ?_)
  · obtain ⟨_, _, rfl, _⟩ := h; rfl
  · obtain ⟨ns, m, rfl, rfl, hm, hl, hΨ⟩ := h
    refine wss_cons ?_
    refine ws_ifB (ns.length = 0) ?_ (fun h => ?_) (fun h => ?_)
    · repeat walk_at "e"
      rw [List.length_map]
      exact ⟨decide_eq_decide.mpr (by omega), rfl⟩
    · refine wss_one ?_
      walk_at "s"
      repeat walk_at "e"
      exact RetC.now (Nat.le_refl _) (by simp [okB_nl]) rfl (hΨ 0 ns (by omega) (Nat.le_refl _))
    · walk_at "s"
      obtain ⟨M, z, rfl⟩ : ∃ M z, ns = M ++ [z] := by
        have hne : ns ≠ [] := fun e => h (by rw [e]; rfl)
        exact ⟨ns.dropLast, ns.getLast hne, (List.dropLast_concat_getLast hne).symm⟩
      refine wss_one ?_
      walk_at "s"
      repeat walk_at "e"
      refine we_pop ?_ (fun _ => rfl) rfl
      repeat walk_at "e"
      refine ⟨0, M.map iN, iN z, rfl, by simp, ?_⟩
      repeat walk_at "e"
      refine RetC.now (Nat.le_refl _) (by simp [okB_nl]) rfl (hΨ (z % m) M (Nat.mod_lt _ (by omega)) (by simp))
/-! ### the alphabet -/
def sgL : List Nat := (List.range' 32 95).filter (· ≠ 37)
theorem sg_len : sgL.length = 94 := by decide +kernel
theorem sg_mem : ∀ c ∈ sgL, 32 ≤ c ∧ c ≤ 126 := by decide +kernel
theorem flat1 (ds : List Nat) : (ds.map fun c => [c]).flatten = ds := by
  induction ds with
  | nil => rfl
  | cons d ds ih => rw [List.map_cons, List.flatten_cons, ih]; rfl

theorem okB_nT (n : Nat) (ks : List Int) : Node.okB n (nT ks) = true := by
  have := okB_vals n (ks.map fun _ => D.bl true)
  rw [List.map_map] at this
  exact this
theorem sg_up : ∀ i j : Nat, i < j → j < 94 → sgL.getD i 0 < sgL.getD j 0 := by
  have h : ∀ j, j < 94 → ∀ i, i < j → sgL.getD i 0 < sgL.getD j 0 := by decide +kernel
  exact fun i j hij hj => h j hj i hij
theorem pick12 (v : Nat) (hv : v < 12) : ∃ q : Nat, [D.int 1, .int 2, .int 2, .int 3, .int 3, .int 4, .int 5, .int 9, .int 2, .int 3, .int 4, .int 36][v]? = some (iN q) ∧ 1 ≤ q ∧ q ≤ 36 := by
  match v, hv with
  | 0, _ => exact ⟨1, rfl, by omega, by omega⟩
  | 1, _ => exact ⟨2, rfl, by omega, by omega⟩
  | 2, _ => exact ⟨2, rfl, by omega, by omega⟩
  | 3, _ => exact ⟨3, rfl, by omega, by omega⟩
  | 4, _ => exact ⟨3, rfl, by omega, by omega⟩
  | 5, _ => exact ⟨4, rfl, by omega, by omega⟩
  | 6, _ => exact ⟨5, rfl, by omega, by omega⟩
  | 7, _ => exact ⟨9, rfl, by omega, by omega⟩
  | 8, _ => exact ⟨2, rfl, by omega, by omega⟩
  | 9, _ => exact ⟨3, rfl, by omega, by omega⟩
  | 10, _ => exact ⟨4, rfl, by omega, by omega⟩
  | 11, _ => exact ⟨36, rfl, by omega, by omega⟩
/-- the signs at ascending places are an alphabet -/
theorem alph_of {qs : List Nat} (h1 : 1 ≤ qs.length) (h2 : qs.length ≤ 30) (h3 : ∀ q ∈ qs, q < 94) (h4 : qs.Pairwise (· < ·)) : alphB (qs.map fun q => sgL.getD q 0) = true := by
  refine decide_eq_true ⟨by simpa using h1, by simpa using h2, fun i hi => ?_, fun i hi => ?_⟩
  · rw [List.length_map] at hi
    rw [List.getD_eq_getElem?_getD, List.getElem?_map, List.getElem?_eq_getElem hi]
    have hq := h3 _ (List.getElem_mem hi)
    have : sgL.getD qs[i] 0 ∈ sgL := by
      rw [List.getD_eq_getElem?_getD, List.getElem?_eq_getElem (by rw [sg_len]; exact hq)]
      exact List.getElem_mem _
    exact sg_mem _ this
  · rw [List.length_map] at hi
    have hi0 : i < qs.length := by omega
    have hi1 : i + 1 < qs.length := by omega
    rw [List.getD_eq_getElem?_getD, List.getD_eq_getElem?_getD, List.getElem?_map, List.getElem?_map, List.getElem?_eq_getElem hi0, List.getElem?_eq_getElem hi1]
    have hlt := (List.pairwise_iff_getElem.mp h4) i (i + 1) hi0 hi1 (by omega)
    exact sg_up _ _ hlt (h3 _ (List.getElem_mem hi1))
def spAB : DSp := fun rs S Ψ _ => ∃ ns : List Nat, rs = [.loc 0] ∧ S = [nN ns] ∧ ns.length ≤ 100000 ∧ ∀ (l : List Nat) (ns' : List Nat), alphB l = true → ns'.length ≤ ns.length → Ψ (.val (sL l)) [nN ns']
theorem scAB : FnScope ["_law_pool_here", "_law_signs", "_law_chosen", "_law_k"] ["_law_pool_here"] (defScope (top 31)) := ⟨rfl, rfl, rfl, by decide +kernel, rfl, by decide +kernel, by decide +kernel⟩
theorem ok_ab {g : Gd} {f f1 : Addr} {fd : FuncData} (F : FunD g.K "_law_alphabet" "_law_alphabet" (defArgs (top 31)) (defBody (top 31)) (defScope (top 31)) [] [] f fd) (hb : Binds g.K fd ["_law_pool_here"] [])
    (hB : BltF g ["range", "sorted"]) (GDR : FnD g 1 f1 ["_law_pool_here", "_law_many"] spDR) (mDR : g.mg "_law_draw" = some (.ref f1)) : FnD g 2 f ["_law_pool_here"] spAB := by
  refine fn_mk F hb scAB (gl := ["range", "sorted", "_law_draw"]) [("_law_pool_here", 0), ("_law_signs", 1), ("_law_chosen", 2), ("_law_k", 3)] (by decide +kernel) (by decide +kernel) (fun rs S Ψ ξ h => ?_) (fun rs S Ψ ξ h => ?_)
  · obtain ⟨_, rfl, _⟩ := h; rfl
  · obtain ⟨ns, rfl, rfl, hl, hΨ⟩ := h
    refine wss_cons ?_
    refine ws_set (by walk_at "inv") ?_ (fun _ => rfl)
    refine we_str ?_
    refine wss_cons ?_
    refine ws_set (by walk_at "inv") ?_ (fun _ => rfl)
    refine we_op ?_
    refine we_name (by walk_at "inv") rfl ?_
    refine we_str ?_
    refine wo_addSK (l := sgL) (by decide +kernel) (by decide +kernel) ?_
    refine wss_cons ?_
    refine ws_set (by walk_at "inv") ?_ (fun _ => rfl)
    refine we_dNewK ?_
    refine wss_cons ?_
    refine ws_for rfl ?_ (fun _ _ => rfl)
    refine wi_range1 (by walk_at "ing") (by walk_at "nb") ?_ (fun _ => rfl)
    refine we_ix ?_ (fun _ _ => rfl)
    refine we_lstF ?_
    repeat walk_at "e"
    refine we_call GDR (by walk_at "ing") mDR (Nat.le_of_ble_eq_true rfl) rfl ?_ (fun _ => rfl) (fun _ => rfl)
    repeat walk_at "e"
    refine fnc_DR (ns := ns) (m := 12) rfl (by omega) hl fun v ns1 hv hn1 => ?_
    obtain ⟨q, hq, hq1, hq2⟩ := pick12 v hv
    refine wix_seq (.lst _) (d := iN q) (atI_get (k := v) rfl hq) ?_
    refine ⟨_, rfl, by omega, fun i env S' => ∃ (ns' : List Nat) (ks : List Int), env = [some (.loc 0), some (.val (sL sgL)), some (.loc 1), none] ∧ S' = [nN ns', nT ks] ∧ ns'.length ≤ ns.length ∧ ks.Nodup ∧ (∀ k ∈ ks, 0 ≤ k ∧ k < 94) ∧ ks.length ≤ i ∧ (0 < i → 1 ≤ ks.length), Nat.le_of_ble_eq_true rfl, ⟨ns1, [], rfl, rfl, hn1, List.nodup_nil, by simp, Nat.le_refl _, fun h => by omega⟩, fun _ _ _ _ => trivial, ?_, ?_⟩
    · rintro i d env' S' hd ⟨ns', ks, rfl, rfl, hn', hnd, hks, hkl, hkp⟩
      obtain ⟨hi, rfl⟩ := rangeD_get hd
      have hi0 : i < 36 := by omega
      refine wg_name (by walk_at "inv") ?_
      refine wss_one ?_
      refine ws_putC ?_ (fun _ => rfl)
      repeat walk_at "e"
      refine we_call GDR (by walk_at "ing") mDR (Nat.le_of_ble_eq_true rfl) rfl ?_ (fun _ => rfl) (fun _ => rfl)
      repeat walk_at "e"
      refine fnc_DR (ns := ns') (m := 94) rfl (by omega) (by omega) fun k ns2 hk hn2 => ?_
      refine ⟨1, ks, (k : Int), rfl, rfl, rfl, rfl, by omega, ?_⟩
      dsimp only
      refine Wk.drop (env' := [some (.loc 0), some (.val (sL sgL)), some (.loc 1), none]) ⟨ns2, if (k : Int) ∈ ks then ks else ks ++ [(k : Int)], rfl, rfl, by omega, ?_, ?_, ?_, ?_⟩ (by walk_at "ew") (Nat.le_refl _) ?_
      · split
        · exact hnd
        · rename_i h
          rw [List.nodup_append]
          refine ⟨hnd, by simp, fun a ha b hb e => h ?_⟩
          have hb : b = (k : Int) := by simpa using hb
          rw [← hb, ← e]; exact ha
      · intro x hx
        split at hx
        · exact hks x hx
        · rcases List.mem_append.mp hx with hx | hx
          · exact hks x hx
          · have : x = (k : Int) := by simpa using hx
            omega
      · split
        · omega
        · simp; omega
      · intro _
        split
        · rename_i h
          exact List.length_pos_of_mem h
        · simp
      · simp [okB_nl, okB_nT]
    · rintro env' S' ⟨ns', ks, rfl, rfl, hn', hnd, hks, hkl, hkp⟩
      rw [rangeD_len] at hkl hkp
      have hkl : ks.length ≤ 36 := by omega
      have hkp : 1 ≤ ks.length := hkp (by omega)
      refine wss_one ?_
      walk_at "s"
      refine we_m1 PySem.F.slot_str_join PySem.F.type_str_join ?_ (fun _ => rfl) (fun _ => rfl) rfl
      walk_at "e"
      refine ⟨sS [], rfl, ?_⟩
      refine we_lc [("_law_k", 3)] [("_law_signs", 1), ("_law_k", 3)] [("_law_k", 3)] [] (by dsimp only; decide +kernel) rfl ?_ (fun _ _ => rfl)
      refine wi_seq ?_
      repeat walk_at "e"
      refine wc_sortedT rfl rfl (by omega) fun ys hp hs => ?_
      repeat walk_at "e"
      refine ⟨_, rfl, ?_⟩
      refine wsl_lst (.loc rfl) ?_
      obtain ⟨qs, rfl, hq94, hqs⟩ : ∃ qs : List Nat, ys = qs.map (fun q : Nat => (q : Int)) ∧ (∀ q ∈ qs, q < 94) ∧ qs.Pairwise (· < ·) := by
        have hy : ∀ y ∈ ys, 0 ≤ y ∧ y < 94 := fun y hy => hks y (hp.mem_iff.mp hy)
        have e : ys = (ys.map Int.toNat).map (fun q : Nat => (q : Int)) := by
          rw [List.map_map]
          exact ((List.map_congr_left fun y hy' => by have := hy y hy'; show ((y.toNat : Nat) : Int) = y; omega).trans (List.map_id _)).symm
        have hlt : ys.Pairwise (· < ·) := by
          have hnd2 := List.nodup_iff_pairwise_ne.mp (hp.nodup_iff.mpr hnd)
          exact (hs.and hnd2).imp fun h => by have h1 := h.1; have h2 := h.2; omega
        refine ⟨ys.map Int.toNat, e, fun q hq => ?_, ?_⟩
        · obtain ⟨y, hy1, rfl⟩ := List.mem_map.mp hq
          have := hy y hy1
          omega
        · rw [List.pairwise_map]
          refine (List.Pairwise.and_mem.mp hlt).imp fun h => ?_
          have h1 := hy _ h.1
          have h2 := hy _ h.2.1
          have h3 := h.2.2
          omega
      have hlen : qs.length = ks.length := by have := hp.length_eq; simpa using this
      have ecut : cutA ((qs.map (fun q : Nat => (q : Int))).map D.int) none (some 30) = (qs.take 30).map iN := by
        rw [show (some (30 : Int)) = some ((30 : Nat) : Int) from rfl, cutA_tk, List.map_map, ← List.map_take]
        rfl
      rw [ecut]
      have hal : alphB ((qs.take 30).map fun q => sgL.getD q 0) = true := alph_of (by simp; omega) (by simp; omega) (fun q hq => hq94 q (List.mem_of_mem_take hq)) (hqs.sublist (List.take_sublist _ _))
      generalize hq30 : qs.take 30 = rs at *
      have hr94 : ∀ q ∈ rs, q < 94 := fun q hq => hq94 q (by rw [← hq30] at hq; exact List.mem_of_mem_take hq)
      have hrl : rs.length ≤ 30 := by rw [← hq30]; simp; omega
      refine ⟨_, .loc rfl, fun i S' => S' = [nN ns', nT ks, nl ((qs.map (fun q : Nat => (q : Int))).map D.int), nl (rs.map iN), nl ((rs.take i).map fun q => sL [sgL.getD q 0])], rfl, fun _ S' h => by subst h; exact rfl, ?_, ?_⟩
      · rintro i d S' hd rfl
        rw [List.getElem?_map] at hd
        obtain ⟨z, hz, rfl⟩ := Option.map_eq_some_iff.mp hd
        have hz94 := hr94 z (List.mem_of_getElem? hz)
        have hi := (List.getElem?_eq_some_iff.mp hz).1
        have xz : sgL[z]? = some (sgL.getD z 0) := by rw [List.getD_eq_getElem?_getD, List.getElem?_eq_getElem (by rw [sg_len]; exact hz94)]; rfl
        refine wgw_name (by walk_at "inv") (by decide) ?_
        refine wts_nil ⟨fun h => (by cases h), fun _ => ?_⟩
        repeat walk_at "e"
        refine wix_L (l := sgL) (by decide +kernel) (c := sgL.getD z 0) (atI_get (k := z) rfl xz) ?_
        refine ⟨_, rfl, by simp [sizeLine_eq]; omega, ?_⟩
        show _ = _
        rw [List.take_add_one, hz]
        simp
      · rintro S' rfl
        rw [List.length_map, List.take_length]
        refine wm_joinL (ys := rs.map fun q => [sgL.getD q 0]) (by rw [show (rs.map fun q => [sgL.getD q 0]).map sL = rs.map fun q => sL [sgL.getD q 0] from List.map_map ..]; exact .loc rfl) ?_ ?_
        · refine Nat.le_trans (sum_le (k := 1) fun t ht => ?_) ?_
          · obtain ⟨q, _, rfl⟩ := List.mem_map.mp ht
            simp
          · rw [List.length_map]; omega
        · have ef : (rs.map fun q => [sgL.getD q 0]).flatten = rs.map fun q => sgL.getD q 0 := by
            rw [← flat1 (rs.map fun q => sgL.getD q 0), List.map_map]
            rfl
          rw [ef]
          exact ⟨1, Nat.le_refl _, Nat.le_of_ble_eq_true rfl, by simp [okB_nl], .inl ⟨rfl, hΨ _ _ hal hn'⟩⟩
end DL
set_option Elab.async false
set_option linter.all false
set_option maxRecDepth 100000
set_option maxHeartbeats 4000000
namespace DL
open PySem PySem.Spec PyProof.Rows
open L2 hiding Takes passAt takes_of ps_raise PMk ps_try_as
open L2N (Takes passAt takes_of ps_raise PMk ps_try_as)
local macro_rules | `(tactic| walk_at "inv") => `(tactic| ((try dsimp only); repeat (first | with_reducible exact InV.here | with_reducible apply InV.there)))
local macro_rules | `(tactic| walk_at "ing") => `(tactic| ((try dsimp only); repeat (first | with_reducible exact InG.here | with_reducible apply InG.there)))
local macro_rules | `(tactic| walk_at "nb") => `(tactic| first | assumption | (dsimp only; refine BltF.at_ (by assumption) ?_; repeat (first | with_reducible exact InG.here | with_reducible apply InG.there)))
local macro_rules | `(tactic| walk_at "s") => `(tactic| first
  | refine wss_cons ?_ | refine wss_nil ?_ | refine ws_set (by walk_at "inv") ?_ (fun _ => rfl) | refine ws_if ?_ | refine ws_ret ?_ | refine ws_aug (by walk_at "inv") rfl ?_
  | refine ws_expr ?_ (fun _ => rfl) | refine ws_pass ?_ | refine ws_break ?_ | refine ws_cont ?_ | refine ws_retN ?_
  | refine ws_setA ?_ (fun _ => rfl) | refine ws_put ?_ (fun _ => rfl) | refine ws_asg ?_ (fun _ => rfl) (fun _ => rfl) (fun _ => rfl))
local macro_rules | `(tactic| walk_at "we") => `(tactic| first
  | refine we_name (by walk_at "inv") rfl ?_ | refine we_int ?_ | refine we_op ?_ | refine we_str ?_
  | refine we_callB (by walk_at "ing") (by walk_at "nb") (by first | exact PySem.boot_len | exact boot_abs | exact boot_min | exact boot_max | exact boot_sorted | exact boot_isinstance) ?_ (fun _ => rfl) (fun _ => rfl)
  | refine we_callT (by walk_at "ing") (by walk_at "nb") (by first | exact boot_tuple | exact boot_list | exact boot_int) ?_ (fun _ => rfl) (fun _ => rfl)
  | refine we_attr ?_ (fun _ => rfl) | refine we_ix ?_ (fun _ _ => rfl) | refine we_tup ?_
  | refine we_append ?_ (fun _ => rfl) (fun _ => rfl) rfl (fun _ => rfl) (fun _ => rfl)
  | refine we_bl ?_ | refine we_non ?_ | refine we_chain ?_ rfl | refine we_cmp ?_ rfl | refine we_one ?_ | refine we_and ?_ | refine we_or ?_ | refine we_not ?_ | refine we_ifx ?_ | refine we_neg ?_ | refine we_slice ?_)
local macro_rules | `(tactic| walk_at "wb") => `(tactic| first | refine we_type (by walk_at "ing") (by walk_at "nb") boot_int ?_ | refine we_type (by walk_at "ing") (by walk_at "nb") boot_bool ?_ | refine we_type (by walk_at "ing") (by walk_at "nb") boot_str ?_ | refine we_type (by walk_at "ing") (by walk_at "nb") boot_tuple ?_)
local macro_rules | `(tactic| walk_at "wt") => `(tactic| first | refine wt_cmp ?_ rfl | refine wt_not ?_ | refine wt_chain ?_ rfl | refine wt_of ?_)
local macro_rules | `(tactic| walk_at "wto") => `(tactic| first | refine wto_and1 ?_ | refine wto_or1 ?_ | refine wto_and ?_ | refine wto_or ?_)
local macro_rules | `(tactic| walk_at "wo") => `(tactic| first
  | refine wo_add ?_ | refine wo_sub ?_ | refine wo_lt ?_ | refine wo_le ?_ | refine wo_gt ?_ | refine wo_ge ?_ | refine wo_eqI ?_ | refine wo_neI ?_ | refine wo_eqL ?_ | refine wo_neL ?_ | refine wo_lt1 ?_ | refine wo_le1 ?_ | refine wo_ge1 ?_ | refine wo_inL ?_ | refine wo_notInL ?_
  | refine wo_mod (by omega) ?_ | refine wo_fdiv ⟨by omega, by omega⟩ ?_ | refine wo_mul (by first | exact Or.inr ⟨by omega, by omega⟩ | exact Or.inl ⟨by omega, by omega⟩) ?_ | refine wo_pow ⟨by omega, by omega, by decide⟩ ?_
  | refine wo_isN (by intro _ h; cases h) ?_ | refine wo_notN (by intro _ h; cases h) ?_)
local macro_rules | `(tactic| walk_at "wc") => `(tactic| first
  | refine wc_len (by first | exact .tup _ | exact .lst _ | exact .bor _ | exact .loc rfl) ?_ | refine wc_int ?_ | refine wc_intB ?_ | refine wc_abs ?_ | refine wc_min2 rfl ?_ | refine wc_max2 rfl ?_ | refine wc_tuple (by first | exact .tup _ | exact .lst _ | exact .bor _ | exact .loc rfl) ?_)
local macro_rules | `(tactic| walk_at "e") => `(tactic| first
  | (with_reducible show WE _ _ _ _ _); walk_at "we"
  | (with_reducible show WT _ _ _ _ _); walk_at "wt"
  | (with_reducible show WTo _ _ _ _ _); walk_at "wto"
  | (with_reducible show WO _ _ _ _ _ _); walk_at "wo"
  | (with_reducible show WA _ _ _ _ _); first | refine wa_cons ?_ (fun _ => rfl) | refine wa_nil ?_
  | (with_reducible show WC _ _ _ _ _); walk_at "wc"
  | (with_reducible show WPO _ _ _ _ _); first | refine wpo_none ?_ | refine wpo_some ?_
  | refine asB_mk ?_ | refine wip_add ?_
  | refine ⟨_, rfl, (by first | decide | exact Nat.le_of_ble_eq_true rfl), ?_⟩)
local macro_rules | `(tactic| walk_at "ew") => `(tactic| ((try simp only [List.set_cons_zero, List.set_cons_succ]); repeat (first | exact EnvW.nil | refine EnvW.keep (by first | rfl | assumption) ?_ | refine EnvW.drop ?_)))
local macro_rules | `(tactic| walk_at "fl") => `(tactic| (refine ⟨_, _, fldL rfl (by repeat (first | with_reducible exact AtN.here | with_reducible apply AtN.there)) rfl, by assumption, NoA.at_ (by assumption) (by walk_at "ing"), ?_⟩))
local macro_rules | `(tactic| walk_at "fv") => `(tactic| (refine ⟨_, _, fldV (by repeat (first | with_reducible exact AtN.here | with_reducible apply AtN.there)) rfl, by assumption, NoA.at_ (by assumption) (by walk_at "ing"), ?_⟩))
def spPL : DSp := fun rs S Ψ _ => ∃ (zs : List Int) (m : Nat), rs = [.bor (zs.map .int), .val (iN m)] ∧ S = [] ∧ zs.length ≤ 63 ∧ m ≤ 1000 ∧ ∀ (J : List D) (ns : List Nat), ns.length = m → Ψ (.loc 1) [nl J, nN ns]
theorem modN (x : Int) : D.int (x % 2520) = iN (x % 2520).toNat := by
  show D.int _ = D.int _
  congr 1
  omega
theorem nN_snoc (ps : List Nat) (x : Int) : nl (ps.map iN ++ [D.int (x % 2520)]) = nN (ps ++ [(x % 2520).toNat]) := by rw [modN]; show _ = nl ((ps ++ _).map iN); rw [List.map_append]; rfl
theorem scPL : FnScope ["_law_script", "_law_many", "_law_pool_here", "_law_total", "_law_cell", "_law_rest", "_law_k", "_law_first", "_law_second"] ["_law_script", "_law_many"] (defScope (top 29)) := ⟨rfl, rfl, rfl, by decide +kernel, rfl, by decide +kernel, by decide +kernel⟩
theorem ok_pl {g : Gd} {f : Addr} {fd : FuncData} (F : FunD g.K "_law_pool" "_law_pool" (defArgs (top 29)) (defBody (top 29)) (defScope (top 29)) [] [] f fd) (hb : Binds g.K fd ["_law_script", "_law_many"] [])
    (hB : BltF g ["len", "int", "range", "abs", "min"]) : FnD g 1 f ["_law_script", "_law_many"] spPL := by
  refine fn_mk F hb scPL (gl := ["len", "int", "range", "abs", "min"]) [("_law_script", 0), ("_law_many", 1), ("_law_pool_here", 2), ("_law_total", 3), ("_law_cell", 4), ("_law_rest", 5), ("_law_k", 6), ("_law_first", 7), ("_law_second", 8)] (by decide +kernel) (by decide +kernel) (fun rs S Ψ ξ h => ?_) (fun rs S Ψ ξ h => ?_)
  · obtain ⟨_, _, rfl, _⟩ := h; rfl
  · obtain ⟨zs, m, rfl, rfl, hz, hm, hΨ⟩ := h
    refine wss_cons ?_
    walk_at "s"
    refine we_lstN ?_
    refine wa_nil ⟨[], rfl, by decide, ?_⟩
    refine wss_cons ?_
    walk_at "s"
    repeat walk_at "e"
    refine wss_cons ?_
    refine ws_for rfl ?_ (fun _ _ => rfl)
    refine wi_seq ?_
    repeat walk_at "e"
    refine ⟨_, .bor _, fun i env S' => ∃ (ps : List Nat) (t : Int), env = [some (.bor (zs.map .int)), some (.val (iN m)), some (.loc 0), some (.val (.int t)), none, none, none, none, none] ∧ S' = [nN ps] ∧ 0 ≤ t ∧ t < 1000003 ∧ ps.length ≤ i * 60, Nat.le_of_ble_eq_true rfl, ⟨[], 1, rfl, rfl, by omega, by omega, by simp⟩, fun _ _ _ _ => trivial, ?_, ?_⟩
    · rintro i d env' S' hd ⟨ps, t, rfl, rfl, ht0, ht, hps⟩
      rw [List.getElem?_map] at hd
      obtain ⟨z, hz1, rfl⟩ := Option.map_eq_some_iff.mp hd
      have hi : i < zs.length := (List.getElem?_eq_some_iff.mp hz1).1
      have hpl : ps.length ≤ 3720 := by omega
      refine wg_name (by walk_at "inv") ?_
      refine wss_cons ?_
      walk_at "s"
      repeat walk_at "e"
      generalize hr : (if z < 0 then -z else z) = r
      refine wss_cut (fun env S' => ∃ (qs : List Nat) (o5 o6 o7 o8 : Option R), env = [some (.bor (zs.map .int)), some (.val (iN m)), some (.loc 0), some (.val (.int t)), some (.val (.int z)), o5, o6, o7, o8] ∧ S' = [nN qs] ∧ qs.length ≤ (i + 1) * 60) ?_ ?_
      · refine ws_ifB ((10 : Int) ^ 18 ≤ r) ?_ (fun h => ?_) (fun h => ?_)
        · repeat walk_at "e"
          exact ⟨rfl, rfl⟩
        · refine wss_one ?_
          refine ws_for rfl ?_ (fun _ _ => rfl)
          refine wi_range1 (by walk_at "ing") (by walk_at "nb") ?_ (fun _ => rfl)
          repeat walk_at "e"
          rw [List.length_map]
          generalize hj : (if (m : Int) - (ps.length : Nat) < 60 then (m : Int) - (ps.length : Nat) else 60) = j
          have hj60 : j ≤ 60 ∧ -3720 ≤ j := by rw [← hj]; split <;> omega
          refine ⟨_, rfl, by omega, fun i2 env S' => ∃ (qs : List Nat) (r2 : Int), env = [some (.bor (zs.map .int)), some (.val (iN m)), some (.loc 0), some (.val (.int t)), some (.val (.int z)), some (.val (.int r2)), none, none, none] ∧ S' = [nN qs] ∧ qs.length ≤ ps.length + i2, Nat.le_of_ble_eq_true rfl, ⟨ps, r, rfl, rfl, by omega⟩, fun _ _ _ _ => trivial, ?_, ?_⟩
          · rintro i2 d env' S' hd2 ⟨qs, r2, rfl, rfl, hq⟩
            obtain ⟨hi2, rfl⟩ := rangeD_get hd2
            refine wg_name (by walk_at "inv") ?_
            refine wss_cons ?_
            walk_at "s"
            repeat walk_at "e"
            refine ⟨0, _, rfl, rfl, ?_⟩
            repeat walk_at "e"
            refine ⟨_, _, rfl, rfl, by simp [sizeLine_eq]; omega, ?_⟩
            refine wss_cons ?_
            walk_at "s"
            repeat walk_at "e"
            refine wss_one ?_
            refine ws_ifB (r2 / 2520 = 0) ?_ (fun h => ?_) (fun h => ?_)
            · repeat walk_at "e"
              exact ⟨rfl, rfl⟩
            · refine wss_one ?_
              walk_at "s"
              refine ⟨qs ++ [(r2 % 2520).toNat], _, _, _, _, rfl, ?_, ?_⟩
              · show [nl (qs.map iN ++ [D.int (r2 % 2520)])] = _
                rw [nN_snoc]
              · rw [List.length_append]; show qs.length + 1 ≤ _; omega
            · walk_at "s"
              dsimp only
              refine Wk.drop (env' := [some (.bor (zs.map .int)), some (.val (iN m)), some (.loc 0), some (.val (.int t)), some (.val (.int z)), some (.val (.int (r2 / 2520))), none, none, none]) ⟨qs ++ [(r2 % 2520).toNat], r2 / 2520, rfl, ?_, ?_⟩ (by walk_at "ew") (Nat.le_refl _) (by simp [okB_nl])
              · show [nl (qs.map iN ++ [D.int (r2 % 2520)])] = _
                rw [nN_snoc]
              · rw [List.length_append]; show qs.length + 1 ≤ _; omega
          · rintro env' S' ⟨qs, r2, rfl, rfl, hq⟩
            rw [rangeD_len] at hq
            exact ⟨qs, _, _, _, _, rfl, rfl, by omega⟩
        · have hzb : -(10 ^ 18) < z ∧ z < 10 ^ 18 := by rw [← hr] at h; split at h <;> omega
          refine wss_cons ?_
          walk_at "s"
          repeat walk_at "e"
          generalize hm1 : (_ : Int) % 2147483647 = m1
          have hb1 : 0 ≤ m1 ∧ m1 < 2147483647 := by omega
          refine wss_cons ?_
          walk_at "s"
          repeat walk_at "e"
          generalize hm2 : (_ : Int) % 2147483629 = m2
          have hb2 : 0 ≤ m2 ∧ m2 < 2147483647 := by omega
          refine wss_cons ?_
          walk_at "s"
          repeat walk_at "e"
          refine ⟨0, _, rfl, rfl, ?_⟩
          repeat walk_at "e"
          refine ⟨_, _, rfl, rfl, by simp [sizeLine_eq]; omega, ?_⟩
          refine wss_one ?_
          walk_at "s"
          repeat walk_at "e"
          refine ⟨0, _, rfl, rfl, ?_⟩
          repeat walk_at "e"
          refine ⟨_, _, rfl, rfl, by simp [sizeLine_eq]; omega, ?_⟩
          refine ⟨ps ++ [(m2 / 7 % 2520).toNat] ++ [((m2 * 16807 + m1) % 2147483587 % 2520).toNat], _, _, _, _, rfl, ?_, ?_⟩
          · show [nl (ps.map iN ++ [D.int (m2 / 7 % 2520)] ++ [D.int ((m2 * 16807 + m1) % 2147483587 % 2520)])] = _
            rw [modN, show ps.map iN ++ [iN (m2 / 7 % 2520).toNat] = (ps ++ [(m2 / 7 % 2520).toNat]).map iN by rw [List.map_append]; rfl, nN_snoc]
          · rw [List.length_append, List.length_append]; show ps.length + 1 + 1 ≤ _; omega
      · rintro env' S' ⟨qs, o5, o6, o7, o8, rfl, rfl, hq⟩
        refine wss_one ?_
        walk_at "s"
        repeat walk_at "e"
        dsimp only
        refine Wk.drop (env' := [some (.bor (zs.map .int)), some (.val (iN m)), some (.loc 0), some (.val (.int ((t * 263 + z) % 1000003))), none, none, none, none, none]) ⟨qs, _, rfl, rfl, by omega, by omega, hq⟩ (by walk_at "ew") (Nat.le_refl _) (by simp [okB_nl])
    · rintro env' S' ⟨ps, t, rfl, rfl, ht0, ht, hps⟩
      rw [List.length_map] at hps
      refine wss_cons ?_
      refine ws_for rfl ?_ (fun _ _ => rfl)
      refine wi_range1 (by walk_at "ing") (by walk_at "nb") ?_ (fun _ => rfl)
      repeat walk_at "e"
      refine ⟨_, rfl, by omega, fun i env S' => ∃ (qs : List Nat) (t : Int), env = [some (.bor (zs.map .int)), some (.val (iN m)), some (.loc 0), some (.val (.int t)), none, none, none, none, none] ∧ S' = [nN qs] ∧ 0 ≤ t ∧ t < 2147483647 ∧ qs.length = ps.length + i, Nat.le_of_ble_eq_true rfl, ⟨ps, t, rfl, rfl, by omega, by omega, rfl⟩, fun _ _ _ _ => trivial, ?_, ?_⟩
      · rintro i d env' S' hd ⟨qs, t, rfl, rfl, ht0, ht, hq⟩
        obtain ⟨hi, rfl⟩ := rangeD_get hd
        refine wg_name (by walk_at "inv") ?_
        refine wss_cons ?_
        walk_at "s"
        repeat walk_at "e"
        generalize hm1 : (_ : Int) % 2147483647 = m1
        have hb1 : 0 ≤ m1 ∧ m1 < 2147483647 := by omega
        refine wss_one ?_
        walk_at "s"
        repeat walk_at "e"
        refine ⟨0, _, rfl, rfl, ?_⟩
        repeat walk_at "e"
        refine ⟨_, _, rfl, rfl, by simp [sizeLine_eq]; omega, ?_⟩
        dsimp only
        refine Wk.drop (env' := [some (.bor (zs.map .int)), some (.val (iN m)), some (.loc 0), some (.val (.int m1)), none, none, none, none, none]) ⟨qs ++ [(m1 / 5 % 2520).toNat], _, rfl, ?_, by omega, by omega, ?_⟩ (by walk_at "ew") (Nat.le_refl _) (by simp [okB_nl])
        · show [nl (qs.map iN ++ [D.int (m1 / 5 % 2520)])] = _
          rw [nN_snoc]
        · rw [List.length_append]; show qs.length + 1 = _; omega
      · rintro env' S' ⟨qs, t, rfl, rfl, ht0, ht, hq⟩
        rw [rangeD_len] at hq
        refine wss_cons ?_
        walk_at "s"
        repeat walk_at "e"
        refine ⟨_, rfl, ?_⟩
        refine wsl_lst (.loc rfl) ?_
        rw [show (some (m : Int)) = some ((m : Nat) : Int) from rfl, cutA_tk, ← List.map_take]
        refine wss_cons ?_
        refine ws_expr ?_ (fun _ => rfl)
        refine we_reverse ?_ (fun _ => rfl) rfl
        walk_at "e"
        refine ⟨1, _, rfl, rfl, ?_⟩
        refine wss_one ?_
        walk_at "s"
        repeat walk_at "e"
        show RetC _ _ _ [nN qs, nl ((qs.take m).map iN).reverse]
        rw [← List.map_reverse]
        refine RetC.now (Nat.zero_le _) ?_ rfl (hΨ _ _ (by simp; omega))
        simp [okB_nl]
end DL
set_option Elab.async false
set_option linter.all false
set_option maxRecDepth 100000
set_option maxHeartbeats 4000000
namespace DL
open PySem PySem.Spec PyProof.Rows
open L2 hiding Takes passAt takes_of ps_raise PMk ps_try_as
open L2N (Takes passAt takes_of ps_raise PMk ps_try_as)
local macro_rules | `(tactic| walk_at "inv") => `(tactic| ((try dsimp only); repeat (first | with_reducible exact InV.here | with_reducible apply InV.there)))
local macro_rules | `(tactic| walk_at "ing") => `(tactic| ((try dsimp only); repeat (first | with_reducible exact InG.here | with_reducible apply InG.there)))
local macro_rules | `(tactic| walk_at "nb") => `(tactic| first | assumption | (dsimp only; refine BltF.at_ (by assumption) ?_; repeat (first | with_reducible exact InG.here | with_reducible apply InG.there)))
local macro_rules | `(tactic| walk_at "s") => `(tactic| first
  | refine wss_cons ?_ | refine wss_nil ?_ | refine ws_set (by walk_at "inv") ?_ (fun _ => rfl) | refine ws_if ?_ | refine ws_ret ?_ | refine ws_aug (by walk_at "inv") rfl ?_
  | refine ws_expr ?_ (fun _ => rfl) | refine ws_pass ?_ | refine ws_break ?_ | refine ws_cont ?_ | refine ws_retN ?_
  | refine ws_setA ?_ (fun _ => rfl) | refine ws_put ?_ (fun _ => rfl) | refine ws_asg ?_ (fun _ => rfl) (fun _ => rfl) (fun _ => rfl))
local macro_rules | `(tactic| walk_at "we") => `(tactic| first
  | refine we_name (by walk_at "inv") rfl ?_ | refine we_int ?_ | refine we_op ?_ | refine we_str ?_
  | refine we_callB (by walk_at "ing") (by walk_at "nb") (by first | exact PySem.boot_len | exact boot_abs | exact boot_min | exact boot_max | exact boot_sorted | exact boot_isinstance) ?_ (fun _ => rfl) (fun _ => rfl)
  | refine we_callT (by walk_at "ing") (by walk_at "nb") (by first | exact boot_tuple | exact boot_list | exact boot_int) ?_ (fun _ => rfl) (fun _ => rfl)
  | refine we_attr ?_ (fun _ => rfl) | refine we_ix ?_ (fun _ _ => rfl) | refine we_tup ?_
  | refine we_append ?_ (fun _ => rfl) (fun _ => rfl) rfl (fun _ => rfl) (fun _ => rfl)
  | refine we_bl ?_ | refine we_non ?_ | refine we_chain ?_ rfl | refine we_cmp ?_ rfl | refine we_one ?_ | refine we_and ?_ | refine we_or ?_ | refine we_not ?_ | refine we_ifx ?_ | refine we_neg ?_ | refine we_slice ?_)
local macro_rules | `(tactic| walk_at "wb") => `(tactic| first | refine we_type (by walk_at "ing") (by walk_at "nb") boot_int ?_ | refine we_type (by walk_at "ing") (by walk_at "nb") boot_bool ?_ | refine we_type (by walk_at "ing") (by walk_at "nb") boot_str ?_ | refine we_type (by walk_at "ing") (by walk_at "nb") boot_tuple ?_)
local macro_rules | `(tactic| walk_at "wt") => `(tactic| first | refine wt_cmp ?_ rfl | refine wt_not ?_ | refine wt_chain ?_ rfl | refine wt_of ?_)
local macro_rules | `(tactic| walk_at "wto") => `(tactic| first | refine wto_and1 ?_ | refine wto_or1 ?_ | refine wto_and ?_ | refine wto_or ?_)
local macro_rules | `(tactic| walk_at "wo") => `(tactic| first
  | refine wo_add ?_ | refine wo_sub ?_ | refine wo_lt ?_ | refine wo_le ?_ | refine wo_gt ?_ | refine wo_ge ?_ | refine wo_eqI ?_ | refine wo_neI ?_ | refine wo_eqL ?_ | refine wo_neL ?_ | refine wo_lt1 ?_ | refine wo_le1 ?_ | refine wo_ge1 ?_ | refine wo_inL ?_ | refine wo_notInL ?_
  | refine wo_mod (by omega) ?_ | refine wo_fdiv ⟨by omega, by omega⟩ ?_ | refine wo_mul (by first | exact Or.inr ⟨by omega, by omega⟩ | exact Or.inl ⟨by omega, by omega⟩) ?_ | refine wo_pow ⟨by omega, by omega, by decide⟩ ?_
  | refine wo_isN (by intro _ h; cases h) ?_ | refine wo_notN (by intro _ h; cases h) ?_)
local macro_rules | `(tactic| walk_at "wc") => `(tactic| first
  | refine wc_len (by first | exact .tup _ | exact .lst _ | exact .bor _ | exact .loc rfl) ?_ | refine wc_int ?_ | refine wc_intB ?_ | refine wc_abs ?_ | refine wc_min2 rfl ?_ | refine wc_max2 rfl ?_ | refine wc_tuple (by first | exact .tup _ | exact .lst _ | exact .bor _ | exact .loc rfl) ?_)
local macro_rules | `(tactic| walk_at "e") => `(tactic| first
  | (with_reducible show WE _ _ _ _ _); walk_at "we"
  | (with_reducible show WT _ _ _ _ _); walk_at "wt"
  | (with_reducible show WTo _ _ _ _ _); walk_at "wto"
  | (with_reducible show WO _ _ _ _ _ _); walk_at "wo"
  | (with_reducible show WA _ _ _ _ _); first | refine wa_cons ?_ (fun _ => rfl) | refine wa_nil ?_
  | (with_reducible show WC _ _ _ _ _); walk_at "wc"
  | (with_reducible show WPO _ _ _ _ _); first | refine wpo_none ?_ | refine wpo_some ?_
  | refine asB_mk ?_ | refine wip_add ?_
  | refine ⟨_, rfl, (by first | decide | exact Nat.le_of_ble_eq_true rfl), ?_⟩)
local macro_rules | `(tactic| walk_at "ew") => `(tactic| ((try simp only [List.set_cons_zero, List.set_cons_succ]); repeat (first | exact EnvW.nil | refine EnvW.keep (by first | rfl | assumption) ?_ | refine EnvW.drop ?_)))
local macro_rules | `(tactic| walk_at "fl") => `(tactic| (refine ⟨_, _, fldL rfl (by repeat (first | with_reducible exact AtN.here | with_reducible apply AtN.there)) rfl, by assumption, NoA.at_ (by assumption) (by walk_at "ing"), ?_⟩))
local macro_rules | `(tactic| walk_at "fv") => `(tactic| (refine ⟨_, _, fldV (by repeat (first | with_reducible exact AtN.here | with_reducible apply AtN.there)) rfl, by assumption, NoA.at_ (by assumption) (by walk_at "ing"), ?_⟩))
/-! ### joined from left to right, the last one of the new row looked at -/
def stp (a b c : Nat) (out : List Nat) (p : Nat) : List Nat := if out.getLast? = some a ∧ p = b then out.dropLast ++ [c] else out ++ [p]
theorem stp_put {a b c : Nat} (hc : a ≠ c) : ∀ (rest out : List Nat) (z : Nat), rest.foldl (stp a b c) (out ++ [z]) = out ++ putT a b c (z :: rest) := by
  intro rest
  induction rest with
  | nil => intro out z; simp [putT]
  | cons p r ih =>
    intro out z
    rw [List.foldl_cons]
    by_cases h : z = a ∧ p = b
    · have e : stp a b c (out ++ [z]) p = out ++ [c] := by
        unfold stp
        rw [if_pos ⟨by simp [h.1], h.2⟩, List.dropLast_concat]
      rw [e, ih]
      have e2 : putT a b c (z :: p :: r) = c :: putT a b c r := by rw [putT, if_pos h]
      rw [e2]
      cases r with
      | nil => simp [putT]
      | cons y r => rw [show putT a b c (c :: y :: r) = c :: putT a b c (y :: r) by rw [putT, if_neg (fun h => hc h.1.symm)]]
    · have e : stp a b c (out ++ [z]) p = out ++ [z] ++ [p] := by
        unfold stp
        rw [if_neg]
        rintro ⟨h1, h2⟩
        exact h ⟨by simpa using h1, h2⟩
      rw [e, ih]
      have e2 : putT a b c (z :: p :: r) = z :: putT a b c (p :: r) := by rw [putT, if_neg h]
      rw [e2]; simp
theorem stp_all {a b c : Nat} (hc : a ≠ c) (row : List Nat) : row.foldl (stp a b c) [] = putT a b c row := by
  cases row with
  | nil => simp [putT]
  | cons x r =>
    rw [List.foldl_cons, show stp a b c [] x = [] ++ [x] by simp [stp], stp_put hc]
    simp
def LtW (n : Nat) (P : List Pr) : Prop := ∀ r (h : r < P.length), P[r].1 < n + r
def spS2 : DSp := fun rs S Ψ _ => ∃ (rP : R) (P : List Pr) (row : List Nat) (n m : Nat), rs = [rP, .val (iN n), .val (.lst (row.map iN)), .val (iN m)] ∧ S = [] ∧ SeqD [] rP (P.map pN) ∧ row.length ≤ 100000 ∧ P.length ≤ 100000 ∧ m ≤ P.length ∧ LtW n P ∧ Ψ (.val (.lst ((stg n (P.take m) row).map iN))) []
theorem fnc_S2 {C : DC} {env : Nv} {S : Sto} {Ψ : R → Sto → Prop} {rP : R} {P : List Pr} {row : List Nat} {n m : Nat} (hd : SeqD S rP (P.map pN)) (hl : row.length ≤ 100000) (hP : P.length ≤ 100000) (hm : m ≤ P.length) (hw : LtW n P) (h : Ψ (.val (.lst ((stg n (P.take m) row).map iN))) S) : FnC C spS2 [rP, .val (iN n), .val (.lst (row.map iN)), .val (iN m)] env S Ψ := by
  obtain ⟨r', h1, h2⟩ := passSeq hd
  refine ⟨[], [], _, PassS.nil, .cons h1 (.cons (.val _) (.cons (.val _) (.cons (.val _) .nil))), r', P, row, n, m, rfl, rfl, h2, hl, hP, hm, hw, ?_⟩
  show Ψ (.val _) (backS [] S [])
  rw [backS_nil]; exact h
theorem scS2 : FnScope ["_law_pairs_here", "_law_letters", "_law_row", "_law_many", "_law_rank", "_law_out", "_law_piece"] ["_law_pairs_here", "_law_letters", "_law_row", "_law_many"] (defScope (top 32)) := ⟨rfl, rfl, rfl, by decide +kernel, rfl, by decide +kernel, by decide +kernel⟩
theorem ok_s2 {g : Gd} {f : Addr} {fd : FuncData} (F : FunD g.K "_law_staged" "_law_staged" (defArgs (top 32)) (defBody (top 32)) (defScope (top 32)) [] [] f fd) (hb : Binds g.K fd ["_law_pairs_here", "_law_letters", "_law_row", "_law_many"] [])
    (hB : BltF g ["len", "range", "list"]) : FnD g 1 f ["_law_pairs_here", "_law_letters", "_law_row", "_law_many"] spS2 := by
  refine fn_mk F hb scS2 (gl := ["len", "range", "list"]) [("_law_pairs_here", 0), ("_law_letters", 1), ("_law_row", 2), ("_law_many", 3), ("_law_rank", 4), ("_law_out", 5), ("_law_piece", 6)] (by decide +kernel) (by decide +kernel) (fun rs S Ψ ξ h => ?_) (fun rs S Ψ ξ h => ?_)
  · obtain ⟨_, _, _, _, _, rfl, _⟩ := h; rfl
  · obtain ⟨rP, P, row, n, m, rfl, rfl, hP, hl, hPl, hm, hw, hΨ⟩ := h
    have hok := seqOk (n := 0) hP
    have hok1 := seqOk (n := 1) hP
    refine wss_cons ?_
    refine ws_for rfl ?_ (fun _ _ => rfl)
    refine wi_range1 (by walk_at "ing") (by walk_at "nb") ?_ (fun _ => rfl)
    repeat walk_at "e"
    refine ⟨_, rfl, by omega, fun i env S' => env = [some rP, some (.val (iN n)), some (.val (.lst ((stg n (P.take i) row).map iN))), some (.val (iN m)), none, none, none] ∧ S' = [], Nat.le_refl _, ⟨rfl, rfl⟩, fun _ _ _ _ => trivial, ?_, ?_⟩
    · rintro i d env' S' hd ⟨rfl, rfl⟩
      obtain ⟨hi, rfl⟩ := rangeD_get hd
      have hi0 : i < P.length := by omega
      have him : i < m := by omega
      have exP : P[i]? = some P[i] := by simp [hi0]
      have hrl : (stg n (P.take i) row).length ≤ 100000 := Nat.le_trans (stg_len _ _ _) hl
      generalize hro : stg n (P.take i) row = ro at *
      refine wg_name (by walk_at "inv") ?_
      refine wss_cons ?_
      walk_at "s"
      refine we_lstN ?_
      refine wa_nil ⟨[], rfl, by decide, ?_⟩
      refine wss_cons ?_
      refine ws_for rfl ?_ (fun _ _ => rfl)
      refine wi_seq ?_
      refine we_callT (by walk_at "ing") (by walk_at "nb") boot_list ?_ (fun _ => rfl) (fun _ => rfl)
      refine wa_cons ?_ (fun _ => rfl)
      walk_at "e"
      refine wa_nil ?_
      refine wc_listF (.lst _) ?_
      refine ⟨_, .lst _, fun j env S' => env = [some rP, some (.val (iN n)), some (.val (.lst (ro.map iN))), some (.val (iN m)), some (.val (.int (0 + (i : Int)))), some (.loc 0), none] ∧ S' = [nN ((ro.take j).foldl (stp P[i].1 P[i].2 (n + i)) [])] ∧ ((ro.take j).foldl (stp P[i].1 P[i].2 (n + i)) []).length ≤ j, Nat.le_of_ble_eq_true rfl, ⟨rfl, rfl, by simp⟩, fun _ _ _ _ => trivial, ?_, ?_⟩
      · rintro j d env' S' hd ⟨rfl, rfl, hal⟩
        rw [List.getElem?_map] at hd
        obtain ⟨p, hp, rfl⟩ := Option.map_eq_some_iff.mp hd
        have hj := (List.getElem?_eq_some_iff.mp hp).1
        have enx : (ro.take (j + 1)).foldl (stp P[i].1 P[i].2 (n + i)) [] = stp P[i].1 P[i].2 (n + i) ((ro.take j).foldl (stp P[i].1 P[i].2 (n + i)) []) p := by
          rw [List.take_add_one, hp, List.foldl_append]; rfl
        generalize hac : (ro.take j).foldl (stp P[i].1 P[i].2 (n + i)) [] = acc at *
        refine wg_name (by walk_at "inv") ?_
        refine wss_one ?_
        refine ws_ifB (acc.getLast? = some P[i].1 ∧ p = P[i].2) ?_ (fun h => ?_) (fun h => ?_)
        · refine wt_of ?_
          refine wto_and ?_
          repeat walk_at "e"
          rw [List.length_map]
          refine ⟨fun h0 => ?_, fun h0 => ?_⟩
          · have hne : acc ≠ [] := by rintro rfl; simp at h0
            obtain ⟨M, z, rfl⟩ : ∃ M z, acc = M ++ [z] := ⟨acc.dropLast, acc.getLast hne, (List.dropLast_concat_getLast hne).symm⟩
            refine wto_and ?_
            repeat walk_at "e"
            refine wix_F (g := pN) (seqE hP) (j := i) (c := P[i]) (by omega) exP ?_
            repeat walk_at "e"
            refine wix_seq (.tup _) (d := iN P[i].2) rfl ?_
            repeat walk_at "e"
            refine ⟨fun h1 => ?_, fun h1 => ?_⟩
            · have h1 : p = P[i].2 := by have := of_decide_eq_true h1; omega
              refine wto_and1 ?_
              repeat walk_at "e"
              refine ⟨_, rfl, ?_⟩
              refine wix_seq (.loc rfl) (d := iN z) (atI_last (k := 0) (by omega) (by simp) (by simp)) ?_
              repeat walk_at "e"
              refine wix_F (g := pN) (seqE hP) (j := i) (c := P[i]) (by omega) exP ?_
              repeat walk_at "e"
              refine wix_seq (.tup _) (d := iN P[i].1) rfl ?_
              repeat walk_at "e"
              refine ⟨decide_eq_decide.mpr ?_, rfl⟩
              rw [List.getLast?_concat]
              constructor
              · intro h2; exact ⟨by rw [show z = P[i].1 by omega], h1⟩
              · rintro ⟨h2, _⟩
                have := Option.some.inj h2
                omega
            · have h1 : ¬ p = P[i].2 := by have := of_decide_eq_false h1; omega
              exact ⟨(decide_eq_false fun h => h1 h.2).symm, rfl⟩
          · have h0 : acc = [] := by have := of_decide_eq_false h0; exact List.length_eq_zero_iff.mp (by omega)
            refine ⟨(decide_eq_false fun h => ?_).symm, rfl⟩
            rw [h0] at h; exact absurd h.1 (by simp)
        · obtain ⟨M, z, rfl⟩ : ∃ M z, acc = M ++ [z] := by
            have hne : acc ≠ [] := by rintro rfl; simp at h
            exact ⟨acc.dropLast, acc.getLast hne, (List.dropLast_concat_getLast hne).symm⟩
          have ea : stp P[i].1 P[i].2 (n + i) (M ++ [z]) p = M ++ [n + i] := by
            unfold stp
            rw [if_pos h, List.dropLast_concat]
          rw [ea] at enx
          refine wss_one ?_
          refine ws_asg ?_ (fun _ => rfl) (fun _ => rfl) (fun _ => rfl)
          repeat walk_at "e"
          refine wg_subL ?_ (fun _ _ => rfl)
          repeat walk_at "e"
          refine ⟨_, rfl, ?_⟩
          have e9 : D.int ((n : Int) + (0 + (i : Int))) = iN (n + i) := by congr 1; omega
          refine ⟨0, (M ++ [z]).map iN, _, M.length, rfl, rfl, rfl, ?_, ?_⟩
          · rw [List.length_map, List.length_append]
            show ixN (M.length + 1) (-1) = some M.length
            unfold ixN
            rw [if_neg (by omega), if_pos (by omega)]
            congr 1
            omega
          · dsimp only
            have e8 : nl (((M ++ [z]).map iN).set M.length (D.int ((n : Int) + (0 + (i : Int))))) = nN (M ++ [n + i]) := by
              rw [e9]
              show nl _ = nl _
              congr 1
              simp
            show Wk _ _ _ [nl (((M ++ [z]).map iN).set M.length (D.int ((n : Int) + (0 + (i : Int)))))]
            rw [e8]
            refine Wk.drop (env' := [some rP, some (.val (iN n)), some (.val (.lst (ro.map iN))), some (.val (iN m)), some (.val (.int (0 + (i : Int)))), some (.loc 0), none]) ⟨rfl, by rw [enx], ?_⟩ (by walk_at "ew") (Nat.le_refl _) (by simp [okB_nl])
            rw [enx]
            simp at hal ⊢
            omega
        · refine wss_one ?_
          walk_at "s"
          repeat walk_at "e"
          refine ⟨0, _, rfl, rfl, ?_⟩
          repeat walk_at "e"
          refine ⟨_, _, rfl, rfl, by simp [sizeLine_eq]; omega, ?_⟩
          have ea : stp P[i].1 P[i].2 (n + i) acc p = acc ++ [p] := by
            unfold stp
            rw [if_neg h]
          rw [ea] at enx
          dsimp only
          show Wk _ _ _ [nl (acc.map iN ++ [iN p])]
          rw [show nl (acc.map iN ++ [iN p]) = nN (acc ++ [p]) by show _ = nl ((acc ++ [p]).map iN); rw [List.map_append]; rfl]
          refine Wk.drop (env' := [some rP, some (.val (iN n)), some (.val (.lst (ro.map iN))), some (.val (iN m)), some (.val (.int (0 + (i : Int)))), some (.loc 0), none]) ⟨rfl, by rw [enx], ?_⟩ (by walk_at "ew") (Nat.le_refl _) (by simp [okB_nl])
          rw [enx, List.length_append]
          show acc.length + 1 ≤ _
          omega
      · rintro env' S' ⟨rfl, rfl, hal⟩
        rw [List.length_map, List.take_length, stp_all (by have := hw i hi0; omega)] at hal ⊢
        refine wss_one ?_
        walk_at "s"
        repeat walk_at "e"
        dsimp only
        have e2 : (P.take i).length = i := by rw [List.length_take]; omega
        refine Wk.cut (S := []) (T := [nN (putT P[i].1 P[i].2 (n + i) ro)]) (env' := [some rP, some (.val (iN n)), some (.val (.lst ((putT P[i].1 P[i].2 (n + i) ro).map iN))), some (.val (iN m)), none, none, none]) ⟨?_, rfl⟩ (.keep (by assumption) (.keep rfl (.fix (.lst (Nat.zero_le _) rfl (FzL.vals _)) (.keep rfl (.drop (.drop (.drop .nil))))))) (Nat.le_refl _) rfl
        rw [take_snoc hi0, stg_snoc, e2, hro]
    · rintro env' S' ⟨rfl, rfl⟩
      refine wss_one ?_
      walk_at "s"
      walk_at "e"
      refine RetC.now (Nat.le_refl _) rfl rfl ?_
      rw [rangeD_len]
      exact hΨ
end DL
set_option Elab.async false
set_option linter.all false
set_option maxRecDepth 100000
set_option maxHeartbeats 4000000
namespace DL
open PySem PySem.Spec PyProof.Rows
open L2 hiding Takes passAt takes_of ps_raise PMk ps_try_as
open L2N (Takes passAt takes_of ps_raise PMk ps_try_as)
local macro_rules | `(tactic| walk_at "inv") => `(tactic| ((try dsimp only); repeat (first | with_reducible exact InV.here | with_reducible apply InV.there)))
local macro_rules | `(tactic| walk_at "ing") => `(tactic| ((try dsimp only); repeat (first | with_reducible exact InG.here | with_reducible apply InG.there)))
local macro_rules | `(tactic| walk_at "nb") => `(tactic| first | assumption | (dsimp only; refine BltF.at_ (by assumption) ?_; repeat (first | with_reducible exact InG.here | with_reducible apply InG.there)))
local macro_rules | `(tactic| walk_at "s") => `(tactic| first
  | refine wss_cons ?_ | refine wss_nil ?_ | refine ws_set (by walk_at "inv") ?_ (fun _ => rfl) | refine ws_if ?_ | refine ws_ret ?_ | refine ws_aug (by walk_at "inv") rfl ?_
  | refine ws_expr ?_ (fun _ => rfl) | refine ws_pass ?_ | refine ws_break ?_ | refine ws_cont ?_ | refine ws_retN ?_
  | refine ws_setA ?_ (fun _ => rfl) | refine ws_put ?_ (fun _ => rfl) | refine ws_asg ?_ (fun _ => rfl) (fun _ => rfl) (fun _ => rfl))
local macro_rules | `(tactic| walk_at "we") => `(tactic| first
  | refine we_name (by walk_at "inv") rfl ?_ | refine we_int ?_ | refine we_op ?_ | refine we_str ?_
  | refine we_callB (by walk_at "ing") (by walk_at "nb") (by first | exact PySem.boot_len | exact boot_abs | exact boot_min | exact boot_max | exact boot_sorted | exact boot_isinstance) ?_ (fun _ => rfl) (fun _ => rfl)
  | refine we_callT (by walk_at "ing") (by walk_at "nb") (by first | exact boot_tuple | exact boot_list | exact boot_int) ?_ (fun _ => rfl) (fun _ => rfl)
  | refine we_attr ?_ (fun _ => rfl) | refine we_ix ?_ (fun _ _ => rfl) | refine we_tup ?_
  | refine we_append ?_ (fun _ => rfl) (fun _ => rfl) rfl (fun _ => rfl) (fun _ => rfl)
  | refine we_bl ?_ | refine we_non ?_ | refine we_chain ?_ rfl | refine we_cmp ?_ rfl | refine we_one ?_ | refine we_and ?_ | refine we_or ?_ | refine we_not ?_ | refine we_ifx ?_ | refine we_neg ?_ | refine we_slice ?_)
local macro_rules | `(tactic| walk_at "wb") => `(tactic| first | refine we_type (by walk_at "ing") (by walk_at "nb") boot_int ?_ | refine we_type (by walk_at "ing") (by walk_at "nb") boot_bool ?_ | refine we_type (by walk_at "ing") (by walk_at "nb") boot_str ?_ | refine we_type (by walk_at "ing") (by walk_at "nb") boot_tuple ?_)
local macro_rules | `(tactic| walk_at "wt") => `(tactic| first | refine wt_cmp ?_ rfl | refine wt_not ?_ | refine wt_chain ?_ rfl | refine wt_of ?_)
local macro_rules | `(tactic| walk_at "wto") => `(tactic| first | refine wto_and1 ?_ | refine wto_or1 ?_ | refine wto_and ?_ | refine wto_or ?_)
local macro_rules | `(tactic| walk_at "wo") => `(tactic| first
  | refine wo_add ?_ | refine wo_sub ?_ | refine wo_lt ?_ | refine wo_le ?_ | refine wo_gt ?_ | refine wo_ge ?_ | refine wo_eqI ?_ | refine wo_neI ?_ | refine wo_eqL ?_ | refine wo_neL ?_ | refine wo_lt1 ?_ | refine wo_le1 ?_ | refine wo_ge1 ?_ | refine wo_inL ?_ | refine wo_notInL ?_
  | refine wo_mod (by omega) ?_ | refine wo_fdiv ⟨by omega, by omega⟩ ?_ | refine wo_mul (by first | exact Or.inr ⟨by omega, by omega⟩ | exact Or.inl ⟨by omega, by omega⟩) ?_ | refine wo_pow ⟨by omega, by omega, by decide⟩ ?_
  | refine wo_isN (by intro _ h; cases h) ?_ | refine wo_notN (by intro _ h; cases h) ?_)
local macro_rules | `(tactic| walk_at "wc") => `(tactic| first
  | refine wc_len (by first | exact .tup _ | exact .lst _ | exact .bor _ | exact .loc rfl) ?_ | refine wc_int ?_ | refine wc_intB ?_ | refine wc_abs ?_ | refine wc_min2 rfl ?_ | refine wc_max2 rfl ?_ | refine wc_tuple (by first | exact .tup _ | exact .lst _ | exact .bor _ | exact .loc rfl) ?_)
local macro_rules | `(tactic| walk_at "e") => `(tactic| first
  | (with_reducible show WE _ _ _ _ _); walk_at "we"
  | (with_reducible show WT _ _ _ _ _); walk_at "wt"
  | (with_reducible show WTo _ _ _ _ _); walk_at "wto"
  | (with_reducible show WO _ _ _ _ _ _); walk_at "wo"
  | (with_reducible show WA _ _ _ _ _); first | refine wa_cons ?_ (fun _ => rfl) | refine wa_nil ?_
  | (with_reducible show WC _ _ _ _ _); walk_at "wc"
  | (with_reducible show WPO _ _ _ _ _); first | refine wpo_none ?_ | refine wpo_some ?_
  | refine asB_mk ?_ | refine wip_add ?_
  | refine ⟨_, rfl, (by first | decide | exact Nat.le_of_ble_eq_true rfl), ?_⟩)
local macro_rules | `(tactic| walk_at "ew") => `(tactic| ((try simp only [List.set_cons_zero, List.set_cons_succ]); repeat (first | exact EnvW.nil | refine EnvW.keep (by first | rfl | assumption) ?_ | refine EnvW.drop ?_)))
local macro_rules | `(tactic| walk_at "fl") => `(tactic| (refine ⟨_, _, fldL rfl (by repeat (first | with_reducible exact AtN.here | with_reducible apply AtN.there)) rfl, by assumption, NoA.at_ (by assumption) (by walk_at "ing"), ?_⟩))
local macro_rules | `(tactic| walk_at "fv") => `(tactic| (refine ⟨_, _, fldV (by repeat (first | with_reducible exact AtN.here | with_reducible apply AtN.there)) rfl, by assumption, NoA.at_ (by assumption) (by walk_at "ing"), ?_⟩))
def spC2 : DSp := fun rs S Ψ _ => ∃ (rP : R) (P : List Pr) (l t : List Nat), rs = [rP, .val (sL l), .val (sL t)] ∧ S = [] ∧ SeqD [] rP (P.map pN) ∧ l.length ≤ 100000 ∧ t.length ≤ 100000 ∧ P.length ≤ 100000 ∧ LtW l.length P ∧ (∀ c ∈ t, c ∈ l) ∧ Ψ (.val (.lst ((stg l.length P (rowL l t)).map iN))) []
theorem fnc_C2 {C : DC} {env : Nv} {S : Sto} {Ψ : R → Sto → Prop} {rP : R} {P : List Pr} {l t : List Nat} (hd : SeqD S rP (P.map pN)) (hl : l.length ≤ 100000) (ht : t.length ≤ 100000) (hP : P.length ≤ 100000) (hw : LtW l.length P) (hc : ∀ c ∈ t, c ∈ l) (h : Ψ (.val (.lst ((stg l.length P (rowL l t)).map iN))) S) : FnC C spC2 [rP, .val (sL l), .val (sL t)] env S Ψ := by
  obtain ⟨r', h1, h2⟩ := passSeq hd
  refine ⟨[], [], _, PassS.nil, .cons h1 (.cons (.val _) (.cons (.val _) .nil)), r', P, l, t, rfl, rfl, h2, hl, ht, hP, hw, hc, ?_⟩
  show Ψ (.val _) (backS [] S [])
  rw [backS_nil]; exact h
theorem scC2 : FnScope ["_law_pairs_here", "_law_alphabet_here", "_law_text", "_law_sign"] ["_law_pairs_here", "_law_alphabet_here", "_law_text"] (defScope (top 33)) := ⟨rfl, rfl, rfl, by decide +kernel, rfl, by decide +kernel, by decide +kernel⟩
theorem ok_c2 {g : Gd} {f f1 : Addr} {fd : FuncData} (F : FunD g.K "_law_cut" "_law_cut" (defArgs (top 33)) (defBody (top 33)) (defScope (top 33)) [] [] f fd) (hb : Binds g.K fd ["_law_pairs_here", "_law_alphabet_here", "_law_text"] [])
    (hB : BltF g ["len"]) (GS2 : FnD g 1 f1 ["_law_pairs_here", "_law_letters", "_law_row", "_law_many"] spS2) (mS2 : g.mg "_law_staged" = some (.ref f1)) : FnD g 2 f ["_law_pairs_here", "_law_alphabet_here", "_law_text"] spC2 := by
  refine fn_mk F hb scC2 (gl := ["len", "_law_staged"]) [("_law_pairs_here", 0), ("_law_alphabet_here", 1), ("_law_text", 2)] (by decide +kernel) (by decide +kernel) (fun rs S Ψ ξ h => ?_) (fun rs S Ψ ξ h => ?_)
  · obtain ⟨_, _, _, _, rfl, _⟩ := h; rfl
  · obtain ⟨rP, P, l, t, rfl, rfl, hP, hl, ht, hPl, hw, hc, hΨ⟩ := h
    have hok := seqOk (n := 0) hP
    refine wss_one ?_
    walk_at "s"
    refine we_call GS2 (by walk_at "ing") mS2 (Nat.le_of_ble_eq_true rfl) rfl ?_ (fun _ => rfl) (fun _ => rfl)
    repeat walk_at "e"
    refine wc_lenL (by rw [sizeLine_eq]; omega) ?_
    refine wa_cons ?_ (fun _ => rfl)
    refine we_settle ?_
    refine we_lc [("_law_sign", 3)] [("_law_alphabet_here", 1), ("_law_sign", 3)] [("_law_sign", 3)] [] (by dsimp only; decide +kernel) rfl ?_ (fun _ _ => rfl)
    refine wi_strL ?_
    walk_at "e"
    refine ⟨t, rfl, fun i S' => S' = [nl ((rowL l (t.take i)).map iN)], rfl, fun _ S' _ => trivial, ?_, ?_⟩
    · rintro i d S' hd rfl
      rw [List.getElem?_map] at hd
      obtain ⟨c, hc2, rfl⟩ := Option.map_eq_some_iff.mp hd
      have hi := (List.getElem?_eq_some_iff.mp hc2).1
      refine wgw_name (by walk_at "inv") (by decide) ?_
      refine wts_nil ⟨fun h => (by cases h), fun _ => ?_⟩
      refine we_m1 PySem.F.slot_str_find PySem.F.type_str_find ?_ (fun _ => rfl) (fun _ => rfl) rfl
      walk_at "e"
      refine ⟨sS l, rfl, ?_⟩
      walk_at "e"
      refine wm_findL (hc c (List.mem_of_getElem? hc2)) ?_
      refine ⟨_, rfl, by simp [rowL, sizeLine_eq]; omega, ?_⟩
      show _ = _
      rw [List.take_add_one, hc2]
      simp [rowL]
    · rintro S' rfl
      rw [List.length_map, List.take_length]
      refine ⟨0, .val (.lst ((rowL l t).map iN)), Nat.le_refl _, Nat.zero_le _, rfl, .inr ⟨_, .lst (Nat.zero_le _) rfl (FzL.vals _), rfl⟩, ?_⟩
      repeat walk_at "e"
      refine wc_len hP ?_
      refine wa_nil ?_
      rw [List.length_map]
      refine fnc_S2 hP (by simp [rowL]; omega) hPl (Nat.le_refl _) hw ?_
      rw [List.take_length]
      exact RetC.now (Nat.le_refl _) rfl rfl hΨ
end DL
set_option Elab.async false
set_option linter.all false
set_option maxRecDepth 100000
set_option maxHeartbeats 4000000
namespace DL
open PySem PySem.Spec PyProof.Rows
open L2 hiding Takes passAt takes_of ps_raise PMk ps_try_as
open L2N (Takes passAt takes_of ps_raise PMk ps_try_as)
local macro_rules | `(tactic| walk_at "inv") => `(tactic| ((try dsimp only); repeat (first | with_reducible exact InV.here | with_reducible apply InV.there)))
local macro_rules | `(tactic| walk_at "ing") => `(tactic| ((try dsimp only); repeat (first | with_reducible exact InG.here | with_reducible apply InG.there)))
local macro_rules | `(tactic| walk_at "nb") => `(tactic| first | assumption | (dsimp only; refine BltF.at_ (by assumption) ?_; repeat (first | with_reducible exact InG.here | with_reducible apply InG.there)))
local macro_rules | `(tactic| walk_at "s") => `(tactic| first
  | refine wss_cons ?_ | refine wss_nil ?_ | refine ws_set (by walk_at "inv") ?_ (fun _ => rfl) | refine ws_if ?_ | refine ws_ret ?_ | refine ws_aug (by walk_at "inv") rfl ?_
  | refine ws_expr ?_ (fun _ => rfl) | refine ws_pass ?_ | refine ws_break ?_ | refine ws_cont ?_ | refine ws_retN ?_
  | refine ws_setA ?_ (fun _ => rfl) | refine ws_put ?_ (fun _ => rfl) | refine ws_asg ?_ (fun _ => rfl) (fun _ => rfl) (fun _ => rfl))
local macro_rules | `(tactic| walk_at "we") => `(tactic| first
  | refine we_name (by walk_at "inv") rfl ?_ | refine we_int ?_ | refine we_op ?_ | refine we_str ?_
  | refine we_callB (by walk_at "ing") (by walk_at "nb") (by first | exact PySem.boot_len | exact boot_abs | exact boot_min | exact boot_max | exact boot_sorted | exact boot_isinstance) ?_ (fun _ => rfl) (fun _ => rfl)
  | refine we_callT (by walk_at "ing") (by walk_at "nb") (by first | exact boot_tuple | exact boot_list | exact boot_int) ?_ (fun _ => rfl) (fun _ => rfl)
  | refine we_attr ?_ (fun _ => rfl) | refine we_ix ?_ (fun _ _ => rfl) | refine we_tup ?_
  | refine we_append ?_ (fun _ => rfl) (fun _ => rfl) rfl (fun _ => rfl) (fun _ => rfl)
  | refine we_bl ?_ | refine we_non ?_ | refine we_chain ?_ rfl | refine we_cmp ?_ rfl | refine we_one ?_ | refine we_and ?_ | refine we_or ?_ | refine we_not ?_ | refine we_ifx ?_ | refine we_neg ?_ | refine we_slice ?_)
local macro_rules | `(tactic| walk_at "wb") => `(tactic| first | refine we_type (by walk_at "ing") (by walk_at "nb") boot_int ?_ | refine we_type (by walk_at "ing") (by walk_at "nb") boot_bool ?_ | refine we_type (by walk_at "ing") (by walk_at "nb") boot_str ?_ | refine we_type (by walk_at "ing") (by walk_at "nb") boot_tuple ?_)
local macro_rules | `(tactic| walk_at "wt") => `(tactic| first | refine wt_cmp ?_ rfl | refine wt_not ?_ | refine wt_chain ?_ rfl | refine wt_of ?_)
local macro_rules | `(tactic| walk_at "wto") => `(tactic| first | refine wto_and1 ?_ | refine wto_or1 ?_ | refine wto_and ?_ | refine wto_or ?_)
local macro_rules | `(tactic| walk_at "wo") => `(tactic| first
  | refine wo_add ?_ | refine wo_sub ?_ | refine wo_lt ?_ | refine wo_le ?_ | refine wo_gt ?_ | refine wo_ge ?_ | refine wo_eqI ?_ | refine wo_neI ?_ | refine wo_eqL ?_ | refine wo_neL ?_ | refine wo_lt1 ?_ | refine wo_le1 ?_ | refine wo_ge1 ?_ | refine wo_inL ?_ | refine wo_notInL ?_
  | refine wo_mod (by omega) ?_ | refine wo_fdiv ⟨by omega, by omega⟩ ?_ | refine wo_mul (by first | exact Or.inr ⟨by omega, by omega⟩ | exact Or.inl ⟨by omega, by omega⟩) ?_ | refine wo_pow ⟨by omega, by omega, by decide⟩ ?_
  | refine wo_isN (by intro _ h; cases h) ?_ | refine wo_notN (by intro _ h; cases h) ?_)
local macro_rules | `(tactic| walk_at "wc") => `(tactic| first
  | refine wc_len (by first | exact .tup _ | exact .lst _ | exact .bor _ | exact .loc rfl) ?_ | refine wc_int ?_ | refine wc_intB ?_ | refine wc_abs ?_ | refine wc_min2 rfl ?_ | refine wc_max2 rfl ?_ | refine wc_tuple (by first | exact .tup _ | exact .lst _ | exact .bor _ | exact .loc rfl) ?_)
local macro_rules | `(tactic| walk_at "e") => `(tactic| first
  | (with_reducible show WE _ _ _ _ _); walk_at "we"
  | (with_reducible show WT _ _ _ _ _); walk_at "wt"
  | (with_reducible show WTo _ _ _ _ _); walk_at "wto"
  | (with_reducible show WO _ _ _ _ _ _); walk_at "wo"
  | (with_reducible show WA _ _ _ _ _); first | refine wa_cons ?_ (fun _ => rfl) | refine wa_nil ?_
  | (with_reducible show WC _ _ _ _ _); walk_at "wc"
  | (with_reducible show WPO _ _ _ _ _); first | refine wpo_none ?_ | refine wpo_some ?_
  | refine asB_mk ?_ | refine wip_add ?_
  | refine ⟨_, rfl, (by first | decide | exact Nat.le_of_ble_eq_true rfl), ?_⟩)
local macro_rules | `(tactic| walk_at "ew") => `(tactic| ((try simp only [List.set_cons_zero, List.set_cons_succ]); repeat (first | exact EnvW.nil | refine EnvW.keep (by first | rfl | assumption) ?_ | refine EnvW.drop ?_)))
local macro_rules | `(tactic| walk_at "fl") => `(tactic| (refine ⟨_, _, fldL rfl (by repeat (first | with_reducible exact AtN.here | with_reducible apply AtN.there)) rfl, by assumption, NoA.at_ (by assumption) (by walk_at "ing"), ?_⟩))
local macro_rules | `(tactic| walk_at "fv") => `(tactic| (refine ⟨_, _, fldV (by repeat (first | with_reducible exact AtN.here | with_reducible apply AtN.there)) rfl, by assumption, NoA.at_ (by assumption) (by walk_at "ing"), ?_⟩))
def spPR : DSp := fun rs S Ψ _ => ∃ (ns l : List Nat) (m : Nat), rs = [.loc 0, .val (sL l), .val (iN m)] ∧ S = [nN ns] ∧ l.Nodup ∧ 1 ≤ l.length ∧ l.length ≤ 30 ∧ m ≤ 100 ∧ ns.length ≤ 100000 ∧ ∀ (P : List Pr) (ns' : List Nat), GoodS l P → P.length ≤ max m 29 → ns'.length ≤ ns.length → Ψ (.val (.tup [.lst (P.map pN), .lst ((txts l P).map sL)])) [nN ns']
theorem fnc_PR {C : DC} {env : Nv} {S : Sto} {Ψ : R → Sto → Prop} {k m : Nat} {ns l : List Nat} (hk : S[k]? = some (nN ns)) (hnd : l.Nodup) (h1 : 1 ≤ l.length) (h2 : l.length ≤ 30) (hm : m ≤ 100) (hl : ns.length ≤ 100000) (h : ∀ (P : List Pr) (ns' : List Nat), GoodS l P → P.length ≤ max m 29 → ns'.length ≤ ns.length → Ψ (.val (.tup [.lst (P.map pN), .lst ((txts l P).map sL)])) (S.set k (nN ns'))) : FnC C spPR [.loc k, .val (sL l), .val (iN m)] env S Ψ := by
  refine ⟨[k], [nN ns], [.loc 0, .val (sL l), .val (iN m)], passOne hk, .cons (.loc rfl) (.cons (.val _) (.cons (.val _) .nil)), ns, l, m, rfl, rfl, hnd, h1, h2, hm, hl, fun P ns' hg hP hn => ?_⟩
  show Ψ _ (backS [k] S [nN ns'])
  have := backOne (S := S) (k := k) (ds := ns'.map iN) []
  rw [show backS [k] S [nN ns'] = S.set k (nN ns') ++ [] from this, List.append_nil]
  exact h P ns' hg hP hn
theorem good_lt {l : List Nat} {P : List Pr} (hg : GoodS l P) : LtW l.length P := fun r h => ((good_wf P hg).lt r h).1
theorem scPR : FnScope ["_law_pool_here", "_law_alphabet_here", "_law_most", "_law_pairs_here", "_law_texts_here", "_law_k", "_law_left", "_law_right", "_law_row", "_law_at", "_law_text", "_law_sign"] ["_law_pool_here", "_law_alphabet_here", "_law_most"] (defScope (top 34)) := ⟨rfl, rfl, rfl, by decide +kernel, rfl, by decide +kernel, by decide +kernel⟩
theorem ok_pr {g : Gd} {f fDR fC2 : Addr} {fd : FuncData} (F : FunD g.K "_law_pairs" "_law_pairs" (defArgs (top 34)) (defBody (top 34)) (defScope (top 34)) [] [] f fd) (hb : Binds g.K fd ["_law_pool_here", "_law_alphabet_here", "_law_most"] [])
    (hB : BltF g ["len", "range", "max"]) (GDR : FnD g 1 fDR ["_law_pool_here", "_law_many"] spDR) (mDR : g.mg "_law_draw" = some (.ref fDR)) (GC2 : FnD g 2 fC2 ["_law_pairs_here", "_law_alphabet_here", "_law_text"] spC2) (mC2 : g.mg "_law_cut" = some (.ref fC2)) : FnD g 3 f ["_law_pool_here", "_law_alphabet_here", "_law_most"] spPR := by
  refine fn_mk F hb scPR (gl := ["len", "range", "max", "_law_draw", "_law_cut"]) [("_law_pool_here", 0), ("_law_alphabet_here", 1), ("_law_most", 2), ("_law_pairs_here", 3), ("_law_texts_here", 4), ("_law_k", 5), ("_law_left", 6), ("_law_right", 7), ("_law_row", 8), ("_law_at", 9), ("_law_text", 10)] (by decide +kernel) (by decide +kernel) (fun rs S Ψ ξ h => ?_) (fun rs S Ψ ξ h => ?_)
  · obtain ⟨_, _, _, rfl, _⟩ := h; rfl
  · obtain ⟨ns, l, m, rfl, rfl, hnd, hl1, hl2, hm, hns, hΨ⟩ := h
    refine wss_cons ?_
    walk_at "s"
    refine we_lstN ?_
    refine wa_nil ⟨[], rfl, by decide, ?_⟩
    refine wss_cons ?_
    refine ws_setLc [("_law_sign", 11)] [("_law_sign", 11)] [("_law_sign", 11)] [] (by dsimp only; decide +kernel) rfl (by walk_at "inv") ?_ (fun _ _ => rfl) rfl rfl rfl rfl
    refine wi_strL ?_
    walk_at "e"
    refine ⟨l, rfl, fun i S' => S' = [nN ns, nl [], nl ((l.take i).map fun c => sL [c])], rfl, fun _ S' _ => trivial, ?_, ?_⟩
    · rintro i d S' hd rfl
      rw [List.getElem?_map] at hd
      obtain ⟨c, hc2, rfl⟩ := Option.map_eq_some_iff.mp hd
      have hi := (List.getElem?_eq_some_iff.mp hc2).1
      refine wgw_name (by walk_at "inv") (by decide) ?_
      refine wts_nil ⟨fun h => (by cases h), fun _ => ?_⟩
      repeat walk_at "e"
      refine ⟨_, rfl, by simp [sizeLine_eq]; omega, ?_⟩
      show _ = _
      rw [List.take_add_one, hc2]
      simp
    · rintro S' rfl
      rw [List.length_map, List.take_length]
      refine wss_cut (fun env S => ∃ ns', env = [some (.loc 0), some (.val (sL l)), some (.val (iN m)), some (.loc 1), some (.loc 2), none, none, none, none, none, none, none] ∧ S = [nN ns', nl [], nl (l.map fun c => sL [c])] ∧ ns'.length ≤ ns.length) ?_ ?_
      · refine ws_if ?_
        refine wt_of ?_
        refine wto_and ?_
        repeat walk_at "e"
        refine wc_lenL (by rw [sizeLine_eq]; omega) ?_
        repeat walk_at "e"
        refine ⟨fun h2 => ?_, fun h2 => ⟨fun h => no_t h, fun _ => ?_⟩⟩
        · have h2 : 2 < l.length := by have := of_decide_eq_true h2; omega
          refine wto_and1 ?_
          refine wt_cmp ?_ rfl
          refine we_call GDR (by walk_at "ing") mDR (Nat.le_of_ble_eq_true rfl) rfl ?_ (fun _ => rfl) (fun _ => rfl)
          repeat walk_at "e"
          refine fnc_DR (ns := ns) (m := 5) rfl (by omega) hns fun v ns1 hv hn1 => ?_
          repeat walk_at "e"
          refine ⟨fun h3 => ?_, fun h3 => ?_⟩
          · have hdl := dbl_len l.length
            show WSs _ _ _ [nN ns1, nl [], nl (l.map fun c => sL [c])] _
            refine wss_cons ?_
            refine ws_setLc [("_law_k", 5)] [("_law_k", 5)] [("_law_k", 5)] [] (by dsimp only; decide +kernel) rfl (by walk_at "inv") ?_ (fun _ _ => rfl) rfl rfl rfl rfl
            refine wi_rangeDn (by walk_at "ing") (by walk_at "nb") ?_ (fun _ => rfl) (fun _ => rfl) (fun _ => rfl) (fun _ => rfl)
            repeat walk_at "e"
            refine wc_lenL (by rw [sizeLine_eq]; omega) ?_
            repeat walk_at "e"
            refine ⟨_, rfl, ?_⟩
            repeat walk_at "e"
            refine ⟨_, rfl, ?_⟩
            refine ⟨_, _, rfl, rfl, rfl, by omega, fun i S' => S' = [nN ns1, nl [], nl (l.map fun c => sL [c]), nl (((dbl l.length).take i).map pN)], rfl, fun _ S' _ => trivial, ?_, ?_⟩
            · rintro i d S' hd rfl
              rw [List.getElem?_map] at hd
              obtain ⟨z, hz, rfl⟩ := Option.map_eq_some_iff.mp hd
              obtain ⟨hzl, hz⟩ := List.getElem?_eq_some_iff.mp hz
              simp at hzl hz
              subst hz
              have hi : i < (dbl l.length).length := by omega
              refine wgw_name (by walk_at "inv") (by decide) ?_
              refine wts_nil ⟨fun h => (by cases h), fun _ => ?_⟩
              repeat walk_at "e"
              refine ⟨_, rfl, by rw [List.length_map, List.length_map, List.length_take, sizeLine_eq]; omega, ?_⟩
              show _ = _
              rw [take_snoc hi, dbl_get hi, List.map_append]
              have e1 : D.int ((l.length : Nat) - 2 + (i : Int) * (-1)) = iN (l.length - 2 - i) := by congr 1; omega
              have e2 : D.int ((l.length : Nat) - 2 + (i : Int) * (-1) + 1) = iN (l.length - 1 - i) := by congr 1; omega
              show [nN ns1, nl [], nl (l.map fun c => sL [c]), Node.lst ((((dbl l.length).take i).map pN).map R.val ++ [R.val (D.tup [D.int ((l.length : Nat) - 2 + (i : Int) * (-1)), D.int ((l.length : Nat) - 2 + (i : Int) * (-1) + 1)])])] = [nN ns1, nl [], nl (l.map fun c => sL [c]), Node.lst ((((dbl l.length).take i).map pN ++ [pN (l.length - 2 - i, l.length - 1 - i)]).map R.val)]
              rw [e1, e2, List.map_append]
              rfl
            · rintro S' rfl
              have edl : ((List.range ((l.length : Int) - 2 - -1).toNat).map fun z : Nat => D.int ((l.length : Nat) - 2 + (z : Int) * (-1))).length = (dbl l.length).length := by
                rw [List.length_map, List.length_range]; omega
              rw [edl, List.take_length]
              refine wss_settle 3 (Nat.le_of_ble_eq_true rfl) (Nat.le_of_ble_eq_true rfl) (by simp [okB_nl]) (env' := [some (.loc 0), some (.val (sL l)), some (.val (iN m)), some (.val (.lst ((dbl l.length).map pN))), some (.loc 2), none, none, none, none, none, none, none]) (.keep rfl (.keep rfl (.keep rfl (.fix (.lst (Nat.le_refl _) rfl (FzL.vals _)) (.keep rfl (.drop (.drop (.drop (.drop (.drop (.drop (.drop .nil)))))))))))) ?_
              show WSs _ _ _ [nN ns1, nl [], nl (l.map fun c => sL [c])] _
              refine wss_one ?_
              refine ws_ret ?_
              refine we_tup ?_
              refine wa_cons ?_ (fun _ => rfl)
              walk_at "e"
              refine wa_cons ?_ (fun _ => rfl)
              refine we_settle ?_
              refine we_op ?_
              walk_at "e"
              refine we_lc [("_law_k", 5)] [("_law_alphabet_here", 1), ("_law_k", 5)] [("_law_k", 5)] [] (by dsimp only; decide +kernel) rfl ?_ (fun _ _ => rfl)
              refine wi_rangeDn (by walk_at "ing") (by walk_at "nb") ?_ (fun _ => rfl) (fun _ => rfl) (fun _ => rfl) (fun _ => rfl)
              repeat walk_at "e"
              refine wc_lenL (by rw [sizeLine_eq]; omega) ?_
              repeat walk_at "e"
              refine ⟨_, rfl, ?_⟩
              repeat walk_at "e"
              refine ⟨_, rfl, ?_⟩
              refine ⟨_, _, rfl, rfl, rfl, by omega, fun i S' => S' = [nN ns1, nl [], nl (l.map fun c => sL [c]), nl (((List.range i).map fun z => (l.take (l.length - 2 - z + 2)).drop (l.length - 2 - z)).map sL)], rfl, fun _ S' _ => trivial, ?_, ?_⟩
              · rintro i d S' hd rfl
                rw [List.getElem?_map] at hd
                obtain ⟨z, hz, rfl⟩ := Option.map_eq_some_iff.mp hd
                obtain ⟨hzl, hz⟩ := List.getElem?_eq_some_iff.mp hz
                simp at hzl hz
                subst hz
                refine wgw_name (by walk_at "inv") (by decide) ?_
                refine wts_nil ⟨fun h => (by cases h), fun _ => ?_⟩
                repeat walk_at "e"
                refine ⟨_, rfl, ?_⟩
                repeat walk_at "e"
                refine ⟨_, rfl, ?_⟩
                refine wsl_L (by rw [sizeLine_eq]; omega) ?_
                refine ⟨_, rfl, by rw [List.length_map, List.length_map, List.length_map, List.length_range, sizeLine_eq]; omega, ?_⟩
                show _ = _
                have e1 : (l.length : Int) - 2 + (i : Int) * (-1) = ((l.length - 2 - i : Nat) : Int) := by omega
                have e2 : ((l.length - 2 - i : Nat) : Int) + 2 = ((l.length - 2 - i + 2 : Nat) : Int) := by omega
                rw [e1, e2, cutA_mid, List.range_succ, List.map_append, List.map_append]
                show [nN ns1, nl [], nl (l.map fun c => sL [c]), Node.lst ((((List.range i).map fun z => (l.take (l.length - 2 - z + 2)).drop (l.length - 2 - z)).map sL).map R.val ++ [R.val (sL ((l.take (l.length - 2 - i + 2)).drop (l.length - 2 - i)))])] = [nN ns1, nl [], nl (l.map fun c => sL [c]), Node.lst ((((List.range i).map fun z => (l.take (l.length - 2 - z + 2)).drop (l.length - 2 - z)).map sL ++ [sL ((l.take (l.length - 2 - i + 2)).drop (l.length - 2 - i))]).map R.val)]
                rw [List.map_append]
                rfl
              · rintro S' rfl
                rw [edl]
                refine wo_catL rfl rfl (by simp [sizeLine_eq]; omega) ?_
                have ets := dbl_txts (l := l) _ (Nat.le_refl _)
                rw [List.take_length] at ets
                have ecat : (l.map fun c => sL [c]).map R.val ++ (((List.range (dbl l.length).length).map fun z => (l.take (l.length - 2 - z + 2)).drop (l.length - 2 - z)).map sL).map R.val = ((txts l (dbl l.length)).map sL).map R.val := by
                  rw [ets, List.map_append, List.map_append]
                  congr 1
                  rw [List.map_map, List.map_map, List.map_map]
                  rfl
                rw [ecat]
                refine ⟨3, .val (.lst ((txts l (dbl l.length)).map sL)), Nat.le_refl _, by simp, by simp [okB_nl], .inr ⟨_, .lst (Nat.le_succ _) rfl (FzL.vals _), rfl⟩, ?_⟩
                refine wa_nil ?_
                refine ⟨_, rfl, Nat.le_of_ble_eq_true rfl, ?_⟩
                refine ⟨1, Nat.le_refl _, by simp, by simp [okB_nl], .inl ⟨rfl, ?_⟩⟩
                exact hΨ (dbl l.length) ns1 (dbl_good hnd) (by omega) hn1
          · refine wss_nil ?_
            exact ⟨ns1, rfl, rfl, hn1⟩
        · refine wss_nil ?_
          exact ⟨ns, rfl, rfl, Nat.le_refl _⟩
      · rintro env' S' ⟨ns', rfl, rfl, hn'⟩
        refine wss_cons ?_
        refine ws_for rfl ?_ (fun _ _ => rfl)
        refine wi_range1 (by walk_at "ing") (by walk_at "nb") ?_ (fun _ => rfl)
        repeat walk_at "e"
        refine ⟨_, rfl, by omega, fun i env S' => ∃ (ns' : List Nat) (P : List Pr), env = [some (.loc 0), some (.val (sL l)), some (.val (iN m)), some (.loc 1), some (.loc 2), none, none, none, none, none, none, none] ∧ S' = [nN ns', nl (P.map pN), nl ((txts l P).map sL)] ∧ ns'.length ≤ ns.length ∧ P.length ≤ i ∧ GoodS l P, Nat.le_of_ble_eq_true rfl, ⟨ns', [], rfl, by simp [txts], hn', Nat.le_refl _, GoodS.nil l⟩, fun _ _ _ _ => trivial, ?_, ?_⟩
        · rintro i d env' S' hd ⟨ns', P, rfl, rfl, hn', hP, hg⟩
          obtain ⟨hi, rfl⟩ := rangeD_get hd
          have hi0 : i < m := by omega
          have hm := txts_len l P
          have hmp : 1 ≤ (txts l P).length := by omega
          have xt : ∀ a, a < (txts l P).length → (txts l P)[a]? = some ((txts l P).getD a []) := fun a ha => by rw [List.getD_eq_getElem?_getD, List.getElem?_eq_getElem ha]; rfl
          have sh : ∀ a, a < (txts l P).length → ((txts l P).getD a []).length ≤ 40 := fun a ha => hg.short _ (List.mem_of_getElem? (xt a ha))
          refine wg_name (by walk_at "inv") ?_
          refine wss_cons ?_
          walk_at "s"
          refine we_call GDR (by walk_at "ing") mDR (Nat.le_of_ble_eq_true rfl) rfl ?_ (fun _ => rfl) (fun _ => rfl)
          repeat walk_at "e"
          rw [List.length_map]
          refine fnc_DR (ns := ns') (m := (txts l P).length) rfl hmp (by omega) fun a ns1 ha hn1 => ?_
          refine wss_cons ?_
          walk_at "s"
          refine we_call GDR (by walk_at "ing") mDR (Nat.le_of_ble_eq_true rfl) rfl ?_ (fun _ => rfl) (fun _ => rfl)
          repeat walk_at "e"
          rw [List.length_map]
          refine fnc_DR (ns := ns1) (m := (txts l P).length) rfl hmp (by omega) fun b ns2 hb hn2 => ?_
          show WSs _ _ _ [nN ns2, nl (P.map pN), nl ((txts l P).map sL)] _
          refine wss_cut (fun env S => ∃ (ns3 : List Nat) (a b : Nat) (o8 o9 : Option R), env = [some (.loc 0), some (.val (sL l)), some (.val (iN m)), some (.loc 1), some (.loc 2), some (.val (.int (0 + (i : Int)))), some (.val (iN a)), some (.val (iN b)), o8, o9, none, none] ∧ S = [nN ns3, nl (P.map pN), nl ((txts l P).map sL)] ∧ ns3.length ≤ ns.length ∧ a < (txts l P).length ∧ b < (txts l P).length) ?_ ?_
          · refine ws_if ?_
            refine wt_cmp ?_ rfl
            refine we_call GDR (by walk_at "ing") mDR (Nat.le_of_ble_eq_true rfl) rfl ?_ (fun _ => rfl) (fun _ => rfl)
            repeat walk_at "e"
            refine fnc_DR (ns := ns2) (m := 3) rfl (by omega) (by omega) fun v ns3 hv hn3 => ?_
            repeat walk_at "e"
            refine ⟨fun _ => ?_, fun _ => ?_⟩
            · refine wss_cons ?_
              walk_at "s"
              refine we_call GC2 (by walk_at "ing") mC2 (Nat.le_of_ble_eq_true rfl) rfl ?_ (fun _ => rfl) (fun _ => rfl)
              repeat walk_at "e"
              refine wix_F (g := sL) (.loc rfl) rfl (xt a ha) ?_
              repeat walk_at "e"
              refine wix_F (g := sL) (.loc rfl) rfl (xt b hb) ?_
              have ha4 := sh a ha
              have hb4 := sh b hb
              refine wo_addL (by rw [sizeLine_eq]; omega) ?_
              repeat walk_at "e"
              refine fnc_C2 (.loc rfl) (by omega) (by rw [List.length_append]; omega) (by omega) (good_lt hg) (fun c hc => ?_) ?_
              · rcases List.mem_append.mp hc with hc | hc
                · exact getD_mem a c hc
                · exact getD_mem b c hc
              have hrl : (rowL l ((txts l P).getD a [] ++ (txts l P).getD b [])).length ≤ 80 := by unfold rowL; rw [List.length_map, List.length_append]; omega
              have hrw := stg_lt (good_wf P hg) (rowL_lt (l := l) (t := (txts l P).getD a [] ++ (txts l P).getD b []) fun c hc => by
                rcases List.mem_append.mp hc with hc | hc
                · exact getD_mem a c hc
                · exact getD_mem b c hc)
              have hsl := stg_len l.length (rowL l ((txts l P).getD a [] ++ (txts l P).getD b [])) P
              generalize stg l.length P (rowL l ((txts l P).getD a [] ++ (txts l P).getD b [])) = row at *
              refine wss_cons ?_
              walk_at "s"
              refine we_call GDR (by walk_at "ing") mDR (Nat.le_of_ble_eq_true rfl) rfl ?_ (fun _ => rfl) (fun _ => rfl)
              repeat walk_at "e"
              rw [List.length_map, show (if (row.length : Int) - 1 > 1 then (row.length : Int) - 1 else 1) = ((max 1 (row.length - 1) : Nat) : Int) by split <;> omega]
              refine fnc_DR (ns := ns3) (m := max 1 (row.length - 1)) rfl (by omega) (by omega) fun v2 ns4 hv2 hn4 => ?_
              refine wss_one ?_
              refine ws_ifB (1 < row.length) ?_ (fun h => ?_) (fun h => ?_)
              · repeat walk_at "e"
                rw [List.length_map]
                exact ⟨decide_eq_decide.mpr (by omega), rfl⟩
              · have x1 : row[v2]? = some row[v2] := by simp
                have x2 : row[v2 + 1]? = some row[v2 + 1] := by simp
                have y1 := hrw _ (List.mem_of_getElem? x1)
                have y2 := hrw _ (List.mem_of_getElem? x2)
                refine wss_cons ?_
                walk_at "s"
                repeat walk_at "e"
                refine wix_F (g := iN) (.lst _) rfl x1 ?_
                refine wss_one ?_
                walk_at "s"
                repeat walk_at "e"
                refine wix_F (g := iN) (.lst _) (j := v2 + 1) (by omega) x2 ?_
                exact ⟨ns4, _, _, _, _, rfl, rfl, by omega, by omega, by omega⟩
              · refine wss_nil ?_
                exact ⟨ns4, a, b, _, _, rfl, rfl, by omega, ha, hb⟩
            · refine wss_nil ?_
              exact ⟨ns3, a, b, none, none, rfl, rfl, by omega, ha, hb⟩
          · rintro env' S' ⟨ns3, a, b, o8, o9, rfl, rfl, hn3, ha, hb⟩
            have ha4 := sh a ha
            have hb4 := sh b hb
            have hmem : ∀ c ∈ (txts l P).getD a [] ++ (txts l P).getD b [], c ∈ l := fun c hc => by
              rcases List.mem_append.mp hc with hc | hc
              · exact getD_mem a c hc
              · exact getD_mem b c hc
            refine wss_cons ?_
            walk_at "s"
            repeat walk_at "e"
            refine wix_F (g := sL) (.loc rfl) rfl (xt a ha) ?_
            repeat walk_at "e"
            refine wix_F (g := sL) (.loc rfl) rfl (xt b hb) ?_
            refine wo_addL (by rw [sizeLine_eq]; omega) ?_
            refine wss_one ?_
            refine ws_ifB (propS l (txts l P) P (a, b)) ?_ (fun hp => ?_) (fun hp => ?_)
            · refine wt_of ?_
              refine wto_and ?_
              repeat walk_at "e"
              refine wc_lenL (by rw [List.length_append, sizeLine_eq]; omega) ?_
              repeat walk_at "e"
              refine ⟨fun h1 => ?_, fun h1 => ?_⟩
              · have h1 := of_decide_eq_true h1
                refine wto_and1 ?_
                refine wt_cmp ?_ rfl
                refine we_call GC2 (by walk_at "ing") mC2 (Nat.le_of_ble_eq_true rfl) rfl ?_ (fun _ => rfl) (fun _ => rfl)
                repeat walk_at "e"
                refine fnc_C2 (.loc rfl) (by omega) (by rw [List.length_append]; omega) (by omega) (good_lt hg) hmem ?_
                refine we_lstF ?_
                repeat walk_at "e"
                refine wo_eqF (f := fun l : List Nat => .lst (l.map iN)) (a := stg l.length P (rowL l ((txts l P).getD a [] ++ (txts l P).getD b []))) (b := [a, b]) flt_nat.lst (by decide) (.val _) (.val _) ?_
                refine ⟨_, rfl, decide_eq_decide.mpr ⟨fun h => ⟨ha, hb, by dsimp only; omega, h⟩, fun h => h.2.2.2⟩, rfl⟩
              · have h1 := of_decide_eq_false h1
                exact ⟨(decide_eq_false fun h => h1 (by have := h.2.2.1; dsimp only at this; omega)).symm, rfl⟩
            · refine wss_cons ?_
              walk_at "s"
              repeat walk_at "e"
              refine ⟨1, _, rfl, rfl, ?_⟩
              repeat walk_at "e"
              refine ⟨_, _, rfl, rfl, by rw [List.length_map, sizeLine_eq]; omega, ?_⟩
              refine wss_one ?_
              walk_at "s"
              repeat walk_at "e"
              refine ⟨2, _, rfl, rfl, ?_⟩
              repeat walk_at "e"
              refine ⟨_, _, rfl, rfl, by rw [List.length_map, sizeLine_eq]; omega, ?_⟩
              dsimp only
              refine Wk.drop (env' := [some (.loc 0), some (.val (sL l)), some (.val (iN m)), some (.loc 1), some (.loc 2), none, none, none, none, none, none, none]) ⟨ns3, P ++ [(a, b)], rfl, by simp [txts_snoc, addT], hn3, by simp; omega, hg.snoc hp⟩ (by walk_at "ew") (Nat.le_refl _) (by simp [okB_nl])
            · walk_at "s"
              dsimp only
              refine Wk.drop (env' := [some (.loc 0), some (.val (sL l)), some (.val (iN m)), some (.loc 1), some (.loc 2), none, none, none, none, none, none, none]) ⟨ns3, P, rfl, rfl, hn3, by omega, hg⟩ (by walk_at "ew") (Nat.le_refl _) (by simp [okB_nl])
        · rintro env' S' ⟨ns', P, rfl, rfl, hn', hP, hg⟩
          rw [rangeD_len] at hP
          refine wss_settle 1 (Nat.le_refl _) (Nat.le_of_ble_eq_true rfl) (by simp [okB_nl]) (env' := [some (.loc 0), some (.val (sL l)), some (.val (iN m)), some (.val (.lst (P.map pN))), some (.val (.lst ((txts l P).map sL))), none, none, none, none, none, none, none]) (.keep rfl (.keep rfl (.keep rfl (.fix (.lst (Nat.le_refl _) rfl (FzL.vals _)) (.fix (.lst (Nat.le_of_ble_eq_true rfl) rfl (FzL.vals _)) (.drop (.drop (.drop (.drop (.drop (.drop (.drop .nil)))))))))))) ?_
          refine wss_one ?_
          walk_at "s"
          repeat walk_at "e"
          exact RetC.now (Nat.le_refl _) (by simp [okB_nl]) rfl (hΨ P ns' hg (by omega) hn')
end DL
set_option Elab.async false
set_option linter.all false
set_option maxRecDepth 100000
set_option maxHeartbeats 4000000
namespace DL
open PySem PySem.Spec PyProof.Rows
open L2 hiding Takes passAt takes_of ps_raise PMk ps_try_as
open L2N (Takes passAt takes_of ps_raise PMk ps_try_as)
local macro_rules | `(tactic| walk_at "inv") => `(tactic| ((try dsimp only); repeat (first | with_reducible exact InV.here | with_reducible apply InV.there)))
local macro_rules | `(tactic| walk_at "ing") => `(tactic| ((try dsimp only); repeat (first | with_reducible exact InG.here | with_reducible apply InG.there)))
local macro_rules | `(tactic| walk_at "nb") => `(tactic| first | assumption | (dsimp only; refine BltF.at_ (by assumption) ?_; repeat (first | with_reducible exact InG.here | with_reducible apply InG.there)))
local macro_rules | `(tactic| walk_at "s") => `(tactic| first
  | refine wss_cons ?_ | refine wss_nil ?_ | refine ws_set (by walk_at "inv") ?_ (fun _ => rfl) | refine ws_if ?_ | refine ws_ret ?_ | refine ws_aug (by walk_at "inv") rfl ?_
  | refine ws_expr ?_ (fun _ => rfl) | refine ws_pass ?_ | refine ws_break ?_ | refine ws_cont ?_ | refine ws_retN ?_
  | refine ws_setA ?_ (fun _ => rfl) | refine ws_put ?_ (fun _ => rfl) | refine ws_asg ?_ (fun _ => rfl) (fun _ => rfl) (fun _ => rfl))
local macro_rules | `(tactic| walk_at "we") => `(tactic| first
  | refine we_name (by walk_at "inv") rfl ?_ | refine we_int ?_ | refine we_op ?_ | refine we_str ?_
  | refine we_callB (by walk_at "ing") (by walk_at "nb") (by first | exact PySem.boot_len | exact boot_abs | exact boot_min | exact boot_max | exact boot_sorted | exact boot_isinstance) ?_ (fun _ => rfl) (fun _ => rfl)
  | refine we_callT (by walk_at "ing") (by walk_at "nb") (by first | exact boot_tuple | exact boot_list | exact boot_int) ?_ (fun _ => rfl) (fun _ => rfl)
  | refine we_attr ?_ (fun _ => rfl) | refine we_ix ?_ (fun _ _ => rfl) | refine we_tup ?_
  | refine we_append ?_ (fun _ => rfl) (fun _ => rfl) rfl (fun _ => rfl) (fun _ => rfl)
  | refine we_bl ?_ | refine we_non ?_ | refine we_chain ?_ rfl | refine we_cmp ?_ rfl | refine we_one ?_ | refine we_and ?_ | refine we_or ?_ | refine we_not ?_ | refine we_ifx ?_ | refine we_neg ?_ | refine we_slice ?_)
local macro_rules | `(tactic| walk_at "wb") => `(tactic| first | refine we_type (by walk_at "ing") (by walk_at "nb") boot_int ?_ | refine we_type (by walk_at "ing") (by walk_at "nb") boot_bool ?_ | refine we_type (by walk_at "ing") (by walk_at "nb") boot_str ?_ | refine we_type (by walk_at "ing") (by walk_at "nb") boot_tuple ?_)
local macro_rules | `(tactic| walk_at "wt") => `(tactic| first | refine wt_cmp ?_ rfl | refine wt_not ?_ | refine wt_chain ?_ rfl | refine wt_of ?_)
local macro_rules | `(tactic| walk_at "wto") => `(tactic| first | refine wto_and1 ?_ | refine wto_or1 ?_ | refine wto_and ?_ | refine wto_or ?_)
local macro_rules | `(tactic| walk_at "wo") => `(tactic| first
  | refine wo_add ?_ | refine wo_sub ?_ | refine wo_lt ?_ | refine wo_le ?_ | refine wo_gt ?_ | refine wo_ge ?_ | refine wo_eqI ?_ | refine wo_neI ?_ | refine wo_eqL ?_ | refine wo_neL ?_ | refine wo_lt1 ?_ | refine wo_le1 ?_ | refine wo_ge1 ?_ | refine wo_inL ?_ | refine wo_notInL ?_
  | refine wo_mod (by omega) ?_ | refine wo_fdiv ⟨by omega, by omega⟩ ?_ | refine wo_mul (by first | exact Or.inr ⟨by omega, by omega⟩ | exact Or.inl ⟨by omega, by omega⟩) ?_ | refine wo_pow ⟨by omega, by omega, by decide⟩ ?_
  | refine wo_isN (by intro _ h; cases h) ?_ | refine wo_notN (by intro _ h; cases h) ?_)
local macro_rules | `(tactic| walk_at "wc") => `(tactic| first
  | refine wc_len (by first | exact .tup _ | exact .lst _ | exact .bor _ | exact .loc rfl) ?_ | refine wc_int ?_ | refine wc_intB ?_ | refine wc_abs ?_ | refine wc_min2 rfl ?_ | refine wc_max2 rfl ?_ | refine wc_tuple (by first | exact .tup _ | exact .lst _ | exact .bor _ | exact .loc rfl) ?_)
local macro_rules | `(tactic| walk_at "e") => `(tactic| first
  | (with_reducible show WE _ _ _ _ _); walk_at "we"
  | (with_reducible show WT _ _ _ _ _); walk_at "wt"
  | (with_reducible show WTo _ _ _ _ _); walk_at "wto"
  | (with_reducible show WO _ _ _ _ _ _); walk_at "wo"
  | (with_reducible show WA _ _ _ _ _); first | refine wa_cons ?_ (fun _ => rfl) | refine wa_nil ?_
  | (with_reducible show WC _ _ _ _ _); walk_at "wc"
  | (with_reducible show WPO _ _ _ _ _); first | refine wpo_none ?_ | refine wpo_some ?_
  | refine asB_mk ?_ | refine wip_add ?_
  | refine ⟨_, rfl, (by first | decide | exact Nat.le_of_ble_eq_true rfl), ?_⟩)
local macro_rules | `(tactic| walk_at "ew") => `(tactic| ((try simp only [List.set_cons_zero, List.set_cons_succ]); repeat (first | exact EnvW.nil | refine EnvW.keep (by first | rfl | assumption) ?_ | refine EnvW.drop ?_)))
local macro_rules | `(tactic| walk_at "fl") => `(tactic| (refine ⟨_, _, fldL rfl (by repeat (first | with_reducible exact AtN.here | with_reducible apply AtN.there)) rfl, by assumption, NoA.at_ (by assumption) (by walk_at "ing"), ?_⟩))
local macro_rules | `(tactic| walk_at "fv") => `(tactic| (refine ⟨_, _, fldV (by repeat (first | with_reducible exact AtN.here | with_reducible apply AtN.there)) rfl, by assumption, NoA.at_ (by assumption) (by walk_at "ing"), ?_⟩))
end DL
set_option Elab.async false
set_option linter.all false
set_option maxRecDepth 100000
set_option maxHeartbeats 4000000
namespace DL
open PySem PySem.Spec PyProof.Rows
open L2 hiding Takes passAt takes_of ps_raise PMk ps_try_as
open L2N (Takes passAt takes_of ps_raise PMk ps_try_as)
local macro_rules | `(tactic| walk_at "inv") => `(tactic| ((try dsimp only); repeat (first | with_reducible exact InV.here | with_reducible apply InV.there)))
local macro_rules | `(tactic| walk_at "ing") => `(tactic| ((try dsimp only); repeat (first | with_reducible exact InG.here | with_reducible apply InG.there)))
local macro_rules | `(tactic| walk_at "nb") => `(tactic| first | assumption | (dsimp only; refine BltF.at_ (by assumption) ?_; repeat (first | with_reducible exact InG.here | with_reducible apply InG.there)))
local macro_rules | `(tactic| walk_at "s") => `(tactic| first
  | refine wss_cons ?_ | refine wss_nil ?_ | refine ws_set (by walk_at "inv") ?_ (fun _ => rfl) | refine ws_if ?_ | refine ws_ret ?_ | refine ws_aug (by walk_at "inv") rfl ?_
  | refine ws_expr ?_ (fun _ => rfl) | refine ws_pass ?_ | refine ws_break ?_ | refine ws_cont ?_ | refine ws_retN ?_
  | refine ws_setA ?_ (fun _ => rfl) | refine ws_put ?_ (fun _ => rfl) | refine ws_asg ?_ (fun _ => rfl) (fun _ => rfl) (fun _ => rfl))
local macro_rules | `(tactic| walk_at "we") => `(tactic| first
  | refine we_name (by walk_at "inv") rfl ?_ | refine we_int ?_ | refine we_op ?_ | refine we_str ?_
  | refine we_callB (by walk_at "ing") (by walk_at "nb") (by first | exact PySem.boot_len | exact boot_abs | exact boot_min | exact boot_max | exact boot_sorted | exact boot_isinstance) ?_ (fun _ => rfl) (fun _ => rfl)
  | refine we_callT (by walk_at "ing") (by walk_at "nb") (by first | exact boot_tuple | exact boot_list | exact boot_int) ?_ (fun _ => rfl) (fun _ => rfl)
  | refine we_attr ?_ (fun _ => rfl) | refine we_ix ?_ (fun _ _ => rfl) | refine we_tup ?_
  | refine we_append ?_ (fun _ => rfl) (fun _ => rfl) rfl (fun _ => rfl) (fun _ => rfl)
  | refine we_bl ?_ | refine we_non ?_ | refine we_chain ?_ rfl | refine we_cmp ?_ rfl | refine we_one ?_ | refine we_and ?_ | refine we_or ?_ | refine we_not ?_ | refine we_ifx ?_ | refine we_neg ?_ | refine we_slice ?_)
local macro_rules | `(tactic| walk_at "wb") => `(tactic| first | refine we_type (by walk_at "ing") (by walk_at "nb") boot_int ?_ | refine we_type (by walk_at "ing") (by walk_at "nb") boot_bool ?_ | refine we_type (by walk_at "ing") (by walk_at "nb") boot_str ?_ | refine we_type (by walk_at "ing") (by walk_at "nb") boot_tuple ?_)
local macro_rules | `(tactic| walk_at "wt") => `(tactic| first | refine wt_cmp ?_ rfl | refine wt_not ?_ | refine wt_chain ?_ rfl | refine wt_of ?_)
local macro_rules | `(tactic| walk_at "wto") => `(tactic| first | refine wto_and1 ?_ | refine wto_or1 ?_ | refine wto_and ?_ | refine wto_or ?_)
local macro_rules | `(tactic| walk_at "wo") => `(tactic| first
  | refine wo_add ?_ | refine wo_sub ?_ | refine wo_lt ?_ | refine wo_le ?_ | refine wo_gt ?_ | refine wo_ge ?_ | refine wo_eqI ?_ | refine wo_neI ?_ | refine wo_eqL ?_ | refine wo_neL ?_ | refine wo_lt1 ?_ | refine wo_le1 ?_ | refine wo_ge1 ?_ | refine wo_inL ?_ | refine wo_notInL ?_
  | refine wo_mod (by omega) ?_ | refine wo_fdiv ⟨by omega, by omega⟩ ?_ | refine wo_mul (by first | exact Or.inr ⟨by omega, by omega⟩ | exact Or.inl ⟨by omega, by omega⟩) ?_ | refine wo_pow ⟨by omega, by omega, by decide⟩ ?_
  | refine wo_isN (by intro _ h; cases h) ?_ | refine wo_notN (by intro _ h; cases h) ?_)
local macro_rules | `(tactic| walk_at "wc") => `(tactic| first
  | refine wc_len (by first | exact .tup _ | exact .lst _ | exact .bor _ | exact .loc rfl) ?_ | refine wc_int ?_ | refine wc_intB ?_ | refine wc_abs ?_ | refine wc_min2 rfl ?_ | refine wc_max2 rfl ?_ | refine wc_tuple (by first | exact .tup _ | exact .lst _ | exact .bor _ | exact .loc rfl) ?_)
local macro_rules | `(tactic| walk_at "e") => `(tactic| first
  | (with_reducible show WE _ _ _ _ _); walk_at "we"
  | (with_reducible show WT _ _ _ _ _); walk_at "wt"
  | (with_reducible show WTo _ _ _ _ _); walk_at "wto"
  | (with_reducible show WO _ _ _ _ _ _); walk_at "wo"
  | (with_reducible show WA _ _ _ _ _); first | refine wa_cons ?_ (fun _ => rfl) | refine wa_nil ?_
  | (with_reducible show WC _ _ _ _ _); walk_at "wc"
  | (with_reducible show WPO _ _ _ _ _); first | refine wpo_none ?_ | refine wpo_some ?_
  | refine asB_mk ?_ | refine wip_add ?_
  | refine ⟨_, rfl, (by first | decide | exact Nat.le_of_ble_eq_true rfl), ?_⟩)
local macro_rules | `(tactic| walk_at "ew") => `(tactic| ((try simp only [List.set_cons_zero, List.set_cons_succ]); repeat (first | exact EnvW.nil | refine EnvW.keep (by first | rfl | assumption) ?_ | refine EnvW.drop ?_)))
local macro_rules | `(tactic| walk_at "fl") => `(tactic| (refine ⟨_, _, fldL rfl (by repeat (first | with_reducible exact AtN.here | with_reducible apply AtN.there)) rfl, by assumption, NoA.at_ (by assumption) (by walk_at "ing"), ?_⟩))
local macro_rules | `(tactic| walk_at "fv") => `(tactic| (refine ⟨_, _, fldV (by repeat (first | with_reducible exact AtN.here | with_reducible apply AtN.there)) rfl, by assumption, NoA.at_ (by assumption) (by walk_at "ing"), ?_⟩))
/-! ### the calls' short forms, a pool in the store -/
def jSo (k : Nat) (A : Addr) (l : List Nat) (P : List Pr) (lg : Nat) : Sto := [.ins A jF [.val (sL l), .val (.tup (P.map pN)), .loc (k + 1), .loc (k + 2), .loc (k + 3), .val (iN lg)], nl ((txts l P).map sL), .dT (rkK P) ((rkD P).map .val), .dK (nmK (txts l P)) ((nmD (txts l P).length).map .val)]
theorem backNIo (S : Sto) (A : Addr) (l : List Nat) (P : List Pr) (lg : Nat) : backS [S.length] (S ++ [.ins A [] []]) (jS A l P lg) = S ++ jSo S.length A l P lg := by
  have e1 : ∀ x : Node, (S ++ [Node.ins A [] []]).set S.length x = S ++ [x] := fun x => by simp
  have er : ∀ j, rho [S.length] (S ++ [Node.ins A [] []]).length (j + 1) = S.length + (j + 1) := fun j => by
    unfold rho
    simp
    omega
  have e0 : backS [S.length] (S ++ [.ins A [] []]) (jS A l P lg) = (S ++ [Node.ins A [] []]).set S.length (((jS A l P lg).headD .dead).ren (rho [S.length] (S ++ [Node.ins A [] []]).length)) ++ ((jS A l P lg).drop 1).map (Node.ren (rho [S.length] (S ++ [Node.ins A [] []]).length)) := rfl
  rw [e0, e1, List.append_assoc]
  congr 1
  show [Node.ren _ _] ++ [Node.ren _ _, Node.ren _ _, Node.ren _ _] = _
  unfold jSo
  show [_, _, _, _] = _
  congr 1
  · show Node.ins A jF [.val _, .val _, .loc (rho _ _ (0 + 1)), .loc (rho _ _ (1 + 1)), .loc (rho _ _ (2 + 1)), .val _] = _
    rw [er, er, er]
  congr 1
  · show Node.lst _ = _
    rw [ren_vals]
  congr 1
  · show Node.dT _ _ = _
    rw [ren_vals]
  congr 1
  · show Node.dK _ _ = _
    rw [ren_vals]
theorem fnc_NIo {C : DC} {env : Nv} {S : Sto} {Ψ : R → Sto → Prop} {A : Addr} {l : List Nat} {P : List Pr} (h1 : alphB l = true) (h2 : P.length ≤ 100) (h3 : ProperL l P) (h : ∀ lg, LgO l P lg → Ψ (.val .non) (S ++ jSo S.length A l P lg)) : FnC C (spNI A) [.loc S.length, .val (sL l), .val (.lst (P.map pN))] env (S ++ [.ins A [] []]) Ψ := by
  refine ⟨[S.length], [.ins A [] []], [.loc 0, .val (sL l), .val (.lst (P.map pN))], ⟨by simp, rfl, fun j k hj => ?_, rfl⟩, .cons (.loc rfl) (.cons (.val _) (.cons (.val _) .nil)), l, P, rfl, rfl, h1, h2, h3, fun lg hlg => ?_⟩
  · cases j with
    | zero => simp at hj; subst hj; exact ⟨_, rfl, rfl, by simp; rfl⟩
    | succ j => simp at hj
  · show Ψ (.val .non) (backS [S.length] (S ++ [.ins A [] []]) (jS A l P lg))
    rw [backNIo]
    exact h lg hlg
/-- a Joins at rest -/
theorem fz_Jo (S : Sto) (A : Addr) (l : List Nat) (P : List Pr) (lg : Nat) : Fz (S ++ jSo S.length A l P lg) S.length (.loc S.length) (jD A l P lg) := by
  have g : ∀ j, (S ++ jSo S.length A l P lg)[S.length + j]? = (jSo S.length A l P lg)[j]? := fun j => by rw [List.getElem?_append_right (by omega)]; congr 1; omega
  exact .ins (Nat.le_refl _) (g 0) (.cons (.val _) (.cons (.val _) (.cons (.lst (by omega) (g 1) (FzL.vals _)) (.cons (.dT (by omega) (g 2) (FzL.vals _)) (.cons (.dK (by omega) (g 3) (FzL.vals _)) (.cons (.val _) .nil))))))
theorem fnc_PL {C : DC} {env : Nv} {Ψ : R → Sto → Prop} {zs : List Int} {m : Nat} (hz : zs.length ≤ 63) (hm : m ≤ 1000) (h : ∀ (J : List D) (ns : List Nat), ns.length = m → Ψ (.loc 1) [nl J, nN ns]) : FnC C spPL [.bor (zs.map .int), .val (iN m)] env [] Ψ := by
  refine ⟨[], [], _, PassS.nil, .cons (.bor _) (.cons (.val _) .nil), zs, m, rfl, rfl, hz, hm, fun J ns hn => ?_⟩
  show Ψ (.loc 1) [Node.lst _, Node.lst _]
  rw [ren_vals, ren_vals]
  exact h J ns hn
theorem fnc_AB {C : DC} {env : Nv} {S : Sto} {Ψ : R → Sto → Prop} {k : Nat} {ns : List Nat} (hk : S[k]? = some (nN ns)) (hl : ns.length ≤ 100000) (h : ∀ (l ns' : List Nat), alphB l = true → ns'.length ≤ ns.length → Ψ (.val (sL l)) (S.set k (nN ns'))) : FnC C spAB [.loc k] env S Ψ := by
  refine ⟨[k], [nN ns], [.loc 0], passOne hk, .cons (.loc rfl) .nil, ns, rfl, rfl, hl, fun l ns' ha hn => ?_⟩
  show Ψ _ (backS [k] S [nN ns'])
  have := backOne (S := S) (k := k) (ds := ns'.map iN) []
  rw [show backS [k] S [nN ns'] = S.set k (nN ns') ++ [] from this, List.append_nil]
  exact h l ns' ha hn
end DL
set_option Elab.async false
set_option linter.all false
set_option maxRecDepth 100000
set_option maxHeartbeats 4000000
namespace DL
open PySem PySem.Spec PyProof.Rows
open L2 hiding Takes passAt takes_of ps_raise PMk ps_try_as
open L2N (Takes passAt takes_of ps_raise PMk ps_try_as)
local macro_rules | `(tactic| walk_at "inv") => `(tactic| ((try dsimp only); repeat (first | with_reducible exact InV.here | with_reducible apply InV.there)))
local macro_rules | `(tactic| walk_at "ing") => `(tactic| ((try dsimp only); repeat (first | with_reducible exact InG.here | with_reducible apply InG.there)))
local macro_rules | `(tactic| walk_at "nb") => `(tactic| first | assumption | (dsimp only; refine BltF.at_ (by assumption) ?_; repeat (first | with_reducible exact InG.here | with_reducible apply InG.there)))
local macro_rules | `(tactic| walk_at "s") => `(tactic| first
  | refine wss_cons ?_ | refine wss_nil ?_ | refine ws_set (by walk_at "inv") ?_ (fun _ => rfl) | refine ws_if ?_ | refine ws_ret ?_ | refine ws_aug (by walk_at "inv") rfl ?_
  | refine ws_expr ?_ (fun _ => rfl) | refine ws_pass ?_ | refine ws_break ?_ | refine ws_cont ?_ | refine ws_retN ?_
  | refine ws_setA ?_ (fun _ => rfl) | refine ws_put ?_ (fun _ => rfl) | refine ws_asg ?_ (fun _ => rfl) (fun _ => rfl) (fun _ => rfl))
local macro_rules | `(tactic| walk_at "we") => `(tactic| first
  | refine we_name (by walk_at "inv") rfl ?_ | refine we_int ?_ | refine we_op ?_ | refine we_str ?_
  | refine we_callB (by walk_at "ing") (by walk_at "nb") (by first | exact PySem.boot_len | exact boot_abs | exact boot_min | exact boot_max | exact boot_sorted | exact boot_isinstance) ?_ (fun _ => rfl) (fun _ => rfl)
  | refine we_callT (by walk_at "ing") (by walk_at "nb") (by first | exact boot_tuple | exact boot_list | exact boot_int) ?_ (fun _ => rfl) (fun _ => rfl)
  | refine we_attr ?_ (fun _ => rfl) | refine we_ix ?_ (fun _ _ => rfl) | refine we_tup ?_
  | refine we_append ?_ (fun _ => rfl) (fun _ => rfl) rfl (fun _ => rfl) (fun _ => rfl)
  | refine we_bl ?_ | refine we_non ?_ | refine we_chain ?_ rfl | refine we_cmp ?_ rfl | refine we_one ?_ | refine we_and ?_ | refine we_or ?_ | refine we_not ?_ | refine we_ifx ?_ | refine we_neg ?_ | refine we_slice ?_)
local macro_rules | `(tactic| walk_at "wb") => `(tactic| first | refine we_type (by walk_at "ing") (by walk_at "nb") boot_int ?_ | refine we_type (by walk_at "ing") (by walk_at "nb") boot_bool ?_ | refine we_type (by walk_at "ing") (by walk_at "nb") boot_str ?_ | refine we_type (by walk_at "ing") (by walk_at "nb") boot_tuple ?_)
local macro_rules | `(tactic| walk_at "wt") => `(tactic| first | refine wt_cmp ?_ rfl | refine wt_not ?_ | refine wt_chain ?_ rfl | refine wt_of ?_)
local macro_rules | `(tactic| walk_at "wto") => `(tactic| first | refine wto_and1 ?_ | refine wto_or1 ?_ | refine wto_and ?_ | refine wto_or ?_)
local macro_rules | `(tactic| walk_at "wo") => `(tactic| first
  | refine wo_add ?_ | refine wo_sub ?_ | refine wo_lt ?_ | refine wo_le ?_ | refine wo_gt ?_ | refine wo_ge ?_ | refine wo_eqI ?_ | refine wo_neI ?_ | refine wo_eqL ?_ | refine wo_neL ?_ | refine wo_lt1 ?_ | refine wo_le1 ?_ | refine wo_ge1 ?_ | refine wo_inL ?_ | refine wo_notInL ?_
  | refine wo_mod (by omega) ?_ | refine wo_fdiv ⟨by omega, by omega⟩ ?_ | refine wo_mul (by first | exact Or.inr ⟨by omega, by omega⟩ | exact Or.inl ⟨by omega, by omega⟩) ?_ | refine wo_pow ⟨by omega, by omega, by decide⟩ ?_
  | refine wo_isN (by intro _ h; cases h) ?_ | refine wo_notN (by intro _ h; cases h) ?_)
local macro_rules | `(tactic| walk_at "wc") => `(tactic| first
  | refine wc_len (by first | exact .tup _ | exact .lst _ | exact .bor _ | exact .loc rfl) ?_ | refine wc_int ?_ | refine wc_intB ?_ | refine wc_abs ?_ | refine wc_min2 rfl ?_ | refine wc_max2 rfl ?_ | refine wc_tuple (by first | exact .tup _ | exact .lst _ | exact .bor _ | exact .loc rfl) ?_)
local macro_rules | `(tactic| walk_at "e") => `(tactic| first
  | (with_reducible show WE _ _ _ _ _); walk_at "we"
  | (with_reducible show WT _ _ _ _ _); walk_at "wt"
  | (with_reducible show WTo _ _ _ _ _); walk_at "wto"
  | (with_reducible show WO _ _ _ _ _ _); walk_at "wo"
  | (with_reducible show WA _ _ _ _ _); first | refine wa_cons ?_ (fun _ => rfl) | refine wa_nil ?_
  | (with_reducible show WC _ _ _ _ _); walk_at "wc"
  | (with_reducible show WPO _ _ _ _ _); first | refine wpo_none ?_ | refine wpo_some ?_
  | refine asB_mk ?_ | refine wip_add ?_
  | refine ⟨_, rfl, (by first | decide | exact Nat.le_of_ble_eq_true rfl), ?_⟩)
local macro_rules | `(tactic| walk_at "ew") => `(tactic| ((try simp only [List.set_cons_zero, List.set_cons_succ]); repeat (first | exact EnvW.nil | refine EnvW.keep (by first | rfl | assumption) ?_ | refine EnvW.drop ?_)))
local macro_rules | `(tactic| walk_at "fl") => `(tactic| (refine ⟨_, _, fldL rfl (by repeat (first | with_reducible exact AtN.here | with_reducible apply AtN.there)) rfl, by assumption, NoA.at_ (by assumption) (by walk_at "ing"), ?_⟩))
local macro_rules | `(tactic| walk_at "fv") => `(tactic| (refine ⟨_, _, fldV (by repeat (first | with_reducible exact AtN.here | with_reducible apply AtN.there)) rfl, by assumption, NoA.at_ (by assumption) (by walk_at "ing"), ?_⟩))
theorem scSM : FnScope ["_law_told", "_law_due", "_law_k"] ["_law_told", "_law_due"] (defScope (top 38)) := ⟨rfl, rfl, rfl, by decide +kernel, rfl, by decide +kernel, by decide +kernel⟩
theorem ok_sm1 {g : Gd} {f : Addr} {fd : FuncData} (F : FunD g.K "_law_same" "_law_same" (defArgs (top 38)) (defBody (top 38)) (defScope (top 38)) [] [] f fd) (hb : Binds g.K fd ["_law_told", "_law_due"] [])
    (hB : BltF g ["isinstance", "str", "bool", "int", "tuple", "len", "range"]) (m1 : g.mg "_law_same" = some (.ref f)) (n : Nat) (ih : ∀ m, n = m + 1 → FnD g (m + 1) f ["_law_told", "_law_due"] (spSM m)) : FnD g (n + 1) f ["_law_told", "_law_due"] (spSM n) := by
    refine fn_mk F hb scSM (gl := ["isinstance", "str", "bool", "int", "tuple", "len", "range", "_law_same"]) [("_law_told", 0), ("_law_due", 1), ("_law_k", 2)] (by decide +kernel) (by decide +kernel) (fun rs S Ψ ξ h => ?_) (fun rs S Ψ ξ h => ?_)
    · obtain ⟨_, rfl, _⟩ := h; rfl
    · obtain ⟨d, rfl, rfl, hd, hΨ⟩ := h
      cases hd with
      | non =>
        refine wss_cons ?_
        refine ws_if ?_
        refine wt_val ?_ (fun _ _ => rfl)
        repeat walk_at "e"
        walk_at "wb"
        repeat walk_at "e"
        refine wc_isi (T := "NoneType") (q := false) rfl (by decide +kernel) ?_
        repeat walk_at "e"
        refine ⟨fun h => no_t h, fun _ => ?_⟩
        refine wss_nil ?_
        refine wss_cons ?_
        refine ws_if ?_
        repeat walk_at "e"
        refine ⟨fun _ => ?_, fun h => no_f h⟩
        refine wss_one ?_
        refine ws_ret ?_
        repeat walk_at "e"
        exact RetC.now (Nat.le_refl _) rfl rfl hΨ
      | bl b =>
        refine wss_cons ?_
        refine ws_if ?_
        refine wt_val ?_ (fun _ _ => rfl)
        repeat walk_at "e"
        walk_at "wb"
        repeat walk_at "e"
        refine wc_isi (T := "bool") (q := false) rfl (by decide +kernel) ?_
        repeat walk_at "e"
        refine ⟨fun h => no_t h, fun _ => ?_⟩
        refine wss_nil ?_
        refine wss_cons ?_
        refine ws_if ?_
        repeat walk_at "e"
        refine ⟨fun h => no_t h, fun _ => ?_⟩
        refine wss_nil ?_
        refine wss_cons ?_
        refine ws_if ?_
        refine wt_val ?_ (fun _ _ => rfl)
        repeat walk_at "e"
        walk_at "wb"
        repeat walk_at "e"
        refine wc_isi (T := "bool") (q := true) rfl (by decide +kernel) ?_
        repeat walk_at "e"
        refine ⟨fun _ => ?_, fun h => no_f h⟩
        refine wss_one ?_
        refine ws_ret ?_
        repeat walk_at "e"
        walk_at "wb"
        repeat walk_at "e"
        refine wc_isi (T := "bool") (q := true) rfl (by decide +kernel) ?_
        repeat walk_at "e"
        refine ⟨fun _ => ?_, fun h => no_f h⟩
        repeat walk_at "e"
        refine wo_eqB ?_
        rw [beq_self_eq_true]
        exact RetC.now (Nat.le_refl _) rfl rfl hΨ
      | str s =>
        refine wss_cons ?_
        refine ws_if ?_
        refine wt_val ?_ (fun _ _ => rfl)
        repeat walk_at "e"
        walk_at "wb"
        repeat walk_at "e"
        refine wc_isi (T := "str") (q := false) rfl (by decide +kernel) ?_
        repeat walk_at "e"
        refine ⟨fun h => no_t h, fun _ => ?_⟩
        refine wss_nil ?_
        refine wss_cons ?_
        refine ws_if ?_
        repeat walk_at "e"
        refine ⟨fun h => no_t h, fun _ => ?_⟩
        refine wss_nil ?_
        refine wss_cons ?_
        refine ws_if ?_
        refine wt_val ?_ (fun _ _ => rfl)
        repeat walk_at "e"
        walk_at "wb"
        repeat walk_at "e"
        refine wc_isi (T := "str") (q := false) rfl (by decide +kernel) ?_
        repeat walk_at "e"
        refine ⟨fun h => no_t h, fun _ => ?_⟩
        refine wss_nil ?_
        refine wss_cons ?_
        refine ws_if ?_
        refine wt_val ?_ (fun _ _ => rfl)
        repeat walk_at "e"
        walk_at "wb"
        repeat walk_at "e"
        refine wc_isi (T := "str") (q := true) rfl (by decide +kernel) ?_
        repeat walk_at "e"
        refine ⟨fun _ => ?_, fun h => no_f h⟩
        refine wss_one ?_
        refine ws_ret ?_
        repeat walk_at "e"
        walk_at "wb"
        repeat walk_at "e"
        refine wc_isi (T := "str") (q := true) rfl (by decide +kernel) ?_
        repeat walk_at "e"
        refine ⟨fun _ => ?_, fun h => no_f h⟩
        repeat walk_at "e"
        rw [decide_eq_true rfl]
        exact RetC.now (Nat.le_refl _) rfl rfl hΨ
      | int i =>
        refine wss_cons ?_
        refine ws_if ?_
        refine wt_val ?_ (fun _ _ => rfl)
        repeat walk_at "e"
        walk_at "wb"
        repeat walk_at "e"
        refine wc_isi (T := "int") (q := false) rfl (by decide +kernel) ?_
        repeat walk_at "e"
        refine ⟨fun h => no_t h, fun _ => ?_⟩
        refine wss_nil ?_
        refine wss_cons ?_
        refine ws_if ?_
        repeat walk_at "e"
        refine ⟨fun h => no_t h, fun _ => ?_⟩
        refine wss_nil ?_
        refine wss_cons ?_
        refine ws_if ?_
        refine wt_val ?_ (fun _ _ => rfl)
        repeat walk_at "e"
        walk_at "wb"
        repeat walk_at "e"
        refine wc_isi (T := "int") (q := false) rfl (by decide +kernel) ?_
        repeat walk_at "e"
        refine ⟨fun h => no_t h, fun _ => ?_⟩
        refine wss_nil ?_
        refine wss_cons ?_
        refine ws_if ?_
        refine wt_val ?_ (fun _ _ => rfl)
        repeat walk_at "e"
        walk_at "wb"
        repeat walk_at "e"
        refine wc_isi (T := "int") (q := false) rfl (by decide +kernel) ?_
        repeat walk_at "e"
        refine ⟨fun h => no_t h, fun _ => ?_⟩
        refine wss_nil ?_
        refine wss_one ?_
        refine ws_ret ?_
        repeat walk_at "e"
        walk_at "wb"
        repeat walk_at "e"
        refine wc_isi (T := "int") (q := true) rfl (by decide +kernel) ?_
        repeat walk_at "e"
        refine ⟨fun _ => ?_, fun h => no_f h⟩
        repeat walk_at "e"
        walk_at "wb"
        repeat walk_at "e"
        refine wc_isi (T := "int") (q := false) rfl (by decide +kernel) ?_
        repeat walk_at "e"
        refine ⟨fun _ => ?_, fun h => no_f h⟩
        repeat walk_at "e"
        rw [decide_eq_true rfl]
        exact RetC.now (Nat.le_refl _) rfl rfl hΨ
      | @tup m ds hds hl =>
        have G1 := ih m rfl
        refine wss_cons ?_
        refine ws_if ?_
        refine wt_val ?_ (fun _ _ => rfl)
        repeat walk_at "e"
        walk_at "wb"
        repeat walk_at "e"
        refine wc_isi (T := "tuple") (q := true) rfl (by decide +kernel) ?_
        repeat walk_at "e"
        refine ⟨fun _ => ?_, fun h => no_f h⟩
        refine wss_cons ?_
        refine ws_if ?_
        walk_at "e"
        walk_at "e"
        walk_at "e"
        refine wt_val ?_ (fun _ _ => rfl)
        repeat walk_at "e"
        walk_at "wb"
        repeat walk_at "e"
        refine wc_isi (T := "tuple") (q := true) rfl (by decide +kernel) ?_
        repeat walk_at "e"
        refine ⟨fun h => no_t h, fun _ => ?_⟩
        repeat walk_at "e"
        rw [decide_eq_true rfl]
        refine ⟨fun h => no_t h, fun _ => ?_⟩
        refine wss_nil ?_
        refine wss_cons ?_
        refine ws_for rfl ?_ (fun _ _ => rfl)
        refine wi_range1 (by walk_at "ing") (by walk_at "nb") ?_ (fun _ => rfl)
        repeat walk_at "e"
        refine ⟨_, rfl, by omega, fun i env S' => env = [some (.val (.tup ds)), some (.val (.tup ds)), none] ∧ S' = [], Nat.le_refl _, ⟨rfl, rfl⟩, fun _ _ _ _ => trivial, ?_, ?_⟩
        · rintro i d env' S' hd ⟨rfl, rfl⟩
          obtain ⟨hi, rfl⟩ := rangeD_get hd
          have hi : i < ds.length := by simpa using hi
          have hx : ds[i]? = some ds[i] := by simp [hi]
          refine wg_name (by walk_at "inv") ?_
          refine wss_one ?_
          refine ws_if ?_
          refine wt_not ?_
          refine wt_val ?_ (fun _ _ => rfl)
          refine we_call G1 (by walk_at "ing") m1 (Nat.le_refl _) rfl ?_ (fun _ => rfl) (fun _ => rfl)
          repeat walk_at "e"
          refine wix_seq (.tup _) (atI_get (k := i) (by omega) hx) ?_
          repeat walk_at "e"
          refine wix_seq (.tup _) (atI_get (k := i) (by omega) hx) ?_
          repeat walk_at "e"
          refine fnc_SM (hds _ (List.getElem_mem hi)) ?_
          refine ⟨true, rfl, fun h => no_t h, fun _ => ?_⟩
          refine wss_nil ?_
          dsimp only
          exact Wk.drop (env' := [some (.val (.tup ds)), some (.val (.tup ds)), none]) ⟨rfl, rfl⟩ (by walk_at "ew") (Nat.le_refl _) rfl
        · rintro env' S' ⟨rfl, rfl⟩
          refine wss_one ?_
          refine ws_ret ?_
          walk_at "e"
          exact RetC.now (Nat.le_refl _) rfl rfl hΨ
theorem ok_sm {g : Gd} {f : Addr} {fd : FuncData} (F : FunD g.K "_law_same" "_law_same" (defArgs (top 38)) (defBody (top 38)) (defScope (top 38)) [] [] f fd) (hb : Binds g.K fd ["_law_told", "_law_due"] [])
    (hB : BltF g ["isinstance", "str", "bool", "int", "tuple", "len", "range"]) (m1 : g.mg "_law_same" = some (.ref f)) (n : Nat) : FnD g (n + 1) f ["_law_told", "_law_due"] (spSM n) := by
  induction n with
  | zero => exact ok_sm1 F hb hB m1 0 fun m h => by cases h
  | succ n ih => exact ok_sm1 F hb hB m1 (n + 1) fun m h => by cases h; exact ih
end DL
set_option Elab.async false
set_option linter.all false
set_option maxRecDepth 100000
set_option maxHeartbeats 4000000
namespace DL
open PySem PySem.Spec PyProof.Rows
open L2 hiding Takes passAt takes_of ps_raise PMk ps_try_as
open L2N (Takes passAt takes_of ps_raise PMk ps_try_as)
local macro_rules | `(tactic| walk_at "inv") => `(tactic| ((try dsimp only); repeat (first | with_reducible exact InV.here | with_reducible apply InV.there)))
local macro_rules | `(tactic| walk_at "ing") => `(tactic| ((try dsimp only); repeat (first | with_reducible exact InG.here | with_reducible apply InG.there)))
local macro_rules | `(tactic| walk_at "nb") => `(tactic| first | assumption | (dsimp only; refine BltF.at_ (by assumption) ?_; repeat (first | with_reducible exact InG.here | with_reducible apply InG.there)))
local macro_rules | `(tactic| walk_at "s") => `(tactic| first
  | refine wss_cons ?_ | refine wss_nil ?_ | refine ws_set (by walk_at "inv") ?_ (fun _ => rfl) | refine ws_if ?_ | refine ws_ret ?_ | refine ws_aug (by walk_at "inv") rfl ?_
  | refine ws_expr ?_ (fun _ => rfl) | refine ws_pass ?_ | refine ws_break ?_ | refine ws_cont ?_ | refine ws_retN ?_
  | refine ws_setA ?_ (fun _ => rfl) | refine ws_put ?_ (fun _ => rfl) | refine ws_asg ?_ (fun _ => rfl) (fun _ => rfl) (fun _ => rfl))
local macro_rules | `(tactic| walk_at "we") => `(tactic| first
  | refine we_name (by walk_at "inv") rfl ?_ | refine we_int ?_ | refine we_op ?_ | refine we_str ?_
  | refine we_callB (by walk_at "ing") (by walk_at "nb") (by first | exact PySem.boot_len | exact boot_abs | exact boot_min | exact boot_max | exact boot_sorted | exact boot_isinstance) ?_ (fun _ => rfl) (fun _ => rfl)
  | refine we_callT (by walk_at "ing") (by walk_at "nb") (by first | exact boot_tuple | exact boot_list | exact boot_int) ?_ (fun _ => rfl) (fun _ => rfl)
  | refine we_attr ?_ (fun _ => rfl) | refine we_ix ?_ (fun _ _ => rfl) | refine we_tup ?_
  | refine we_append ?_ (fun _ => rfl) (fun _ => rfl) rfl (fun _ => rfl) (fun _ => rfl)
  | refine we_bl ?_ | refine we_non ?_ | refine we_chain ?_ rfl | refine we_cmp ?_ rfl | refine we_one ?_ | refine we_and ?_ | refine we_or ?_ | refine we_not ?_ | refine we_ifx ?_ | refine we_neg ?_ | refine we_slice ?_)
local macro_rules | `(tactic| walk_at "wb") => `(tactic| first | refine we_type (by walk_at "ing") (by walk_at "nb") boot_int ?_ | refine we_type (by walk_at "ing") (by walk_at "nb") boot_bool ?_ | refine we_type (by walk_at "ing") (by walk_at "nb") boot_str ?_ | refine we_type (by walk_at "ing") (by walk_at "nb") boot_tuple ?_)
local macro_rules | `(tactic| walk_at "wt") => `(tactic| first | refine wt_cmp ?_ rfl | refine wt_not ?_ | refine wt_chain ?_ rfl | refine wt_of ?_)
local macro_rules | `(tactic| walk_at "wto") => `(tactic| first | refine wto_and1 ?_ | refine wto_or1 ?_ | refine wto_and ?_ | refine wto_or ?_)
local macro_rules | `(tactic| walk_at "wo") => `(tactic| first
  | refine wo_add ?_ | refine wo_sub ?_ | refine wo_lt ?_ | refine wo_le ?_ | refine wo_gt ?_ | refine wo_ge ?_ | refine wo_eqI ?_ | refine wo_neI ?_ | refine wo_eqL ?_ | refine wo_neL ?_ | refine wo_lt1 ?_ | refine wo_le1 ?_ | refine wo_ge1 ?_ | refine wo_inL ?_ | refine wo_notInL ?_
  | refine wo_mod (by omega) ?_ | refine wo_fdiv ⟨by omega, by omega⟩ ?_ | refine wo_mul (by first | exact Or.inr ⟨by omega, by omega⟩ | exact Or.inl ⟨by omega, by omega⟩) ?_ | refine wo_pow ⟨by omega, by omega, by decide⟩ ?_
  | refine wo_isN (by intro _ h; cases h) ?_ | refine wo_notN (by intro _ h; cases h) ?_)
local macro_rules | `(tactic| walk_at "wc") => `(tactic| first
  | refine wc_len (by first | exact .tup _ | exact .lst _ | exact .bor _ | exact .loc rfl) ?_ | refine wc_int ?_ | refine wc_intB ?_ | refine wc_abs ?_ | refine wc_min2 rfl ?_ | refine wc_max2 rfl ?_ | refine wc_tuple (by first | exact .tup _ | exact .lst _ | exact .bor _ | exact .loc rfl) ?_)
local macro_rules | `(tactic| walk_at "e") => `(tactic| first
  | (with_reducible show WE _ _ _ _ _); walk_at "we"
  | (with_reducible show WT _ _ _ _ _); walk_at "wt"
  | (with_reducible show WTo _ _ _ _ _); walk_at "wto"
  | (with_reducible show WO _ _ _ _ _ _); walk_at "wo"
  | (with_reducible show WA _ _ _ _ _); first | refine wa_cons ?_ (fun _ => rfl) | refine wa_nil ?_
  | (with_reducible show WC _ _ _ _ _); walk_at "wc"
  | (with_reducible show WPO _ _ _ _ _); first | refine wpo_none ?_ | refine wpo_some ?_
  | refine asB_mk ?_ | refine wip_add ?_
  | refine ⟨_, rfl, (by first | decide | exact Nat.le_of_ble_eq_true rfl), ?_⟩)
local macro_rules | `(tactic| walk_at "ew") => `(tactic| ((try simp only [List.set_cons_zero, List.set_cons_succ]); repeat (first | exact EnvW.nil | refine EnvW.keep (by first | rfl | assumption) ?_ | refine EnvW.drop ?_)))
local macro_rules | `(tactic| walk_at "fl") => `(tactic| (refine ⟨_, _, fldL rfl (by repeat (first | with_reducible exact AtN.here | with_reducible apply AtN.there)) rfl, by assumption, NoA.at_ (by assumption) (by walk_at "ing"), ?_⟩))
local macro_rules | `(tactic| walk_at "fv") => `(tactic| (refine ⟨_, _, fldV (by repeat (first | with_reducible exact AtN.here | with_reducible apply AtN.there)) rfl, by assumption, NoA.at_ (by assumption) (by walk_at "ing"), ?_⟩))
def flD (fl : List (List Nat)) : D := .lst (fl.map fun r => .lst (r.map iN))
def cnD (fl : List (List Nat)) (k : Nat) : D := .lst ((List.range fl.length).map fun x => iN (cnF fl k x))
/-! ### pieces -/
theorem scPI : FnScope ["self"] ["self"] (defScope (inClass (top 16) 3)) := ⟨rfl, rfl, rfl, by decide +kernel, rfl, by decide +kernel, by decide +kernel⟩
abbrev spPI (A : Addr) := spF JV (fun p => [jD A p.l p.P p.lg]) JV.ok (fun p => iN (txts p.l p.P).length)
theorem ok_pi {g : Gd} {f A : Addr} {fd : FuncData} (F : FunD g.K "pieces" "Joins.pieces" (defArgs (inClass (top 16) 3)) (defBody (inClass (top 16) 3)) (defScope (inClass (top 16) 3)) [] [] f fd) (hb : Binds g.K fd ["self"] [])
    (hB : BltF g ["len"]) (hcl : Cls g.K A) (hna : NoA g A jF) : FnD g 1 f ["self"] (spPI A) := by
  refine fn_mk F hb scPI (gl := ["len"]) [("self", 0)] (by decide +kernel) (by decide +kernel) (fun rs S Ψ ξ h => ?_) (fun rs S Ψ ξ h => ?_)
  · obtain ⟨_, rfl, _⟩ := h; rfl
  · obtain ⟨⟨l, P, lg⟩, rfl, rfl, hok, hΨ⟩ := h
    refine wss_one ?_
    walk_at "s"
    repeat walk_at "e"
    walk_at "fv"
    repeat walk_at "e"
    rw [List.length_map]
    exact RetC.now (Nat.le_refl _) rfl rfl hΨ
/-! ### followers_of -/
abbrev spFo (A : Addr) := spF JV (fun p => [jD A p.l p.P p.lg]) (fun p => p.ok ∧ GoodS p.l p.P) (fun p => flD (fowL p.l p.P))
theorem scFo : FnScope ["joins", "pieces", "left", "right"] ["joins"] (defScope (top 23)) := ⟨rfl, rfl, rfl, by decide +kernel, rfl, by decide +kernel, by decide +kernel⟩
theorem ok_fo {g : Gd} {f f1 f2 fp A : Addr} {fd : FuncData} (F : FunD g.K "followers_of" "followers_of" (defArgs (top 23)) (defBody (top 23)) (defScope (top 23)) [] [] f fd) (hb : Binds g.K fd ["joins"] [])
    (hB : BltF g ["list", "range"]) (hcl : Cls g.K A) (GPI : FnD g 1 f1 ["self"] (spPI A)) (pPI : PropOf g.K A "pieces" fp f1) (GSS : FnD g 7 f2 ["joins", "left", "right"] (spSS A)) (mSS : g.mg "side_by_side" = some (.ref f2)) : FnD g 8 f ["joins"] (spFo A) := by
  refine fn_mk F hb scFo (gl := ["list", "range"]) [("joins", 0), ("pieces", 1)] (by decide +kernel) (by decide +kernel) (fun rs S Ψ ξ h => ?_) (fun rs S Ψ ξ h => ?_)
  · obtain ⟨_, rfl, _⟩ := h; rfl
  · obtain ⟨⟨l, P, lg⟩, rfl, rfl, ⟨hok, hg⟩, hΨ⟩ := h
    dsimp only at hΨ hg
    have htl := txts_len l P
    have hml : l.length + P.length ≤ 1030 := by have h1 := hok.1; have h2 := hok.2; dsimp only at h1 h2; omega
    refine wss_cons ?_
    refine ws_set (by walk_at "inv") ?_ (fun _ => rfl)
    refine we_listRg1 (by walk_at "ing") (by walk_at "nb") (by walk_at "ing") (by walk_at "nb") rfl ?_ (fun _ => rfl) (fun _ => rfl)
    refine we_prop GPI hcl pPI (Nat.le_of_ble_eq_true rfl) rfl ?_ (fun _ => rfl)
    repeat walk_at "e"
    refine ⟨_, .val _ _ _, fun D hD => ?_⟩
    refine fnc_F (A := JV) ⟨l, P, lg⟩ rfl hok ?_
    dsimp only
    rw [htl]
    refine ⟨_, rfl, by omega, ?_⟩
    rw [rangeN]
    generalize hm : l.length + P.length = m at *
    show WSs _ _ [some (.val (jD A l P lg)), some (.loc 0), none, none] [nl ((List.range m).map iN)] _
    refine wss_one ?_
    refine ws_ret ?_
    refine we_lc [("left", 2)] [("joins", 0), ("pieces", 1), ("left", 2)] [("left", 2)] [] (by dsimp only; decide +kernel) rfl ?_ (fun _ _ => rfl)
    refine wi_seq ?_
    repeat walk_at "e"
    refine ⟨_, .loc rfl, fun i S' => S' = [nl ((List.range m).map iN), nl (((fowL l P).take i).map fun r => .lst (r.map iN))], rfl, fun _ S' h => by rw [h]; rfl, ?_, ?_⟩
    · rintro i d S' hd rfl
      rw [List.getElem?_map] at hd
      obtain ⟨x, hx, rfl⟩ := Option.map_eq_some_iff.mp hd
      obtain ⟨hi, ex⟩ := List.getElem?_eq_some_iff.mp hx
      rw [List.getElem_range] at ex
      subst ex
      rw [List.length_range] at hi
      refine wgw_name (by walk_at "inv") (by decide) ?_
      refine wts_nil ⟨fun h => (by cases h), fun _ => ?_⟩
      refine we_settle ?_
      refine we_lc [("right", 3)] [("joins", 0), ("left", 2), ("right", 3)] [("right", 3)] ["side_by_side"] (by dsimp only; decide +kernel) rfl ?_ (fun _ _ => rfl)
      refine wi_seq ?_
      repeat walk_at "e"
      refine ⟨_, .loc rfl, fun j S' => S' = [nl ((List.range m).map iN), nl (((fowL l P).take i).map fun r => .lst (r.map iN)), nl ((((List.range m).take j).filter fun y => (crossF l.length P i y).isNone).map iN)], rfl, fun _ S' h => by rw [h]; rfl, ?_, ?_⟩
      · rintro j d S' hd rfl
        rw [List.getElem?_map] at hd
        obtain ⟨y, hy, rfl⟩ := Option.map_eq_some_iff.mp hd
        obtain ⟨hj, ey⟩ := List.getElem?_eq_some_iff.mp hy
        rw [List.getElem_range] at ey
        subst ey
        rw [List.length_range] at hj
        have en : ((List.range m).take (j + 1)).filter (fun y => (crossF l.length P i y).isNone) = ((List.range m).take j).filter (fun y => (crossF l.length P i y).isNone) ++ if (crossF l.length P i j).isNone then [j] else [] := by
          rw [List.take_add_one, hy, List.filter_append]
          congr 1
          show [j].filter _ = _
          by_cases q : (crossF l.length P i j).isNone = true
          · rw [if_pos q]; exact List.filter_cons_of_pos q
          · rw [if_neg q]; exact List.filter_cons_of_neg q
        have hfl : (((List.range m).take j).filter fun y => (crossF l.length P i y).isNone).length ≤ j := Nat.le_trans (List.length_filter_le _ _) (by simp; omega)
        refine wgw_name (by walk_at "inv") (by decide) ?_
        refine wts_one ?_
        refine wt_val ?_ (fun _ _ => rfl)
        refine we_call GSS (by walk_at "ing") mSS (Nat.le_of_ble_eq_true rfl) rfl ?_ (fun _ => rfl) (fun _ => rfl)
        repeat walk_at "e"
        refine fnc_F (A := JX) ⟨⟨l, P, lg⟩, i, j⟩ rfl ⟨hok, good_wf P hg, by show i < l.length + P.length; omega, by show j < l.length + P.length; omega⟩ ?_
        refine ⟨_, rfl, fun h => ?_, fun h => ?_⟩
        · show _ = _
          rw [en, if_neg (by rw [h]; decide), List.append_nil]
        · repeat walk_at "e"
          refine ⟨_, rfl, by simp only [List.length_map, sizeLine_eq]; omega, ?_⟩
          show _ = _
          rw [en, if_pos h, List.map_append]
          show [_, _, Node.lst (_ ++ [R.val (iN j)])] = [_, _, Node.lst (List.map R.val (List.map iN _ ++ [iN j]))]
          rw [List.map_append]
          rfl
      · rintro S' rfl
        rw [List.length_map, List.take_length]
        have e : (fowL l P).take (i + 1) = (fowL l P).take i ++ [(List.range m).filter fun y => (crossF l.length P i y).isNone] := by
          rw [List.take_add_one, fowL_at (by omega), hm]; rfl
        refine ⟨2, _, Nat.le_refl _, by simp, by simp [okB_nl], .inr ⟨_, .lst (Nat.le_refl _) rfl (FzL.vals _), rfl⟩, ?_⟩
        refine ⟨_, rfl, by simp only [List.length_map, List.length_take, sizeLine_eq]; omega, ?_⟩
        show _ = _
        rw [e]
        simp
    · rintro S' rfl
      rw [List.length_map, List.length_range, List.take_of_length_le (by rw [fowL_len]; omega)]
      exact RetC.fixL rfl hΨ
end DL
set_option Elab.async false
set_option linter.all false
set_option maxRecDepth 100000
set_option maxHeartbeats 4000000
namespace DL
open PySem PySem.Spec PyProof.Rows
open L2 hiding Takes passAt takes_of ps_raise PMk ps_try_as
open L2N (Takes passAt takes_of ps_raise PMk ps_try_as)
local macro_rules | `(tactic| walk_at "inv") => `(tactic| ((try dsimp only); repeat (first | with_reducible exact InV.here | with_reducible apply InV.there)))
local macro_rules | `(tactic| walk_at "ing") => `(tactic| ((try dsimp only); repeat (first | with_reducible exact InG.here | with_reducible apply InG.there)))
local macro_rules | `(tactic| walk_at "nb") => `(tactic| first | assumption | (dsimp only; refine BltF.at_ (by assumption) ?_; repeat (first | with_reducible exact InG.here | with_reducible apply InG.there)))
local macro_rules | `(tactic| walk_at "s") => `(tactic| first
  | refine wss_cons ?_ | refine wss_nil ?_ | refine ws_set (by walk_at "inv") ?_ (fun _ => rfl) | refine ws_if ?_ | refine ws_ret ?_ | refine ws_aug (by walk_at "inv") rfl ?_
  | refine ws_expr ?_ (fun _ => rfl) | refine ws_pass ?_ | refine ws_break ?_ | refine ws_cont ?_ | refine ws_retN ?_
  | refine ws_setA ?_ (fun _ => rfl) | refine ws_put ?_ (fun _ => rfl) | refine ws_asg ?_ (fun _ => rfl) (fun _ => rfl) (fun _ => rfl))
local macro_rules | `(tactic| walk_at "we") => `(tactic| first
  | refine we_name (by walk_at "inv") rfl ?_ | refine we_int ?_ | refine we_op ?_ | refine we_str ?_
  | refine we_callB (by walk_at "ing") (by walk_at "nb") (by first | exact PySem.boot_len | exact boot_abs | exact boot_min | exact boot_max | exact boot_sorted | exact boot_isinstance) ?_ (fun _ => rfl) (fun _ => rfl)
  | refine we_callT (by walk_at "ing") (by walk_at "nb") (by first | exact boot_tuple | exact boot_list | exact boot_int) ?_ (fun _ => rfl) (fun _ => rfl)
  | refine we_attr ?_ (fun _ => rfl) | refine we_ix ?_ (fun _ _ => rfl) | refine we_tup ?_
  | refine we_append ?_ (fun _ => rfl) (fun _ => rfl) rfl (fun _ => rfl) (fun _ => rfl)
  | refine we_bl ?_ | refine we_non ?_ | refine we_chain ?_ rfl | refine we_cmp ?_ rfl | refine we_one ?_ | refine we_and ?_ | refine we_or ?_ | refine we_not ?_ | refine we_ifx ?_ | refine we_neg ?_ | refine we_slice ?_)
local macro_rules | `(tactic| walk_at "wb") => `(tactic| first | refine we_type (by walk_at "ing") (by walk_at "nb") boot_int ?_ | refine we_type (by walk_at "ing") (by walk_at "nb") boot_bool ?_ | refine we_type (by walk_at "ing") (by walk_at "nb") boot_str ?_ | refine we_type (by walk_at "ing") (by walk_at "nb") boot_tuple ?_)
local macro_rules | `(tactic| walk_at "wt") => `(tactic| first | refine wt_cmp ?_ rfl | refine wt_not ?_ | refine wt_chain ?_ rfl | refine wt_of ?_)
local macro_rules | `(tactic| walk_at "wto") => `(tactic| first | refine wto_and1 ?_ | refine wto_or1 ?_ | refine wto_and ?_ | refine wto_or ?_)
local macro_rules | `(tactic| walk_at "wo") => `(tactic| first
  | refine wo_add ?_ | refine wo_sub ?_ | refine wo_lt ?_ | refine wo_le ?_ | refine wo_gt ?_ | refine wo_ge ?_ | refine wo_eqI ?_ | refine wo_neI ?_ | refine wo_eqL ?_ | refine wo_neL ?_ | refine wo_lt1 ?_ | refine wo_le1 ?_ | refine wo_ge1 ?_ | refine wo_inL ?_ | refine wo_notInL ?_
  | refine wo_mod (by omega) ?_ | refine wo_fdiv ⟨by omega, by omega⟩ ?_ | refine wo_mul (by first | exact Or.inr ⟨by omega, by omega⟩ | exact Or.inl ⟨by omega, by omega⟩) ?_ | refine wo_pow ⟨by omega, by omega, by decide⟩ ?_
  | refine wo_isN (by intro _ h; cases h) ?_ | refine wo_notN (by intro _ h; cases h) ?_)
local macro_rules | `(tactic| walk_at "wc") => `(tactic| first
  | refine wc_len (by first | exact .tup _ | exact .lst _ | exact .bor _ | exact .loc rfl) ?_ | refine wc_int ?_ | refine wc_intB ?_ | refine wc_abs ?_ | refine wc_min2 rfl ?_ | refine wc_max2 rfl ?_ | refine wc_tuple (by first | exact .tup _ | exact .lst _ | exact .bor _ | exact .loc rfl) ?_)
local macro_rules | `(tactic| walk_at "e") => `(tactic| first
  | (with_reducible show WE _ _ _ _ _); walk_at "we"
  | (with_reducible show WT _ _ _ _ _); walk_at "wt"
  | (with_reducible show WTo _ _ _ _ _); walk_at "wto"
  | (with_reducible show WO _ _ _ _ _ _); walk_at "wo"
  | (with_reducible show WA _ _ _ _ _); first | refine wa_cons ?_ (fun _ => rfl) | refine wa_nil ?_
  | (with_reducible show WC _ _ _ _ _); walk_at "wc"
  | (with_reducible show WPO _ _ _ _ _); first | refine wpo_none ?_ | refine wpo_some ?_
  | refine asB_mk ?_ | refine wip_add ?_
  | refine ⟨_, rfl, (by first | decide | exact Nat.le_of_ble_eq_true rfl), ?_⟩)
local macro_rules | `(tactic| walk_at "ew") => `(tactic| ((try simp only [List.set_cons_zero, List.set_cons_succ]); repeat (first | exact EnvW.nil | refine EnvW.keep (by first | rfl | assumption) ?_ | refine EnvW.drop ?_)))
local macro_rules | `(tactic| walk_at "fl") => `(tactic| (refine ⟨_, _, fldL rfl (by repeat (first | with_reducible exact AtN.here | with_reducible apply AtN.there)) rfl, by assumption, NoA.at_ (by assumption) (by walk_at "ing"), ?_⟩))
local macro_rules | `(tactic| walk_at "fv") => `(tactic| (refine ⟨_, _, fldV (by repeat (first | with_reducible exact AtN.here | with_reducible apply AtN.there)) rfl, by assumption, NoA.at_ (by assumption) (by walk_at "ing"), ?_⟩))
/-! ### behind_counts -/
def cnsD (fl : List (List Nat)) (k : Nat) : D := .lst ((List.range (k + 1)).map (cnD fl))
structure FC where
  fl : List (List Nat)
  k : Nat
def FC.ok (p : FC) : Prop := FlOk p.fl ∧ p.fl.length ≤ 100000 ∧ p.k ≤ 1000
abbrev spBc := spF FC (fun p => [flD p.fl, iN p.k]) FC.ok (fun p => cnsD p.fl p.k)
theorem row_le {fl : List (List Nat)} (h : FlOk fl) {r : List Nat} (hr : r ∈ fl) : r.length ≤ fl.length := by
  have h1 := h.so r hr
  have h2 := h.lt r hr
  have : ∀ (r : List Nat) (a b : Nat), r.Pairwise (· < ·) → (∀ y ∈ r, a ≤ y ∧ y < b) → r.length ≤ b - a := by
    intro r
    induction r with
    | nil => intro a b _ _; exact Nat.zero_le _
    | cons x r ih =>
      intro a b hp hm
      obtain ⟨h1, h2⟩ := List.pairwise_cons.mp hp
      have hx := hm x (by simp)
      have := ih (x + 1) b h2 fun y hy => ⟨h1 y hy, (hm y (by simp [hy])).2⟩
      rw [List.length_cons]; omega
  exact this r 0 fl.length h1 fun y hy => ⟨Nat.zero_le _, h2 y hy⟩
theorem cn_get {fl : List (List Nat)} {y : Nat} (h : y < fl.length) : (List.range fl.length)[y]? = some y := by simp [h]
theorem scBc : FnScope ["followers", "many", "counts", "_", "last", "row", "piece"] ["followers", "many"] (defScope (top 24)) := ⟨rfl, rfl, rfl, by decide +kernel, rfl, by decide +kernel, by decide +kernel⟩
theorem ok_bc {g : Gd} {f : Addr} {fd : FuncData} (F : FunD g.K "behind_counts" "behind_counts" (defArgs (top 24)) (defBody (top 24)) (defScope (top 24)) [] [] f fd) (hb : Binds g.K fd ["followers", "many"] [])
    (hB : BltF g ["range", "sum"]) : FnD g 1 f ["followers", "many"] spBc := by
  refine fn_mk F hb scBc (gl := ["range"]) [("followers", 0), ("many", 1), ("counts", 2), ("_", 3), ("last", 4)] (by decide +kernel) (by decide +kernel) (fun rs S Ψ ξ h => ?_) (fun rs S Ψ ξ h => ?_)
  · obtain ⟨_, rfl, _⟩ := h; rfl
  · obtain ⟨⟨fl, k⟩, rfl, rfl, ⟨hfl, hll, hk⟩, hΨ⟩ := h
    dsimp only at hΨ hfl hll hk
    refine wss_cons ?_
    refine ws_set (by walk_at "inv") ?_ (fun _ => rfl)
    refine we_lstN ?_
    refine wa_cons ?_ (fun _ => rfl)
    refine we_settle ?_
    refine we_lc [("_", 3)] [("_", 3)] [("_", 3)] [] (by dsimp only; decide +kernel) rfl ?_ (fun _ _ => rfl)
    refine wi_seq ?_
    repeat walk_at "e"
    refine ⟨_, .lst _, fun i S' => S' = [nl ((fl.take i).map fun _ => iN 1)], rfl, fun _ S' _ => trivial, ?_, ?_⟩
    · rintro i d S' hd rfl
      rw [List.getElem?_map] at hd
      obtain ⟨r, hr, rfl⟩ := Option.map_eq_some_iff.mp hd
      have hi := (List.getElem?_eq_some_iff.mp hr).1
      refine wgw_name (by walk_at "inv") (by decide) ?_
      refine wts_nil ⟨fun h => (by cases h), fun _ => ?_⟩
      repeat walk_at "e"
      refine ⟨_, rfl, by simp [sizeLine_eq]; omega, ?_⟩
      show _ = _
      rw [List.take_add_one, hr]
      simp
    rintro S' rfl
    rw [List.length_map, List.take_length]
    refine ⟨0, _, Nat.le_refl _, by simp, rfl, .inr ⟨_, .lst (Nat.le_refl _) rfl (FzL.vals _), rfl⟩, ?_⟩
    repeat walk_at "e"
    have e0 : fl.map (fun _ => iN 1) = (List.range fl.length).map fun x => iN (cnF fl 0 x) := by
      show fl.map (fun _ => iN 1) = (List.range fl.length).map fun _ => iN 1
      rw [List.map_const', List.map_const', List.length_range]
    rw [e0]
    show WSs _ _ [some (.val (flD fl)), some (.val (iN k)), some (.loc 0), none, none, none, none] [nl ((List.range (0 + 1)).map (cnD fl))] _
    refine wss_cons ?_
    refine ws_for rfl ?_ (fun _ _ => rfl)
    refine wi_range1 (by walk_at "ing") (by walk_at "nb") ?_ (fun _ => rfl)
    repeat walk_at "e"
    refine ⟨_, rfl, by omega, fun i env S' => env = [some (.val (flD fl)), some (.val (iN k)), some (.loc 0), none, none, none, none] ∧ S' = [nl ((List.range (i + 1)).map (cnD fl))], Nat.zero_le _, ⟨rfl, rfl⟩, fun _ _ _ _ => trivial, ?_, ?_⟩
    · rintro i d env' S' hd ⟨rfl, rfl⟩
      obtain ⟨hi, rfl⟩ := rangeD_get hd
      refine wg_name (by walk_at "inv") ?_
      refine wss_cons ?_
      walk_at "s"
      repeat walk_at "e"
      refine ⟨_, rfl, ?_⟩
      refine wix_seq (.loc rfl) (d := cnD fl i) (atI_last (k := 0) (by omega) (by simp) (by simp)) ?_
      refine wss_one ?_
      walk_at "s"
      refine we_append ?_ (fun _ => rfl) (fun _ => rfl) rfl (fun _ => rfl) (fun _ => rfl)
      repeat walk_at "e"
      refine ⟨0, _, rfl, rfl, ?_⟩
      refine we_settle ?_
      refine we_lc [("row", 5)] [("last", 4), ("row", 5)] [("row", 5)] ["sum"] (by dsimp only; decide +kernel) rfl ?_ (fun _ _ => rfl)
      refine wi_seq ?_
      repeat walk_at "e"
      refine ⟨_, .lst _, fun j S' => S' = [nl ((List.range (i + 1)).map (cnD fl)), nl (((List.range fl.length).take j).map fun x => iN (cnF fl (i + 1) x))], rfl, fun _ S' _ => trivial, ?_, ?_⟩
      · rintro j d S' hd rfl
        rw [List.getElem?_map] at hd
        obtain ⟨r, hr, rfl⟩ := Option.map_eq_some_iff.mp hd
        have hj := (List.getElem?_eq_some_iff.mp hr).1
        have hrl := row_le hfl (List.mem_of_getElem? hr)
        have hrm := hfl.lt r (List.mem_of_getElem? hr)
        refine wgw_name (by walk_at "inv") (by decide) ?_
        refine wts_nil ⟨fun h => (by cases h), fun _ => ?_⟩
        refine we_settle ?_
        refine we_callB (by walk_at "ing") (by walk_at "nb") PyProof.Rows.boot_sum ?_ (fun _ => rfl) (fun _ => rfl)
        refine wa_cons ?_ (fun _ => rfl)
        refine we_lc [("piece", 6)] [("last", 4), ("piece", 6)] [("piece", 6)] [] (by dsimp only; decide +kernel) rfl ?_ (fun _ _ => rfl)
        refine wi_seq ?_
        repeat walk_at "e"
        refine ⟨_, .lst _, fun z S' => S' = [nl ((List.range (i + 1)).map (cnD fl)), nl (((List.range fl.length).take j).map fun x => iN (cnF fl (i + 1) x)), nl ((r.take z).map fun y => iN (cnF fl i y))], rfl, fun _ S' _ => trivial, ?_, ?_⟩
        · rintro z d S' hd rfl
          rw [List.getElem?_map] at hd
          obtain ⟨y, hy, rfl⟩ := Option.map_eq_some_iff.mp hd
          have hz := (List.getElem?_eq_some_iff.mp hy).1
          refine wgw_name (by walk_at "inv") (by decide) ?_
          refine wts_nil ⟨fun h => (by cases h), fun _ => ?_⟩
          repeat walk_at "e"
          refine wix_F (g := fun x => iN (cnF fl i x)) (.lst _) rfl (cn_get (hrm y (List.mem_of_getElem? hy))) ?_
          refine ⟨_, rfl, by simp [sizeLine_eq]; omega, ?_⟩
          show _ = _
          rw [List.take_add_one, hy]
          simp
        rintro S' rfl
        rw [List.length_map, List.take_length]
        refine wa_nil ?_
        refine wc_sumI rfl (ns := r.map fun y => (cnF fl i y : Int)) (.loc (by rw [List.map_map]; rfl)) ?_
        rw [sum_cast]
        refine ⟨2, _, Nat.le_refl _, by simp, by simp [okB_nl], .inl ⟨rfl, rfl⟩, ?_⟩
        refine ⟨_, rfl, by simp only [List.length_map, List.length_take, sizeLine_eq]; omega, ?_⟩
        have e : (List.range fl.length).take (j + 1) = (List.range fl.length).take j ++ [j] := by rw [List.take_add_one, cn_get hj]; rfl
        have e2 : cnF fl (i + 1) j = (r.map (cnF fl i)).sum := by
          show ((fl.getD j []).map (cnF fl i)).sum = _
          rw [List.getD_eq_getElem?_getD, hr]; rfl
        show _ = _
        rw [e, List.map_append, List.map_cons, e2]
        simp
      rintro S' rfl
      rw [List.length_map, show (List.range fl.length).take fl.length = List.range fl.length from List.take_of_length_le (by simp)]
      refine ⟨1, _, Nat.le_refl _, by simp, by simp [okB_nl], .inr ⟨cnD fl (i + 1), .lst (Nat.le_refl _) rfl (FzL.vals _), rfl⟩, ?_⟩
      refine ⟨_, _, rfl, rfl, by simp [sizeLine_eq]; omega, ?_⟩
      dsimp only
      refine Wk.drop (env' := [some (.val (flD fl)), some (.val (iN k)), some (.loc 0), none, none, none, none]) ⟨rfl, ?_⟩ (by walk_at "ew") (Nat.le_refl _) (by simp [okB_nl])
      rw [List.range_succ (n := i + 1), List.map_append]
      rfl
    · rintro env' S' ⟨rfl, rfl⟩
      rw [rangeD_len]
      refine wss_one ?_
      walk_at "s"
      repeat walk_at "e"
      exact RetC.fixL rfl hΨ
/-! ### count_cuts -/
structure JK extends JV where
  k : Nat
abbrev spCc (A : Addr) := spF JK (fun p => [jD A p.l p.P p.lg, iN p.k]) (fun p => p.toJV.ok ∧ GoodS p.l p.P ∧ p.k ≤ 1000) (fun p => iN (TF (fowL p.l p.P) p.k none))
theorem scCc : FnScope ["joins", "many"] ["joins", "many"] (defScope (top 25)) := ⟨rfl, rfl, rfl, by decide +kernel, rfl, by decide +kernel, by decide +kernel⟩
theorem ok_cc {g : Gd} {f f1 f2 A : Addr} {fd : FuncData} (F : FunD g.K "count_cuts" "count_cuts" (defArgs (top 25)) (defBody (top 25)) (defScope (top 25)) [] [] f fd) (hb : Binds g.K fd ["joins", "many"] [])
    (hB : BltF g ["sum"]) (GFo : FnD g 8 f1 ["joins"] (spFo A)) (mFo : g.mg "followers_of" = some (.ref f1)) (GBc : FnD g 1 f2 ["followers", "many"] spBc) (mBc : g.mg "behind_counts" = some (.ref f2)) : FnD g 9 f ["joins", "many"] (spCc A) := by
  refine fn_mk F hb scCc (gl := ["sum", "followers_of", "behind_counts"]) [("joins", 0), ("many", 1)] (by decide +kernel) (by decide +kernel) (fun rs S Ψ ξ h => ?_) (fun rs S Ψ ξ h => ?_)
  · obtain ⟨_, rfl, _⟩ := h; rfl
  · obtain ⟨⟨⟨l, P, lg⟩, k⟩, rfl, rfl, ⟨hok, hg, hk⟩, hΨ⟩ := h
    dsimp only at hΨ hg hk
    have hml : l.length + P.length ≤ 1030 := by have h1 := hok.1; have h2 := hok.2; dsimp only at h1 h2; omega
    refine wss_cons ?_
    refine ws_if ?_
    repeat walk_at "e"
    refine ⟨fun h => ?_, fun h => ?_⟩
    · have h : (k : Int) = 0 := of_decide_eq_true h
      have : k = 0 := by omega
      subst this
      refine wss_one ?_
      walk_at "s"
      repeat walk_at "e"
      exact RetC.now (Nat.le_refl _) rfl rfl hΨ
    · have h : ¬ (k : Int) = 0 := of_decide_eq_false h
      obtain ⟨k, rfl⟩ : ∃ z, k = z + 1 := ⟨k - 1, by omega⟩
      walk_at "s"
      refine wss_one ?_
      walk_at "s"
      refine we_callB (by walk_at "ing") (by walk_at "nb") PyProof.Rows.boot_sum ?_ (fun _ => rfl) (fun _ => rfl)
      repeat walk_at "e"
      refine we_call GBc (by walk_at "ing") mBc (Nat.le_of_ble_eq_true rfl) rfl ?_ (fun _ => rfl) (fun _ => rfl)
      repeat walk_at "e"
      refine we_call GFo (by walk_at "ing") mFo (Nat.le_of_ble_eq_true rfl) rfl ?_ (fun _ => rfl) (fun _ => rfl)
      repeat walk_at "e"
      refine fnc_F (A := JV) ⟨l, P, lg⟩ rfl ⟨hok, hg⟩ ?_
      repeat walk_at "e"
      dsimp only
      rw [show ((k + 1 : Nat) : Int) - 1 = (k : Int) by omega]
      refine fnc_F (A := FC) ⟨fowL l P, k⟩ rfl ⟨fowL_ok, by show (fowL l P).length ≤ 100000; rw [fowL_len]; omega, by show k ≤ 1000; omega⟩ ?_
      repeat walk_at "e"
      refine ⟨_, rfl, ?_⟩
      refine wix_seq (.lst _) (d := cnD (fowL l P) k) (atI_last (k := 0) (by omega) (by simp) (by simp)) ?_
      repeat walk_at "e"
      refine wc_sumI rfl (ns := (List.range (fowL l P).length).map fun y => (cnF (fowL l P) k y : Int)) (by rw [List.map_map]; exact .lst _) ?_
      rw [sum_cast]
      exact RetC.now (Nat.le_refl _) rfl rfl hΨ
end DL
set_option Elab.async false
set_option linter.all false
set_option maxRecDepth 100000
set_option maxHeartbeats 4000000
namespace DL
open PySem PySem.Spec PyProof.Rows
open L2 hiding Takes passAt takes_of ps_raise PMk ps_try_as
open L2N (Takes passAt takes_of ps_raise PMk ps_try_as)
local macro_rules | `(tactic| walk_at "inv") => `(tactic| ((try dsimp only); repeat (first | with_reducible exact InV.here | with_reducible apply InV.there)))
local macro_rules | `(tactic| walk_at "ing") => `(tactic| ((try dsimp only); repeat (first | with_reducible exact InG.here | with_reducible apply InG.there)))
local macro_rules | `(tactic| walk_at "nb") => `(tactic| first | assumption | (dsimp only; refine BltF.at_ (by assumption) ?_; repeat (first | with_reducible exact InG.here | with_reducible apply InG.there)))
local macro_rules | `(tactic| walk_at "s") => `(tactic| first
  | refine wss_cons ?_ | refine wss_nil ?_ | refine ws_set (by walk_at "inv") ?_ (fun _ => rfl) | refine ws_if ?_ | refine ws_ret ?_ | refine ws_aug (by walk_at "inv") rfl ?_
  | refine ws_expr ?_ (fun _ => rfl) | refine ws_pass ?_ | refine ws_break ?_ | refine ws_cont ?_ | refine ws_retN ?_
  | refine ws_setA ?_ (fun _ => rfl) | refine ws_put ?_ (fun _ => rfl) | refine ws_asg ?_ (fun _ => rfl) (fun _ => rfl) (fun _ => rfl))
local macro_rules | `(tactic| walk_at "we") => `(tactic| first
  | refine we_name (by walk_at "inv") rfl ?_ | refine we_int ?_ | refine we_op ?_ | refine we_str ?_
  | refine we_callB (by walk_at "ing") (by walk_at "nb") (by first | exact PySem.boot_len | exact boot_abs | exact boot_min | exact boot_max | exact boot_sorted | exact boot_isinstance) ?_ (fun _ => rfl) (fun _ => rfl)
  | refine we_callT (by walk_at "ing") (by walk_at "nb") (by first | exact boot_tuple | exact boot_list | exact boot_int) ?_ (fun _ => rfl) (fun _ => rfl)
  | refine we_attr ?_ (fun _ => rfl) | refine we_ix ?_ (fun _ _ => rfl) | refine we_tup ?_
  | refine we_append ?_ (fun _ => rfl) (fun _ => rfl) rfl (fun _ => rfl) (fun _ => rfl)
  | refine we_bl ?_ | refine we_non ?_ | refine we_chain ?_ rfl | refine we_cmp ?_ rfl | refine we_one ?_ | refine we_and ?_ | refine we_or ?_ | refine we_not ?_ | refine we_ifx ?_ | refine we_neg ?_ | refine we_slice ?_)
local macro_rules | `(tactic| walk_at "wb") => `(tactic| first | refine we_type (by walk_at "ing") (by walk_at "nb") boot_int ?_ | refine we_type (by walk_at "ing") (by walk_at "nb") boot_bool ?_ | refine we_type (by walk_at "ing") (by walk_at "nb") boot_str ?_ | refine we_type (by walk_at "ing") (by walk_at "nb") boot_tuple ?_)
local macro_rules | `(tactic| walk_at "wt") => `(tactic| first | refine wt_cmp ?_ rfl | refine wt_not ?_ | refine wt_chain ?_ rfl | refine wt_of ?_)
local macro_rules | `(tactic| walk_at "wto") => `(tactic| first | refine wto_and1 ?_ | refine wto_or1 ?_ | refine wto_and ?_ | refine wto_or ?_)
local macro_rules | `(tactic| walk_at "wo") => `(tactic| first
  | refine wo_add ?_ | refine wo_sub ?_ | refine wo_lt ?_ | refine wo_le ?_ | refine wo_gt ?_ | refine wo_ge ?_ | refine wo_eqI ?_ | refine wo_neI ?_ | refine wo_eqL ?_ | refine wo_neL ?_ | refine wo_lt1 ?_ | refine wo_le1 ?_ | refine wo_ge1 ?_ | refine wo_inL ?_ | refine wo_notInL ?_
  | refine wo_mod (by omega) ?_ | refine wo_fdiv ⟨by omega, by omega⟩ ?_ | refine wo_mul (by first | exact Or.inr ⟨by omega, by omega⟩ | exact Or.inl ⟨by omega, by omega⟩) ?_ | refine wo_pow ⟨by omega, by omega, by decide⟩ ?_
  | refine wo_isN (by intro _ h; cases h) ?_ | refine wo_notN (by intro _ h; cases h) ?_)
local macro_rules | `(tactic| walk_at "wc") => `(tactic| first
  | refine wc_len (by first | exact .tup _ | exact .lst _ | exact .bor _ | exact .loc rfl) ?_ | refine wc_int ?_ | refine wc_intB ?_ | refine wc_abs ?_ | refine wc_min2 rfl ?_ | refine wc_max2 rfl ?_ | refine wc_tuple (by first | exact .tup _ | exact .lst _ | exact .bor _ | exact .loc rfl) ?_)
local macro_rules | `(tactic| walk_at "e") => `(tactic| first
  | (with_reducible show WE _ _ _ _ _); walk_at "we"
  | (with_reducible show WT _ _ _ _ _); walk_at "wt"
  | (with_reducible show WTo _ _ _ _ _); walk_at "wto"
  | (with_reducible show WO _ _ _ _ _ _); walk_at "wo"
  | (with_reducible show WA _ _ _ _ _); first | refine wa_cons ?_ (fun _ => rfl) | refine wa_nil ?_
  | (with_reducible show WC _ _ _ _ _); walk_at "wc"
  | (with_reducible show WPO _ _ _ _ _); first | refine wpo_none ?_ | refine wpo_some ?_
  | refine asB_mk ?_ | refine wip_add ?_
  | refine ⟨_, rfl, (by first | decide | exact Nat.le_of_ble_eq_true rfl), ?_⟩)
local macro_rules | `(tactic| walk_at "ew") => `(tactic| ((try simp only [List.set_cons_zero, List.set_cons_succ]); repeat (first | exact EnvW.nil | refine EnvW.keep (by first | rfl | assumption) ?_ | refine EnvW.drop ?_)))
local macro_rules | `(tactic| walk_at "fl") => `(tactic| (refine ⟨_, _, fldL rfl (by repeat (first | with_reducible exact AtN.here | with_reducible apply AtN.there)) rfl, by assumption, NoA.at_ (by assumption) (by walk_at "ing"), ?_⟩))
local macro_rules | `(tactic| walk_at "fv") => `(tactic| (refine ⟨_, _, fldV (by repeat (first | with_reducible exact AtN.here | with_reducible apply AtN.there)) rfl, by assumption, NoA.at_ (by assumption) (by walk_at "ing"), ?_⟩))
/-! ### few letters -/
theorem alphB_take {l : List Nat} (h : alphB l = true) {k : Nat} (hk : 1 ≤ k) : alphB (l.take k) = true := by
  unfold alphB at h ⊢
  obtain ⟨h1, h2, h3, h4⟩ := of_decide_eq_true h
  have g : ∀ i, i < (l.take k).length → (l.take k).getD i 0 = l.getD i 0 := fun i hi => by
    rw [List.length_take] at hi
    rw [List.getD_eq_getElem?_getD, List.getElem?_take_of_lt (by omega), ← List.getD_eq_getElem?_getD]
  have hl : (l.take k).length = min k l.length := List.length_take
  refine decide_eq_true ⟨by omega, by omega, fun i hi => ?_, fun i hi => ?_⟩
  · rw [g i hi]; exact h3 i (by omega)
  · rw [g i (by omega), g (i + 1) (by omega)]; exact h4 i (by omega)
def spFw : DSp := fun rs S Ψ _ => ∃ (ns : List Nat), rs = [.loc 0] ∧ S = [nN ns] ∧ ns.length ≤ 100000 ∧ ∀ l ns', alphB l = true → l.length ≤ 4 → ns'.length ≤ ns.length → Ψ (.val (sL l)) [nN ns']
theorem fnc_Fw {C : DC} {env : Nv} {S : Sto} {Ψ : R → Sto → Prop} {k : Nat} {ns : List Nat} (hk : S[k]? = some (nN ns)) (hl : ns.length ≤ 100000) (h : ∀ l ns', alphB l = true → l.length ≤ 4 → ns'.length ≤ ns.length → Ψ (.val (sL l)) (S.set k (nN ns'))) : FnC C spFw [.loc k] env S Ψ := by
  refine ⟨[k], [nN ns], [.loc 0], passOne hk, .cons (.loc rfl) .nil, ns, rfl, rfl, hl, fun l ns' a b hn => ?_⟩
  show Ψ _ (backS [k] S [nN ns'])
  have := backOne (S := S) (k := k) (ds := ns'.map iN) []
  rw [show backS [k] S [nN ns'] = S.set k (nN ns') ++ [] from this, List.append_nil]
  exact h l ns' a b hn
theorem scFw : FnScope ["_law_pool_here"] ["_law_pool_here"] (defScope (top 35)) := ⟨rfl, rfl, rfl, by decide +kernel, rfl, by decide +kernel, by decide +kernel⟩
theorem ok_fw {g : Gd} {f f1 : Addr} {fd : FuncData} (F : FunD g.K "_law_few_letters" "_law_few_letters" (defArgs (top 35)) (defBody (top 35)) (defScope (top 35)) [] [] f fd) (hb : Binds g.K fd ["_law_pool_here"] [])
    (GAB : FnD g 2 f1 ["_law_pool_here"] spAB) (mAB : g.mg "_law_alphabet" = some (.ref f1)) : FnD g 3 f ["_law_pool_here"] spFw := by
  refine fn_mk F hb scFw (gl := ["_law_alphabet"]) [("_law_pool_here", 0)] (by decide +kernel) (by decide +kernel) (fun rs S Ψ ξ h => ?_) (fun rs S Ψ ξ h => ?_)
  · obtain ⟨_, rfl, _⟩ := h; rfl
  · obtain ⟨ns, rfl, rfl, hns, hΨ⟩ := h
    refine wss_one ?_
    walk_at "s"
    repeat walk_at "e"
    refine we_call GAB (by walk_at "ing") mAB (Nat.le_of_ble_eq_true rfl) rfl ?_ (fun _ => rfl) (fun _ => rfl)
    repeat walk_at "e"
    refine fnc_AB (ns := ns) rfl hns fun l ns1 hal hn1 => ?_
    have hl30 := (alphB_ok hal).1
    repeat walk_at "e"
    refine ⟨_, rfl, ?_⟩
    refine wsl_L (l := l) (by rw [sizeLine_eq]; omega) ?_
    rw [show (4 : Int) = ((4 : Nat) : Int) from rfl, cutA_tk]
    exact RetC.now (Nat.le_refl _) (by simp [okB_nl]) rfl (hΨ _ _ (alphB_take hal (by decide)) (by rw [List.length_take]; omega) hn1)
/-! ### sides -/
def sdR (l : List Nat) (P : List Pr) (x : Nat) : D := .lst ((List.range (l.length + P.length)).map fun y => .bl (crossF l.length P x y).isNone)
def sdD (l : List Nat) (P : List Pr) : D := .lst ((List.range (l.length + P.length)).map (sdR l P))
structure LP where
  l : List Nat
  P : List Pr
def LP.ok (p : LP) : Prop := GoodS p.l p.P ∧ p.l.Nodup ∧ p.l.length ≤ 30 ∧ p.P.length ≤ 100
abbrev spSd := spF LP (fun p => [.tup [.lst (p.P.map pN), .lst ((txts p.l p.P).map sL)], sL p.l]) LP.ok (fun p => sdD p.l p.P)
theorem two_cut {l : List Nat} {P : List Pr} (hnd : l.Nodup) (hg : GoodS l P) {a b : Nat} (ha : a < l.length + P.length) (hb : b < l.length + P.length) : stg l.length P (rowL l ((txts l P).getD a [] ++ (txts l P).getD b [])) = [a, b] ↔ crossF l.length P a b = none := by
  have hx : ∀ x ∈ [a, b], x < l.length + P.length := fun x hx => by
    rcases List.mem_cons.mp hx with rfl | hx
    · exact ha
    · rw [List.mem_singleton.mp hx]; exact hb
  rw [← tx_two]
  exact (cut_iff hnd hg hx).trans side_two
theorem txts_inj {l : List Nat} {P : List Pr} (hnd : l.Nodup) (hg : GoodS l P) {a b : Nat} {t : List Nat} (ha : (txts l P)[a]? = some t) (hb : (txts l P)[b]? = some t) : a = b := by
  have := (whole hnd P hg a t ha).symm.trans (whole hnd P hg b t hb)
  simpa using this
theorem scSd : FnScope ["_law_made", "_law_alphabet_here", "_law_out", "_law_left", "_law_row", "_law_k", "_law_cut_here"] ["_law_made", "_law_alphabet_here"] (defScope (top 36)) := ⟨rfl, rfl, rfl, by decide +kernel, rfl, by decide +kernel, by decide +kernel⟩
theorem ok_sd {g : Gd} {f f1 : Addr} {fd : FuncData} (F : FunD g.K "_law_sides" "_law_sides" (defArgs (top 36)) (defBody (top 36)) (defScope (top 36)) [] [] f fd) (hb : Binds g.K fd ["_law_made", "_law_alphabet_here"] [])
    (hB : BltF g ["range", "len"]) (GC2 : FnD g 2 f1 ["_law_pairs_here", "_law_alphabet_here", "_law_text"] spC2) (mC2 : g.mg "_law_cut" = some (.ref f1)) : FnD g 3 f ["_law_made", "_law_alphabet_here"] spSd := by
  refine fn_mk F hb scSd (gl := ["range", "len", "_law_cut"]) [("_law_made", 0), ("_law_alphabet_here", 1), ("_law_out", 2), ("_law_left", 3), ("_law_row", 4), ("_law_k", 5), ("_law_cut_here", 6)] (by decide +kernel) (by decide +kernel) (fun rs S Ψ ξ h => ?_) (fun rs S Ψ ξ h => ?_)
  · obtain ⟨_, rfl, _⟩ := h; rfl
  · obtain ⟨⟨l, P⟩, rfl, rfl, ⟨hg, hnd, hl30, hP⟩, hΨ⟩ := h
    dsimp only at hΨ hg hnd hl30 hP
    have htl := txts_len l P
    have hT : ∀ i, i < l.length + P.length → (txts l P)[i]? = some ((txts l P).getD i []) := fun i hi => by rw [List.getD_eq_getElem?_getD, List.getElem?_eq_getElem (by omega)]; rfl
    refine wss_cons ?_
    walk_at "s"
    refine we_lstN ?_
    repeat walk_at "e"
    show WSs _ _ [some (.val (.tup [.lst (P.map pN), .lst ((txts l P).map sL)])), some (.val (sL l)), some (.loc 0), none, none, none, none] [nl []] _
    refine wss_cons ?_
    refine ws_for rfl ?_ (fun _ _ => rfl)
    refine wi_seq ?_
    repeat walk_at "e"
    refine wix_seq (.tup _) (d := .lst ((txts l P).map sL)) rfl ?_
    refine ⟨_, .lst _, fun i env S' => env = [some (.val (.tup [.lst (P.map pN), .lst ((txts l P).map sL)])), some (.val (sL l)), some (.loc 0), none, none, none, none] ∧ S' = [nl ((List.range i).map (sdR l P))], Nat.zero_le _, ⟨rfl, rfl⟩, fun _ _ _ _ => trivial, ?_, ?_⟩
    · rintro i d env' S' hd ⟨rfl, rfl⟩
      rw [List.getElem?_map] at hd
      obtain ⟨t, ht, rfl⟩ := Option.map_eq_some_iff.mp hd
      have hi := (List.getElem?_eq_some_iff.mp ht).1
      rw [htl] at hi
      obtain rfl : (txts l P).getD i [] = t := by rw [List.getD_eq_getElem?_getD, ht]; rfl
      have htli := hg.short _ (List.mem_of_getElem? ht)
      refine wg_name (by walk_at "inv") ?_
      refine wss_cons ?_
      walk_at "s"
      refine we_lstN ?_
      repeat walk_at "e"
      show WSs _ _ [some (.val (.tup [.lst (P.map pN), .lst ((txts l P).map sL)])), some (.val (sL l)), some (.loc 0), some (.val (sL ((txts l P).getD i []))), some (.loc 1), none, none] [nl ((List.range i).map (sdR l P)), nl []] _
      refine wss_cons ?_
      refine ws_for rfl ?_ (fun _ _ => rfl)
      refine wi_range1 (by walk_at "ing") (by walk_at "nb") ?_ (fun _ => rfl)
      repeat walk_at "e"
      refine wix_seq (.tup _) (d := .lst ((txts l P).map sL)) rfl ?_
      repeat walk_at "e"
      rw [List.length_map, htl]
      refine ⟨_, rfl, by omega, fun j env S' => env = [some (.val (.tup [.lst (P.map pN), .lst ((txts l P).map sL)])), some (.val (sL l)), some (.loc 0), some (.val (sL ((txts l P).getD i []))), some (.loc 1), none, none] ∧ S' = [nl ((List.range i).map (sdR l P)), nl ((List.range j).map fun y => .bl (crossF l.length P i y).isNone)], by simp, ⟨rfl, rfl⟩, fun _ _ _ _ => trivial, ?_, ?_⟩
      · rintro j d env' S' hd2 ⟨rfl, rfl⟩
        obtain ⟨hj, rfl⟩ := rangeD_get hd2
        have hj : j < l.length + P.length := by omega
        have htj := hT j hj
        have htlj := hg.short _ (List.mem_of_getElem? htj)
        refine wg_name (by walk_at "inv") ?_
        refine wss_cons ?_
        walk_at "s"
        refine we_call GC2 (by walk_at "ing") mC2 (Nat.le_of_ble_eq_true rfl) rfl ?_ (fun _ => rfl) (fun _ => rfl)
        repeat walk_at "e"
        refine wix_seq (.tup _) (d := .lst (P.map pN)) rfl ?_
        repeat walk_at "e"
        refine wix_seq (.tup _) (d := .lst ((txts l P).map sL)) rfl ?_
        repeat walk_at "e"
        refine wix_F (g := sL) (.lst _) (j := j) (by omega) htj ?_
        refine wo_addL (by rw [sizeLine_eq]; omega) ?_
        repeat walk_at "e"
        refine fnc_C2 (.lst _) (by omega) (by rw [List.length_append]; omega) (by omega) (good_lt hg) (fun c hc => (List.mem_append.mp hc).elim (getD_mem i c) (getD_mem j c)) ?_
        have h2 := two_cut hnd hg hi hj
        have hclt := stg_lt (good_wf P hg) (rowL_lt (l := l) (t := (txts l P).getD i [] ++ (txts l P).getD j []) (fun c hc => (List.mem_append.mp hc).elim (getD_mem i c) (getD_mem j c)))
        generalize stg l.length P (rowL l ((txts l P).getD i [] ++ (txts l P).getD j [])) = c at *
        refine wss_one ?_
        walk_at "s"
        refine we_append ?_ (fun _ => rfl) (fun _ => rfl) rfl (fun _ => rfl) (fun _ => rfl)
        repeat walk_at "e"
        refine ⟨1, _, rfl, rfl, ?_⟩
        refine we_mono (Ψ' := fun r S1 => r = .val (.bl (crossF l.length P i j).isNone) ∧ S1 = [nl ((List.range i).map (sdR l P)), nl ((List.range j).map fun y => .bl (crossF l.length P i y).isNone)]) ?_ ?_
        · by_cases hcr : crossF l.length P i j = none
          · obtain rfl := h2.mpr hcr
            rw [hcr]
            refine we_and ?_
            repeat walk_at "e"
            refine ⟨fun _ => ?_, fun h => absurd h (by simp)⟩
            refine we_and ?_
            repeat walk_at "e"
            refine wix_seq (.lst _) (d := iN j) rfl ?_
            repeat walk_at "e"
            refine ⟨fun _ => ?_, fun h => absurd h (by simp)⟩
            refine we_one ?_
            repeat walk_at "e"
            refine wix_seq (.tup _) (d := .lst ((txts l P).map sL)) rfl ?_
            repeat walk_at "e"
            refine wix_seq (.lst _) (d := iN i) rfl ?_
            refine wix_F (g := sL) (.lst _) (j := i) rfl ht ?_
            repeat walk_at "e"
            exact ⟨congrArg (fun b => R.val (D.bl b)) (decide_eq_true rfl), rfl⟩
          · have hcn : c ≠ [i, j] := fun e => hcr (h2.mp e)
            have hin : (crossF l.length P i j).isNone = false := by
              cases q : crossF l.length P i j with
              | none => exact absurd q hcr
              | some _ => rfl
            rw [hin]
            refine we_and ?_
            repeat walk_at "e"
            rw [List.length_map]
            refine ⟨fun h => ?_, fun h => ?_⟩
            · have h := of_decide_eq_true h
              obtain ⟨p, q, rfl⟩ : ∃ p q, c = [p, q] := by
                rcases c with _ | ⟨p, _ | ⟨q, _ | ⟨r, c⟩⟩⟩
                · simp at h
                · simp at h
                · exact ⟨p, q, rfl⟩
                · simp at h; omega
              have hp := hclt p (by simp)
              have htp := hT p hp
              refine we_and ?_
              repeat walk_at "e"
              refine wix_seq (.lst _) (d := iN q) rfl ?_
              repeat walk_at "e"
              refine ⟨fun h => ?_, fun h => ?_⟩
              · have h := of_decide_eq_true h
                refine we_one ?_
                repeat walk_at "e"
                refine wix_seq (.tup _) (d := .lst ((txts l P).map sL)) rfl ?_
                repeat walk_at "e"
                refine wix_seq (.lst _) (d := iN p) rfl ?_
                refine wix_F (g := sL) (.lst _) (j := p) rfl htp ?_
                repeat walk_at "e"
                refine ⟨congrArg (fun b => R.val (D.bl b)) (decide_eq_false fun e => hcn ?_), rfl⟩
                rw [e] at htp
                rw [txts_inj hnd hg htp ht, show q = j by omega]
              · exact ⟨rfl, rfl⟩
            · exact ⟨rfl, rfl⟩
        · rintro r S1 ⟨rfl, rfl⟩
          refine ⟨_, _, rfl, rfl, by simp [sizeLine_eq]; omega, ?_⟩
          dsimp only
          refine Wk.drop (env' := [some (.val (.tup [.lst (P.map pN), .lst ((txts l P).map sL)])), some (.val (sL l)), some (.loc 0), some (.val (sL ((txts l P).getD i []))), some (.loc 1), none, none]) ⟨rfl, ?_⟩ (by walk_at "ew") (by simp) (by simp [okB_nl])
          rw [List.range_succ, List.map_append]
          rfl
      · rintro env' S' ⟨rfl, rfl⟩
        rw [rangeD_len]
        refine wss_settle 1 (Nat.le_refl _) (by simp) (by simp [okB_nl]) (env' := [some (.val (.tup [.lst (P.map pN), .lst ((txts l P).map sL)])), some (.val (sL l)), some (.loc 0), none, some (.val (sdR l P i)), none, none]) (.keep rfl (.keep rfl (.keep rfl (.drop (.fix (.lst (Nat.le_refl _) rfl (FzL.vals _)) (.drop (.drop .nil))))))) ?_
        refine wss_one ?_
        walk_at "s"
        refine we_append ?_ (fun _ => rfl) (fun _ => rfl) rfl (fun _ => rfl) (fun _ => rfl)
        repeat walk_at "e"
        refine ⟨0, _, rfl, rfl, ?_⟩
        repeat walk_at "e"
        refine ⟨_, _, rfl, rfl, by simp [sizeLine_eq]; omega, ?_⟩
        dsimp only
        refine Wk.drop (env' := [some (.val (.tup [.lst (P.map pN), .lst ((txts l P).map sL)])), some (.val (sL l)), some (.loc 0), none, none, none, none]) ⟨rfl, ?_⟩ (by walk_at "ew") (by simp) (by simp [okB_nl])
        rw [List.range_succ, List.map_append]
        rfl
    · rintro env' S' ⟨rfl, rfl⟩
      rw [List.length_map, htl]
      refine wss_one ?_
      walk_at "s"
      repeat walk_at "e"
      exact RetC.fixL rfl hΨ
end DL
set_option Elab.async false
set_option linter.all false
set_option maxRecDepth 100000
set_option maxHeartbeats 4000000
namespace DL
open PySem PySem.Spec PyProof.Rows
open L2 hiding Takes passAt takes_of ps_raise PMk ps_try_as
open L2N (Takes passAt takes_of ps_raise PMk ps_try_as)
local macro_rules | `(tactic| walk_at "inv") => `(tactic| ((try dsimp only); repeat (first | with_reducible exact InV.here | with_reducible apply InV.there)))
local macro_rules | `(tactic| walk_at "ing") => `(tactic| ((try dsimp only); repeat (first | with_reducible exact InG.here | with_reducible apply InG.there)))
local macro_rules | `(tactic| walk_at "nb") => `(tactic| first | assumption | (dsimp only; refine BltF.at_ (by assumption) ?_; repeat (first | with_reducible exact InG.here | with_reducible apply InG.there)))
local macro_rules | `(tactic| walk_at "s") => `(tactic| first
  | refine wss_cons ?_ | refine wss_nil ?_ | refine ws_set (by walk_at "inv") ?_ (fun _ => rfl) | refine ws_if ?_ | refine ws_ret ?_ | refine ws_aug (by walk_at "inv") rfl ?_
  | refine ws_expr ?_ (fun _ => rfl) | refine ws_pass ?_ | refine ws_break ?_ | refine ws_cont ?_ | refine ws_retN ?_
  | refine ws_setA ?_ (fun _ => rfl) | refine ws_put ?_ (fun _ => rfl) | refine ws_asg ?_ (fun _ => rfl) (fun _ => rfl) (fun _ => rfl))
local macro_rules | `(tactic| walk_at "we") => `(tactic| first
  | refine we_name (by walk_at "inv") rfl ?_ | refine we_int ?_ | refine we_op ?_ | refine we_str ?_
  | refine we_callB (by walk_at "ing") (by walk_at "nb") (by first | exact PySem.boot_len | exact boot_abs | exact boot_min | exact boot_max | exact boot_sorted | exact boot_isinstance) ?_ (fun _ => rfl) (fun _ => rfl)
  | refine we_callT (by walk_at "ing") (by walk_at "nb") (by first | exact boot_tuple | exact boot_list | exact boot_int) ?_ (fun _ => rfl) (fun _ => rfl)
  | refine we_attr ?_ (fun _ => rfl) | refine we_ix ?_ (fun _ _ => rfl) | refine we_tup ?_
  | refine we_append ?_ (fun _ => rfl) (fun _ => rfl) rfl (fun _ => rfl) (fun _ => rfl)
  | refine we_bl ?_ | refine we_non ?_ | refine we_chain ?_ rfl | refine we_cmp ?_ rfl | refine we_one ?_ | refine we_and ?_ | refine we_or ?_ | refine we_not ?_ | refine we_ifx ?_ | refine we_neg ?_ | refine we_slice ?_)
local macro_rules | `(tactic| walk_at "wb") => `(tactic| first | refine we_type (by walk_at "ing") (by walk_at "nb") boot_int ?_ | refine we_type (by walk_at "ing") (by walk_at "nb") boot_bool ?_ | refine we_type (by walk_at "ing") (by walk_at "nb") boot_str ?_ | refine we_type (by walk_at "ing") (by walk_at "nb") boot_tuple ?_)
local macro_rules | `(tactic| walk_at "wt") => `(tactic| first | refine wt_cmp ?_ rfl | refine wt_not ?_ | refine wt_chain ?_ rfl | refine wt_of ?_)
local macro_rules | `(tactic| walk_at "wto") => `(tactic| first | refine wto_and1 ?_ | refine wto_or1 ?_ | refine wto_and ?_ | refine wto_or ?_)
local macro_rules | `(tactic| walk_at "wo") => `(tactic| first
  | refine wo_add ?_ | refine wo_sub ?_ | refine wo_lt ?_ | refine wo_le ?_ | refine wo_gt ?_ | refine wo_ge ?_ | refine wo_eqI ?_ | refine wo_neI ?_ | refine wo_eqL ?_ | refine wo_neL ?_ | refine wo_lt1 ?_ | refine wo_le1 ?_ | refine wo_ge1 ?_ | refine wo_inL ?_ | refine wo_notInL ?_
  | refine wo_mod (by omega) ?_ | refine wo_fdiv ⟨by omega, by omega⟩ ?_ | refine wo_mul (by first | exact Or.inr ⟨by omega, by omega⟩ | exact Or.inl ⟨by omega, by omega⟩) ?_ | refine wo_pow ⟨by omega, by omega, by decide⟩ ?_
  | refine wo_isN (by intro _ h; cases h) ?_ | refine wo_notN (by intro _ h; cases h) ?_)
local macro_rules | `(tactic| walk_at "wc") => `(tactic| first
  | refine wc_len (by first | exact .tup _ | exact .lst _ | exact .bor _ | exact .loc rfl) ?_ | refine wc_int ?_ | refine wc_intB ?_ | refine wc_abs ?_ | refine wc_min2 rfl ?_ | refine wc_max2 rfl ?_ | refine wc_tuple (by first | exact .tup _ | exact .lst _ | exact .bor _ | exact .loc rfl) ?_)
local macro_rules | `(tactic| walk_at "e") => `(tactic| first
  | (with_reducible show WE _ _ _ _ _); walk_at "we"
  | (with_reducible show WT _ _ _ _ _); walk_at "wt"
  | (with_reducible show WTo _ _ _ _ _); walk_at "wto"
  | (with_reducible show WO _ _ _ _ _ _); walk_at "wo"
  | (with_reducible show WA _ _ _ _ _); first | refine wa_cons ?_ (fun _ => rfl) | refine wa_nil ?_
  | (with_reducible show WC _ _ _ _ _); walk_at "wc"
  | (with_reducible show WPO _ _ _ _ _); first | refine wpo_none ?_ | refine wpo_some ?_
  | refine asB_mk ?_ | refine wip_add ?_
  | refine ⟨_, rfl, (by first | decide | exact Nat.le_of_ble_eq_true rfl), ?_⟩)
local macro_rules | `(tactic| walk_at "ew") => `(tactic| ((try simp only [List.set_cons_zero, List.set_cons_succ]); repeat (first | exact EnvW.nil | refine EnvW.keep (by first | rfl | assumption) ?_ | refine EnvW.drop ?_)))
local macro_rules | `(tactic| walk_at "fl") => `(tactic| (refine ⟨_, _, fldL rfl (by repeat (first | with_reducible exact AtN.here | with_reducible apply AtN.there)) rfl, by assumption, NoA.at_ (by assumption) (by walk_at "ing"), ?_⟩))
local macro_rules | `(tactic| walk_at "fv") => `(tactic| (refine ⟨_, _, fldV (by repeat (first | with_reducible exact AtN.here | with_reducible apply AtN.there)) rfl, by assumption, NoA.at_ (by assumption) (by walk_at "ing"), ?_⟩))
/-! ### after -/
structure LK extends LP where
  k : Nat
abbrev spAf := spF LK (fun p => [sdD p.l p.P, iN p.k]) (fun p => p.l.length + p.P.length ≤ 1000 ∧ p.k ≤ 1000) (fun p => cnsD (fowL p.l p.P) p.k)
theorem range_at {m y : Nat} (h : y < m) : (List.range m)[y]? = some y := List.getElem?_range h
theorem scAf : FnScope ["_law_sides_here", "_law_many", "_law_rows", "_law_k", "_law_row", "_law_side", "_law_j"] ["_law_sides_here", "_law_many"] (defScope (top 37)) := ⟨rfl, rfl, rfl, by decide +kernel, rfl, by decide +kernel, by decide +kernel⟩
theorem ok_af {g : Gd} {f : Addr} {fd : FuncData} (F : FunD g.K "_law_after" "_law_after" (defArgs (top 37)) (defBody (top 37)) (defScope (top 37)) [] [] f fd) (hb : Binds g.K fd ["_law_sides_here", "_law_many"] [])
    (hB : BltF g ["range", "len", "sum"]) : FnD g 1 f ["_law_sides_here", "_law_many"] spAf := by
  refine fn_mk F hb scAf (gl := ["range", "len", "sum"]) [("_law_sides_here", 0), ("_law_many", 1), ("_law_rows", 2), ("_law_k", 3), ("_law_row", 4), ("_law_side", 5)] (by decide +kernel) (by decide +kernel) (fun rs S Ψ ξ h => ?_) (fun rs S Ψ ξ h => ?_)
  · obtain ⟨_, rfl, _⟩ := h; rfl
  · obtain ⟨⟨⟨l, P⟩, k⟩, rfl, rfl, ⟨hml, hk⟩, hΨ⟩ := h
    dsimp only at hΨ hml hk
    have hcs : ∀ x, x < l.length + P.length → ∀ z, cnF (fowL l P) (z + 1) x = (((List.range (l.length + P.length)).filter fun y => (crossF l.length P x y).isNone).map (cnF (fowL l P) z)).sum := fun x hx z => by
      show (((fowL l P).getD x []).map (cnF (fowL l P) z)).sum = _
      rw [fowL_get hx]
    have hcn : ∀ z, cnD (fowL l P) z = .lst ((List.range (l.length + P.length)).map fun x => iN (cnF (fowL l P) z x)) := fun z => by unfold cnD; rw [fowL_len]
    generalize hm : l.length + P.length = m at *
    generalize fowL l P = fl at *
    show WSs _ _ [some (.val (sdD l P)), some (.val (iN k)), none, none, none, none, none] [] _
    have hsd : sdD l P = .lst ((List.range m).map (sdR l P)) := by unfold sdD; rw [hm]
    have hsr : ∀ x, sdR l P x = .lst ((List.range m).map fun y => .bl (crossF l.length P x y).isNone) := fun x => by unfold sdR; rw [hm]
    rw [hsd]
    refine wss_cons ?_
    refine ws_set (by walk_at "inv") ?_ (fun _ => rfl)
    refine we_lstN ?_
    refine wa_cons ?_ (fun _ => rfl)
    refine we_settle ?_
    refine we_lc [("_law_side", 5)] [("_law_side", 5)] [("_law_side", 5)] [] (by dsimp only; decide +kernel) rfl ?_ (fun _ _ => rfl)
    refine wi_seq ?_
    repeat walk_at "e"
    refine ⟨_, .lst _, fun i S' => S' = [nl (((List.range m).take i).map fun x => iN (cnF fl 0 x))], rfl, fun _ S' _ => trivial, ?_, ?_⟩
    · rintro i d S' hd rfl
      rw [List.getElem?_map] at hd
      obtain ⟨x, hx, rfl⟩ := Option.map_eq_some_iff.mp hd
      have hi := (List.getElem?_eq_some_iff.mp hx).1
      rw [List.length_range] at hi
      refine wgw_name (by walk_at "inv") (by decide) ?_
      refine wts_nil ⟨fun h => (by cases h), fun _ => ?_⟩
      repeat walk_at "e"
      refine ⟨_, rfl, by simp [sizeLine_eq]; omega, ?_⟩
      have e : (List.range m).take (i + 1) = (List.range m).take i ++ [i] := by rw [List.take_add_one, range_at hi]; rfl
      show _ = _
      rw [e, List.map_append]
      simp
      rfl
    rintro S' rfl
    rw [List.length_map, List.take_length]
    refine ⟨0, _, Nat.le_refl _, by simp, rfl, .inr ⟨cnD fl 0, by rw [hcn]; exact .lst (Nat.le_refl _) rfl (FzL.vals _), rfl⟩, ?_⟩
    repeat walk_at "e"
    show WSs _ _ [some (.val (.lst ((List.range m).map (sdR l P)))), some (.val (iN k)), some (.loc 0), none, none, none, none] [nl ((List.range (0 + 1)).map (cnD fl))] _
    refine wss_cons ?_
    refine ws_for rfl ?_ (fun _ _ => rfl)
    refine wi_range1 (by walk_at "ing") (by walk_at "nb") ?_ (fun _ => rfl)
    repeat walk_at "e"
    refine ⟨_, rfl, by omega, fun i env S' => env = [some (.val (.lst ((List.range m).map (sdR l P)))), some (.val (iN k)), some (.loc 0), none, none, none, none] ∧ S' = [nl ((List.range (i + 1)).map (cnD fl))], Nat.zero_le _, ⟨rfl, rfl⟩, fun _ _ _ _ => trivial, ?_, ?_⟩
    · rintro i d env' S' hd ⟨rfl, rfl⟩
      obtain ⟨hi, rfl⟩ := rangeD_get hd
      refine wg_name (by walk_at "inv") ?_
      refine wss_cons ?_
      walk_at "s"
      refine we_lstN ?_
      repeat walk_at "e"
      show WSs _ _ [some (.val (.lst ((List.range m).map (sdR l P)))), some (.val (iN k)), some (.loc 0), some (.val (.int (0 + (i : Int)))), some (.loc 1), none, none] [nl ((List.range (i + 1)).map (cnD fl)), nl []] _
      refine wss_cons ?_
      refine ws_for rfl ?_ (fun _ _ => rfl)
      refine wi_seq ?_
      repeat walk_at "e"
      refine ⟨_, .lst _, fun z env S' => env = [some (.val (.lst ((List.range m).map (sdR l P)))), some (.val (iN k)), some (.loc 0), some (.val (.int (0 + (i : Int)))), some (.loc 1), none, none] ∧ S' = [nl ((List.range (i + 1)).map (cnD fl)), nl ((List.range z).map fun x => iN (cnF fl (i + 1) x))], by simp, ⟨rfl, rfl⟩, fun _ _ _ _ => trivial, ?_, ?_⟩
      · rintro z d env' S' hd2 ⟨rfl, rfl⟩
        rw [List.getElem?_map] at hd2
        obtain ⟨x, hx, rfl⟩ := Option.map_eq_some_iff.mp hd2
        obtain ⟨hz, ex⟩ := List.getElem?_eq_some_iff.mp hx
        rw [List.getElem_range] at ex
        subst ex
        rw [List.length_range] at hz
        refine wg_name (by walk_at "inv") ?_
        refine wss_one ?_
        walk_at "s"
        refine we_append ?_ (fun _ => rfl) (fun _ => rfl) rfl (fun _ => rfl) (fun _ => rfl)
        repeat walk_at "e"
        refine ⟨1, _, rfl, rfl, ?_⟩
        refine we_settle ?_
        refine we_callB (by walk_at "ing") (by walk_at "nb") PyProof.Rows.boot_sum ?_ (fun _ => rfl) (fun _ => rfl)
        refine wa_cons ?_ (fun _ => rfl)
        refine we_lc [("_law_j", 6)] [("_law_rows", 2), ("_law_side", 5), ("_law_j", 6)] [("_law_j", 6)] [] (by dsimp only; decide +kernel) rfl ?_ (fun _ _ => rfl)
        refine wi_range1 (by walk_at "ing") (by walk_at "nb") ?_ (fun _ => rfl)
        repeat walk_at "e"
        rw [List.length_map, List.length_range]
        refine ⟨_, rfl, by omega, fun j S' => S' = [nl ((List.range (i + 1)).map (cnD fl)), nl ((List.range z).map fun x => iN (cnF fl (i + 1) x)), nl (((List.range j).filter fun y => (crossF l.length P z y).isNone).map fun y => iN (cnF fl i y))], rfl, fun _ S' _ => trivial, ?_, ?_⟩
        · rintro j d S' hd3 rfl
          obtain ⟨hj, rfl⟩ := rangeD_get hd3
          have hj : j < m := by omega
          have en : (List.range (j + 1)).filter (fun y => (crossF l.length P z y).isNone) = (List.range j).filter (fun y => (crossF l.length P z y).isNone) ++ if (crossF l.length P z j).isNone then [j] else [] := by
            rw [List.range_succ, List.filter_append]
            congr 1
            by_cases q : (crossF l.length P z j).isNone = true
            · rw [if_pos q]; exact List.filter_cons_of_pos q
            · rw [if_neg q]; exact List.filter_cons_of_neg q
          refine wgw_name (by walk_at "inv") (by decide) ?_
          refine wts_one ?_
          refine wt_val ?_ (fun _ _ => rfl)
          repeat walk_at "e"
          rw [hsr]
          refine wix_F (g := fun y => .bl (crossF l.length P z y).isNone) (.lst _) (j := j) (by omega) (range_at hj) ?_
          refine ⟨_, rfl, fun h => ?_, fun h => ?_⟩
          · show _ = _
            rw [en, if_neg (by rw [h]; decide), List.append_nil]
          · repeat walk_at "e"
            refine ⟨_, rfl, ?_⟩
            refine wix_seq (.loc (k := 0) rfl) (d := cnD fl i) (atI_last (k := 0) (by omega) (by simp) (by simp)) ?_
            repeat walk_at "e"
            rw [hcn]
            refine wix_F (g := fun x => iN (cnF fl i x)) (.lst _) (j := j) (by omega) (range_at hj) ?_
            refine ⟨_, rfl, ?_, ?_⟩
            · have h1 := List.length_filter_le (fun y => (crossF l.length P z y).isNone) (List.range j)
              simp only [List.length_map, List.length_range, sizeLine_eq] at h1 ⊢; omega
            · show _ = _
              rw [en, if_pos h, List.map_append]
              simp
        rintro S' rfl
        rw [rangeD_len]
        refine wa_nil ?_
        refine wc_sumI rfl (ns := ((List.range m).filter fun y => (crossF l.length P z y).isNone).map fun y => (cnF fl i y : Int)) (.loc (by rw [List.map_map]; rfl)) ?_
        rw [sum_cast, ← hcs z hz]
        refine ⟨2, _, Nat.le_refl _, by simp, by simp [okB_nl], .inl ⟨rfl, rfl⟩, ?_⟩
        refine ⟨_, _, rfl, rfl, by simp [sizeLine_eq]; omega, ?_⟩
        dsimp only
        refine Wk.drop (env' := [some (.val (.lst ((List.range m).map (sdR l P)))), some (.val (iN k)), some (.loc 0), some (.val (.int (0 + (i : Int)))), some (.loc 1), none, none]) ⟨rfl, ?_⟩ (by walk_at "ew") (by simp) (by simp [okB_nl])
        rw [List.range_succ (n := z), List.map_append]
        rfl
      · rintro env' S' ⟨rfl, rfl⟩
        rw [List.length_map, List.length_range]
        refine wss_settle 1 (Nat.le_refl _) (by simp) (by simp [okB_nl]) (env' := [some (.val (.lst ((List.range m).map (sdR l P)))), some (.val (iN k)), some (.loc 0), none, some (.val (cnD fl (i + 1))), none, none]) (.keep rfl (.keep rfl (.keep rfl (.drop (.fix (by rw [hcn]; exact .lst (Nat.le_refl _) rfl (FzL.vals _)) (.drop (.drop .nil))))))) ?_
        refine wss_one ?_
        walk_at "s"
        refine we_append ?_ (fun _ => rfl) (fun _ => rfl) rfl (fun _ => rfl) (fun _ => rfl)
        repeat walk_at "e"
        refine ⟨0, _, rfl, rfl, ?_⟩
        repeat walk_at "e"
        refine ⟨_, _, rfl, rfl, by simp [sizeLine_eq]; omega, ?_⟩
        dsimp only
        refine Wk.drop (env' := [some (.val (.lst ((List.range m).map (sdR l P)))), some (.val (iN k)), some (.loc 0), none, none, none, none]) ⟨rfl, ?_⟩ (by walk_at "ew") (by simp) (by simp [okB_nl])
        rw [List.range_succ (n := i + 1), List.map_append]
        rfl
    · rintro env' S' ⟨rfl, rfl⟩
      rw [rangeD_len]
      refine wss_one ?_
      walk_at "s"
      repeat walk_at "e"
      exact RetC.fixL rfl hΨ
end DL
set_option Elab.async false
set_option linter.all false
set_option maxRecDepth 100000
set_option maxHeartbeats 4000000
namespace DL
open PySem PySem.Spec PyProof.Rows
open L2 hiding Takes passAt takes_of ps_raise PMk ps_try_as
open L2N (Takes passAt takes_of ps_raise PMk ps_try_as)
local macro_rules | `(tactic| walk_at "inv") => `(tactic| ((try dsimp only); repeat (first | with_reducible exact InV.here | with_reducible apply InV.there)))
local macro_rules | `(tactic| walk_at "ing") => `(tactic| ((try dsimp only); repeat (first | with_reducible exact InG.here | with_reducible apply InG.there)))
local macro_rules | `(tactic| walk_at "nb") => `(tactic| first | assumption | (dsimp only; refine BltF.at_ (by assumption) ?_; repeat (first | with_reducible exact InG.here | with_reducible apply InG.there)))
local macro_rules | `(tactic| walk_at "s") => `(tactic| first
  | refine wss_cons ?_ | refine wss_nil ?_ | refine ws_set (by walk_at "inv") ?_ (fun _ => rfl) | refine ws_if ?_ | refine ws_ret ?_ | refine ws_aug (by walk_at "inv") rfl ?_
  | refine ws_expr ?_ (fun _ => rfl) | refine ws_pass ?_ | refine ws_break ?_ | refine ws_cont ?_ | refine ws_retN ?_
  | refine ws_setA ?_ (fun _ => rfl) | refine ws_put ?_ (fun _ => rfl) | refine ws_asg ?_ (fun _ => rfl) (fun _ => rfl) (fun _ => rfl))
local macro_rules | `(tactic| walk_at "we") => `(tactic| first
  | refine we_name (by walk_at "inv") rfl ?_ | refine we_int ?_ | refine we_op ?_ | refine we_str ?_
  | refine we_callB (by walk_at "ing") (by walk_at "nb") (by first | exact PySem.boot_len | exact boot_abs | exact boot_min | exact boot_max | exact boot_sorted | exact boot_isinstance) ?_ (fun _ => rfl) (fun _ => rfl)
  | refine we_callT (by walk_at "ing") (by walk_at "nb") (by first | exact boot_tuple | exact boot_list | exact boot_int) ?_ (fun _ => rfl) (fun _ => rfl)
  | refine we_attr ?_ (fun _ => rfl) | refine we_ix ?_ (fun _ _ => rfl) | refine we_tup ?_
  | refine we_append ?_ (fun _ => rfl) (fun _ => rfl) rfl (fun _ => rfl) (fun _ => rfl)
  | refine we_bl ?_ | refine we_non ?_ | refine we_chain ?_ rfl | refine we_cmp ?_ rfl | refine we_one ?_ | refine we_and ?_ | refine we_or ?_ | refine we_not ?_ | refine we_ifx ?_ | refine we_neg ?_ | refine we_slice ?_)
local macro_rules | `(tactic| walk_at "wb") => `(tactic| first | refine we_type (by walk_at "ing") (by walk_at "nb") boot_int ?_ | refine we_type (by walk_at "ing") (by walk_at "nb") boot_bool ?_ | refine we_type (by walk_at "ing") (by walk_at "nb") boot_str ?_ | refine we_type (by walk_at "ing") (by walk_at "nb") boot_tuple ?_)
local macro_rules | `(tactic| walk_at "wt") => `(tactic| first | refine wt_cmp ?_ rfl | refine wt_not ?_ | refine wt_chain ?_ rfl | refine wt_of ?_)
local macro_rules | `(tactic| walk_at "wto") => `(tactic| first | refine wto_and1 ?_ | refine wto_or1 ?_ | refine wto_and ?_ | refine wto_or ?_)
local macro_rules | `(tactic| walk_at "wo") => `(tactic| first
  | refine wo_add ?_ | refine wo_sub ?_ | refine wo_lt ?_ | refine wo_le ?_ | refine wo_gt ?_ | refine wo_ge ?_ | refine wo_eqI ?_ | refine wo_neI ?_ | refine wo_eqL ?_ | refine wo_neL ?_ | refine wo_lt1 ?_ | refine wo_le1 ?_ | refine wo_ge1 ?_ | refine wo_inL ?_ | refine wo_notInL ?_
  | refine wo_mod (by omega) ?_ | refine wo_fdiv ⟨by omega, by omega⟩ ?_ | refine wo_mul (by first | exact Or.inr ⟨by omega, by omega⟩ | exact Or.inl ⟨by omega, by omega⟩) ?_ | refine wo_pow ⟨by omega, by omega, by decide⟩ ?_
  | refine wo_isN (by intro _ h; cases h) ?_ | refine wo_notN (by intro _ h; cases h) ?_)
local macro_rules | `(tactic| walk_at "wc") => `(tactic| first
  | refine wc_len (by first | exact .tup _ | exact .lst _ | exact .bor _ | exact .loc rfl) ?_ | refine wc_int ?_ | refine wc_intB ?_ | refine wc_abs ?_ | refine wc_min2 rfl ?_ | refine wc_max2 rfl ?_ | refine wc_tuple (by first | exact .tup _ | exact .lst _ | exact .bor _ | exact .loc rfl) ?_)
local macro_rules | `(tactic| walk_at "e") => `(tactic| first
  | (with_reducible show WE _ _ _ _ _); walk_at "we"
  | (with_reducible show WT _ _ _ _ _); walk_at "wt"
  | (with_reducible show WTo _ _ _ _ _); walk_at "wto"
  | (with_reducible show WO _ _ _ _ _ _); walk_at "wo"
  | (with_reducible show WA _ _ _ _ _); first | refine wa_cons ?_ (fun _ => rfl) | refine wa_nil ?_
  | (with_reducible show WC _ _ _ _ _); walk_at "wc"
  | (with_reducible show WPO _ _ _ _ _); first | refine wpo_none ?_ | refine wpo_some ?_
  | refine asB_mk ?_ | refine wip_add ?_
  | refine ⟨_, rfl, (by first | decide | exact Nat.le_of_ble_eq_true rfl), ?_⟩)
local macro_rules | `(tactic| walk_at "ew") => `(tactic| ((try simp only [List.set_cons_zero, List.set_cons_succ]); repeat (first | exact EnvW.nil | refine EnvW.keep (by first | rfl | assumption) ?_ | refine EnvW.drop ?_)))
local macro_rules | `(tactic| walk_at "fl") => `(tactic| (refine ⟨_, _, fldL rfl (by repeat (first | with_reducible exact AtN.here | with_reducible apply AtN.there)) rfl, by assumption, NoA.at_ (by assumption) (by walk_at "ing"), ?_⟩))
local macro_rules | `(tactic| walk_at "fv") => `(tactic| (refine ⟨_, _, fldV (by repeat (first | with_reducible exact AtN.here | with_reducible apply AtN.there)) rfl, by assumption, NoA.at_ (by assumption) (by walk_at "ing"), ?_⟩))
/-! ### added -/
def addF (cs os : List Nat) (s : Nat) : List Nat := (List.range (max cs.length (os.length + s))).map fun k => cs.getD k 0 + if s ≤ k then os.getD (k - s) 0 else 0
theorem addF_len (cs os : List Nat) (s : Nat) : (addF cs os s).length = max cs.length (os.length + s) := by simp [addF]
theorem addF_get (cs os : List Nat) (s k : Nat) : (addF cs os s).getD k 0 = cs.getD k 0 + if s ≤ k then os.getD (k - s) 0 else 0 := by
  unfold addF
  rw [List.getD_eq_getElem?_getD, List.getElem?_map]
  by_cases h : k < max cs.length (os.length + s)
  · rw [List.getElem?_range h]; rfl
  · rw [List.getElem?_eq_none (by simpa using h)]
    have h1 : cs.length ≤ k := by omega
    have h2 : os.length + s ≤ k := by omega
    simp [List.getD_eq_getElem?_getD, List.getElem?_eq_none h1]
    intro _
    rw [List.getElem?_eq_none (by omega)]; rfl
def addP (cs os : List Nat) (s i : Nat) : List Nat := (List.range (max cs.length (os.length + s))).map fun k => cs.getD k 0 + if s ≤ k ∧ k - s < i then os.getD (k - s) 0 else 0
theorem addP_zero (cs os : List Nat) (s : Nat) : addP cs os s 0 = cs ++ (List.range (os.length + s - cs.length)).map fun _ => 0 := by
  refine List.ext_getElem? fun k => ?_
  unfold addP
  rw [List.getElem?_map]
  by_cases h : k < max cs.length (os.length + s)
  · rw [List.getElem?_range h]
    by_cases h1 : k < cs.length
    · rw [List.getElem?_append_left h1]
      simp [List.getD_eq_getElem?_getD, List.getElem?_eq_getElem h1]
    · rw [List.getElem?_append_right (by omega), List.getElem?_map, List.getElem?_range (by omega)]
      simp [List.getD_eq_getElem?_getD, List.getElem?_eq_none (show cs.length ≤ k by omega)]
  · rw [List.getElem?_eq_none (by simpa using h), List.getElem?_eq_none (by simp; omega)]
    rfl
theorem addP_succ {cs os : List Nat} {s i : Nat} (hi : i < os.length) : (addP cs os s i).set (i + s) ((addP cs os s i).getD (i + s) 0 + os.getD i 0) = addP cs os s (i + 1) := by
  refine List.ext_getElem? fun k => ?_
  have hL : i + s < max cs.length (os.length + s) := by omega
  rw [List.getElem?_set]
  unfold addP
  by_cases e : i + s = k
  · subst e
    rw [if_pos rfl, List.length_map, List.length_range, if_pos hL, List.getElem?_map, List.getElem?_range hL, List.getD_eq_getElem?_getD, List.getElem?_map, List.getElem?_range hL]
    simp [Nat.add_sub_cancel]
  · rw [if_neg e, List.getElem?_map, List.getElem?_map]
    by_cases h : k < max cs.length (os.length + s)
    · rw [List.getElem?_range h]
      simp only [Option.map_some, Option.some.injEq]
      congr 1
      by_cases q : s ≤ k ∧ k - s < i
      · rw [if_pos q, if_pos ⟨q.1, by omega⟩]
      · rw [if_neg q, if_neg (fun z => q ⟨z.1, by omega⟩)]
    · rw [List.getElem?_eq_none (by simpa using h)]
      rfl
theorem addP_full (cs os : List Nat) (s : Nat) : addP cs os s os.length = addF cs os s := by
  unfold addP addF
  refine List.map_congr_left fun k hk => ?_
  congr 1
  by_cases q : s ≤ k
  · rw [if_pos q]
    by_cases q2 : k - s < os.length
    · rw [if_pos ⟨q, q2⟩]
    · rw [if_neg (fun z => q2 z.2), List.getD_eq_getElem?_getD, List.getElem?_eq_none (by omega)]; rfl
  · rw [if_neg q, if_neg (fun z => q z.1)]
theorem addP_len (cs os : List Nat) (s i : Nat) : (addP cs os s i).length = max cs.length (os.length + s) := by simp [addP]
structure AD where
  cs : List Nat
  os : List Nat
  s : Nat
abbrev spAd := spF AD (fun p => [.lst (p.cs.map iN), .lst (p.os.map iN), iN p.s]) (fun p => p.cs.length ≤ 100000 ∧ p.os.length ≤ 100000 ∧ p.s ≤ 1000) (fun p => .lst ((addF p.cs p.os p.s).map iN))
theorem scAd : FnScope ["counts", "others", "shift", "found", "place", "count", "_"] ["counts", "others", "shift"] (defScope (top 26)) := ⟨rfl, rfl, rfl, by decide +kernel, rfl, by decide +kernel, by decide +kernel⟩
theorem ok_ad {g : Gd} {f : Addr} {fd : FuncData} (F : FunD g.K "added" "added" (defArgs (top 26)) (defBody (top 26)) (defScope (top 26)) [] [] f fd) (hb : Binds g.K fd ["counts", "others", "shift"] [])
    (hB : BltF g ["list", "range", "len", "enumerate"]) : FnD g 1 f ["counts", "others", "shift"] spAd := by
  refine fn_mk F hb scAd (gl := ["list", "range", "len", "enumerate"]) [("counts", 0), ("others", 1), ("shift", 2), ("found", 3), ("place", 4), ("count", 5)] (by decide +kernel) (by decide +kernel) (fun rs S Ψ ξ h => ?_) (fun rs S Ψ ξ h => ?_)
  · obtain ⟨_, rfl, _⟩ := h; rfl
  · obtain ⟨⟨cs, os, s⟩, rfl, rfl, ⟨h1, h2, h3⟩, hΨ⟩ := h
    dsimp only at h1 h2 h3 hΨ
    refine wss_cons ?_
    walk_at "s"
    repeat walk_at "e"
    refine wc_listF (.lst _) ?_
    refine we_lc [("_", 6)] [("_", 6)] [("_", 6)] [] (by dsimp only; decide +kernel) rfl ?_ (fun _ _ => rfl)
    refine wi_range1 (by walk_at "ing") (by walk_at "nb") ?_ (fun _ => rfl)
    repeat walk_at "e"
    have e1 : (((os.map iN).length : Int) + (s : Int) - ((cs.map iN).length : Int)).toNat = os.length + s - cs.length := by rw [List.length_map, List.length_map]; omega
    refine ⟨_, rfl, by dsimp only; rw [List.length_map, List.length_map]; omega, ?_⟩
    refine ⟨fun i S' => S' = [nl ((List.range i).map fun _ => iN 0)], rfl, fun _ _ _ => trivial, ?_, ?_⟩
    · rintro i d S' hd rfl
      obtain ⟨hi, rfl⟩ := rangeD_get hd
      rw [e1] at hi
      refine wgw_name (by walk_at "inv") (by decide) ?_
      refine wts_nil ⟨fun h => (by cases h), fun _ => ?_⟩
      repeat walk_at "e"
      refine ⟨_, rfl, by simp [sizeLine_eq]; omega, ?_⟩
      show _ = _
      simp [List.range_succ]
    rintro S' rfl
    rw [rangeD_len, e1]
    refine wo_catG (.lst _) (.loc rfl) (by simp [sizeLine_eq]; omega) ?_
    have e2 : cs.map iN ++ (List.range (os.length + s - cs.length)).map (fun _ => iN 0) = (addP cs os s 0).map iN := by rw [addP_zero, List.map_append, List.map_map]; rfl
    rw [e2]
    refine wss_cons ?_
    refine ws_for rfl ?_ (fun _ _ => rfl)
    refine wi_enum (by walk_at "ing") (by walk_at "nb") ?_ (fun _ => rfl)
    repeat walk_at "e"
    refine ⟨_, .lst _, ?_⟩
    refine ⟨fun i env S' => env = [some (.val (.lst (cs.map iN))), some (.val (.lst (os.map iN))), some (.val (iN s)), some (.loc 1), none, none, none] ∧ S' = [nl ((List.range (os.length + s - cs.length)).map fun _ => iN 0), nl ((addP cs os s i).map iN)], Nat.zero_le _, ⟨rfl, rfl⟩, fun _ _ _ _ => trivial, ?_, ?_⟩
    · rintro i d env' S' hd ⟨rfl, rfl⟩
      obtain ⟨d0, hd0, rfl⟩ := enumD_get hd
      rw [List.getElem?_map] at hd0
      obtain ⟨c, hc, rfl⟩ := Option.map_eq_some_iff.mp hd0
      have hi : i < os.length := (List.getElem?_eq_some_iff.mp hc).1
      have hoi : os.getD i 0 = c := by rw [List.getD_eq_getElem?_getD, hc]; rfl
      have hL : i + s < (addP cs os s i).length := by rw [addP_len]; omega
      have xg : (addP cs os s i)[i + s]? = some ((addP cs os s i).getD (i + s) 0) := by rw [List.getD_eq_getElem?_getD, List.getElem?_eq_getElem hL]; rfl
      refine wg_tup rfl ?_ (fun _ => rfl) (fun _ => rfl)
      refine wgs_cons ?_ (fun _ => rfl)
      refine wg_name (by walk_at "inv") ?_
      refine wgs_cons ?_ (fun _ => rfl)
      refine wg_name (by walk_at "inv") ?_
      refine wgs_nil ?_
      refine wss_one ?_
      refine ws_asg ?_ (fun _ => rfl) (fun _ => rfl) (fun _ => rfl)
      repeat walk_at "e"
      refine wix_F (g := iN) (.loc rfl) (j := i + s) (by omega) xg ?_
      repeat walk_at "e"
      refine wg_setL ?_ (fun _ _ => rfl)
      repeat walk_at "e"
      refine ⟨1, _, _, i + s, rfl, rfl, rfl, ?_, ?_⟩
      · rw [show (i : Int) + (s : Int) = ((i + s : Nat) : Int) by omega]
        exact ixN_of (by simp; exact hL)
      dsimp only
      refine Wk.drop (env' := [some (.val (.lst (cs.map iN))), some (.val (.lst (os.map iN))), some (.val (iN s)), some (.loc 1), none, none, none]) ⟨rfl, ?_⟩ (by walk_at "ew") (by simp) (by
        show (Node.okB 2 (nl _) && (Node.okB 2 (Node.lst _) && true)) = true
        rw [nl_set, okB_nl, okB_nl]; rfl)
      show [_, Node.lst _] = _
      rw [nl_set, show (D.int (((addP cs os s i).getD (i + s) 0 : Nat) + (c : Int))) = iN ((addP cs os s i).getD (i + s) 0 + os.getD i 0) from by rw [hoi]; rfl, ← List.map_set, addP_succ hi]
    · rintro env' S' ⟨rfl, rfl⟩
      rw [enumD_len, List.length_map, addP_full]
      refine wss_one ?_
      walk_at "s"
      repeat walk_at "e"
      exact RetC.fixL rfl hΨ
end DL
set_option Elab.async false
set_option linter.all false
set_option maxRecDepth 100000
set_option maxHeartbeats 4000000
namespace DL
open PySem PySem.Spec PyProof.Rows
open L2 hiding Takes passAt takes_of ps_raise PMk ps_try_as
open L2N (Takes passAt takes_of ps_raise PMk ps_try_as)
local macro_rules | `(tactic| walk_at "inv") => `(tactic| ((try dsimp only); repeat (first | with_reducible exact InV.here | with_reducible apply InV.there)))
local macro_rules | `(tactic| walk_at "ing") => `(tactic| ((try dsimp only); repeat (first | with_reducible exact InG.here | with_reducible apply InG.there)))
local macro_rules | `(tactic| walk_at "nb") => `(tactic| first | assumption | (dsimp only; refine BltF.at_ (by assumption) ?_; repeat (first | with_reducible exact InG.here | with_reducible apply InG.there)))
local macro_rules | `(tactic| walk_at "s") => `(tactic| first
  | refine wss_cons ?_ | refine wss_nil ?_ | refine ws_set (by walk_at "inv") ?_ (fun _ => rfl) | refine ws_if ?_ | refine ws_ret ?_ | refine ws_aug (by walk_at "inv") rfl ?_
  | refine ws_expr ?_ (fun _ => rfl) | refine ws_pass ?_ | refine ws_break ?_ | refine ws_cont ?_ | refine ws_retN ?_
  | refine ws_setA ?_ (fun _ => rfl) | refine ws_put ?_ (fun _ => rfl) | refine ws_asg ?_ (fun _ => rfl) (fun _ => rfl) (fun _ => rfl))
local macro_rules | `(tactic| walk_at "we") => `(tactic| first
  | refine we_name (by walk_at "inv") rfl ?_ | refine we_int ?_ | refine we_op ?_ | refine we_str ?_
  | refine we_callB (by walk_at "ing") (by walk_at "nb") (by first | exact PySem.boot_len | exact boot_abs | exact boot_min | exact boot_max | exact boot_sorted | exact boot_isinstance) ?_ (fun _ => rfl) (fun _ => rfl)
  | refine we_callT (by walk_at "ing") (by walk_at "nb") (by first | exact boot_tuple | exact boot_list | exact boot_int) ?_ (fun _ => rfl) (fun _ => rfl)
  | refine we_attr ?_ (fun _ => rfl) | refine we_ix ?_ (fun _ _ => rfl) | refine we_tup ?_
  | refine we_append ?_ (fun _ => rfl) (fun _ => rfl) rfl (fun _ => rfl) (fun _ => rfl)
  | refine we_bl ?_ | refine we_non ?_ | refine we_chain ?_ rfl | refine we_cmp ?_ rfl | refine we_one ?_ | refine we_and ?_ | refine we_or ?_ | refine we_not ?_ | refine we_ifx ?_ | refine we_neg ?_ | refine we_slice ?_)
local macro_rules | `(tactic| walk_at "wb") => `(tactic| first | refine we_type (by walk_at "ing") (by walk_at "nb") boot_int ?_ | refine we_type (by walk_at "ing") (by walk_at "nb") boot_bool ?_ | refine we_type (by walk_at "ing") (by walk_at "nb") boot_str ?_ | refine we_type (by walk_at "ing") (by walk_at "nb") boot_tuple ?_)
local macro_rules | `(tactic| walk_at "wt") => `(tactic| first | refine wt_cmp ?_ rfl | refine wt_not ?_ | refine wt_chain ?_ rfl | refine wt_of ?_)
local macro_rules | `(tactic| walk_at "wto") => `(tactic| first | refine wto_and1 ?_ | refine wto_or1 ?_ | refine wto_and ?_ | refine wto_or ?_)
local macro_rules | `(tactic| walk_at "wo") => `(tactic| first
  | refine wo_add ?_ | refine wo_sub ?_ | refine wo_lt ?_ | refine wo_le ?_ | refine wo_gt ?_ | refine wo_ge ?_ | refine wo_eqI ?_ | refine wo_neI ?_ | refine wo_eqL ?_ | refine wo_neL ?_ | refine wo_lt1 ?_ | refine wo_le1 ?_ | refine wo_ge1 ?_ | refine wo_inL ?_ | refine wo_notInL ?_
  | refine wo_mod (by omega) ?_ | refine wo_fdiv ⟨by omega, by omega⟩ ?_ | refine wo_mul (by first | exact Or.inr ⟨by omega, by omega⟩ | exact Or.inl ⟨by omega, by omega⟩) ?_ | refine wo_pow ⟨by omega, by omega, by decide⟩ ?_
  | refine wo_isN (by intro _ h; cases h) ?_ | refine wo_notN (by intro _ h; cases h) ?_)
local macro_rules | `(tactic| walk_at "wc") => `(tactic| first
  | refine wc_len (by first | exact .tup _ | exact .lst _ | exact .bor _ | exact .loc rfl) ?_ | refine wc_int ?_ | refine wc_intB ?_ | refine wc_abs ?_ | refine wc_min2 rfl ?_ | refine wc_max2 rfl ?_ | refine wc_tuple (by first | exact .tup _ | exact .lst _ | exact .bor _ | exact .loc rfl) ?_)
local macro_rules | `(tactic| walk_at "e") => `(tactic| first
  | (with_reducible show WE _ _ _ _ _); walk_at "we"
  | (with_reducible show WT _ _ _ _ _); walk_at "wt"
  | (with_reducible show WTo _ _ _ _ _); walk_at "wto"
  | (with_reducible show WO _ _ _ _ _ _); walk_at "wo"
  | (with_reducible show WA _ _ _ _ _); first | refine wa_cons ?_ (fun _ => rfl) | refine wa_nil ?_
  | (with_reducible show WC _ _ _ _ _); walk_at "wc"
  | (with_reducible show WPO _ _ _ _ _); first | refine wpo_none ?_ | refine wpo_some ?_
  | refine asB_mk ?_ | refine wip_add ?_
  | refine ⟨_, rfl, (by first | decide | exact Nat.le_of_ble_eq_true rfl), ?_⟩)
local macro_rules | `(tactic| walk_at "ew") => `(tactic| ((try simp only [List.set_cons_zero, List.set_cons_succ]); repeat (first | exact EnvW.nil | refine EnvW.keep (by first | rfl | assumption) ?_ | refine EnvW.drop ?_)))
local macro_rules | `(tactic| walk_at "fl") => `(tactic| (refine ⟨_, _, fldL rfl (by repeat (first | with_reducible exact AtN.here | with_reducible apply AtN.there)) rfl, by assumption, NoA.at_ (by assumption) (by walk_at "ing"), ?_⟩))
local macro_rules | `(tactic| walk_at "fv") => `(tactic| (refine ⟨_, _, fldV (by repeat (first | with_reducible exact AtN.here | with_reducible apply AtN.there)) rfl, by assumption, NoA.at_ (by assumption) (by walk_at "ing"), ?_⟩))
/-! ### the store of texts_by_pieces -/
def rowD (n : Nat) (T : Nat → Nat → List Nat) (e : Nat) : List D := (List.range n).map fun p => .lst ((T e p).map iN)
def tbO (M : Nat) : Node := .lst ((List.range (M + 1)).map fun e => R.loc (e + 1))
def tbS (M n : Nat) (T : Nat → Nat → List Nat) : Sto := tbO M :: (List.range (M + 1)).map fun e => nl (rowD n T e)
def updT (T : Nat → Nat → List Nat) (e p : Nat) (v : List Nat) : Nat → Nat → List Nat := fun e' p' => if e' = e ∧ p' = p then v else T e' p'
theorem tbS_len (M n : Nat) (T : Nat → Nat → List Nat) : (tbS M n T).length = M + 2 := by simp [tbS]
theorem tbS_out (M n : Nat) (T : Nat → Nat → List Nat) : (tbS M n T)[0]? = some (.lst ((List.range (M + 1)).map fun e => R.loc (e + 1))) := rfl
theorem tbO_get {M e : Nat} (h : e ≤ M) : ((List.range (M + 1)).map fun e => R.loc (e + 1))[e]? = some (R.loc (e + 1)) := by
  rw [List.getElem?_map, List.getElem?_range (by omega)]; rfl
theorem tbS_row {M n e : Nat} {T : Nat → Nat → List Nat} (h : e ≤ M) : (tbS M n T)[e + 1]? = some (nl (rowD n T e)) := by
  unfold tbS
  rw [List.getElem?_cons_succ, List.getElem?_map, List.getElem?_range (by omega)]; rfl
theorem rowD_get {n p e : Nat} {T : Nat → Nat → List Nat} (h : p < n) : (rowD n T e)[p]? = some (.lst ((T e p).map iN)) := by
  unfold rowD
  rw [List.getElem?_map, List.getElem?_range h]; rfl
theorem rowD_len (n e : Nat) (T : Nat → Nat → List Nat) : (rowD n T e).length = n := by simp [rowD]
theorem rowD_set {n p e : Nat} {T : Nat → Nat → List Nat} {v : List Nat} (h : p < n) : (rowD n T e).set p (.lst (v.map iN)) = rowD n (updT T e p v) e := by
  refine List.ext_getElem? fun k => ?_
  rw [List.getElem?_set, rowD_len]
  by_cases hk : p = k
  · subst hk
    rw [if_pos rfl, if_pos h, rowD_get h]
    simp [updT]
  · rw [if_neg hk]
    by_cases h2 : k < n
    · rw [rowD_get h2, rowD_get h2]
      unfold updT
      rw [if_neg (fun q => hk q.2.symm)]
    · rw [List.getElem?_eq_none (by rw [rowD_len]; omega), List.getElem?_eq_none (by rw [rowD_len]; omega)]
theorem rowD_other {n p e e' : Nat} {T : Nat → Nat → List Nat} {v : List Nat} (h : e' ≠ e) : rowD n (updT T e p v) e' = rowD n T e' := by
  unfold rowD updT
  refine List.map_congr_left fun k _ => ?_
  rw [if_neg (fun q => h q.1)]
theorem tbS_set {M n p e : Nat} {T : Nat → Nat → List Nat} {v : List Nat} (he : e ≤ M) (h : p < n) : (tbS M n T).set (e + 1) (nl ((rowD n T e).set p (.lst (v.map iN)))) = tbS M n (updT T e p v) := by
  rw [rowD_set h]
  unfold tbS
  rw [List.set_cons_succ]
  congr 1
  refine List.ext_getElem? fun k => ?_
  rw [List.getElem?_set, List.length_map, List.length_range]
  by_cases hk : e = k
  · subst hk
    rw [if_pos rfl, if_pos (by omega), List.getElem?_map, List.getElem?_range (by omega)]; rfl
  · rw [if_neg hk, List.getElem?_map, List.getElem?_map]
    by_cases h2 : k < M + 1
    · rw [List.getElem?_range h2]
      show some (nl _) = some (nl _)
      rw [rowD_other (fun q => hk q.symm)]
    · rw [List.getElem?_eq_none (by simp; omega)]; rfl
theorem tbS_ok (M n : Nat) (T : Nat → Nat → List Nat) : (tbS M n T).all (Node.okB (M + 2)) = true := by
  unfold tbS tbO
  rw [List.all_cons, Bool.and_eq_true]
  refine ⟨?_, ?_⟩
  · show (List.map _ _).all (R.okB (M + 2)) = true
    rw [List.all_map, List.all_eq_true]
    intro e he
    have he := List.mem_range.mp he
    show decide (e + 1 < M + 2) = true
    simp; omega
  · rw [List.all_map, List.all_eq_true]
    intro e _
    exact okB_nl _ _
/-! ### what the table holds -/
def OkT (l : List Nat) (P : List Pr) (M : Nat) (T : Nat → Nat → List Nat) (m a : Nat) (S : List Nat) : Prop := ∀ e, e ≤ M → ∀ p, p < l.length + P.length → (T e p).length ≤ e + 1 ∧ ∀ k, (T e p).getD k 0 = tV l P m a S e p k
section
variable {l : List Nat} {P : List Pr} {M m a : Nat} {S os : List Nat} {T : Nat → Nat → List Nat}
theorem OkT.step (hg : GoodS l P) (h : OkT l P M T m a S) {p : Nat} (hp : p < l.length + P.length) (hS : p ∉ S) (hm : 1 ≤ m) (ho : os.length ≤ m + 1) (hv : ∀ k, os.getD k 0 = cntT l P m k a) (he : m + pl l P p ≤ M) : OkT l P M (updT T (m + pl l P p) p (addF (T (m + pl l P p) p) os 1)) m a (S ++ [p]) := fun e he' p' hp' => by
  have h1 := pl_pos hg hp
  by_cases q : e = m + pl l P p ∧ p' = p
  · obtain ⟨rfl, rfl⟩ := q
    unfold updT
    rw [if_pos ⟨rfl, rfl⟩]
    obtain ⟨g1, g2⟩ := h _ he p' hp'
    refine ⟨by rw [addF_len]; omega, fun k => ?_⟩
    rw [addF_get, g2, tV_step hg hS hm]
    congr 1
    by_cases hk : 1 ≤ k
    · rw [if_pos hk, if_pos hk, hv]
    · rw [if_neg hk, if_neg hk]
  · unfold updT
    rw [if_neg q]
    obtain ⟨g1, g2⟩ := h e he' p' hp'
    exact ⟨g1, fun k => by rw [g2, tV_other q]⟩
theorem OkT.far (h : OkT l P M T m a S) {p : Nat} (he : M < m + pl l P p) : OkT l P M T m a (S ++ [p]) := fun e he' p' hp' => by
  obtain ⟨g1, g2⟩ := h e he' p' hp'
  exact ⟨g1, fun k => by rw [g2, tV_other (fun q => by have := q.1; omega)]⟩
theorem OkT.next (h : OkT l P M T m a S) (hS : ∀ p, p < l.length + P.length → (p ∈ S ↔ (crossF l.length P a p).isNone = true)) : OkT l P M T m (a + 1) [] := fun e he p hp => by
  obtain ⟨g1, g2⟩ := h e he p hp
  exact ⟨g1, fun k => by rw [g2, tV_next (hS p hp)]⟩
theorem OkT.skip (h : OkT l P M T m a S) (h0 : ∀ k, cntT l P m k a = 0) : OkT l P M T m (a + 1) [] := fun e he p hp => by
  obtain ⟨g1, g2⟩ := h e he p hp
  exact ⟨g1, fun k => by rw [g2, tV_skip h0]⟩
theorem OkT.fin (hnd : l.Nodup) (hg : GoodS l P) (hm : 1 ≤ m) (h : OkT l P M T m (l.length + P.length) []) : OkT l P M T (m + 1) 0 [] := fun e he p hp => by
  obtain ⟨g1, g2⟩ := h e he p hp
  exact ⟨g1, fun k => by rw [g2, tV_end hnd hg hm hp]⟩
theorem OkT.row (hnd : l.Nodup) (hg : GoodS l P) (h : OkT l P M T m a S) (hm : m ≤ M) {p : Nat} (hp : p < l.length + P.length) : (T m p).length ≤ m + 1 ∧ ∀ k, (T m p).getD k 0 = cntT l P m k p := by
  obtain ⟨g1, g2⟩ := h m hm p hp
  exact ⟨g1, fun k => by rw [g2, tV_row hnd hg hp]⟩
theorem OkT.start (hg : GoodS l P) (h : ∀ e, e ≤ M → ∀ p, p < l.length + P.length → T e p = if e = pl l P p then [0, 1] else []) : OkT l P M T 1 0 [] := fun e he p hp => by
  rw [h e he p hp]
  have h1 := pl_pos hg hp
  by_cases q : e = pl l P p
  · rw [if_pos q]
    refine ⟨by simp; omega, fun k => ?_⟩
    rw [tV_start, if_pos q]
    rcases k with _ | _ | k
    · rfl
    · rfl
    · simp
  · rw [if_neg q]
    refine ⟨by simp, fun k => ?_⟩
    rw [tV_start, if_neg q]
    simp
end
end DL
set_option Elab.async false
set_option linter.all false
set_option maxRecDepth 100000
set_option maxHeartbeats 4000000
namespace DL
open PySem PySem.Spec PyProof.Rows
open L2 hiding Takes passAt takes_of ps_raise PMk ps_try_as
open L2N (Takes passAt takes_of ps_raise PMk ps_try_as)
local macro_rules | `(tactic| walk_at "inv") => `(tactic| ((try dsimp only); repeat (first | with_reducible exact InV.here | with_reducible apply InV.there)))
local macro_rules | `(tactic| walk_at "ing") => `(tactic| ((try dsimp only); repeat (first | with_reducible exact InG.here | with_reducible apply InG.there)))
local macro_rules | `(tactic| walk_at "nb") => `(tactic| first | assumption | (dsimp only; refine BltF.at_ (by assumption) ?_; repeat (first | with_reducible exact InG.here | with_reducible apply InG.there)))
local macro_rules | `(tactic| walk_at "s") => `(tactic| first
  | refine wss_cons ?_ | refine wss_nil ?_ | refine ws_set (by walk_at "inv") ?_ (fun _ => rfl) | refine ws_if ?_ | refine ws_ret ?_ | refine ws_aug (by walk_at "inv") rfl ?_
  | refine ws_expr ?_ (fun _ => rfl) | refine ws_pass ?_ | refine ws_break ?_ | refine ws_cont ?_ | refine ws_retN ?_
  | refine ws_setA ?_ (fun _ => rfl) | refine ws_put ?_ (fun _ => rfl) | refine ws_asg ?_ (fun _ => rfl) (fun _ => rfl) (fun _ => rfl))
local macro_rules | `(tactic| walk_at "we") => `(tactic| first
  | refine we_name (by walk_at "inv") rfl ?_ | refine we_int ?_ | refine we_op ?_ | refine we_str ?_
  | refine we_callB (by walk_at "ing") (by walk_at "nb") (by first | exact PySem.boot_len | exact boot_abs | exact boot_min | exact boot_max | exact boot_sorted | exact boot_isinstance) ?_ (fun _ => rfl) (fun _ => rfl)
  | refine we_callT (by walk_at "ing") (by walk_at "nb") (by first | exact boot_tuple | exact boot_list | exact boot_int) ?_ (fun _ => rfl) (fun _ => rfl)
  | refine we_attr ?_ (fun _ => rfl) | refine we_ix ?_ (fun _ _ => rfl) | refine we_tup ?_
  | refine we_append ?_ (fun _ => rfl) (fun _ => rfl) rfl (fun _ => rfl) (fun _ => rfl)
  | refine we_bl ?_ | refine we_non ?_ | refine we_chain ?_ rfl | refine we_cmp ?_ rfl | refine we_one ?_ | refine we_and ?_ | refine we_or ?_ | refine we_not ?_ | refine we_ifx ?_ | refine we_neg ?_ | refine we_slice ?_)
local macro_rules | `(tactic| walk_at "wb") => `(tactic| first | refine we_type (by walk_at "ing") (by walk_at "nb") boot_int ?_ | refine we_type (by walk_at "ing") (by walk_at "nb") boot_bool ?_ | refine we_type (by walk_at "ing") (by walk_at "nb") boot_str ?_ | refine we_type (by walk_at "ing") (by walk_at "nb") boot_tuple ?_)
local macro_rules | `(tactic| walk_at "wt") => `(tactic| first | refine wt_cmp ?_ rfl | refine wt_not ?_ | refine wt_chain ?_ rfl | refine wt_of ?_)
local macro_rules | `(tactic| walk_at "wto") => `(tactic| first | refine wto_and1 ?_ | refine wto_or1 ?_ | refine wto_and ?_ | refine wto_or ?_)
local macro_rules | `(tactic| walk_at "wo") => `(tactic| first
  | refine wo_add ?_ | refine wo_sub ?_ | refine wo_lt ?_ | refine wo_le ?_ | refine wo_gt ?_ | refine wo_ge ?_ | refine wo_eqI ?_ | refine wo_neI ?_ | refine wo_eqL ?_ | refine wo_neL ?_ | refine wo_lt1 ?_ | refine wo_le1 ?_ | refine wo_ge1 ?_ | refine wo_inL ?_ | refine wo_notInL ?_
  | refine wo_mod (by omega) ?_ | refine wo_fdiv ⟨by omega, by omega⟩ ?_ | refine wo_mul (by first | exact Or.inr ⟨by omega, by omega⟩ | exact Or.inl ⟨by omega, by omega⟩) ?_ | refine wo_pow ⟨by omega, by omega, by decide⟩ ?_
  | refine wo_isN (by intro _ h; cases h) ?_ | refine wo_notN (by intro _ h; cases h) ?_)
local macro_rules | `(tactic| walk_at "wc") => `(tactic| first
  | refine wc_len (by first | exact .tup _ | exact .lst _ | exact .bor _ | exact .loc rfl) ?_ | refine wc_int ?_ | refine wc_intB ?_ | refine wc_abs ?_ | refine wc_min2 rfl ?_ | refine wc_max2 rfl ?_ | refine wc_tuple (by first | exact .tup _ | exact .lst _ | exact .bor _ | exact .loc rfl) ?_)
local macro_rules | `(tactic| walk_at "e") => `(tactic| first
  | (with_reducible show WE _ _ _ _ _); walk_at "we"
  | (with_reducible show WT _ _ _ _ _); walk_at "wt"
  | (with_reducible show WTo _ _ _ _ _); walk_at "wto"
  | (with_reducible show WO _ _ _ _ _ _); walk_at "wo"
  | (with_reducible show WA _ _ _ _ _); first | refine wa_cons ?_ (fun _ => rfl) | refine wa_nil ?_
  | (with_reducible show WC _ _ _ _ _); walk_at "wc"
  | (with_reducible show WPO _ _ _ _ _); first | refine wpo_none ?_ | refine wpo_some ?_
  | refine asB_mk ?_ | refine wip_add ?_
  | refine ⟨_, rfl, (by first | decide | exact Nat.le_of_ble_eq_true rfl), ?_⟩)
local macro_rules | `(tactic| walk_at "ew") => `(tactic| ((try simp only [List.set_cons_zero, List.set_cons_succ]); repeat (first | exact EnvW.nil | refine EnvW.keep (by first | rfl | assumption) ?_ | refine EnvW.drop ?_)))
local macro_rules | `(tactic| walk_at "fl") => `(tactic| (refine ⟨_, _, fldL rfl (by repeat (first | with_reducible exact AtN.here | with_reducible apply AtN.there)) rfl, by assumption, NoA.at_ (by assumption) (by walk_at "ing"), ?_⟩))
local macro_rules | `(tactic| walk_at "fv") => `(tactic| (refine ⟨_, _, fldV (by repeat (first | with_reducible exact AtN.here | with_reducible apply AtN.there)) rfl, by assumption, NoA.at_ (by assumption) (by walk_at "ing"), ?_⟩))
/-! ### texts_by_pieces -/
abbrev spTb (A : Addr) := spF JK (fun p => [jD A p.l p.P p.lg, iN p.k]) (fun p => p.toJV.ok ∧ GoodS p.l p.P ∧ p.l.Nodup ∧ (∀ t ∈ txts p.l p.P, t.length ≤ 100) ∧ p.k ≤ 1000) (fun p => .tup ((List.range (p.k + 1)).map fun j => iN (cntK p.l p.P p.k j)))
def plL (l : List Nat) (P : List Pr) : List Nat := (List.range (l.length + P.length)).map (pl l P)
def pS (n i : Nat) : Sto := Node.lst ((List.range i).map fun e => R.loc (e + 1)) :: (List.range i).map fun e => nl (rowD n (fun _ _ => []) e)
theorem pS_len (n i : Nat) : (pS n i).length = i + 1 := by simp [pS]
theorem pS_full (n M : Nat) : pS n (M + 1) = tbS M n fun _ _ => [] := rfl
theorem pS_succ (n i : Nat) : (pS n i ++ [nl ((List.range n).map fun _ => D.lst [])]).set 0 (.lst ((List.range i).map (fun e => R.loc (e + 1)) ++ [R.loc (i + 1)])) = pS n (i + 1) := by
  unfold pS
  rw [List.range_succ, List.map_append, List.map_append, List.cons_append, List.set_cons_zero]
  rfl
theorem Wk.eqS {n0 : Nat} {I : Nv → Sto → Prop} {env : Nv} {S S' : Sto} (e : S = S') (h : Wk n0 I env S') : Wk n0 I env S := e ▸ h
theorem scTb : FnScope ["joins", "many", "followers", "lengths", "reached", "piece", "length", "letters", "left", "counts", "right", "end", "whole", "_"] ["joins", "many"] (defScope (top 27)) := ⟨rfl, rfl, rfl, by decide +kernel, rfl, by decide +kernel, by decide +kernel⟩
theorem ok_tb {g : Gd} {f f1 f2 f3 f4 fp A : Addr} {fd : FuncData} (F : FunD g.K "texts_by_pieces" "texts_by_pieces" (defArgs (top 27)) (defBody (top 27)) (defScope (top 27)) [] [] f fd) (hb : Binds g.K fd ["joins", "many"] [])
    (hB : BltF g ["len", "range", "enumerate", "tuple"]) (hcl : Cls g.K A) (GPI : FnD g 1 f1 ["self"] (spPI A)) (pPI : PropOf g.K A "pieces" fp f1) (GFo : FnD g 8 f2 ["joins"] (spFo A)) (mFo : g.mg "followers_of" = some (.ref f2)) (GTX : FnD g 4 f3 ["self", "piece"] (spTX A)) (mTX : Meth g.K A "text_of" f3) (GAd : FnD g 1 f4 ["counts", "others", "shift"] spAd) (mAd : g.mg "added" = some (.ref f4)) : FnD g 9 f ["joins", "many"] (spTb A) := by
  refine fn_mk F hb scTb (gl := ["len", "range", "enumerate", "tuple", "followers_of", "added"]) [("joins", 0), ("many", 1), ("followers", 2), ("lengths", 3), ("reached", 4), ("piece", 5), ("length", 6), ("letters", 7), ("left", 8), ("counts", 9), ("right", 10), ("end", 11), ("whole", 12)] (by decide +kernel) (by decide +kernel) (fun rs S Ψ ξ h => ?_) (fun rs S Ψ ξ h => ?_)
  · obtain ⟨_, rfl, _⟩ := h; rfl
  · obtain ⟨⟨⟨l, P, lg⟩, M⟩, rfl, rfl, ⟨hok, hg, hnd, hts, hM⟩, hΨ⟩ := h
    dsimp only at hΨ hg hnd hts hM
    have htl := txts_len l P
    have hnn : l.length + P.length ≤ 1030 := by have h1 := hok.1; have h2 := hok.2; dsimp only at h1 h2; omega
    have hpl : ∀ p, pl l P p ≤ 100 := fun p => by
      unfold pl
      rw [List.getD_eq_getElem?_getD]
      cases e : (txts l P)[p]? with
      | none => simp
      | some t => exact hts t (List.mem_of_getElem? e)
    refine wss_cons ?_
    refine ws_ifB (M = 0) ?_ (fun h => ?_) (fun h0 => ?_)
    · repeat walk_at "e"
      exact ⟨decide_eq_decide.mpr (by dsimp only; omega), rfl⟩
    · subst h
      refine wss_one ?_
      walk_at "s"
      repeat walk_at "e"
      refine RetC.now (Nat.le_refl _) rfl rfl ?_
      rw [show (List.range (0 + 1)).map (fun j => iN (cntK l P 0 j)) = [iN 1] from by show [iN (cntK l P 0 0)] = _; rw [cntK_zero]] at hΨ
      exact hΨ
    walk_at "s"
    refine wss_cons ?_
    walk_at "s"
    refine we_call GFo (by walk_at "ing") mFo (Nat.le_of_ble_eq_true rfl) rfl ?_ (fun _ => rfl) (fun _ => rfl)
    repeat walk_at "e"
    refine fnc_F (A := JV) ⟨l, P, lg⟩ rfl ⟨hok, hg⟩ ?_
    dsimp only
    refine wss_cons ?_
    refine ws_setCe (by walk_at "inv") rfl ?_
    refine we_settle ?_
    refine we_lc [("piece", 5)] [("joins", 0), ("piece", 5)] [("piece", 5)] ["len"] (by dsimp only; decide +kernel) rfl ?_ (fun _ _ => rfl)
    refine wi_range1 (by walk_at "ing") (by walk_at "nb") ?_ (fun _ => rfl)
    refine we_prop GPI hcl pPI (Nat.le_of_ble_eq_true rfl) rfl ?_ (fun _ => rfl)
    repeat walk_at "e"
    refine ⟨_, .val _ _ _, fun Dd hD => ?_⟩
    refine fnc_F (A := JV) ⟨l, P, lg⟩ rfl hok ?_
    dsimp only
    rw [htl]
    refine ⟨_, rfl, by omega, ?_⟩
    refine ⟨fun i S' => S' = [nl (((List.range i).map (pl l P)).map iN)], rfl, fun _ _ _ => trivial, ?_, ?_⟩
    · rintro i d S' hd rfl
      obtain ⟨hi, rfl⟩ := rangeD_get hd
      have hi : i < l.length + P.length := by omega
      refine wgw_name (by walk_at "inv") (by decide) ?_
      refine wts_nil ⟨fun h => (by cases h), fun _ => ?_⟩
      repeat walk_at "e"
      refine we_meth GTX hcl mTX (Nat.le_of_ble_eq_true rfl) rfl ?_ (fun _ => rfl) (fun _ => rfl) (fun _ => rfl)
      repeat walk_at "e"
      refine ⟨_, .val _ _ _, by decide +kernel, ?_⟩
      repeat walk_at "e"
      rw [show (0 : Int) + (i : Int) = (i : Int) from Int.zero_add _]
      refine fnc_F (A := JI) ⟨⟨l, P, lg⟩, i⟩ rfl ⟨hok, by dsimp only; omega⟩ ?_
      dsimp only
      have := hpl i
      unfold pl at this
      repeat walk_at "e"
      refine wc_lenL (by rw [sizeLine_eq]; omega) ?_
      refine ⟨_, rfl, by simp [sizeLine_eq]; omega, ?_⟩
      show _ = _
      simp [List.range_succ, pl]
    rintro S' rfl
    rw [rangeD_len, Int.toNat_natCast]
    refine ⟨0, _, Nat.le_refl _, Nat.zero_le _, rfl, .inr ⟨_, .lst (Nat.le_refl _) rfl (FzL.vals _), rfl⟩, ?_⟩
    show WSs _ _ [some (.val (jD A l P lg)), some (.val (iN M)), some (.val (flD (fowL l P))), some (.val (.lst ((plL l P).map iN))), none, none, none, none, none, none, none, none, none, none] [] _
    refine wss_cut (fun env S => env = [some (.val (jD A l P lg)), some (.val (iN M)), some (.val (flD (fowL l P))), some (.val (.lst ((plL l P).map iN))), some (.loc 0), none, none, none, none, none, none, none, none, none] ∧ S = tbS M (l.length + P.length) fun _ _ => []) ?_ ?_
    · refine ws_setLc [("_", 13)] [("lengths", 3), ("_", 13)] [("_", 13)] [] (by dsimp only; decide +kernel) rfl (by walk_at "inv") ?_ (fun _ _ => rfl) rfl rfl rfl rfl
      refine wi_range1 (by walk_at "ing") (by walk_at "nb") ?_ (fun _ => rfl)
      repeat walk_at "e"
      refine ⟨_, rfl, by omega, ?_⟩
      refine ⟨fun i S' => S' = pS (l.length + P.length) i, rfl, fun _ _ _ => trivial, ?_, ?_⟩
      · rintro i d S' hd rfl
        obtain ⟨hi, rfl⟩ := rangeD_get hd
        have hi : i < M + 1 := by omega
        refine wgw_name (by walk_at "inv") (by decide) ?_
        refine wts_nil ⟨fun h => (by cases h), fun _ => ?_⟩
        refine we_lc [("_", 13)] [("_", 13)] [("_", 13)] [] (by dsimp only; decide +kernel) rfl ?_ (fun _ _ => rfl)
        refine wi_seq ?_
        repeat walk_at "e"
        refine ⟨_, .lst _, fun j S' => S' = pS (l.length + P.length) i ++ [nl ((List.range j).map fun _ => D.lst [])], rfl, fun _ S' _ => trivial, ?_, ?_⟩
        · rintro j d S' hd rfl
          have hj : j < l.length + P.length := by
            have := (List.getElem?_eq_some_iff.mp hd).1
            simpa [plL] using this
          refine wgw_name (by walk_at "inv") (by decide) ?_
          refine wts_nil ⟨fun h => (by cases h), fun _ => ?_⟩
          refine we_lstF ?_
          refine wa_nil ⟨[], rfl, by decide, ?_⟩
          refine ⟨_, by rw [List.getElem?_append_right (Nat.le_refl _), Nat.sub_self]; rfl, by simp [sizeLine_eq]; omega, ?_⟩
          show _ = _
          rw [List.set_append_right _ _ (Nat.le_refl _), Nat.sub_self, List.range_succ]
          simp
        · rintro S' rfl
          have e1 : ((plL l P).map iN).length = l.length + P.length := by simp [plL]
          rw [e1]
          refine ⟨(List.range i).map (fun e => R.loc (e + 1)), rfl, by simp [sizeLine_eq]; omega, ?_⟩
          rw [pS_len]
          exact pS_succ _ _
      · rintro S' rfl
        rw [rangeD_len]
        refine ⟨rfl, ?_⟩
        have e9 : ((M : Int) + 1).toNat = M + 1 := by omega
        rw [← pS_full]
        exact congrArg _ e9
    rintro env' S' ⟨rfl, rfl⟩
    have hn1 : ∀ T T' : Nat → Nat → List Nat, (tbS M (l.length + P.length) T).length ≤ (tbS M (l.length + P.length) T').length := fun T T' => by rw [tbS_len, tbS_len]; exact Nat.le_refl _
    have hokS : ∀ T : Nat → Nat → List Nat, (tbS M (l.length + P.length) T).all (Node.okB (tbS M (l.length + P.length) T).length) = true := fun T => by rw [tbS_len]; exact tbS_ok _ _ _
    have hE : ∀ (T : Nat → Nat → List Nat), okE (tbS M (l.length + P.length) T).length (.loc 0) = true := fun T => by rw [tbS_len]; rfl
    refine wss_cons ?_
    refine ws_for rfl ?_ (fun _ _ => rfl)
    refine wi_enum (by walk_at "ing") (by walk_at "nb") ?_ (fun _ => rfl)
    repeat walk_at "e"
    refine ⟨_, .lst _, ?_⟩
    refine ⟨fun i env S' => ∃ T : Nat → Nat → List Nat, env = [some (.val (jD A l P lg)), some (.val (iN M)), some (.val (flD (fowL l P))), some (.val (.lst ((plL l P).map iN))), some (.loc 0), none, none, none, none, none, none, none, none, none] ∧ S' = tbS M (l.length + P.length) T ∧ ∀ e, e ≤ M → ∀ p, p < l.length + P.length → T e p = if p < i ∧ e = pl l P p then [0, 1] else [], Nat.zero_le _, ⟨_, rfl, rfl, fun e _ p _ => by simp⟩, fun _ _ _ _ => trivial, ?_, ?_⟩
    · rintro i d env' S' hd ⟨T, rfl, rfl, hT⟩
      obtain ⟨d0, hd0, rfl⟩ := enumD_get hd
      rw [List.getElem?_map] at hd0
      obtain ⟨c, hc, rfl⟩ := Option.map_eq_some_iff.mp hd0
      have hi : i < l.length + P.length := by
        have := (List.getElem?_eq_some_iff.mp hc).1
        simpa [plL] using this
      have ec : c = pl l P i := by
        unfold plL at hc
        rw [List.getElem?_map, List.getElem?_range hi] at hc
        exact (Option.some.inj hc).symm
      subst ec
      refine wg_tup rfl ?_ (fun _ => rfl) (fun _ => rfl)
      refine wgs_cons ?_ (fun _ => rfl)
      refine wg_name (by walk_at "inv") ?_
      refine wgs_cons ?_ (fun _ => rfl)
      refine wg_name (by walk_at "inv") ?_
      refine wgs_nil ?_
      refine wss_one ?_
      refine ws_ifB (pl l P i ≤ M) ?_ (fun h => ?_) (fun h => ?_)
      · repeat walk_at "e"
        exact ⟨decide_eq_decide.mpr (by omega), rfl⟩
      · refine wss_one ?_
        refine ws_asg ?_ (fun _ => rfl) (fun _ => rfl) (fun _ => rfl)
        refine we_lstF ?_
        repeat walk_at "e"
        refine wg_setL ?_ (fun _ _ => rfl)
        repeat walk_at "e"
        refine wix_R (tbS_out _ _ _) (atI_get (k := pl l P i) rfl (tbO_get h)) ?_
        repeat walk_at "e"
        refine ⟨pl l P i + 1, _, _, i, rfl, rfl, tbS_row h, ixN_of (by rw [List.length_map, rowD_len]; exact hi), ?_⟩
        have est : (tbS M (l.length + P.length) T).set (pl l P i + 1) (.lst (((rowD (l.length + P.length) T (pl l P i)).map R.val).set i (.val (.lst ([0, 1].map iN))))) = tbS M (l.length + P.length) (updT T (pl l P i) i [0, 1]) := by rw [nl_set]; exact tbS_set h hi
        dsimp only
        refine Wk.eqS est ?_
        refine Wk.drop (env' := [some (.val (jD A l P lg)), some (.val (iN M)), some (.val (flD (fowL l P))), some (.val (.lst ((plL l P).map iN))), some (.loc 0), none, none, none, none, none, none, none, none, none]) ⟨_, rfl, rfl, fun e he p hp => ?_⟩ (.keep rfl (.keep rfl (.keep rfl (.keep rfl (.keep (hE _) (.drop (.drop (.drop (.drop (.drop (.drop (.drop (.drop (.drop .nil)))))))))))))) (hn1 _ _) (hokS _)
        unfold updT
        by_cases q : e = pl l P i ∧ p = i
        · obtain ⟨rfl, rfl⟩ := q
          rw [if_pos ⟨rfl, rfl⟩, if_pos ⟨by omega, rfl⟩]
        · rw [if_neg q, hT e he p hp]
          by_cases z : p < i ∧ e = pl l P p
          · rw [if_pos z, if_pos ⟨by omega, z.2⟩]
          · rw [if_neg z, if_neg (fun y => ?_)]
            by_cases q2 : p = i
            · subst q2; exact q ⟨y.2, rfl⟩
            · exact z ⟨by have := y.1; omega, y.2⟩
      · walk_at "s"
        dsimp only
        refine Wk.drop (env' := [some (.val (jD A l P lg)), some (.val (iN M)), some (.val (flD (fowL l P))), some (.val (.lst ((plL l P).map iN))), some (.loc 0), none, none, none, none, none, none, none, none, none]) ⟨T, rfl, rfl, fun e he p hp => ?_⟩ (.keep rfl (.keep rfl (.keep rfl (.keep rfl (.keep (hE _) (.drop (.drop (.drop (.drop (.drop (.drop (.drop (.drop (.drop .nil)))))))))))))) (hn1 _ _) (hokS _)
        rw [hT e he p hp]
        by_cases q : p = i
        · subst q
          rw [if_neg (by omega), if_neg (by omega)]
        · have : (p < i ∧ e = pl l P p) ↔ (p < i + 1 ∧ e = pl l P p) := by omega
          by_cases z : p < i ∧ e = pl l P p
          · rw [if_pos z, if_pos (this.mp z)]
          · rw [if_neg z, if_neg (fun y => z (this.mpr y))]
    rintro env' S' ⟨T, rfl, rfl, hT⟩
    have hOk : OkT l P M T 1 0 [] := OkT.start hg fun e he p hp => by
      rw [hT e he p hp]
      have : p < (enumD ((plL l P).map iN)).length := by rw [enumD_len]; simp [plL]; exact hp
      by_cases q : e = pl l P p
      · rw [if_pos ⟨this, q⟩, if_pos q]
      · rw [if_neg (fun y => q y.2), if_neg q]
    refine wss_cons ?_
    refine ws_for rfl ?_ (fun _ _ => rfl)
    refine wi_range2 (by walk_at "ing") (by walk_at "nb") ?_ (fun _ => rfl) (fun _ => rfl)
    repeat walk_at "e"
    refine ⟨1, M, rfl, rfl, by omega, fun i env S' => ∃ T : Nat → Nat → List Nat, env = [some (.val (jD A l P lg)), some (.val (iN M)), some (.val (flD (fowL l P))), some (.val (.lst ((plL l P).map iN))), some (.loc 0), none, none, none, none, none, none, none, none, none] ∧ S' = tbS M (l.length + P.length) T ∧ OkT l P M T (i + 1) 0 [], Nat.zero_le _, ⟨T, rfl, rfl, hOk⟩, fun _ _ _ _ => trivial, ?_, ?_⟩
    · rintro i d env' S' hd ⟨T0, rfl, rfl, hT0⟩
      obtain ⟨hi, rfl⟩ := rangeD_get hd
      have hm : i + 1 < M := by omega
      have hrow : ∀ p, p < (l.length + P.length) → (T0 (i + 1) p).length ≤ i + 1 + 1 ∧ ∀ k, (T0 (i + 1) p).getD k 0 = cntT l P (i + 1) k p := fun p hp => hT0.row hnd hg (by omega) hp
      rw [show (1 : Int) + (i : Int) = ((i + 1 : Nat) : Int) by omega]
      refine wg_name (by walk_at "inv") ?_
      refine wss_one ?_
      refine ws_for rfl ?_ (fun _ _ => rfl)
      refine wi_enum (by walk_at "ing") (by walk_at "nb") ?_ (fun _ => rfl)
      repeat walk_at "e"
      refine wix_R (tbS_out _ _ _) (atI_get (k := i + 1) rfl (tbO_get (by omega))) ?_
      refine ⟨_, .loc (tbS_row (by omega)), ?_⟩
      refine ⟨fun a env S' => ∃ T : Nat → Nat → List Nat, env = [some (.val (jD A l P lg)), some (.val (iN M)), some (.val (flD (fowL l P))), some (.val (.lst ((plL l P).map iN))), some (.loc 0), none, none, some (.val (iN (i + 1))), none, none, none, none, none, none] ∧ S' = tbS M (l.length + P.length) T ∧ OkT l P M T (i + 1) a [] ∧ ∀ p, T (i + 1) p = T0 (i + 1) p, hn1 _ _, ⟨T0, rfl, rfl, hT0, fun _ => rfl⟩, fun _ _ S' h => ?_, ?_, ?_⟩
      · obtain ⟨T, _, rfl, _, hr⟩ := h
        show (tbS M (l.length + P.length) T)[i + 1 + 1]? = some (nl (rowD (l.length + P.length) T0 (i + 1)))
        rw [tbS_row (by omega)]
        congr 2
        unfold rowD
        exact List.map_congr_left fun p _ => by rw [hr]
      · rintro a d env' S' hd ⟨T, rfl, rfl, hT, hr⟩
        obtain ⟨d0, hd0, rfl⟩ := enumD_get hd
        have ha : a < (l.length + P.length) := by
          have := (List.getElem?_eq_some_iff.mp hd0).1
          rwa [rowD_len] at this
        rw [rowD_get ha] at hd0
        have hd0 := Option.some.inj hd0
        subst hd0
        obtain ⟨ho, hv⟩ := hrow a ha
        refine wg_tup rfl ?_ (fun _ => rfl) (fun _ => rfl)
        refine wgs_cons ?_ (fun _ => rfl)
        refine wg_name (by walk_at "inv") ?_
        refine wgs_cons ?_ (fun _ => rfl)
        refine wg_name (by walk_at "inv") ?_
        refine wgs_nil ?_
        refine wss_one ?_
        refine ws_ifB (0 < (T0 (i + 1) a).length) ?_ (fun h => ?_) (fun h => ?_)
        · repeat walk_at "e"
          exact ⟨decide_eq_decide.mpr (by rw [List.length_map]; omega), rfl⟩
        · generalize hfo : (List.range (l.length + P.length)).filter (fun y => (crossF l.length P a y).isNone) = fo
          have hfn : fo.Nodup := by rw [← hfo]; exact List.nodup_range.filter _
          have hfm : ∀ p, p ∈ fo ↔ p < (l.length + P.length) ∧ (crossF l.length P a p).isNone = true := fun p => by rw [← hfo, List.mem_filter, List.mem_range]
          have hfa : (fowL l P)[a]? = some fo := by rw [fowL_at ha, hfo]
          refine wss_one ?_
          refine ws_for rfl ?_ (fun _ _ => rfl)
          refine wi_seq ?_
          repeat walk_at "e"
          refine wix_F (g := fun r : List Nat => D.lst (r.map iN)) (.lst _) (j := a) rfl hfa ?_
          refine ⟨_, .lst _, ?_⟩
          refine ⟨fun b env S' => ∃ T : Nat → Nat → List Nat, env = [some (.val (jD A l P lg)), some (.val (iN M)), some (.val (flD (fowL l P))), some (.val (.lst ((plL l P).map iN))), some (.loc 0), none, none, some (.val (iN (i + 1))), some (.val (iN a)), some (.val (.lst ((T0 (i + 1) a).map iN))), none, none, none, none] ∧ S' = tbS M (l.length + P.length) T ∧ OkT l P M T (i + 1) a (fo.take b) ∧ ∀ p, T (i + 1) p = T0 (i + 1) p, hn1 _ _, ⟨T, rfl, rfl, hT, hr⟩, fun _ _ _ _ => trivial, ?_, ?_⟩
          · rintro b d env' S' hd ⟨T2, rfl, rfl, hT2, hr2⟩
            rw [List.getElem?_map] at hd
            obtain ⟨c, hc, rfl⟩ := Option.map_eq_some_iff.mp hd
            obtain ⟨hb, ec⟩ := List.getElem?_eq_some_iff.mp hc
            have hcm : c ∈ fo := List.mem_of_getElem? hc
            have hcn := ((hfm c).mp hcm).1
            have hcs : c ∉ fo.take b := fun q => by
              have e := List.take_append_drop b fo
              rw [← e] at hfn
              have h2 : c ∈ fo.drop b := by rw [List.drop_eq_getElem_cons hb, ec]; simp
              exact (List.nodup_append.mp hfn).2.2 c q c h2 rfl
            have etk : fo.take (b + 1) = fo.take b ++ [c] := by rw [List.take_add_one, hc]; rfl
            have xpl : (plL l P)[c]? = some (pl l P c) := by
              unfold plL
              rw [List.getElem?_map, List.getElem?_range hcn]; rfl
            have hplc := pl_pos hg hcn
            refine wg_name (by walk_at "inv") ?_
            refine wss_cons ?_
            walk_at "s"
            repeat walk_at "e"
            refine wix_F (g := iN) (.lst _) (j := c) rfl xpl ?_
            repeat walk_at "e"
            refine wss_one ?_
            refine ws_ifB (i + 1 + pl l P c ≤ M) ?_ (fun h => ?_) (fun h => ?_)
            · repeat walk_at "e"
              exact ⟨decide_eq_decide.mpr (by omega), rfl⟩
            · have hee : ((i + 1 : Nat) : Int) + ((pl l P c : Nat) : Int) = ((i + 1 + pl l P c : Nat) : Int) := by omega
              refine wss_one ?_
              refine ws_asg ?_ (fun _ => rfl) (fun _ => rfl) (fun _ => rfl)
              refine we_call GAd (by walk_at "ing") mAd (Nat.le_of_ble_eq_true rfl) rfl ?_ (fun _ => rfl) (fun _ => rfl)
              repeat walk_at "e"
              refine wix_R (tbS_out _ _ _) (atI_get (k := i + 1 + pl l P c) hee (tbO_get h)) ?_
              repeat walk_at "e"
              refine wix_seq (.loc (tbS_row h)) (atI_get (k := c) rfl (rowD_get hcn)) ?_
              repeat walk_at "e"
              have hl2 := (hT2 _ h c hcn).1
              refine fnc_F (A := AD) ⟨T2 (i + 1 + pl l P c) c, T0 (i + 1) a, 1⟩ rfl ⟨by dsimp only; omega, by dsimp only; omega, by dsimp only; omega⟩ ?_
              dsimp only
              refine wg_setL ?_ (fun _ _ => rfl)
              repeat walk_at "e"
              refine wix_R (tbS_out _ _ _) (atI_get (k := i + 1 + pl l P c) hee (tbO_get h)) ?_
              repeat walk_at "e"
              refine ⟨i + 1 + pl l P c + 1, _, _, c, rfl, rfl, tbS_row h, ixN_of (by rw [List.length_map, rowD_len]; exact hcn), ?_⟩
              have est : (tbS M (l.length + P.length) T2).set (i + 1 + pl l P c + 1) (.lst (((rowD (l.length + P.length) T2 (i + 1 + pl l P c)).map R.val).set c (.val (.lst ((addF (T2 (i + 1 + pl l P c) c) (T0 (i + 1) a) 1).map iN))))) = tbS M (l.length + P.length) (updT T2 (i + 1 + pl l P c) c (addF (T2 (i + 1 + pl l P c) c) (T0 (i + 1) a) 1)) := by rw [nl_set]; exact tbS_set h hcn
              refine Wk.eqS est ?_
              refine Wk.drop (env' := [some (.val (jD A l P lg)), some (.val (iN M)), some (.val (flD (fowL l P))), some (.val (.lst ((plL l P).map iN))), some (.loc 0), none, none, some (.val (iN (i + 1))), some (.val (iN a)), some (.val (.lst ((T0 (i + 1) a).map iN))), none, none, none, none]) ⟨_, rfl, rfl, by rw [etk]; exact hT2.step hg hcn hcs (by omega) ho hv h, fun p => ?_⟩ (.keep rfl (.keep rfl (.keep rfl (.keep rfl (.keep (hE _) (.drop (.drop (.keep rfl (.keep rfl (.keep rfl (.drop (.drop (.drop (.drop .nil)))))))))))))) (hn1 _ _) (hokS _)
              unfold updT
              rw [if_neg (fun q => by have := q.1; omega)]
              exact hr2 p
            · walk_at "s"
              dsimp only
              exact Wk.drop (env' := [some (.val (jD A l P lg)), some (.val (iN M)), some (.val (flD (fowL l P))), some (.val (.lst ((plL l P).map iN))), some (.loc 0), none, none, some (.val (iN (i + 1))), some (.val (iN a)), some (.val (.lst ((T0 (i + 1) a).map iN))), none, none, none, none]) ⟨_, rfl, rfl, by rw [etk]; exact hT2.far (by omega), hr2⟩ (.keep rfl (.keep rfl (.keep rfl (.keep rfl (.keep (hE _) (.drop (.drop (.keep rfl (.keep rfl (.keep rfl (.drop (.drop (.drop (.drop .nil)))))))))))))) (hn1 _ _) (hokS _)
          · rintro env' S' ⟨T2, rfl, rfl, hT2, hr2⟩
            rw [List.length_map, List.take_length] at hT2
            dsimp only
            exact Wk.drop (env' := [some (.val (jD A l P lg)), some (.val (iN M)), some (.val (flD (fowL l P))), some (.val (.lst ((plL l P).map iN))), some (.loc 0), none, none, some (.val (iN (i + 1))), none, none, none, none, none, none]) ⟨_, rfl, rfl, hT2.next fun p hp => ⟨fun q => ((hfm p).mp q).2, fun q => (hfm p).mpr ⟨hp, q⟩⟩, hr2⟩ (.keep rfl (.keep rfl (.keep rfl (.keep rfl (.keep (hE _) (.drop (.drop (.keep rfl (.drop (.drop (.drop (.drop (.drop (.drop .nil)))))))))))))) (hn1 _ _) (hokS _)
        · walk_at "s"
          dsimp only
          have e0 : T0 (i + 1) a = [] := List.eq_nil_of_length_eq_zero (by omega)
          refine Wk.drop (env' := [some (.val (jD A l P lg)), some (.val (iN M)), some (.val (flD (fowL l P))), some (.val (.lst ((plL l P).map iN))), some (.loc 0), none, none, some (.val (iN (i + 1))), none, none, none, none, none, none]) ⟨T, rfl, rfl, hT.skip fun k => ?_, hr⟩ (.keep rfl (.keep rfl (.keep rfl (.keep rfl (.keep (hE _) (.drop (.drop (.keep rfl (.drop (.drop (.drop (.drop (.drop (.drop .nil)))))))))))))) (hn1 _ _) (hokS _)
          rw [← hv, e0]
          simp
      · rintro env' S' ⟨T, rfl, rfl, hT, _⟩
        rw [enumD_len, rowD_len] at hT
        dsimp only
        refine Wk.drop (env' := [some (.val (jD A l P lg)), some (.val (iN M)), some (.val (flD (fowL l P))), some (.val (.lst ((plL l P).map iN))), some (.loc 0), none, none, none, none, none, none, none, none, none]) ⟨T, rfl, rfl, hT.fin hnd hg (by omega)⟩ (.keep rfl (.keep rfl (.keep rfl (.keep rfl (.keep (hE _) (.drop (.drop (.drop (.drop (.drop (.drop (.drop (.drop (.drop .nil)))))))))))))) (hn1 _ _) (hokS _)
    rintro env' S' ⟨T, rfl, rfl, hT⟩
    rw [rangeD_len] at hT
    rw [show ((M : Int) - 1).toNat + 1 = M by omega] at hT
    have hrowM : ∀ p, p < (l.length + P.length) → (T M p).length ≤ M + 1 ∧ ∀ k, (T M p).getD k 0 = cntT l P M k p := fun p hp => hT.row hnd hg (Nat.le_refl _) hp
    refine wss_cut (fun env S => env = [some (.val (jD A l P lg)), some (.val (iN M)), some (.val (flD (fowL l P))), some (.val (.lst ((plL l P).map iN))), some (.loc 0), none, none, none, none, none, none, none, some (.loc (M + 2)), none] ∧ S = tbS M (l.length + P.length) T ++ [nl ((List.range (M + 1)).map fun _ => iN 0)]) ?_ ?_
    · refine ws_setLc [("_", 13)] [("_", 13)] [("_", 13)] [] (by dsimp only; decide +kernel) rfl (by walk_at "inv") ?_ (fun _ _ => rfl) rfl rfl rfl rfl
      refine wi_range1 (by walk_at "ing") (by walk_at "nb") ?_ (fun _ => rfl)
      repeat walk_at "e"
      refine ⟨_, rfl, by omega, ?_⟩
      refine ⟨fun i S' => S' = tbS M (l.length + P.length) T ++ [nl ((List.range i).map fun _ => iN 0)], rfl, fun _ _ _ => trivial, ?_, ?_⟩
      · rintro i d S' hd rfl
        obtain ⟨hi, rfl⟩ := rangeD_get hd
        refine wgw_name (by walk_at "inv") (by decide) ?_
        refine wts_nil ⟨fun h => (by cases h), fun _ => ?_⟩
        repeat walk_at "e"
        refine ⟨_, by rw [List.getElem?_append_right (Nat.le_refl _), Nat.sub_self]; rfl, by simp [sizeLine_eq]; omega, ?_⟩
        show _ = _
        rw [List.set_append_right _ _ (Nat.le_refl _), Nat.sub_self, List.range_succ]
        simp
      · rintro S' rfl
        rw [rangeD_len, show ((M : Int) + 1).toNat = M + 1 by omega, tbS_len]
        exact ⟨rfl, rfl⟩
    rintro env' S' ⟨rfl, rfl⟩
    have etk : (tbS M (l.length + P.length) T ++ [nl ((List.range (M + 1)).map fun _ => iN 0)]).take (M + 2) = tbS M (l.length + P.length) T := by rw [← tbS_len M (l.length + P.length) T]; exact List.take_left
    refine wss_settle (M + 2) (env' := [some (.val (jD A l P lg)), some (.val (iN M)), some (.val (flD (fowL l P))), some (.val (.lst ((plL l P).map iN))), some (.loc 0), none, none, none, none, none, none, none, some (.val (.lst ((List.range (M + 1)).map fun _ => iN 0))), none]) (Nat.zero_le _) (by simp [tbS_len]) (by rw [etk]; exact tbS_ok _ _ _) (.keep rfl (.keep rfl (.keep rfl (.keep rfl (.keep (by show decide (0 < M + 2) = true; simp) (.drop (.drop (.drop (.drop (.drop (.drop (.drop (.fix (.lst (Nat.le_refl _) (by rw [List.getElem?_append_right (by rw [tbS_len]; exact Nat.le_refl _), tbS_len, Nat.sub_self]; rfl) (FzL.vals _)) (.drop .nil)))))))))))))) ?_
    rw [etk]
    refine wss_cons ?_
    refine ws_for rfl ?_ (fun _ _ => rfl)
    refine wi_seq ?_
    repeat walk_at "e"
    refine wix_R (tbS_out _ _ _) (atI_get (k := M) rfl (tbO_get (Nat.le_refl _))) ?_
    refine ⟨_, .loc (tbS_row (Nat.le_refl _)), ?_⟩
    refine ⟨fun i env S' => ∃ w : List Nat, env = [some (.val (jD A l P lg)), some (.val (iN M)), some (.val (flD (fowL l P))), some (.val (.lst ((plL l P).map iN))), some (.loc 0), none, none, none, none, none, none, none, some (.val (.lst (w.map iN))), none] ∧ S' = tbS M (l.length + P.length) T ∧ w.length = M + 1 ∧ ∀ k, w.getD k 0 = ((List.range i).map fun p => cntT l P M k p).sum, Nat.zero_le _, ⟨(List.range (M + 1)).map fun _ => 0, by rw [List.map_map]; rfl, rfl, by simp, fun k => ?_⟩, fun _ _ S' h => ?_, ?_, ?_⟩
    · rw [List.getD_eq_getElem?_getD, List.getElem?_map]
      cases (List.range (M + 1))[k]? <;> rfl
    · obtain ⟨_, _, rfl, _⟩ := h
      exact tbS_row (Nat.le_refl _)
    · rintro i d env' S' hd ⟨w, rfl, rfl, hw1, hw2⟩
      have hi : i < (l.length + P.length) := by
        have := (List.getElem?_eq_some_iff.mp hd).1
        rwa [rowD_len] at this
      rw [rowD_get hi] at hd
      have hd := Option.some.inj hd
      subst hd
      obtain ⟨g1, g2⟩ := hrowM i hi
      refine wg_name (by walk_at "inv") ?_
      refine wss_one ?_
      walk_at "s"
      refine we_call GAd (by walk_at "ing") mAd (Nat.le_of_ble_eq_true rfl) rfl ?_ (fun _ => rfl) (fun _ => rfl)
      repeat walk_at "e"
      refine fnc_F (A := AD) ⟨w, T M i, 0⟩ rfl ⟨by dsimp only; omega, by dsimp only; omega, by dsimp only; omega⟩ ?_
      dsimp only
      refine Wk.drop (env' := [some (.val (jD A l P lg)), some (.val (iN M)), some (.val (flD (fowL l P))), some (.val (.lst ((plL l P).map iN))), some (.loc 0), none, none, none, none, none, none, none, some (.val (.lst ((addF w (T M i) 0).map iN))), none]) ⟨_, rfl, rfl, by rw [addF_len]; omega, fun k => ?_⟩ (.keep rfl (.keep rfl (.keep rfl (.keep rfl (.keep (hE _) (.drop (.drop (.drop (.drop (.drop (.drop (.drop (.keep rfl (.drop .nil)))))))))))))) (hn1 _ _) (hokS _)
      rw [addF_get, hw2, if_pos (Nat.zero_le _), Nat.sub_zero, g2, List.range_succ, List.map_append, List.sum_append]
      simp
    · rintro env' S' ⟨w, rfl, rfl, hw1, hw2⟩
      rw [rowD_len] at hw2
      have ew : w.map iN = (List.range (M + 1)).map fun j => iN (cntK l P M j) := by
        refine List.ext_getElem? fun k => ?_
        rw [List.getElem?_map, List.getElem?_map]
        by_cases hk : k < M + 1
        · have := hw2 k
          rw [List.getD_eq_getElem?_getD, List.getElem?_eq_getElem (by omega)] at this
          have this : w[k]'(by omega) = _ := this
          rw [List.getElem?_range hk, List.getElem?_eq_getElem (by omega), this, ← cntK_sum hnd hg (by omega)]
          rfl
        · rw [List.getElem?_eq_none (by omega), List.getElem?_eq_none (by simpa using hk)]; rfl
      rw [← ew] at hΨ
      refine wss_one ?_
      walk_at "s"
      repeat walk_at "e"
      exact RetC.cut0 hΨ
end DL
set_option Elab.async false
set_option linter.all false
set_option maxRecDepth 100000
set_option maxHeartbeats 4000000
namespace DL
open PySem PySem.Spec PyProof.Rows
open L2 hiding Takes passAt takes_of ps_raise PMk ps_try_as
open L2N (Takes passAt takes_of ps_raise PMk ps_try_as)
local macro_rules | `(tactic| walk_at "inv") => `(tactic| ((try dsimp only); repeat (first | with_reducible exact InV.here | with_reducible apply InV.there)))
local macro_rules | `(tactic| walk_at "ing") => `(tactic| ((try dsimp only); repeat (first | with_reducible exact InG.here | with_reducible apply InG.there)))
local macro_rules | `(tactic| walk_at "nb") => `(tactic| first | assumption | (dsimp only; refine BltF.at_ (by assumption) ?_; repeat (first | with_reducible exact InG.here | with_reducible apply InG.there)))
local macro_rules | `(tactic| walk_at "s") => `(tactic| first
  | refine wss_cons ?_ | refine wss_nil ?_ | refine ws_set (by walk_at "inv") ?_ (fun _ => rfl) | refine ws_if ?_ | refine ws_ret ?_ | refine ws_aug (by walk_at "inv") rfl ?_
  | refine ws_expr ?_ (fun _ => rfl) | refine ws_pass ?_ | refine ws_break ?_ | refine ws_cont ?_ | refine ws_retN ?_
  | refine ws_setA ?_ (fun _ => rfl) | refine ws_put ?_ (fun _ => rfl) | refine ws_asg ?_ (fun _ => rfl) (fun _ => rfl) (fun _ => rfl))
local macro_rules | `(tactic| walk_at "we") => `(tactic| first
  | refine we_name (by walk_at "inv") rfl ?_ | refine we_int ?_ | refine we_op ?_ | refine we_str ?_
  | refine we_callB (by walk_at "ing") (by walk_at "nb") (by first | exact PySem.boot_len | exact boot_abs | exact boot_min | exact boot_max | exact boot_sorted | exact boot_isinstance) ?_ (fun _ => rfl) (fun _ => rfl)
  | refine we_callT (by walk_at "ing") (by walk_at "nb") (by first | exact boot_tuple | exact boot_list | exact boot_int) ?_ (fun _ => rfl) (fun _ => rfl)
  | refine we_attr ?_ (fun _ => rfl) | refine we_ix ?_ (fun _ _ => rfl) | refine we_tup ?_
  | refine we_append ?_ (fun _ => rfl) (fun _ => rfl) rfl (fun _ => rfl) (fun _ => rfl)
  | refine we_bl ?_ | refine we_non ?_ | refine we_chain ?_ rfl | refine we_cmp ?_ rfl | refine we_one ?_ | refine we_and ?_ | refine we_or ?_ | refine we_not ?_ | refine we_ifx ?_ | refine we_neg ?_ | refine we_slice ?_)
local macro_rules | `(tactic| walk_at "wb") => `(tactic| first | refine we_type (by walk_at "ing") (by walk_at "nb") boot_int ?_ | refine we_type (by walk_at "ing") (by walk_at "nb") boot_bool ?_ | refine we_type (by walk_at "ing") (by walk_at "nb") boot_str ?_ | refine we_type (by walk_at "ing") (by walk_at "nb") boot_tuple ?_)
local macro_rules | `(tactic| walk_at "wt") => `(tactic| first | refine wt_cmp ?_ rfl | refine wt_not ?_ | refine wt_chain ?_ rfl | refine wt_of ?_)
local macro_rules | `(tactic| walk_at "wto") => `(tactic| first | refine wto_and1 ?_ | refine wto_or1 ?_ | refine wto_and ?_ | refine wto_or ?_)
local macro_rules | `(tactic| walk_at "wo") => `(tactic| first
  | refine wo_add ?_ | refine wo_sub ?_ | refine wo_lt ?_ | refine wo_le ?_ | refine wo_gt ?_ | refine wo_ge ?_ | refine wo_eqI ?_ | refine wo_neI ?_ | refine wo_eqL ?_ | refine wo_neL ?_ | refine wo_lt1 ?_ | refine wo_le1 ?_ | refine wo_ge1 ?_ | refine wo_inL ?_ | refine wo_notInL ?_
  | refine wo_mod (by omega) ?_ | refine wo_fdiv ⟨by omega, by omega⟩ ?_ | refine wo_mul (by first | exact Or.inr ⟨by omega, by omega⟩ | exact Or.inl ⟨by omega, by omega⟩) ?_ | refine wo_pow ⟨by omega, by omega, by decide⟩ ?_
  | refine wo_isN (by intro _ h; cases h) ?_ | refine wo_notN (by intro _ h; cases h) ?_)
local macro_rules | `(tactic| walk_at "wc") => `(tactic| first
  | refine wc_len (by first | exact .tup _ | exact .lst _ | exact .bor _ | exact .loc rfl) ?_ | refine wc_int ?_ | refine wc_intB ?_ | refine wc_abs ?_ | refine wc_min2 rfl ?_ | refine wc_max2 rfl ?_ | refine wc_tuple (by first | exact .tup _ | exact .lst _ | exact .bor _ | exact .loc rfl) ?_)
local macro_rules | `(tactic| walk_at "e") => `(tactic| first
  | (with_reducible show WE _ _ _ _ _); walk_at "we"
  | (with_reducible show WT _ _ _ _ _); walk_at "wt"
  | (with_reducible show WTo _ _ _ _ _); walk_at "wto"
  | (with_reducible show WO _ _ _ _ _ _); walk_at "wo"
  | (with_reducible show WA _ _ _ _ _); first | refine wa_cons ?_ (fun _ => rfl) | refine wa_nil ?_
  | (with_reducible show WC _ _ _ _ _); walk_at "wc"
  | (with_reducible show WPO _ _ _ _ _); first | refine wpo_none ?_ | refine wpo_some ?_
  | refine asB_mk ?_ | refine wip_add ?_
  | refine ⟨_, rfl, (by first | decide | exact Nat.le_of_ble_eq_true rfl), ?_⟩)
local macro_rules | `(tactic| walk_at "ew") => `(tactic| ((try simp only [List.set_cons_zero, List.set_cons_succ]); repeat (first | exact EnvW.nil | refine EnvW.keep (by first | rfl | assumption) ?_ | refine EnvW.drop ?_)))
local macro_rules | `(tactic| walk_at "fl") => `(tactic| (refine ⟨_, _, fldL rfl (by repeat (first | with_reducible exact AtN.here | with_reducible apply AtN.there)) rfl, by assumption, NoA.at_ (by assumption) (by walk_at "ing"), ?_⟩))
local macro_rules | `(tactic| walk_at "fv") => `(tactic| (refine ⟨_, _, fldV (by repeat (first | with_reducible exact AtN.here | with_reducible apply AtN.there)) rfl, by assumption, NoA.at_ (by assumption) (by walk_at "ing"), ?_⟩))
/-! ### the law's own count -/
abbrev spLc := spF LK (fun p => [sdD p.l p.P, iN p.k]) (fun p => p.l.length + p.P.length ≤ 1000 ∧ p.k ≤ 1000) (fun p => iN (TF (fowL p.l p.P) p.k none))
theorem scLc : FnScope ["_law_sides_here", "_law_many"] ["_law_sides_here", "_law_many"] (defScope (top 39)) := ⟨rfl, rfl, rfl, by decide +kernel, rfl, by decide +kernel, by decide +kernel⟩
theorem ok_lc2 {g : Gd} {f f1 : Addr} {fd : FuncData} (F : FunD g.K "_law_counted" "_law_counted" (defArgs (top 39)) (defBody (top 39)) (defScope (top 39)) [] [] f fd) (hb : Binds g.K fd ["_law_sides_here", "_law_many"] [])
    (hB : BltF g ["sum"]) (GAf : FnD g 1 f1 ["_law_sides_here", "_law_many"] spAf) (mAf : g.mg "_law_after" = some (.ref f1)) : FnD g 2 f ["_law_sides_here", "_law_many"] spLc := by
  refine fn_mk F hb scLc (gl := ["sum", "_law_after"]) [("_law_sides_here", 0), ("_law_many", 1)] (by decide +kernel) (by decide +kernel) (fun rs S Ψ ξ h => ?_) (fun rs S Ψ ξ h => ?_)
  · obtain ⟨_, rfl, _⟩ := h; rfl
  · obtain ⟨⟨⟨l, P⟩, k⟩, rfl, rfl, ⟨hml, hk⟩, hΨ⟩ := h
    dsimp only at hΨ hml hk
    refine wss_cons ?_
    refine ws_if ?_
    repeat walk_at "e"
    refine ⟨fun h => ?_, fun h => ?_⟩
    · have h : (k : Int) = 0 := of_decide_eq_true h
      have : k = 0 := by omega
      subst this
      refine wss_one ?_
      walk_at "s"
      repeat walk_at "e"
      exact RetC.now (Nat.le_refl _) rfl rfl hΨ
    · have h : ¬ (k : Int) = 0 := of_decide_eq_false h
      obtain ⟨k, rfl⟩ : ∃ z, k = z + 1 := ⟨k - 1, by omega⟩
      walk_at "s"
      refine wss_one ?_
      walk_at "s"
      refine we_callB (by walk_at "ing") (by walk_at "nb") PyProof.Rows.boot_sum ?_ (fun _ => rfl) (fun _ => rfl)
      repeat walk_at "e"
      refine we_call GAf (by walk_at "ing") mAf (Nat.le_of_ble_eq_true rfl) rfl ?_ (fun _ => rfl) (fun _ => rfl)
      repeat walk_at "e"
      rw [show ((k + 1 : Nat) : Int) - 1 = (k : Int) by omega]
      refine fnc_F (A := LK) ⟨⟨l, P⟩, k⟩ rfl ⟨hml, by dsimp only; omega⟩ ?_
      repeat walk_at "e"
      refine ⟨_, rfl, ?_⟩
      refine wix_seq (.lst _) (d := cnD (fowL l P) k) (atI_last (k := 0) (by omega) (by simp) (by simp)) ?_
      repeat walk_at "e"
      refine wc_sumI rfl (ns := (List.range (fowL l P).length).map fun y => (cnF (fowL l P) k y : Int)) (by rw [List.map_map]; exact .lst _) ?_
      rw [sum_cast]
      exact RetC.now (Nat.le_refl _) rfl rfl hΨ
end DL
set_option Elab.async false
set_option linter.all false
set_option maxRecDepth 100000
set_option maxHeartbeats 4000000
namespace DL
open PySem PySem.Spec PyProof.Rows
open L2 hiding Takes passAt takes_of ps_raise PMk ps_try_as
open L2N (Takes passAt takes_of ps_raise PMk ps_try_as)
local macro_rules | `(tactic| walk_at "inv") => `(tactic| ((try dsimp only); repeat (first | with_reducible exact InV.here | with_reducible apply InV.there)))
local macro_rules | `(tactic| walk_at "ing") => `(tactic| ((try dsimp only); repeat (first | with_reducible exact InG.here | with_reducible apply InG.there)))
local macro_rules | `(tactic| walk_at "nb") => `(tactic| first | assumption | (dsimp only; refine BltF.at_ (by assumption) ?_; repeat (first | with_reducible exact InG.here | with_reducible apply InG.there)))
local macro_rules | `(tactic| walk_at "s") => `(tactic| first
  | refine wss_cons ?_ | refine wss_nil ?_ | refine ws_set (by walk_at "inv") ?_ (fun _ => rfl) | refine ws_if ?_ | refine ws_ret ?_ | refine ws_aug (by walk_at "inv") rfl ?_
  | refine ws_expr ?_ (fun _ => rfl) | refine ws_pass ?_ | refine ws_break ?_ | refine ws_cont ?_ | refine ws_retN ?_
  | refine ws_setA ?_ (fun _ => rfl) | refine ws_put ?_ (fun _ => rfl) | refine ws_asg ?_ (fun _ => rfl) (fun _ => rfl) (fun _ => rfl))
local macro_rules | `(tactic| walk_at "we") => `(tactic| first
  | refine we_name (by walk_at "inv") rfl ?_ | refine we_int ?_ | refine we_op ?_ | refine we_str ?_
  | refine we_callB (by walk_at "ing") (by walk_at "nb") (by first | exact PySem.boot_len | exact boot_abs | exact boot_min | exact boot_max | exact boot_sorted | exact boot_isinstance) ?_ (fun _ => rfl) (fun _ => rfl)
  | refine we_callT (by walk_at "ing") (by walk_at "nb") (by first | exact boot_tuple | exact boot_list | exact boot_int) ?_ (fun _ => rfl) (fun _ => rfl)
  | refine we_attr ?_ (fun _ => rfl) | refine we_ix ?_ (fun _ _ => rfl) | refine we_tup ?_
  | refine we_append ?_ (fun _ => rfl) (fun _ => rfl) rfl (fun _ => rfl) (fun _ => rfl)
  | refine we_bl ?_ | refine we_non ?_ | refine we_chain ?_ rfl | refine we_cmp ?_ rfl | refine we_one ?_ | refine we_and ?_ | refine we_or ?_ | refine we_not ?_ | refine we_ifx ?_ | refine we_neg ?_ | refine we_slice ?_)
local macro_rules | `(tactic| walk_at "wb") => `(tactic| first | refine we_type (by walk_at "ing") (by walk_at "nb") boot_int ?_ | refine we_type (by walk_at "ing") (by walk_at "nb") boot_bool ?_ | refine we_type (by walk_at "ing") (by walk_at "nb") boot_str ?_ | refine we_type (by walk_at "ing") (by walk_at "nb") boot_tuple ?_)
local macro_rules | `(tactic| walk_at "wt") => `(tactic| first | refine wt_cmp ?_ rfl | refine wt_not ?_ | refine wt_chain ?_ rfl | refine wt_of ?_)
local macro_rules | `(tactic| walk_at "wto") => `(tactic| first | refine wto_and1 ?_ | refine wto_or1 ?_ | refine wto_and ?_ | refine wto_or ?_)
local macro_rules | `(tactic| walk_at "wo") => `(tactic| first
  | refine wo_add ?_ | refine wo_sub ?_ | refine wo_lt ?_ | refine wo_le ?_ | refine wo_gt ?_ | refine wo_ge ?_ | refine wo_eqI ?_ | refine wo_neI ?_ | refine wo_eqL ?_ | refine wo_neL ?_ | refine wo_lt1 ?_ | refine wo_le1 ?_ | refine wo_ge1 ?_ | refine wo_inL ?_ | refine wo_notInL ?_
  | refine wo_mod (by omega) ?_ | refine wo_fdiv ⟨by omega, by omega⟩ ?_ | refine wo_mul (by first | exact Or.inr ⟨by omega, by omega⟩ | exact Or.inl ⟨by omega, by omega⟩) ?_ | refine wo_pow ⟨by omega, by omega, by decide⟩ ?_
  | refine wo_isN (by intro _ h; cases h) ?_ | refine wo_notN (by intro _ h; cases h) ?_)
local macro_rules | `(tactic| walk_at "wc") => `(tactic| first
  | refine wc_len (by first | exact .tup _ | exact .lst _ | exact .bor _ | exact .loc rfl) ?_ | refine wc_int ?_ | refine wc_intB ?_ | refine wc_abs ?_ | refine wc_min2 rfl ?_ | refine wc_max2 rfl ?_ | refine wc_tuple (by first | exact .tup _ | exact .lst _ | exact .bor _ | exact .loc rfl) ?_)
local macro_rules | `(tactic| walk_at "e") => `(tactic| first
  | (with_reducible show WE _ _ _ _ _); walk_at "we"
  | (with_reducible show WT _ _ _ _ _); walk_at "wt"
  | (with_reducible show WTo _ _ _ _ _); walk_at "wto"
  | (with_reducible show WO _ _ _ _ _ _); walk_at "wo"
  | (with_reducible show WA _ _ _ _ _); first | refine wa_cons ?_ (fun _ => rfl) | refine wa_nil ?_
  | (with_reducible show WC _ _ _ _ _); walk_at "wc"
  | (with_reducible show WPO _ _ _ _ _); first | refine wpo_none ?_ | refine wpo_some ?_
  | refine asB_mk ?_ | refine wip_add ?_
  | refine ⟨_, rfl, (by first | decide | exact Nat.le_of_ble_eq_true rfl), ?_⟩)
local macro_rules | `(tactic| walk_at "ew") => `(tactic| ((try simp only [List.set_cons_zero, List.set_cons_succ]); repeat (first | exact EnvW.nil | refine EnvW.keep (by first | rfl | assumption) ?_ | refine EnvW.drop ?_)))
local macro_rules | `(tactic| walk_at "fl") => `(tactic| (refine ⟨_, _, fldL rfl (by repeat (first | with_reducible exact AtN.here | with_reducible apply AtN.there)) rfl, by assumption, NoA.at_ (by assumption) (by walk_at "ing"), ?_⟩))
local macro_rules | `(tactic| walk_at "fv") => `(tactic| (refine ⟨_, _, fldV (by repeat (first | with_reducible exact AtN.here | with_reducible apply AtN.there)) rfl, by assumption, NoA.at_ (by assumption) (by walk_at "ing"), ?_⟩))
/-! ### all texts -/
theorem allT_succ (l : List Nat) (m : Nat) : allT l (m + 1) = (allT l m).flatMap fun t => l.map fun c => t ++ [c] := rfl
structure LM where
  l : List Nat
  m : Nat
abbrev spTx := spF LM (fun p => [sL p.l, iN p.m]) (fun p => 1 ≤ p.l.length ∧ p.l.length ≤ 30 ∧ p.m ≤ 100 ∧ p.l.length ^ p.m ≤ 1000) (fun p => .lst ((allT p.l p.m).map sL))
theorem scTx : FnScope ["_law_alphabet_here", "_law_many", "_law_texts_here", "_law_k", "_law_more", "_law_text", "_law_sign"] ["_law_alphabet_here", "_law_many"] (defScope (top 40)) := ⟨rfl, rfl, rfl, by decide +kernel, rfl, by decide +kernel, by decide +kernel⟩
theorem ok_tx2 {g : Gd} {f : Addr} {fd : FuncData} (F : FunD g.K "_law_texts" "_law_texts" (defArgs (top 40)) (defBody (top 40)) (defScope (top 40)) [] [] f fd) (hb : Binds g.K fd ["_law_alphabet_here", "_law_many"] [])
    (hB : BltF g ["range", "list"]) : FnD g 1 f ["_law_alphabet_here", "_law_many"] spTx := by
  refine fn_mk F hb scTx (gl := ["range", "list"]) [("_law_alphabet_here", 0), ("_law_many", 1), ("_law_texts_here", 2), ("_law_k", 3), ("_law_more", 4), ("_law_text", 5)] (by decide +kernel) (by decide +kernel) (fun rs S Ψ ξ h => ?_) (fun rs S Ψ ξ h => ?_)
  · obtain ⟨_, rfl, _⟩ := h; rfl
  · obtain ⟨⟨l, m⟩, rfl, rfl, ⟨hl1, hl2, hm, hp⟩, hΨ⟩ := h
    dsimp only at hΨ hl1 hl2 hm hp
    have hle : ∀ i, i ≤ m → (allT l i).length ≤ 1000 := fun i hi => by
      rw [len_allT]
      exact Nat.le_trans (Nat.pow_le_pow_right hl1 hi) hp
    refine wss_cons ?_
    walk_at "s"
    refine we_lstF ?_
    repeat walk_at "e"
    refine wss_cons ?_
    refine ws_for rfl ?_ (fun _ _ => rfl)
    refine wi_range1 (by walk_at "ing") (by walk_at "nb") ?_ (fun _ => rfl)
    repeat walk_at "e"
    refine ⟨_, rfl, by dsimp only; omega, fun i env S' => env = [some (.val (sL l)), some (.val (iN m)), some (.val (.lst ((allT l i).map sL))), none, none, none, none] ∧ S' = [], Nat.le_refl _, ⟨rfl, rfl⟩, fun _ _ _ _ => trivial, ?_, ?_⟩
    · rintro i d env' S' hd ⟨rfl, rfl⟩
      obtain ⟨hi, rfl⟩ := rangeD_get hd
      have hi : i < m := by dsimp only at hi; omega
      have hlen := hle (i + 1) hi
      refine wg_name (by walk_at "inv") ?_
      refine wss_cons ?_
      walk_at "s"
      refine we_lstN ?_
      refine wa_nil ⟨[], rfl, by decide, ?_⟩
      refine wss_cons ?_
      refine ws_for rfl ?_ (fun _ _ => rfl)
      refine wi_seq ?_
      repeat walk_at "e"
      refine wc_listF (.lst _) ?_
      refine ⟨_, .lst _, ?_⟩
      refine ⟨fun j env S' => env = [some (.val (sL l)), some (.val (iN m)), some (.val (.lst ((allT l i).map sL))), some (.val (.int (0 + (i : Int)))), some (.loc 0), none, none] ∧ S' = [nl ((((allT l i).take j).flatMap fun t => l.map fun c => t ++ [c]).map sL)], Nat.zero_le _, ⟨rfl, rfl⟩, fun _ _ _ _ => trivial, ?_, ?_⟩
      · rintro j d env' S' hd ⟨rfl, rfl⟩
        rw [List.getElem?_map] at hd
        obtain ⟨t, ht, rfl⟩ := Option.map_eq_some_iff.mp hd
        obtain ⟨htl, _⟩ := mem_allT.mp (List.mem_of_getElem? ht)
        have hj := (List.getElem?_eq_some_iff.mp ht).1
        have e1 : ((allT l i).take (j + 1)).flatMap (fun t => l.map fun c => t ++ [c]) = ((allT l i).take j).flatMap (fun t => l.map fun c => t ++ [c]) ++ l.map fun c => t ++ [c] := by
          rw [List.take_add_one, ht, List.flatMap_append]; simp
        have hfl : (((allT l i).take j).flatMap fun t => l.map fun c => t ++ [c]).length ≤ 30000 := by
          rw [List.length_flatMap]
          have := hle i (by omega)
          have h2 : (((allT l i).take j).map fun t => (l.map fun c => t ++ [c]).length).sum ≤ 30 * ((allT l i).take j).length := by
            generalize (allT l i).take j = xs
            induction xs with
            | nil => simp
            | cons x xs ih => rw [List.map_cons, List.sum_cons, List.length_cons, List.length_map]; omega
          have h3 : ((allT l i).take j).length ≤ 1000 := by rw [List.length_take]; omega
          omega
        generalize ((allT l i).take j).flatMap (fun t => l.map fun c => t ++ [c]) = us at *
        refine wg_name (by walk_at "inv") ?_
        refine wss_one ?_
        refine ws_expr ?_ (fun _ => rfl)
        refine we_extL ?_ (fun _ => rfl) (fun _ => rfl) rfl (fun _ => rfl) (fun _ => rfl)
        repeat walk_at "e"
        refine ⟨0, _, rfl, rfl, ?_⟩
        refine we_lc [("_law_sign", 6)] [("_law_text", 5), ("_law_sign", 6)] [("_law_sign", 6)] [] (by dsimp only; decide +kernel) rfl ?_ (fun _ _ => rfl)
        refine wi_strL ?_
        repeat walk_at "e"
        refine ⟨l, rfl, fun k S' => S' = [nl (us.map sL), nl (((l.take k).map fun c => t ++ [c]).map sL)], rfl, fun _ _ _ => trivial, ?_, ?_⟩
        · rintro k d S' hd rfl
          rw [List.getElem?_map] at hd
          obtain ⟨c, hc, rfl⟩ := Option.map_eq_some_iff.mp hd
          have hk := (List.getElem?_eq_some_iff.mp hc).1
          refine wgw_name (by walk_at "inv") (by decide) ?_
          refine wts_nil ⟨fun h => (by cases h), fun _ => ?_⟩
          repeat walk_at "e"
          refine wo_addL (a := t) (b := [c]) (by rw [sizeLine_eq]; simp; omega) ?_
          refine ⟨_, rfl, by simp [sizeLine_eq]; omega, ?_⟩
          show _ = _
          rw [List.take_add_one, hc]
          simp
        · rintro S' rfl
          rw [List.length_map, List.take_length]
          refine ⟨1, _, _, rfl, by decide, rfl, rfl, by simp [sizeLine_eq]; omega, ?_⟩
          dsimp only
          refine Wk.cut (S := [nl (us.map sL ++ (l.map fun c => t ++ [c]).map sL)]) (T := [_]) (env' := [some (.val (sL l)), some (.val (iN m)), some (.val (.lst ((allT l i).map sL))), some (.val (.int (0 + (i : Int)))), some (.loc 0), none, none]) ⟨rfl, by rw [e1, List.map_append]⟩ (by walk_at "ew") (Nat.le_refl _) (by simp [okB_nl])
      · rintro env' S' ⟨rfl, rfl⟩
        rw [List.length_map, List.take_length, ← allT_succ]
        refine wss_one ?_
        walk_at "s"
        repeat walk_at "e"
        dsimp only
        refine Wk.cut (S := []) (T := [nl ((allT l (i + 1)).map sL)]) (env' := [some (.val (sL l)), some (.val (iN m)), some (.val (.lst ((allT l (i + 1)).map sL))), none, none, none, none]) ⟨rfl, rfl⟩ (.keep rfl (.keep rfl (.fix (.lst (Nat.zero_le _) rfl (FzL.vals _)) (.drop (.drop (.drop (.drop .nil))))))) (Nat.le_refl _) rfl
    · rintro env' S' ⟨rfl, rfl⟩
      rw [rangeD_len, Int.toNat_natCast]
      refine wss_one ?_
      walk_at "s"
      repeat walk_at "e"
      exact RetC.now (Nat.le_refl _) rfl rfl hΨ
end DL
set_option Elab.async false
set_option linter.all false
set_option maxRecDepth 100000
set_option maxHeartbeats 4000000
namespace DL
open PySem PySem.Spec PyProof.Rows
open L2 hiding Takes passAt takes_of ps_raise PMk ps_try_as
open L2N (Takes passAt takes_of ps_raise PMk ps_try_as)
local macro_rules | `(tactic| walk_at "inv") => `(tactic| ((try dsimp only); repeat (first | with_reducible exact InV.here | with_reducible apply InV.there)))
local macro_rules | `(tactic| walk_at "ing") => `(tactic| ((try dsimp only); repeat (first | with_reducible exact InG.here | with_reducible apply InG.there)))
local macro_rules | `(tactic| walk_at "nb") => `(tactic| first | assumption | (dsimp only; refine BltF.at_ (by assumption) ?_; repeat (first | with_reducible exact InG.here | with_reducible apply InG.there)))
local macro_rules | `(tactic| walk_at "s") => `(tactic| first
  | refine wss_cons ?_ | refine wss_nil ?_ | refine ws_set (by walk_at "inv") ?_ (fun _ => rfl) | refine ws_if ?_ | refine ws_ret ?_ | refine ws_aug (by walk_at "inv") rfl ?_
  | refine ws_expr ?_ (fun _ => rfl) | refine ws_pass ?_ | refine ws_break ?_ | refine ws_cont ?_ | refine ws_retN ?_
  | refine ws_setA ?_ (fun _ => rfl) | refine ws_put ?_ (fun _ => rfl) | refine ws_asg ?_ (fun _ => rfl) (fun _ => rfl) (fun _ => rfl))
local macro_rules | `(tactic| walk_at "we") => `(tactic| first
  | refine we_name (by walk_at "inv") rfl ?_ | refine we_int ?_ | refine we_op ?_ | refine we_str ?_
  | refine we_callB (by walk_at "ing") (by walk_at "nb") (by first | exact PySem.boot_len | exact boot_abs | exact boot_min | exact boot_max | exact boot_sorted | exact boot_isinstance) ?_ (fun _ => rfl) (fun _ => rfl)
  | refine we_callT (by walk_at "ing") (by walk_at "nb") (by first | exact boot_tuple | exact boot_list | exact boot_int) ?_ (fun _ => rfl) (fun _ => rfl)
  | refine we_attr ?_ (fun _ => rfl) | refine we_ix ?_ (fun _ _ => rfl) | refine we_tup ?_
  | refine we_append ?_ (fun _ => rfl) (fun _ => rfl) rfl (fun _ => rfl) (fun _ => rfl)
  | refine we_bl ?_ | refine we_non ?_ | refine we_chain ?_ rfl | refine we_cmp ?_ rfl | refine we_one ?_ | refine we_and ?_ | refine we_or ?_ | refine we_not ?_ | refine we_ifx ?_ | refine we_neg ?_ | refine we_slice ?_)
local macro_rules | `(tactic| walk_at "wb") => `(tactic| first | refine we_type (by walk_at "ing") (by walk_at "nb") boot_int ?_ | refine we_type (by walk_at "ing") (by walk_at "nb") boot_bool ?_ | refine we_type (by walk_at "ing") (by walk_at "nb") boot_str ?_ | refine we_type (by walk_at "ing") (by walk_at "nb") boot_tuple ?_)
local macro_rules | `(tactic| walk_at "wt") => `(tactic| first | refine wt_cmp ?_ rfl | refine wt_not ?_ | refine wt_chain ?_ rfl | refine wt_of ?_)
local macro_rules | `(tactic| walk_at "wto") => `(tactic| first | refine wto_and1 ?_ | refine wto_or1 ?_ | refine wto_and ?_ | refine wto_or ?_)
local macro_rules | `(tactic| walk_at "wo") => `(tactic| first
  | refine wo_add ?_ | refine wo_sub ?_ | refine wo_lt ?_ | refine wo_le ?_ | refine wo_gt ?_ | refine wo_ge ?_ | refine wo_eqI ?_ | refine wo_neI ?_ | refine wo_eqL ?_ | refine wo_neL ?_ | refine wo_lt1 ?_ | refine wo_le1 ?_ | refine wo_ge1 ?_ | refine wo_inL ?_ | refine wo_notInL ?_
  | refine wo_mod (by omega) ?_ | refine wo_fdiv ⟨by omega, by omega⟩ ?_ | refine wo_mul (by first | exact Or.inr ⟨by omega, by omega⟩ | exact Or.inl ⟨by omega, by omega⟩) ?_ | refine wo_pow ⟨by omega, by omega, by decide⟩ ?_
  | refine wo_isN (by intro _ h; cases h) ?_ | refine wo_notN (by intro _ h; cases h) ?_)
local macro_rules | `(tactic| walk_at "wc") => `(tactic| first
  | refine wc_len (by first | exact .tup _ | exact .lst _ | exact .bor _ | exact .loc rfl) ?_ | refine wc_int ?_ | refine wc_intB ?_ | refine wc_abs ?_ | refine wc_min2 rfl ?_ | refine wc_max2 rfl ?_ | refine wc_tuple (by first | exact .tup _ | exact .lst _ | exact .bor _ | exact .loc rfl) ?_)
local macro_rules | `(tactic| walk_at "e") => `(tactic| first
  | (with_reducible show WE _ _ _ _ _); walk_at "we"
  | (with_reducible show WT _ _ _ _ _); walk_at "wt"
  | (with_reducible show WTo _ _ _ _ _); walk_at "wto"
  | (with_reducible show WO _ _ _ _ _ _); walk_at "wo"
  | (with_reducible show WA _ _ _ _ _); first | refine wa_cons ?_ (fun _ => rfl) | refine wa_nil ?_
  | (with_reducible show WC _ _ _ _ _); walk_at "wc"
  | (with_reducible show WPO _ _ _ _ _); first | refine wpo_none ?_ | refine wpo_some ?_
  | refine asB_mk ?_ | refine wip_add ?_
  | refine ⟨_, rfl, (by first | decide | exact Nat.le_of_ble_eq_true rfl), ?_⟩)
local macro_rules | `(tactic| walk_at "ew") => `(tactic| ((try simp only [List.set_cons_zero, List.set_cons_succ]); repeat (first | exact EnvW.nil | refine EnvW.keep (by first | rfl | assumption) ?_ | refine EnvW.drop ?_)))
local macro_rules | `(tactic| walk_at "fl") => `(tactic| (refine ⟨_, _, fldL rfl (by repeat (first | with_reducible exact AtN.here | with_reducible apply AtN.there)) rfl, by assumption, NoA.at_ (by assumption) (by walk_at "ing"), ?_⟩))
local macro_rules | `(tactic| walk_at "fv") => `(tactic| (refine ⟨_, _, fldV (by repeat (first | with_reducible exact AtN.here | with_reducible apply AtN.there)) rfl, by assumption, NoA.at_ (by assumption) (by walk_at "ing"), ?_⟩))
/-! ### counted text by text -/
def hq {α : Type} (f : α → Nat) (xs : List α) (k : Nat) : Nat := (xs.filter fun t => decide (f t = k)).length
theorem hq_snoc {α : Type} (f : α → Nat) (xs : List α) (x : α) (k : Nat) : hq f (xs ++ [x]) k = hq f xs k + if f x = k then 1 else 0 := by
  unfold hq
  rw [List.filter_append, List.length_append]
  congr 1
  by_cases h : f x = k
  · rw [if_pos h]; simp [h]
  · rw [if_neg h]; simp [h]
theorem hq_set {α : Type} (f : α → Nat) (M : Nat) (xs : List α) (x : α) : ((List.range (M + 1)).map fun k => iN (hq f xs k)).set (f x) (iN (hq f xs (f x) + 1)) = (List.range (M + 1)).map fun k => iN (hq f (xs ++ [x]) k) := by
  refine List.ext_getElem? fun k => ?_
  rw [List.getElem?_set, List.length_map, List.length_range]
  by_cases e : f x = k
  · subst e
    rw [if_pos rfl]
    by_cases h : f x < M + 1
    · rw [if_pos h, List.getElem?_map, List.getElem?_range h]
      show _ = some (iN _)
      rw [hq_snoc, if_pos rfl]
    · rw [if_neg h, List.getElem?_eq_none (by simpa using h)]
  · rw [if_neg e, List.getElem?_map, List.getElem?_map]
    by_cases h : k < M + 1
    · rw [List.getElem?_range h]
      show some (iN _) = some (iN _)
      rw [hq_snoc, if_neg e, Nat.add_zero]
    · rw [List.getElem?_eq_none (by simpa using h)]; rfl
structure LQ where
  l : List Nat
  P : List Pr
  m : Nat
abbrev spBp := spF LQ (fun p => [.tup [.lst (p.P.map pN), .lst ((txts p.l p.P).map sL)], sL p.l, iN p.m]) (fun p => GoodS p.l p.P ∧ 1 ≤ p.l.length ∧ p.l.length ≤ 30 ∧ p.P.length ≤ 100 ∧ p.m ≤ 100 ∧ p.l.length ^ p.m ≤ 1000) (fun p => .tup ((List.range (p.m + 1)).map fun k => iN (cntK p.l p.P p.m k)))
theorem scBp : FnScope ["_law_made", "_law_alphabet_here", "_law_many", "_law_out", "_law_text", "_law_pieces", "_law_k"] ["_law_made", "_law_alphabet_here", "_law_many"] (defScope (top 41)) := ⟨rfl, rfl, rfl, by decide +kernel, rfl, by decide +kernel, by decide +kernel⟩
theorem ok_bp {g : Gd} {f f1 f2 : Addr} {fd : FuncData} (F : FunD g.K "_law_by_pieces" "_law_by_pieces" (defArgs (top 41)) (defBody (top 41)) (defScope (top 41)) [] [] f fd) (hb : Binds g.K fd ["_law_made", "_law_alphabet_here", "_law_many"] [])
    (hB : BltF g ["range", "len", "tuple"]) (GTx : FnD g 1 f1 ["_law_alphabet_here", "_law_many"] spTx) (mTx : g.mg "_law_texts" = some (.ref f1)) (GC2 : FnD g 2 f2 ["_law_pairs_here", "_law_alphabet_here", "_law_text"] spC2) (mC2 : g.mg "_law_cut" = some (.ref f2)) : FnD g 3 f ["_law_made", "_law_alphabet_here", "_law_many"] spBp := by
  refine fn_mk F hb scBp (gl := ["range", "len", "tuple", "_law_texts", "_law_cut"]) [("_law_made", 0), ("_law_alphabet_here", 1), ("_law_many", 2), ("_law_out", 3), ("_law_text", 4), ("_law_pieces", 5)] (by decide +kernel) (by decide +kernel) (fun rs S Ψ ξ h => ?_) (fun rs S Ψ ξ h => ?_)
  · obtain ⟨_, rfl, _⟩ := h; rfl
  · obtain ⟨⟨l, P, m⟩, rfl, rfl, ⟨hg, hl1, hl2, hP, hm, hp⟩, hΨ⟩ := h
    dsimp only at hΨ hg hl1 hl2 hP hm hp
    refine wss_cut (fun env S => env = [some (.val (.tup [.lst (P.map pN), .lst ((txts l P).map sL)])), some (.val (sL l)), some (.val (iN m)), some (.loc 0), none, none, none] ∧ S = [nl ((List.range (m + 1)).map fun k => iN (hq (fun t => (cutr l P t).length) [] k))]) ?_ ?_
    · refine ws_setLc [("_law_k", 6)] [("_law_k", 6)] [("_law_k", 6)] [] (by dsimp only; decide +kernel) rfl (by walk_at "inv") ?_ (fun _ _ => rfl) rfl rfl rfl rfl
      refine wi_range1 (by walk_at "ing") (by walk_at "nb") ?_ (fun _ => rfl)
      repeat walk_at "e"
      refine ⟨_, rfl, by dsimp only; omega, ?_⟩
      refine ⟨fun i S' => S' = [nl ((List.range i).map fun _ => iN 0)], rfl, fun _ _ _ => trivial, ?_, ?_⟩
      · rintro i d S' hd rfl
        obtain ⟨hi, rfl⟩ := rangeD_get hd
        have hi : i < m + 1 := by have := hi; dsimp only at this; omega
        refine wgw_name (by walk_at "inv") (by decide) ?_
        refine wts_nil ⟨fun h => (by cases h), fun _ => ?_⟩
        repeat walk_at "e"
        refine ⟨_, rfl, by simp [sizeLine_eq]; omega, ?_⟩
        show _ = _
        simp [List.range_succ]
      · rintro S' rfl
        rw [rangeD_len, show ((m : Int) + 1).toNat = m + 1 by omega]
        exact ⟨rfl, rfl⟩
    rintro env' S' ⟨rfl, rfl⟩
    refine wss_cons ?_
    refine ws_for rfl ?_ (fun _ _ => rfl)
    refine wi_seq ?_
    refine we_call GTx (by walk_at "ing") mTx (Nat.le_of_ble_eq_true rfl) rfl ?_ (fun _ => rfl) (fun _ => rfl)
    repeat walk_at "e"
    refine fnc_F (A := LM) ⟨l, m⟩ rfl ⟨hl1, hl2, hm, hp⟩ ?_
    dsimp only
    refine ⟨_, .lst _, fun i env S' => env = [some (.val (.tup [.lst (P.map pN), .lst ((txts l P).map sL)])), some (.val (sL l)), some (.val (iN m)), some (.loc 0), none, none, none] ∧ S' = [nl ((List.range (m + 1)).map fun k => iN (hq (fun t => (cutr l P t).length) ((allT l m).take i) k))], Nat.zero_le _, ⟨rfl, rfl⟩, fun _ _ _ _ => trivial, ?_, ?_⟩
    · rintro i d env' S' hd ⟨rfl, rfl⟩
      rw [List.getElem?_map] at hd
      obtain ⟨t, ht, rfl⟩ := Option.map_eq_some_iff.mp hd
      obtain ⟨htl, htc⟩ := mem_allT.mp (List.mem_of_getElem? ht)
      have hcl := cutr_len (l := l) (P := P) t
      have hset := hq_set (fun t => (cutr l P t).length) m ((allT l m).take i) t
      have hget : ((List.range (m + 1)).map fun k => iN (hq (fun t => (cutr l P t).length) ((allT l m).take i) k))[(cutr l P t).length]? = some (iN (hq (fun t => (cutr l P t).length) ((allT l m).take i) (cutr l P t).length)) := by
        rw [List.getElem?_map, List.getElem?_range (by omega)]; rfl
      rw [show (allT l m).take i ++ [t] = (allT l m).take (i + 1) by rw [List.take_add_one, ht]; rfl] at hset
      refine wg_name (by walk_at "inv") ?_
      refine wss_cons ?_
      walk_at "s"
      repeat walk_at "e"
      refine we_call GC2 (by walk_at "ing") mC2 (Nat.le_of_ble_eq_true rfl) rfl ?_ (fun _ => rfl) (fun _ => rfl)
      repeat walk_at "e"
      refine wix_seq (.tup _) (d := .lst (P.map pN)) rfl ?_
      repeat walk_at "e"
      refine fnc_C2 (.lst _) (by omega) (by omega) (by omega) (good_lt hg) htc ?_
      have ecut : stg l.length P (rowL l t) = cutr l P t := rfl
      rw [ecut]
      repeat walk_at "e"
      rw [List.length_map]
      generalize (cutr l P t).length = c at *
      refine wss_one ?_
      refine ws_asg ?_ (fun _ => rfl) (fun _ => rfl) (fun _ => rfl)
      repeat walk_at "e"
      refine wix_seq (.loc rfl) (atI_get (k := c) rfl hget) ?_
      repeat walk_at "e"
      refine wg_setL ?_ (fun _ _ => rfl)
      repeat walk_at "e"
      refine ⟨0, _, _, c, rfl, rfl, rfl, ixN_of (by simp; omega), ?_⟩
      dsimp only
      refine Wk.drop (env' := [some (.val (.tup [.lst (P.map pN), .lst ((txts l P).map sL)])), some (.val (sL l)), some (.val (iN m)), some (.loc 0), none, none, none]) ⟨rfl, ?_⟩ (by walk_at "ew") (by simp) (by
        show (Node.okB 1 (Node.lst _) && true) = true
        rw [nl_set, okB_nl]; rfl)
      show [Node.lst _] = _
      rw [nl_set]
      exact congrArg (fun x => [nl x]) hset
    · rintro env' S' ⟨rfl, rfl⟩
      rw [List.length_map, List.take_length]
      refine wss_one ?_
      walk_at "s"
      repeat walk_at "e"
      exact RetC.cut0 hΨ
end DL
set_option Elab.async false
set_option linter.all false
set_option maxRecDepth 100000
set_option maxHeartbeats 4000000
namespace DL
open PySem PySem.Spec PyProof.Rows
open L2 hiding Takes passAt takes_of ps_raise PMk ps_try_as
open L2N (Takes passAt takes_of ps_raise PMk ps_try_as)
local macro_rules | `(tactic| walk_at "inv") => `(tactic| ((try dsimp only); repeat (first | with_reducible exact InV.here | with_reducible apply InV.there)))
local macro_rules | `(tactic| walk_at "ing") => `(tactic| ((try dsimp only); repeat (first | with_reducible exact InG.here | with_reducible apply InG.there)))
local macro_rules | `(tactic| walk_at "nb") => `(tactic| first | assumption | (dsimp only; refine BltF.at_ (by assumption) ?_; repeat (first | with_reducible exact InG.here | with_reducible apply InG.there)))
local macro_rules | `(tactic| walk_at "s") => `(tactic| first
  | refine wss_cons ?_ | refine wss_nil ?_ | refine ws_set (by walk_at "inv") ?_ (fun _ => rfl) | refine ws_if ?_ | refine ws_ret ?_ | refine ws_aug (by walk_at "inv") rfl ?_
  | refine ws_expr ?_ (fun _ => rfl) | refine ws_pass ?_ | refine ws_break ?_ | refine ws_cont ?_ | refine ws_retN ?_
  | refine ws_setA ?_ (fun _ => rfl) | refine ws_put ?_ (fun _ => rfl) | refine ws_asg ?_ (fun _ => rfl) (fun _ => rfl) (fun _ => rfl))
local macro_rules | `(tactic| walk_at "we") => `(tactic| first
  | refine we_name (by walk_at "inv") rfl ?_ | refine we_int ?_ | refine we_op ?_ | refine we_str ?_
  | refine we_callB (by walk_at "ing") (by walk_at "nb") (by first | exact PySem.boot_len | exact boot_abs | exact boot_min | exact boot_max | exact boot_sorted | exact boot_isinstance) ?_ (fun _ => rfl) (fun _ => rfl)
  | refine we_callT (by walk_at "ing") (by walk_at "nb") (by first | exact boot_tuple | exact boot_list | exact boot_int) ?_ (fun _ => rfl) (fun _ => rfl)
  | refine we_attr ?_ (fun _ => rfl) | refine we_ix ?_ (fun _ _ => rfl) | refine we_tup ?_
  | refine we_append ?_ (fun _ => rfl) (fun _ => rfl) rfl (fun _ => rfl) (fun _ => rfl)
  | refine we_bl ?_ | refine we_non ?_ | refine we_chain ?_ rfl | refine we_cmp ?_ rfl | refine we_one ?_ | refine we_and ?_ | refine we_or ?_ | refine we_not ?_ | refine we_ifx ?_ | refine we_neg ?_ | refine we_slice ?_)
local macro_rules | `(tactic| walk_at "wb") => `(tactic| first | refine we_type (by walk_at "ing") (by walk_at "nb") boot_int ?_ | refine we_type (by walk_at "ing") (by walk_at "nb") boot_bool ?_ | refine we_type (by walk_at "ing") (by walk_at "nb") boot_str ?_ | refine we_type (by walk_at "ing") (by walk_at "nb") boot_tuple ?_)
local macro_rules | `(tactic| walk_at "wt") => `(tactic| first | refine wt_cmp ?_ rfl | refine wt_not ?_ | refine wt_chain ?_ rfl | refine wt_of ?_)
local macro_rules | `(tactic| walk_at "wto") => `(tactic| first | refine wto_and1 ?_ | refine wto_or1 ?_ | refine wto_and ?_ | refine wto_or ?_)
local macro_rules | `(tactic| walk_at "wo") => `(tactic| first
  | refine wo_add ?_ | refine wo_sub ?_ | refine wo_lt ?_ | refine wo_le ?_ | refine wo_gt ?_ | refine wo_ge ?_ | refine wo_eqI ?_ | refine wo_neI ?_ | refine wo_eqL ?_ | refine wo_neL ?_ | refine wo_lt1 ?_ | refine wo_le1 ?_ | refine wo_ge1 ?_ | refine wo_inL ?_ | refine wo_notInL ?_
  | refine wo_mod (by omega) ?_ | refine wo_fdiv ⟨by omega, by omega⟩ ?_ | refine wo_mul (by first | exact Or.inr ⟨by omega, by omega⟩ | exact Or.inl ⟨by omega, by omega⟩) ?_ | refine wo_pow ⟨by omega, by omega, by decide⟩ ?_
  | refine wo_isN (by intro _ h; cases h) ?_ | refine wo_notN (by intro _ h; cases h) ?_)
local macro_rules | `(tactic| walk_at "wc") => `(tactic| first
  | refine wc_len (by first | exact .tup _ | exact .lst _ | exact .bor _ | exact .loc rfl) ?_ | refine wc_int ?_ | refine wc_intB ?_ | refine wc_abs ?_ | refine wc_min2 rfl ?_ | refine wc_max2 rfl ?_ | refine wc_tuple (by first | exact .tup _ | exact .lst _ | exact .bor _ | exact .loc rfl) ?_)
local macro_rules | `(tactic| walk_at "e") => `(tactic| first
  | (with_reducible show WE _ _ _ _ _); walk_at "we"
  | (with_reducible show WT _ _ _ _ _); walk_at "wt"
  | (with_reducible show WTo _ _ _ _ _); walk_at "wto"
  | (with_reducible show WO _ _ _ _ _ _); walk_at "wo"
  | (with_reducible show WA _ _ _ _ _); first | refine wa_cons ?_ (fun _ => rfl) | refine wa_nil ?_
  | (with_reducible show WC _ _ _ _ _); walk_at "wc"
  | (with_reducible show WPO _ _ _ _ _); first | refine wpo_none ?_ | refine wpo_some ?_
  | refine asB_mk ?_ | refine wip_add ?_
  | refine ⟨_, rfl, (by first | decide | exact Nat.le_of_ble_eq_true rfl), ?_⟩)
local macro_rules | `(tactic| walk_at "ew") => `(tactic| ((try simp only [List.set_cons_zero, List.set_cons_succ]); repeat (first | exact EnvW.nil | refine EnvW.keep (by first | rfl | assumption) ?_ | refine EnvW.drop ?_)))
local macro_rules | `(tactic| walk_at "fl") => `(tactic| (refine ⟨_, _, fldL rfl (by repeat (first | with_reducible exact AtN.here | with_reducible apply AtN.there)) rfl, by assumption, NoA.at_ (by assumption) (by walk_at "ing"), ?_⟩))
local macro_rules | `(tactic| walk_at "fv") => `(tactic| (refine ⟨_, _, fldV (by repeat (first | with_reducible exact AtN.here | with_reducible apply AtN.there)) rfl, by assumption, NoA.at_ (by assumption) (by walk_at "ing"), ?_⟩))
/-! ### counted by carrying on -/
theorem dN_get {n e : Nat} {ks : List Pr} {V : Pr → Nat} (h : DOk n e ks V) (x : Pr) : ((if x ∈ ks then some (D.int (V x : Int)) else none).getD (D.int 0)) = .int (V x : Int) := by
  by_cases q : x ∈ ks
  · rw [if_pos q]; rfl
  · rw [if_neg q, h.out x q]; rfl
theorem dS_row' {M e : Nat} {KS : Nat → List Pr} {VS : Nat → Pr → Nat} (T : Sto) (h : e ≤ M) : (dS M KS VS ++ T)[e + 1]? = some (dN (KS e) (VS e)) := by
  rw [List.getElem?_append_left (by rw [dS_len]; omega), dS_row h]
theorem dS_set' {M e : Nat} {KS : Nat → List Pr} {VS : Nat → Pr → Nat} (T : Sto) (h : e ≤ M) (ks : List Pr) (V : Pr → Nat) : (dS M KS VS ++ T).set (e + 1) (dN ks V) = dS M (updK KS e ks) (updK VS e V) ++ T := by
  rw [List.set_append_left _ _ (by rw [dS_len]; omega), dS_set h]
def qS (i : Nat) : Sto := Node.lst ((List.range i).map fun e => R.loc (e + 1)) :: (List.range i).map fun e => dN [] fun _ => 0
theorem qS_len (i : Nat) : (qS i).length = i + 1 := by simp [qS]
theorem qS_succ (i : Nat) : (qS i ++ [dN [] fun _ => 0]).set 0 (.lst ((List.range i).map (fun e => R.loc (e + 1)) ++ [R.loc (i + 1)])) = qS (i + 1) := by
  unfold qS
  rw [List.range_succ, List.map_append, List.map_append, List.cons_append, List.set_cons_zero]
  rfl
theorem keyGet {Kh : List Pr} {j : Nat} {d : D} (h : ((Kh.map kP).map keyT)[j]? = some d) : ∃ x : Pr, Kh[j]? = some x ∧ d = .tup [.int (x.1 : Int), .int (x.2 : Int)] := by
  rw [List.getElem?_map] at h
  obtain ⟨k, hk, rfl⟩ := Option.map_eq_some_iff.mp h
  rw [List.getElem?_map] at hk
  obtain ⟨x, hx, rfl⟩ := Option.map_eq_some_iff.mp hk
  exact ⟨x, hx, rfl⟩
def outD (M : Nat) (ks : List Pr) (V : Pr → Nat) (k : Nat) : Nat := selS ks V (fun _ => true) k + if M = 0 ∧ k = 0 then 1 else 0
def outL (M : Nat) (ks : List Pr) (V : Pr → Nat) : List D := (List.range (M + 1)).map fun k => iN (outD M ks V k)
theorem outL_zero (M : Nat) (V : Pr → Nat) : [D.int (if decide ((M : Int) = 0) = true then 1 else 0)] ++ (List.range M).map (fun _ => iN 0) = outL M [] V := by
  refine List.ext_getElem? fun k => ?_
  unfold outL outD
  rw [List.getElem?_map]
  rcases k with _ | k
  · rw [List.getElem?_range (by omega)]
    show some (D.int _) = some (iN _)
    by_cases h : M = 0
    · subst h; rfl
    · rw [if_neg (by simpa using h), if_neg (fun q => h q.1)]; rfl
  · show ((List.range M).map fun _ => iN 0)[k]? = _
    rw [List.getElem?_map]
    by_cases h : k < M
    · rw [List.getElem?_range h, List.getElem?_range (by omega)]
      show some (iN _) = some (iN _)
      rw [if_neg (by omega)]; rfl
    · rw [List.getElem?_eq_none (by simpa using h), List.getElem?_eq_none (by simp; omega)]; rfl
theorem outL_get {M : Nat} {ks : List Pr} {V : Pr → Nat} {k : Nat} (h : k ≤ M) : (outL M ks V)[k]? = some (iN (outD M ks V k)) := by
  unfold outL
  rw [List.getElem?_map, List.getElem?_range (by omega)]; rfl
theorem outL_set {M : Nat} {ks : List Pr} {V : Pr → Nat} {x : Pr} (h : x.2 ≤ M) : (outL M ks V).set x.2 (iN (outD M ks V x.2 + V x)) = outL M (ks ++ [x]) V := by
  refine List.ext_getElem? fun k => ?_
  unfold outL
  rw [List.getElem?_set, List.length_map, List.length_range]
  by_cases e : x.2 = k
  · subst e
    rw [if_pos rfl, if_pos (by omega), List.getElem?_map, List.getElem?_range (by omega)]
    show some (iN _) = some (iN _)
    unfold outD
    rw [selS_snoc, if_pos (show true = true ∧ x.2 = x.2 from ⟨rfl, rfl⟩)]
    congr 2
    omega
  · rw [if_neg e, List.getElem?_map, List.getElem?_map]
    by_cases h : k < M + 1
    · rw [List.getElem?_range h]
      show some (iN _) = some (iN _)
      unfold outD
      rw [selS_snoc, if_neg (show ¬ (true = true ∧ x.2 = k) from fun q => e q.2), Nat.add_zero]
    · rw [List.getElem?_eq_none (by simpa using h)]; rfl
abbrev spCa := spF LQ (fun p => [.tup [.lst (p.P.map pN), .lst ((txts p.l p.P).map sL)], sdD p.l p.P, iN p.m]) (fun p => GoodS p.l p.P ∧ p.l.Nodup ∧ p.l.length ≤ 30 ∧ p.P.length ≤ 100 ∧ p.m ≤ 100) (fun p => .tup ((List.range (p.m + 1)).map fun k => iN (cntK p.l p.P p.m k)))
theorem scCa : FnScope ["_law_made", "_law_sides_here", "_law_many", "_law_table", "_law_at", "_law_row", "_law_piece", "_law_ahead", "_law_key", "_law_out", "_law_k"] ["_law_made", "_law_sides_here", "_law_many"] (defScope (top 42)) := ⟨rfl, rfl, rfl, by decide +kernel, rfl, by decide +kernel, by decide +kernel⟩
theorem ok_car {g : Gd} {f : Addr} {fd : FuncData} (F : FunD g.K "_law_carried" "_law_carried" (defArgs (top 42)) (defBody (top 42)) (defScope (top 42)) [] [] f fd) (hb : Binds g.K fd ["_law_made", "_law_sides_here", "_law_many"] [])
    (hB : BltF g ["range", "len", "list", "int", "tuple"]) : FnD g 1 f ["_law_made", "_law_sides_here", "_law_many"] spCa := by
  refine fn_mk F hb scCa (gl := ["range", "len", "list", "int", "tuple"]) [("_law_made", 0), ("_law_sides_here", 1), ("_law_many", 2), ("_law_table", 3), ("_law_at", 4), ("_law_row", 5), ("_law_piece", 6), ("_law_ahead", 7), ("_law_key", 8), ("_law_out", 9)] (by decide +kernel) (by decide +kernel) (fun rs S Ψ ξ h => ?_) (fun rs S Ψ ξ h => ?_)
  · obtain ⟨_, rfl, _⟩ := h; rfl
  · obtain ⟨⟨l, P, M⟩, rfl, rfl, ⟨hg, hnd, hl, hP, hM⟩, hΨ⟩ := h
    dsimp only at hΨ hg hnd hl hP hM
    have htl := txts_len l P
    have hpl : ∀ p, p < l.length + P.length → (txts l P)[p]? = some ((txts l P).getD p []) := fun p hp => by
      rw [List.getD_eq_getElem?_getD, List.getElem?_eq_getElem (by omega)]; rfl
    have hpl40 : ∀ p, p < l.length + P.length → pl l P p ≤ 40 := fun p hp => hg.short _ (List.mem_of_getElem? (hpl p hp))
    refine wss_cut (fun env S => env = [some (.val (.tup [.lst (P.map pN), .lst ((txts l P).map sL)])), some (.val (sdD l P)), some (.val (iN M)), some (.loc 0), none, none, none, none, none, none, none] ∧ S = dS M (fun _ => []) fun _ _ => 0) ?_ ?_
    · refine ws_setLc [("_law_k", 10)] [("_law_k", 10)] [("_law_k", 10)] [] (by dsimp only; decide +kernel) rfl (by walk_at "inv") ?_ (fun _ _ => rfl) rfl rfl rfl rfl
      refine wi_range1 (by walk_at "ing") (by walk_at "nb") ?_ (fun _ => rfl)
      repeat walk_at "e"
      refine ⟨_, rfl, by dsimp only; omega, ?_⟩
      refine ⟨fun i S' => S' = qS i, rfl, fun _ _ _ => trivial, ?_, ?_⟩
      · rintro i d S' hd rfl
        obtain ⟨hi, rfl⟩ := rangeD_get hd
        have hi : i < M + 1 := by have := hi; dsimp only at this; omega
        refine wgw_name (by walk_at "inv") (by decide) ?_
        refine wts_nil ⟨fun h => (by cases h), fun _ => ?_⟩
        refine we_dNewT ?_
        refine ⟨(List.range i).map (fun e => R.loc (e + 1)), rfl, by simp [sizeLine_eq]; omega, ?_⟩
        rw [qS_len]
        exact qS_succ _
      · rintro S' rfl
        rw [rangeD_len, show ((M : Int) + 1).toNat = M + 1 by omega]
        exact ⟨rfl, rfl⟩
    rintro env' S' ⟨rfl, rfl⟩
    have hn1 : ∀ (K K' : Nat → List Pr) (V V' : Nat → Pr → Nat), (dS M K V).length ≤ (dS M K' V').length := fun _ _ _ _ => by rw [dS_len, dS_len]; exact Nat.le_refl _
    have hokS : ∀ (K : Nat → List Pr) (V : Nat → Pr → Nat), (dS M K V).all (Node.okB (dS M K V).length) = true := fun K V => by rw [dS_len]; exact dS_ok _ _ _ (Nat.le_refl _)
    have hE : ∀ (K : Nat → List Pr) (V : Nat → Pr → Nat) (k : Nat), k < M + 2 → okE (dS M K V).length (.loc k) = true := fun K V k hk => by rw [dS_len]; exact decide_eq_true hk
    refine wss_cons ?_
    refine ws_for rfl ?_ (fun _ _ => rfl)
    refine wi_range2 (by walk_at "ing") (by walk_at "nb") ?_ (fun _ => rfl) (fun _ => rfl)
    repeat walk_at "e"
    refine ⟨_, _, rfl, rfl, ⟨by omega, by omega, by omega, by omega⟩, ?_⟩
    refine ⟨fun i env S' => ∃ (KS : Nat → List Pr) (VS : Nat → Pr → Nat), env = [some (.val (.tup [.lst (P.map pN), .lst ((txts l P).map sL)])), some (.val (sdD l P)), some (.val (iN M)), some (.loc 0), none, none, none, none, none, none, none] ∧ S' = dS M KS VS ∧ TabO l P (i + 1) 0 KS VS, Nat.zero_le _, ⟨_, _, rfl, rfl, TabO.start hnd hg⟩, fun _ _ _ _ => trivial, ?_, ?_⟩
    · rintro i d env' S' hd ⟨KS, VS, rfl, rfl, hT⟩
      obtain ⟨hi, rfl⟩ := rangeD_get hd
      have hi : i < M := by omega
      rw [show (1 : Int) + (i : Int) = ((i + 1 : Nat) : Int) by omega]
      refine wg_name (by walk_at "inv") ?_
      refine wss_cons ?_
      walk_at "s"
      repeat walk_at "e"
      refine wix_R (dS_out _ _ _) (atI_get (k := i + 1) rfl (tbO_get (by omega))) ?_
      refine wss_one ?_
      refine ws_for rfl ?_ (fun _ _ => rfl)
      refine wi_range1 (by walk_at "ing") (by walk_at "nb") ?_ (fun _ => rfl)
      repeat walk_at "e"
      refine wix_seq (.tup _) (d := .lst ((txts l P).map sL)) rfl ?_
      repeat walk_at "e"
      rw [List.length_map, htl]
      refine ⟨_, rfl, by omega, ?_⟩
      refine ⟨fun p env S' => ∃ (KS : Nat → List Pr) (VS : Nat → Pr → Nat), env = [some (.val (.tup [.lst (P.map pN), .lst ((txts l P).map sL)])), some (.val (sdD l P)), some (.val (iN M)), some (.loc 0), some (.val (iN (i + 1))), some (.loc (i + 2)), none, none, none, none, none] ∧ S' = dS M KS VS ∧ TabO l P (i + 1) p KS VS, hn1 _ _ _ _, ⟨_, _, rfl, rfl, hT⟩, fun _ _ _ _ => trivial, ?_, ?_⟩
      · rintro p d env' S' hd ⟨KS, VS, rfl, rfl, hT⟩
        obtain ⟨hp, rfl⟩ := rangeD_get hd
        have hp : p < l.length + P.length := by omega
        have h40 := hpl40 p hp
        have h1 := pl_pos hg hp
        refine wg_name (by walk_at "inv") ?_
        refine wss_cons ?_
        walk_at "s"
        repeat walk_at "e"
        refine wix_seq (.tup _) (d := .lst ((txts l P).map sL)) rfl ?_
        repeat walk_at "e"
        refine wix_F (g := sL) (.lst _) (j := p) (by omega) (hpl p hp) ?_
        repeat walk_at "e"
        refine wc_lenL (by unfold pl at h40; rw [sizeLine_eq]; omega) ?_
        repeat walk_at "e"
        rw [show (0 : Int) + (p : Int) = (p : Int) from Int.zero_add _]
        show WSs _ _ [some (.val (.tup [.lst (P.map pN), .lst ((txts l P).map sL)])), some (.val (sdD l P)), some (.val (iN M)), some (.loc 0), some (.val (iN (i + 1))), some (.loc (i + 2)), some (.val (iN p)), some (.val (.int (((i + 1 : Nat) : Int) - (pl l P p : Int)))), none, none, none] _ _
        refine wss_cut (fun env S => ∃ (KS' : Nat → List Pr) (VS' : Nat → Pr → Nat), env = [some (.val (.tup [.lst (P.map pN), .lst ((txts l P).map sL)])), some (.val (sdD l P)), some (.val (iN M)), some (.loc 0), some (.val (iN (i + 1))), some (.loc (i + 2)), some (.val (iN p)), some (.val (.int (((i + 1 : Nat) : Int) - (pl l P p : Int)))), none, none, none] ∧ S = dS M KS' VS' ∧ (pl l P p = i + 1 → TabO l P (i + 1) (p + 1) KS' VS') ∧ (pl l P p ≠ i + 1 → TabO l P (i + 1) p KS' VS')) ?_ ?_
        · refine ws_ifB (pl l P p = i + 1) ?_ (fun h => ?_) (fun h => ?_)
          · repeat walk_at "e"
            exact ⟨decide_eq_decide.mpr (by omega), rfl⟩
          · refine wss_one ?_
            refine ws_putN (x := (p, 1)) ?_ (fun _ => rfl)
            repeat walk_at "e"
            refine ⟨_, _, _, 1, rfl, rfl, rfl, dS_row (e := i + 1) (by omega), ?_, ?_⟩
            · have := hT.r.row.len
              have h3 : (l.length + P.length) * (i + 1 + 1) ≤ 130 * 101 := Nat.mul_le_mul (by omega) (by omega)
              rw [sizeLine_eq]; omega
            rw [dS_set (by omega)]
            exact ⟨_, _, rfl, rfl, fun _ => hT.whole hnd hg hp h, fun q => (q h).elim⟩
          · walk_at "s"
            exact ⟨_, _, rfl, rfl, fun q => (h q).elim, fun _ => hT⟩
        rintro env' S' ⟨KS', VS', rfl, rfl, hT1, hT2⟩
        clear hT KS VS
        refine wss_one ?_
        refine ws_ifB (pl l P p < i + 1) ?_ (fun h => ?_) (fun h => ?_)
        · repeat walk_at "e"
          exact ⟨decide_eq_decide.mpr (by omega), rfl⟩
        · have hT := hT2 (by omega)
          obtain ⟨hh, ehh⟩ : ∃ hh, pl l P p + hh = i + 1 := ⟨i + 1 - pl l P p, by omega⟩
          have e7 : ((i + 1 : Nat) : Int) - (pl l P p : Int) = (hh : Int) := by omega
          rw [e7]
          have dh := hT.r.done hh (by omega)
          have hTP := hT.into (h := hh)
          have hsub : ∀ x : Pr, x ∈ KS' hh → x.1 < l.length + P.length ∧ x.2 ≤ hh := fun x hx => dh.1.lt x hx
          have hlen0 := dh.1.len
          have hlen : (KS' hh).length ≤ 130 * 101 := Nat.le_trans hlen0 (Nat.mul_le_mul (by omega) (by omega))
          generalize eKh : KS' hh = Kh at hTP hsub hlen
          refine wss_one ?_
          refine ws_for rfl ?_ (fun _ _ => rfl)
          refine wi_seq ?_
          repeat walk_at "e"
          refine wix_R (dS_out _ _ _) (atI_get (k := hh) rfl (tbO_get (by omega))) ?_
          repeat walk_at "e"
          refine wc_listT rfl (by rw [dS_row (by omega), dN_eq]) ?_
          rw [eKh, dS_len]
          refine ⟨_, .loc (by rw [List.getElem?_append_right (by rw [dS_len]; exact Nat.le_refl _), dS_len, Nat.sub_self]; rfl), ?_⟩
          refine ⟨fun j env S' => ∃ (KS : Nat → List Pr) (VS : Nat → Pr → Nat), env = [some (.val (.tup [.lst (P.map pN), .lst ((txts l P).map sL)])), some (.val (sdD l P)), some (.val (iN M)), some (.loc 0), some (.val (iN (i + 1))), some (.loc (i + 2)), some (.val (iN p)), some (.val (.int (hh : Int))), none, none, none] ∧ S' = dS M KS VS ++ [nl ((Kh.map kP).map keyT)] ∧ TabP l P (i + 1) p hh Kh j KS VS, ?_, ⟨_, _, rfl, rfl, hTP⟩, fun j env' S' hI => ?_, ?_, ?_⟩
          · rw [List.length_append]
            refine Nat.le_trans (hn1 _ KS' _ VS') (Nat.le_add_right _ _)
          · obtain ⟨KS, VS, _, rfl, _⟩ := hI
            show (dS M KS VS ++ [nl ((Kh.map kP).map keyT)])[M + 2]? = _
            rw [List.getElem?_append_right (by rw [dS_len]; exact Nat.le_refl _), dS_len, Nat.sub_self]; rfl
          · rintro j d env' S' hd ⟨KS, VS, rfl, rfl, hT3⟩
            obtain ⟨x, hx, rfl⟩ := keyGet hd
            have hxm := List.mem_of_getElem? hx
            obtain ⟨hx1, hx2⟩ := hsub x hxm
            refine wg_name (by walk_at "inv") ?_
            refine wss_one ?_
            have fin : ∀ (KS : Nat → List Pr) (VS : Nat → Pr → Nat), TabP l P (i + 1) p hh Kh (j + 1) KS VS → Wk (dS M KS' VS' ++ [nl ((Kh.map kP).map keyT)]).length (fun env S' => ∃ (KS : Nat → List Pr) (VS : Nat → Pr → Nat), env = [some (.val (.tup [.lst (P.map pN), .lst ((txts l P).map sL)])), some (.val (sdD l P)), some (.val (iN M)), some (.loc 0), some (.val (iN (i + 1))), some (.loc (i + 2)), some (.val (iN p)), some (.val (.int (hh : Int))), none, none, none] ∧ S' = dS M KS VS ++ [nl ((Kh.map kP).map keyT)] ∧ TabP l P (i + 1) p hh Kh (j + 1) KS VS) [some (.val (.tup [.lst (P.map pN), .lst ((txts l P).map sL)])), some (.val (sdD l P)), some (.val (iN M)), some (.loc 0), some (.val (iN (i + 1))), some (.loc (i + 2)), some (.val (iN p)), some (.val (.int (hh : Int))), some (.val (.tup [.int (x.1 : Int), .int (x.2 : Int)])), none, none] (dS M KS VS ++ [nl ((Kh.map kP).map keyT)]) := fun KS VS hT4 => by
              have hlS : (dS M KS VS ++ [nl ((Kh.map kP).map keyT)]).length = M + 3 := by rw [List.length_append, dS_len]; rfl
              refine Wk.drop (env' := [some (.val (.tup [.lst (P.map pN), .lst ((txts l P).map sL)])), some (.val (sdD l P)), some (.val (iN M)), some (.loc 0), some (.val (iN (i + 1))), some (.loc (i + 2)), some (.val (iN p)), some (.val (.int (hh : Int))), none, none, none]) ⟨_, _, rfl, rfl, hT4⟩ ?_ (by rw [List.length_append, List.length_append, dS_len, dS_len]; exact Nat.le_refl _) ?_
              · rw [hlS]
                exact (.keep rfl (.keep rfl (.keep rfl (.keep (by show decide (0 < M + 3) = true; simp) (.keep rfl (.keep (by show decide (i + 2 < M + 3) = true; simp; omega) (.keep rfl (.keep rfl (.drop (.drop (.drop (.nil))))))))))))
              · rw [hlS, List.all_append, dS_ok _ _ _ (by omega)]
                show (true && (Node.okB (M + 3) (nl _) && true)) = true
                rw [okB_nl]; rfl
            refine ws_ifB (fP l P p x.1 = true) ?_ (fun hs => ?_) (fun hs => ?_)
            · refine wt_val ?_ (fun _ _ => rfl)
              repeat walk_at "e"
              refine wix_seq (.tup _) (d := iN x.1) rfl ?_
              refine wix_F (g := sdR l P) (.lst _) rfl (range_at hx1) ?_
              repeat walk_at "e"
              refine wix_F (g := fun y => .bl (crossF l.length P x.1 y).isNone) (.lst _) rfl (range_at hp) ?_
              exact ⟨_, rfl, (by unfold fP; rw [Bool.decide_eq_true]), rfl⟩
            · refine wss_one ?_
              refine ws_putN (x := (p, x.2 + 1)) ?_ (fun _ => rfl)
              repeat walk_at "e"
              refine we_dget2T ?_ (fun _ => ⟨rfl, rfl, rfl, rfl⟩)
              repeat walk_at "e"
              refine ⟨dN_isT (dS_row' _ (e := i + 1) (by omega)), ?_⟩
              repeat walk_at "e"
              refine wix_seq (.tup _) (d := iN x.2) rfl ?_
              repeat walk_at "e"
              refine ⟨_, _, rfl, dN_look (dS_row' _ (e := i + 1) (by omega)) (p, x.2 + 1), ?_⟩
              rw [dN_get hT3.r.row]
              repeat walk_at "e"
              refine wix_R (by rw [List.getElem?_append_left (by rw [dS_len]; omega)]; exact dS_out _ _ _) (atI_get (k := hh) rfl (tbO_get (by omega))) ?_
              repeat walk_at "e"
              refine wix_dct (d := .int (VS hh x : Int)) (by
                have := dN_look (dS_row' (KS := KS) (VS := VS) [nl ((Kh.map kP).map keyT)] (M := M) (e := hh) (by omega)) x
                rw [if_pos (by rw [hT3.hk]; exact hxm)] at this
                exact this) ?_
              repeat walk_at "e"
              refine wix_seq (.tup _) (d := iN x.2) rfl ?_
              repeat walk_at "e"
              refine ⟨_, _, _, VS (i + 1) (p, x.2 + 1) + VS hh x, rfl, rfl, rfl, dS_row' _ (e := i + 1) (by omega), ?_, ?_⟩
              · have := hT3.r.row.len
                have h3 : (l.length + P.length) * (i + 1 + 1) ≤ 130 * 101 := Nat.mul_le_mul (by omega) (by omega)
                rw [sizeLine_eq]; omega
              rw [dS_set' _ (by omega)]
              exact fin _ _ (hT3.step hx hp (by omega) hs)
            · walk_at "s"
              exact fin _ _ (hT3.skip hx hs)
          · rintro env' S' ⟨KS, VS, rfl, rfl, hT3⟩
            rw [List.length_map, List.length_map] at hT3
            have hT4 := hT3.fin hnd hg hp ehh (by omega)
            dsimp only
            refine Wk.cut (env' := [some (.val (.tup [.lst (P.map pN), .lst ((txts l P).map sL)])), some (.val (sdD l P)), some (.val (iN M)), some (.loc 0), some (.val (iN (i + 1))), some (.loc (i + 2)), none, none, none, none, none]) ⟨_, _, rfl, rfl, hT4⟩ ?_ (hn1 _ _ _ _) (hokS _ _)
            exact (.keep rfl (.keep rfl (.keep rfl (.keep (hE _ _ 0 (by omega)) (.keep rfl (.keep (hE _ _ (i + 2) (by omega)) (.drop (.drop (.drop (.drop (.drop (.nil))))))))))))
        · have hT : TabO l P (i + 1) (p + 1) KS' VS' := by
            by_cases q : pl l P p = i + 1
            · exact hT1 q
            · exact (hT2 q).far hnd hg (by omega)
          walk_at "s"
          dsimp only
          exact Wk.drop (env' := [some (.val (.tup [.lst (P.map pN), .lst ((txts l P).map sL)])), some (.val (sdD l P)), some (.val (iN M)), some (.loc 0), some (.val (iN (i + 1))), some (.loc (i + 2)), none, none, none, none, none]) ⟨_, _, rfl, rfl, hT⟩ (.keep rfl (.keep rfl (.keep rfl (.keep (hE _ _ 0 (by omega)) (.keep rfl (.keep (hE _ _ (i + 2) (by omega)) (.drop (.drop (.drop (.drop (.drop (.nil)))))))))))) (hn1 _ _ _ _) (hokS _ _)
      · rintro env' S' ⟨KS, VS, rfl, rfl, hT⟩
        rw [rangeD_len, Int.toNat_natCast] at hT
        dsimp only
        exact Wk.drop (env' := [some (.val (.tup [.lst (P.map pN), .lst ((txts l P).map sL)])), some (.val (sdD l P)), some (.val (iN M)), some (.loc 0), none, none, none, none, none, none, none]) ⟨_, _, rfl, rfl, hT.next⟩ (.keep rfl (.keep rfl (.keep rfl (.keep (hE _ _ 0 (by omega)) (.drop (.drop (.drop (.drop (.drop (.drop (.drop (.nil)))))))))))) (hn1 _ _ _ _) (hokS _ _)
    rintro env' S' ⟨KS, VS, rfl, rfl, hT⟩
    rw [rangeD_len, show ((M : Int) + 1 - 1).toNat = M by omega] at hT
    have dM := hT.r.done M (by omega)
    have hlenM : (KS M).length ≤ 130 * 101 := Nat.le_trans dM.1.len (Nat.mul_le_mul (by omega) (by omega))
    have hsums := hT.sums hnd hg
    refine wss_cons ?_
    refine ws_set (by walk_at "inv") ?_ (fun _ => rfl)
    refine we_op ?_
    refine we_lstF ?_
    repeat walk_at "e"
    refine we_lc [("_law_k", 10)] [("_law_k", 10)] [("_law_k", 10)] [] (by dsimp only; decide +kernel) rfl ?_ (fun _ _ => rfl)
    refine wi_range1 (by walk_at "ing") (by walk_at "nb") ?_ (fun _ => rfl)
    repeat walk_at "e"
    refine ⟨_, rfl, by omega, ?_⟩
    refine ⟨fun i S' => S' = dS M KS VS ++ [nl ((List.range i).map fun _ => iN 0)], rfl, fun _ _ _ => trivial, ?_, ?_⟩
    · rintro i d S' hd rfl
      obtain ⟨hi, rfl⟩ := rangeD_get hd
      have hi : i < M := by omega
      refine wgw_name (by walk_at "inv") (by decide) ?_
      refine wts_nil ⟨fun h => (by cases h), fun _ => ?_⟩
      repeat walk_at "e"
      refine ⟨_, by rw [List.getElem?_append_right (Nat.le_refl _), Nat.sub_self]; rfl, by simp [sizeLine_eq]; omega, ?_⟩
      show _ = _
      rw [List.set_append_right _ _ (Nat.le_refl _), Nat.sub_self, List.range_succ]
      simp
    rintro S' rfl
    rw [rangeD_len, Int.toNat_natCast, dS_len]
    refine wo_catG (.lst _) (.loc (by rw [List.getElem?_append_right (by rw [dS_len]; exact Nat.le_refl _), dS_len, Nat.sub_self]; rfl)) (by simp [sizeLine_eq]; omega) ?_
    rw [outL_zero M (VS M), List.append_assoc]
    generalize (List.range M).map (fun _ => iN 0) = Z
    show WSs _ _ [some (.val (.tup [.lst (P.map pN), .lst ((txts l P).map sL)])), some (.val (sdD l P)), some (.val (iN M)), some (.loc 0), none, none, none, none, none, some (.loc (dS M KS VS ++ [nl Z]).length), none] (dS M KS VS ++ [nl Z, nl (outL M [] (VS M))]) _
    rw [show (dS M KS VS ++ [nl Z]).length = M + 3 by rw [List.length_append, dS_len]; rfl]
    refine wss_cut (fun env S => env = [some (.val (.tup [.lst (P.map pN), .lst ((txts l P).map sL)])), some (.val (sdD l P)), some (.val (iN M)), some (.loc 0), none, none, none, none, none, some (.loc (M + 3)), none] ∧ S = dS M KS VS ++ [nl Z, nl (outL M (KS M) (VS M))]) ?_ ?_
    · refine ws_lock (k := M + 1) (ks := (KS M).map kP) (ns := (KS M).map fun x => (VS M x : Int)) (dS_row' _ (Nat.le_refl _)) (Nat.zero_le _) fun ob => ?_
      have hset : ∀ T : Sto, (dS M KS VS ++ T).set (M + 1) (lN ob (KS M) (VS M)) = (dS M KS VS).set (M + 1) (lN ob (KS M) (VS M)) ++ T := fun T => List.set_append_left _ _ (by rw [dS_len]; omega)
      rw [show lkD ob ((KS M).map kP) ((KS M).map fun x => (VS M x : Int)) = lN ob (KS M) (VS M) from rfl, hset]
      have hB1 : ((dS M KS VS).set (M + 1) (lN ob (KS M) (VS M))).length = M + 2 := by rw [List.length_set, dS_len]
      have hB2 : ((dS M KS VS).set (M + 1) (lN ob (KS M) (VS M)))[0]? = some (.lst ((List.range (M + 1)).map fun e => R.loc (e + 1))) := by
        rw [List.getElem?_set_ne (by omega)]; exact dS_out _ _ _
      have hB3 : ((dS M KS VS).set (M + 1) (lN ob (KS M) (VS M)))[M + 1]? = some (lN ob (KS M) (VS M)) := List.getElem?_set_self (by rw [dS_len]; omega)
      have hB4 : ∀ T : Sto, (((dS M KS VS).set (M + 1) (lN ob (KS M) (VS M))) ++ T).set (M + 1) (dN (KS M) (VS M)) = dS M KS VS ++ T := fun T => by
        rw [List.set_append_left _ _ (by rw [hB1]; omega), List.set_set]
        congr 1
        have hk := dS_row (M := M) (KS := KS) (VS := VS) (Nat.le_refl M)
        obtain ⟨hl, e⟩ := List.getElem?_eq_some_iff.mp hk
        rw [← e]
        exact List.set_getElem_self hl
      have hB5 : ∀ n, M + 2 ≤ n → ((dS M KS VS).set (M + 1) (lN ob (KS M) (VS M))).all (Node.okB n) = true := fun n hn => by
        rw [List.all_eq_true]
        intro x hx
        rcases List.mem_or_eq_of_mem_set hx with hx | rfl
        · exact List.all_eq_true.mp (dS_ok M KS VS hn) x hx
        · exact okB_vals n _
      generalize (dS M KS VS).set (M + 1) (lN ob (KS M) (VS M)) = B at hB1 hB2 hB3 hB4 hB5
      have hBl : ∀ x : List D, (B ++ [nl Z, nl x]).length = M + 4 := fun x => by rw [List.length_append, hB1]; rfl
      have hO : ∀ x : List D, (B ++ [nl Z, nl x])[M + 3]? = some (nl x) := fun x => by
        rw [List.getElem?_append_right (by omega), hB1, show M + 3 - (M + 2) = 1 by omega]; rfl
      refine ws_for rfl ?_ (fun _ _ => rfl)
      refine wi_keysT ?_
      repeat walk_at "e"
      refine wix_R (by rw [List.getElem?_append_left (by omega)]; exact hB2) (atI_get (k := M) rfl (tbO_get (Nat.le_refl _))) ?_
      refine ⟨M + 1, ob, (KS M).map kP, (KS M).map fun x => (VS M x : Int), rfl, by rw [List.getElem?_append_left (by omega)]; exact hB3, ?_⟩
      refine ⟨fun j env S' => env = [some (.val (.tup [.lst (P.map pN), .lst ((txts l P).map sL)])), some (.val (sdD l P)), some (.val (iN M)), some (.loc 0), none, none, none, none, none, some (.loc (M + 3)), none] ∧ S' = B ++ [nl Z, nl (outL M ((KS M).take j) (VS M))], by rw [hBl, List.length_append, dS_len]; exact Nat.le_refl _, ⟨rfl, rfl⟩, fun j env' S' hI => ?_, ?_, ?_⟩
      · obtain ⟨_, rfl⟩ := hI
        show (B ++ _)[M + 1]? = _
        rw [List.getElem?_append_left (by omega)]; exact hB3
      · rintro j d env' S' hd ⟨rfl, rfl⟩
        obtain ⟨x, hx, rfl⟩ := keyGet hd
        have hxm := List.mem_of_getElem? hx
        obtain ⟨hx1, hx2⟩ := dM.1.lt x hxm
        have hset2 := outL_set (ks := (KS M).take j) (V := VS M) hx2
        rw [show (KS M).take j ++ [x] = (KS M).take (j + 1) by rw [List.take_add_one, hx]; rfl] at hset2
        refine wg_name (by walk_at "inv") ?_
        refine wss_one ?_
        refine ws_asg ?_ (fun _ => rfl) (fun _ => rfl) (fun _ => rfl)
        repeat walk_at "e"
        refine wix_seq (.tup _) (d := iN x.2) rfl ?_
        refine wix_seq (.loc (hO _)) (atI_get (k := x.2) rfl (outL_get hx2)) ?_
        repeat walk_at "e"
        refine wix_R (by rw [List.getElem?_append_left (by omega)]; exact hB2) (atI_get (k := M) rfl (tbO_get (Nat.le_refl _))) ?_
        repeat walk_at "e"
        refine wix_lN (ob := ob) (ks := KS M) (V := VS M) (by rw [List.getElem?_append_left (by omega)]; exact hB3) hxm ?_
        repeat walk_at "e"
        refine wg_setL ?_ (fun _ _ => rfl)
        repeat walk_at "e"
        refine wix_seq (.tup _) (d := iN x.2) rfl ?_
        refine ⟨M + 3, _, _, x.2, rfl, rfl, hO _, ixN_of (by rw [List.length_map]; unfold outL; rw [List.length_map, List.length_range]; omega), ?_⟩
        have est : (B ++ [nl Z, nl (outL M ((KS M).take j) (VS M))]).set (M + 3) (.lst (((outL M ((KS M).take j) (VS M)).map R.val).set x.2 (.val (.int ((outD M ((KS M).take j) (VS M) x.2 : Int) + (VS M x : Int)))))) = B ++ [nl Z, nl (outL M ((KS M).take (j + 1)) (VS M))] := by
          rw [List.set_append_right _ _ (by omega), hB1, show M + 3 - (M + 2) = 1 by omega]
          show B ++ [nl Z, Node.lst _] = _
          rw [nl_set, show D.int ((outD M ((KS M).take j) (VS M) x.2 : Int) + (VS M x : Int)) = iN (outD M ((KS M).take j) (VS M) x.2 + VS M x) from rfl, hset2]
        dsimp only
        refine Wk.eqS est ?_
        refine Wk.drop (env' := [some (.val (.tup [.lst (P.map pN), .lst ((txts l P).map sL)])), some (.val (sdD l P)), some (.val (iN M)), some (.loc 0), none, none, none, none, none, some (.loc (M + 3)), none]) ⟨rfl, rfl⟩ ?_ (by rw [hBl, hBl]; exact Nat.le_refl _) ?_
        · rw [hBl]
          exact (.keep rfl (.keep rfl (.keep rfl (.keep (by show decide (0 < M + 4) = true; simp) (.drop (.drop (.drop (.drop (.drop (.keep (by show decide (M + 3 < M + 4) = true; simp) (.drop (.nil))))))))))))
        · rw [hBl, List.all_append, hB5 _ (by omega)]
          show (true && (Node.okB _ (nl _) && (Node.okB _ (nl _) && true))) = true
          rw [okB_nl, okB_nl]; rfl
      · rintro env' S' ⟨rfl, rfl⟩
        rw [List.length_map, List.length_map, List.take_length]
        refine ⟨by rw [List.getElem?_append_left (by omega)]; exact hB3, rfl, ?_⟩
        exact hB4 _
    rintro env' S' ⟨rfl, rfl⟩
    have eout : outL M (KS M) (VS M) = (List.range (M + 1)).map fun k => iN (cntK l P M k) := by
      unfold outL
      refine List.map_congr_left fun k hk => ?_
      unfold outD
      rw [hsums k (by have := List.mem_range.mp hk; omega)]
    rw [eout]
    refine wss_one ?_
    walk_at "s"
    refine we_callT (by walk_at "ing") (by walk_at "nb") boot_tuple ?_ (fun _ => rfl) (fun _ => rfl)
    repeat walk_at "e"
    refine wc_tuple (.loc (by rw [List.getElem?_append_right (by rw [dS_len]; omega), dS_len, show M + 3 - (M + 2) = 1 by omega]; rfl)) ?_
    exact RetC.cut0 hΨ
end DL
set_option Elab.async false
set_option linter.all false
set_option maxRecDepth 100000
set_option maxHeartbeats 4000000
namespace DL
open PySem PySem.Spec PyProof.Rows
open L2 hiding Takes passAt takes_of ps_raise PMk ps_try_as
open L2N (Takes passAt takes_of ps_raise PMk ps_try_as)
local macro_rules | `(tactic| walk_at "inv") => `(tactic| ((try dsimp only); repeat (first | with_reducible exact InV.here | with_reducible apply InV.there)))
local macro_rules | `(tactic| walk_at "ing") => `(tactic| ((try dsimp only); repeat (first | with_reducible exact InG.here | with_reducible apply InG.there)))
local macro_rules | `(tactic| walk_at "nb") => `(tactic| first | assumption | (dsimp only; refine BltF.at_ (by assumption) ?_; repeat (first | with_reducible exact InG.here | with_reducible apply InG.there)))
local macro_rules | `(tactic| walk_at "s") => `(tactic| first
  | refine wss_cons ?_ | refine wss_nil ?_ | refine ws_set (by walk_at "inv") ?_ (fun _ => rfl) | refine ws_if ?_ | refine ws_ret ?_ | refine ws_aug (by walk_at "inv") rfl ?_
  | refine ws_expr ?_ (fun _ => rfl) | refine ws_pass ?_ | refine ws_break ?_ | refine ws_cont ?_ | refine ws_retN ?_
  | refine ws_setA ?_ (fun _ => rfl) | refine ws_put ?_ (fun _ => rfl) | refine ws_asg ?_ (fun _ => rfl) (fun _ => rfl) (fun _ => rfl))
local macro_rules | `(tactic| walk_at "we") => `(tactic| first
  | refine we_name (by walk_at "inv") rfl ?_ | refine we_int ?_ | refine we_op ?_ | refine we_str ?_
  | refine we_callB (by walk_at "ing") (by walk_at "nb") (by first | exact PySem.boot_len | exact boot_abs | exact boot_min | exact boot_max | exact boot_sorted | exact boot_isinstance) ?_ (fun _ => rfl) (fun _ => rfl)
  | refine we_callT (by walk_at "ing") (by walk_at "nb") (by first | exact boot_tuple | exact boot_list | exact boot_int) ?_ (fun _ => rfl) (fun _ => rfl)
  | refine we_attr ?_ (fun _ => rfl) | refine we_ix ?_ (fun _ _ => rfl) | refine we_tup ?_
  | refine we_append ?_ (fun _ => rfl) (fun _ => rfl) rfl (fun _ => rfl) (fun _ => rfl)
  | refine we_bl ?_ | refine we_non ?_ | refine we_chain ?_ rfl | refine we_cmp ?_ rfl | refine we_one ?_ | refine we_and ?_ | refine we_or ?_ | refine we_not ?_ | refine we_ifx ?_ | refine we_neg ?_ | refine we_slice ?_)
local macro_rules | `(tactic| walk_at "wb") => `(tactic| first | refine we_type (by walk_at "ing") (by walk_at "nb") boot_int ?_ | refine we_type (by walk_at "ing") (by walk_at "nb") boot_bool ?_ | refine we_type (by walk_at "ing") (by walk_at "nb") boot_str ?_ | refine we_type (by walk_at "ing") (by walk_at "nb") boot_tuple ?_)
local macro_rules | `(tactic| walk_at "wt") => `(tactic| first | refine wt_cmp ?_ rfl | refine wt_not ?_ | refine wt_chain ?_ rfl | refine wt_of ?_)
local macro_rules | `(tactic| walk_at "wto") => `(tactic| first | refine wto_and1 ?_ | refine wto_or1 ?_ | refine wto_and ?_ | refine wto_or ?_)
local macro_rules | `(tactic| walk_at "wo") => `(tactic| first
  | refine wo_add ?_ | refine wo_sub ?_ | refine wo_lt ?_ | refine wo_le ?_ | refine wo_gt ?_ | refine wo_ge ?_ | refine wo_eqI ?_ | refine wo_neI ?_ | refine wo_eqL ?_ | refine wo_neL ?_ | refine wo_lt1 ?_ | refine wo_le1 ?_ | refine wo_ge1 ?_ | refine wo_inL ?_ | refine wo_notInL ?_
  | refine wo_mod (by omega) ?_ | refine wo_fdiv ⟨by omega, by omega⟩ ?_ | refine wo_mul (by first | exact Or.inr ⟨by omega, by omega⟩ | exact Or.inl ⟨by omega, by omega⟩) ?_ | refine wo_pow ⟨by omega, by omega, by decide⟩ ?_
  | refine wo_isN (by intro _ h; cases h) ?_ | refine wo_notN (by intro _ h; cases h) ?_)
local macro_rules | `(tactic| walk_at "wc") => `(tactic| first
  | refine wc_len (by first | exact .tup _ | exact .lst _ | exact .bor _ | exact .loc rfl) ?_ | refine wc_int ?_ | refine wc_intB ?_ | refine wc_abs ?_ | refine wc_min2 rfl ?_ | refine wc_max2 rfl ?_ | refine wc_tuple (by first | exact .tup _ | exact .lst _ | exact .bor _ | exact .loc rfl) ?_)
local macro_rules | `(tactic| walk_at "e") => `(tactic| first
  | (with_reducible show WE _ _ _ _ _); walk_at "we"
  | (with_reducible show WT _ _ _ _ _); walk_at "wt"
  | (with_reducible show WTo _ _ _ _ _); walk_at "wto"
  | (with_reducible show WO _ _ _ _ _ _); walk_at "wo"
  | (with_reducible show WA _ _ _ _ _); first | refine wa_cons ?_ (fun _ => rfl) | refine wa_nil ?_
  | (with_reducible show WC _ _ _ _ _); walk_at "wc"
  | (with_reducible show WPO _ _ _ _ _); first | refine wpo_none ?_ | refine wpo_some ?_
  | refine asB_mk ?_ | refine wip_add ?_
  | refine ⟨_, rfl, (by first | decide | exact Nat.le_of_ble_eq_true rfl), ?_⟩)
local macro_rules | `(tactic| walk_at "ew") => `(tactic| ((try simp only [List.set_cons_zero, List.set_cons_succ]); repeat (first | exact EnvW.nil | refine EnvW.keep (by first | rfl | assumption) ?_ | refine EnvW.drop ?_)))
local macro_rules | `(tactic| walk_at "fl") => `(tactic| (refine ⟨_, _, fldL rfl (by repeat (first | with_reducible exact AtN.here | with_reducible apply AtN.there)) rfl, by assumption, NoA.at_ (by assumption) (by walk_at "ing"), ?_⟩))
local macro_rules | `(tactic| walk_at "fv") => `(tactic| (refine ⟨_, _, fldV (by repeat (first | with_reducible exact AtN.here | with_reducible apply AtN.there)) rfl, by assumption, NoA.at_ (by assumption) (by walk_at "ing"), ?_⟩))
theorem smT {n : Nat} (f : Nat → Nat) (M : Nat) (hM : M ≤ 1000) : SmD (n + 1) (.tup ((List.range (M + 1)).map fun j => iN (f j))) := .tup (fun d hd => by obtain ⟨x, _, rfl⟩ := List.mem_map.mp hd; exact .int _) (by rw [List.length_map, List.length_range]; omega)
theorem small_w {k : Nat} (h1 : 1 ≤ k) (h4 : k ≤ 4) : ∃ w : Nat, ([iN 1, iN 17, iN 7, iN 5, iN 4] : List D)[k]? = some (iN w) ∧ 1 ≤ w ∧ w ≤ 17 ∧ ∀ v, v < w → k ^ v ≤ 1000 := by
  obtain rfl | rfl | rfl | rfl : k = 1 ∨ k = 2 ∨ k = 3 ∨ k = 4 := by omega
  · exact ⟨17, rfl, by omega, by omega, fun v hv => by rw [Nat.one_pow]; omega⟩
  · exact ⟨7, rfl, by omega, by omega, fun v hv => Nat.le_trans (Nat.pow_le_pow_right (by omega) (show v ≤ 6 by omega)) (by decide)⟩
  · exact ⟨5, rfl, by omega, by omega, fun v hv => Nat.le_trans (Nat.pow_le_pow_right (by omega) (show v ≤ 4 by omega)) (by decide)⟩
  · exact ⟨4, rfl, by omega, by omega, fun v hv => Nat.le_trans (Nat.pow_le_pow_right (by omega) (show v ≤ 3 by omega)) (by decide)⟩
def spLW : DSp := fun rs S Ψ _ => ∃ (zs : List Int), rs = [.bor (zs.map .int)] ∧ S = [] ∧ zs.length ≤ 63 ∧ Ψ (.val (.bl true)) []
theorem lwOk {zs : List Int} (hz : zs.length ≤ 63) {Φ : R → Sto → Prop} {ξ : Addr → List Str → List D → Sto → Prop} (hΦ : Φ (.val (.bl true)) []) : spLW [.bor (zs.map .int)] [] Φ ξ := ⟨zs, rfl, rfl, hz, hΦ⟩
theorem scLW : FnScope ["_law_script", "_law_pool_here", "_law_alphabet_here", "_law_made", "_law_joins", "_law_sides_here", "_law_many", "_law_small", "_law_told", "_law_power", "_law_k", "_law_total", "_law_number"] ["_law_script"] (defScope (top 43)) := ⟨rfl, rfl, rfl, by decide +kernel, rfl, by decide +kernel, by decide +kernel⟩
theorem ok_lw {g : Gd} {f fPL fFw fPR fDR fSM fSd fCc fLc fTb fBp fCr fNI A : Addr} {fd : FuncData} (F : FunD g.K "law" "law" (defArgs (top 43)) (defBody (top 43)) (defScope (top 43)) [] [] f fd) (hb : Binds g.K fd ["_law_script"] [])
    (hB : BltF g ["list", "range", "len", "int", "bool", "tuple", "isinstance"])
    (GPL : FnD g 1 fPL ["_law_script", "_law_many"] spPL) (mPL : g.mg "_law_pool" = some (.ref fPL))
    (GFw : FnD g 3 fFw ["_law_pool_here"] spFw) (mFw : g.mg "_law_few_letters" = some (.ref fFw))
    (GPR : FnD g 3 fPR ["_law_pool_here", "_law_alphabet_here", "_law_most"] spPR) (mPR : g.mg "_law_pairs" = some (.ref fPR))
    (GDR : FnD g 1 fDR ["_law_pool_here", "_law_many"] spDR) (mDR : g.mg "_law_draw" = some (.ref fDR))
    (GSM : FnD g 2 fSM ["_law_told", "_law_due"] (spSM 1)) (mSM : g.mg "_law_same" = some (.ref fSM))
    (GSd : FnD g 3 fSd ["_law_made", "_law_alphabet_here"] spSd) (mSd : g.mg "_law_sides" = some (.ref fSd))
    (GCc : FnD g 9 fCc ["joins", "many"] (spCc A)) (mCc : g.mg "count_cuts" = some (.ref fCc))
    (GLc : FnD g 2 fLc ["_law_sides_here", "_law_many"] spLc) (mLc : g.mg "_law_counted" = some (.ref fLc))
    (GTb : FnD g 9 fTb ["joins", "many"] (spTb A)) (mTb : g.mg "texts_by_pieces" = some (.ref fTb))
    (GBp : FnD g 3 fBp ["_law_made", "_law_alphabet_here", "_law_many"] spBp) (mBp : g.mg "_law_by_pieces" = some (.ref fBp))
    (GCr : FnD g 1 fCr ["_law_made", "_law_sides_here", "_law_many"] spCa) (mCr : g.mg "_law_carried" = some (.ref fCr))
    (GNI : FnD g 5 fNI ["self", "alphabet", "pairs"] (spNI A)) (MNI : Mk g.K A fNI) (mNI : g.mg "Joins" = some (.ref A)) :
    FnOk g.prog g.w g.K g.mg g.base (L2N.CX g.prog g.w) 12 f fd ["_law_script"] (spD g.K spLW) := by
  refine fn_mkX F hb scLW (gl := ["list", "range", "len", "int", "bool", "tuple", "isinstance", "_law_pool", "_law_few_letters", "_law_pairs", "_law_draw", "_law_same", "_law_sides", "count_cuts", "_law_counted", "texts_by_pieces", "_law_by_pieces", "_law_carried", "Joins"]) [("_law_script", 0), ("_law_pool_here", 1), ("_law_alphabet_here", 2), ("_law_made", 3), ("_law_joins", 4), ("_law_sides_here", 5), ("_law_many", 6), ("_law_small", 7), ("_law_told", 8), ("_law_power", 9), ("_law_k", 10), ("_law_total", 11), ("_law_number", 12)] (by decide +kernel) (by decide +kernel) (fun rs S Ψ ξ h => ?_) (fun rs S Ψ ξ h => ?_)
  · obtain ⟨_, rfl, _⟩ := h; rfl
  · obtain ⟨zs, rfl, rfl, hz, hΨ⟩ := h
    refine wss_cons ?_
    walk_at "s"
    refine we_call GPL (by walk_at "ing") mPL (Nat.le_of_ble_eq_true rfl) rfl ?_ (fun _ => rfl) (fun _ => rfl)
    repeat walk_at "e"
    refine fnc_PL (m := 260) hz (by omega) fun J ns0 hn0 => ?_
    refine wss_cons ?_
    walk_at "s"
    refine we_call GFw (by walk_at "ing") mFw (Nat.le_of_ble_eq_true rfl) rfl ?_ (fun _ => rfl) (fun _ => rfl)
    repeat walk_at "e"
    refine fnc_Fw (ns := ns0) rfl (by omega) fun l ns1 hal hl4 hn1 => ?_
    obtain ⟨hl30, hl1, hnd⟩ := alphB_ok hal
    refine wss_cons ?_
    walk_at "s"
    refine we_call GPR (by walk_at "ing") mPR (Nat.le_of_ble_eq_true rfl) rfl ?_ (fun _ => rfl) (fun _ => rfl)
    repeat walk_at "e"
    refine we_call GDR (by walk_at "ing") mDR (Nat.le_of_ble_eq_true rfl) rfl ?_ (fun _ => rfl) (fun _ => rfl)
    repeat walk_at "e"
    refine fnc_DR (ns := ns1) (m := 8) rfl (by omega) (by omega) fun v ns2 hv hn2 => ?_
    repeat walk_at "e"
    refine fnc_PR (ns := ns2) rfl hnd hl1 hl30 (by omega) (by omega) fun P ns3 hg hP hn3 => ?_
    have hP : P.length ≤ 29 := by omega
    have htl := txts_len l P
    have hw := good_wf P hg
    refine wss_cons ?_
    refine ws_set (by walk_at "inv") ?_ (fun _ => rfl)
    refine we_settle ?_
    refine we_make GNI MNI (by walk_at "ing") mNI (Nat.le_of_ble_eq_true rfl) rfl ?_ (fun _ => rfl) (fun _ => rfl)
    refine wa_cons ?_ (fun _ => rfl)
    walk_at "e"
    refine wa_cons ?_ (fun _ => rfl)
    refine we_callT (by walk_at "ing") (by walk_at "nb") boot_list ?_ (fun _ => rfl) (fun _ => rfl)
    refine wa_cons ?_ (fun _ => rfl)
    repeat walk_at "e"
    refine wix_seq (.tup _) (d := .lst (P.map pN)) rfl ?_
    refine wa_nil ?_
    refine wc_listF (.lst _) ?_
    refine wa_nil ?_
    refine fnc_NIo (S := [nl J, nN ns3]) hal (by omega) (good_proper hnd hg) fun lg hlg => ⟨rfl, 2, .val (jD A l P lg), Nat.le_refl _, Nat.le_of_ble_eq_true rfl, by simp [okB_nl, jSo], .inr ⟨_, fz_Jo [nl J, nN ns3] A l P lg, rfl⟩, ?_⟩
    have hjok : (⟨l, P, lg⟩ : JV).ok := ⟨hl30, by show P.length ≤ 1000; omega⟩
    have hts : ∀ t ∈ txts l P, t.length ≤ 100 := fun t ht => Nat.le_trans (hg.short t ht) (by omega)
    refine wss_cons ?_
    walk_at "s"
    refine we_call GSd (by walk_at "ing") mSd (Nat.le_of_ble_eq_true rfl) rfl ?_ (fun _ => rfl) (fun _ => rfl)
    repeat walk_at "e"
    refine fnc_F (A := LP) ⟨l, P⟩ rfl ⟨hg, hnd, hl30, by show P.length ≤ 100; omega⟩ ?_
    dsimp only
    show WSs _ _ [some (.bor (zs.map .int)), some (.loc 1), some (.val (sL l)), some (.val (.tup [.lst (P.map pN), .lst ((txts l P).map sL)])), some (.val (jD A l P lg)), some (.val (sdD l P)), none, none, none, none, none, none, none] [nl J, nN ns3] _
    refine wss_cons ?_
    refine ws_for rfl ?_ (fun _ _ => rfl)
    refine wi_seq ?_
    refine we_lstF ?_
    repeat walk_at "e"
    refine we_call GDR (by walk_at "ing") mDR (Nat.le_of_ble_eq_true rfl) rfl ?_ (fun _ => rfl) (fun _ => rfl)
    repeat walk_at "e"
    refine fnc_DR (ns := ns3) (m := 31) rfl (by omega) (by omega) fun v1 ns4 hv1 hn4 => ?_
    repeat walk_at "e"
    refine ⟨_, .lst _, fun i env S' => env = [some (.bor (zs.map .int)), some (.loc 1), some (.val (sL l)), some (.val (.tup [.lst (P.map pN), .lst ((txts l P).map sL)])), some (.val (jD A l P lg)), some (.val (sdD l P)), none, none, none, none, none, none, none] ∧ S' = [nl J, nN ns4], Nat.zero_le _, ⟨rfl, rfl⟩, fun _ _ _ _ => trivial, ?_, ?_⟩
    · rintro i d env' S' hd ⟨rfl, rfl⟩
      obtain ⟨many, rfl, hm⟩ : ∃ many : Nat, d = iN many ∧ many ≤ 30 := by
        rcases i with _ | _ | _ | _ | i
        · cases hd; exact ⟨0, rfl, by omega⟩
        · cases hd; exact ⟨1, rfl, by omega⟩
        · cases hd; exact ⟨2, rfl, by omega⟩
        · cases hd; exact ⟨v1, rfl, by omega⟩
        · simp at hd
      refine wg_name (by walk_at "inv") ?_
      refine wss_one ?_
      refine ws_if ?_
      refine wt_not ?_
      refine wt_val ?_ (fun _ _ => rfl)
      refine we_call GSM (by walk_at "ing") mSM (Nat.le_of_ble_eq_true rfl) rfl ?_ (fun _ => rfl) (fun _ => rfl)
      repeat walk_at "e"
      refine we_call GCc (by walk_at "ing") mCc (Nat.le_of_ble_eq_true rfl) rfl ?_ (fun _ => rfl) (fun _ => rfl)
      repeat walk_at "e"
      refine fnc_F (A := JK) ⟨⟨l, P, lg⟩, many⟩ rfl ⟨hjok, hg, by show many ≤ 1000; omega⟩ ?_
      repeat walk_at "e"
      refine we_call GLc (by walk_at "ing") mLc (Nat.le_of_ble_eq_true rfl) rfl ?_ (fun _ => rfl) (fun _ => rfl)
      repeat walk_at "e"
      refine fnc_F (A := LK) ⟨⟨l, P⟩, many⟩ rfl ⟨by show l.length + P.length ≤ 1000; omega, by show many ≤ 1000; omega⟩ ?_
      repeat walk_at "e"
      refine fnc_SM (n := 1) (.int _) ?_
      repeat walk_at "e"
      refine ⟨fun h => no_t h, fun _ => ?_⟩
      walk_at "s"
      dsimp only
      refine Wk.drop (env' := [some (.bor (zs.map .int)), some (.loc 1), some (.val (sL l)), some (.val (.tup [.lst (P.map pN), .lst ((txts l P).map sL)])), some (.val (jD A l P lg)), some (.val (sdD l P)), none, none, none, none, none, none, none]) ⟨rfl, rfl⟩ (by walk_at "ew") (Nat.le_refl _) (by simp [okB_nl])
    rintro env' S' ⟨rfl, rfl⟩
    obtain ⟨w0, hw1, hw2, hw3, hw4⟩ := small_w hl1 hl4
    refine wss_cons ?_
    walk_at "s"
    refine we_call GDR (by walk_at "ing") mDR (Nat.le_of_ble_eq_true rfl) rfl ?_ (fun _ => rfl) (fun _ => rfl)
    repeat walk_at "e"
    refine we_lstF ?_
    repeat walk_at "e"
    refine wc_lenL (by rw [sizeLine_eq]; omega) ?_
    refine wix_seq (.lst _) (d := iN w0) (atI_get (k := l.length) rfl hw1) ?_
    repeat walk_at "e"
    refine fnc_DR (ns := ns4) (m := w0) rfl (by omega) (by omega) fun w ns5 hw hn5 => ?_
    refine wss_cons ?_
    refine ws_if ?_
    refine wt_not ?_
    refine wt_val ?_ (fun _ _ => rfl)
    refine we_call GSM (by walk_at "ing") mSM (Nat.le_of_ble_eq_true rfl) rfl ?_ (fun _ => rfl) (fun _ => rfl)
    repeat walk_at "e"
    refine we_call GTb (by walk_at "ing") mTb (Nat.le_of_ble_eq_true rfl) rfl ?_ (fun _ => rfl) (fun _ => rfl)
    repeat walk_at "e"
    refine fnc_F (A := JK) ⟨⟨l, P, lg⟩, w⟩ rfl ⟨hjok, hg, hnd, hts, by show w ≤ 1000; omega⟩ ?_
    repeat walk_at "e"
    refine we_call GBp (by walk_at "ing") mBp (Nat.le_of_ble_eq_true rfl) rfl ?_ (fun _ => rfl) (fun _ => rfl)
    repeat walk_at "e"
    refine fnc_F (A := LQ) ⟨l, P, w⟩ rfl ⟨hg, hl1, hl30, by show P.length ≤ 100; omega, by show w ≤ 100; omega, hw4 w hw⟩ ?_
    repeat walk_at "e"
    refine fnc_SM (n := 1) (smT _ _ (by show w ≤ 1000; omega)) ?_
    repeat walk_at "e"
    refine ⟨fun h => no_t h, fun _ => ?_⟩
    walk_at "s"
    refine wss_cons ?_
    walk_at "s"
    refine we_call GDR (by walk_at "ing") mDR (Nat.le_of_ble_eq_true rfl) rfl ?_ (fun _ => rfl) (fun _ => rfl)
    repeat walk_at "e"
    refine fnc_DR (ns := ns5) (m := 10) rfl (by omega) (by omega) fun m9 ns6 hm9 hn6 => ?_
    refine wss_cons ?_
    refine ws_if ?_
    refine wt_not ?_
    refine wt_val ?_ (fun _ _ => rfl)
    refine we_call GSM (by walk_at "ing") mSM (Nat.le_of_ble_eq_true rfl) rfl ?_ (fun _ => rfl) (fun _ => rfl)
    repeat walk_at "e"
    refine we_call GTb (by walk_at "ing") mTb (Nat.le_of_ble_eq_true rfl) rfl ?_ (fun _ => rfl) (fun _ => rfl)
    repeat walk_at "e"
    refine fnc_F (A := JK) ⟨⟨l, P, lg⟩, m9⟩ rfl ⟨hjok, hg, hnd, hts, by show m9 ≤ 1000; omega⟩ ?_
    repeat walk_at "e"
    refine we_call GCr (by walk_at "ing") mCr (Nat.le_of_ble_eq_true rfl) rfl ?_ (fun _ => rfl) (fun _ => rfl)
    repeat walk_at "e"
    refine fnc_F (A := LQ) ⟨l, P, m9⟩ rfl ⟨hg, hnd, hl30, by show P.length ≤ 100; omega, by show m9 ≤ 100; omega⟩ ?_
    repeat walk_at "e"
    refine fnc_SM (n := 1) (smT _ _ (by show m9 ≤ 1000; omega)) ?_
    repeat walk_at "e"
    refine ⟨fun h => no_t h, fun _ => ?_⟩
    walk_at "s"
    refine wss_cons ?_
    walk_at "s"
    refine we_call GDR (by walk_at "ing") mDR (Nat.le_of_ble_eq_true rfl) rfl ?_ (fun _ => rfl) (fun _ => rfl)
    repeat walk_at "e"
    refine fnc_DR (ns := ns6) (m := 17) rfl (by omega) (by omega) fun m ns7 hm hn7 => ?_
    refine wss_cons ?_
    walk_at "s"
    refine we_call GTb (by walk_at "ing") mTb (Nat.le_of_ble_eq_true rfl) rfl ?_ (fun _ => rfl) (fun _ => rfl)
    repeat walk_at "e"
    refine fnc_F (A := JK) ⟨⟨l, P, lg⟩, m⟩ rfl ⟨hjok, hg, hnd, hts, by show m ≤ 1000; omega⟩ ?_
    dsimp only
    show WSs _ _ [some (.bor (zs.map .int)), some (.loc 1), some (.val (sL l)), some (.val (.tup [.lst (P.map pN), .lst ((txts l P).map sL)])), some (.val (jD A l P lg)), some (.val (sdD l P)), some (.val (iN m)), some (.val (iN w)), some (.val (.tup ((List.range (m + 1)).map fun j => iN (cntK l P m j)))), none, none, none, none] [nl J, nN ns7] _
    have hall := cntK_all (l := l) (P := P) m
    refine wss_cons ?_
    refine ws_if ?_
    refine wt_of ?_
    refine wto_or ?_
    refine wt_not ?_
    refine wt_val ?_ (fun _ _ => rfl)
    repeat walk_at "e"
    walk_at "wb"
    repeat walk_at "e"
    refine wc_isi (T := "tuple") (q := true) rfl (by decide +kernel) ?_
    refine ⟨true, rfl, fun h => no_t h, fun _ => ?_⟩
    refine wto_or1 ?_
    repeat walk_at "e"
    rw [List.length_map, List.length_range]
    refine ⟨fun h => absurd h (by simp), fun _ => ?_⟩
    walk_at "s"
    refine wss_cons ?_
    walk_at "s"
    repeat walk_at "e"
    show WSs _ _ [some (.bor (zs.map .int)), some (.loc 1), some (.val (sL l)), some (.val (.tup [.lst (P.map pN), .lst ((txts l P).map sL)])), some (.val (jD A l P lg)), some (.val (sdD l P)), some (.val (iN m)), some (.val (iN w)), some (.val (.tup ((List.range (m + 1)).map fun j => iN (cntK l P m j)))), some (.val (iN (l.length ^ 0))), none, none, none] [nl J, nN ns7] _
    refine wss_cons ?_
    refine ws_for rfl ?_ (fun _ _ => rfl)
    refine wi_range1 (by walk_at "ing") (by walk_at "nb") ?_ (fun _ => rfl)
    repeat walk_at "e"
    refine ⟨_, rfl, by omega, ?_⟩
    refine ⟨fun i env S' => env = [some (.bor (zs.map .int)), some (.loc 1), some (.val (sL l)), some (.val (.tup [.lst (P.map pN), .lst ((txts l P).map sL)])), some (.val (jD A l P lg)), some (.val (sdD l P)), some (.val (iN m)), some (.val (iN w)), some (.val (.tup ((List.range (m + 1)).map fun j => iN (cntK l P m j)))), some (.val (iN (l.length ^ i))), none, none, none] ∧ S' = [nl J, nN ns7], Nat.zero_le _, ⟨rfl, rfl⟩, fun _ _ _ _ => trivial, ?_, ?_⟩
    · rintro i d env' S' hd ⟨rfl, rfl⟩
      obtain ⟨hi, rfl⟩ := rangeD_get hd
      have hi : i < m := by omega
      have hb1 : l.length ^ i ≤ 4 ^ 16 := Nat.le_trans (Nat.pow_le_pow_left hl4 i) (Nat.pow_le_pow_right (by omega) (by omega))
      have hb2 : (4 : Nat) ^ 16 = 4294967296 := by decide
      refine wg_name (by walk_at "inv") ?_
      refine wss_one ?_
      walk_at "s"
      repeat walk_at "e"
      refine wc_lenL (by rw [sizeLine_eq]; omega) ?_
      refine wo_mul (Or.inr ⟨by omega, by omega⟩) ?_
      dsimp only
      refine Wk.drop (env' := [some (.bor (zs.map .int)), some (.loc 1), some (.val (sL l)), some (.val (.tup [.lst (P.map pN), .lst ((txts l P).map sL)])), some (.val (jD A l P lg)), some (.val (sdD l P)), some (.val (iN m)), some (.val (iN w)), some (.val (.tup ((List.range (m + 1)).map fun j => iN (cntK l P m j)))), some (.val (iN (l.length ^ (i + 1)))), none, none, none]) ⟨rfl, rfl⟩ ?_ (Nat.le_refl _) (by simp [okB_nl])
      rw [show iN (l.length ^ (i + 1)) = .int ((((l.length ^ i : Nat) : Int)) * (l.length : Int)) from by show D.int _ = _; rw [Nat.pow_succ]; congr 1]
      walk_at "ew"
    rintro env' S' ⟨rfl, rfl⟩
    rw [rangeD_len, Int.toNat_natCast]
    refine wss_cons ?_
    walk_at "s"
    repeat walk_at "e"
    show WSs _ _ [some (.bor (zs.map .int)), some (.loc 1), some (.val (sL l)), some (.val (.tup [.lst (P.map pN), .lst ((txts l P).map sL)])), some (.val (jD A l P lg)), some (.val (sdD l P)), some (.val (iN m)), some (.val (iN w)), some (.val (.tup ((List.range (m + 1)).map fun j => iN (cntK l P m j)))), some (.val (iN (l.length ^ m))), none, some (.val (iN 0)), none] [nl J, nN ns7] _
    refine wss_cons ?_
    refine ws_for rfl ?_ (fun _ _ => rfl)
    refine wi_seq ?_
    repeat walk_at "e"
    refine ⟨_, .tup _, fun i env S' => env = [some (.bor (zs.map .int)), some (.loc 1), some (.val (sL l)), some (.val (.tup [.lst (P.map pN), .lst ((txts l P).map sL)])), some (.val (jD A l P lg)), some (.val (sdD l P)), some (.val (iN m)), some (.val (iN w)), some (.val (.tup ((List.range (m + 1)).map fun j => iN (cntK l P m j)))), some (.val (iN (l.length ^ m))), none, some (.val (iN ((List.range i).map fun j => cntK l P m j).sum)), none] ∧ S' = [nl J, nN ns7], Nat.zero_le _, ⟨rfl, rfl⟩, fun _ _ _ _ => trivial, ?_, ?_⟩
    · rintro i d env' S' hd ⟨rfl, rfl⟩
      rw [List.getElem?_map] at hd
      obtain ⟨i0, hi0, rfl⟩ := Option.map_eq_some_iff.mp hd
      obtain ⟨hi, e0⟩ := List.getElem?_eq_some_iff.mp hi0
      rw [List.getElem_range] at e0
      subst e0
      refine wg_name (by walk_at "inv") ?_
      refine wss_cons ?_
      refine ws_if ?_
      refine wt_of ?_
      refine wto_or ?_
      refine wt_not ?_
      refine wt_val ?_ (fun _ _ => rfl)
      repeat walk_at "e"
      walk_at "wb"
      repeat walk_at "e"
      refine wc_isi (T := "int") (q := true) rfl (by decide +kernel) ?_
      refine ⟨true, rfl, fun h => no_t h, fun _ => ?_⟩
      refine wto_or ?_
      refine wt_val ?_ (fun _ _ => rfl)
      repeat walk_at "e"
      walk_at "wb"
      repeat walk_at "e"
      refine wc_isi (T := "int") (q := false) rfl (by decide +kernel) ?_
      refine ⟨false, rfl, fun h => no_t h, fun _ => ?_⟩
      refine wto_or1 ?_
      repeat walk_at "e"
      refine ⟨fun h => absurd (of_decide_eq_true h) (by omega), fun _ => ?_⟩
      walk_at "s"
      refine wss_one ?_
      walk_at "s"
      repeat walk_at "e"
      dsimp only
      refine Wk.drop (env' := [some (.bor (zs.map .int)), some (.loc 1), some (.val (sL l)), some (.val (.tup [.lst (P.map pN), .lst ((txts l P).map sL)])), some (.val (jD A l P lg)), some (.val (sdD l P)), some (.val (iN m)), some (.val (iN w)), some (.val (.tup ((List.range (m + 1)).map fun j => iN (cntK l P m j)))), some (.val (iN (l.length ^ m))), none, some (.val (iN ((List.range (i + 1)).map fun j => cntK l P m j).sum)), none]) ⟨rfl, rfl⟩ ?_ (Nat.le_refl _) (by simp [okB_nl])
      rw [show iN ((List.range (i + 1)).map fun j => cntK l P m j).sum = .int (((((List.range i).map fun j => cntK l P m j).sum : Nat) : Int) + (cntK l P m i : Int)) from by show D.int _ = _; rw [List.range_succ, List.map_append, List.sum_append]; simp]
      walk_at "ew"
    rintro env' S' ⟨rfl, rfl⟩
    rw [List.length_map, List.length_range, hall]
    refine wss_one ?_
    walk_at "s"
    repeat walk_at "e"
    rw [show decide (((l.length ^ m : Nat) : Int) = ((l.length ^ m : Nat) : Int)) = true from decide_eq_true rfl]
    exact RetC.cut0 hΨ
end DL
set_option Elab.async false
set_option linter.all false
set_option maxRecDepth 100000
set_option maxHeartbeats 0
namespace DL
open PySem PySem.Spec PyProof.Rows
open L2 hiding Takes passAt takes_of ps_raise PMk ps_try_as
open L2N (Takes passAt takes_of ps_raise PMk ps_try_as)
theorem BltF.of {g : Gd} (L : List Str) (h : ∀ x ∈ L, g.mg x = none) : BltF g L := h
theorem facts {P : Program} {w : World} {K : PySem.W.Frag} {h : Heap} {mg : Str → Option Value} {f : Addr} (X : K.In h) (G : h.Ns mainGlobals mg) (hfa : mg ("law" : Str) = some (.ref f)) (c : SaysM fa fn pr fb K) :
    ∃ fd : FuncData, (∀ (s : Shared) (v : Value), BindsTo s fd ⟨[v], []⟩ [("_law_script", v)]) ∧ ∀ base : Heap, K.In base → base.Ns mainGlobals mg → FnOk P w K mg base (L2N.CX P w) 12 f fd ["_law_script"] (spD K spLW) := by
  obtain ⟨d0, F0⟩ := c.d.def_ 0 (d := fnL 0) rfl
  have b0 : Binds K d0 ["row", "pair", "piece"] [] := F0.bindsN fun _ _ _ _ _ _ us hl => match us, hl with | [_, _, _], _ => rfl
  obtain ⟨d1, F1⟩ := c.d.def_ 1 (d := fnL 1) rfl
  have b1 : Binds K d1 ["ranks", "row"] [] := F1.bindsN fun _ _ _ _ _ _ us hl => match us, hl with | [_, _], _ => rfl
  obtain ⟨d2, F2⟩ := c.d.def_ 2 (d := fnL 2) rfl
  have b2 : Binds K d2 ["ranks", "letters", "row"] [] := F2.bindsN fun _ _ _ _ _ _ us hl => match us, hl with | [_, _, _], _ => rfl
  obtain ⟨d3, F3⟩ := c.d.def_ 3 (d := fnL 3) rfl
  have b3 : Binds K d3 ["value", "least", "most"] [] := F3.bindsN fun _ _ _ _ _ _ us hl => match us, hl with | [_, _, _], _ => rfl
  obtain ⟨d4, F4⟩ := c.d.def_ 4 (d := fnL 4) rfl
  have b4 : Binds K d4 ["alphabet"] [] := F4.bindsN fun _ _ _ _ _ _ us hl => match us, hl with | [_], _ => rfl
  obtain ⟨d5, F5⟩ := c.d.def_ 5 (d := fnL 5) rfl
  have b5 : Binds K d5 ["value", "least", "most"] [] := F5.bindsN fun _ _ _ _ _ _ us hl => match us, hl with | [_, _, _], _ => rfl
  obtain ⟨d6, F6⟩ := c.d.def_ 6 (d := fnL 6) rfl
  have b6 : Binds K d6 ["alphabet"] [] := F6.bindsN fun _ _ _ _ _ _ us hl => match us, hl with | [_], _ => rfl
  obtain ⟨d7, F7⟩ := c.d.def_ 7 (d := fnL 7) rfl
  have b7 : Binds K d7 ["self", "pair"] [] := F7.bindsN fun _ _ _ _ _ _ us hl => match us, hl with | [_, _], _ => rfl
  obtain ⟨d8, F8⟩ := c.d.def_ 8 (d := fnL 8) rfl
  have b8 : Binds K d8 ["self", "pair"] [] := F8.bindsN fun _ _ _ _ _ _ us hl => match us, hl with | [_, _], _ => rfl
  obtain ⟨d9, F9⟩ := c.d.def_ 9 (d := fnL 9) rfl
  have b9 : Binds K d9 ["self", "alphabet", "pairs"] [] := F9.bindsN fun _ _ _ _ _ _ us hl => match us, hl with | [_, _, _], _ => rfl
  obtain ⟨d10, F10⟩ := c.d.def_ 10 (d := fnL 10) rfl
  have b10 : Binds K d10 ["self", "piece"] [] := F10.bindsN fun _ _ _ _ _ _ us hl => match us, hl with | [_, _], _ => rfl
  obtain ⟨d11, F11⟩ := c.d.def_ 11 (d := fnL 11) rfl
  have b11 : Binds K d11 ["self", "piece"] [] := F11.bindsN fun _ _ _ _ _ _ us hl => match us, hl with | [_, _], _ => rfl
  obtain ⟨d12, F12⟩ := c.d.def_ 12 (d := fnL 12) rfl
  have b12 : Binds K d12 ["self", "piece"] [] := F12.bindsN fun _ _ _ _ _ _ us hl => match us, hl with | [_, _], _ => rfl
  obtain ⟨d13, F13⟩ := c.d.def_ 13 (d := fnL 13) rfl
  have b13 : Binds K d13 ["self", "piece"] [] := F13.bindsN fun _ _ _ _ _ _ us hl => match us, hl with | [_, _], _ => rfl
  obtain ⟨d14, F14⟩ := c.d.def_ 14 (d := fnL 14) rfl
  have b14 : Binds K d14 ["joins", "piece"] [] := F14.bindsN fun _ _ _ _ _ _ us hl => match us, hl with | [_, _], _ => rfl
  obtain ⟨d15, F15⟩ := c.d.def_ 15 (d := fnL 15) rfl
  have b15 : Binds K d15 ["joins", "piece"] [] := F15.bindsN fun _ _ _ _ _ _ us hl => match us, hl with | [_, _], _ => rfl
  obtain ⟨d16, F16⟩ := c.d.def_ 16 (d := fnL 16) rfl
  have b16 : Binds K d16 ["joins", "left", "right"] [] := F16.bindsN fun _ _ _ _ _ _ us hl => match us, hl with | [_, _, _], _ => rfl
  obtain ⟨d17, F17⟩ := c.d.def_ 17 (d := fnL 17) rfl
  have b17 : Binds K d17 ["joins", "left", "right"] [] := F17.bindsN fun _ _ _ _ _ _ us hl => match us, hl with | [_, _, _], _ => rfl
  obtain ⟨d18, F18⟩ := c.d.def_ 18 (d := fnL 18) rfl
  have b18 : Binds K d18 ["_law_pool_here", "_law_many"] [] := F18.bindsN fun _ _ _ _ _ _ us hl => match us, hl with | [_, _], _ => rfl
  obtain ⟨d19, F19⟩ := c.d.def_ 19 (d := fnL 19) rfl
  have b19 : Binds K d19 ["_law_pool_here"] [] := F19.bindsN fun _ _ _ _ _ _ us hl => match us, hl with | [_], _ => rfl
  obtain ⟨d20, F20⟩ := c.d.def_ 20 (d := fnL 20) rfl
  have b20 : Binds K d20 ["_law_script", "_law_many"] [] := F20.bindsN fun _ _ _ _ _ _ us hl => match us, hl with | [_, _], _ => rfl
  obtain ⟨d21, F21⟩ := c.d.def_ 21 (d := fnL 21) rfl
  have b21 : Binds K d21 ["_law_pairs_here", "_law_letters", "_law_row", "_law_many"] [] := F21.bindsN fun _ _ _ _ _ _ us hl => match us, hl with | [_, _, _, _], _ => rfl
  obtain ⟨d22, F22⟩ := c.d.def_ 22 (d := fnL 22) rfl
  have b22 : Binds K d22 ["_law_pairs_here", "_law_alphabet_here", "_law_text"] [] := F22.bindsN fun _ _ _ _ _ _ us hl => match us, hl with | [_, _, _], _ => rfl
  obtain ⟨d23, F23⟩ := c.d.def_ 23 (d := fnL 23) rfl
  have b23 : Binds K d23 ["_law_pool_here", "_law_alphabet_here", "_law_most"] [] := F23.bindsN fun _ _ _ _ _ _ us hl => match us, hl with | [_, _, _], _ => rfl
  obtain ⟨d24, F24⟩ := c.d.def_ 24 (d := fnL 24) rfl
  have b24 : Binds K d24 ["_law_told", "_law_due"] [] := F24.bindsN fun _ _ _ _ _ _ us hl => match us, hl with | [_, _], _ => rfl
  obtain ⟨d25, F25⟩ := c.prop_ 0 (d := prL 0) rfl
  have b25 : Binds K d25 ["self"] [] := F25.bindsN fun _ _ _ _ _ _ us hl => match us, hl with | [_], _ => rfl
  obtain ⟨d26, F26⟩ := c.d.def_ 25 (d := fnL 25) rfl
  have b26 : Binds K d26 ["joins"] [] := F26.bindsN fun _ _ _ _ _ _ us hl => match us, hl with | [_], _ => rfl
  obtain ⟨d27, F27⟩ := c.d.def_ 26 (d := fnL 26) rfl
  have b27 : Binds K d27 ["followers", "many"] [] := F27.bindsN fun _ _ _ _ _ _ us hl => match us, hl with | [_, _], _ => rfl
  obtain ⟨d28, F28⟩ := c.d.def_ 27 (d := fnL 27) rfl
  have b28 : Binds K d28 ["joins", "many"] [] := F28.bindsN fun _ _ _ _ _ _ us hl => match us, hl with | [_, _], _ => rfl
  obtain ⟨d29, F29⟩ := c.d.def_ 28 (d := fnL 28) rfl
  have b29 : Binds K d29 ["_law_pool_here"] [] := F29.bindsN fun _ _ _ _ _ _ us hl => match us, hl with | [_], _ => rfl
  obtain ⟨d30, F30⟩ := c.d.def_ 29 (d := fnL 29) rfl
  have b30 : Binds K d30 ["_law_made", "_law_alphabet_here"] [] := F30.bindsN fun _ _ _ _ _ _ us hl => match us, hl with | [_, _], _ => rfl
  obtain ⟨d31, F31⟩ := c.d.def_ 30 (d := fnL 30) rfl
  have b31 : Binds K d31 ["_law_sides_here", "_law_many"] [] := F31.bindsN fun _ _ _ _ _ _ us hl => match us, hl with | [_, _], _ => rfl
  obtain ⟨d32, F32⟩ := c.d.def_ 31 (d := fnL 31) rfl
  have b32 : Binds K d32 ["counts", "others", "shift"] [] := F32.bindsN fun _ _ _ _ _ _ us hl => match us, hl with | [_, _, _], _ => rfl
  obtain ⟨d33, F33⟩ := c.d.def_ 32 (d := fnL 32) rfl
  have b33 : Binds K d33 ["joins", "many"] [] := F33.bindsN fun _ _ _ _ _ _ us hl => match us, hl with | [_, _], _ => rfl
  obtain ⟨d34, F34⟩ := c.d.def_ 33 (d := fnL 33) rfl
  have b34 : Binds K d34 ["_law_sides_here", "_law_many"] [] := F34.bindsN fun _ _ _ _ _ _ us hl => match us, hl with | [_, _], _ => rfl
  obtain ⟨d35, F35⟩ := c.d.def_ 34 (d := fnL 34) rfl
  have b35 : Binds K d35 ["_law_alphabet_here", "_law_many"] [] := F35.bindsN fun _ _ _ _ _ _ us hl => match us, hl with | [_, _], _ => rfl
  obtain ⟨d36, F36⟩ := c.d.def_ 35 (d := fnL 35) rfl
  have b36 : Binds K d36 ["_law_made", "_law_alphabet_here", "_law_many"] [] := F36.bindsN fun _ _ _ _ _ _ us hl => match us, hl with | [_, _, _], _ => rfl
  obtain ⟨d37, F37⟩ := c.d.def_ 36 (d := fnL 36) rfl
  have b37 : Binds K d37 ["_law_made", "_law_sides_here", "_law_many"] [] := F37.bindsN fun _ _ _ _ _ _ us hl => match us, hl with | [_, _, _], _ => rfl
  obtain ⟨d38, F38⟩ := c.d.def_ 37 (d := fnL 37) rfl
  have b38 : Binds K d38 ["_law_script"] [] := F38.bindsN fun _ _ _ _ _ _ us hl => match us, hl with | [_], _ => rfl
  have e := hfa.symm.trans (He.glo_ok X G (c.d.fact 60 (f := .glo "law") rfl))
  cases e
  have b := FunD.bindsA (ps := ["_law_script"]) F38 fun _ _ _ _ _ _ us hl => match us, hl with | [_], _ => rfl
  refine ⟨d38, fun s v => b s [v] rfl, fun base _ _ => ?_⟩
  have G0 := ok_pt (g := ⟨P, w, K, mg, base⟩) F0 b0 (BltF.of ["len", "tuple"] (List.forall_mem_cons.mpr ⟨He.free_ok X G (c.d.fact 1 (f := .free "len") rfl), (List.forall_mem_cons.mpr ⟨He.free_ok X G (c.d.fact 0 (f := .free "tuple") rfl), (fun _ hf => nomatch hf)⟩)⟩))
  have G1 := ok_lp (g := ⟨P, w, K, mg, base⟩) F1 b1 (BltF.of ["len", "range"] (List.forall_mem_cons.mpr ⟨He.free_ok X G (c.d.fact 1 (f := .free "len") rfl), (List.forall_mem_cons.mpr ⟨He.free_ok X G (c.d.fact 2 (f := .free "range") rfl), (fun _ hf => nomatch hf)⟩)⟩))
  have G2 := ok_cr (g := ⟨P, w, K, mg, base⟩) F2 b2 G1 (He.glo_ok X G (c.d.fact 3 (f := .glo "lowest_pair") rfl)) G0 (He.glo_ok X G (c.d.fact 4 (f := .glo "put_together") rfl))
  have G3 := ok_ib (g := ⟨P, w, K, mg, base⟩) F3 b3 (BltF.of ["isinstance", "int", "bool"] (List.forall_mem_cons.mpr ⟨He.free_ok X G (c.d.fact 7 (f := .free "isinstance") rfl), (List.forall_mem_cons.mpr ⟨He.free_ok X G (c.d.fact 6 (f := .free "int") rfl), (List.forall_mem_cons.mpr ⟨He.free_ok X G (c.d.fact 5 (f := .free "bool") rfl), (fun _ hf => nomatch hf)⟩)⟩)⟩))
  have G4 := ok_ia (g := ⟨P, w, K, mg, base⟩) F4 b4 (BltF.of ["len", "range"] (List.forall_mem_cons.mpr ⟨He.free_ok X G (c.d.fact 1 (f := .free "len") rfl), (List.forall_mem_cons.mpr ⟨He.free_ok X G (c.d.fact 2 (f := .free "range") rfl), (fun _ hf => nomatch hf)⟩)⟩)) (He.int_ok X G (c.d.fact 8 (f := .int "MOST_LETTERS" 30) rfl)).choose_spec
  have G5 := ok_io (g := ⟨P, w, K, mg, base⟩) F5 b5 (BltF.of ["isinstance", "int", "bool"] (List.forall_mem_cons.mpr ⟨He.free_ok X G (c.d.fact 7 (f := .free "isinstance") rfl), (List.forall_mem_cons.mpr ⟨He.free_ok X G (c.d.fact 6 (f := .free "int") rfl), (List.forall_mem_cons.mpr ⟨He.free_ok X G (c.d.fact 5 (f := .free "bool") rfl), (fun _ hf => nomatch hf)⟩)⟩)⟩))
  have G6 := ok_ca (g := ⟨P, w, K, mg, base⟩) F6 b6 G4 (He.glo_ok X G (c.d.fact 9 (f := .glo "is_alphabet") rfl))
  have G7 := ok_ip (g := ⟨P, w, K, mg, base⟩) (A := He.ga K "Joins") F7 b7 (BltF.of ["len", "tuple"] (List.forall_mem_cons.mpr ⟨He.free_ok X G (c.d.fact 1 (f := .free "len") rfl), (List.forall_mem_cons.mpr ⟨He.free_ok X G (c.d.fact 0 (f := .free "tuple") rfl), (fun _ hf => nomatch hf)⟩)⟩)) (He.int_ok X G (c.d.fact 10 (f := .int "LONGEST_PIECE" 40) rfl)).choose_spec (He.cls_ok (c.d.fact 11 (f := .cls "Joins") rfl)) (List.forall_mem_cons.mpr ⟨He.noat_ok (c.d.fact 17 (f := .noat "Joins" "alphabet") rfl), (List.forall_mem_cons.mpr ⟨He.noat_ok (c.d.fact 16 (f := .noat "Joins" "pairs") rfl), (List.forall_mem_cons.mpr ⟨He.noat_ok (c.d.fact 15 (f := .noat "Joins" "texts") rfl), (List.forall_mem_cons.mpr ⟨He.noat_ok (c.d.fact 14 (f := .noat "Joins" "ranks") rfl), (List.forall_mem_cons.mpr ⟨He.noat_ok (c.d.fact 13 (f := .noat "Joins" "numbers") rfl), (List.forall_mem_cons.mpr ⟨He.noat_ok (c.d.fact 12 (f := .noat "Joins" "longest") rfl), (fun _ hf => nomatch hf)⟩)⟩)⟩)⟩)⟩)⟩) G3 (He.glo_ok X G (c.d.fact 18 (f := .glo "is_between") rfl)) G2 (He.glo_ok X G (c.d.fact 19 (f := .glo "cut_row") rfl))
  have G8 := ok_tk (g := ⟨P, w, K, mg, base⟩) (A := He.ga K "Joins") F8 b8 (BltF.of ["len", "max"] (List.forall_mem_cons.mpr ⟨He.free_ok X G (c.d.fact 1 (f := .free "len") rfl), (List.forall_mem_cons.mpr ⟨He.free_ok X G (c.d.fact 20 (f := .free "max") rfl), (fun _ hf => nomatch hf)⟩)⟩)) (He.cls_ok (c.d.fact 11 (f := .cls "Joins") rfl)) (List.forall_mem_cons.mpr ⟨He.noat_ok (c.d.fact 17 (f := .noat "Joins" "alphabet") rfl), (List.forall_mem_cons.mpr ⟨He.noat_ok (c.d.fact 16 (f := .noat "Joins" "pairs") rfl), (List.forall_mem_cons.mpr ⟨He.noat_ok (c.d.fact 15 (f := .noat "Joins" "texts") rfl), (List.forall_mem_cons.mpr ⟨He.noat_ok (c.d.fact 14 (f := .noat "Joins" "ranks") rfl), (List.forall_mem_cons.mpr ⟨He.noat_ok (c.d.fact 13 (f := .noat "Joins" "numbers") rfl), (List.forall_mem_cons.mpr ⟨He.noat_ok (c.d.fact 12 (f := .noat "Joins" "longest") rfl), (fun _ hf => nomatch hf)⟩)⟩)⟩)⟩)⟩)⟩) G7 (He.meth_ok (c.d.fact 21 (f := .meth "Joins" "is_proper") rfl))
  have G9 := ok_ni (g := ⟨P, w, K, mg, base⟩) (A := He.ga K "Joins") F9 b9 (BltF.of ["list", "enumerate", "tuple"] (List.forall_mem_cons.mpr ⟨He.free_ok X G (c.d.fact 23 (f := .free "list") rfl), (List.forall_mem_cons.mpr ⟨He.free_ok X G (c.d.fact 22 (f := .free "enumerate") rfl), (List.forall_mem_cons.mpr ⟨He.free_ok X G (c.d.fact 0 (f := .free "tuple") rfl), (fun _ hf => nomatch hf)⟩)⟩)⟩)) (He.cls_ok (c.d.fact 11 (f := .cls "Joins") rfl)) (List.forall_mem_cons.mpr ⟨He.noat_ok (c.d.fact 17 (f := .noat "Joins" "alphabet") rfl), (List.forall_mem_cons.mpr ⟨He.noat_ok (c.d.fact 16 (f := .noat "Joins" "pairs") rfl), (List.forall_mem_cons.mpr ⟨He.noat_ok (c.d.fact 15 (f := .noat "Joins" "texts") rfl), (List.forall_mem_cons.mpr ⟨He.noat_ok (c.d.fact 14 (f := .noat "Joins" "ranks") rfl), (List.forall_mem_cons.mpr ⟨He.noat_ok (c.d.fact 13 (f := .noat "Joins" "numbers") rfl), (List.forall_mem_cons.mpr ⟨He.noat_ok (c.d.fact 12 (f := .noat "Joins" "longest") rfl), (fun _ hf => nomatch hf)⟩)⟩)⟩)⟩)⟩)⟩) G6 (He.glo_ok X G (c.d.fact 24 (f := .glo "checked_alphabet") rfl)) G8 (He.meth_ok (c.d.fact 25 (f := .meth "Joins" "take") rfl))
  have G10 := ok_qp (g := ⟨P, w, K, mg, base⟩) (A := He.ga K "Joins") F10 b10 (BltF.of ["len"] (List.forall_mem_cons.mpr ⟨He.free_ok X G (c.d.fact 1 (f := .free "len") rfl), (fun _ hf => nomatch hf)⟩)) (He.cls_ok (c.d.fact 11 (f := .cls "Joins") rfl)) (List.forall_mem_cons.mpr ⟨He.noat_ok (c.d.fact 17 (f := .noat "Joins" "alphabet") rfl), (List.forall_mem_cons.mpr ⟨He.noat_ok (c.d.fact 16 (f := .noat "Joins" "pairs") rfl), (List.forall_mem_cons.mpr ⟨He.noat_ok (c.d.fact 15 (f := .noat "Joins" "texts") rfl), (List.forall_mem_cons.mpr ⟨He.noat_ok (c.d.fact 14 (f := .noat "Joins" "ranks") rfl), (List.forall_mem_cons.mpr ⟨He.noat_ok (c.d.fact 13 (f := .noat "Joins" "numbers") rfl), (List.forall_mem_cons.mpr ⟨He.noat_ok (c.d.fact 12 (f := .noat "Joins" "longest") rfl), (fun _ hf => nomatch hf)⟩)⟩)⟩)⟩)⟩)⟩) G3 (He.glo_ok X G (c.d.fact 18 (f := .glo "is_between") rfl))
  have G11 := ok_kp (g := ⟨P, w, K, mg, base⟩) (A := He.ga K "Joins") F11 b11 (He.cls_ok (c.d.fact 11 (f := .cls "Joins") rfl)) G10 (He.meth_ok (c.d.fact 26 (f := .meth "Joins" "is_piece") rfl))
  have G12 := ok_tx (g := ⟨P, w, K, mg, base⟩) (A := He.ga K "Joins") F12 b12 (He.cls_ok (c.d.fact 11 (f := .cls "Joins") rfl)) (List.forall_mem_cons.mpr ⟨He.noat_ok (c.d.fact 17 (f := .noat "Joins" "alphabet") rfl), (List.forall_mem_cons.mpr ⟨He.noat_ok (c.d.fact 16 (f := .noat "Joins" "pairs") rfl), (List.forall_mem_cons.mpr ⟨He.noat_ok (c.d.fact 15 (f := .noat "Joins" "texts") rfl), (List.forall_mem_cons.mpr ⟨He.noat_ok (c.d.fact 14 (f := .noat "Joins" "ranks") rfl), (List.forall_mem_cons.mpr ⟨He.noat_ok (c.d.fact 13 (f := .noat "Joins" "numbers") rfl), (List.forall_mem_cons.mpr ⟨He.noat_ok (c.d.fact 12 (f := .noat "Joins" "longest") rfl), (fun _ hf => nomatch hf)⟩)⟩)⟩)⟩)⟩)⟩) G11 (He.meth_ok (c.d.fact 27 (f := .meth "Joins" "check_piece") rfl))
  have G13 := ok_pa (g := ⟨P, w, K, mg, base⟩) (A := He.ga K "Joins") F13 b13 (BltF.of ["len"] (List.forall_mem_cons.mpr ⟨He.free_ok X G (c.d.fact 1 (f := .free "len") rfl), (fun _ hf => nomatch hf)⟩)) (He.cls_ok (c.d.fact 11 (f := .cls "Joins") rfl)) (List.forall_mem_cons.mpr ⟨He.noat_ok (c.d.fact 17 (f := .noat "Joins" "alphabet") rfl), (List.forall_mem_cons.mpr ⟨He.noat_ok (c.d.fact 16 (f := .noat "Joins" "pairs") rfl), (List.forall_mem_cons.mpr ⟨He.noat_ok (c.d.fact 15 (f := .noat "Joins" "texts") rfl), (List.forall_mem_cons.mpr ⟨He.noat_ok (c.d.fact 14 (f := .noat "Joins" "ranks") rfl), (List.forall_mem_cons.mpr ⟨He.noat_ok (c.d.fact 13 (f := .noat "Joins" "numbers") rfl), (List.forall_mem_cons.mpr ⟨He.noat_ok (c.d.fact 12 (f := .noat "Joins" "longest") rfl), (fun _ hf => nomatch hf)⟩)⟩)⟩)⟩)⟩)⟩) G11 (He.meth_ok (c.d.fact 27 (f := .meth "Joins" "check_piece") rfl))
  have G14 := ok_rs (g := ⟨P, w, K, mg, base⟩) (A := He.ga K "Joins") F14 b14 (BltF.of ["tuple"] (List.forall_mem_cons.mpr ⟨He.free_ok X G (c.d.fact 0 (f := .free "tuple") rfl), (fun _ hf => nomatch hf)⟩)) (He.cls_ok (c.d.fact 11 (f := .cls "Joins") rfl)) (List.forall_mem_cons.mpr ⟨He.noat_ok (c.d.fact 17 (f := .noat "Joins" "alphabet") rfl), (List.forall_mem_cons.mpr ⟨He.noat_ok (c.d.fact 16 (f := .noat "Joins" "pairs") rfl), (List.forall_mem_cons.mpr ⟨He.noat_ok (c.d.fact 15 (f := .noat "Joins" "texts") rfl), (List.forall_mem_cons.mpr ⟨He.noat_ok (c.d.fact 14 (f := .noat "Joins" "ranks") rfl), (List.forall_mem_cons.mpr ⟨He.noat_ok (c.d.fact 13 (f := .noat "Joins" "numbers") rfl), (List.forall_mem_cons.mpr ⟨He.noat_ok (c.d.fact 12 (f := .noat "Joins" "longest") rfl), (fun _ hf => nomatch hf)⟩)⟩)⟩)⟩)⟩)⟩) G13 (He.meth_ok (c.d.fact 28 (f := .meth "Joins" "parts_of") rfl))
  have G15 := ok_lsp (g := ⟨P, w, K, mg, base⟩) (A := He.ga K "Joins") F15 b15 (BltF.of ["tuple"] (List.forall_mem_cons.mpr ⟨He.free_ok X G (c.d.fact 0 (f := .free "tuple") rfl), (fun _ hf => nomatch hf)⟩)) (He.cls_ok (c.d.fact 11 (f := .cls "Joins") rfl)) (List.forall_mem_cons.mpr ⟨He.noat_ok (c.d.fact 17 (f := .noat "Joins" "alphabet") rfl), (List.forall_mem_cons.mpr ⟨He.noat_ok (c.d.fact 16 (f := .noat "Joins" "pairs") rfl), (List.forall_mem_cons.mpr ⟨He.noat_ok (c.d.fact 15 (f := .noat "Joins" "texts") rfl), (List.forall_mem_cons.mpr ⟨He.noat_ok (c.d.fact 14 (f := .noat "Joins" "ranks") rfl), (List.forall_mem_cons.mpr ⟨He.noat_ok (c.d.fact 13 (f := .noat "Joins" "numbers") rfl), (List.forall_mem_cons.mpr ⟨He.noat_ok (c.d.fact 12 (f := .noat "Joins" "longest") rfl), (fun _ hf => nomatch hf)⟩)⟩)⟩)⟩)⟩)⟩) G13 (He.meth_ok (c.d.fact 28 (f := .meth "Joins" "parts_of") rfl))
  have G16 := ok_cx (g := ⟨P, w, K, mg, base⟩) (A := He.ga K "Joins") F16 b16 (He.cls_ok (c.d.fact 11 (f := .cls "Joins") rfl)) (List.forall_mem_cons.mpr ⟨He.noat_ok (c.d.fact 17 (f := .noat "Joins" "alphabet") rfl), (List.forall_mem_cons.mpr ⟨He.noat_ok (c.d.fact 16 (f := .noat "Joins" "pairs") rfl), (List.forall_mem_cons.mpr ⟨He.noat_ok (c.d.fact 15 (f := .noat "Joins" "texts") rfl), (List.forall_mem_cons.mpr ⟨He.noat_ok (c.d.fact 14 (f := .noat "Joins" "ranks") rfl), (List.forall_mem_cons.mpr ⟨He.noat_ok (c.d.fact 13 (f := .noat "Joins" "numbers") rfl), (List.forall_mem_cons.mpr ⟨He.noat_ok (c.d.fact 12 (f := .noat "Joins" "longest") rfl), (fun _ hf => nomatch hf)⟩)⟩)⟩)⟩)⟩)⟩) G14 (He.glo_ok X G (c.d.fact 29 (f := .glo "right_spine") rfl)) G15 (He.glo_ok X G (c.d.fact 30 (f := .glo "left_spine") rfl))
  have G17 := ok_ss (g := ⟨P, w, K, mg, base⟩) (A := He.ga K "Joins") F17 b17 G16 (He.glo_ok X G (c.d.fact 31 (f := .glo "crossing") rfl))
  have G18 := ok_dr (g := ⟨P, w, K, mg, base⟩) F18 b18 (BltF.of ["len", "int"] (List.forall_mem_cons.mpr ⟨He.free_ok X G (c.d.fact 1 (f := .free "len") rfl), (List.forall_mem_cons.mpr ⟨He.free_ok X G (c.d.fact 6 (f := .free "int") rfl), (fun _ hf => nomatch hf)⟩)⟩))
  have G19 := ok_ab (g := ⟨P, w, K, mg, base⟩) F19 b19 (BltF.of ["range", "sorted"] (List.forall_mem_cons.mpr ⟨He.free_ok X G (c.d.fact 2 (f := .free "range") rfl), (List.forall_mem_cons.mpr ⟨He.free_ok X G (c.d.fact 32 (f := .free "sorted") rfl), (fun _ hf => nomatch hf)⟩)⟩)) G18 (He.glo_ok X G (c.d.fact 33 (f := .glo "_law_draw") rfl))
  have G20 := ok_pl (g := ⟨P, w, K, mg, base⟩) F20 b20 (BltF.of ["len", "int", "range", "abs", "min"] (List.forall_mem_cons.mpr ⟨He.free_ok X G (c.d.fact 1 (f := .free "len") rfl), (List.forall_mem_cons.mpr ⟨He.free_ok X G (c.d.fact 6 (f := .free "int") rfl), (List.forall_mem_cons.mpr ⟨He.free_ok X G (c.d.fact 2 (f := .free "range") rfl), (List.forall_mem_cons.mpr ⟨He.free_ok X G (c.d.fact 35 (f := .free "abs") rfl), (List.forall_mem_cons.mpr ⟨He.free_ok X G (c.d.fact 34 (f := .free "min") rfl), (fun _ hf => nomatch hf)⟩)⟩)⟩)⟩)⟩))
  have G21 := ok_s2 (g := ⟨P, w, K, mg, base⟩) F21 b21 (BltF.of ["len", "range", "list"] (List.forall_mem_cons.mpr ⟨He.free_ok X G (c.d.fact 1 (f := .free "len") rfl), (List.forall_mem_cons.mpr ⟨He.free_ok X G (c.d.fact 2 (f := .free "range") rfl), (List.forall_mem_cons.mpr ⟨He.free_ok X G (c.d.fact 23 (f := .free "list") rfl), (fun _ hf => nomatch hf)⟩)⟩)⟩))
  have G22 := ok_c2 (g := ⟨P, w, K, mg, base⟩) F22 b22 (BltF.of ["len"] (List.forall_mem_cons.mpr ⟨He.free_ok X G (c.d.fact 1 (f := .free "len") rfl), (fun _ hf => nomatch hf)⟩)) G21 (He.glo_ok X G (c.d.fact 36 (f := .glo "_law_staged") rfl))
  have G23 := ok_pr (g := ⟨P, w, K, mg, base⟩) F23 b23 (BltF.of ["len", "range", "max"] (List.forall_mem_cons.mpr ⟨He.free_ok X G (c.d.fact 1 (f := .free "len") rfl), (List.forall_mem_cons.mpr ⟨He.free_ok X G (c.d.fact 2 (f := .free "range") rfl), (List.forall_mem_cons.mpr ⟨He.free_ok X G (c.d.fact 20 (f := .free "max") rfl), (fun _ hf => nomatch hf)⟩)⟩)⟩)) G18 (He.glo_ok X G (c.d.fact 33 (f := .glo "_law_draw") rfl)) G22 (He.glo_ok X G (c.d.fact 37 (f := .glo "_law_cut") rfl))
  have G24 := fun n => ok_sm (g := ⟨P, w, K, mg, base⟩) F24 b24 (BltF.of ["isinstance", "str", "bool", "int", "tuple", "len", "range"] (List.forall_mem_cons.mpr ⟨He.free_ok X G (c.d.fact 7 (f := .free "isinstance") rfl), (List.forall_mem_cons.mpr ⟨He.free_ok X G (c.d.fact 38 (f := .free "str") rfl), (List.forall_mem_cons.mpr ⟨He.free_ok X G (c.d.fact 5 (f := .free "bool") rfl), (List.forall_mem_cons.mpr ⟨He.free_ok X G (c.d.fact 6 (f := .free "int") rfl), (List.forall_mem_cons.mpr ⟨He.free_ok X G (c.d.fact 0 (f := .free "tuple") rfl), (List.forall_mem_cons.mpr ⟨He.free_ok X G (c.d.fact 1 (f := .free "len") rfl), (List.forall_mem_cons.mpr ⟨He.free_ok X G (c.d.fact 2 (f := .free "range") rfl), (fun _ hf => nomatch hf)⟩)⟩)⟩)⟩)⟩)⟩)⟩)) (He.glo_ok X G (c.d.fact 39 (f := .glo "_law_same") rfl)) n
  have G25 := ok_pi (g := ⟨P, w, K, mg, base⟩) (A := He.ga K "Joins") F25 b25 (BltF.of ["len"] (List.forall_mem_cons.mpr ⟨He.free_ok X G (c.d.fact 1 (f := .free "len") rfl), (fun _ hf => nomatch hf)⟩)) (He.cls_ok (c.d.fact 11 (f := .cls "Joins") rfl)) (List.forall_mem_cons.mpr ⟨He.noat_ok (c.d.fact 17 (f := .noat "Joins" "alphabet") rfl), (List.forall_mem_cons.mpr ⟨He.noat_ok (c.d.fact 16 (f := .noat "Joins" "pairs") rfl), (List.forall_mem_cons.mpr ⟨He.noat_ok (c.d.fact 15 (f := .noat "Joins" "texts") rfl), (List.forall_mem_cons.mpr ⟨He.noat_ok (c.d.fact 14 (f := .noat "Joins" "ranks") rfl), (List.forall_mem_cons.mpr ⟨He.noat_ok (c.d.fact 13 (f := .noat "Joins" "numbers") rfl), (List.forall_mem_cons.mpr ⟨He.noat_ok (c.d.fact 12 (f := .noat "Joins" "longest") rfl), (fun _ hf => nomatch hf)⟩)⟩)⟩)⟩)⟩)⟩)
  have G26 := ok_fo (g := ⟨P, w, K, mg, base⟩) (A := He.ga K "Joins") F26 b26 (BltF.of ["list", "range"] (List.forall_mem_cons.mpr ⟨He.free_ok X G (c.d.fact 23 (f := .free "list") rfl), (List.forall_mem_cons.mpr ⟨He.free_ok X G (c.d.fact 2 (f := .free "range") rfl), (fun _ hf => nomatch hf)⟩)⟩)) (He.cls_ok (c.d.fact 11 (f := .cls "Joins") rfl)) G25 (propB_ok (c.fb_ 0 (f := fun K => propB K "Joins" "pieces") rfl)) G17 (He.glo_ok X G (c.d.fact 40 (f := .glo "side_by_side") rfl))
  have G27 := ok_bc (g := ⟨P, w, K, mg, base⟩) F27 b27 (BltF.of ["range", "sum"] (List.forall_mem_cons.mpr ⟨He.free_ok X G (c.d.fact 2 (f := .free "range") rfl), (List.forall_mem_cons.mpr ⟨He.free_ok X G (c.d.fact 41 (f := .free "sum") rfl), (fun _ hf => nomatch hf)⟩)⟩))
  have G28 := ok_cc (g := ⟨P, w, K, mg, base⟩) (A := He.ga K "Joins") F28 b28 (BltF.of ["sum"] (List.forall_mem_cons.mpr ⟨He.free_ok X G (c.d.fact 41 (f := .free "sum") rfl), (fun _ hf => nomatch hf)⟩)) G26 (He.glo_ok X G (c.d.fact 42 (f := .glo "followers_of") rfl)) G27 (He.glo_ok X G (c.d.fact 43 (f := .glo "behind_counts") rfl))
  have G29 := ok_fw (g := ⟨P, w, K, mg, base⟩) F29 b29 G19 (He.glo_ok X G (c.d.fact 44 (f := .glo "_law_alphabet") rfl))
  have G30 := ok_sd (g := ⟨P, w, K, mg, base⟩) F30 b30 (BltF.of ["range", "len"] (List.forall_mem_cons.mpr ⟨He.free_ok X G (c.d.fact 2 (f := .free "range") rfl), (List.forall_mem_cons.mpr ⟨He.free_ok X G (c.d.fact 1 (f := .free "len") rfl), (fun _ hf => nomatch hf)⟩)⟩)) G22 (He.glo_ok X G (c.d.fact 37 (f := .glo "_law_cut") rfl))
  have G31 := ok_af (g := ⟨P, w, K, mg, base⟩) F31 b31 (BltF.of ["range", "len", "sum"] (List.forall_mem_cons.mpr ⟨He.free_ok X G (c.d.fact 2 (f := .free "range") rfl), (List.forall_mem_cons.mpr ⟨He.free_ok X G (c.d.fact 1 (f := .free "len") rfl), (List.forall_mem_cons.mpr ⟨He.free_ok X G (c.d.fact 41 (f := .free "sum") rfl), (fun _ hf => nomatch hf)⟩)⟩)⟩))
  have G32 := ok_ad (g := ⟨P, w, K, mg, base⟩) F32 b32 (BltF.of ["list", "range", "len", "enumerate"] (List.forall_mem_cons.mpr ⟨He.free_ok X G (c.d.fact 23 (f := .free "list") rfl), (List.forall_mem_cons.mpr ⟨He.free_ok X G (c.d.fact 2 (f := .free "range") rfl), (List.forall_mem_cons.mpr ⟨He.free_ok X G (c.d.fact 1 (f := .free "len") rfl), (List.forall_mem_cons.mpr ⟨He.free_ok X G (c.d.fact 22 (f := .free "enumerate") rfl), (fun _ hf => nomatch hf)⟩)⟩)⟩)⟩))
  have G33 := ok_tb (g := ⟨P, w, K, mg, base⟩) (A := He.ga K "Joins") F33 b33 (BltF.of ["len", "range", "enumerate", "tuple"] (List.forall_mem_cons.mpr ⟨He.free_ok X G (c.d.fact 1 (f := .free "len") rfl), (List.forall_mem_cons.mpr ⟨He.free_ok X G (c.d.fact 2 (f := .free "range") rfl), (List.forall_mem_cons.mpr ⟨He.free_ok X G (c.d.fact 22 (f := .free "enumerate") rfl), (List.forall_mem_cons.mpr ⟨He.free_ok X G (c.d.fact 0 (f := .free "tuple") rfl), (fun _ hf => nomatch hf)⟩)⟩)⟩)⟩)) (He.cls_ok (c.d.fact 11 (f := .cls "Joins") rfl)) G25 (propB_ok (c.fb_ 0 (f := fun K => propB K "Joins" "pieces") rfl)) G26 (He.glo_ok X G (c.d.fact 42 (f := .glo "followers_of") rfl)) G12 (He.meth_ok (c.d.fact 45 (f := .meth "Joins" "text_of") rfl)) G32 (He.glo_ok X G (c.d.fact 46 (f := .glo "added") rfl))
  have G34 := ok_lc2 (g := ⟨P, w, K, mg, base⟩) F34 b34 (BltF.of ["sum"] (List.forall_mem_cons.mpr ⟨He.free_ok X G (c.d.fact 41 (f := .free "sum") rfl), (fun _ hf => nomatch hf)⟩)) G31 (He.glo_ok X G (c.d.fact 47 (f := .glo "_law_after") rfl))
  have G35 := ok_tx2 (g := ⟨P, w, K, mg, base⟩) F35 b35 (BltF.of ["range", "list"] (List.forall_mem_cons.mpr ⟨He.free_ok X G (c.d.fact 2 (f := .free "range") rfl), (List.forall_mem_cons.mpr ⟨He.free_ok X G (c.d.fact 23 (f := .free "list") rfl), (fun _ hf => nomatch hf)⟩)⟩))
  have G36 := ok_bp (g := ⟨P, w, K, mg, base⟩) F36 b36 (BltF.of ["range", "len", "tuple"] (List.forall_mem_cons.mpr ⟨He.free_ok X G (c.d.fact 2 (f := .free "range") rfl), (List.forall_mem_cons.mpr ⟨He.free_ok X G (c.d.fact 1 (f := .free "len") rfl), (List.forall_mem_cons.mpr ⟨He.free_ok X G (c.d.fact 0 (f := .free "tuple") rfl), (fun _ hf => nomatch hf)⟩)⟩)⟩)) G35 (He.glo_ok X G (c.d.fact 48 (f := .glo "_law_texts") rfl)) G22 (He.glo_ok X G (c.d.fact 37 (f := .glo "_law_cut") rfl))
  have G37 := ok_car (g := ⟨P, w, K, mg, base⟩) F37 b37 (BltF.of ["range", "len", "list", "int", "tuple"] (List.forall_mem_cons.mpr ⟨He.free_ok X G (c.d.fact 2 (f := .free "range") rfl), (List.forall_mem_cons.mpr ⟨He.free_ok X G (c.d.fact 1 (f := .free "len") rfl), (List.forall_mem_cons.mpr ⟨He.free_ok X G (c.d.fact 23 (f := .free "list") rfl), (List.forall_mem_cons.mpr ⟨He.free_ok X G (c.d.fact 6 (f := .free "int") rfl), (List.forall_mem_cons.mpr ⟨He.free_ok X G (c.d.fact 0 (f := .free "tuple") rfl), (fun _ hf => nomatch hf)⟩)⟩)⟩)⟩)⟩))
  exact ok_lw (g := ⟨P, w, K, mg, base⟩) (A := He.ga K "Joins") F38 b38 (BltF.of ["list", "range", "len", "int", "bool", "tuple", "isinstance"] (List.forall_mem_cons.mpr ⟨He.free_ok X G (c.d.fact 23 (f := .free "list") rfl), (List.forall_mem_cons.mpr ⟨He.free_ok X G (c.d.fact 2 (f := .free "range") rfl), (List.forall_mem_cons.mpr ⟨He.free_ok X G (c.d.fact 1 (f := .free "len") rfl), (List.forall_mem_cons.mpr ⟨He.free_ok X G (c.d.fact 6 (f := .free "int") rfl), (List.forall_mem_cons.mpr ⟨He.free_ok X G (c.d.fact 5 (f := .free "bool") rfl), (List.forall_mem_cons.mpr ⟨He.free_ok X G (c.d.fact 0 (f := .free "tuple") rfl), (List.forall_mem_cons.mpr ⟨He.free_ok X G (c.d.fact 7 (f := .free "isinstance") rfl), (fun _ hf => nomatch hf)⟩)⟩)⟩)⟩)⟩)⟩)⟩)) G20 (He.glo_ok X G (c.d.fact 49 (f := .glo "_law_pool") rfl)) G29 (He.glo_ok X G (c.d.fact 50 (f := .glo "_law_few_letters") rfl)) G23 (He.glo_ok X G (c.d.fact 51 (f := .glo "_law_pairs") rfl)) G18 (He.glo_ok X G (c.d.fact 33 (f := .glo "_law_draw") rfl)) (G24 1) (He.glo_ok X G (c.d.fact 39 (f := .glo "_law_same") rfl)) G30 (He.glo_ok X G (c.d.fact 52 (f := .glo "_law_sides") rfl)) G28 (He.glo_ok X G (c.d.fact 53 (f := .glo "count_cuts") rfl)) G34 (He.glo_ok X G (c.d.fact 54 (f := .glo "_law_counted") rfl)) G33 (He.glo_ok X G (c.d.fact 55 (f := .glo "texts_by_pieces") rfl)) G36 (He.glo_ok X G (c.d.fact 56 (f := .glo "_law_by_pieces") rfl)) G37 (He.glo_ok X G (c.d.fact 57 (f := .glo "_law_carried") rfl)) G9 (He.mkr_ok (c.d.fact 58 (f := .mkr "Joins") rfl)) (He.glo_ok X G (c.d.fact 59 (f := .glo "Joins") rfl))
end DL
open PySem PySem.W PySem.Calls PyProof.Rows
theorem PySem.Challenge.cw_rankedjoins_k35_cuts_and_texts_counted_holds : PySem.Challenge.rw_rankedjoins_k35_cuts_and_texts_counted.Holds := by
  w_on; o_law
  refine HandSHeadRun.head_any (r := OpenLaw.row PySem.Challenge.rw_rankedjoins_k35_cuts_and_texts_counted) (q := view (OpenLaw.row PySem.Challenge.rw_rankedjoins_k35_cuts_and_texts_counted).prog [43]) (H := DL.hk) (ob := DL.ob) (M := 8000) (loose := DL.loose) (d := HandSHeadRun.topDef (OpenLaw.row PySem.Challenge.rw_rankedjoins_k35_cuts_and_texts_counted).prog 43) (kwd := []) DL.ob_eq
    (by kernel_rfl) (fun s => by kernel_rfl) DL.run (by kernel_rfl) (by kernel_rfl) (by kernel_rfl) (by rfl) (by first | assumption | decide +kernel) (by decide +kernel) ⟨rfl, rfl, rfl, rfl, rfl, by decide +kernel⟩ ?hw ?hc
  case hw => w_witness2
  case hc =>
    refine L2.walk_ofE (l := PySem.Challenge.rw_rankedjoins_k35_cuts_and_texts_counted) (n := 63) (k := 12) (x := "_law_script") (CX := DL.CXall (PySem.Challenge.rw_rankedjoins_k35_cuts_and_texts_counted).prog) rfl (by decide) (by kernel_rfl) ⟨rfl, by decide, by decide⟩ ?F (fun _ _ _ _ z => DL.noX z)
    intro w mg fa h Y G hmg0
    obtain ⟨K, KX, c⟩ := Y
    have hmg : mg ("law" : PySem.Str) = some (.ref fa) := by
      have e : (HandSHeadRun.topDef (OpenLaw.row PySem.Challenge.rw_rankedjoins_k35_cuts_and_texts_counted).prog 43).name = ("law" : PySem.Str) := by kernel_rfl
      rw [← e]
      exact hmg0
    obtain ⟨fd, hb, hF⟩ := DL.facts (P := (PySem.Challenge.rw_rankedjoins_k35_cuts_and_texts_counted).prog) (w := w) KX G hmg c
    exact ⟨K, fd, DL.spD K DL.spLW, KX, hb, fun H a ns hl _ hS => DL.lawSp (fun zs hz Φ ξ hΦ => DL.lwOk hz hΦ) hl hS, fun base h1 h2 => DL.fnAll (hF base h1 h2)⟩
