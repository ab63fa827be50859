import PyProof.Rows.All
import Wide.All
import OpenK.AllK
import Wide.FinOn
import HandS.Head0
import HandS.Head1
import HandS.Head2
import HandS.HeadEnd
import HandS.HeadHook1
import HandS.HeadHook2
import HandS.Property
import KE.KStateDown
import HandS.ForMost
import HandS.ForExc
import HandS.HotCalls
import HandS.Flow
import HandS.Wide
import HandS.Defaults
import HandS.Deep
import HandS.Walk
import HandS.Rev
import HandS.RevRange
import HandS.Conv
import HandS.IsInst
import HandS.TupAny
import HandS.Comp
import HandS.Text
import HandS.Replace
import HandS.Dict
import PyProof.ListStr
import KE.GoesEnum
import KE.GoesMore
import PyProof.EnumMake
import HandS.DictComp
import HandS.RevTup
import HandS.Small
import PyProof.Rows.SeqMore
import PyProof.AutoSeq1
import HandS.List
import HandS.TupLe
import HandS.ExcInit
import HandS.ExcField
import HandS.ExcIs
import KE.KExcIs
import PyProof.Rows.SortShellAny
import KE.DataMinMax
import KE.LtData
import HandS.WideBits
import HandS.FStr
import PySem.Challenge.RW_rankedjoins_k44_shares
set_option Elab.async false
set_option linter.all false
set_option maxRecDepth 100000
set_option maxHeartbeats 4000000
namespace DL
open PySem PySem.Spec PyProof.Rows
open L2 hiding Takes passAt takes_of ps_raise PMk ps_try_as
open L2N (Takes passAt takes_of ps_raise PMk ps_try_as)
/-! ### the head's hook, with properties and more facts -/
def pAd (K : PySem.W.Frag) (x m : Str) : Addr := match PySem.W.recIn K (He.ma K (He.ga K x) m) "property" with
  | some (.ref g :: _) => g
  | _ => 0
def propB (K : PySem.W.Frag) (x m : Str) : Bool := decide (PySem.W.findIn K (.ref (He.ga K x)) m = some (some (.ref (He.ma K (He.ga K x) m)))) && (decide (PySem.W.specialIn K (.ref (He.ma K (He.ga K x) m)) "__get__" = some (some (.builtin "property.__get__"))) &&
  (decide (PySem.W.takesIn K (.ref (He.ma K (He.ga K x) m)) = some true) && (match PySem.W.recIn K (He.ma K (He.ga K x) m) "property" with
    | some (.ref _ :: _) => true
    | _ => false)))
def fnP (K : PySem.W.Frag) (x m : Str) : He.FnW := match K.lookup (pAd K x m) with
  | some ⟨_, _, .func fd, _⟩ => some (fd.name, fd.qualname, fd.params, fd.body, fd.scope, fd.globals, fd.closure, fd.builtins)
  | _ => none
structure PrD where
  x : Str
  m : Str
  qual : Str
  params : Arguments
  body : List Stmt
  scope : Scope
def PrD.val (d : PrD) : He.FnW := some (d.m, d.qual, d.params, .stmts d.body, d.scope, mainGlobals, [], builtinsNs)
def PrD.ok (K : PySem.W.Frag) (d : PrD) : Bool := PySem.W.keepIn K (.ref (pAd K d.x d.m)) && (match K.lookup (pAd K d.x d.m) with
  | some ⟨_, _, .func fd, _⟩ => PySem.W.codeIn K fd.code d.qual && (He.dflB K fd.defaults [] && He.kwdB K fd.kwdefaults [])
  | _ => false)
abbrev AlM : Type := He.AlD × List He.FnW × Bool
def obsM (fa : List He.Fa) (fn : List He.DefD) (pr : List PrD) (fb : List (PySem.W.Frag → Bool)) (K : PySem.W.Frag) : AlM := (He.obsD fa fn K, pr.map fun d => fnP K d.x d.m, (pr.all fun d => d.ok K) && fb.all fun f => f K)
def valM (fn : List He.DefD) (pr : List PrD) : AlM := (He.valD fn, pr.map PrD.val, true)
structure SaysM (fa : List He.Fa) (fn : List He.DefD) (pr : List PrD) (fb : List (PySem.W.Frag → Bool)) (K : PySem.W.Frag) : Prop where
  d : He.SaysD fa fn K
  p : pr.map (fun d => fnP K d.x d.m) = pr.map PrD.val
  o : (pr.all fun d => d.ok K) = true
  b : (fb.all fun f => f K) = true
def obsMG (n : Nat) (fa : List He.Fa) (fn : List He.DefD) (pr : List PrD) (fb : List (PySem.W.Frag → Bool)) (g : Addr → Option Obj) : AlM := obsM fa fn pr fb (He.frG g (He.asD g n))
def hookM (n : Nat) (fa : List He.Fa) (fn : List He.DefD) (pr : List PrD) (fb : List (PySem.W.Frag → Bool)) : PySem.W.Hook where
  α := AlM
  obs := fun s => obsMG n fa fn pr fb s.heap.get?
  val := fun _ => valM fn pr
  says := fun _ h => ∃ K : PySem.W.Frag, K.In h ∧ SaysM fa fn pr fb K
  of := fun _ s e => ⟨_, He.frG_in, by
    have e : obsM fa fn pr fb (He.frG s.heap.get? (He.asD s.heap.get? n)) = valM fn pr := e
    have e3 := congrArg (fun z : AlM => z.2.2) e
    obtain ⟨g1, g2⟩ := Bool.and_eq_true_iff.mp (show (_ && _) = true from e3)
    exact ⟨congrArg (fun z : AlM => z.1) e, congrArg (fun z : AlM => z.2.1) e, g1, g2⟩⟩
  keeps := fun _ _ _ ⟨K, hK, c⟩ k => ⟨K, PySem.W.Frag.In.keeps hK k, c⟩
theorem obsMG_eq {n : Nat} {fa : List He.Fa} {fn : List He.DefD} {pr : List PrD} {fb : List (PySem.W.Frag → Bool)} {g : Addr → Option Obj} {s : Shared} (h : ∀ a, g a = s.heap.get? a) : obsMG n fa fn pr fb g = (hookM n fa fn pr fb).obs s := by
  rw [show g = s.heap.get? from funext h] <;> rfl
theorem SaysM.fb_ {fa : List He.Fa} {fn : List He.DefD} {pr : List PrD} {fb : List (PySem.W.Frag → Bool)} {K : PySem.W.Frag} (c : SaysM fa fn pr fb K) (i : Nat) {f : PySem.W.Frag → Bool} (h : fb[i]? = some f) : f K = true := List.all_eq_true.mp c.b f (List.mem_of_getElem? h)
def shapeB (K : PySem.W.Frag) (A : Addr) : Bool := match K.lookup A with
  | some ⟨.type "type", _, .cls cd, sl⟩ => (match cd.mro, sl.toList with
    | .ref B :: bm, [_, _, _, _, some (.builtin n), _] => decide (B = A) && (decide (n = "ValueError.__new__") && (!cd.hasDel && (cd.hasDict && PySem.HandSPX.refsVE bm)))
    | _, _ => false)
  | _ => false
def erB (K : PySem.W.Frag) (A : Addr) (fs : List Str) : Bool := shapeB K A && (xfB K A && (decide (PySem.W.findIn K (.ref A) "__setattr__" = some (some (.builtin "object.__setattr__"))) && (decide (PySem.W.typeIn K (.ref A) = some (.type "type")) && (PySem.W.keepIn K (.ref A) &&
  ((PySem.W.clsIn K A).isSome && (decide (PySem.W.findIn K (.ref A) "__class__" = some (some (.builtin "object.__class__"))) && (decide (PySem.W.specialIn K (.builtin "object.__class__") "__get__" = some (some (.builtin "getset_descriptor.__get__"))) &&
  (decide (PySem.W.takesIn K (.builtin "object.__class__") = some true) && (decide (PySem.W.mroIn K A (.type "object") = some true) && (fs.all (fun f => decide (PySem.W.findIn K (.ref A) f = some none)) &&
  (decide (PySem.W.findIn K (.ref A) "__init__" = some (some (.ref (He.ma K A "__init__")))) && decide (PySem.W.typeIn K (.ref (He.ma K A "__init__")) = some (.type "function")))))))))))))
def ownB (K : PySem.W.Frag) (A : Addr) : Bool := (decide (PySem.W.findIn K (.ref A) "__class__" = some (some (.builtin "object.__class__"))) && (decide (PySem.W.specialIn K (.builtin "object.__class__") "__get__" = some (some (.builtin "getset_descriptor.__get__"))) &&
  (decide (PySem.W.takesIn K (.builtin "object.__class__") = some true) && (decide (PySem.W.mroIn K A (.type "object") = some true) && (PySem.W.selfFirst K A && (decide (PySem.W.kitOne K (.type "NoneType") (.ref A) = some false) && (decide (PySem.W.kitOne K (.type "int") (.ref A) = some false) &&
  (decide (PySem.W.kitOne K (.type "str") (.ref A) = some false) && decide (PySem.W.kitOne K (.type "tuple") (.ref A) = some false)))))))))
end DL
set_option Elab.async false
set_option linter.all false
set_option maxRecDepth 100000
set_option maxHeartbeats 4000000
namespace DL
open PySem PySem.Spec PyProof.Rows
open L2 hiding Takes passAt takes_of ps_raise PMk ps_try_as
open L2N (Takes passAt takes_of ps_raise PMk ps_try_as)
def top (i : Nat) : Stmt := PySem.Challenge.pw_rankedjoins_k44_shares.main.body.getD i (.Pass ⟨0, 0, 0, 0⟩)
end DL
set_option Elab.async false
set_option linter.all false
set_option maxRecDepth 100000
set_option maxHeartbeats 0
namespace DL
open PySem PySem.Spec PyProof.Rows
open L2 hiding Takes passAt takes_of ps_raise PMk ps_try_as
open L2N (Takes passAt takes_of ps_raise PMk ps_try_as)
def gD (x : Str) (s : Stmt) : He.DefD := ⟨(x, none), x, x, defArgs s, defBody s, defScope s, [], []⟩
def mD (c x q : Str) (s : Stmt) : He.DefD := ⟨(c, some x), x, q, defArgs s, defBody s, defScope s, [], []⟩
def fn : List He.DefD := (List.append ([mD "InvalidNumber" "__init__" "InvalidNumber.__init__" (inClass (top 2) 0),
  gD "common_divisor" (top 5),
  mD "Share" "__init__" "Share.__init__" (inClass (top 6) 0),
  gD "_law_mixed" (top 8),
  gD "_law_tape" (top 9),
  gD "_law_draw" (top 10),
  gD "_law_pick" (top 11),
  mD "Share" "__add__" "Share.__add__" (inClass (top 6) 1),
  mD "Share" "__sub__" "Share.__sub__" (inClass (top 6) 2),
  mD "Share" "__mul__" "Share.__mul__" (inClass (top 6) 3),
  mD "Share" "__eq__" "Share.__eq__" (inClass (top 6) 4),
  mD "Share" "is_below" "Share.is_below" (inClass (top 6) 5),
  mD "Share" "written" "Share.written" (inClass (top 6) 6),
  gD "_law_share" (top 12),
  gD "_law_added" (top 13),
  gD "_law_times" (top 14),
  gD "_law_is_share" (top 15),
  gD "_law_written" (top 18),
  gD "_law_one_right" (top 20),
  gD "_law_two_right" (top 21)] : List He.DefD) ([gD "_law_integer" (top 16),
  gD "_law_pair" (top 17),
  gD "_law_refused" (top 19),
  gD "law" (top 22)] : List He.DefD))
abbrev fnL (i : Nat) : He.DefD := fn.getD i (gD "" (top 0))
def fa : List He.Fa := (List.append ([.free "abs", .cls "Share", .noat "Share" "under", .noat "Share" "over", .glo "common_divisor", .glo "InvalidNumber", .free "int", .free "list", .free "len", .glo "_law_mixed", .glo "_law_draw", .mkr "Share", .glo "Share", .free "isinstance", .free "str", .free "range", .glo "_law_share", .free "bool", .meth "Share" "written", .glo "_law_is_share"] : List He.Fa) ([.glo "_law_written", .glo "_law_one_right", .glo "_law_added", .glo "_law_times", .meth "Share" "__add__", .meth "Share" "__sub__", .meth "Share" "__mul__", .meth "Share" "__eq__", .meth "Share" "is_below", .glo "_law_pick", .glo "_law_integer", .free "ValueError", .glo "JoinError", .glo "NotCut", .glo "_law_tape", .glo "_law_pair", .glo "_law_two_right", .glo "_law_refused", .glo "law"] : List He.Fa))
abbrev Rw : PySem.W.OpenRow := PySem.W.OpenLaw.row PySem.Challenge.rw_rankedjoins_k44_shares
def pr : List PrD := []
abbrev prL (i : Nat) : PrD := pr.getD i ⟨"", "", "", defArgs (top 0), defBody (top 0), defScope (top 0)⟩
def fb : List (PySem.W.Frag → Bool) := [fun K => erB K (He.ga K "InvalidNumber") ["number"], fun K => ownB K (He.ga K "Share"), fun K => decide (PySem.W.exmOne K (.ref (He.ga K "InvalidNumber")) (.ref (He.ga K "JoinError")) = some true), fun K => decide (PySem.W.kitOne K (.ref (He.ga K "InvalidNumber")) (.ref (He.ga K "InvalidNumber")) = some true), fun K => decide (PySem.W.kitOne K (.ref (He.ga K "InvalidNumber")) (.type "ValueError") = some true), fun K => decide (PySem.W.kitOne K (.ref (He.ga K "InvalidNumber")) (.ref (He.ga K "NotCut")) = some false)]
abbrev hk : PySem.W.Hook := hookM 6 fa fn pr fb
def ob (s : PySem.W.SharedT) : AlM := obsMG 6 fa fn pr fb (HandSHeadRun.getT s)
theorem ob_eq (s : PySem.W.SharedT) : ob s = hk.obs s.abs := obsMG_eq (HandSHeadRun.getT_eq s)
def loose : List Str := (["JoinError", "InvalidNumber", "NotCut", "common_divisor", "Share", "_law_mixed", "_law_tape", "_law_draw", "_law_pick", "_law_share", "_law_added", "_law_times", "_law_is_share", "_law_integer", "_law_pair", "_law_written", "_law_refused", "_law_one_right", "_law_two_right"] : List Str)
theorem run (w : World) : HandSHeadRun.RunEq Rw (PySem.W.view Rw.prog [22]) hk ob 8000 loose w := by
  intro os
  kernel_rfl

end DL
set_option Elab.async false
set_option linter.all false
set_option maxRecDepth 100000
set_option maxHeartbeats 4000000
namespace DL
open PySem PySem.Spec PyProof.Rows
open L2 hiding Takes passAt takes_of ps_raise PMk ps_try_as
open L2N (Takes passAt takes_of ps_raise PMk ps_try_as)

/-! ### data as trees -/
inductive D where
  | non | bl (b : Bool) | int (i : Int) | str (s : Str) | opq (v : V)
  | tup (ds : List D) | lst (ds : List D) | dct (ks : List Key) (ds : List D) | dcT (ks : List (List Key)) (ds : List D) | exc (a d C : Addr) (fs : List Str) (ds : List D) | ins (C : Addr) (fs : List Str) (ds : List D)

/-- v stands for d, by what G tells -/
def Is (K : PySem.W.Frag) (G : Hp) : D → V → Prop
  | .non, v => v = .non
  | .bl b, v => v = .bl b
  | .int i, v => v = .int i
  | .str s, v => v = .str s
  | .opq u, v => v = u
  | .tup ds, v => ∃ p vs, v = .ref p ∧ G p = some (.tup vs) ∧ IsL K G ds vs
  | .lst ds, v => ∃ p vs, v = .ref p ∧ SqL K G p vs ∧ IsL K G ds vs
  | .dct ks ds, v => ∃ p vs, v = .ref p ∧ G p = some (.dK (ks.zip vs)) ∧ ks.length = vs.length ∧ IsL K G ds vs
  | .dcT ks ds, v => ∃ p vs, v = .ref p ∧ Rd G p (.dT (ks.zip vs)) ∧ ks.length = vs.length ∧ IsL K G ds vs
  | .exc a d _ fs ds, v => v = .ref a ∧ ∃ vs, G d = some (.xd (fs.zip vs)) ∧ fs.length = vs.length ∧ IsL K G ds vs
  | .ins C fs ds, v => ∃ p dx vs, v = .ref p ∧ G p = some (.ins C dx (fs.zip vs)) ∧ fs.length = vs.length ∧ IsL K G ds vs
where IsL (K : PySem.W.Frag) (G : Hp) : List D → List V → Prop
  | [], vs => vs = []
  | d :: ds, vs => ∃ v r, vs = v :: r ∧ Is K G d v ∧ IsL K G ds r
abbrev IsL := @Is.IsL

def Ex (G G' : Hp) : Prop := ∀ a o, G a = some o → G' a = some o
theorem Ex.refl (G : Hp) : Ex G G := fun _ _ h => h
theorem Ex.trans {G G1 G2 : Hp} (a : Ex G G1) (b : Ex G1 G2) : Ex G G2 := fun c o h => b c o (a c o h)
theorem Ex.none {G G' : Hp} (e : Ex G G') {a : Addr} (h : G' a = Option.none) : G a = Option.none := by
  cases q : G a with
  | none => rfl
  | some o => rw [e a o q] at h; cases h
theorem Ex.upd {G : Hp} {p : Addr} {o : HO} (h : G p = Option.none) : Ex G (upd G p o) := fun a u e => by
  rw [upd_ne (ne_of_none e h)]; exact e
theorem Ex.rd {G G' : Hp} {a : Addr} {u : HO} (e : Ex G G') (h : Rd G a u) : Rd G' a u := h.imp (e _ _) fun ⟨o, h⟩ => ⟨o, e _ _ h⟩
theorem Ex.l {K : PySem.W.Frag} {G G' : Hp} {a : Addr} {xs : List V} (e : Ex G G') (h : SqL K G a xs) : SqL K G' a xs := by
  rcases h with (h | ⟨o, h⟩) | h
  · exact .inl (.inl (e _ _ h))
  · exact .inl (.inr ⟨o, e _ _ h⟩)
  · exact .inr h
theorem Ex.t {K : PySem.W.Frag} {G G' : Hp} {a : Addr} {xs : List V} (e : Ex G G') (h : SqT K G a xs) : SqT K G' a xs := by
  rcases h with (h | ⟨o, h⟩) | h
  · exact .inl (.inl (e _ _ h))
  · exact .inl (.inr ⟨o, e _ _ h⟩)
  · exact .inr h

section
variable {K : PySem.W.Frag} {G G' : Hp}
mutual
theorem Is.mono (e : Ex G G') : ∀ (d : D) (v : V), Is K G d v → Is K G' d v
  | .non, _, h => h
  | .bl _, _, h => h
  | .int _, _, h => h
  | .str _, _, h => h
  | .opq _, _, h => h
  | .tup ds, _, ⟨p, vs, h1, h2, h3⟩ => ⟨p, vs, h1, e _ _ h2, IsL.mono e ds vs h3⟩
  | .lst ds, _, ⟨p, vs, h1, h2, h3⟩ => ⟨p, vs, h1, e.l h2, IsL.mono e ds vs h3⟩
  | .dct ks ds, _, ⟨p, vs, h1, h2, h4, h3⟩ => ⟨p, vs, h1, e _ _ h2, h4, IsL.mono e ds vs h3⟩
  | .dcT ks ds, _, ⟨p, vs, h1, h2, h4, h3⟩ => ⟨p, vs, h1, e.rd h2, h4, IsL.mono e ds vs h3⟩
  | .exc a d C fs ds, _, ⟨h1, vs, h2, h4, h3⟩ => ⟨h1, vs, e _ _ h2, h4, IsL.mono e ds vs h3⟩
  | .ins C fs ds, _, ⟨p, dx, vs, h1, h2, h4, h3⟩ => ⟨p, dx, vs, h1, e _ _ h2, h4, IsL.mono e ds vs h3⟩
theorem IsL.mono (e : Ex G G') : ∀ (ds : List D) (vs : List V), IsL K G ds vs → IsL K G' ds vs
  | [], _, h => h
  | d :: ds, _, ⟨v, r, h1, h2, h3⟩ => ⟨v, r, h1, Is.mono e d v h2, IsL.mono e ds r h3⟩
end
theorem IsL.nil : IsL K G [] [] := rfl
theorem IsL.cons {d : D} {v : V} {ds : List D} {vs : List V} (h : Is K G d v) (t : IsL K G ds vs) : IsL K G (d :: ds) (v :: vs) := ⟨v, vs, rfl, h, t⟩
theorem IsL.length : ∀ {ds : List D} {vs : List V}, IsL K G ds vs → ds.length = vs.length
  | [], _, h => by have h : _ = _ := h; subst h; rfl
  | _ :: _, _, ⟨_, _, rfl, _, h⟩ => by simp [IsL.length h]
theorem IsL.get : ∀ {ds : List D} {vs : List V} {i : Nat} {d : D}, IsL K G ds vs → ds[i]? = some d → ∃ v, vs[i]? = some v ∧ Is K G d v
  | [], _, _, _, _, e => by simp at e
  | d :: ds, _, 0, _, ⟨v, r, rfl, h1, _⟩, e => by simp at e; subst e; exact ⟨v, rfl, h1⟩
  | d :: ds, _, i + 1, _, ⟨v, r, rfl, _, h2⟩, e => by
    obtain ⟨w, h3, h4⟩ := IsL.get (i := i) h2 (by simpa using e)
    exact ⟨w, by simpa using h3, h4⟩
theorem IsL.append : ∀ {ds es : List D} {vs ws : List V}, IsL K G ds vs → IsL K G es ws → IsL K G (ds ++ es) (vs ++ ws)
  | [], _, _, _, h, h' => by have h : _ = _ := h; subst h; exact h'
  | _ :: _, _, _, _, ⟨v, r, rfl, h1, h2⟩, h' => ⟨v, _, rfl, h1, IsL.append h2 h'⟩
theorem IsL.take : ∀ (n : Nat) {ds : List D} {vs : List V}, IsL K G ds vs → IsL K G (ds.take n) (vs.take n)
  | 0, _, _, _ => by simp [IsL.nil]
  | n + 1, [], _, h => by have h : _ = _ := h; subst h; simp [IsL.nil]
  | n + 1, d :: ds, _, ⟨v, r, rfl, h1, h2⟩ => by
    simp only [List.take_succ_cons]
    exact .cons h1 (IsL.take n h2)
theorem IsL.drop : ∀ (n : Nat) {ds : List D} {vs : List V}, IsL K G ds vs → IsL K G (ds.drop n) (vs.drop n)
  | 0, _, _, h => by simpa using h
  | n + 1, [], _, h => by have h : _ = _ := h; subst h; simp [IsL.nil]
  | n + 1, d :: ds, _, ⟨v, r, rfl, h1, h2⟩ => by
    simp only [List.drop_succ_cons]
    exact IsL.drop n h2
theorem IsL.reverse : ∀ {ds : List D} {vs : List V}, IsL K G ds vs → IsL K G ds.reverse vs.reverse
  | [], _, h => by have h : _ = _ := h; subst h; exact IsL.nil
  | d :: ds, _, ⟨v, r, rfl, h1, h2⟩ => by
    rw [List.reverse_cons, List.reverse_cons]
    exact IsL.append (IsL.reverse h2) (.cons h1 .nil)
theorem IsL.ints : ∀ (ns : List Int), IsL K G (ns.map .int) (ns.map V.int)
  | [] => rfl
  | n :: ns => .cons rfl (IsL.ints ns)
end

/-! ### what a name, an expression holds: data, the k-th mutable object, a list that is only read here -/
inductive R where
  | val (d : D) | loc (k : Nat) | bor (ds : List D)
structure Wd where
  G : Hp
  as : List Addr
def IsR (K : PySem.W.Frag) (B : Hp) (w : Wd) : R → V → Prop
  | .val d, v => Is K w.G d v
  | .loc k, v => ∃ a, w.as[k]? = some a ∧ v = .ref a
  | .bor ds, v => ∃ p vs, v = .ref p ∧ (SqL K w.G p vs ∨ B p = some (.lst vs)) ∧ IsL K w.G ds vs
def IsRs (K : PySem.W.Frag) (B : Hp) (w : Wd) : List R → List V → Prop
  | [], vs => vs = []
  | d :: ds, vs => ∃ v r, vs = v :: r ∧ IsR K B w d v ∧ IsRs K B w ds r
structure Le (w w' : Wd) : Prop where
  g : Ex w.G w'.G
  a : ∃ t, w'.as = w.as ++ t
theorem Le.refl (w : Wd) : Le w w := ⟨Ex.refl _, [], by simp⟩
theorem Le.trans {w w1 w2 : Wd} (a : Le w w1) (b : Le w1 w2) : Le w w2 := by
  obtain ⟨g, t, e⟩ := a
  obtain ⟨g', t', e'⟩ := b
  exact ⟨g.trans g', t ++ t', by rw [e', e, List.append_assoc]⟩
/-- .. the first n objects are the same ones -/
structure LeN (n : Nat) (w w' : Wd) : Prop where
  g : Ex w.G w'.G
  a : ∀ (k : Nat) (a : Addr), k < n → w.as[k]? = some a → w'.as[k]? = some a
theorem LeN.refl (n : Nat) (w : Wd) : LeN n w w := ⟨Ex.refl _, fun _ _ _ h => h⟩
theorem LeN.trans {n : Nat} {w w1 w2 : Wd} (a : LeN n w w1) (b : LeN n w1 w2) : LeN n w w2 := ⟨a.g.trans b.g, fun k x h e => b.a k x h (a.a k x h e)⟩
theorem LeN.less {n m : Nat} {w w1 : Wd} (a : LeN n w w1) (h : m ≤ n) : LeN m w w1 := ⟨a.g, fun k x hk e => a.a k x (Nat.lt_of_lt_of_le hk h) e⟩
theorem Le.at_ {w w' : Wd} (l : Le w w') {k : Nat} {a : Addr} (h : w.as[k]? = some a) : w'.as[k]? = some a := by
  obtain ⟨_, t, e⟩ := l
  rw [e, List.getElem?_append_left (List.getElem?_eq_some_iff.mp h).1]
  exact h
theorem Le.n {w w' : Wd} (l : Le w w') (n : Nat) : LeN n w w' := ⟨l.g, fun _ _ _ h => l.at_ h⟩
theorem LeN.le {n : Nat} {w w' : Wd} (l : LeN n w w') (h : w.as.length ≤ n) : Le w w' := by
  refine ⟨l.g, w'.as.drop w.as.length, ?_⟩
  have e : w'.as.take w.as.length = w.as := by
    refine List.ext_getElem? fun k => ?_
    by_cases hk : k < w.as.length
    · rw [List.getElem?_take_of_lt hk, List.getElem?_eq_getElem hk]
      exact l.a k _ (Nat.lt_of_lt_of_le hk h) (List.getElem?_eq_getElem hk)
    · rw [List.getElem?_eq_none (by simp; omega), List.getElem?_eq_none (by omega)]
  rw [← e, List.length_take]
  have : w.as.length ≤ w'.as.length := by rw [← e]; simp; omega
  rw [Nat.min_eq_left this]
  exact (List.take_append_drop _ _).symm
section
variable {K : PySem.W.Frag} {B : Hp} {w w' : Wd}
theorem IsR.mono (l : Le w w') : ∀ {r : R} {v : V}, IsR K B w r v → IsR K B w' r v
  | .val d, v, h => Is.mono l.g d v h
  | .loc k, v, ⟨a, h, e⟩ => ⟨a, l.at_ h, e⟩
  | .bor ds, v, ⟨p, vs, e, h, t⟩ => ⟨p, vs, e, h.imp (fun h => l.g.l h) id, IsL.mono l.g _ _ t⟩
theorem IsRs.mono (l : Le w w') : ∀ {rs : List R} {vs : List V}, IsRs K B w rs vs → IsRs K B w' rs vs
  | [], _, h => h
  | _ :: _, _, ⟨v, r, e, h, t⟩ => ⟨v, r, e, h.mono l, IsRs.mono l t⟩
theorem IsRs.nil : IsRs K B w [] [] := rfl
theorem IsRs.cons {d : R} {v : V} {ds : List R} {vs : List V} (h : IsR K B w d v) (t : IsRs K B w ds vs) : IsRs K B w (d :: ds) (v :: vs) := ⟨v, vs, rfl, h, t⟩
theorem IsRs.length : ∀ {ds : List R} {vs : List V}, IsRs K B w ds vs → ds.length = vs.length
  | [], _, h => by have h : _ = _ := h; subst h; rfl
  | _ :: _, _, ⟨_, _, rfl, _, h⟩ => by simp [IsRs.length h]
theorem IsRs.get : ∀ {ds : List R} {vs : List V} {i : Nat} {d : R}, IsRs K B w ds vs → ds[i]? = some d → ∃ v, vs[i]? = some v ∧ IsR K B w d v
  | [], _, _, _, _, e => by simp at e
  | d :: ds, _, 0, _, ⟨v, r, rfl, h1, _⟩, e => by simp at e; subst e; exact ⟨v, rfl, h1⟩
  | d :: ds, _, i + 1, _, ⟨v, r, rfl, _, h2⟩, e => by
    obtain ⟨w, h3, h4⟩ := IsRs.get (i := i) h2 (by simpa using e)
    exact ⟨w, by simpa using h3, h4⟩
theorem IsRs.append : ∀ {ds es : List R} {vs ws : List V}, IsRs K B w ds vs → IsRs K B w es ws → IsRs K B w (ds ++ es) (vs ++ ws)
  | [], _, _, _, h, h' => by have h : _ = _ := h; subst h; exact h'
  | _ :: _, _, _, _, ⟨v, r, rfl, h1, h2⟩, h' => ⟨v, _, rfl, h1, IsRs.append h2 h'⟩
theorem IsRs.set : ∀ {ds : List R} {vs : List V} (i : Nat) {d : R} {v : V}, IsRs K B w ds vs → IsR K B w d v → IsRs K B w (ds.set i d) (vs.set i v)
  | [], _, _, _, _, h, _ => by have h : _ = _ := h; subst h; exact IsRs.nil
  | _ :: _, _, 0, _, _, ⟨v, r, rfl, h1, h2⟩, h => .cons h h2
  | _ :: _, _, i + 1, _, _, ⟨v, r, rfl, h1, h2⟩, h => .cons h1 (IsRs.set i h2 h)
theorem IsRs.take : ∀ (n : Nat) {ds : List R} {vs : List V}, IsRs K B w ds vs → IsRs K B w (ds.take n) (vs.take n)
  | 0, _, _, _ => by simp [IsRs.nil]
  | n + 1, [], _, h => by have h : _ = _ := h; subst h; simp [IsRs.nil]
  | n + 1, d :: ds, _, ⟨v, r, e, h1, h2⟩ => by
    subst e
    simp only [List.take_succ_cons]
    exact .cons h1 (IsRs.take n h2)
theorem IsRs.drop : ∀ (n : Nat) {ds : List R} {vs : List V}, IsRs K B w ds vs → IsRs K B w (ds.drop n) (vs.drop n)
  | 0, _, _, h => by simpa using h
  | n + 1, [], _, h => by have h : _ = _ := h; subst h; simp [IsRs.nil]
  | n + 1, d :: ds, _, ⟨v, r, e, h1, h2⟩ => by
    subst e
    simp only [List.drop_succ_cons]
    exact IsRs.drop n h2
theorem IsRs.dropLast {ds : List R} {vs : List V} (h : IsRs K B w ds vs) : IsRs K B w ds.dropLast vs.dropLast := by
  rw [List.dropLast_eq_take, List.dropLast_eq_take, h.length]
  exact h.take _
theorem IsRs.vals : ∀ {ds : List D} {vs : List V}, IsRs K B w (ds.map .val) vs ↔ IsL K w.G ds vs
  | [], vs => Iff.rfl
  | d :: ds, vs => by
    constructor
    · rintro ⟨v, r, e, h, t⟩
      exact ⟨v, r, e, h, IsRs.vals.mp t⟩
    · rintro ⟨v, r, e, h, t⟩
      exact ⟨v, r, e, h, IsRs.vals.mpr t⟩
end

/-! ### the store: the mutable objects by number -/
inductive Node where
  | lst (rs : List R) | dK (ks : List Key) (rs : List R) | dT (ks : List (List Key)) (rs : List R) | ins (C : Addr) (fs : List Str) (rs : List R) | lkT (o : Obj) (ks : List (List Key)) (rs : List R) | dead
def Node.live : Node → Bool
  | .dead => false
  | _ => true
abbrev Sto := List Node
abbrev Nv := List (Option R)
def NodeAt (K : PySem.W.Frag) (B : Hp) (w : Wd) (H : Hp) (a : Addr) : Node → Prop
  | .lst rs => ∃ vs, H a = some (.lst vs) ∧ IsRs K B w rs vs
  | .dK ks rs => ∃ vs, H a = some (.dK (ks.zip vs)) ∧ ks.length = vs.length ∧ IsRs K B w rs vs
  | .dT ks rs => ∃ vs, H a = some (.dT (ks.zip vs)) ∧ ks.length = vs.length ∧ IsRs K B w rs vs
  | .ins C fs rs => ∃ dx vs, H a = some (.ins C dx (fs.zip vs)) ∧ fs.length = vs.length ∧ IsRs K B w rs vs
  | .lkT o ks rs => ∃ vs, H a = some (.frz o (.dT (ks.zip vs))) ∧ ks.length = vs.length ∧ IsRs K B w rs vs
  | .dead => False
/-- the entry: the heap there, what was known, the objects that may be changed -/
structure Base where
  H0 : Hp
  G0 : Hp
  as0 : List Addr
/-- what stays as it was at the entry -/
def Base.B (b : Base) : Hp := fun p => if p ∈ b.as0 then none else b.H0 p
theorem Base.B_some {b : Base} {p : Addr} {o : HO} (h : b.B p = some o) : p ∉ b.as0 ∧ b.H0 p = some o := by
  unfold Base.B at h
  split at h
  · cases h
  · exact ⟨by assumption, h⟩
theorem Base.B_of {b : Base} {p : Addr} {o : HO} (h : p ∉ b.as0) (h' : b.H0 p = some o) : b.B p = some o := by
  unfold Base.B
  rw [if_neg h]; exact h'
structure Rp (K : PySem.W.Frag) (b : Base) (w : Wd) (S : Sto) (H : Hp) : Prop where
  ex : Ex w.G H
  len : w.as.length = S.length
  pre : ∃ t, w.as = b.as0 ++ t
  at_ : ∀ (k : Nat) (n : Node), S[k]? = some n → n.live = true → ∃ a, w.as[k]? = some a ∧ w.G a = none ∧ (k < b.as0.length ∨ b.H0 a = none) ∧ NodeAt K b.B w H a n
  inj : ∀ (j k : Nat) (m n : Node) (a : Addr), S[j]? = some m → m.live = true → S[k]? = some n → n.live = true → w.as[j]? = some a → w.as[k]? = some a → j = k
  fr : ∀ a o, b.H0 a = some o → a ∉ b.as0 → H a = some o
  th : ∀ a o, b.H0 a = some o → ∃ u, H a = some u
  gn : ∀ a o, w.G a = some o → b.G0 a = some o ∨ b.H0 a = none ∨ ∃ us, o = .tup us
theorem NodeAt.has {K : PySem.W.Frag} {B : Hp} {w : Wd} {H : Hp} {a : Addr} : ∀ {n : Node}, NodeAt K B w H a n → ∃ o, H a = some o
  | .lst _, ⟨_, h, _⟩ => ⟨_, h⟩
  | .dK _ _, ⟨_, h, _⟩ => ⟨_, h⟩
  | .dT _ _, ⟨_, h, _⟩ => ⟨_, h⟩
  | .ins _ _ _, ⟨_, _, h, _⟩ => ⟨_, h⟩
  | .lkT _ _ _, ⟨_, h, _⟩ => ⟨_, h⟩
theorem NodeAt.noTup {K : PySem.W.Frag} {B : Hp} {w : Wd} {H : Hp} {a : Addr} {us : List V} (e : H a = some (.tup us)) : ∀ {n : Node}, ¬ NodeAt K B w H a n
  | .lst _, ⟨_, h, _⟩ => by rw [e] at h; cases h
  | .dK _ _, ⟨_, h, _⟩ => by rw [e] at h; cases h
  | .dT _ _, ⟨_, h, _⟩ => by rw [e] at h; cases h
  | .ins _ _ _, ⟨_, _, h, _⟩ => by rw [e] at h; cases h
  | .lkT _ _ _, ⟨_, h, _⟩ => by rw [e] at h; cases h
theorem NodeAt.move {K : PySem.W.Frag} {B : Hp} {w w' : Wd} {H H' : Hp} {a : Addr} (l : Le w w') (e : H' a = H a) : ∀ {n : Node}, NodeAt K B w H a n → NodeAt K B w' H' a n
  | .lst _, ⟨vs, h, t⟩ => ⟨vs, e.trans h, t.mono l⟩
  | .dK _ _, ⟨vs, h, z, t⟩ => ⟨vs, e.trans h, z, t.mono l⟩
  | .dT _ _, ⟨vs, h, z, t⟩ => ⟨vs, e.trans h, z, t.mono l⟩
  | .ins _ _ _, ⟨dx, vs, h, z, t⟩ => ⟨dx, vs, e.trans h, z, t.mono l⟩
  | .lkT _ _ _, ⟨vs, h, z, t⟩ => ⟨vs, e.trans h, z, t.mono l⟩
section
variable {K : PySem.W.Frag} {b : Base} {w w' : Wd} {S S' : Sto} {H H' : Hp} {p : Addr} {o : HO}
theorem Rp.fresh0 (r : Rp K b w S H) (h : H p = none) : b.H0 p = none := by
  cases q : b.H0 p with
  | none => rfl
  | some o => obtain ⟨u, e⟩ := r.th p o q; rw [e] at h; cases h
theorem Rp.fresh (r : Rp K b w S H) (h : H p = none) : w.G p = none := r.ex.none h
theorem Rp.bw (r : Rp K b w S H) : Ex b.B H := fun a o e => let ⟨h1, h2⟩ := Base.B_some e; r.fr a o h2 h1
theorem Rp.in0 (r : Rp K b w S H) {k : Nat} {a : Addr} (h : w.as[k]? = some a) (hk : k < b.as0.length) : a ∈ b.as0 := by
  obtain ⟨t, e⟩ := r.pre
  rw [e, List.getElem?_append_left hk] at h
  exact List.mem_of_getElem? h
theorem Rp.preA (r : Rp K b w S H) (x : Addr) : ∃ t, w.as ++ [x] = b.as0 ++ t := by
  obtain ⟨t, e⟩ := r.pre
  exact ⟨t ++ [x], by rw [e, List.append_assoc]⟩
theorem th_upd (r : ∀ a o, b.H0 a = some o → ∃ u, H a = some u) : ∀ a u, b.H0 a = some u → ∃ z, upd H p o a = some z := fun a u e => by
  by_cases z : a = p
  · subst z; exact ⟨o, upd_same⟩
  · obtain ⟨v, hv⟩ := r a u e
    exact ⟨v, by rw [upd_ne z]; exact hv⟩
theorem Rp.ne (r : Rp K b w S H) (h : H p = none) {k : Nat} {n : Node} {a : Addr} (hn : S[k]? = some n) (hl : n.live = true) (ha : w.as[k]? = some a) : a ≠ p := by
  obtain ⟨a', h1, _, _, h2⟩ := r.at_ k n hn hl
  rw [ha] at h1
  cases h1
  obtain ⟨o, ho⟩ := h2.has
  exact ne_of_none ho h
/-- a new object that nobody changes: known from now on -/
theorem Rp.known (r : Rp K b w S H) (h : H p = none) : Rp K b ⟨upd w.G p o, w.as⟩ S (upd H p o) ∧ Le w ⟨upd w.G p o, w.as⟩ := by
  have g1 := r.fresh h
  have l : Le w ⟨upd w.G p o, w.as⟩ := ⟨Ex.upd g1, [], by simp⟩
  refine ⟨⟨fun a u e => ?_, r.len, r.pre, fun k n hn hl => ?_, r.inj, fun a u e hb => ?_, ?_, ?_⟩, l⟩
  · have e : upd w.G p o a = some u := e
    by_cases z : a = p
    · subst z; rw [upd_same] at e ⊢; exact e
    · rw [upd_ne z] at e ⊢; exact r.ex a u e
  · obtain ⟨a, h1, h2, h4, h5⟩ := r.at_ k n hn hl
    have na := r.ne h hn hl h1
    exact ⟨a, h1, (upd_ne na).trans h2, h4, h5.move l (upd_ne na)⟩
  · have := r.fr a u e hb
    rw [upd_ne (ne_of_none this h)]; exact this
  · exact th_upd r.th
  · intro a u e
    have e : upd w.G p o a = some u := e
    by_cases z : a = p
    · subst z; exact .inr (.inl (r.fresh0 h))
    · rw [upd_ne z] at e; exact r.gn a u e
/-- a new object that nobody speaks of -/
theorem Rp.more (r : Rp K b w S H) (h : H p = none) : Rp K b w S (upd H p o) := by
  have g1 := r.fresh h
  refine ⟨fun a u e => ?_, r.len, r.pre, fun k n hn hl => ?_, r.inj, fun a u e hb => ?_, th_upd r.th, r.gn⟩
  · rw [upd_ne (ne_of_none e g1)]; exact r.ex a u e
  · obtain ⟨a, h1, h2, h4, h5⟩ := r.at_ k n hn hl
    exact ⟨a, h1, h2, h4, h5.move (Le.refl _) (upd_ne (r.ne h hn hl h1))⟩
  · have := r.fr a u e hb
    rw [upd_ne (ne_of_none this h)]; exact this
theorem len_get {α : Type} {l : List α} {n : Nat} (h : l.length = n) (k : Nat) (a : α) (x : α) (e : (l ++ [x])[k]? = some a) : (k < n ∧ l[k]? = some a) ∨ (k = n ∧ a = x) := by
  subst h
  by_cases z : k < l.length
  · rw [List.getElem?_append_left z] at e; exact .inl ⟨z, e⟩
  · rw [List.getElem?_append_right (by omega)] at e
    have : k - l.length = 0 := by
      cases q : k - l.length with
      | zero => rfl
      | succ m => rw [q] at e; simp at e
    rw [this] at e
    simp at e
    exact .inr ⟨by omega, e.symm⟩
/-- a new mutable object -/
theorem Rp.alloc (r : Rp K b w S H) (h : H p = none) {n : Node} (hn : NodeAt K b.B ⟨w.G, w.as ++ [p]⟩ (upd H p o) p n) : Rp K b ⟨w.G, w.as ++ [p]⟩ (S ++ [n]) (upd H p o) ∧ Le w ⟨w.G, w.as ++ [p]⟩ := by
  have g1 := r.fresh h
  have l : Le w ⟨w.G, w.as ++ [p]⟩ := ⟨Ex.refl _, [p], rfl⟩
  refine ⟨⟨fun a u e => ?_, by simp [r.len], r.preA p, fun k m hm hl => ?_, fun j k m m' a h1 l1 h2 l2 h3 h4 => ?_, fun a u e hb => ?_, th_upd r.th, r.gn⟩, l⟩
  · rw [upd_ne (ne_of_none e g1)]; exact r.ex a u e
  · rcases len_get rfl k m n hm with ⟨z, hm⟩ | ⟨z, rfl⟩
    · obtain ⟨a, h1, h2, h4, h5⟩ := r.at_ k m hm hl
      have na := r.ne h hm hl h1
      exact ⟨a, l.at_ h1, h2, h4, h5.move l (upd_ne na)⟩
    · refine ⟨p, ?_, g1, .inr (r.fresh0 h), hn⟩
      show (w.as ++ [p])[k]? = some p
      rw [z, ← r.len]; simp
  · have h3 : (w.as ++ [p])[j]? = some a := h3
    have h4 : (w.as ++ [p])[k]? = some a := h4
    rcases len_get rfl j m n h1 with ⟨z, y1⟩ | ⟨z, rfl⟩
    · rcases len_get rfl k m' n h2 with ⟨z', y2⟩ | ⟨z', rfl⟩
      · rw [List.getElem?_append_left (by rw [r.len]; exact z)] at h3
        rw [List.getElem?_append_left (by rw [r.len]; exact z')] at h4
        exact r.inj j k m m' a y1 l1 y2 l2 h3 h4
      · rw [List.getElem?_append_left (by rw [r.len]; exact z)] at h3
        have q := r.ne h y1 l1 h3
        rw [z', ← r.len] at h4
        simp at h4
        exact absurd h4.symm q
    · rcases len_get rfl k m' m h2 with ⟨z', y2⟩ | ⟨z', rfl⟩
      · rw [List.getElem?_append_left (by rw [r.len]; exact z')] at h4
        have q := r.ne h y2 l2 h4
        rw [z, ← r.len] at h3
        simp at h3
        exact absurd h3.symm q
      · rw [z, z']
  · have := r.fr a u e hb
    rw [upd_ne (ne_of_none this h)]; exact this
theorem set_get {α : Type} {l : List α} {k j : Nat} {x y : α} (e : (l.set k x)[j]? = some y) : (j = k ∧ y = x ∧ k < l.length) ∨ (j ≠ k ∧ l[j]? = some y) := by
  by_cases z : j = k
  · subst z
    by_cases q : j < l.length
    · rw [List.getElem?_set_self q] at e; cases e; exact .inl ⟨rfl, rfl, q⟩
    · rw [List.getElem?_eq_none (by simpa using q)] at e; cases e
  · rw [List.getElem?_set_ne (Ne.symm z)] at e; exact .inr ⟨z, e⟩
/-- a mutable object is written -/
theorem Rp.write (r : Rp K b w S H) {k : Nat} {n n' : Node} (hn : S[k]? = some n) (hl : n.live = true) (ha : w.as[k]? = some p) (hw : NodeAt K b.B w (upd H p o) p n') : Rp K b w (S.set k n') (upd H p o) := by
  obtain ⟨a', h1, g1, g3, h2⟩ := r.at_ k n hn hl
  rw [ha] at h1
  cases h1
  have hin : ∀ j m, S[j]? = some m → m.live = true → j ≠ k → ∀ a, w.as[j]? = some a → a ≠ p := fun j m hm hl' z a ha' q => by
    subst q
    exact z (r.inj j k m n a hm hl' hn hl ha' ha)
  refine ⟨fun a u e => ?_, by simp [r.len], r.pre, fun j m hm hl' => ?_, fun i j m m' a h1 l1 h2 l2 h3 h4 => ?_, fun a u e hb => ?_, th_upd r.th, r.gn⟩
  · rw [upd_ne (ne_of_none e g1)]; exact r.ex a u e
  · rcases set_get hm with ⟨z, q, _⟩ | ⟨z, hm⟩
    · rw [q, z]; exact ⟨p, ha, g1, g3, hw⟩
    · obtain ⟨a, h1, h2, h4, h5⟩ := r.at_ j m hm hl'
      exact ⟨a, h1, h2, h4, h5.move (Le.refl _) (upd_ne (hin j m hm hl' z a h1))⟩
  · have q : ∀ i m, (S.set k n')[i]? = some m → ∃ m, S[i]? = some m ∧ (m.live = true ∨ i ≠ k) := fun i m h => by
      rcases set_get h with ⟨z, _, _⟩ | ⟨z, h⟩
      · exact ⟨n, by rw [z]; exact hn, .inl hl⟩
      · exact ⟨m, h, .inr z⟩
    rcases set_get h1 with ⟨z, _, _⟩ | ⟨z, h1⟩
    · rcases set_get h2 with ⟨z', _, _⟩ | ⟨z', h2⟩
      · rw [z, z']
      · rw [z] at h3 ⊢
        exact r.inj k j n m' a hn hl h2 l2 h3 h4
    · rcases set_get h2 with ⟨z', _, _⟩ | ⟨z', h2⟩
      · rw [z'] at h4 ⊢
        exact r.inj i k m n a h1 l1 hn hl h3 h4
      · exact r.inj i j m m' a h1 l1 h2 l2 h3 h4
  · have q := r.fr a u e hb
    by_cases z : a = p
    · subst z
      rcases g3 with g3 | g3
      · exact absurd (r.in0 ha g3) hb
      · rw [g3] at e; cases e
    · rw [upd_ne z]; exact q
end
/-- what the slots hold -/
def EnvIs (K : PySem.W.Frag) (b : Base) (w : Wd) (env : Nv) (σ : L2.St) : Prop := σ.length = env.length ∧ ∀ (i : Nat) (r : R), env[i]? = some (some r) → ∃ v, σ[i]? = some (some v) ∧ IsR K b.B w r v
theorem EnvIs.mono {K : PySem.W.Frag} {b : Base} {w w' : Wd} {env : Nv} {σ : L2.St} (l : Le w w') (h : EnvIs K b w env σ) : EnvIs K b w' env σ :=
  ⟨h.1, fun i r e => let ⟨v, h1, h2⟩ := h.2 i r e; ⟨v, h1, h2.mono l⟩⟩
theorem EnvIs.set {K : PySem.W.Frag} {b : Base} {w : Wd} {env : Nv} {σ : L2.St} (h : EnvIs K b w env σ) (i : Nat) {r : R} {v : V} (hr : IsR K b.B w r v) : EnvIs K b w (env.set i (some r)) (σ.set i (some v)) := by
  refine ⟨by simpa using h.1, fun j r' e => ?_⟩
  rcases set_get e with ⟨z, q, hz⟩ | ⟨z, e⟩
  · cases q
    rw [z, List.getElem?_set_self (by rw [h.1]; exact hz)]
    exact ⟨v, rfl, hr⟩
  · rw [List.getElem?_set_ne (Ne.symm z)]
    exact h.2 j r' e
end DL
set_option Elab.async false
set_option linter.all false
set_option maxRecDepth 100000
set_option maxHeartbeats 4000000
namespace DL
open PySem PySem.Spec PyProof.Rows
open L2 hiding Takes passAt takes_of ps_raise PMk ps_try_as
open L2N (Takes passAt takes_of ps_raise PMk ps_try_as)

/-! ### where one stands -/
structure Gd where
  prog : Program
  w : World
  K : PySem.W.Frag
  mg : Str → Option Value
  base : Heap
abbrev gdOf (X : Cx) : Gd := ⟨X.prog, X.w, X.K, X.mg, X.base⟩
abbrev Xi := Addr → List Str → List D → Nv → Sto → Prop
/-- where we are: may a try stand here; what is handled here; the exception at hand -/
structure Hot where
  tr : Bool
  hp : Option Nat
  ex : Option (Addr × Addr × Addr)
structure DC where
  g : Gd
  N : List Str
  sc : Scope
  vis : List (Str × Nat)
  wr : List (Str × Nat)
  gl : List Str
  k : Nat
  calm : Bool
  n0 : Nat
  xi : Xi
  ho : Hot
def plainName (x : Str) : Bool := !(x == ("__debug__" : Str)) && !(x == ("__classdict__" : Str)) && !decide (x = ("__name__" : Str))
structure OkC (X : Cx) (C : DC) : Prop where
  gd : gdOf X = C.g
  N : X.N = C.N
  sc : X.env.scope = C.sc
  nd : X.N.Nodup
  vis : ∀ p ∈ C.vis, X.N[p.2]? = some p.1 ∧ Vis X.env.scope p.1 ∧ plainName p.1 = true
  wr : ∀ p ∈ C.wr, X.N[p.2]? = some p.1 ∧ Loc X.env.scope p.1 ∧ (X.fn p.1 = true ∨ X.env.scope.names.lookup p.1 = some .local)
  gl : ∀ x ∈ C.gl, Gl X x ∧ plainName x = true
  calm : C.calm = true → X.calm = true ∧ Room C.k X.A
  un : X.A.units + 100 < cLine
  po : PassesOwn (model X.prog X.w) X.A X.env X.xe
  hot : ∀ k, C.ho.hp = some k → L2H.HotC X ∧ L2H.RoomH k X.A
  exc : ∀ e, C.ho.ex = some e → X.calm = false ∧ ∃ oe : Obj, L2H.Hot1 X.A (e.1, oe) ∧ (e.1, oe) ∈ X.pn ∧ Zc (.ref e.2.1) (some e.2.2) oe ∧ (∃ vs, oe.data = .fields vs) ∧ (C.ho.tr = false → ∃ (X0 : Cx) (pn : List (Addr × Obj)), X = X0.suite e.1 ((e.1, oe) :: pn))
  fr : C.ho.tr = true → X.stack = X.env :: X.outer ∧ X.env.frame = some X.env.locals
inductive InV (x : Str) (i : Nat) : List (Str × Nat) → Prop where
  | here {l : List (Str × Nat)} : InV x i ((x, i) :: l)
  | there {p : Str × Nat} {l : List (Str × Nat)} : InV x i l → InV x i (p :: l)
theorem InV.mem {x : Str} {i : Nat} : ∀ {l : List (Str × Nat)}, InV x i l → (x, i) ∈ l
  | _, .here => List.mem_cons_self
  | _, .there h => List.mem_cons_of_mem _ h.mem
inductive InG (x : Str) : List Str → Prop where
  | here {l : List Str} : InG x (x :: l)
  | there {p : Str} {l : List Str} : InG x l → InG x (p :: l)
theorem InG.mem {x : Str} : ∀ {l : List Str}, InG x l → x ∈ l
  | _, .here => List.mem_cons_self
  | _, .there h => List.mem_cons_of_mem _ h.mem
theorem plain_of {x : Str} (h : plainName x = true) : (x == ("__debug__" : Str)) = false ∧ (x == ("__classdict__" : Str)) = false ∧ x ≠ ("__name__" : Str) := by
  obtain ⟨h1, h3⟩ := Bool.and_eq_true_iff.mp h
  obtain ⟨h1, h2⟩ := Bool.and_eq_true_iff.mp h1
  exact ⟨by simpa using h1, by simpa using h2, by simpa using h3⟩

/-! ### what is wanted behind -/
def NCov (K : PySem.W.Frag) (b : Base) (w : Wd) (Ψ : R → Sto → Prop) (Q : VK) : Prop := ∀ w' S' H' r v, Le w w' → Rp K b w' S' H' → IsR K b.B w' r v → Ψ r S' → Q v H'
def TCov (K : PySem.W.Frag) (b : Base) (w : Wd) (Ψ : Bool → Sto → Prop) (Q : Bool → Hp → Prop) : Prop := ∀ w' S' H' k, Le w w' → Rp K b w' S' H' → Ψ k S' → Q k H'
def ACov (K : PySem.W.Frag) (b : Base) (w : Wd) (Ψ : List R → Sto → Prop) (Q : List V → Hp → Prop) : Prop := ∀ w' S' H' r v, Le w w' → Rp K b w' S' H' → IsRs K b.B w' r v → Ψ r S' → Q v H'
def XCov (K : PySem.W.Frag) (b : Base) (w : Wd) (n0 : Nat) (xi : Xi) (W : WX) : Prop := b.as0.length ≤ n0 ∧ ∀ w' S' H' σ' env' C fs ds d vs, LeN n0 w w' → Rp K b w' S' H' → EnvIs K b w' env' σ' →
  w'.G d = some (.xd (fs.zip vs)) → fs.length = vs.length → IsL K w'.G ds vs → xi C fs ds env' S' → W (.ref C) (some d) σ' H'
structure Nd where
  nx : Nv → Sto → Prop
  rt : R → Sto → Prop
  bk : Nv → Sto → Prop := fun _ _ => False
  ct : Nv → Sto → Prop := fun _ _ => False
def RCov (K : PySem.W.Frag) (b : Base) (w : Wd) (n0 : Nat) (Ψ : R → Sto → Prop) (Q : VK) : Prop := ∀ w' S' H' r v, LeN n0 w w' → Rp K b w' S' H' → IsR K b.B w' r v → Ψ r S' → Q v H'
def ECov (K : PySem.W.Frag) (b : Base) (w : Wd) (n0 : Nat) (Ψ : Nv → Sto → Prop) (Q : L2.St → Hp → Prop) : Prop := ∀ w' S' H' env' σ', LeN n0 w w' → Rp K b w' S' H' → EnvIs K b w' env' σ' → Ψ env' S' → Q σ' H'
structure SCov (K : PySem.W.Frag) (b : Base) (w : Wd) (n0 : Nat) (E : Nd) (D : Ends) : Prop where
  nx : ECov K b w n0 E.nx D.nx
  rt : RCov K b w n0 E.rt D.rt
  bk : ECov K b w n0 E.bk D.bk
  ct : ECov K b w n0 E.ct D.ct
section
variable {K : PySem.W.Frag} {b : Base} {w w1 : Wd}
theorem NCov.mono {Ψ : R → Sto → Prop} {Q : VK} (l : Le w w1) (h : NCov K b w Ψ Q) : NCov K b w1 Ψ Q := fun w' S' H' r v l' => h w' S' H' r v (l.trans l')
theorem NCov.at_ {Ψ : R → Sto → Prop} {Q : VK} {S : Sto} {H : Hp} {d : D} {v : V} (n : NCov K b w Ψ Q) (rp : Rp K b w S H) (hi : Is K w.G d v) (h : Ψ (.val d) S) : Q v H := n w S H (.val d) v (Le.refl w) rp hi h
theorem TCov.mono {Ψ : Bool → Sto → Prop} {Q : Bool → Hp → Prop} (l : Le w w1) (h : TCov K b w Ψ Q) : TCov K b w1 Ψ Q := fun w' S' H' k l' => h w' S' H' k (l.trans l')
theorem ACov.mono {Ψ : List R → Sto → Prop} {Q : List V → Hp → Prop} (l : Le w w1) (h : ACov K b w Ψ Q) : ACov K b w1 Ψ Q := fun w' S' H' r v l' => h w' S' H' r v (l.trans l')
variable {n0 : Nat}
theorem XCov.monoN {xi : Xi} {W : WX} (l : LeN n0 w w1) (h : XCov K b w n0 xi W) : XCov K b w1 n0 xi W := ⟨h.1, fun w' S' H' σ' env' C fs ds d vs l' => h.2 w' S' H' σ' env' C fs ds d vs (l.trans l')⟩
theorem XCov.mono {xi : Xi} {W : WX} (l : Le w w1) (h : XCov K b w n0 xi W) : XCov K b w1 n0 xi W := h.monoN (l.n n0)
theorem RCov.monoN {Ψ : R → Sto → Prop} {Q : VK} (l : LeN n0 w w1) (h : RCov K b w n0 Ψ Q) : RCov K b w1 n0 Ψ Q := fun w' S' H' r v l' => h w' S' H' r v (l.trans l')
theorem RCov.n {Ψ : R → Sto → Prop} {Q : VK} (h : RCov K b w n0 Ψ Q) : NCov K b w Ψ Q := fun w' S' H' r v l' => h w' S' H' r v (l'.n n0)
theorem ECov.monoN {Ψ : Nv → Sto → Prop} {Q : L2.St → Hp → Prop} (l : LeN n0 w w1) (h : ECov K b w n0 Ψ Q) : ECov K b w1 n0 Ψ Q := fun w' S' H' e s l' => h w' S' H' e s (l.trans l')
theorem ECov.mono {Ψ : Nv → Sto → Prop} {Q : L2.St → Hp → Prop} (l : Le w w1) (h : ECov K b w n0 Ψ Q) : ECov K b w1 n0 Ψ Q := h.monoN (l.n n0)
theorem SCov.monoN {E : Nd} {D : Ends} (l : LeN n0 w w1) (h : SCov K b w n0 E D) : SCov K b w1 n0 E D := ⟨h.nx.monoN l, h.rt.monoN l, h.bk.monoN l, h.ct.monoN l⟩
theorem SCov.mono {E : Nd} {D : Ends} (l : Le w w1) (h : SCov K b w n0 E D) : SCov K b w1 n0 E D := h.monoN (l.n n0)
theorem XCov.less {m : Nat} {xi : Xi} {W : WX} (h : XCov K b w n0 xi W) (hm : n0 ≤ m) : XCov K b w m xi W := ⟨Nat.le_trans h.1 hm, fun w' S' H' σ' env' C fs ds d vs l' => h.2 w' S' H' σ' env' C fs ds d vs (l'.less hm)⟩
theorem RCov.less {m : Nat} {Ψ : R → Sto → Prop} {Q : VK} (h : RCov K b w n0 Ψ Q) (hm : n0 ≤ m) : RCov K b w m Ψ Q := fun w' S' H' r v l' => h w' S' H' r v (l'.less hm)
theorem ECov.less {m : Nat} {Ψ : Nv → Sto → Prop} {Q : L2.St → Hp → Prop} (h : ECov K b w n0 Ψ Q) (hm : n0 ≤ m) : ECov K b w m Ψ Q := fun w' S' H' e s l' => h w' S' H' e s (l'.less hm)
end

/-! ### the widest readings -/
def cE (X : Cx) (e : Expr) : TE := fun σ H Q => ∃ t, PE X e t ∧ t σ H Q
def cT (X : Cx) (e : Expr) : TT := fun σ H Q => ∃ t, PT X e t ∧ t σ H Q
def cA (X : Cx) (e : List Expr) : TA := fun σ H Q => ∃ t, PA X e t ∧ t σ H Q
def cS (X : Cx) (s : Stmt) : TS := fun D σ H => ∃ t, PS X s t ∧ t D σ H
def cSs (X : Cx) (s : List Stmt) : TS := fun D σ H => ∃ t, PSs X s t ∧ t D σ H
section
variable {X : Cx}
theorem cE_ok {e : Expr} : PE X e (cE X e) := ⟨fun pins s σ H Q I ⟨_, p, h⟩ => p.run pins s σ H Q I h⟩
theorem cT_ok {e : Expr} : PT X e (cT X e) := ⟨fun pins s σ H Q I ⟨_, p, h⟩ => p.run pins s σ H Q I h⟩
theorem cA_ok {e : List Expr} : PA X e (cA X e) := ⟨fun pos pins s σ H Q I ⟨_, p, h⟩ => p.run pos pins s σ H Q I h⟩
theorem cS_ok {e : Stmt} : PS X e (cS X e) := ⟨fun pins s σ H Q I ⟨_, p, h⟩ => p.run pins s σ H Q I h⟩
theorem cSs_ok {e : List Stmt} : PSs X e (cSs X e) := ⟨fun pins s σ H Q I ⟨_, p, h⟩ => p.run pins s σ H Q I h⟩
end

/-! ### the judgements -/
def WE (C : DC) (e : Expr) (env : Nv) (S : Sto) (Ψ : R → Sto → Prop) : Prop := ∀ X W b, OkC X C → Takes X W → ∀ w σ H, Rp C.g.K b w S H → EnvIs C.g.K b w env σ → XCov C.g.K b w C.n0 C.xi W → ∀ Q, NCov C.g.K b w Ψ Q → cE X e σ H Q
def WT (C : DC) (e : Expr) (env : Nv) (S : Sto) (Ψ : Bool → Sto → Prop) : Prop := ∀ X W b, OkC X C → Takes X W → ∀ w σ H, Rp C.g.K b w S H → EnvIs C.g.K b w env σ → XCov C.g.K b w C.n0 C.xi W → ∀ Q, TCov C.g.K b w Ψ Q → cT X e σ H Q
def WA (C : DC) (e : List Expr) (env : Nv) (S : Sto) (Ψ : List R → Sto → Prop) : Prop := ∀ X W b, OkC X C → Takes X W → ∀ w σ H, Rp C.g.K b w S H → EnvIs C.g.K b w env σ → XCov C.g.K b w C.n0 C.xi W → ∀ Q, ACov C.g.K b w Ψ Q → cA X e σ H Q
def WS (C : DC) (s : Stmt) (env : Nv) (S : Sto) (E : Nd) : Prop := ∀ X W b, OkC X C → Takes X W → ∀ w σ H, Rp C.g.K b w S H → EnvIs C.g.K b w env σ → XCov C.g.K b w C.n0 C.xi W → ∀ D, SCov C.g.K b w C.n0 E D → cS X s D σ H
def WSs (C : DC) (s : List Stmt) (env : Nv) (S : Sto) (E : Nd) : Prop := ∀ X W b, OkC X C → Takes X W → ∀ w σ H, Rp C.g.K b w S H → EnvIs C.g.K b w env σ → XCov C.g.K b w C.n0 C.xi W → ∀ D, SCov C.g.K b w C.n0 E D → cSs X s D σ H

section
variable {C : DC} {env : Nv} {S : Sto} {Ψ : R → Sto → Prop} {Θ : Bool → Sto → Prop} {pos : Pos} {a b e : Expr}

/-! ### names, constants -/
theorem we_int {i : Int} {j} (h : Ψ (.val (.int i)) S) : WE C (.Constant (.int i) j pos) env S Ψ := fun X W b ok tk w σ H r en xc Q n => ⟨_, pe_int, n.at_ (d := .int i) r rfl h⟩
theorem we_str {i : Str} {j} (h : Ψ (.val (.str i)) S) : WE C (.Constant (.str i) j pos) env S Ψ := fun X W b ok tk w σ H r en xc Q n => ⟨_, pe_str, n.at_ (d := .str i) r rfl h⟩
theorem we_bl {i : Bool} {j} (h : Ψ (.val (.bl i)) S) : WE C (.Constant (.bool i) j pos) env S Ψ := fun X W b ok tk w σ H r en xc Q n => ⟨_, pe_bl, n.at_ (d := .bl i) r rfl h⟩
theorem we_non {j} (h : Ψ (.val .non) S) : WE C (.Constant .none j pos) env S Ψ := fun X W b ok tk w σ H r en xc Q n => ⟨_, pe_non, n.at_ (d := .non) r rfl h⟩
theorem we_name {x : Str} {i : Nat} {r : R} (hx : InV x i C.vis) (he : env[i]? = some (some r)) (h : Ψ r S) : WE C (.Name x pos) env S Ψ := fun X W b ok tk w σ H rp en xc Q n => by
  obtain ⟨h1, h2, h3⟩ := ok.vis _ hx.mem
  obtain ⟨h4, h5, h6⟩ := plain_of h3
  obtain ⟨v, hv, hr⟩ := en.2 i r he
  exact ⟨_, pe_var h1 h2 h4 h5, v, hv, n w S H _ _ (Le.refl _) rp hr h⟩
/-- a name of the module: a constant -/
theorem we_glob {x : Str} {u : Value} {d : D} (hx : InG x C.gl) (hm : C.g.mg x = some u) (hr : ∃ v, RelV v u ∧ ∀ G, Is C.g.K G d v) (h : Ψ (.val d) S) : WE C (.Name x pos) env S Ψ := fun X W b ok tk w σ H rp en xc Q n => by
  obtain ⟨v, rv, hd⟩ := hr
  obtain ⟨h1, h2⟩ := ok.gl _ hx.mem
  refine ⟨_, pe_glob h1 (u := u) (by have := ok.gd; rw [← this] at hm; exact hm) rv (plain_of h2).1, n.at_ rp (hd _) h⟩

/-! ### operators -/
def cOp (X : Cx) (f : Value → Value → Sem Value) : R2 := fun x y H Q => ∃ r, OpR X f r ∧ r x y H Q
theorem cOp_ok {X : Cx} {f : Value → Value → Sem Value} : OpR X f (cOp X f) := fun pins s σ H x y v u Q I rx ry ⟨_, p, h⟩ => p pins s σ H x y v u Q I rx ry h
/-- an operation on two values -/
def WO (C : DC) (f : Value → Value → Sem Value) (x y : R) (S : Sto) (Ψ : R → Sto → Prop) : Prop := ∀ X b, OkC X C → ∀ w H, Rp C.g.K b w S H → ∀ v u, IsR C.g.K b.B w x v → IsR C.g.K b.B w y u → ∀ Q, NCov C.g.K b w Ψ Q → cOp X f v u H Q
theorem we_op {op : Operator} (h : WE C a env S fun x S1 => WE C b env S1 fun y S2 => WO C (binaryOp op) x y S2 Ψ) : WE C (.BinOp a op b pos) env S Ψ := fun X W bb ok tk w σ H rp en xc Q n => by
  refine ⟨_, pe_op cOp_ok cE_ok cE_ok, ?_⟩
  refine h X W bb ok tk w σ H rp en xc _ fun w1 S1 H1 x v l1 r1 i1 k1 => ?_
  refine k1 X W bb ok tk w1 σ H1 r1 (en.mono l1) (xc.mono l1) _ fun w2 S2 H2 y u l2 r2 i2 k2 => ?_
  exact k2 X bb ok w2 H2 r2 v u (i1.mono l2) i2 Q (n.mono (l1.trans l2))
theorem we_cmp {op : CmpOp} (h : WE C a env S fun x S1 => WE C b env S1 fun y S2 => WO C (compareOp op) x y S2 Ψ) (hm : behindInMarks op b = false) : WE C (.Compare a [op] [b] pos) env S Ψ := fun X W bb ok tk w σ H rp en xc Q n => by
  refine ⟨_, pe_cmpR cOp_ok cE_ok cE_ok hm, ?_⟩
  refine h X W bb ok tk w σ H rp en xc _ fun w1 S1 H1 x v l1 r1 i1 k1 => ?_
  refine k1 X W bb ok tk w1 σ H1 r1 (en.mono l1) (xc.mono l1) _ fun w2 S2 H2 y u l2 r2 i2 k2 => ?_
  exact k2 X bb ok w2 H2 r2 v u (i1.mono l2) i2 Q (n.mono (l1.trans l2))
def asB (Θ : Bool → Sto → Prop) : R → Sto → Prop := fun z S3 => ∃ k, z = .val (.bl k) ∧ Θ k S3
theorem asB_mk {k : Bool} (h : Θ k S) : asB Θ (.val (.bl k)) S := ⟨k, rfl, h⟩
theorem wt_cmp {op : CmpOp} (h : WE C a env S fun x S1 => WE C b env S1 fun y S2 => WO C (compareOp op) x y S2 (asB Θ)) (hm : behindInMarks op b = false) : WT C (.Compare a [op] [b] pos) env S Θ := fun X W bb ok tk w σ H rp en xc Q n => by
  refine ⟨_, pt_cmpR cOp_ok cE_ok cE_ok hm, ?_⟩
  refine h X W bb ok tk w σ H rp en xc _ fun w1 S1 H1 x v l1 r1 i1 k1 => ?_
  refine k1 X W bb ok tk w1 σ H1 r1 (en.mono l1) (xc.mono l1) _ fun w2 S2 H2 y u l2 r2 i2 k2 => ?_
  refine k2 X bb ok w2 H2 r2 v u (i1.mono l2) i2 _ fun w3 S3 H3 z t l3 r3 i3 ⟨k, e, k3⟩ => ?_
  subst e
  exact ⟨k, i3, n w3 S3 H3 k ((l1.trans l2).trans l3) r3 k3⟩
section
variable {x y : R} {i j : Int} {s t : Str} {p q : Bool}
theorem wo_I {f : Value → Value → Sem Value} {Cd : Int → Int → Prop} {g : Int → Int → V} {z : D} (hop : ∀ X, OpR X f (rI Cd g)) (hz : ∀ G, Is C.g.K G z (g i j)) (hc : Cd i j) (h : Ψ (.val z) S) : WO C f (.val (.int i)) (.val (.int j)) S Ψ := fun X b ok w H rp v u hv hu Q n => by
  have hv : v = _ := hv
  have hu : u = _ := hu
  subst hv hu
  exact ⟨_, hop X, i, j, rfl, rfl, hc, n.at_ rp (hz _) h⟩
theorem wo_I0 {f : Value → Value → Sem Value} {g : Int → Int → V} {z : D} (hop : ∀ X, OpR X f (rI0 g)) (hz : ∀ G, Is C.g.K G z (g i j)) (h : Ψ (.val z) S) : WO C f (.val (.int i)) (.val (.int j)) S Ψ := fun X b ok w H rp v u hv hu Q n => by
  have hv : v = _ := hv
  have hu : u = _ := hu
  subst hv hu
  exact ⟨_, hop X, i, j, rfl, rfl, n.at_ rp (hz _) h⟩
theorem wo_add (h : Ψ (.val (.int (i + j))) S) : WO C (binaryOp .Add) (.val (.int i)) (.val (.int j)) S Ψ := wo_I0 (fun _ => op_add) (z := (.int (i + j))) (fun _ => rfl) h
theorem wo_sub (h : Ψ (.val (.int (i - j))) S) : WO C (binaryOp .Sub) (.val (.int i)) (.val (.int j)) S Ψ := wo_I0 (fun _ => op_sub) (z := (.int (i - j))) (fun _ => rfl) h
theorem wo_mul (hc : CMul i j) (h : Ψ (.val (.int (i * j))) S) : WO C (binaryOp .Mult) (.val (.int i)) (.val (.int j)) S Ψ := wo_I (fun _ => op_mul) (z := (.int (i * j))) (fun _ => rfl) hc h
theorem wo_fdiv (hc : CDiv i j) (h : Ψ (.val (.int (i / j))) S) : WO C (binaryOp .FloorDiv) (.val (.int i)) (.val (.int j)) S Ψ := wo_I (fun _ => op_fdiv) (z := (.int (i / j))) (fun _ => rfl) hc h
theorem wo_mod (hc : 0 < j) (h : Ψ (.val (.int (i % j))) S) : WO C (binaryOp .Mod) (.val (.int i)) (.val (.int j)) S Ψ := wo_I (fun _ => op_mod) (z := (.int (i % j))) (fun _ => rfl) hc h
theorem wo_pow (hc : CPow i j) (h : Ψ (.val (.int (i ^ j.toNat))) S) : WO C (binaryOp .Pow) (.val (.int i)) (.val (.int j)) S Ψ := wo_I (fun _ => op_pow) (z := (.int (i ^ j.toNat))) (fun _ => rfl) hc h
theorem wo_lt (h : Ψ (.val (.bl (decide (i < j)))) S) : WO C (compareOp .Lt) (.val (.int i)) (.val (.int j)) S Ψ := wo_I0 (fun _ => op_lt) (z := (.bl (decide (i < j)))) (fun _ => rfl) h
theorem wo_le (h : Ψ (.val (.bl (decide (i ≤ j)))) S) : WO C (compareOp .LtE) (.val (.int i)) (.val (.int j)) S Ψ := wo_I0 (fun _ => op_le) (z := (.bl (decide (i ≤ j)))) (fun _ => rfl) h
theorem wo_gt (h : Ψ (.val (.bl (decide (j < i)))) S) : WO C (compareOp .Gt) (.val (.int i)) (.val (.int j)) S Ψ := wo_I0 (fun _ => op_gt) (z := (.bl (decide (j < i)))) (fun _ => rfl) h
theorem wo_ge (h : Ψ (.val (.bl (decide (j ≤ i)))) S) : WO C (compareOp .GtE) (.val (.int i)) (.val (.int j)) S Ψ := wo_I0 (fun _ => op_ge) (z := (.bl (decide (j ≤ i)))) (fun _ => rfl) h
end
end
end DL
set_option Elab.async false
set_option linter.all false
set_option maxRecDepth 100000
set_option maxHeartbeats 4000000
namespace DL
open PySem PySem.Spec PyProof.Rows
open L2 hiding Takes passAt takes_of ps_raise PMk ps_try_as
open L2N (Takes passAt takes_of ps_raise PMk ps_try_as)

/-! ### what leaves a def: no name of an object that goes, nothing that was only lent -/
def R.okB (n : Nat) : R → Bool
  | .val _ => true
  | .loc k => decide (k < n)
  | .bor _ => false
def Node.okB (n : Nat) : Node → Bool
  | .lst rs => rs.all (R.okB n)
  | .dK _ rs => rs.all (R.okB n)
  | .dT _ rs => rs.all (R.okB n)
  | .ins _ _ rs => rs.all (R.okB n)
  | .lkT _ _ rs => rs.all (R.okB n)
  | .dead => true
def DSp := List R → Sto → (R → Sto → Prop) → (Addr → List Str → List D → Sto → Prop) → Prop
/-- the promise in HandS' words -/
def spD (K : PySem.W.Frag) (s : DSp) : Sp := fun vs H Q E => ∃ (w : Wd) (S : Sto) (rs : List R) (Ψ : R → Sto → Prop) (ξ : Addr → List Str → List D → Sto → Prop),
  Rp K ⟨H, w.G, w.as⟩ w S H ∧ IsRs K (Base.B ⟨H, w.G, w.as⟩) w rs vs ∧ s rs S Ψ ξ ∧
  (∀ w' S' H' r v, Le w w' → Rp K ⟨H, w.G, w.as⟩ w' S' H' → IsR K (Base.B ⟨H, w.G, w.as⟩) w' r v → R.okB S'.length r = true → S'.all (Node.okB S'.length) = true → Ψ r S' → Q v H') ∧
  (∀ w' S' H' C fs ds d vs, Le w w' → Rp K ⟨H, w.G, w.as⟩ w' S' H' → S'.all (Node.okB S'.length) = true → w'.G d = some (.xd (fs.zip vs)) → fs.length = vs.length → IsL K w'.G ds vs → ξ C fs ds S' → E (.ref C) (some d) H')

/-! ### dropping the last objects -/
theorem IsR.cut {K : PySem.W.Frag} {B : Hp} {w : Wd} {n : Nat} : ∀ {r : R} {v : V}, r.okB n = true → IsR K B w r v → IsR K B ⟨w.G, w.as.take n⟩ r v
  | .val _, _, _, h => h
  | .loc k, v, o, ⟨a, h, e⟩ => ⟨a, by
      show (w.as.take n)[k]? = some a
      rw [List.getElem?_take_of_lt (of_decide_eq_true o)]; exact h, e⟩
  | .bor _, _, o, _ => by cases o
theorem IsRs.cut {K : PySem.W.Frag} {B : Hp} {w : Wd} {n : Nat} : ∀ {r : List R} {v : List V}, r.all (R.okB n) = true → IsRs K B w r v → IsRs K B ⟨w.G, w.as.take n⟩ r v
  | [], _, _, h => h
  | r :: rs, _, o, ⟨v, t, e, h1, h2⟩ => by
    obtain ⟨o1, o2⟩ := Bool.and_eq_true_iff.mp (show (r.okB n && rs.all (R.okB n)) = true from o)
    exact ⟨v, t, e, h1.cut o1, IsRs.cut o2 h2⟩
theorem NodeAt.cut {K : PySem.W.Frag} {B : Hp} {w : Wd} {H : Hp} {a : Addr} {n : Nat} : ∀ {m : Node}, m.okB n = true → NodeAt K B w H a m → NodeAt K B ⟨w.G, w.as.take n⟩ H a m
  | .lst _, o, ⟨vs, h, t⟩ => ⟨vs, h, t.cut o⟩
  | .dK _ _, o, ⟨vs, h, z, t⟩ => ⟨vs, h, z, t.cut o⟩
  | .dT _ _, o, ⟨vs, h, z, t⟩ => ⟨vs, h, z, t.cut o⟩
  | .ins _ _ _, o, ⟨dx, vs, h, z, t⟩ => ⟨dx, vs, h, z, t.cut o⟩
  | .lkT _ _ _, o, ⟨vs, h, z, t⟩ => ⟨vs, h, z, t.cut o⟩
theorem all_get {α : Type} {l : List α} {p : α → Bool} (h : l.all p = true) {k : Nat} {x : α} (e : l[k]? = some x) : p x = true := List.all_eq_true.mp h x (List.mem_of_getElem? e)
theorem take_get {α : Type} {l : List α} {n k : Nat} {x : α} (e : (l.take n)[k]? = some x) : k < n ∧ l[k]? = some x := by
  by_cases z : k < n
  · rw [List.getElem?_take_of_lt z] at e; exact ⟨z, e⟩
  · rw [List.getElem?_eq_none (by simp; omega)] at e; cases e
def Goes (b : Base) (w : Wd) (S : Sto) (n : Nat) (a : Addr) : Prop := b.H0 a = none ∧ ∃ k m, n ≤ k ∧ S[k]? = some m ∧ m.live = true ∧ w.as[k]? = some a
noncomputable instance goesDec (b : Base) (w : Wd) (S : Sto) (n : Nat) (a : Addr) : Decidable (Goes b w S n a) := Classical.propDecidable _
noncomputable def gSet (b : Base) (w : Wd) (S : Sto) (n : Nat) (H : Hp) : Hp := fun a => match w.G a with
  | some o => some o
  | none => if Goes b w S n a then H a else none
mutual
inductive Fz (S : Sto) (n : Nat) : R → D → Prop where
  | val (d : D) : Fz S n (.val d) d
  | lst {k : Nat} {rs : List R} {ds : List D} : n ≤ k → S[k]? = some (.lst rs) → FzL S n rs ds → Fz S n (.loc k) (.lst ds)
  | dK {k : Nat} {ks : List Key} {rs : List R} {ds : List D} : n ≤ k → S[k]? = some (.dK ks rs) → FzL S n rs ds → Fz S n (.loc k) (.dct ks ds)
  | dT {k : Nat} {ks : List (List Key)} {rs : List R} {ds : List D} : n ≤ k → S[k]? = some (.dT ks rs) → FzL S n rs ds → Fz S n (.loc k) (.dcT ks ds)
  | ins {k : Nat} {C : Addr} {ks : List Str} {rs : List R} {ds : List D} : n ≤ k → S[k]? = some (.ins C ks rs) → FzL S n rs ds → Fz S n (.loc k) (.ins C ks ds)
inductive FzL (S : Sto) (n : Nat) : List R → List D → Prop where
  | nil : FzL S n [] []
  | cons {r : R} {d : D} {rs : List R} {ds : List D} : Fz S n r d → FzL S n rs ds → FzL S n (r :: rs) (d :: ds)
end
theorem FzL.vals {S : Sto} {n : Nat} : ∀ ds : List D, FzL S n (ds.map .val) ds
  | [] => .nil
  | d :: ds => .cons (.val d) (FzL.vals ds)
section
variable {K : PySem.W.Frag} {b : Base} {w w' : Wd} {S S' : Sto} {H H' : Hp}
theorem Rp.cut (r : Rp K b w S H) {n : Nat} (hn : n ≤ S.length) (h0 : b.as0.length ≤ n) (ho : (S.take n).all (Node.okB n) = true) : Rp K b ⟨w.G, w.as.take n⟩ (S.take n) H := by
  refine ⟨r.ex, by simp [r.len], ?_, fun k m hm hl => ?_, fun j k m m' a h1 l1 h2 l2 h3 h4 => ?_, r.fr, r.th, r.gn⟩
  · obtain ⟨t, e⟩ := r.pre
    refine ⟨t.take (n - b.as0.length), ?_⟩
    show w.as.take n = _
    rw [e, List.take_append, List.take_of_length_le h0]
  · have ok := all_get ho hm
    obtain ⟨z, hm'⟩ := take_get hm
    obtain ⟨a, h1, h2, h3, h4⟩ := r.at_ k m hm' hl
    exact ⟨a, by show (w.as.take n)[k]? = some a; rw [List.getElem?_take_of_lt z]; exact h1, h2, h3, h4.cut ok⟩
  · exact r.inj j k m m' a (take_get h1).2 l1 (take_get h2).2 l2 (take_get h3).2 (take_get h4).2

/-! ### settling: the last objects are known from now on and change no more -/
theorem Rp.kn (r : Rp K b w S H) {n k : Nat} {m : Node} {a : Addr} (hn : b.as0.length ≤ n) (hk : n ≤ k) (hm : S[k]? = some m) (hl : m.live = true) (ha : w.as[k]? = some a) : gSet b w S n H a = H a := by
  obtain ⟨a', h1, h2, h3, h4⟩ := r.at_ k m hm hl
  rw [ha] at h1
  cases h1
  unfold gSet
  rw [h2]
  have h5 : b.H0 a = none := h3.resolve_left (by omega)
  show (if Goes b w S n a then H a else none) = _
  rw [if_pos ⟨h5, k, m, hk, hm, hl, ha⟩]
theorem gSet_ex (r : Rp K b w S H) (n : Nat) : Ex w.G (gSet b w S n H) ∧ Ex (gSet b w S n H) H := by
  refine ⟨fun a o e => ?_, fun a o e => ?_⟩
  · unfold gSet; rw [e]
  · unfold gSet at e
    cases q : w.G a with
    | some u => rw [q] at e; cases e; exact r.ex a _ q
    | none =>
      rw [q] at e
      have e : (if Goes b w S n a then H a else none) = some o := e
      split at e
      · exact e
      · cases e
theorem Fz.is (r : Rp K b w S H) {n : Nat} (hn : b.as0.length ≤ n) {x : R} {d : D} (h : Fz S n x d) : ∀ v, IsR K b.B w x v → Is K (gSet b w S n H) d v := by
  have hg := (gSet_ex r n).1
  have go : ∀ {k : Nat} {v : V} {m : Node}, n ≤ k → S[k]? = some m → m.live = true → IsR K b.B w (.loc k) v → ∃ a, v = .ref a ∧ gSet b w S n H a = H a ∧ NodeAt K b.B w H a m := fun {k v m} hk hm hl ⟨a, h1, h2⟩ => by
    obtain ⟨a', h3, _, _, h4⟩ := r.at_ k m hm hl
    rw [h1] at h3
    cases h3
    exact ⟨a, h2, r.kn hn hk hm hl h1, h4⟩
  refine Fz.rec (motive_1 := fun x d _ => ∀ v, IsR K b.B w x v → Is K (gSet b w S n H) d v) (motive_2 := fun xs ds _ => ∀ vs, IsRs K b.B w xs vs → IsL K (gSet b w S n H) ds vs)
    (fun d v hv => Is.mono hg d v hv) ?_ ?_ ?_ ?_ (fun vs h => h) (fun _ _ i1 i2 vs ⟨v, t, e, h1, h2⟩ => ⟨v, t, e, i1 v h1, i2 t h2⟩) h
  · intro k rs ds hk hm _ ih v hv
    obtain ⟨a, e, g, ⟨vs, h1, h2⟩⟩ := go hk hm rfl hv
    exact ⟨a, vs, e, .inl (.inl (g.trans h1)), ih vs h2⟩
  · intro k ks rs ds hk hm _ ih v hv
    obtain ⟨a, e, g, ⟨vs, h1, z, h2⟩⟩ := go hk hm rfl hv
    exact ⟨a, vs, e, g.trans h1, z, ih vs h2⟩
  · intro k ks rs ds hk hm _ ih v hv
    obtain ⟨a, e, g, ⟨vs, h1, z, h2⟩⟩ := go hk hm rfl hv
    exact ⟨a, vs, e, .inl (g.trans h1), z, ih vs h2⟩
  · intro k C ks rs ds hk hm _ ih v hv
    obtain ⟨a, e, g, ⟨dx, vs, h1, z, h2⟩⟩ := go hk hm rfl hv
    exact ⟨a, dx, vs, e, g.trans h1, z, ih vs h2⟩
theorem Rp.settle (r : Rp K b w S H) {n : Nat} (hn : n ≤ S.length) (h0 : b.as0.length ≤ n) (ho : (S.take n).all (Node.okB n) = true) : Rp K b ⟨gSet b w S n H, w.as.take n⟩ (S.take n) H := by
  have c := r.cut hn h0 ho
  have l : Le (⟨w.G, w.as.take n⟩ : Wd) ⟨gSet b w S n H, w.as.take n⟩ := ⟨(gSet_ex r n).1, [], by simp⟩
  refine ⟨(gSet_ex r n).2, c.len, c.pre, fun k m hm hl => ?_, c.inj, r.fr, r.th, fun a o e => ?_⟩
  · obtain ⟨a, h1, h2, h3, h4⟩ := c.at_ k m hm hl
    refine ⟨a, h1, ?_, h3, h4.move l rfl⟩
    have h2 : w.G a = none := h2
    show gSet b w S n H a = none
    unfold gSet
    rw [h2]
    show (if Goes b w S n a then H a else none) = _
    refine if_neg ?_
    rintro ⟨z, k2, m2, hk2, hm2, hl2, ha2⟩
    have h1 : (w.as.take n)[k]? = some a := h1
    obtain ⟨kn, h1⟩ := take_get h1
    obtain ⟨_, hm3⟩ := take_get hm
    have := r.inj k k2 m m2 a hm3 hl hm2 hl2 h1 ha2
    omega
  · have e : gSet b w S n H a = some o := e
    unfold gSet at e
    cases q : w.G a with
    | some u => rw [q] at e; cases e; exact r.gn a _ q
    | none =>
      rw [q] at e
      have e : (if Goes b w S n a then H a else none) = some o := e
      split at e
      · rename_i z; exact .inr (.inl z.1)
      · cases e
end
end DL
set_option Elab.async false
set_option linter.all false
set_option maxRecDepth 100000
set_option maxHeartbeats 4000000
namespace DL
open PySem PySem.Spec PyProof.Rows
open L2 hiding Takes passAt takes_of ps_raise PMk ps_try_as
open L2N (Takes passAt takes_of ps_raise PMk ps_try_as)

/-! ### a def -/
structure FnD (g : Gd) (k : Nat) (f : Addr) (ps : List Str) (s : DSp) : Prop where
  fd : ∃ fd, FnOk g.prog g.w g.K g.mg g.base (L2N.CX g.prog g.w) k f fd ps (spD g.K s) ∧ Binds g.K fd ps []
  kp : PySem.W.keepIn g.K (.ref f) = true
def RetC (n0 : Nat) (Ψ : R → Sto → Prop) (r : R) (S' : Sto) : Prop := ∃ n, n0 ≤ n ∧ n ≤ S'.length ∧ (S'.take n).all (Node.okB n) = true ∧
  ((r.okB n = true ∧ Ψ r (S'.take n)) ∨ ∃ d, Fz S' n r d ∧ Ψ (.val d) (S'.take n))
def RaiC (n0 : Nat) (ξ : Addr → List Str → List D → Sto → Prop) : Xi := fun C fs ds _ S' => ∃ n, n0 ≤ n ∧ n ≤ S'.length ∧ (S'.take n).all (Node.okB n) = true ∧ ξ C fs ds (S'.take n)
def locB (sc : Scope) (x : Str) : Bool := decide (sc.names.lookup x = some .local) || decide (sc.names.lookup x = some .cell)
def visB (N : List Str) (vis : List (Str × Nat)) : Bool := vis.all fun p => decide (N[p.2]? = some p.1)
def scB (vis : List (Str × Nat)) (gl : List Str) (sc : Scope) : Bool := vis.all (fun p => locB sc p.1 && plainName p.1) && gl.all fun x => decide (sc.names.lookup x = some .globalImplicit) && plainName x
theorem locB_ok {sc : Scope} {x : Str} (h : locB sc x = true) : Loc sc x := by
  rcases Bool.or_eq_true_iff.mp h with h | h
  · exact .inl (of_decide_eq_true h)
  · exact .inr (of_decide_eq_true h)
theorem IsRs.start {K : PySem.W.Frag} {b : Base} {w : Wd} {rs : List R} {vs : List V} (h : IsRs K b.B w rs vs) (N : List Str) : EnvIs K b w (rs.map some ++ List.replicate (N.length - rs.length) none) (start N vs) := by
  refine ⟨by simp [L2.start, h.length], fun i r e => ?_⟩
  by_cases hi : i < rs.length
  · rw [List.getElem?_append_left (by simpa using hi), List.getElem?_map] at e
    cases q : rs[i]? with
    | none => rw [q] at e; cases e
    | some r' =>
      rw [q] at e; cases e
      obtain ⟨v, h1, h2⟩ := h.get q
      refine ⟨v, ?_, h2⟩
      have := (List.getElem?_eq_some_iff.mp h1).1
      unfold L2.start
      rw [List.getElem?_append_left (by simpa using this), List.getElem?_map, h1]; rfl
  · rw [List.getElem?_append_right (by simpa using hi), List.getElem?_replicate] at e
    split at e <;> cases e
section
variable {g : Gd} {k : Nat} {f : Addr} {ps : List Str} {s : DSp} {fd : FuncData} {x qual : Str} {params : Arguments} {body : List Stmt} {scope : Scope} {N gl : List Str}
theorem okC_def {vis : List (Str × Nat)} {cdv : Value} {A : Around} {outer : List PySem.Env} {sh : Shared} {H : Hp} {E : XK} {xi : Xi} {n0 : Nat} (hv : visB N vis = true) (nd : N.Nodup) (sc : scB vis gl scope = true)
    (hr : Room k (A.deeper (envOfC qual scope sh.heap.objs.size f cdv))) :
    OkC (cxOf (L2N.CX g.prog g.w) g.prog g.w g.K g.mg g.base N qual scope f cdv A outer sh H E) ⟨g, N, scope, vis, vis, gl, k, true, n0, xi, ⟨true, none, none⟩⟩ := by
  obtain ⟨s1, s2⟩ := Bool.and_eq_true_iff.mp sc
  have hN : ∀ p ∈ vis, N[p.2]? = some p.1 ∧ locB scope p.1 = true ∧ plainName p.1 = true := fun p hp =>
    ⟨of_decide_eq_true (List.all_eq_true.mp hv p hp), Bool.and_eq_true_iff.mp (List.all_eq_true.mp s1 p hp)⟩
  refine ⟨rfl, rfl, rfl, nd, fun p hp => ?_, fun p hp => ?_, fun x hx => ?_, fun _ => ⟨rfl, hr⟩, ?_, passes_of rfl, (fun _ z => nomatch z), (fun _ z => nomatch z), fun _ => ⟨rfl, rfl⟩⟩
  · obtain ⟨h1, h2, h3⟩ := hN p hp
    exact ⟨h1, (locB_ok h2).elim (fun h => .inl h) (fun h => .inr (.inl h)), h3⟩
  · obtain ⟨h1, h2, h3⟩ := hN p hp
    exact ⟨h1, locB_ok h2, .inl rfl⟩
  · obtain ⟨h1, h2⟩ := Bool.and_eq_true_iff.mp (List.all_eq_true.mp s2 x hx)
    have h3 : scope.names.lookup x = some .globalImplicit := of_decide_eq_true h1
    exact ⟨h3, h2⟩
  · have := hr.un
    show (A.deeper (envOfC qual scope sh.heap.objs.size f cdv)).units + 100 < cLine
    omega
theorem ret_ok {K : PySem.W.Frag} {b : Base} {w0 w : Wd} {S0 S' : Sto} {H : Hp} {r : R} {v : V} {Ψ : R → Sto → Prop} {Q : VK} (hb : b.as0 = w0.as) (l0 : w0.as.length = S0.length)
    (hQ : ∀ w' S' H' r v, Le w0 w' → Rp K b w' S' H' → IsR K b.B w' r v → R.okB S'.length r = true → S'.all (Node.okB S'.length) = true → Ψ r S' → Q v H') (le : Le w0 w) (rp : Rp K b w S' H) (hr : IsR K b.B w r v) (h : RetC S0.length Ψ r S') : Q v H := by
  obtain ⟨n, h1, h2, h3, h4⟩ := h
  have e0 : b.as0.length ≤ n := by rw [hb, l0]; exact h1
  have el : (S'.take n).length = n := by simp; omega
  obtain ⟨t, et⟩ := le.a
  have ea : ∃ u, w.as.take n = w0.as ++ u := ⟨t.take (n - w0.as.length), by rw [et, List.take_append, List.take_of_length_le (by rw [l0]; exact h1)]⟩
  rcases h4 with ⟨h4, h5⟩ | ⟨d, h4, h5⟩
  · exact hQ ⟨w.G, w.as.take n⟩ _ H r v ⟨le.g, ea⟩ (rp.cut h2 e0 h3) (hr.cut h4) (by rw [el]; exact h4) (by rw [el]; exact h3) h5
  · exact hQ ⟨gSet b w S' n H, w.as.take n⟩ _ H (.val d) v ⟨le.g.trans (gSet_ex rp n).1, ea⟩ (rp.settle h2 e0 h3) (Fz.is rp e0 h4 v hr) rfl (by rw [el]; exact h3) h5
/-- THE RULE for a def -/
theorem fn_mkX (F : FunD g.K x qual params body scope [] [] f fd) (hb : Binds g.K fd ps []) (Sc : FnScope N ps scope) (vis : List (Str × Nat)) (hv : visB N vis = true) (sc : scB vis gl scope = true)
    (len : ∀ rs S Ψ ξ, s rs S Ψ ξ → rs.length = ps.length)
    (hbody : ∀ rs S Ψ ξ, s rs S Ψ ξ → WSs ⟨g, N, scope, vis, vis, gl, k, true, S.length, RaiC S.length ξ, ⟨true, none, none⟩⟩ body (rs.map some ++ List.replicate (N.length - rs.length) none) S ⟨fun _ S' => RetC S.length Ψ (.val .non) S', RetC S.length Ψ, fun _ _ => False, fun _ _ => False⟩) :
    FnOk g.prog g.w g.K g.mg g.base (L2N.CX g.prog g.w) (k + 1) f fd ps (spD g.K s) := by
  refine F.ok Sc (fun vs H Q E h => ?_) (fun cdv A outer sh H vs Q E hr h => ⟨cSs _ body, cSs_ok, ?_⟩)
  · obtain ⟨w, S, rs, Ψ, ξ, _, h2, h3, _⟩ := h
    rw [← h2.length]; exact len _ _ _ _ h3
  · obtain ⟨w, S, rs, Ψ, ξ, rp, hrs, hs, hQ, hE⟩ := h
    refine hbody rs S Ψ ξ hs _ (fun cls d _ H => E cls d H) ⟨H, w.G, w.as⟩ (okC_def hv Sc.nd sc hr) (takes_of rfl rfl rfl rfl) w _ H rp (hrs.start N) ?_ _ ?_
    · refine ⟨Nat.le_of_eq rp.len, ?_⟩
      intro w' S' H' σ' env' C fs ds d vs' le rp' en hd hl his ⟨n, h1, h2, h3, h4⟩
      have le := le.le (Nat.le_of_eq rp.len)
      have el : (S'.take n).length = n := by simp; omega
      obtain ⟨t, et⟩ := le.a
      refine hE ⟨w'.G, w'.as.take n⟩ _ H' C fs ds d vs' ⟨le.g, t.take (n - w.as.length), ?_⟩ (rp'.cut h2 (by show w.as.length ≤ n; rw [rp.len]; exact h1) h3) (by rw [el]; exact h3) hd hl his h4
      show w'.as.take n = _
      rw [et, List.take_append, List.take_of_length_le (by rw [rp.len]; exact h1)]
    · refine ⟨?_, ?_, fun _ _ _ _ _ _ _ _ z => z.elim, fun _ _ _ _ _ _ _ _ z => z.elim⟩
      · intro w' S' H' env' σ' le rp' en h
        have le := le.le (Nat.le_of_eq rp.len)
        exact ret_ok (w0 := w) (v := V.non) (r := .val .non) (Q := Q) rfl rp.len hQ le rp' rfl h
      · intro w' S' H' r v le rp' hr' h
        have le := le.le (Nat.le_of_eq rp.len)
        exact ret_ok (w0 := w) rfl rp.len hQ le rp' hr' h
theorem fn_mk (F : FunD g.K x qual params body scope [] [] f fd) (hb : Binds g.K fd ps []) (Sc : FnScope N ps scope) (vis : List (Str × Nat)) (hv : visB N vis = true) (sc : scB vis gl scope = true)
    (len : ∀ rs S Ψ ξ, s rs S Ψ ξ → rs.length = ps.length)
    (hbody : ∀ rs S Ψ ξ, s rs S Ψ ξ → WSs ⟨g, N, scope, vis, vis, gl, k, true, S.length, RaiC S.length ξ, ⟨true, none, none⟩⟩ body (rs.map some ++ List.replicate (N.length - rs.length) none) S ⟨fun _ S' => RetC S.length Ψ (.val .non) S', RetC S.length Ψ, fun _ _ => False, fun _ _ => False⟩) :
    FnD g (k + 1) f ps s := ⟨⟨fd, fn_mkX F hb Sc vis hv sc len hbody, hb⟩, F.kp⟩
end
end DL
set_option Elab.async false
set_option linter.all false
set_option maxRecDepth 100000
set_option maxHeartbeats 4000000
namespace DL
open PySem PySem.Spec PyProof.Rows
open L2 hiding Takes passAt takes_of ps_raise PMk ps_try_as
open L2N (Takes passAt takes_of ps_raise PMk ps_try_as)

/-! ### into a call and back: the objects ks go along, under the numbers 0, 1, .. -/
def rho (ks : List Nat) (n j : Nat) : Nat := match ks[j]? with
  | some k => k
  | none => n + (j - ks.length)
def R.ren (f : Nat → Nat) : R → R
  | .val d => .val d
  | .loc k => .loc (f k)
  | .bor ds => .bor ds
def Node.ren (f : Nat → Nat) : Node → Node
  | .lst rs => .lst (rs.map (R.ren f))
  | .dK ks rs => .dK ks (rs.map (R.ren f))
  | .dT ks rs => .dT ks (rs.map (R.ren f))
  | .ins C fs rs => .ins C fs (rs.map (R.ren f))
  | .lkT o ks rs => .lkT o ks (rs.map (R.ren f))
  | .dead => .dead
theorem Node.ren_live (f : Nat → Nat) (n : Node) : (n.ren f).live = n.live := by cases n <;> rfl
def upS (f : Nat → Nat) : List Nat → Sto → Sto → Sto
  | k :: ks, S, m :: ms => upS f ks (S.set k (m.ren f)) ms
  | _, S, _ => S
def backS (ks : List Nat) (S T : Sto) : Sto := upS (rho ks S.length) ks S T ++ (T.drop ks.length).map (Node.ren (rho ks S.length))
theorem upS_len (f : Nat → Nat) : ∀ (ks : List Nat) (S T : Sto), (upS f ks S T).length = S.length
  | [], S, T => by cases T <;> rfl
  | k :: ks, S, [] => rfl
  | k :: ks, S, m :: ms => by rw [upS, upS_len f ks, List.length_set]
theorem upS_get {f : Nat → Nat} : ∀ {ks : List Nat} {S T : Sto} {k : Nat} {n : Node}, ks.Nodup → (∀ i ∈ ks, i < S.length) → ks.length ≤ T.length → (upS f ks S T)[k]? = some n →
    (∃ (j : Nat) (m : Node), ks[j]? = some k ∧ T[j]? = some m ∧ n = m.ren f) ∨ (k ∉ ks ∧ S[k]? = some n)
  | [], S, T, k, n, _, _, _, e => .inr ⟨by simp, by cases T <;> exact e⟩
  | i :: ks, S, [], k, n, _, _, hl, e => by simp at hl
  | i :: ks, S, m :: ms, k, n, nd, hb, hl, e => by
    obtain ⟨n1, n2⟩ := List.nodup_cons.mp nd
    have e : (upS f ks (S.set i (m.ren f)) ms)[k]? = some n := e
    rcases upS_get n2 (fun z hz => by rw [List.length_set]; exact hb z (List.mem_cons_of_mem _ hz)) (by simpa using hl) e with ⟨j, m', h1, h2, h3⟩ | ⟨h1, h2⟩
    · exact .inl ⟨j + 1, m', by simpa using h1, by simpa using h2, h3⟩
    · rcases set_get h2 with ⟨z, q, _⟩ | ⟨z, q⟩
      · exact .inl ⟨0, m, by simp [z], by simp, q⟩
      · exact .inr ⟨by simp [h1, z], q⟩
inductive ArgP (S : Sto) (ks : List Nat) : R → R → Prop where
  | val (d : D) : ArgP S ks (.val d) (.val d)
  | bor (ds : List D) : ArgP S ks (.bor ds) (.bor ds)
  | vbor (ds : List D) : ArgP S ks (.val (.lst ds)) (.bor ds)
  | lbor {k : Nat} {ds : List D} : S[k]? = some (.lst (ds.map .val)) → k ∉ ks → ArgP S ks (.loc k) (.bor ds)
  | loc {j k : Nat} : ks[j]? = some k → ArgP S ks (.loc k) (.loc j)
inductive ArgsP (S : Sto) (ks : List Nat) : List R → List R → Prop where
  | nil : ArgsP S ks [] []
  | cons {r r' : R} {rs rs' : List R} : ArgP S ks r r' → ArgsP S ks rs rs' → ArgsP S ks (r :: rs) (r' :: rs')
/-- the objects ks of S are T in the callee's numbers -/
structure PassS (ks : List Nat) (S T : Sto) : Prop where
  nd : ks.Nodup
  len : T.length = ks.length
  at_ : ∀ (j k : Nat), ks[j]? = some k → ∃ n : Node, T[j]? = some n ∧ n.live = true ∧ S[k]? = some (n.ren (rho ks S.length))
  ok : T.all (Node.okB ks.length) = true
theorem PassS.nil {S : Sto} : PassS [] S [] := ⟨List.nodup_nil, rfl, fun j k e => by simp at e, rfl⟩
theorem backS_nil (S : Sto) : backS [] S [] = S := by simp [backS, upS]
theorem nodup_ix' {N : List Nat} (hN : N.Nodup) {i j : Nat} {x : Nat} (a : N[i]? = some x) (b : N[j]? = some x) : i = j := by
  obtain ⟨h1, e1⟩ := List.getElem?_eq_some_iff.mp a
  obtain ⟨h2, e2⟩ := List.getElem?_eq_some_iff.mp b
  exact (List.getElem_inj hN).mp (e1.trans e2.symm)
def asC (w : Wd) (ks : List Nat) : List Addr := ks.map fun k => w.as.getD k 0
section
variable {K : PySem.W.Frag} {b : Base} {w wc : Wd} {S T T' : Sto} {H H' : Hp} {ks : List Nat}
theorem asC_get {j : Nat} {a : Addr} : (asC w ks)[j]? = some a ↔ ∃ k, ks[j]? = some k ∧ w.as.getD k 0 = a := by
  unfold asC
  rw [List.getElem?_map]
  cases q : ks[j]? with
  | none => simp
  | some k => simp
theorem getD_of {k : Nat} {a : Addr} (h : w.as[k]? = some a) : w.as.getD k 0 = a := by rw [List.getD_eq_getElem?_getD, h]; rfl
/-- an address that goes along -/
theorem PassS.adr (p : PassS ks S T) (r : Rp K b w S H) {j k : Nat} (h : ks[j]? = some k) : ∃ (n : Node) (a : Addr), T[j]? = some n ∧ n.live = true ∧ S[k]? = some (n.ren (rho ks S.length)) ∧ w.as[k]? = some a ∧ w.G a = none ∧ (k < b.as0.length ∨ b.H0 a = none) ∧
    NodeAt K b.B w H a (n.ren (rho ks S.length)) ∧ (asC w ks)[j]? = some a := by
  obtain ⟨n, h1, h2, h3⟩ := p.at_ j k h
  obtain ⟨a, h4, h5, h6, h7⟩ := r.at_ k _ h3 (by rw [Node.ren_live]; exact h2)
  exact ⟨n, a, h1, h2, h3, h4, h5, h6, h7, asC_get.mpr ⟨k, h, getD_of h4⟩⟩
theorem PassS.inAs (p : PassS ks S T) (r : Rp K b w S H) {a : Addr} (h : a ∈ asC w ks) : ∃ (j k : Nat) (n : Node), ks[j]? = some k ∧ T[j]? = some n ∧ n.live = true ∧ S[k]? = some (n.ren (rho ks S.length)) ∧ w.as[k]? = some a ∧ (k < b.as0.length ∨ b.H0 a = none) := by
  obtain ⟨j, hj⟩ := List.getElem?_of_mem h
  obtain ⟨k, hk, e⟩ := asC_get.mp hj
  obtain ⟨n, a', h1, h2, h3, h4, h5, h6, h7, h8⟩ := p.adr r hk
  rw [hj] at h8
  cases h8
  exact ⟨j, k, n, hk, h1, h2, h3, h4, h6⟩
theorem IsR.into (hk : ∀ (j : Nat) (k : Nat), ks[j]? = some k → ∃ a, w.as[k]? = some a) {B B' : Hp} {n : Nat} : ∀ {r : R} {v : V}, r.okB ks.length = true → IsR K B w (r.ren (rho ks n)) v → IsR K B' ⟨w.G, asC w ks⟩ r v
  | .val _, _, _, h => h
  | .loc j, v, o, ⟨a, h, e⟩ => by
    have hj : j < ks.length := of_decide_eq_true o
    refine ⟨a, asC_get.mpr ⟨ks[j], by simp [hj], getD_of ?_⟩, e⟩
    have : rho ks n j = ks[j] := by unfold rho; rw [List.getElem?_eq_getElem hj]
    rw [← this]; exact h
  | .bor _, _, o, _ => by cases o
theorem IsRs.into (hk : ∀ (j : Nat) (k : Nat), ks[j]? = some k → ∃ a, w.as[k]? = some a) {B B' : Hp} {n : Nat} : ∀ {rs : List R} {vs : List V}, rs.all (R.okB ks.length) = true → IsRs K B w (rs.map (R.ren (rho ks n))) vs → IsRs K B' ⟨w.G, asC w ks⟩ rs vs
  | [], _, _, h => h
  | r :: rs, _, o, ⟨v, t, e, h1, h2⟩ => by
    obtain ⟨o1, o2⟩ := Bool.and_eq_true_iff.mp (show (r.okB ks.length && rs.all (R.okB ks.length)) = true from o)
    exact ⟨v, t, e, h1.into hk o1, IsRs.into hk o2 h2⟩
theorem NodeAt.into (hk : ∀ (j : Nat) (k : Nat), ks[j]? = some k → ∃ a, w.as[k]? = some a) {B B' : Hp} {a : Addr} {n : Nat} : ∀ {m : Node}, m.okB ks.length = true → NodeAt K B w H a (m.ren (rho ks n)) → NodeAt K B' ⟨w.G, asC w ks⟩ H a m
  | .lst _, o, ⟨vs, h, t⟩ => ⟨vs, h, t.into hk o⟩
  | .dK _ _, o, ⟨vs, h, z, t⟩ => ⟨vs, h, z, t.into hk o⟩
  | .dT _ _, o, ⟨vs, h, z, t⟩ => ⟨vs, h, z, t.into hk o⟩
  | .ins _ _ _, o, ⟨dx, vs, h, z, t⟩ => ⟨dx, vs, h, z, t.into hk o⟩
  | .lkT _ _ _, o, ⟨vs, h, z, t⟩ => ⟨vs, h, z, t.into hk o⟩
theorem PassS.hk (p : PassS ks S T) (r : Rp K b w S H) : ∀ (j : Nat) (k : Nat), ks[j]? = some k → ∃ a, w.as[k]? = some a := fun j k e => by
  obtain ⟨n, a, _, _, _, h, _⟩ := p.adr r e
  exact ⟨a, h⟩
theorem Rp.into (r : Rp K b w S H) (p : PassS ks S T) : Rp K ⟨H, w.G, asC w ks⟩ ⟨w.G, asC w ks⟩ T H := by
  have hj : ∀ (j : Nat) (n : Node), T[j]? = some n → ∃ k, ks[j]? = some k := fun j n e => by
    have := (List.getElem?_eq_some_iff.mp e).1
    exact ⟨ks[j]'(by rw [← p.len]; exact this), by simp [← p.len, this]⟩
  refine ⟨r.ex, by simp [asC, p.len], ⟨[], by simp⟩, fun j n hn hl => ?_, fun j j' m m' a h1 l1 h2 l2 h3 h4 => ?_, fun _ _ e _ => e, fun _ o e => ⟨o, e⟩, fun _ _ e => .inl e⟩
  · obtain ⟨k, hk⟩ := hj j n hn
    obtain ⟨n', a, h1, h2, h3, h4, h5, h6, h7, h8⟩ := p.adr r hk
    rw [hn] at h1
    cases h1
    exact ⟨a, h8, h5, .inl (List.getElem?_eq_some_iff.mp h8).1, h7.into (p.hk r) (all_get p.ok hn)⟩
  · obtain ⟨k, hk⟩ := hj j m h1
    obtain ⟨k', hk'⟩ := hj j' m' h2
    obtain ⟨n1, a1, g1, g2, g3, g4, _, _, _, g8⟩ := p.adr r hk
    obtain ⟨n2, a2, q1, q2, q3, q4, _, _, _, q8⟩ := p.adr r hk'
    have h3 : (asC w ks)[j]? = some a := h3
    have h4 : (asC w ks)[j']? = some a := h4
    rw [h3] at g8; cases g8
    rw [h4] at q8; cases q8
    have e := r.inj k k' _ _ a g3 (by rw [Node.ren_live]; exact g2) q3 (by rw [Node.ren_live]; exact q2) g4 q4
    subst e
    exact nodup_ix' p.nd hk hk'
theorem ArgP.is (r : Rp K b w S H) (p : PassS ks S T) {x y : R} (h : ArgP S ks x y) {v : V} (hv : IsR K b.B w x v) : IsR K (Base.B ⟨H, w.G, asC w ks⟩) ⟨w.G, asC w ks⟩ y v := by
  cases h with
  | val d => exact hv
  | bor ds =>
    obtain ⟨q, vs, e, h1, h2⟩ := hv
    refine ⟨q, vs, e, h1.imp id fun h1 => Base.B_of (fun hm => ?_) (r.bw _ _ h1), h2⟩
    obtain ⟨z1, z2⟩ := Base.B_some h1
    obtain ⟨j, k, n, h3, h4, h5, h6, h7, h8⟩ := p.inAs r hm
    rcases h8 with h8 | h8
    · exact z1 (r.in0 h7 h8)
    · rw [h8] at z2; cases z2
  | vbor ds =>
    obtain ⟨q, vs, e, h1, h2⟩ := hv
    exact ⟨q, vs, e, .inl h1, h2⟩
  | lbor h1 h2 =>
    obtain ⟨a, h3, e⟩ := hv
    obtain ⟨a', h4, _, _, vs, h5, h6⟩ := r.at_ _ _ h1 rfl
    rw [h3] at h4
    cases h4
    have h6 : IsL K w.G _ vs := IsRs.vals.mp h6
    refine ⟨a, vs, e, .inr (Base.B_of (fun hm => ?_) h5), h6⟩
    obtain ⟨j, k, n, g3, g4, g5, g6, g7, _⟩ := p.inAs r hm
    have := r.inj _ _ _ _ a h1 rfl g6 (by rw [Node.ren_live]; exact g5) h3 g7
    subst this
    exact h2 (List.mem_of_getElem? g3)
  | loc h1 =>
    obtain ⟨a, h3, e⟩ := hv
    exact ⟨a, asC_get.mpr ⟨_, h1, getD_of h3⟩, e⟩
theorem ArgsP.is (r : Rp K b w S H) (p : PassS ks S T) : ∀ {x y : List R} (h : ArgsP S ks x y) {v : List V}, IsRs K b.B w x v → IsRs K (Base.B ⟨H, w.G, asC w ks⟩) ⟨w.G, asC w ks⟩ y v
  | _, _, .nil, _, h => h
  | _, _, .cons h1 h2, _, ⟨v, t, e, g1, g2⟩ => ⟨v, t, e, h1.is r p g1, ArgsP.is r p h2 g2⟩
/-- the world behind the call -/
def backW (w wc : Wd) (ks : List Nat) : Wd := ⟨wc.G, w.as ++ wc.as.drop ks.length⟩
theorem back_at (r : Rp K b w S H) (l : Le ⟨w.G, asC w ks⟩ wc) (hk : ∀ (j : Nat) (k : Nat), ks[j]? = some k → ∃ a, w.as[k]? = some a) {j : Nat} {a : Addr} (h : wc.as[j]? = some a) : (backW w wc ks).as[rho ks S.length j]? = some a := by
  show (w.as ++ wc.as.drop ks.length)[rho ks S.length j]? = some a
  unfold rho
  cases q : ks[j]? with
  | some k =>
    obtain ⟨a', ha'⟩ := hk j k q
    have := l.at_ (show (Wd.mk w.G (asC w ks)).as[j]? = some a' from asC_get.mpr ⟨k, q, getD_of ha'⟩)
    rw [h] at this
    cases this
    rw [List.getElem?_append_left (List.getElem?_eq_some_iff.mp ha').1]
    exact ha'
  | none =>
    have hj := List.getElem?_eq_none_iff.mp q
    show (w.as ++ wc.as.drop ks.length)[S.length + (j - ks.length)]? = some a
    rw [List.getElem?_append_right (by rw [r.len]; omega), List.getElem?_drop, r.len]
    rw [show ks.length + (S.length + (j - ks.length) - S.length) = j by omega]
    exact h
theorem IsR.back (hat : ∀ (j : Nat) (a : Addr), wc.as[j]? = some a → (backW w wc ks).as[rho ks S.length j]? = some a) {B B' : Hp} {n : Nat} : ∀ {x : R} {v : V}, x.okB n = true → IsR K B wc x v → IsR K B' (backW w wc ks) (x.ren (rho ks S.length)) v
  | .val _, _, _, h => h
  | .loc j, v, o, ⟨a, h, e⟩ => ⟨a, hat j a h, e⟩
  | .bor _, _, o, _ => by cases o
theorem IsRs.back (hat : ∀ (j : Nat) (a : Addr), wc.as[j]? = some a → (backW w wc ks).as[rho ks S.length j]? = some a) {B B' : Hp} {n : Nat} : ∀ {xs : List R} {vs : List V}, xs.all (R.okB n) = true → IsRs K B wc xs vs → IsRs K B' (backW w wc ks) (xs.map (R.ren (rho ks S.length))) vs
  | [], _, _, h => h
  | x :: xs, _, o, ⟨v, t, e, h1, h2⟩ => by
    obtain ⟨o1, o2⟩ := Bool.and_eq_true_iff.mp (show (x.okB n && xs.all (R.okB n)) = true from o)
    exact ⟨v, t, e, h1.back hat o1, IsRs.back hat o2 h2⟩
theorem NodeAt.back (hat : ∀ (j : Nat) (a : Addr), wc.as[j]? = some a → (backW w wc ks).as[rho ks S.length j]? = some a) {B B' : Hp} {a : Addr} {n : Nat} : ∀ {m : Node}, m.okB n = true → NodeAt K B wc H' a m → NodeAt K B' (backW w wc ks) H' a (m.ren (rho ks S.length))
  | .lst _, o, ⟨vs, h, t⟩ => ⟨vs, h, t.back hat o⟩
  | .dK _ _, o, ⟨vs, h, z, t⟩ => ⟨vs, h, z, t.back hat o⟩
  | .dT _ _, o, ⟨vs, h, z, t⟩ => ⟨vs, h, z, t.back hat o⟩
  | .ins _ _ _, o, ⟨dx, vs, h, z, t⟩ => ⟨dx, vs, h, z, t.back hat o⟩
  | .lkT _ _ _, o, ⟨vs, h, z, t⟩ => ⟨vs, h, z, t.back hat o⟩
theorem Le.back (l : Le ⟨w.G, asC w ks⟩ wc) : Le w (backW w wc ks) := ⟨l.g, _, rfl⟩
theorem Rp.back (r : Rp K b w S H) (p : PassS ks S T) (l : Le ⟨w.G, asC w ks⟩ wc) (r' : Rp K ⟨H, w.G, asC w ks⟩ wc T' H') (ok : T'.all (Node.okB T'.length) = true) : Rp K b (backW w wc ks) (backS ks S T') H' := by
  have hk := p.hk r
  have hat : ∀ (j : Nat) (a : Addr), wc.as[j]? = some a → (backW w wc ks).as[rho ks S.length j]? = some a := fun j a h => back_at r l hk h
  obtain ⟨t, et⟩ := l.a
  have et : wc.as = asC w ks ++ t := et
  have lm : ks.length ≤ T'.length := by rw [← r'.len, et]; simp [asC]
  have hb : ∀ i ∈ ks, i < S.length := fun i hi => by
    obtain ⟨j, hj⟩ := List.getElem?_of_mem hi
    obtain ⟨a, ha⟩ := hk j i hj
    rw [← r.len]; exact (List.getElem?_eq_some_iff.mp ha).1
  -- what an index is
  have cls : ∀ (k : Nat) (n : Node), (backS ks S T')[k]? = some n → n.live = true →
      (∃ (j : Nat) (m : Node), k = rho ks S.length j ∧ T'[j]? = some m ∧ n = m.ren (rho ks S.length)) ∨ (k ∉ ks ∧ k < S.length ∧ S[k]? = some n) := fun k n e hl => by
    unfold backS at e
    by_cases hk' : k < S.length
    · rw [List.getElem?_append_left (by rw [upS_len]; exact hk')] at e
      rcases upS_get p.nd hb lm e with ⟨j, m, h1, h2, h3⟩ | ⟨h1, h2⟩
      · exact .inl ⟨j, m, by unfold rho; rw [h1], h2, h3⟩
      · exact .inr ⟨h1, hk', h2⟩
    · rw [List.getElem?_append_right (by rw [upS_len]; omega), upS_len, List.getElem?_map, List.getElem?_drop] at e
      cases q : T'[ks.length + (k - S.length)]? with
      | none => rw [q] at e; cases e
      | some m =>
        rw [q] at e; cases e
        refine .inl ⟨ks.length + (k - S.length), m, ?_, q, rfl⟩
        unfold rho
        rw [List.getElem?_eq_none (by omega)]
        show k = S.length + (ks.length + (k - S.length) - ks.length)
        omega
  have out : ∀ (k : Nat) (n : Node) (a : Addr), k ∉ ks → S[k]? = some n → n.live = true → w.as[k]? = some a → a ∉ asC w ks := fun k n a h1 h2 h3 h4 hm => by
    obtain ⟨j, k2, m, g1, g2, g3, g4, g5, _⟩ := p.inAs r hm
    have := r.inj k k2 _ _ a h2 h3 g4 (by rw [Node.ren_live]; exact g3) h4 g5
    subst this
    exact h1 (List.mem_of_getElem? g1)
  have wk : ∀ (k : Nat) (a : Addr), w.as[k]? = some a → (backW w wc ks).as[k]? = some a := fun k a h => (Le.back l).at_ h
  -- a callee's object at home
  have adr : ∀ (j : Nat) (m : Node), T'[j]? = some m → m.live = true → ∃ a : Addr, wc.as[j]? = some a ∧ wc.G a = none ∧ ((∃ (k : Nat) (n : Node), ks[j]? = some k ∧ S[k]? = some n ∧ n.live = true ∧ w.as[k]? = some a ∧ rho ks S.length j = k) ∨ (ks.length ≤ j ∧ H a = none)) ∧ NodeAt K (Base.B ⟨H, w.G, asC w ks⟩) wc H' a m := fun j m hm hl => by
    obtain ⟨a, h1, h2, h3, h4⟩ := r'.at_ j m hm hl
    refine ⟨a, h1, h2, ?_, h4⟩
    cases q : ks[j]? with
    | some k =>
      obtain ⟨n, a', g1, g2, g3, g4, _, _, _, g8⟩ := p.adr r q
      have := l.at_ (show (Wd.mk w.G (asC w ks)).as[j]? = some a' from g8)
      rw [h1] at this
      cases this
      exact .inl ⟨k, _, rfl, g3, by rw [Node.ren_live]; exact g2, g4, by unfold rho; rw [q]⟩
    | none =>
      have hj := List.getElem?_eq_none_iff.mp q
      refine .inr ⟨hj, h3.resolve_left fun z => ?_⟩
      have z : j < (asC w ks).length := z
      simp [asC] at z
      omega
  refine ⟨r'.ex, ?_, ?_, fun k n hn hl => ?_, fun k1 k2 n1 n2 a h1 l1 h2 l2 h3 h4 => ?_, fun a o e hb => ?_, fun a o e => ?_, fun a o e => ?_⟩
  · show (w.as ++ wc.as.drop ks.length).length = (backS ks S T').length
    unfold backS
    rw [List.length_append, List.length_append, upS_len, List.length_map, List.length_drop, List.length_drop, r.len, r'.len]
  · obtain ⟨u, e⟩ := r.pre
    exact ⟨u ++ wc.as.drop ks.length, by show w.as ++ _ = _; rw [e, List.append_assoc]⟩
  · rcases cls k n hn hl with ⟨j, m, e1, e2, e3⟩ | ⟨e1, e2, e3⟩
    · have hl' : m.live = true := by rw [e3, Node.ren_live] at hl; exact hl
      obtain ⟨a, h1, h2, h3, h4⟩ := adr j m e2 hl'
      refine ⟨a, by rw [e1]; exact hat j a h1, h2, ?_, by rw [e3]; exact h4.back hat (all_get ok e2)⟩
      rcases h3 with ⟨k', n', g1, g2, g3, g4, g5⟩ | ⟨g1, g2⟩
      · obtain ⟨a', q1, _, q3, _⟩ := r.at_ k' n' g2 g3
        rw [g4] at q1; cases q1
        rw [e1, g5]; exact q3
      · exact .inr (r.fresh0 g2)
    · obtain ⟨a, h1, h2, h3, h4⟩ := r.at_ k n e3 hl
      obtain ⟨o, ho⟩ := h4.has
      have na := out k n a e1 e3 hl h1
      refine ⟨a, wk k a h1, ?_, h3, h4.move (Le.back l) ((r'.fr a o ho na).trans ho.symm)⟩
      cases q : wc.G a with
      | none => exact q
      | some u =>
        rcases r'.gn a u q with z | z | ⟨us, z⟩
        · have z : w.G a = some u := z
          rw [h2] at z; cases z
        · have z : H a = none := z
          rw [ho] at z; cases z
        · subst z
          have y := (r'.fr a o ho na).symm.trans (r'.ex a _ q)
          rw [y] at ho
          exact (NodeAt.noTup ho h4).elim
  · have h3 : (backW w wc ks).as[k1]? = some a := h3
    have h4 : (backW w wc ks).as[k2]? = some a := h4
    have inS : ∀ (k : Nat), k < S.length → (backW w wc ks).as[k]? = some a → w.as[k]? = some a := fun k hk h => by
      have h : (w.as ++ wc.as.drop ks.length)[k]? = some a := h
      rw [List.getElem?_append_left (by rw [r.len]; exact hk)] at h
      exact h
    have mixed : ∀ (k1 k2 j : Nat) (m n : Node), k1 = rho ks S.length j → T'[j]? = some m → m.live = true → (backW w wc ks).as[k1]? = some a → k2 ∉ ks → k2 < S.length → S[k2]? = some n → n.live = true → (backW w wc ks).as[k2]? = some a → k1 = k2 := fun k1 k2 j m n e1 e2 e3 e4 f1 f2 f3 f4 f5 => by
      obtain ⟨a', g1, g2, g3, g4⟩ := adr j m e2 e3
      have := hat j a' g1
      rw [← e1, e4] at this
      cases this
      have w2 := inS k2 f2 f5
      rcases g3 with ⟨k', n', q1, q2, q3, q4, q5⟩ | ⟨q1, q2⟩
      · have := r.inj k' k2 n' n a q2 q3 f3 f4 q4 w2
        rw [e1, q5]; exact this
      · obtain ⟨a'', z1, _, _, z4⟩ := r.at_ k2 n f3 f4
        rw [w2] at z1; cases z1
        obtain ⟨o, ho⟩ := z4.has
        rw [q2] at ho; cases ho
    rcases cls k1 n1 h1 l1 with ⟨j, m, e1, e2, e3⟩ | ⟨e1, e2, e3⟩
    · have l1' : m.live = true := by rw [e3, Node.ren_live] at l1; exact l1
      rcases cls k2 n2 h2 l2 with ⟨j', m', f1, f2, f3⟩ | ⟨f1, f2, f3⟩
      · have l2' : m'.live = true := by rw [f3, Node.ren_live] at l2; exact l2
        obtain ⟨a1, g1, _⟩ := adr j m e2 l1'
        obtain ⟨a2, g2, _⟩ := adr j' m' f2 l2'
        have q1 := hat j a1 g1
        have q2 := hat j' a2 g2
        rw [← e1, h3] at q1
        rw [← f1, h4] at q2
        cases q1; cases q2
        rw [e1, f1, r'.inj j j' m m' a e2 l1' f2 l2' g1 g2]
      · exact mixed k1 k2 j m n2 e1 e2 l1' h3 f1 f2 f3 l2 h4
    · rcases cls k2 n2 h2 l2 with ⟨j', m', f1, f2, f3⟩ | ⟨f1, f2, f3⟩
      · have l2' : m'.live = true := by rw [f3, Node.ren_live] at l2; exact l2
        exact (mixed k2 k1 j' m' n1 f1 f2 l2' h4 e1 e2 e3 l1 h3).symm
      · exact r.inj k1 k2 n1 n2 a e3 l1 f3 l2 (inS k1 e2 h3) (inS k2 f2 h4)
  · refine r'.fr a o (r.fr a o e hb) fun hm => ?_
    obtain ⟨j, k, n, g1, g2, g3, g4, g5, g6⟩ := p.inAs r hm
    rcases g6 with g6 | g6
    · exact hb (r.in0 g5 g6)
    · rw [g6] at e; cases e
  · obtain ⟨u, hu⟩ := r.th a o e
    exact r'.th a u hu
  · rcases r'.gn a o e with z | z | z
    · exact r.gn a o z
    · exact .inr (.inl (r.fresh0 z))
    · exact .inr (.inr z)
end
end DL
set_option Elab.async false
set_option linter.all false
set_option maxRecDepth 100000
set_option maxHeartbeats 4000000
namespace DL
open PySem PySem.Spec PyProof.Rows
open L2 hiding Takes passAt takes_of ps_raise PMk ps_try_as
open L2N (Takes passAt takes_of ps_raise PMk ps_try_as)

/-! ### D lists that are read -/
abbrev nl (ds : List D) : Node := .lst (ds.map .val)
inductive SeqD (S : Sto) : R → List D → Prop where
  | tup (ds : List D) : SeqD S (.val (.tup ds)) ds
  | lst (ds : List D) : SeqD S (.val (.lst ds)) ds
  | bor (ds : List D) : SeqD S (.bor ds) ds
  | loc {k : Nat} {ds : List D} : S[k]? = some (nl ds) → SeqD S (.loc k) ds
section
variable {K : PySem.W.Frag} {b : Base} {w : Wd} {S : Sto} {H : Hp}
theorem SqL.ofR {p : Addr} {vs : List V} (rp : Rp K b w S H) (h : SqL K w.G p vs ∨ b.B p = some (.lst vs)) : SqL K H p vs := h.elim (fun h => rp.ex.l h) fun h => .inl (.inl (rp.bw _ _ h))
theorem SeqD.sq {r : R} {ds : List D} {v : V} (h : SeqD S r ds) (rp : Rp K b w S H) (hv : IsR K b.B w r v) : ∃ p vs, v = .ref p ∧ (SqL K H p vs ∨ SqT K H p vs) ∧ IsL K w.G ds vs := by
  cases h with
  | tup =>
    obtain ⟨p, vs, e, h1, h2⟩ := hv
    exact ⟨p, vs, e, .inr (SqT.of (rp.ex _ _ h1)), h2⟩
  | lst =>
    obtain ⟨p, vs, e, h1, h2⟩ := hv
    exact ⟨p, vs, e, .inl (rp.ex.l h1), h2⟩
  | bor =>
    obtain ⟨p, vs, e, h1, h2⟩ := hv
    exact ⟨p, vs, e, .inl (SqL.ofR rp h1), h2⟩
  | loc h1 =>
    obtain ⟨a, h2, e⟩ := hv
    obtain ⟨a', h3, _, _, vs, h4, h5⟩ := rp.at_ _ _ h1 rfl
    rw [h2] at h3; cases h3
    exact ⟨a, vs, e, .inl (SqL.of h4), IsRs.vals.mp h5⟩
end

/-! ### arguments, calls of built-ins -/
section
variable {C : DC} {env : Nv} {S : Sto} {Ψ : R → Sto → Prop} {Θ : Bool → Sto → Prop} {Φ : List R → Sto → Prop} {pos p2 : Pos} {a b e : Expr} {es : List Expr} {x : Str}
theorem wa_nil (h : Φ [] S) : WA C [] env S Φ := fun X W b ok tk w σ H r en xc Q n => ⟨_, pa_nil, n w S H [] [] (Le.refl _) r rfl h⟩
theorem wa_cons (h : WE C e env S fun r S1 => WA C es env S1 fun rs S2 => Φ (r :: rs) S2) (hs : ∀ X : Cx, starEach (e :: es) X.env = (false, eval e X.env) :: starEach es X.env) : WA C (e :: es) env S Φ := fun X W bb ok tk w σ H rp en xc Q n => by
  refine ⟨_, pa_cons cE_ok cA_ok (hs X), ?_⟩
  refine h X W bb ok tk w σ H rp en xc _ fun w1 S1 H1 x v l1 r1 i1 k1 => ?_
  refine k1 X W bb ok tk w1 σ H1 r1 (en.mono l1) (xc.mono l1) _ fun w2 S2 H2 y u l2 r2 i2 k2 => ?_
  exact n w2 S2 H2 _ _ (l1.trans l2) r2 (.cons (i1.mono l2) i2) k2
def cCall (X : Cx) (f : Value) : List V → Hp → VK → Prop := fun vs H Q => ∃ r, CallR X f r ∧ r vs H Q
theorem cCall_ok {X : Cx} {f : Value} : CallR X f (cCall X f) := fun pins s σ H xs us Q I r ⟨_, p, h⟩ => p pins s σ H xs us Q I r h
def WC (C : DC) (f : Value) (rs : List R) (S : Sto) (Ψ : R → Sto → Prop) : Prop := ∀ X b, OkC X C → ∀ w H, Rp C.g.K b w S H → ∀ vs, IsRs C.g.K b.B w rs vs → ∀ Q, NCov C.g.K b w Ψ Q → cCall X f vs H Q
theorem we_callB {id : String} (hx : InG x C.gl) (hm : C.g.mg x = none) (hv : bootBuiltins x = some (.builtin id)) (h : WA C (e :: es) env S fun rs S1 => WC C (.builtin id) rs S1 Ψ)
    (he : ∀ X : Cx, starEach (e :: es) X.env = (false, eval e X.env) :: starEach es X.env) (hp : ∀ X : Cx, (backTo pos (starEach es X.env)).any (·.1) = false) : WE C (.Call (.Name x p2) (e :: es) [] pos) env S Ψ := fun X W bb ok tk w σ H rp en xc Q n => by
  obtain ⟨h1, h2⟩ := ok.gl _ hx.mem
  obtain ⟨h4, h5, h6⟩ := plain_of h2
  refine ⟨_, pe_callB cCall_ok h1 (by have := ok.gd; rw [← this] at hm; exact hm) hv cA_ok h6 h4 (he X) (hp X), ?_⟩
  refine h X W bb ok tk w σ H rp en xc _ fun w1 S1 H1 rs vs l1 r1 i1 k1 => ?_
  exact k1 X bb ok w1 H1 r1 vs i1 Q (n.mono l1)
theorem we_callT {T : String} (hx : InG x C.gl) (hm : C.g.mg x = none) (hv : bootBuiltins x = some (.type T)) (h : WA C (e :: es) env S fun rs S1 => WC C (.type T) rs S1 Ψ)
    (he : ∀ X : Cx, starEach (e :: es) X.env = (false, eval e X.env) :: starEach es X.env) (hp : ∀ X : Cx, (backTo pos (starEach es X.env)).any (·.1) = false) : WE C (.Call (.Name x p2) (e :: es) [] pos) env S Ψ := fun X W bb ok tk w σ H rp en xc Q n => by
  obtain ⟨h1, h2⟩ := ok.gl _ hx.mem
  obtain ⟨h4, h5, h6⟩ := plain_of h2
  refine ⟨_, pe_callTy cCall_ok h1 (by have := ok.gd; rw [← this] at hm; exact hm) hv cA_ok h6 h4 (he X) (hp X), ?_⟩
  refine h X W bb ok tk w σ H rp en xc _ fun w1 S1 H1 rs vs l1 r1 i1 k1 => ?_
  exact k1 X bb ok w1 H1 r1 vs i1 Q (n.mono l1)
theorem vals1' {K : PySem.W.Frag} {B : Hp} {w : Wd} {r : R} {vs : List V} (h : IsRs K B w [r] vs) : ∃ v, vs = [v] ∧ IsR K B w r v := by
  obtain ⟨v, t, e, h1, h2⟩ := h
  have h2 : t = [] := h2
  subst h2
  exact ⟨v, e, h1⟩
theorem vals2' {K : PySem.W.Frag} {B : Hp} {w : Wd} {r q : R} {vs : List V} (h : IsRs K B w [r, q] vs) : ∃ v u, vs = [v, u] ∧ IsR K B w r v ∧ IsR K B w q u := by
  obtain ⟨v, t, e, h1, h2⟩ := h
  obtain ⟨u, e2, h3⟩ := vals1' h2
  subst e2
  exact ⟨v, u, e, h1, h3⟩
section
variable {r : R} {ds : List D} {i j : Int} {s : Str} {q : Bool}
theorem wc_len (hd : SeqD S r ds) (h : Ψ (.val (.int ds.length)) S) : WC C (.builtin "len") [r] S Ψ := fun X b ok w H rp vs hv Q n => by
  obtain ⟨v, e, h1⟩ := vals1' hv
  subst e
  obtain ⟨p, vs, e, h2, h3⟩ := hd.sq rp h1
  subst e
  have gd := ok.gd
  refine ⟨_, call_len_seq, p, vs, rfl, (by have : X.K = C.g.K := congrArg Gd.K gd; rw [this]; exact h2), ?_⟩
  rw [← h3.length]
  exact n.at_ (d := .int ds.length) rp rfl h
theorem wc_len_str (hl : s.length ≤ sizeLine) (h : Ψ (.val (.int s.length)) S) : WC C (.builtin "len") [.val (.str s)] S Ψ := fun X b ok w H rp vs hv Q n => by
  obtain ⟨v, e, h1⟩ := vals1' hv
  subst e
  have h1 : v = .str s := h1
  subst h1
  exact ⟨_, call_len_str, s, rfl, hl, n.at_ (d := .int s.length) rp rfl h⟩
theorem wc_int (h : Ψ (.val (.int i)) S) : WC C (.type "int") [.val (.int i)] S Ψ := fun X b ok w H rp vs hv Q n => by
  obtain ⟨v, e, h1⟩ := vals1' hv
  subst e
  have h1 : v = .int i := h1
  subst h1
  exact ⟨_, call_int1, .inl ⟨i, rfl, n.at_ (d := .int i) rp rfl h⟩⟩
theorem wc_intB (h : Ψ (.val (.int (if q then 1 else 0))) S) : WC C (.type "int") [.val (.bl q)] S Ψ := fun X b ok w H rp vs hv Q n => by
  obtain ⟨v, e, h1⟩ := vals1' hv
  subst e
  have h1 : v = .bl q := h1
  subst h1
  exact ⟨_, call_int1, .inr ⟨q, rfl, n.at_ (d := .int (if q then 1 else 0)) rp rfl h⟩⟩
theorem wc_abs (h : Ψ (.val (.int (if i < 0 then -i else i))) S) : WC C (.builtin "abs") [.val (.int i)] S Ψ := fun X b ok w H rp vs hv Q n => by
  obtain ⟨v, e, h1⟩ := vals1' hv
  subst e
  have h1 : v = .int i := h1
  subst h1
  exact ⟨_, call_abs, i, rfl, n.at_ (d := .int (if i < 0 then -i else i)) rp rfl h⟩
theorem wc_min2 (hc : C.calm = true) (h : Ψ (.val (.int (if j < i then j else i))) S) : WC C (.builtin "min") [.val (.int i), .val (.int j)] S Ψ := fun X b ok w H rp vs hv Q n => by
  obtain ⟨v, u, e, h1, h2⟩ := vals2' hv
  subst e
  have h1 : v = .int i := h1
  have h2 : u = .int j := h2
  subst h1 h2
  exact ⟨_, call_min2 (ok.calm hc).1, i, j, rfl, n.at_ (d := .int (if j < i then j else i)) rp rfl h⟩
theorem wc_max2 (hc : C.calm = true) (h : Ψ (.val (.int (if j > i then j else i))) S) : WC C (.builtin "max") [.val (.int i), .val (.int j)] S Ψ := fun X b ok w H rp vs hv Q n => by
  obtain ⟨v, u, e, h1, h2⟩ := vals2' hv
  subst e
  have h1 : v = .int i := h1
  have h2 : u = .int j := h2
  subst h1 h2
  exact ⟨_, call_max2 (ok.calm hc).1, i, j, rfl, n.at_ (d := .int (if j > i then j else i)) rp rfl h⟩
/-- list(..): a new list that is not changed -/
theorem wc_listF (hd : SeqD S r ds) (h : Ψ (.val (.lst ds)) S) : WC C (.type "list") [r] S Ψ := fun X b ok w H rp vs hv Q n => by
  obtain ⟨v, e, h1⟩ := vals1' hv
  subst e
  obtain ⟨p, vs, e, h2, h3⟩ := hd.sq rp h1
  subst e
  have gk : X.K = C.g.K := congrArg Gd.K ok.gd
  refine ⟨_, call_list_of, p, vs, rfl, by rw [gk]; exact h2, fun l hl => ?_⟩
  obtain ⟨r2, l2⟩ := rp.known (o := .lst vs) hl
  exact n _ _ _ (.val (.lst ds)) _ l2 r2 ⟨l, vs, rfl, .inl (.inl upd_same), IsL.mono l2.g ds vs h3⟩ h
end
end
end DL
set_option Elab.async false
set_option linter.all false
set_option maxRecDepth 100000
set_option maxHeartbeats 4000000
namespace DL
open PySem PySem.Spec PyProof.Rows
open L2 hiding Takes passAt takes_of ps_raise PMk ps_try_as
open L2N (Takes passAt takes_of ps_raise PMk ps_try_as)
section
variable {C : DC} {env : Nv} {S : Sto} {Ψ : R → Sto → Prop} {Θ : Bool → Sto → Prop} {Φ : List R → Sto → Prop} {pos p2 : Pos} {a b e : Expr} {es : List Expr} {x : Str}
theorem OkC.K {X : Cx} (ok : OkC X C) : X.K = C.g.K := congrArg Gd.K ok.gd
theorem OkC.mg {X : Cx} (ok : OkC X C) : X.mg = C.g.mg := congrArg Gd.mg ok.gd

/-! ### displays -/
def unv : List R → Option (List D)
  | [] => some []
  | .val d :: rs => (unv rs).map (d :: ·)
  | _ => none
theorem unv_ok : ∀ {rs : List R} {ds : List D}, unv rs = some ds → rs = ds.map .val
  | [], ds, h => by cases h; rfl
  | .val d :: rs, ds, h => by
    have h : (unv rs).map (d :: ·) = some ds := h
    cases q : unv rs with
    | none => rw [q] at h; cases h
    | some t => rw [q] at h; cases h; rw [unv_ok q]; rfl
  | .loc _ :: _, _, h => by cases h
  | .bor _ :: _, _, h => by cases h
theorem we_tup {k : Nat} (h : WA C es env S fun rs S1 => ∃ ds, unv rs = some ds ∧ ds.length ≤ sizeLine ∧ Ψ (.val (.tup ds)) S1) : WE C (.Tuple es k pos) env S Ψ := fun X W bb ok tk w σ H rp en xc Q n => by
  refine ⟨_, pe_tup cA_ok, ?_⟩
  refine h X W bb ok tk w σ H rp en xc _ fun w1 S1 H1 rs vs l1 r1 i1 ⟨ds, e, hl, k1⟩ => ?_
  rw [unv_ok e] at i1
  have i1 := IsRs.vals.mp i1
  refine ⟨by rw [← i1.length]; exact hl, fun p hp => ?_⟩
  obtain ⟨r2, l2⟩ := r1.known (o := .tup vs) hp
  exact n _ _ _ (.val (.tup ds)) _ (l1.trans l2) r2 ⟨p, vs, rfl, upd_same, IsL.mono l2.g ds vs i1⟩ k1
/-- a list display that nobody changes -/
theorem we_lstF (h : WA C es env S fun rs S1 => ∃ ds, unv rs = some ds ∧ ds.length ≤ sizeLine ∧ Ψ (.val (.lst ds)) S1) : WE C (.List es pos) env S Ψ := fun X W bb ok tk w σ H rp en xc Q n => by
  refine ⟨_, pe_lst cA_ok, ?_⟩
  refine h X W bb ok tk w σ H rp en xc _ fun w1 S1 H1 rs vs l1 r1 i1 ⟨ds, e, hl, k1⟩ => ?_
  rw [unv_ok e] at i1
  have i1 := IsRs.vals.mp i1
  refine ⟨by rw [← i1.length]; exact hl, fun p hp => ?_⟩
  obtain ⟨r2, l2⟩ := r1.known (o := .lst vs) hp
  exact n _ _ _ (.val (.lst ds)) _ (l1.trans l2) r2 ⟨p, vs, rfl, .inl (.inl upd_same), IsL.mono l2.g ds vs i1⟩ k1
theorem loc_new {K : PySem.W.Frag} {B : Hp} {b : Base} {w : Wd} {S : Sto} {H : Hp} (rp : Rp K b w S H) (l : Addr) : IsR K B ⟨w.G, w.as ++ [l]⟩ (.loc S.length) (.ref l) := ⟨l, by show (w.as ++ [l])[S.length]? = some l; rw [← rp.len]; simp, rfl⟩
/-! ### subscripts -/
def cIx (X : Cx) : R2 := fun x y H Q => ∃ r, IxR X r ∧ r x y H Q
theorem cIx_ok {X : Cx} : IxR X (cIx X) := fun value slice pins s σ H x y v u Q I rx ry ⟨_, p, h⟩ => p value slice pins s σ H x y v u Q I rx ry h
def WIx (C : DC) (x y : R) (S : Sto) (Ψ : R → Sto → Prop) : Prop := ∀ X b, OkC X C → ∀ w H, Rp C.g.K b w S H → ∀ v u, IsR C.g.K b.B w x v → IsR C.g.K b.B w y u → ∀ Q, NCov C.g.K b w Ψ Q → cIx X v u H Q
theorem we_ix (h : WE C a env S fun x S1 => WE C b env S1 fun y S2 => WIx C x y S2 Ψ) (hs : PlainIx b) : WE C (.Subscript a b pos) env S Ψ := fun X W bb ok tk w σ H rp en xc Q n => by
  refine ⟨_, pe_ix cIx_ok cE_ok cE_ok hs, ?_⟩
  refine h X W bb ok tk w σ H rp en xc _ fun w1 S1 H1 x v l1 r1 i1 k1 => ?_
  refine k1 X W bb ok tk w1 σ H1 r1 (en.mono l1) (xc.mono l1) _ fun w2 S2 H2 y u l2 r2 i2 k2 => ?_
  exact k2 X bb ok w2 H2 r2 v u (i1.mono l2) i2 Q (n.mono (l1.trans l2))
theorem atI_map {ds : List D} {vs : List V} {K : PySem.W.Frag} {G : Hp} {i : Int} {d : D} (h : IsL K G ds vs) (e : atI ds i = some d) : ∃ v, atI vs i = some v ∧ Is K G d v := by
  unfold atI at e ⊢
  rw [← h.length]
  cases q : ixN ds.length i with
  | none => rw [q] at e; cases e
  | some j =>
    rw [q] at e
    have e : ds[j]? = some d := e
    obtain ⟨v, h1, h2⟩ := h.get e
    exact ⟨v, h1, h2⟩
theorem wix_seq {r : R} {ds : List D} {i : Int} {d : D} (hd : SeqD S r ds) (hi : atI ds i = some d) (h : Ψ (.val d) S) : WIx C r (.val (.int i)) S Ψ := fun X b ok w H rp v u hv hu Q n => by
  have hu : u = .int i := hu
  subst hu
  obtain ⟨p, vs, e, h2, h3⟩ := hd.sq rp hv
  subst e
  obtain ⟨v, h4, h5⟩ := atI_map h3 hi
  refine ⟨_, ix_seq, ?_⟩
  rcases h2 with h2 | h2
  · exact .inl ⟨p, vs, i, v, rfl, rfl, by rw [ok.K]; exact h2, h4, n.at_ rp h5 h⟩
  · exact .inr (.inl ⟨p, vs, i, v, rfl, rfl, by rw [ok.K]; exact h2, h4, n.at_ rp h5 h⟩)
theorem wix_str {s : Str} {i : Int} {c : Nat} (hl : s.length ≤ sizeLine) (hi : atI s.cps.toList i = some c) (h : Ψ (.val (.str ⟨#[c]⟩)) S) : WIx C (.val (.str s)) (.val (.int i)) S Ψ := fun X b ok w H rp v u hv hu Q n => by
  have hu : u = .int i := hu
  have hv : v = .str s := hv
  subst hu hv
  exact ⟨_, ix_str, s, i, c, rfl, rfl, hl, hi, n.at_ (d := .str ⟨#[c]⟩) rp rfl h⟩

/-! ### equality -/
def pd : D → PyData
  | .non => .none
  | .bl b => .bool b
  | .int i => .int i
  | .str s => .str s
  | .tup ds => .tuple (pdL ds)
  | .lst ds => .list (pdL ds)
  | _ => .dict []
where pdL : List D → List PyData
  | [] => []
  | d :: ds => pd d :: pdL ds
abbrev pdL := pd.pdL
def eqs : D → Bool
  | .non => true
  | .bl _ => true
  | .int _ => true
  | .str s => PyData.canLay0 (.str s)
  | .tup ds => eqsL ds
  | .lst ds => eqsL ds
  | _ => false
where eqsL : List D → Bool
  | [] => true
  | d :: ds => eqs d && eqsL ds
abbrev eqsL := eqs.eqsL
mutual
theorem eqs_lay : ∀ d : D, eqs d = true → (pd d).canLay0 = true
  | .non, _ => rfl
  | .bl _, _ => rfl
  | .int _, _ => rfl
  | .str _, h => h
  | .tup ds, h => by
    show PyData.canLayAll0 (pdL ds) = true
    exact eqsL_lay ds h
  | .lst ds, h => by
    show PyData.canLayAll0 (pdL ds) = true
    exact eqsL_lay ds h
  | .dct _ _, h => by cases h
  | .dcT _ _, h => by cases h
  | .ins _ _ _, h => by cases h
  | .exc _ _ _ _ _, h => by cases h
  | .opq _, h => by cases h
theorem eqsL_lay : ∀ ds : List D, eqsL ds = true → PyData.canLayAll0 (pdL ds) = true
  | [], _ => rfl
  | d :: ds, h => by
    obtain ⟨h1, h2⟩ := Bool.and_eq_true_iff.mp (show (eqs d && eqsL ds) = true from h)
    show (PyData.canLay0 (pd d) && PyData.canLayAll0 (pdL ds)) = true
    rw [eqs_lay d h1, eqsL_lay ds h2]; rfl
theorem pd_is {K : PySem.W.Frag} {G H : Hp} (e : Ex G H) : ∀ (d : D) (v : V), eqs d = true → Is K G d v → Dp K H v (pd d)
  | .non, _, _, h => by have h : _ = _ := h; subst h; exact .non
  | .bl _, _, _, h => by have h : _ = _ := h; subst h; exact .bl _
  | .int _, _, _, h => by have h : _ = _ := h; subst h; exact .int _
  | .str _, _, _, h => by have h : _ = _ := h; subst h; exact .str _
  | .tup ds, _, q, ⟨p, vs, h1, h2, h3⟩ => by subst h1; exact .tup (SqT.of (e _ _ h2)) (pdL_is e ds vs q h3)
  | .lst ds, _, q, ⟨p, vs, h1, h2, h3⟩ => by subst h1; exact .lst (e.l h2) (pdL_is e ds vs q h3)
  | .dct _ _, _, h, _ => by cases h
  | .dcT _ _, _, h, _ => by cases h
  | .ins _ _ _, _, h, _ => by cases h
  | .exc _ _ _ _ _, _, h, _ => by cases h
  | .opq _, _, h, _ => by cases h
theorem pdL_is {K : PySem.W.Frag} {G H : Hp} (e : Ex G H) : ∀ (d : List D) (v : List V), eqsL d = true → IsL K G d v → DpAll K H v (pdL d)
  | [], _, _, h => by have h : _ = _ := h; subst h; exact .nil
  | d :: ds, _, q, ⟨v, r, h1, h2, h3⟩ => by
    obtain ⟨q1, q2⟩ := Bool.and_eq_true_iff.mp (show (eqs d && eqsL ds) = true from q)
    subst h1
    exact .cons (pd_is e d v q1 h2) (pdL_is e ds r q2 h3)
end
/-- == of data -/
def eqD (x y : D) : Bool := PyData.eqv (pd x) (pd y)
theorem shaped_of {d : D} (h : eqs d = true) (hd : (pd d).depth ≤ 64) : SeqAt.shaped (pd d) = true := by
  unfold SeqAt.shaped
  rw [eqs_lay d h, decide_eq_true hd]; rfl
inductive DatR (S : Sto) : R → D → Prop where
  | val (d : D) : DatR S (.val d) d
  | bor (ds : List D) : DatR S (.bor ds) (.lst ds)
  | loc {k : Nat} {ds : List D} : S[k]? = some (nl ds) → DatR S (.loc k) (.lst ds)
theorem DatR.dp {K : PySem.W.Frag} {b : Base} {w : Wd} {H : Hp} {r : R} {d : D} {v : V} (h : DatR S r d) (rp : Rp K b w S H) (q : eqs d = true) (hv : IsR K b.B w r v) : Dp K H v (pd d) := by
  cases h with
  | val => exact pd_is rp.ex d v q hv
  | bor =>
    obtain ⟨p, vs, e, h1, h2⟩ := hv
    subst e
    exact .lst (SqL.ofR rp h1) (pdL_is rp.ex _ _ q h2)
  | loc h1 =>
    obtain ⟨a, h2, e⟩ := hv
    subst e
    obtain ⟨a', h3, _, _, vs, h4, h5⟩ := rp.at_ _ _ h1 rfl
    rw [h2] at h3; cases h3
    have h5 : IsL K w.G _ vs := IsRs.vals.mp h5
    exact .lst (SqL.of h4) (pdL_is rp.ex _ _ q h5)
theorem wo_eqD {x y : R} {d e : D} (h1 : DatR S x d) (h2 : DatR S y e) (q1 : eqs d = true) (q2 : eqs e = true) (z1 : (pd d).depth ≤ 64) (z2 : (pd e).depth ≤ 64) (h : Ψ (.val (.bl (eqD d e))) S) : WO C (compareOp .Eq) x y S Ψ := fun X b ok w H rp v u hv hu Q n => by
  have g1 := h1.dp rp q1 hv
  have g2 := h2.dp rp q2 hu
  rw [← ok.K] at g1 g2
  exact ⟨_, op_eqD (Nat.lt_of_le_of_lt (Nat.add_le_add_left (by decide) _) ok.un), pd d, pd e, g1, g2, shaped_of q1 z1, shaped_of q2 z2, n.at_ (d := .bl (eqD d e)) rp rfl h⟩
section
variable {i j : Int} {s t : Str} {p q : Bool}
theorem wo_scal {x y : D} {v u : V} {r : Bool} (hx : ∀ G, ∀ v', Is C.g.K G x v' → v' = v) (hy : ∀ G, ∀ v', Is C.g.K G y v' → v' = u) (hs : scal v u = true) (hr : decide (v = u) = r) (h : Ψ (.val (.bl r)) S) : WO C (compareOp .Eq) (.val x) (.val y) S Ψ := fun X b ok w H rp v' u' hv hu Q n => by
  have e1 := hx _ _ hv
  have e2 := hy _ _ hu
  subst e1 e2
  exact ⟨_, op_eq, hs, n.at_ (d := .bl r) rp (by show V.bl _ = _; rw [hr]) h⟩
theorem wo_scalN {x y : D} {v u : V} {r : Bool} (hx : ∀ G, ∀ v', Is C.g.K G x v' → v' = v) (hy : ∀ G, ∀ v', Is C.g.K G y v' → v' = u) (hs : scal v u = true) (hr : (!decide (v = u)) = r) (h : Ψ (.val (.bl r)) S) : WO C (compareOp .NotEq) (.val x) (.val y) S Ψ := fun X b ok w H rp v' u' hv hu Q n => by
  have e1 := hx _ _ hv
  have e2 := hy _ _ hu
  subst e1 e2
  exact ⟨_, op_ne, hs, n.at_ (d := .bl r) rp (by show V.bl _ = _; rw [hr]) h⟩
theorem wo_eqI (h : Ψ (.val (.bl (decide (i = j)))) S) : WO C (compareOp .Eq) (.val (.int i)) (.val (.int j)) S Ψ := wo_scal (v := .int i) (u := .int j) (fun _ _ h => h) (fun _ _ h => h) rfl (by rw [dec_int]; exact Bool.beq_eq_decide_eq _ _) h
theorem wo_neI (h : Ψ (.val (.bl (!decide (i = j)))) S) : WO C (compareOp .NotEq) (.val (.int i)) (.val (.int j)) S Ψ := wo_scalN (v := .int i) (u := .int j) (fun _ _ h => h) (fun _ _ h => h) rfl (by rw [dec_int, Bool.beq_eq_decide_eq]) h
theorem wo_eqS (h : Ψ (.val (.bl (decide (s = t)))) S) : WO C (compareOp .Eq) (.val (.str s)) (.val (.str t)) S Ψ := wo_scal (v := .str s) (u := .str t) (fun _ _ h => h) (fun _ _ h => h) rfl (by simp) h
theorem wo_neS (h : Ψ (.val (.bl (!decide (s = t)))) S) : WO C (compareOp .NotEq) (.val (.str s)) (.val (.str t)) S Ψ := wo_scalN (v := .str s) (u := .str t) (fun _ _ h => h) (fun _ _ h => h) rfl (by simp) h
theorem wo_eqB (h : Ψ (.val (.bl (p == q))) S) : WO C (compareOp .Eq) (.val (.bl p)) (.val (.bl q)) S Ψ := wo_scal (v := .bl p) (u := .bl q) (fun _ _ h => h) (fun _ _ h => h) rfl (by cases p <;> cases q <;> rfl) h
theorem wo_neB (h : Ψ (.val (.bl (!(p == q)))) S) : WO C (compareOp .NotEq) (.val (.bl p)) (.val (.bl q)) S Ψ := wo_scalN (v := .bl p) (u := .bl q) (fun _ _ h => h) (fun _ _ h => h) rfl (by cases p <;> cases q <;> rfl) h
end
/-! ### is None, is True -/
def isNonR : R → Bool
  | .val .non => true
  | _ => false
theorem isNon_ok {K : PySem.W.Frag} {B : Hp} {w : Wd} {r : R} {v : V} (hq : ∀ u, r ≠ .val (.opq u)) (h : IsR K B w r v) : decide (v = .non) = isNonR r := by
  cases r with
  | val d =>
    cases d with
    | non => have h : v = _ := h; subst h; rfl
    | bl _ => have h : v = _ := h; subst h; rfl
    | int _ => have h : v = _ := h; subst h; rfl
    | str _ => have h : v = _ := h; subst h; rfl
    | opq u => exact absurd rfl (hq u)
    | tup _ => obtain ⟨p, vs, h1, _⟩ := h; subst h1; rfl
    | lst _ => obtain ⟨p, vs, h1, _⟩ := h; subst h1; rfl
    | dct _ _ => obtain ⟨p, vs, h1, _⟩ := h; subst h1; rfl
    | dcT _ _ => obtain ⟨p, vs, h1, _⟩ := h; subst h1; rfl
    | ins _ _ _ => obtain ⟨p, dx, vs, h1, _⟩ := h; subst h1; rfl
    | exc _ _ _ _ _ => obtain ⟨h1, _⟩ := h; subst h1; rfl
  | loc k => obtain ⟨a, _, h1⟩ := h; subst h1; rfl
  | bor ds => obtain ⟨p, vs, h1, _⟩ := h; subst h1; rfl
theorem wo_isN {r : R} (hq : ∀ u, r ≠ .val (.opq u)) (h : Ψ (.val (.bl (isNonR r))) S) : WO C (compareOp .Is) r (.val .non) S Ψ := fun X b ok w H rp v u hv hu Q n => by
  have hu : u = _ := hu
  subst hu
  exact ⟨_, op_isN, rfl, n.at_ (d := .bl (isNonR r)) rp (by show V.bl _ = _; rw [isNon_ok hq hv]) h⟩
theorem wo_notN {r : R} (hq : ∀ u, r ≠ .val (.opq u)) (h : Ψ (.val (.bl (!isNonR r))) S) : WO C (compareOp .IsNot) r (.val .non) S Ψ := fun X b ok w H rp v u hv hu Q n => by
  have hu : u = _ := hu
  subst hu
  exact ⟨_, op_notN, rfl, n.at_ (d := .bl (!isNonR r)) rp (by show V.bl _ = _; rw [isNon_ok hq hv]) h⟩
end
end DL
set_option Elab.async false
set_option linter.all false
set_option maxRecDepth 100000
set_option maxHeartbeats 4000000
namespace DL
open PySem PySem.Spec PyProof.Rows
open L2 hiding Takes passAt takes_of ps_raise PMk ps_try_as
open L2N (Takes passAt takes_of ps_raise PMk ps_try_as)
section
variable {C : DC} {env : Nv} {S : Sto} {Ψ : R → Sto → Prop} {Θ : Bool → Sto → Prop} {Φ : List R → Sto → Prop} {E : Nd} {pos p2 p3 : Pos} {a b c e : Expr} {es rest : List Expr} {x : Str}

/-! ### tests -/
/-- an expression whose value is a bool -/
theorem wt_val (h : WE C e env S (asB Θ)) (he : ∀ X : Cx, ∀ whole, isTrue e X.env whole = (do let v ← whole; standAt e.pos; holding [v] (truthy v))) : WT C e env S Θ := fun X W bb ok tk w σ H rp en xc Q n => by
  refine ⟨_, pt_val cE_ok (he X), ?_⟩
  refine h X W bb ok tk w σ H rp en xc _ fun w1 S1 H1 z v l1 r1 i1 ⟨k, e, k1⟩ => ?_
  subst e
  exact ⟨k, i1, n w1 S1 H1 k l1 r1 k1⟩
theorem wt_not (h : WT C e env S fun k S1 => Θ (!k) S1) : WT C (.UnaryOp .Not e pos) env S Θ := fun X W bb ok tk w σ H rp en xc Q n => by
  refine ⟨_, pt_not cT_ok, ?_⟩
  exact h X W bb ok tk w σ H rp en xc _ fun w1 S1 H1 k l1 r1 k1 => n w1 S1 H1 _ l1 r1 k1
def WTo (C : DC) (e : Expr) (env : Nv) (S : Sto) (Θ : Bool → Sto → Prop) : Prop := ∀ X W b, OkC X C → Takes X W → ∀ w σ H, Rp C.g.K b w S H → EnvIs C.g.K b w env σ → XCov C.g.K b w C.n0 C.xi W → ∀ Q, TCov C.g.K b w Θ Q → ∃ t, PW X e t ∧ t σ H Q
def cW (X : Cx) (e : Expr) : TT := fun σ H Q => ∃ t, PW X e t ∧ t σ H Q
theorem cW_ok {X : Cx} {e : Expr} : PW X e (cW X e) := ⟨fun wh pins s σ H Q I ⟨_, p, h⟩ => p.run wh pins s σ H Q I h⟩
theorem wt_of (h : WTo C e env S Θ) : WT C e env S Θ := fun X W bb ok tk w σ H rp en xc Q n => by
  obtain ⟨t, p, q⟩ := h X W bb ok tk w σ H rp en xc Q n
  exact ⟨t, p.pt, q⟩
theorem wto_and1 (h : WT C a env S Θ) : WTo C (.BoolOp .And [a] pos) env S Θ := fun X W bb ok tk w σ H rp en xc Q n => ⟨_, pw_and1 cT_ok, h X W bb ok tk w σ H rp en xc Q n⟩
theorem wto_or1 (h : WT C a env S Θ) : WTo C (.BoolOp .Or [a] pos) env S Θ := fun X W bb ok tk w σ H rp en xc Q n => ⟨_, pw_or1 cT_ok, h X W bb ok tk w σ H rp en xc Q n⟩
theorem wto_and (h : WT C a env S fun k S1 => (k = true → WTo C (.BoolOp .And (b :: rest) pos) env S1 Θ) ∧ (k = false → Θ false S1)) : WTo C (.BoolOp .And (a :: b :: rest) pos) env S Θ := fun X W bb ok tk w σ H rp en xc Q n => by
  refine ⟨_, pw_and cT_ok cW_ok, ?_⟩
  refine h X W bb ok tk w σ H rp en xc _ fun w1 S1 H1 k l1 r1 k1 => ?_
  cases k with
  | true => exact iteT (k1.1 rfl X W bb ok tk w1 σ H1 r1 (en.mono l1) (xc.mono l1) Q (n.mono l1))
  | false => exact iteF (n w1 S1 H1 false l1 r1 (k1.2 rfl))
theorem wto_or (h : WT C a env S fun k S1 => (k = true → Θ true S1) ∧ (k = false → WTo C (.BoolOp .Or (b :: rest) pos) env S1 Θ)) : WTo C (.BoolOp .Or (a :: b :: rest) pos) env S Θ := fun X W bb ok tk w σ H rp en xc Q n => by
  refine ⟨_, pw_or cT_ok cW_ok, ?_⟩
  refine h X W bb ok tk w σ H rp en xc _ fun w1 S1 H1 k l1 r1 k1 => ?_
  cases k with
  | true => exact iteT (n w1 S1 H1 true l1 r1 (k1.1 rfl))
  | false => exact iteF (k1.2 rfl X W bb ok tk w1 σ H1 r1 (en.mono l1) (xc.mono l1) Q (n.mono l1))
/-- and, or, not as values: bools, but for the last -/
theorem we_one {op : BoolOp} (h : WE C a env S Ψ) : WE C (.BoolOp op [a] pos) env S Ψ := fun X W bb ok tk w σ H rp en xc Q n => ⟨_, pe_one cE_ok, h X W bb ok tk w σ H rp en xc Q n⟩
theorem we_and (h : WE C a env S (asB fun k S1 => (k = true → WE C (.BoolOp .And (b :: rest) pos) env S1 Ψ) ∧ (k = false → Ψ (.val (.bl false)) S1))) : WE C (.BoolOp .And (a :: b :: rest) pos) env S Ψ := fun X W bb ok tk w σ H rp en xc Q n => by
  refine ⟨_, pe_and cE_ok cE_ok, ?_⟩
  refine h X W bb ok tk w σ H rp en xc _ fun w1 S1 H1 z v l1 r1 i1 ⟨k, e, k1⟩ => ?_
  subst e
  refine ⟨k, i1, ?_⟩
  cases k with
  | true => exact iteT (k1.1 rfl X W bb ok tk w1 σ H1 r1 (en.mono l1) (xc.mono l1) Q (n.mono l1))
  | false => exact iteF (n w1 S1 H1 (.val (.bl false)) _ l1 r1 rfl (k1.2 rfl))
theorem we_or (h : WE C a env S (asB fun k S1 => (k = true → Ψ (.val (.bl true)) S1) ∧ (k = false → WE C (.BoolOp .Or (b :: rest) pos) env S1 Ψ))) : WE C (.BoolOp .Or (a :: b :: rest) pos) env S Ψ := fun X W bb ok tk w σ H rp en xc Q n => by
  refine ⟨_, pe_or cE_ok cE_ok, ?_⟩
  refine h X W bb ok tk w σ H rp en xc _ fun w1 S1 H1 z v l1 r1 i1 ⟨k, e, k1⟩ => ?_
  subst e
  refine ⟨k, i1, ?_⟩
  cases k with
  | true => exact iteT (n w1 S1 H1 (.val (.bl true)) _ l1 r1 rfl (k1.1 rfl))
  | false => exact iteF (k1.2 rfl X W bb ok tk w1 σ H1 r1 (en.mono l1) (xc.mono l1) Q (n.mono l1))
theorem we_not (h : WE C a env S (asB fun k S1 => Ψ (.val (.bl (!k))) S1)) : WE C (.UnaryOp .Not a pos) env S Ψ := fun X W bb ok tk w σ H rp en xc Q n => by
  refine ⟨_, pe_not cE_ok, ?_⟩
  refine h X W bb ok tk w σ H rp en xc _ fun w1 S1 H1 z v l1 r1 i1 ⟨k, e, k1⟩ => ?_
  subst e
  exact ⟨k, i1, n w1 S1 H1 (.val (.bl (!k))) _ l1 r1 rfl k1⟩
theorem we_ifx (h : WT C c env S fun k S1 => (k = true → WE C a env S1 Ψ) ∧ (k = false → WE C b env S1 Ψ)) : WE C (.IfExp c a b pos) env S Ψ := fun X W bb ok tk w σ H rp en xc Q n => by
  refine ⟨_, pe_ifExp cT_ok cE_ok cE_ok, ?_⟩
  refine h X W bb ok tk w σ H rp en xc _ fun w1 S1 H1 k l1 r1 k1 => ?_
  cases k with
  | true => exact iteT (k1.1 rfl X W bb ok tk w1 σ H1 r1 (en.mono l1) (xc.mono l1) Q (n.mono l1))
  | false => exact iteF (k1.2 rfl X W bb ok tk w1 σ H1 r1 (en.mono l1) (xc.mono l1) Q (n.mono l1))
/-- a < b < c -/
theorem we_chain {op op' : CmpOp} (h : WE C a env S fun x S1 => WE C b env S1 fun y S2 => WO C (compareOp op) x y S2 (asB fun k S3 => (k = true → WE C c env S3 fun z S4 => WO C (compareOp op') y z S4 Ψ) ∧ (k = false → Ψ (.val (.bl false)) S3)))
    (hm : lastMarks [op, op'] [b, c] = false) : WE C (.Compare a [op, op'] [b, c] pos) env S Ψ := fun X W bb ok tk w σ H rp en xc Q n => by
  refine ⟨_, pe_chain cOp_ok cOp_ok cE_ok cE_ok cE_ok hm, ?_⟩
  refine h X W bb ok tk w σ H rp en xc _ fun w1 S1 H1 x v l1 r1 i1 k1 => ?_
  refine k1 X W bb ok tk w1 σ H1 r1 (en.mono l1) (xc.mono l1) _ fun w2 S2 H2 y u l2 r2 i2 k2 => ?_
  refine k2 X bb ok w2 H2 r2 v u (i1.mono l2) i2 _ fun w3 S3 H3 z t l3 r3 i3 ⟨k, e, k3⟩ => ?_
  subst e
  refine ⟨k, i3, ?_⟩
  cases k with
  | true =>
    refine iteT ?_
    refine k3.1 rfl X W bb ok tk w3 σ H3 r3 (en.mono (l1.trans (l2.trans l3))) (xc.mono (l1.trans (l2.trans l3))) _ fun w4 S4 H4 z t' l4 r4 i4 k4 => ?_
    exact k4 X bb ok w4 H4 r4 u t' (i2.mono (l3.trans l4)) i4 Q (n.mono (l1.trans (l2.trans (l3.trans l4))))
  | false => exact iteF (n w3 S3 H3 (.val (.bl false)) _ (l1.trans (l2.trans l3)) r3 rfl (k3.2 rfl))
theorem wt_chain {op op' : CmpOp} (h : WE C a env S fun x S1 => WE C b env S1 fun y S2 => WO C (compareOp op) x y S2 (asB fun k S3 => (k = true → WE C c env S3 fun z S4 => WO C (compareOp op') y z S4 (asB Θ)) ∧ (k = false → Θ false S3)))
    (hm : lastMarks [op, op'] [b, c] = false) : WT C (.Compare a [op, op'] [b, c] pos) env S Θ := fun X W bb ok tk w σ H rp en xc Q n => by
  refine ⟨_, pt_chain cOp_ok cOp_ok cE_ok cE_ok cE_ok hm, ?_⟩
  refine h X W bb ok tk w σ H rp en xc _ fun w1 S1 H1 x v l1 r1 i1 k1 => ?_
  refine k1 X W bb ok tk w1 σ H1 r1 (en.mono l1) (xc.mono l1) _ fun w2 S2 H2 y u l2 r2 i2 k2 => ?_
  refine k2 X bb ok w2 H2 r2 v u (i1.mono l2) i2 _ fun w3 S3 H3 z t l3 r3 i3 ⟨k, e, k3⟩ => ?_
  subst e
  refine ⟨k, i3, ?_⟩
  cases k with
  | true =>
    refine iteT ?_
    refine k3.1 rfl X W bb ok tk w3 σ H3 r3 (en.mono (l1.trans (l2.trans l3))) (xc.mono (l1.trans (l2.trans l3))) _ fun w4 S4 H4 z t' l4 r4 i4 k4 => ?_
    refine k4 X bb ok w4 H4 r4 u t' (i2.mono (l3.trans l4)) i4 _ fun w5 S5 H5 z5 t5 l5 r5 i5 ⟨k', e', k5⟩ => ?_
    subst e'
    exact ⟨k', i5, n w5 S5 H5 k' (l1.trans (l2.trans (l3.trans (l4.trans l5)))) r5 k5⟩
  | false => exact iteF ⟨false, rfl, n w3 S3 H3 false (l1.trans (l2.trans l3)) r3 (k3.2 rfl)⟩
theorem we_neg (h : WE C a env S fun z S1 => ∃ i, z = .val (.int i) ∧ Ψ (.val (.int (-i))) S1) : WE C (.UnaryOp .USub a pos) env S Ψ := fun X W bb ok tk w σ H rp en xc Q n => by
  refine ⟨_, pe_un un_neg cE_ok, ?_⟩
  refine h X W bb ok tk w σ H rp en xc _ fun w1 S1 H1 z v l1 r1 i1 ⟨i, e, k1⟩ => ?_
  subst e
  exact ⟨i, i1, n w1 S1 H1 (.val (.int (-i))) _ l1 r1 rfl k1⟩

/-! ### calls of the text's own defs -/
def FnC (C : DC) (s : DSp) (rs : List R) (env : Nv) (S : Sto) (Ψ : R → Sto → Prop) : Prop :=
  ∃ ks T rs', PassS ks S T ∧ ArgsP S ks rs rs' ∧ s rs' T (fun r T' => Ψ (r.ren (rho ks S.length)) (backS ks S T')) (fun c fs ds T' => C.xi c fs ds env (backS ks S T'))
theorem FnC.run {s : DSp} {rs : List R} {W : WX} {bb : Base} {w : Wd} {σ : L2.St} {H : Hp} {vs : List V} {Q : VK} (h : FnC C s rs env S Ψ) (rp : Rp C.g.K bb w S H) (en : EnvIs C.g.K bb w env σ) (xc : XCov C.g.K bb w C.n0 C.xi W) (iv : IsRs C.g.K bb.B w rs vs) (n : NCov C.g.K bb w Ψ Q) :
    spD C.g.K s vs H Q (fun cls d H' => W cls d σ H') := by
  obtain ⟨ks, T, rs', p, ar, hs⟩ := h
  refine ⟨⟨w.G, asC w ks⟩, T, rs', _, _, rp.into p, ar.is rp p iv, hs, fun w' T' H' r v l r' hr o1 o2 hψ => ?_, fun w' T' H' c fs ds d xs l r' o2 hd hl hx hξ => ?_⟩
  · have hat : ∀ (j : Nat) (a : Addr), w'.as[j]? = some a → (backW w w' ks).as[rho ks S.length j]? = some a := fun j a h => back_at rp l (p.hk rp) h
    exact n (backW w w' ks) _ H' _ v (Le.back l) (rp.back p l r' o2) (hr.back hat o1) hψ
  · exact xc.2 (backW w w' ks) _ H' σ env c fs ds d xs ((Le.back l).n _) (rp.back p l r' o2) (en.mono (Le.back l)) hd hl hx hξ
theorem we_call {f : Addr} {k : Nat} {ps : List Str} {s : DSp} (G : FnD C.g k f ps s) (hx : InG x C.gl) (hm : C.g.mg x = some (.ref f)) (hk : k ≤ C.k) (hc : C.calm = true) (h : WA C (e :: es) env S fun rs S1 => FnC C s rs env S1 Ψ)
    (he : ∀ X : Cx, starEach (e :: es) X.env = (false, eval e X.env) :: starEach es X.env) (hp : ∀ X : Cx, (backTo pos (starEach es X.env)).any (·.1) = false) : WE C (.Call (.Name x p2) (e :: es) [] pos) env S Ψ := fun X W bb ok tk w σ H rp en xc Q n => by
  obtain ⟨g, cN, csc, vis, wr, gl, kk, calm, n0, xi, ho⟩ := C
  obtain ⟨h1, h2⟩ := ok.gl _ hx.mem
  have eg := ok.gd
  have eg : gdOf X = g := eg
  subst eg
  obtain ⟨⟨fd, F, B⟩, kp⟩ := G
  refine ⟨_, pe_callS F ((ok.calm hc).2.mono hk) h1 hm kp B (fun σ => passAt tk σ) cA_ok (plain_of h2).1 (he X) (hp X), ?_⟩
  refine h X W bb ok tk w σ H rp en xc _ fun w1 S1 H1 rs vs l1 r1 i1 k1 => ?_
  exact k1.run r1 (en.mono l1) (xc.mono l1) i1 (n.mono l1)
end
end DL
set_option Elab.async false
set_option linter.all false
set_option maxRecDepth 100000
set_option maxHeartbeats 4000000
namespace DL
open PySem PySem.Spec PyProof.Rows
open L2 hiding Takes passAt takes_of ps_raise PMk ps_try_as
open L2N (Takes passAt takes_of ps_raise PMk ps_try_as)

/-! ### forgetting: at a loop's turn, at a cut -/
def okE (n : Nat) : R → Bool
  | .loc k => decide (k < n)
  | _ => true
inductive EnvW (S : Sto) (n : Nat) : Nv → Nv → Prop where
  | nil : EnvW S n [] []
  | drop {x : Option R} {e e' : Nv} : EnvW S n e e' → EnvW S n (x :: e) (none :: e')
  | keep {r : R} {e e' : Nv} : okE n r = true → EnvW S n e e' → EnvW S n (some r :: e) (some r :: e')
  | fix {r : R} {d : D} {e e' : Nv} : Fz S n r d → EnvW S n e e' → EnvW S n (some r :: e) (some (.val d) :: e')
/-- I holds, once the objects from n on are gone or settled -/
def Wk (n0 : Nat) (I : Nv → Sto → Prop) : Nv → Sto → Prop := fun env S => ∃ n env', n0 ≤ n ∧ n ≤ S.length ∧ (S.take n).all (Node.okB n) = true ∧ EnvW S n env env' ∧ I env' (S.take n)
section
variable {K : PySem.W.Frag} {b : Base} {w : Wd} {S : Sto} {H : Hp}
theorem IsR.cutE {B : Hp} {n : Nat} : ∀ {r : R} {v : V}, okE n r = true → IsR K B w r v → IsR K B ⟨w.G, w.as.take n⟩ r v
  | .val _, _, _, h => h
  | .loc k, v, o, ⟨a, h, e⟩ => ⟨a, by
      show (w.as.take n)[k]? = some a
      rw [List.getElem?_take_of_lt (of_decide_eq_true o)]; exact h, e⟩
  | .bor _, _, o, h => h
theorem EnvW.is (rp : Rp K b w S H) {n : Nat} (hn : b.as0.length ≤ n) : ∀ {e e' : Nv} {σ : L2.St}, EnvW S n e e' → EnvIs K b w e σ → EnvIs K b ⟨gSet b w S n H, w.as.take n⟩ e' σ
  | _, _, _, .nil, h => ⟨h.1, fun i r e => by simp at e⟩
  | _, _, [], .drop _, h => by have := h.1; simp at this
  | _, _, [], .keep _ _, h => by have := h.1; simp at this
  | _, _, [], .fix _ _, h => by have := h.1; simp at this
  | _, _, v :: σ, .drop t, h => by
    have q := EnvW.is rp hn t (σ := σ) ⟨by simpa using h.1, fun i r e => by simpa using h.2 (i + 1) r (by simpa using e)⟩
    refine ⟨by simpa using q.1, fun i r e => ?_⟩
    cases i with
    | zero => simp at e
    | succ i => simpa using q.2 i r (by simpa using e)
  | _, _, v :: σ, .keep (r := r0) o t, h => by
    have q := EnvW.is rp hn t (σ := σ) ⟨by simpa using h.1, fun i r e => by simpa using h.2 (i + 1) r (by simpa using e)⟩
    refine ⟨by simpa using q.1, fun i r e => ?_⟩
    cases i with
    | zero =>
      simp at e; subst e
      obtain ⟨v', h1, h2⟩ := h.2 0 r0 (by simp)
      exact ⟨v', h1, (h2.cutE o).mono ⟨(gSet_ex rp n).1, [], by simp⟩⟩
    | succ i => simpa using q.2 i r (by simpa using e)
  | _, _, v :: σ, .fix (r := r0) (d := d) f t, h => by
    have q := EnvW.is rp hn t (σ := σ) ⟨by simpa using h.1, fun i r e => by simpa using h.2 (i + 1) r (by simpa using e)⟩
    refine ⟨by simpa using q.1, fun i r e => ?_⟩
    cases i with
    | zero =>
      simp at e; subst e
      obtain ⟨v', h1, h2⟩ := h.2 0 r0 (by simp)
      exact ⟨v', h1, Fz.is rp hn f v' h2⟩
    | succ i => simpa using q.2 i r (by simpa using e)
theorem Wk.use {w0 : Wd} {S0 : Sto} {I : Nv → Sto → Prop} {env : Nv} {σ : L2.St} (h : Wk S0.length I env S) (l0 : w0.as.length = S0.length) (hb : b.as0.length ≤ S0.length) (l : LeN S0.length w0 w) (rp : Rp K b w S H) (en : EnvIs K b w env σ) :
    ∃ w' S' env', Le w0 w' ∧ Rp K b w' S' H ∧ EnvIs K b w' env' σ ∧ I env' S' := by
  obtain ⟨n, env', h1, h2, h3, h4, h5⟩ := h
  have l := l.le (Nat.le_of_eq l0)
  refine ⟨⟨gSet b w S n H, w.as.take n⟩, S.take n, env', ⟨l.g.trans (gSet_ex rp n).1, ?_⟩, rp.settle h2 (by omega) h3, h4.is rp (by omega) en, h5⟩
  obtain ⟨t, e⟩ := l.a
  exact ⟨t.take (n - w0.as.length), by show w.as.take n = _; rw [e, List.take_append, List.take_of_length_le (by rw [l0]; exact h1)]⟩
end

/-! ### blocks and small statements -/
section
variable {C : DC} {env : Nv} {S : Sto} {Ψ : R → Sto → Prop} {Θ : Bool → Sto → Prop} {Φ : List R → Sto → Prop} {Ω : Nv → Sto → Prop} {E : Nd} {pos p2 p3 : Pos} {a b c e : Expr} {es rest : List Expr} {x : Str} {st : Stmt} {sts body els : List Stmt}
theorem wss_nil (h : E.nx env S) : WSs C [] env S E := fun X W bb ok tk w σ H rp en xc D n => ⟨_, pss_nil, n.nx w S H env σ (LeN.refl _ _) rp en h⟩
theorem SCov.seq {K : PySem.W.Frag} {b : Base} {w : Wd} {n0 : Nat} {D : Ends} {ω : Nv → Sto → Prop} {Q : L2.St → Hp → Prop} (n : SCov K b w n0 E D) (h : ECov K b w n0 ω Q) : SCov K b w n0 { E with nx := ω } { D with nx := Q } := ⟨h, n.rt, n.bk, n.ct⟩
theorem wss_cons (h : WS C st env S { E with nx := fun env' S' => WSs C sts env' S' E }) : WSs C (st :: sts) env S E := fun X W bb ok tk w σ H rp en xc D n => by
  refine ⟨_, pss_cons cS_ok cSs_ok, ?_⟩
  exact h X W bb ok tk w σ H rp en xc _ (n.seq fun w1 S1 H1 env1 σ1 l1 r1 e1 k1 => k1 X W bb ok tk w1 σ1 H1 r1 e1 (xc.monoN l1) D (n.monoN l1))
theorem wss_one (h : WS C st env S E) : WSs C [st] env S E := fun X W bb ok tk w σ H rp en xc D n => ⟨_, pss_one cS_ok, h X W bb ok tk w σ H rp en xc D n⟩
/-- a statement, and a word that holds behind it -/
theorem wss_cut (I : Nv → Sto → Prop) (h : WS C st env S { E with nx := I }) (h2 : ∀ env' S', I env' S' → WSs C sts env' S' E) : WSs C (st :: sts) env S E := wss_cons (by
  intro X W bb ok tk w σ H rp en xc D n
  exact h X W bb ok tk w σ H rp en xc D (n.seq fun w1 S1 H1 env1 σ1 l1 r1 e1 k1 => n.nx w1 S1 H1 env1 σ1 l1 r1 e1 (h2 _ _ k1)))
theorem ws_pass (h : E.nx env S) : WS C (.Pass pos) env S E := fun X W bb ok tk w σ H rp en xc D n => ⟨_, ps_pass, n.nx w S H env σ (LeN.refl _ _) rp en h⟩
theorem ws_break (h : E.bk env S) : WS C (.Break pos) env S E := fun X W bb ok tk w σ H rp en xc D n => ⟨_, ps_break, n.bk w S H env σ (LeN.refl _ _) rp en h⟩
theorem ws_cont (h : E.ct env S) : WS C (.Continue pos) env S E := fun X W bb ok tk w σ H rp en xc D n => ⟨_, ps_continue, n.ct w S H env σ (LeN.refl _ _) rp en h⟩
theorem ws_ret (h : WE C e env S E.rt) : WS C (.Return (some e) pos) env S E := fun X W bb ok tk w σ H rp en xc D n => ⟨_, ps_ret cE_ok, h X W bb ok tk w σ H rp en xc _ n.rt.n⟩
theorem ws_retN (h : E.rt (.val .non) S) : WS C (.Return none pos) env S E := fun X W bb ok tk w σ H rp en xc D n => ⟨_, ps_retN, n.rt w S H (.val .non) _ (LeN.refl _ _) rp rfl h⟩
theorem ws_expr (h : WE C e env S fun _ S1 => E.nx env S1) (hs : ∀ X : Cx, swapsWith e none pos.line X.env = pure false) : WS C (.Expr e pos) env S E := fun X W bb ok tk w σ H rp en xc D n =>
  ⟨_, ps_expr cE_ok (hs X), h X W bb ok tk w σ H rp en xc _ fun w1 S1 H1 r v l1 r1 i1 k1 => n.nx w1 S1 H1 env σ (l1.n _) r1 (en.mono l1) k1⟩
theorem ws_if (h : WT C c env S fun k S1 => (k = true → WSs C body env S1 E) ∧ (k = false → WSs C els env S1 E)) : WS C (.If c body els pos) env S E := fun X W bb ok tk w σ H rp en xc D n => by
  refine ⟨_, ps_if cT_ok cSs_ok cSs_ok, ?_⟩
  refine h X W bb ok tk w σ H rp en xc _ fun w1 S1 H1 k l1 r1 k1 => ?_
  cases k with
  | true => exact iteT (k1.1 rfl X W bb ok tk w1 σ H1 r1 (en.mono l1) (xc.mono l1) D (n.mono l1))
  | false => exact iteF (k1.2 rfl X W bb ok tk w1 σ H1 r1 (en.mono l1) (xc.mono l1) D (n.mono l1))

/-! ### targets -/
def cG (X : Cx) (tg : Expr) : TG := fun v σ H Q => ∃ g, PG X tg g ∧ g v σ H Q
theorem cG_ok {X : Cx} {tg : Expr} : PG X tg (cG X tg) := ⟨fun pins s σ H v u Q I r ⟨_, p, h⟩ => p.run pins s σ H v u Q I r h⟩
def WG (C : DC) (tg : Expr) (r : R) (env : Nv) (S : Sto) (Ω : Nv → Sto → Prop) : Prop := ∀ X W b, OkC X C → Takes X W → ∀ w σ H, Rp C.g.K b w S H → EnvIs C.g.K b w env σ → XCov C.g.K b w C.n0 C.xi W → ∀ v, IsR C.g.K b.B w r v → ∀ Q, ECov C.g.K b w C.n0 Ω Q → cG X tg v σ H Q
def WGs (C : DC) (tg : List Expr) (ds : List D) (env : Nv) (S : Sto) (Ω : Nv → Sto → Prop) : Prop := ∀ X W b, OkC X C → Takes X W → ∀ w σ H, Rp C.g.K b w S H → EnvIs C.g.K b w env σ → XCov C.g.K b w C.n0 C.xi W → ∀ vs, IsL C.g.K w.G ds vs → ∀ Q, ECov C.g.K b w C.n0 Ω Q → ∃ g, PGs X tg g ∧ g vs σ H Q
theorem wg_name {i : Nat} {r : R} (hx : InV x i C.wr) (h : Ω (env.set i (some r)) S) : WG C (.Name x pos) r env S Ω := fun X W bb ok tk w σ H rp en xc v hv Q n => by
  obtain ⟨h1, h2, h3⟩ := ok.wr _ hx.mem
  exact ⟨_, pg_name ok.nd h1 h2 h3, n w S H _ _ (LeN.refl _ _) rp (en.set i hv) h⟩
/-- target = value -/
theorem ws_asg {tg : Expr} (h : WE C e env S fun r S1 => WG C tg r env S1 E.nx) (hs : ∀ X : Cx, swapsWithSole [tg] e pos.line X.env = pure false) (hw : ∀ X : Cx, swappedStores [tg] e X.env = pure none) (h1 : ∀ X : Cx, (assignEach [tg] X.env).map (·.2) = [assign tg X.env]) : WS C (.Assign [tg] e pos) env S E := fun X W bb ok tk w σ H rp en xc D n => by
  refine ⟨_, ps_asg cE_ok cG_ok (hs X) (hw X) (h1 X), ?_⟩
  refine h X W bb ok tk w σ H rp en xc _ fun w1 S1 H1 r v l1 r1 i1 k1 => ?_
  exact k1 X W bb ok tk w1 σ H1 r1 (en.mono l1) (xc.mono l1) v i1 _ (n.nx.mono l1)
theorem ws_set {i : Nat} (hx : InV x i C.wr) (h : WE C e env S fun r S1 => E.nx (env.set i (some r)) S1) (hs : ∀ X : Cx, swapsWith e (some (.Name x p2)) pos.line X.env = pure false) : WS C (.Assign [.Name x p2] e pos) env S E := fun X W bb ok tk w σ H rp en xc D n => by
  obtain ⟨h1, h2, h3⟩ := ok.wr _ hx.mem
  refine ⟨_, ps_set ok.nd h1 h2 cE_ok (hs X) h3, ?_⟩
  exact h X W bb ok tk w σ H rp en xc _ fun w1 S1 H1 r v l1 r1 i1 k1 => n.nx w1 S1 H1 _ _ (l1.n _) r1 ((en.mono l1).set i i1) k1
/-- name op= e -/
def cIp (X : Cx) (op : Operator) : TIp := fun x y H Q => ∃ r, PIp X op r ∧ r x y H Q
theorem cIp_ok {X : Cx} {op : Operator} : PIp X op (cIp X op) := fun pins s σ H x y v u Q I rx ry ⟨_, p, h⟩ => p pins s σ H x y v u Q I rx ry h
def WIp (C : DC) (op : Operator) (x y : R) (S : Sto) (Ψ : R → Sto → Prop) : Prop := ∀ X b, OkC X C → ∀ w H, Rp C.g.K b w S H → ∀ v u, IsR C.g.K b.B w x v → IsR C.g.K b.B w y u → ∀ Q, NCov C.g.K b w Ψ Q → cIp X op v u H Q
theorem ws_aug {i : Nat} {op : Operator} {r : R} (hx : InV x i C.wr) (he : env[i]? = some (some r)) (h : WE C e env S fun y S1 => WIp C op r y S1 fun z S2 => E.nx (env.set i (some z)) S2) : WS C (.AugAssign (.Name x p2) op e pos) env S E := fun X W bb ok tk w σ H rp en xc D n => by
  obtain ⟨h1, h2, h3⟩ := ok.wr _ hx.mem
  refine ⟨_, ps_aug ok.nd h1 h2 cE_ok cIp_ok h3, ?_⟩
  obtain ⟨v, hv, hr⟩ := en.2 i r he
  refine ⟨v, hv, ?_⟩
  refine h X W bb ok tk w σ H rp en xc _ fun w1 S1 H1 y u l1 r1 i1 k1 => ?_
  refine k1 X bb ok w1 H1 r1 v u (hr.mono l1) i1 _ fun w2 S2 H2 z t l2 r2 i2 k2 => ?_
  exact n.nx w2 S2 H2 _ _ ((l1.trans l2).n _) r2 ((en.mono (l1.trans l2)).set i i2) k2
theorem wip_add {i j : Int} (h : Ψ (.val (.int (i + j))) S) : WIp C .Add (.val (.int i)) (.val (.int j)) S Ψ := fun X b ok w H rp v u hv hu Q n => by
  have hv : v = .int i := hv
  have hu : u = .int j := hu
  subst hv hu
  exact ⟨_, ip_add, i, j, rfl, rfl, n.at_ (d := .int (i + j)) rp rfl h⟩

/-- the last objects go, or are settled -/
theorem wss_settle (n : Nat) {env' : Nv} (h0 : C.n0 ≤ n) (hn : n ≤ S.length) (ho : (S.take n).all (Node.okB n) = true) (he : EnvW S n env env') (h : WSs C sts env' (S.take n) E) : WSs C sts env S E := fun X W bb ok tk w σ H rp en xc D nn => by
  have b0 : bb.as0.length ≤ n := Nat.le_trans xc.1 h0
  have l : LeN C.n0 w ⟨gSet bb w S n H, w.as.take n⟩ := ⟨(gSet_ex rp n).1, fun k a hk e => by
    show (w.as.take n)[k]? = some a
    rw [List.getElem?_take_of_lt (by omega)]; exact e⟩
  exact h X W bb ok tk _ σ H (rp.settle hn b0 ho) (he.is rp b0 en) (xc.monoN l) D (nn.monoN l)

/-! ### while -/
abbrev DC.at0 (C : DC) (n : Nat) : DC := { C with n0 := n }
theorem OkC.at0 {X : Cx} (ok : OkC X C) (n : Nat) : OkC X (C.at0 n) := ⟨ok.gd, ok.N, ok.sc, ok.nd, ok.vis, ok.wr, ok.gl, ok.calm, ok.un, ok.po, ok.hot, ok.exc, ok.fr⟩
theorem ws_while (I : Nat → Nv → Sto → Prop) (m0 : Nat) (hn : C.n0 ≤ S.length) (h0 : I m0 env S)
    (ht : ∀ m env' S', I m env' S' → WT (C.at0 S.length) c env' S' fun k S1 => (k = true → WSs (C.at0 S.length) body env' S1 ⟨fun e2 S2 => ∃ m', m' < m ∧ Wk S.length (I m') e2 S2, E.rt, E.nx, fun e2 S2 => ∃ m', m' < m ∧ Wk S.length (I m') e2 S2⟩) ∧ (k = false → E.nx env' S1)) : WS C (.While c body [] pos) env S E := fun X W bb ok tk w σ H rp en xc D n => by
  refine ⟨_, ps_while ok.po cT_ok cSs_ok, ?_⟩
  have b0 : bb.as0.length ≤ S.length := by
    obtain ⟨t, e⟩ := rp.pre
    rw [← rp.len, e, List.length_append]; omega
  refine ⟨fun m σ' H' => ∃ w' S' env', Le w w' ∧ Rp C.g.K bb w' S' H' ∧ EnvIs C.g.K bb w' env' σ' ∧ I m env' S', ⟨m0, w, S, env, Le.refl _, rp, en, h0⟩, ?_⟩
  rintro m σ1 H1 ⟨w1, S1, env1, l1, r1, e1, i1⟩
  refine ht m env1 S1 i1 X W bb (ok.at0 _) tk w1 σ1 H1 r1 e1 ((xc.mono l1).less hn) _ fun w2 S2 H2 k l2 r2 k2 => ?_
  cases k with
  | true =>
    refine iteT ⟨fun σ' H' => ∃ m', m' < m ∧ ∃ w' S' env', Le w w' ∧ Rp C.g.K bb w' S' H' ∧ EnvIs C.g.K bb w' env' σ' ∧ I m' env' S', fun σ' H' h => h, ?_⟩
    have again : ECov C.g.K bb w2 S.length (fun e2 S2 => ∃ m', m' < m ∧ Wk S.length (I m') e2 S2) (fun σ' H' => ∃ m', m' < m ∧ ∃ w' S' env', Le w w' ∧ Rp C.g.K bb w' S' H' ∧ EnvIs C.g.K bb w' env' σ' ∧ I m' env' S') := fun w3 S3 H3 env3 σ3 l3 r3 e3 ⟨m', hm, k3⟩ =>
      ⟨m', hm, k3.use rp.len b0 (((l1.trans l2).n _).trans l3) r3 e3⟩
    have nn := n.mono (l1.trans l2)
    exact k2.1 rfl X W bb (ok.at0 _) tk w2 σ1 H2 r2 (e1.mono l2) ((xc.mono (l1.trans l2)).less hn) _ ⟨again, nn.rt.less hn, nn.nx.less hn, again⟩
  | false => exact iteF (n.nx w2 S2 H2 env1 σ1 ((l1.trans l2).n _) r2 (e1.mono l2) (k2.2 rfl))

/-! ### for -/
/-- a walk over the data ds, while the store is as SG says -/
structure WlkOk (K : PySem.W.Frag) (b : Base) (w : Wd) (J : It) (ds : List D) (SG : Sto → Prop) : Prop where
  ex : ∃ G Y, Walk J ds.length G Y ∧ (∀ w' S' H', Le w w' → Rp K b w' S' H' → SG S' → G H') ∧
    ∀ w' S' H' i x H2 d, Le w w' → Rp K b w' S' H' → SG S' → ds[i]? = some d → Y i H' x H2 → ∃ w2, Le w' w2 ∧ Rp K b w2 S' H2 ∧ Is K w2.G d x
def cI (X : Cx) (tg iter : Expr) : TI := fun σ H R => ∃ wi, PI X tg iter wi ∧ wi σ H R
theorem cI_ok {X : Cx} {tg iter : Expr} : PI X tg iter (cI X tg iter) := ⟨fun pins s σ H R I ⟨_, p, h⟩ => p.run pins s σ H R I h⟩
def WI (C : DC) (tg iter : Expr) (env : Nv) (S : Sto) (Λ : List D → (Sto → Prop) → Sto → Prop) : Prop := ∀ X W b, OkC X C → Takes X W → ∀ w σ H, Rp C.g.K b w S H → EnvIs C.g.K b w env σ → XCov C.g.K b w C.n0 C.xi W →
  ∀ R : It → Hp → Prop, (∀ w' S' H' J ds SG, Le w w' → Rp C.g.K b w' S' H' → WlkOk C.g.K b w' J ds SG → Λ ds SG S' → R J H') → cI X tg iter σ H R
theorem ws_for {tg iter : Expr} (hc : C.calm = true) (h : WI C tg iter env S fun ds SG S1 => ∃ I : Nat → Nv → Sto → Prop, C.n0 ≤ S1.length ∧ I 0 env S1 ∧ (∀ i env' S', I i env' S' → SG S') ∧
      (∀ i d env' S', ds[i]? = some d → I i env' S' → WG (C.at0 S1.length) tg (.val d) env' S' fun e2 S2 => WSs (C.at0 S1.length) body e2 S2 ⟨Wk S1.length (I (i + 1)), E.rt, E.nx, Wk S1.length (I (i + 1))⟩) ∧ (∀ env' S', I ds.length env' S' → E.nx env' S'))
    (hs : ∀ X : Cx, ∀ x, foldedSetIterable iter X.env x = pure x) : WS C (.For tg iter body [] pos) env S E := fun X W bb ok tk w σ H rp en xc D n => by
  refine ⟨_, ps_for ok.po (ok.calm hc).1 cI_ok cG_ok cSs_ok (hs X), ?_⟩
  refine h X W bb ok tk w σ H rp en xc _ fun w1 S1 H1 J ds SG l1 r1 wk ⟨I, hn, h0, hG, hstep, hend⟩ => ?_
  obtain ⟨G, Y, wlk, hg, hy⟩ := wk.ex
  have b0 : bb.as0.length ≤ S1.length := by
    obtain ⟨t, e⟩ := r1.pre
    rw [← r1.len, e, List.length_append]; omega
  refine for_it wlk (fun i σ' H' => ∃ w' S' env', Le w1 w' ∧ Rp C.g.K bb w' S' H' ∧ EnvIs C.g.K bb w' env' σ' ∧ I i env' S') ⟨w1, S1, env, Le.refl _, r1, en.mono l1, h0⟩ ?_ ?_ ?_
  · rintro i σ' H' _ ⟨w2, S2, env2, l2, r2, e2, i2⟩
    exact hg w2 S2 H' l2 r2 (hG i env2 S2 i2)
  · rintro i x σ2 H2 H3 hi ⟨w2, S2, env2, l2, r2, e2, i2⟩ y
    have hd : ds[i]? = some ds[i] := by simp [hi]
    obtain ⟨w3, l3, r3, x3⟩ := hy w2 S2 H2 i x H3 ds[i] l2 r2 (hG i env2 S2 i2) hd y
    have l13 := l1.trans (l2.trans l3)
    refine hstep i ds[i] env2 S2 hd i2 X W bb (ok.at0 _) tk w3 σ2 H3 r3 (e2.mono l3) ((xc.mono l13).less hn) x x3 _ fun w4 S4 H4 env4 σ4 l4 r4 e4 k4 => ?_
    have again : ECov C.g.K bb w4 S1.length (Wk S1.length (I (i + 1))) (fun σ' H' => ∃ w' S' env', Le w1 w' ∧ Rp C.g.K bb w' S' H' ∧ EnvIs C.g.K bb w' env' σ' ∧ I (i + 1) env' S') := fun w5 S5 H5 env5 σ5 l5 r5 e5 k5 =>
      k5.use r1.len b0 (((l2.trans l3).n _).trans (l4.trans l5)) r5 e5
    have nn := n.mono l13
    exact k4 X W bb (ok.at0 _) tk w4 σ4 H4 r4 e4 (((xc.mono l13).less hn).monoN l4) _ ⟨again, (nn.rt.less hn).monoN l4, (nn.nx.less hn).monoN l4, again⟩
  · rintro σ2 H2 ⟨w2, S2, env2, l2, r2, e2, i2⟩
    exact n.nx w2 S2 H2 env2 σ2 ((l1.trans l2).n _) r2 e2 (hend _ _ i2)
end
end DL
set_option Elab.async false
set_option linter.all false
set_option maxRecDepth 100000
set_option maxHeartbeats 4000000
namespace DL
open PySem PySem.Spec PyProof.Rows
open L2 hiding Takes passAt takes_of ps_raise PMk ps_try_as
open L2N (Takes passAt takes_of ps_raise PMk ps_try_as)
section
variable {C : DC} {env : Nv} {S : Sto} {Ψ : R → Sto → Prop} {Θ : Bool → Sto → Prop} {Φ : List R → Sto → Prop} {Ω : Nv → Sto → Prop} {Λ : List D → (Sto → Prop) → Sto → Prop} {E : Nd} {pos p2 p3 : Pos} {a b c e tg : Expr} {es rest : List Expr} {x : Str}

/-! ### what a for walks -/
def SGof (S : Sto) : R → List D → Sto → Prop
  | .loc k, ds, S' => S'[k]? = some (nl ds)
  | _, _, _ => True
def YL (K : PySem.W.Frag) (a : Addr) : Nat → Hp → V → Hp → Prop := fun i H x H' => H' = H ∧ ∀ xs, SqL K H a xs → xs[i]? = some x
def YT (K : PySem.W.Frag) (a : Addr) : Nat → Hp → V → Hp → Prop := fun i H x H' => H' = H ∧ ∀ xs, SqT K H a xs → xs[i]? = some x
theorem walkL {K : PySem.W.Frag} {a : Addr} {n : Nat} : Walk (Itl K a) n (fun H => ∃ xs : List V, SqL K H a xs ∧ xs.length = n) (YL K a) :=
  ⟨fun i _ hi ⟨xs, q, e⟩ => ⟨xs, xs[i], q, by simp [e, hi]⟩, fun _ ⟨xs, q, e⟩ => ⟨xs, q, by omega⟩, fun _ _ _ _ _ _ y => y⟩
theorem walkT {K : PySem.W.Frag} {a : Addr} {n : Nat} : Walk (Itt K a) n (fun H => ∃ xs : List V, SqT K H a xs ∧ xs.length = n) (YT K a) :=
  ⟨fun i _ hi ⟨xs, q, e⟩ => ⟨xs, xs[i], q, by simp [e, hi]⟩, fun _ ⟨xs, q, e⟩ => ⟨xs, q, by omega⟩, fun _ _ _ _ _ _ y => y⟩
/-- a list or a tuple, as it stands while the store lets it -/
theorem SeqD.stays {K : PySem.W.Frag} {bb : Base} {r : R} {w1 : Wd} {S1 : Sto} {H1 : Hp} {v : V} {ds : List D} (hd : SeqD S1 r ds) (r1 : Rp K bb w1 S1 H1) (i1 : IsR K bb.B w1 r v) : ∃ p, v = .ref p ∧
    ((∀ w' S' H', Le w1 w' → Rp K bb w' S' H' → SGof S1 r ds S' → ∃ us, SqL K H' p us ∧ IsL K w'.G ds us) ∨ (∀ w' S' H', Le w1 w' → Rp K bb w' S' H' → ∃ us, SqT K H' p us ∧ IsL K w'.G ds us)) := by
  cases hd with
  | tup =>
    obtain ⟨p, vs, e, h1, h2⟩ := i1
    exact ⟨p, e, .inr fun w' S' H' l r' => ⟨vs, SqT.of (r'.ex _ _ (l.g _ _ h1)), IsL.mono l.g _ _ h2⟩⟩
  | lst =>
    obtain ⟨p, vs, e, h1, h2⟩ := i1
    exact ⟨p, e, .inl fun w' S' H' l r' _ => ⟨vs, r'.ex.l (l.g.l h1), IsL.mono l.g _ _ h2⟩⟩
  | bor =>
    obtain ⟨p, vs, e, h1, h2⟩ := i1
    exact ⟨p, e, .inl fun w' S' H' l r' _ => ⟨vs, SqL.ofR r' (h1.imp (fun h => l.g.l h) id), IsL.mono l.g _ _ h2⟩⟩
  | loc h1 =>
    obtain ⟨a, h2, e⟩ := i1
    refine ⟨a, e, .inl fun w' S' H' l r' g => ?_⟩
    obtain ⟨a', g1, _, _, us, g2, g3⟩ := r'.at_ _ _ g rfl
    rw [l.at_ h2] at g1; cases g1
    exact ⟨us, SqL.of g2, IsRs.vals.mp g3⟩
def iSeq (K : PySem.W.Frag) (tl : TE) : TI := fun σ H R => tl σ H fun x H1 => ∃ a, x = .ref a ∧ (((∃ xs, SqL K H1 a xs) ∧ R (Itl K a) H1) ∨ ((∃ xs, SqT K H1 a xs) ∧ R (Itt K a) H1))
theorem pi_seq {X : Cx} {l : Expr} {tl : TE} (hl : PE X l tl) : PI X tg l (iSeq X.K tl) := by
  refine ⟨fun pins s σ H R I h => ?_⟩
  refine thn (hl.run pins s σ H _ I h) fun v s1 ⟨x, H1, I1, r1, q1⟩ => ?_
  obtain ⟨a, e, q⟩ := q1
  subst e
  cases r1
  have fin : ∀ b ∈ [s1.heap.objs.size], FpOk X pins H1 b := fun b hb => by
    have e : b = s1.heap.objs.size := by simpa using hb
    subst e
    exact I1.fpOk (Nat.le_refl _) (I1.hok.fresh (Nat.le_refl _))
  rcases q with ⟨⟨xs, hq⟩, q⟩ | ⟨⟨xs, hq⟩, q⟩
  · obtain ⟨its, rv, p, hz⟩ := I1.list hq
    refine wpAny_pyIter_list p.isList ?_
    exact ⟨s1.heap.objs.size, [s1.heap.objs.size], _, _, H1, rfl, I1.kept (t' := s1.toks) fun b o e => Heap.get?_push_of_some _ e, turn_list a _, ⟨_, Heap.get?_push_size _ rfl, rfl, rfl⟩, fin, q⟩
  · obtain ⟨its, rv, p, hz⟩ := I1.tuple hq
    refine wpAny_pyIter_tuple (show s1.heap.IsTuple a its.toArray from p) ?_
    exact ⟨s1.heap.objs.size, [s1.heap.objs.size], _, _, H1, rfl, I1.kept (t' := s1.toks) fun b o e => Heap.get?_push_of_some _ e, turn_tuple a _, ⟨_, Heap.get?_push_size _ rfl, rfl, rfl⟩, fin, q⟩
theorem getL {K : PySem.W.Frag} {G : Hp} {ds : List D} {us : List V} {i : Nat} {x : V} {d : D} (hl : IsL K G ds us) (hd : ds[i]? = some d) (hx : us[i]? = some x) : Is K G d x := by
  obtain ⟨v, h1, h2⟩ := IsL.get hl hd
  rw [hx] at h1; cases h1; exact h2
/-- a list, a tuple -/
theorem wi_seq (h : WE C e env S fun r S1 => ∃ ds, SeqD S1 r ds ∧ Λ ds (SGof S1 r ds) S1) : WI C tg e env S Λ := fun X W bb ok tk w σ H rp en xc R' n => by
  refine ⟨_, pi_seq cE_ok, ?_⟩
  rw [ok.K]
  refine h X W bb ok tk w σ H rp en xc _ fun w1 S1 H1 r v l1 r1 i1 ⟨ds, hd, k1⟩ => ?_
  obtain ⟨p, e, st⟩ := hd.stays r1 i1
  have sg : SGof S1 r ds S1 := by
    cases hd with
    | loc h => exact h
    | _ => trivial
  refine ⟨p, e, ?_⟩
  rcases st with st | st
  · obtain ⟨us, g1, g2⟩ := st w1 S1 H1 (Le.refl _) r1 sg
    refine .inl ⟨⟨us, g1⟩, n w1 S1 H1 _ ds _ l1 r1 ⟨_, _, walkL, fun w' S' H' l r' g => ?_, fun w' S' H' i x H2 d l r' g hd' y => ?_⟩ k1⟩
    · obtain ⟨us, g1, g2⟩ := st w' S' H' l r' g
      exact ⟨us, g1, (IsL.length g2).symm⟩
    · obtain ⟨us, g1, g2⟩ := st w' S' H' l r' g
      obtain ⟨rfl, y⟩ := y
      exact ⟨w', Le.refl _, r', getL g2 hd' (y us g1)⟩
  · obtain ⟨us, g1, g2⟩ := st w1 S1 H1 (Le.refl _) r1
    refine .inr ⟨⟨us, g1⟩, n w1 S1 H1 _ ds _ l1 r1 ⟨_, _, walkT, fun w' S' H' l r' g => ?_, fun w' S' H' i x H2 d l r' g hd' y => ?_⟩ k1⟩
    · obtain ⟨us, g1, g2⟩ := st w' S' H' l r'
      exact ⟨us, g1, (IsL.length g2).symm⟩
    · obtain ⟨us, g1, g2⟩ := st w' S' H' l r'
      obtain ⟨rfl, y⟩ := y
      exact ⟨w', Le.refl _, r', getL g2 hd' (y us g1)⟩
/-- the numbers lo, lo + 1, .. -/
def rangeD (lo : Int) (n : Nat) : List D := (List.range n).map fun (i : Nat) => .int (lo + (i : Int))
theorem rangeD_len (lo : Int) (n : Nat) : (rangeD lo n).length = n := by simp [rangeD]
theorem rangeD_get {lo : Int} {n i : Nat} {d : D} (h : (rangeD lo n)[i]? = some d) : i < n ∧ d = .int (lo + i) := by
  unfold rangeD at h
  rw [List.getElem?_map] at h
  by_cases hi : i < n
  · rw [List.getElem?_range hi] at h
    exact ⟨hi, (Option.some.inj h).symm⟩
  · rw [List.getElem?_eq_none (by simpa using hi)] at h; cases h
theorem wlk_range {K : PySem.W.Frag} {bb : Base} {w1 : Wd} {lo : Int} {n : Nat} : WlkOk K bb w1 (Itr lo n) (rangeD lo n) (fun _ => True) := by
  refine ⟨_, _, by rw [rangeD_len]; exact walk_range, fun _ _ _ _ _ _ => trivial, fun w' S' H' i x H2 d l r' g hd' y => ?_⟩
  obtain ⟨rfl, e⟩ := y
  obtain ⟨_, e2⟩ := rangeD_get hd'
  subst e e2
  exact ⟨w', Le.refl _, r', rfl⟩
theorem wi_range1 (hx : InG "range" C.gl) (hm : C.g.mg "range" = none) (h : WE C e env S fun r S1 => ∃ j, r = .val (.int j) ∧ (-(2 ^ 62) ≤ j ∧ j < 2 ^ 62) ∧ Λ (rangeD 0 j.toNat) (fun _ => True) S1) (hs : ∀ X : Cx, starEach [e] X.env = [(false, eval e X.env)]) : WI C tg (.Call (.Name "range" p2) [e] [] pos) env S Λ := fun X W bb ok tk w σ H rp en xc R' n => by
  refine ⟨_, pi_range1 (ok.gl _ hx.mem).1 (by rw [ok.mg]; exact hm) (pa_cons cE_ok pa_nil (hs X)) (hs X), ?_⟩
  refine h X W bb ok tk w σ H rp en xc _ fun w1 S1 H1 r v l1 r1 i1 ⟨j, e, ⟨b1, b2⟩, k1⟩ => ?_
  subst e
  have i1 : v = .int j := i1
  subst i1
  exact ⟨j, rfl, b1, b2, n w1 S1 H1 _ _ _ l1 r1 wlk_range k1⟩
/-- a text, sign by sign -/
def signsD (s : Str) : List D := s.cps.toList.map fun c => .str ⟨#[c]⟩
/-! ### methods of built-in types -/
def cMt (X : Cx) (id : String) : V → List V → Hp → VK → Prop := fun x vs H Q => ∃ r, MtR X id r ∧ r x vs H Q
/-- xs.append(e), as a statement or not -/
theorem we_append {o : Expr} {apos : Pos} (h : WE C o env S fun r S1 => ∃ k ds, r = .loc k ∧ S1[k]? = some (nl ds) ∧ WE C e env S1 fun q S2 => ∃ d ds2, q = .val d ∧ S2[k]? = some (nl ds2) ∧ ds2.length < sizeLine ∧ Ψ (.val .non) (S2.set k (nl (ds2 ++ [d]))))
    (hbase : ∀ X : Cx, attributeBase o "append" X.env (eval o X.env) = eval o X.env) (hfew : ∀ X : Cx, ((backTo pos (starEach [e] X.env)).all (fun x => !x.1) && (backToKw pos (keywordEach [] X.env)).all (fun x => x.1.isSome) && decide ([e].length + ([] : List Keyword).length + (if ([] : List Keyword).isEmpty then 0 else 1) < 30)) = true)
    (hline : (apos.endLine == pos.line) = true) (hs : ∀ X : Cx, starEach [e] X.env = (false, eval e X.env) :: starEach [] X.env) (hpl : ∀ X : Cx, (backTo pos (starEach [] X.env)).any (·.1) = false) : WE C (.Call (.Attribute o "append" apos) [e] [] pos) env S Ψ := fun X W bb ok tk w σ H rp en xc Q n => by
  refine ⟨_, pe_bm PySem.F.plainAttrs_list PySem.F.slot_list_append PySem.F.type_list_append mt_append cE_ok (pa_cons cE_ok pa_nil (hs X)) (hbase X) (hfew X) hline (hs X) (hpl X), ?_⟩
  refine h X W bb ok tk w σ H rp en xc _ fun w1 S1 H1 r v l1 r1 i1 ⟨k, ds, e1, hk, k1⟩ => ?_
  subst e1
  obtain ⟨a, ha, ev⟩ := i1
  subst ev
  obtain ⟨a', h3, _, _, vs, h4, h5⟩ := r1.at_ _ _ hk rfl
  rw [ha] at h3; cases h3
  refine ⟨.inl ⟨rfl, vs, SqL.of h4⟩, ?_⟩
  refine k1 X W bb ok tk w1 σ H1 r1 (en.mono l1) (xc.mono l1) _ fun w2 S2 H2 q u l2 r2 i2 ⟨d, ds2, e2, hk2, hz, k2⟩ => ?_
  subst e2
  obtain ⟨a', g3, _, _, us, g4, g5⟩ := r2.at_ _ _ hk2 rfl
  have ha2 := l2.at_ ha
  rw [ha2] at g3; cases g3
  have g5' : IsL C.g.K w2.G ds2 us := IsRs.vals.mp g5
  have lz : us.length = ds2.length := (IsL.length g5').symm
  refine ⟨a, us, u, rfl, rfl, g4, by rw [lz]; exact hz, ?_⟩
  have r3 := r2.write hk2 rfl ha2 (n' := nl (ds2 ++ [d])) (o := .lst (us ++ [u])) ⟨us ++ [u], upd_same, IsRs.vals.mpr (IsL.append g5' (.cons i2 .nil))⟩
  exact n w2 _ _ (.val .non) _ (l1.trans l2) r3 rfl k2
end
end DL
set_option Elab.async false
set_option linter.all false
set_option maxRecDepth 100000
set_option maxHeartbeats 4000000
namespace DL
open PySem PySem.Spec PyProof.Rows
open L2 hiding Takes passAt takes_of ps_raise PMk ps_try_as
open L2N (Takes passAt takes_of ps_raise PMk ps_try_as)
section
variable {C : DC} {env : Nv} {S : Sto} {Ψ : R → Sto → Prop} {Θ : Bool → Sto → Prop} {Φ : List R → Sto → Prop} {Ω : Nv → Sto → Prop} {E : Nd} {pos p2 p3 : Pos} {a b c e tg : Expr} {es rest : List Expr} {x : Str}

/-! ### texts -/
section
variable {s t : Str}
theorem wo_S {f : Value → Value → Sem Value} {r : ∀ X : Cx, R2} {z : D} {zv : V} (hop : ∀ X, OpR X f (r X)) (hr : ∀ X H Q, Q zv H → r X (.str s) (.str t) H Q) (hz : ∀ G, Is C.g.K G z zv) (h : Ψ (.val z) S) : WO C f (.val (.str s)) (.val (.str t)) S Ψ := fun X b ok w H rp v u hv hu Q n => by
  have hv : v = .str s := hv
  have hu : u = .str t := hu
  subst hv hu
  exact ⟨_, hop X, hr X H Q (n.at_ rp (hz _) h)⟩
theorem wo_addS (hl : s.length + t.length ≤ sizeLine) (h : Ψ (.val (.str (s ++ t))) S) : WO C (binaryOp .Add) (.val (.str s)) (.val (.str t)) S Ψ := wo_S (z := .str (s ++ t)) (zv := .str (s ++ t)) (fun _ => op_add_str) (fun X H Q q => ⟨s, t, rfl, rfl, hl, q⟩) (fun _ => rfl) h
theorem wo_ltS (h : Ψ (.val (.bl (decide (s.cps.toList < t.cps.toList)))) S) : WO C (compareOp .Lt) (.val (.str s)) (.val (.str t)) S Ψ := wo_S (z := .bl (decide (s.cps.toList < t.cps.toList))) (zv := .bl (decide (s.cps.toList < t.cps.toList))) (fun _ => op_lt_str) (fun X H Q q => ⟨s, t, rfl, rfl, q⟩) (fun _ => rfl) h
theorem wo_leS (h : Ψ (.val (.bl (!decide (t.cps.toList < s.cps.toList)))) S) : WO C (compareOp .LtE) (.val (.str s)) (.val (.str t)) S Ψ := wo_S (z := .bl (!decide (t.cps.toList < s.cps.toList))) (zv := .bl (!decide (t.cps.toList < s.cps.toList))) (fun _ => op_le_str) (fun X H Q q => ⟨s, t, rfl, rfl, q⟩) (fun _ => rfl) h
theorem wo_geS (h : Ψ (.val (.bl (!decide (s.cps.toList < t.cps.toList)))) S) : WO C (compareOp .GtE) (.val (.str s)) (.val (.str t)) S Ψ := wo_S (z := .bl (!decide (s.cps.toList < t.cps.toList))) (zv := .bl (!decide (s.cps.toList < t.cps.toList))) (fun _ => op_ge_str) (fun X H Q q => ⟨s, t, rfl, rfl, q⟩) (fun _ => rfl) h
theorem wo_inC {k : Nat} (h : Ψ (.val (.bl (decide (k ∈ t.cps.toList)))) S) : WO C (compareOp .In) (.val (.str ⟨#[k]⟩)) (.val (.str t)) S Ψ := wo_S (s := ⟨#[k]⟩) (z := .bl (decide (k ∈ t.cps.toList))) (zv := .bl (decide (k ∈ t.cps.toList))) (fun _ => op_in_sign) (fun X H Q q => ⟨k, t, rfl, rfl, q⟩) (fun _ => rfl) h
theorem wo_notInC {k : Nat} (h : Ψ (.val (.bl (!decide (k ∈ t.cps.toList)))) S) : WO C (compareOp .NotIn) (.val (.str ⟨#[k]⟩)) (.val (.str t)) S Ψ := wo_S (s := ⟨#[k]⟩) (z := .bl (!decide (k ∈ t.cps.toList))) (zv := .bl (!decide (k ∈ t.cps.toList))) (fun _ => op_notIn_sign) (fun X H Q q => ⟨k, t, rfl, rfl, q⟩) (fun _ => rfl) h
end

/-! ### x in a list, a tuple: by == (flat items; data of any depth) -/
def flatD : D → Bool
  | .non => true
  | .bl _ => true
  | .int _ => true
  | .str _ => true
  | _ => false
/-! ### tuple(..), tuples put together -/
theorem wc_tuple {r : R} {ds : List D} (hd : SeqD S r ds) (h : Ψ (.val (.tup ds)) S) : WC C (.type "tuple") [r] S Ψ := fun X b ok w H rp vs hv Q n => by
  obtain ⟨v, e, h1⟩ := vals1' hv
  subst e
  cases hd with
  | tup =>
    obtain ⟨p, us, e, h2, h3⟩ := h1
    exact ⟨_, call_tuple_of, p, us, by rw [e], .inr ⟨by rw [ok.K]; exact SqT.of (rp.ex _ _ h2), n.at_ (d := .tup ds) rp ⟨p, us, rfl, h2, h3⟩ h⟩⟩
  | lst =>
    obtain ⟨p, us, e, h2, h3⟩ := h1
    refine ⟨_, call_tuple_of, p, us, by rw [e], .inl ⟨by rw [ok.K]; exact rp.ex.l h2, fun l hl => ?_⟩⟩
    obtain ⟨r2, l2⟩ := rp.known (o := .tup us) hl
    exact n _ _ _ (.val (.tup ds)) _ l2 r2 ⟨l, us, rfl, upd_same, IsL.mono l2.g _ _ h3⟩ h
  | bor =>
    obtain ⟨p, us, e, h2, h3⟩ := h1
    refine ⟨_, call_tuple_of, p, us, by rw [e], .inl ⟨by rw [ok.K]; exact SqL.ofR rp h2, fun l hl => ?_⟩⟩
    obtain ⟨r2, l2⟩ := rp.known (o := .tup us) hl
    exact n _ _ _ (.val (.tup ds)) _ l2 r2 ⟨l, us, rfl, upd_same, IsL.mono l2.g _ _ h3⟩ h
  | loc g1 =>
    obtain ⟨a, h2, e⟩ := h1
    obtain ⟨a', h3, _, _, us, h4, h5⟩ := rp.at_ _ _ g1 rfl
    rw [h2] at h3; cases h3
    have h5 : IsL C.g.K w.G ds us := IsRs.vals.mp h5
    refine ⟨_, call_tuple_of, a, us, by rw [e], .inl ⟨SqL.of h4, fun l hl => ?_⟩⟩
    obtain ⟨r2, l2⟩ := rp.known (o := .tup us) hl
    exact n _ _ _ (.val (.tup ds)) _ l2 r2 ⟨l, us, rfl, upd_same, IsL.mono l2.g _ _ h5⟩ h

/-! ### isinstance -/
theorem we_bltn {u : Value} {v : V} (hx : InG x C.gl) (hm : C.g.mg x = none) (hv : bootBuiltins x = some u) (hr : RelV v u) (h : Ψ (.val (.opq v)) S) : WE C (.Name x pos) env S Ψ := fun X W b ok tk w σ H rp en xc Q n => by
  obtain ⟨h1, h2⟩ := ok.gl _ hx.mem
  obtain ⟨h4, h5, h6⟩ := plain_of h2
  exact ⟨_, pe_bltn h1 (by rw [ok.mg]; exact hm) hv hr h6 h4, n w S H (.val (.opq v)) v (Le.refl _) rp rfl h⟩
def tyD : D → Option String
  | .non => some "NoneType"
  | .bl _ => some "bool"
  | .int _ => some "int"
  | .str _ => some "str"
  | .tup _ => some "tuple"
  | .lst _ => some "list"
  | .dct _ _ => some "dict"
  | _ => none
def tyR (S : Sto) : R → Option String
  | .val d => tyD d
  | .bor _ => some "list"
  | .loc k => match S[k]? with
    | some (.lst _) => some "list"
    | some (.dK _ _) => some "dict"
    | some (.dT _ _) => some "dict"
    | _ => none
theorem tyL {K : PySem.W.Frag} {H : Hp} {p : Addr} {vs : List V} (h : SqL K H p vs) : TyX K H (.ref p) (.type "list") := by
  rcases h with (h | ⟨o, h⟩) | ⟨o, its, n, h, c, _⟩
  · exact .base (.lst h)
  · exact .base (.frz h)
  · exact .kList h c
theorem tyR_is {K : PySem.W.Frag} {b : Base} {w : Wd} {H : Hp} {r : R} {v : V} {T : String} (rp : Rp K b w S H) (hv : IsR K b.B w r v) (h : tyR S r = some T) : TyX K H v (.type T) := by
  cases r with
  | val d =>
    cases d with
    | non => have hv : v = _ := hv; subst hv; cases h; exact .base .non
    | bl _ => have hv : v = _ := hv; subst hv; cases h; exact .base (.bl _)
    | int _ => have hv : v = _ := hv; subst hv; cases h; exact .base (.int _)
    | str _ => have hv : v = _ := hv; subst hv; cases h; exact .base (.str _)
    | opq u => cases h
    | tup _ => obtain ⟨p, vs, e, h2, h3⟩ := hv; subst e; cases h; exact .base (.tup (rp.ex _ _ h2))
    | lst _ => obtain ⟨p, vs, e, h2, h3⟩ := hv; subst e; cases h; exact tyL (rp.ex.l h2)
    | dct _ _ => obtain ⟨p, vs, e, h2, h3⟩ := hv; subst e; cases h; exact .base (.dK (rp.ex _ _ h2))
    | dcT _ _ => cases h
    | ins _ _ _ => cases h
    | exc _ _ _ _ _ => cases h
  | bor ds => obtain ⟨p, vs, e, h2, h3⟩ := hv; subst e; cases h; exact tyL (SqL.ofR rp h2)
  | loc k =>
    obtain ⟨a, h2, e⟩ := hv
    subst e
    have h : (match S[k]? with
      | some (.lst _) => some "list"
      | some (.dK _ _) => some "dict"
      | some (.dT _ _) => some "dict"
      | _ => none) = some T := h
    cases q : S[k]? with
    | none => rw [q] at h; cases h
    | some n =>
      rw [q] at h
      cases n with
      | lst rs =>
        cases h
        obtain ⟨a', h3, _, _, vs, h4, _⟩ := rp.at_ _ _ q rfl
        rw [h2] at h3; cases h3
        exact .base (.lst h4)
      | dK ks rs =>
        cases h
        obtain ⟨a', h3, _, _, vs, h4, _⟩ := rp.at_ _ _ q rfl
        rw [h2] at h3; cases h3
        exact .base (.dK h4)
      | dT ks rs =>
        cases h
        obtain ⟨a', h3, _, _, vs, h4, _⟩ := rp.at_ _ _ q rfl
        rw [h2] at h3; cases h3
        exact .base (.dT h4)
      | ins _ _ _ => cases h
      | lkT _ _ _ => cases h
      | dead => cases h
theorem wc_isi {r : R} {T U : String} {q : Bool} (ht : tyR S r = some T) (hk : kitB T U = some q) (h : Ψ (.val (.bl q)) S) : WC C (.builtin "isinstance") [r, .val (.opq (.ty U))] S Ψ := fun X b ok w H rp vs hv Q n => by
  obtain ⟨v, u, e, h1, h2⟩ := vals2' hv
  subst e
  have h2 : u = .ty U := h2
  subst h2
  have ty := tyR_is rp h1 ht
  rw [← ok.K] at ty
  exact ⟨_, call_isi, v, .ty U, .type T, .type U, q, rfl, .ty U, ty, kit_ty hk, n.at_ (d := .bl q) rp rfl h⟩

/-! ### dicts that are read -/
def look {κ α : Type} [DecidableEq κ] (ks : List κ) (xs : List α) (k : κ) : Option α := ((ks.zip xs).find? fun p => decide (p.1 = k)).map (·.2)
def OIs (K : PySem.W.Frag) (G : Hp) : Option D → Option V → Prop
  | some d, ov => ∃ v, ov = some v ∧ Is K G d v
  | none, ov => ov = none
theorem look_is {κ : Type} [DecidableEq κ] {K : PySem.W.Frag} {G : Hp} {k : κ} : ∀ {ks : List κ} {ds : List D} {vs : List V}, IsL K G ds vs → OIs K G (look ks ds k) (valV (ks.zip vs) k)
  | [], ds, vs, h => by
    have e : look ([] : List κ) ds k = none := by simp [look]
    rw [e]
    show valV _ _ = none
    simp [valV]
  | k0 :: ks, [], vs, h => by
    have h : vs = [] := h
    subst h
    have e : look (k0 :: ks) ([] : List D) k = none := by simp [look]
    rw [e]
    show valV _ _ = none
    simp [valV]
  | k0 :: ks, d :: ds, _, ⟨v, r, e, h1, h2⟩ => by
    subst e
    by_cases z : k0 = k
    · have e1 : look (k0 :: ks) (d :: ds) k = some d := by simp [look, List.find?_cons, z]
      have e2 : valV ((k0 :: ks).zip (v :: r)) k = some v := by simp [valV, List.find?_cons, z]
      rw [e1, e2]
      exact ⟨v, rfl, h1⟩
    · have e1 : look (k0 :: ks) (d :: ds) k = look ks ds k := by simp [look, List.find?_cons, z]
      have e2 : valV ((k0 :: ks).zip (v :: r)) k = valV (ks.zip r) k := by simp [valV, List.find?_cons, z]
      rw [e1, e2]
      exact look_is h2
/-- what is known of a dict at a place -/
inductive DctD (S : Sto) : R → List Key → List D → Prop where
  | val (ks : List Key) (ds : List D) : DctD S (.val (.dct ks ds)) ks ds
  | loc {k : Nat} {ks : List Key} {ds : List D} : S[k]? = some (.dK ks (ds.map .val)) → DctD S (.loc k) ks ds
inductive DctT (S : Sto) : R → List (List Key) → List D → Prop where
  | val (ks : List (List Key)) (ds : List D) : DctT S (.val (.dcT ks ds)) ks ds
  | loc {k : Nat} {ks : List (List Key)} {ds : List D} : S[k]? = some (.dT ks (ds.map .val)) → DctT S (.loc k) ks ds
def kD : Key → D
  | .inl i => .int i
  | .inr s => .str s
theorem kD_is {K : PySem.W.Frag} {G : Hp} {k : Key} {v : V} (h : Is K G (kD k) v) : v = kV k := by
  cases k with
  | inl i => exact h
  | inr s => exact h
theorem kDs_is {K : PySem.W.Frag} {G : Hp} : ∀ {ks : List Key} {vs : List V}, IsL K G (ks.map kD) vs → vs = ks.map kV
  | [], _, h => h
  | k :: ks, _, ⟨v, r, e, h1, h2⟩ => by rw [e, kD_is h1, kDs_is h2]; rfl
section
variable {K : PySem.W.Frag} {b : Base} {w : Wd} {H : Hp} {r y : R} {v u : V}
theorem DctD.at_ {ks : List Key} {ds : List D} (hd : DctD S r ks ds) (rp : Rp K b w S H) (hv : IsR K b.B w r v) : ∃ p vs, v = .ref p ∧ H p = some (.dK (ks.zip vs)) ∧ ks.length = vs.length ∧ IsL K w.G ds vs := by
  cases hd with
  | val =>
    obtain ⟨p, vs, e, h1, h2, h3⟩ := hv
    exact ⟨p, vs, e, rp.ex _ _ h1, h2, h3⟩
  | loc h =>
    obtain ⟨a, h2, e⟩ := hv
    obtain ⟨a', h3, _, _, vs, h4, h5, h6⟩ := rp.at_ _ _ h rfl
    rw [h2] at h3; cases h3
    exact ⟨a, vs, e, h4, h5, IsRs.vals.mp h6⟩
theorem DctT.at_ {ks : List (List Key)} {ds : List D} (hd : DctT S r ks ds) (rp : Rp K b w S H) (hv : IsR K b.B w r v) : ∃ p vs, v = .ref p ∧ Rd H p (.dT (ks.zip vs)) ∧ ks.length = vs.length ∧ IsL K w.G ds vs := by
  cases hd with
  | val =>
    obtain ⟨p, vs, e, h1, h2, h3⟩ := hv
    exact ⟨p, vs, e, rp.ex.rd h1, h2, h3⟩
  | loc h =>
    obtain ⟨a, h2, e⟩ := hv
    obtain ⟨a', h3, _, _, vs, h4, h5, h6⟩ := rp.at_ _ _ h rfl
    rw [h2] at h3; cases h3
    exact ⟨a, vs, e, .inl h4, h5, IsRs.vals.mp h6⟩
/-- the answer of a lookup: by int or text keys, by tuples of such -/
inductive LookD (S : Sto) : R → R → Option D → Prop where
  | k {r : R} {ks : List Key} {ds : List D} {k : Key} : DctD S r ks ds → LookD S r (.val (kD k)) (look ks ds k)
  | t {r : R} {ks : List (List Key)} {ds : List D} {k : List Key} : DctT S r ks ds → LookD S r (.val (.tup (k.map kD))) (look ks ds k)
theorem LookD.get {o : Option D} (h : LookD S r y o) (rp : Rp K b w S H) (hv : IsR K b.B w r v) (hu : IsR K b.B w y u) : ∃ p ov, v = .ref p ∧ DGet H p u ov ∧ OIs K w.G o ov := by
  cases h with
  | k hd =>
    obtain ⟨p, vs, e, h1, h2, h3⟩ := hd.at_ rp hv
    have hu := kD_is hu
    subst hu
    exact ⟨p, _, e, DGet.k h1, look_is h3⟩
  | t hd =>
    obtain ⟨p, vs, e, h1, h2, h3⟩ := hd.at_ rp hv
    obtain ⟨q, us, e2, g1, g2⟩ := hu
    have g2 := kDs_is g2
    subst e2 g2
    exact ⟨p, _, e, .inr ⟨_, _, _, h1, rfl, rp.ex _ _ g1, rfl⟩, look_is h3⟩
end
theorem OkC.u1 {X : Cx} (ok : OkC X C) : X.A.units + 1 < cLine := Nat.lt_of_le_of_lt (Nat.add_le_add_left (by decide) _) ok.un
theorem tail_of {prog : Program} {w : World} {A : Around} {E : Value → Shared → Prop} {s : Shared} {value slice : Expr} {o i : Value} {T id : String} {Q : Value → Shared → Prop}
    (hl : typeLookup (.type T) "__getitem__" = pure (some (.builtin id))) (hT : s.TypeIs o T) (h₂ : wpAny (model prog w) A (getItem o i) Q E s) (hs : subscripted slice false o i = operate [o, i] (getItem o i)) :
    wpAny (model prog w) A (subscriptTail value slice o i) Q E s := by
  unfold subscriptTail
  refine wpAny_bind ?_
  rw [getitemInPython_of_ne hT.not_modules]
  refine wpAny_bind (wpAny_specialOf hT hl ?_)
  have fin : wpAny (model prog w) A (subscripted slice false o i) (fun r s₃ => wpAny (model prog w) A (letTemporaryGo value o r >>= fun _ => pure r) Q E s₃) E s := by
    rw [hs]
    exact wpAny_operating (wpAny_mono h₂ (fun r s₃ h₃ => wpAny_bind (wpAny_letTemporaryGo (wpAny_pure h₃))) fun _ _ x => x)
  first
    | exact wpAny_pure (wpAny_bind fin)
    | exact wpAny_bind (wpAny_pure (wpAny_bind fin))
    | exact wpAny_bind fin
end
end DL
set_option Elab.async false
set_option linter.all false
set_option maxRecDepth 100000
set_option maxHeartbeats 4000000
namespace DL
open PySem PySem.Spec PyProof.Rows
open L2 hiding Takes passAt takes_of ps_raise PMk ps_try_as
open L2N (Takes passAt takes_of ps_raise PMk ps_try_as)

/-! ### attributes -/
inductive AtN (f : Str) : Nat → List Str → Prop where
  | here {l : List Str} : AtN f 0 (f :: l)
  | there {i : Nat} {p : Str} {l : List Str} : AtN f i l → AtN f (i + 1) (p :: l)
theorem AtN.get {f : Str} : ∀ {i : Nat} {l : List Str}, AtN f i l → l[i]? = some f
  | _, _, .here => rfl
  | _, _, .there h => by simpa using h.get
theorem zip_lookup {f : Str} {v : V} : ∀ {names : List Str} {vs : List V} {i : Nat}, names.Nodup → names[i]? = some f → vs[i]? = some v → (names.zip vs).lookup f = some v
  | [], _, _, _, h, _ => by simp at h
  | _ :: _, [], _, _, _, h => by simp at h
  | n :: ns, u :: vs, 0, nd, h1, h2 => by
    simp at h1 h2; subst h1 h2
    simp
  | n :: ns, u :: vs, i + 1, nd, h1, h2 => by
    obtain ⟨n1, n2⟩ := List.nodup_cons.mp nd
    have hm : f ∈ ns := List.mem_of_getElem? (i := i) (by simpa using h1)
    have hne : (f == n) = false := by
      simp only [beq_eq_false_iff_ne]
      intro e; subst e; exact n1 hm
    rw [List.zip_cons_cons, List.lookup_cons, hne]
    exact zip_lookup n2 (by simpa using h1) (by simpa using h2)
theorem putF_old {f : Str} {v : V} : ∀ {names : List Str} {vs : List V} {i : Nat}, names.Nodup → names[i]? = some f → names.length = vs.length → putF f v (names.zip vs) = names.zip (vs.set i v)
  | [], _, _, _, h, _ => by simp at h
  | _ :: _, [], _, _, _, h => by simp at h
  | n :: ns, u :: vs, 0, nd, h1, h2 => by
    simp at h1; subst h1
    show (if n = n then _ else _) = _
    rw [if_pos rfl]; rfl
  | n :: ns, u :: vs, i + 1, nd, h1, h2 => by
    obtain ⟨n1, n2⟩ := List.nodup_cons.mp nd
    have hm : f ∈ ns := List.mem_of_getElem? (i := i) (by simpa using h1)
    have ih := putF_old (v := v) n2 (by simpa using h1 : ns[i]? = some f) (by simpa using h2 : ns.length = vs.length)
    show (if n = f then (n, v) :: ns.zip vs else (n, u) :: putF f v (ns.zip vs)) = (n, u) :: ns.zip (vs.set i v)
    rw [if_neg (fun e : n = f => n1 (by rw [e]; exact hm)), ih]
theorem putF_new {f : Str} {v : V} : ∀ {names : List Str} {vs : List V}, f ∉ names → names.length = vs.length → putF f v (names.zip vs) = (names ++ [f]).zip (vs ++ [v])
  | [], [], _, _ => rfl
  | [], _ :: _, _, h => by simp at h
  | _ :: _, [], _, h => by simp at h
  | n :: ns, u :: vs, nm, h => by
    have ih := putF_new (v := v) (fun h => nm (List.mem_cons_of_mem _ h) : f ∉ ns) (by simpa using h : ns.length = vs.length)
    show (if n = f then (n, v) :: ns.zip vs else (n, u) :: putF f v (ns.zip vs)) = (n, u) :: (ns ++ [f]).zip (vs ++ [v])
    rw [if_neg (fun e : n = f => nm (by simp [e])), ih]
/-- the attribute f of what r stands for -/
inductive FldR (S : Sto) (f : Str) : R → Addr → R → Prop where
  | val {C : Addr} {names : List Str} {ds : List D} {j : Nat} {d : D} : names.Nodup → AtN f j names → ds[j]? = some d → FldR S f (.val (.ins C names ds)) C (.val d)
  | loc {k : Nat} {C : Addr} {names : List Str} {rs : List R} {j : Nat} {z : R} : S[k]? = some (.ins C names rs) → names.Nodup → AtN f j names → rs[j]? = some z → FldR S f (.loc k) C z
section
variable {C : DC} {env : Nv} {S : Sto} {Ψ : R → Sto → Prop} {Θ : Bool → Sto → Prop} {Φ : List R → Sto → Prop} {Ω : Nv → Sto → Prop} {E : Nd} {pos p2 p3 : Pos} {a b c e o tg : Expr} {es rest : List Expr} {x f m : Str}
theorem FldR.at_ {K : PySem.W.Frag} {bb : Base} {w : Wd} {H : Hp} {r z : R} {v : V} {A : Addr} (h : FldR S f r A z) (rp : Rp K bb w S H) (hv : IsR K bb.B w r v) : ∃ p dx fs u, v = .ref p ∧ H p = some (.ins A dx fs) ∧ fs.lookup f = some u ∧ IsR K bb.B w z u := by
  cases h with
  | val nd hj hd =>
    obtain ⟨p, dx, vs, e, h1, h2, h3⟩ := hv
    obtain ⟨u, h4, h5⟩ := IsL.get h3 hd
    exact ⟨p, dx, _, u, e, rp.ex _ _ h1, zip_lookup nd hj.get h4, h5⟩
  | loc h1 nd hj hz =>
    obtain ⟨a, h2, e⟩ := hv
    obtain ⟨a', h3, _, _, dx, vs, h4, h5, h6⟩ := rp.at_ _ _ h1 rfl
    rw [h2] at h3; cases h3
    obtain ⟨u, h7, h8⟩ := IsRs.get h6 hz
    exact ⟨a, dx, _, u, e, h4, zip_lookup nd hj.get h7, h8⟩
theorem we_attr (h : WE C o env S fun r S1 => ∃ A z, FldR S1 f r A z ∧ Cls C.g.K A ∧ NoAttr C.g.K A f ∧ Ψ z S1) (hb : ∀ X : Cx, attributeBase o f X.env (eval o X.env) = eval o X.env) : WE C (.Attribute o f pos) env S Ψ := fun X W bb ok tk w σ H rp en xc Q n => by
  refine ⟨_, pe_fld cE_ok (hb X), ?_⟩
  refine h X W bb ok tk w σ H rp en xc _ fun w1 S1 H1 r v l1 r1 i1 ⟨A, z, hf, hc, hn, k1⟩ => ?_
  obtain ⟨p, dx, fs, u, e, h1, h2, h3⟩ := hf.at_ r1 i1
  exact ⟨p, A, dx, fs, u, e, h1, by rw [ok.K]; exact hc, by rw [ok.K]; exact hn, h2, n w1 S1 H1 z u l1 r1 h3 k1⟩
/-- o.f = e: a new attribute, an old one -/
inductive PutA (S : Sto) (f : Str) (k : Nat) (z : R) : Addr → Sto → Prop where
  | new {C : Addr} {names : List Str} {rs : List R} : S[k]? = some (.ins C names rs) → names.length < 1000 → f ∉ names → PutA S f k z C (S.set k (.ins C (names ++ [f]) (rs ++ [z])))
  | old {C : Addr} {names : List Str} {rs : List R} {j : Nat} : S[k]? = some (.ins C names rs) → names.length < 1000 → names.Nodup → AtN f j names → PutA S f k z C (S.set k (.ins C names (rs.set j z)))
theorem ws_setA (hv : WE C e env S fun z S1 => WE C o env S1 fun r S2 => ∃ k A S3, r = .loc k ∧ PutA S2 f k z A S3 ∧ Cls C.g.K A ∧ NoAttr C.g.K A f ∧ E.nx env S3) (hs : ∀ X : Cx, swapsWith e (some (.Attribute o f p2)) pos.line X.env = pure false) : WS C (.Assign [.Attribute o f p2] e pos) env S E := fun X W bb ok tk w σ H rp en xc D n => by
  refine ⟨_, ps_fld cE_ok cE_ok (hs X), ?_⟩
  refine hv X W bb ok tk w σ H rp en xc _ fun w1 S1 H1 z v l1 r1 i1 k1 => ?_
  refine k1 X W bb ok tk w1 σ H1 r1 (en.mono l1) (xc.mono l1) _ fun w2 S2 H2 r u l2 r2 i2 ⟨k, A, S3, e, hp, hc, hn, k2⟩ => ?_
  subst e
  obtain ⟨a, ha, ev⟩ := i2
  subst ev
  have iz := i1.mono l2
  cases hp with
  | @new names rs hk hl hf =>
    obtain ⟨a', h3, _, _, dx, vs, h4, h5, h6⟩ := r2.at_ _ _ hk rfl
    rw [ha] at h3; cases h3
    refine ⟨a, A, dx, _, rfl, h4, by rw [ok.K]; exact hc, by rw [ok.K]; exact hn, by rw [List.length_zip]; omega, ?_⟩
    rw [putF_new hf h5]
    exact n.nx w2 _ _ env σ ((l1.trans l2).n _) (r2.write (n' := .ins A (names ++ [f]) (rs ++ [z])) hk rfl ha ⟨dx, vs ++ [v], upd_same, by simp [h5], h6.append (.cons iz .nil)⟩) (en.mono (l1.trans l2)) k2
  | @old names rs j hk hl nd hj =>
    obtain ⟨a', h3, _, _, dx, vs, h4, h5, h6⟩ := r2.at_ _ _ hk rfl
    rw [ha] at h3; cases h3
    refine ⟨a, A, dx, _, rfl, h4, by rw [ok.K]; exact hc, by rw [ok.K]; exact hn, by rw [List.length_zip]; omega, ?_⟩
    rw [putF_old nd hj.get h5]
    exact n.nx w2 _ _ env σ ((l1.trans l2).n _) (r2.write (n' := .ins A names (rs.set j z)) hk rfl ha ⟨dx, vs.set j v, upd_same, by simp [h5], h6.set _ iz⟩) (en.mono (l1.trans l2)) k2

/-! ### methods of own classes, new instances -/
inductive InsR (S : Sto) : R → Addr → List Str → Prop where
  | val (A : Addr) (names : List Str) (ds : List D) : InsR S (.val (.ins A names ds)) A names
  | loc {k : Nat} {A : Addr} {names : List Str} {rs : List R} : S[k]? = some (.ins A names rs) → InsR S (.loc k) A names
theorem InsR.at_ {K : PySem.W.Frag} {bb : Base} {w : Wd} {H : Hp} {r : R} {v : V} {A : Addr} {names : List Str} (h : InsR S r A names) (rp : Rp K bb w S H) (hv : IsR K bb.B w r v) : ∃ p dx vs, v = .ref p ∧ H p = some (.ins A dx (names.zip vs)) := by
  cases h with
  | val =>
    obtain ⟨p, dx, vs, e, h1, _⟩ := hv
    exact ⟨p, dx, vs, e, rp.ex _ _ h1⟩
  | loc h1 =>
    obtain ⟨a, h2, e⟩ := hv
    obtain ⟨a', h3, _, _, dx, vs, h4, _⟩ := rp.at_ _ _ h1 rfl
    rw [h2] at h3; cases h3
    exact ⟨a, dx, vs, e, h4⟩
theorem zip_none {f : Str} : ∀ {names : List Str} {vs : List V}, f ∉ names → (names.zip vs).lookup f = none
  | [], _, _ => by simp
  | _ :: _, [], _ => by simp
  | n :: ns, u :: vs, h => by
    have hne : (f == n) = false := by
      simp only [beq_eq_false_iff_ne]
      intro e; exact h (by simp [e])
    rw [List.zip_cons_cons, List.lookup_cons, hne]
    exact zip_none fun h' => h (List.mem_cons_of_mem _ h')
def tMethS (A : Addr) (m : Str) (sp : Sp) (Ex : L2.St → XK) (ta : TE) (t : TA) : TE := fun σ H Q => ta σ H fun x H1 => ∃ a dx fs, x = .ref a ∧ H1 a = some (.ins A dx fs) ∧ fs.lookup m = none ∧
  t σ H1 fun vs H2 => sp (x :: vs) H2 Q (Ex σ)
section
variable {X : Cx} {CX : CXT} {k : Nat} {ff A : Addr} {fd : FuncData} {ps : List Str} {sp : Sp} {Ex : L2.St → XK} {apos : Pos} {ta : TE} {t : TA}
theorem pe_methS {pl : Sem Bool} (he : PE X o ta) (c : Cls X.K A) (hm : Meth X.K A m ff) (F : FnOk X.prog X.w X.K X.mg X.base CX k ff fd ps sp) (hr : Room k X.A) (hb : Binds X.K fd ps []) (hx : ∀ σ, PassesAt CX X σ (Ex σ)) (ha : PA X (e :: es) t)
    (hst : starEach (e :: es) X.env = (false, eval e X.env) :: starEach es X.env) (hpl : (backTo pos (starEach es X.env)).any (·.1) = false)
    (ht : eval (.Call (.Attribute o m apos) (e :: es) [] pos) X.env = (do
      let ov ← eval o X.env
      standAt apos.atName
      let (f, first) ← holding [ov] (getMethod ov m pl)
      callWith pos f first (backTo pos (starEach (e :: es) X.env)) (backToKw pos (keywordEach [] X.env)))) :
    PE X (.Call (.Attribute o m apos) (e :: es) [] pos) (tMethS A m sp Ex ta t) := by
  refine ⟨fun pins s σ H Q I h => ?_⟩
  refine PySem.W.methodCall_KW (pl := pl) (thn (he.run pins s σ H _ I h) fun u s1 ⟨x, H1, I1, rx, a, dx, fs, ex, ea, l, q⟩ => ?_) ht
  subst ex
  obtain rfl : u = Value.ref a := rx
  refine getmeth_ok I1 ea c hm l ?_
  refine PySem.W.callWith_K (first := [.ref a]) (h₀ := X.base) I.ok.mod.kin hm.kp (thn (ha.run pos pins s1 σ H1 _ I1 q) fun us s2 ⟨vs, H2, I2, r, q2⟩ => ⟨I2.kIn, ?_⟩) hst hpl
  exact run_fnS (us := .ref a :: us) (vs := .ref a :: vs) F hr hb (hx σ) I2 (.cons rfl r) q2
theorem pe_meth0S {pl : Sem Bool} (he : PE X o ta) (c : Cls X.K A) (hm : Meth X.K A m ff) (F : FnOk X.prog X.w X.K X.mg X.base CX k ff fd ps sp) (hr : Room k X.A) (hb : Binds X.K fd ps []) (hx : ∀ σ, PassesAt CX X σ (Ex σ))
    (ht : eval (.Call (.Attribute o m apos) [] [] pos) X.env = (do
      let ov ← eval o X.env
      standAt apos.atName
      let (f, first) ← holding [ov] (getMethod ov m pl)
      callWith pos f first (backTo pos (starEach [] X.env)) (backToKw pos (keywordEach [] X.env)))) :
    PE X (.Call (.Attribute o m apos) [] [] pos) (tMethS A m sp Ex ta tNil) := by
  refine ⟨fun pins s σ H Q I h => ?_⟩
  refine PySem.W.methodCall_KW (pl := pl) (thn (he.run pins s σ H _ I h) fun u s1 ⟨x, H1, I1, rx, a, dx, fs, ex, ea, l, q⟩ => ?_) ht
  subst ex
  obtain rfl : u = Value.ref a := rx
  refine getmeth_ok I1 ea c hm l ?_
  exact PySem.W.callWith_K0 (first := [.ref a]) I1.kIn hm.kp (run_fnS (us := [.ref a]) (vs := [.ref a]) F hr hb (hx σ) I1 (.cons rfl .nil) q)
theorem run_makeS {pins : List (Addr × Obj)} {σ : L2.St} {H : Hp} {s : Shared} {Q : VK} {us : List Value} {vs : List V} (M : Mk X.K A ff) (F : FnOk X.prog X.w X.K X.mg X.base CX k ff fd ps sp) (hr : Room (k + 1) X.A) (hb : Binds X.K fd ps [])
    (hx : PassesAt CX X σ (Ex σ)) (I : Inv X pins σ H s) (r : Vals vs us)
    (h : ∀ x dx, H x = none → H dx = none → dx ≠ x → sp (.ref x :: vs) (upd (upd H dx (.own x)) x (.ins A dx [])) (fun v H2 => v = .non ∧ Q (.ref x) H2) (Ex σ)) :
    wpAny (model X.prog X.w) X.A (call (.ref A) us) (EP X pins σ Q) X.xe s := by
  have hq := h (s.heap.objs.size + 1) s.heap.objs.size (I.hok.fresh (Nat.le_succ _)) (I.hok.fresh (Nat.le_refl _)) (Nat.ne_of_lt (Nat.lt_succ_self _))
  have I2 := Inv.made (C := A) I
  have r2 : Vals (V.ref (s.heap.objs.size + 1) :: vs) (Value.ref (s.heap.objs.size + 1) :: us) := .cons rfl r
  have hl : (Value.ref (s.heap.objs.size + 1) :: us ++ []).length = ps.length := by
    have e := r2.length
    rw [F.len _ _ _ _ hq] at e
    rw [List.append_nil]
    exact e.symm
  have bb := hb _ (Value.ref (s.heap.objs.size + 1) :: us) I2.kIn hl
  rw [List.append_nil] at bb
  refine wpAny_call (make_map (f := ff) I.kIn M.makes M.init (beq_iff_eq.mp M.fn) (codeAny_mono (F.run _ X.stack _ _ ⟨Value.ref (s.heap.objs.size + 1) :: us, []⟩ (Value.ref (s.heap.objs.size + 1) :: us) _ _ (Ex σ) (hr.make A us [])
    (I2.env0.make A us []) bb r2 hq) fun r s' hq' => ?_))
  cases r with
  | error e => exact hx pins _ _ e s' I2 hq'
  | ok fl =>
    cases fl with
    | ret u =>
      obtain ⟨v, H', I3, rv, ev, q3⟩ := I2.after hq'
      subst ev
      exact ⟨rv, ⟨V.ref (s.heap.objs.size + 1), H', I3, rfl, q3⟩⟩
    | next => exact False.elim hq'
    | brk => exact False.elim hq'
    | cont => exact False.elim hq'
def tMakeS (A : Addr) (sp : Sp) (Ex : L2.St → XK) (t : TA) : TE := fun σ H Q => t σ H fun vs H1 => ∀ x dx, H1 x = none → H1 dx = none → dx ≠ x →
  sp (.ref x :: vs) (upd (upd H1 dx (.own x)) x (.ins A dx [])) (fun v H2 => v = .non ∧ Q (.ref x) H2) (Ex σ)
theorem pe_makeS (M : Mk X.K A ff) (F : FnOk X.prog X.w X.K X.mg X.base CX k ff fd ps sp) (hr : Room (k + 1) X.A) (hg : Gl X x) (hm : X.mg x = some (.ref A)) (hb : Binds X.K fd ps []) (hx : ∀ σ, PassesAt CX X σ (Ex σ))
    (ha : PA X (e :: es) t) (hdb : (x == ("__debug__" : Str)) = false) (he : starEach (e :: es) X.env = (false, eval e X.env) :: starEach es X.env) (hpl : (backTo pos (starEach es X.env)).any (·.1) = false) :
    PE X (.Call (.Name x p2) (e :: es) [] pos) (tMakeS A sp Ex t) := by
  refine ⟨fun pins s σ H Q I h => ?_⟩
  refine wpAny_Call_Name_kw (ld_glob I hg hm ?_ hdb)
  refine PySem.W.callWith_K (h₀ := X.base) I.ok.mod.kin M.kp (thn (ha.run pos pins s σ H _ I h) fun us s1 ⟨vs, H1, I1, r, q⟩ => ⟨I1.kIn, ?_⟩) he hpl
  exact run_makeS M F hr hb (hx σ) I1 r q
end
/-- o.m(e, ..) -/
theorem we_meth {ff A : Addr} {k : Nat} {ps : List Str} {s : DSp} {apos : Pos} {pl : Cx → Sem Bool} (G : FnD C.g k ff ps s) (hcl : Cls C.g.K A) (hm : Meth C.g.K A m ff) (hk : k ≤ C.k) (hc : C.calm = true)
    (h : WE C o env S fun r S1 => ∃ names, InsR S1 r A names ∧ m ∉ names ∧ WA C (e :: es) env S1 fun rs S2 => FnC C s (r :: rs) env S2 Ψ)
    (he : ∀ X : Cx, starEach (e :: es) X.env = (false, eval e X.env) :: starEach es X.env) (hp : ∀ X : Cx, (backTo pos (starEach es X.env)).any (·.1) = false)
    (ht : ∀ X : Cx, eval (.Call (.Attribute o m apos) (e :: es) [] pos) X.env = (do
      let ov ← eval o X.env
      standAt apos.atName
      let (f, first) ← holding [ov] (getMethod ov m (pl X))
      callWith pos f first (backTo pos (starEach (e :: es) X.env)) (backToKw pos (keywordEach [] X.env)))) : WE C (.Call (.Attribute o m apos) (e :: es) [] pos) env S Ψ := fun X W bb ok tk w σ H rp en xc Q n => by
  obtain ⟨g, cN, csc, vis, wr, gl, kk, calm, n0, xi, ho⟩ := C
  have eg : gdOf X = g := ok.gd
  subst eg
  obtain ⟨⟨fd, F, B⟩, kp⟩ := G
  refine ⟨_, pe_methS (pl := pl X) cE_ok hcl hm F ((ok.calm hc).2.mono hk) B (fun σ => passAt tk σ) cA_ok (he X) (hp X) (ht X), ?_⟩
  refine h X W bb ok tk w σ H rp en xc _ fun w1 S1 H1 r v l1 r1 i1 ⟨names, hi, hn, k1⟩ => ?_
  obtain ⟨p, dx, vs, ev, hH⟩ := hi.at_ r1 i1
  refine ⟨p, dx, _, ev, hH, zip_none hn, ?_⟩
  refine k1 X W bb ok tk w1 σ H1 r1 (en.mono l1) (xc.mono l1) _ fun w2 S2 H2 rs us l2 r2 i2 k2 => ?_
  exact k2.run r2 (en.mono (l1.trans l2)) (xc.mono (l1.trans l2)) (.cons (i1.mono l2) i2) (n.mono (l1.trans l2))
theorem we_meth0 {ff A : Addr} {k : Nat} {ps : List Str} {s : DSp} {apos : Pos} {pl : Cx → Sem Bool} (G : FnD C.g k ff ps s) (hcl : Cls C.g.K A) (hm : Meth C.g.K A m ff) (hk : k ≤ C.k) (hc : C.calm = true)
    (h : WE C o env S fun r S1 => ∃ names, InsR S1 r A names ∧ m ∉ names ∧ FnC C s [r] env S1 Ψ)
    (ht : ∀ X : Cx, eval (.Call (.Attribute o m apos) [] [] pos) X.env = (do
      let ov ← eval o X.env
      standAt apos.atName
      let (f, first) ← holding [ov] (getMethod ov m (pl X))
      callWith pos f first (backTo pos (starEach [] X.env)) (backToKw pos (keywordEach [] X.env)))) : WE C (.Call (.Attribute o m apos) [] [] pos) env S Ψ := fun X W bb ok tk w σ H rp en xc Q n => by
  obtain ⟨g, cN, csc, vis, wr, gl, kk, calm, n0, xi, ho⟩ := C
  have eg : gdOf X = g := ok.gd
  subst eg
  obtain ⟨⟨fd, F, B⟩, kp⟩ := G
  refine ⟨_, pe_meth0S (pl := pl X) cE_ok hcl hm F ((ok.calm hc).2.mono hk) B (fun σ => passAt tk σ) (ht X), ?_⟩
  refine h X W bb ok tk w σ H rp en xc _ fun w1 S1 H1 r v l1 r1 i1 ⟨names, hi, hn, k1⟩ => ?_
  obtain ⟨p, dx, vs, ev, hH⟩ := hi.at_ r1 i1
  refine ⟨p, dx, _, ev, hH, zip_none hn, ?_⟩
  show spD _ s ([v] ++ []) H1 Q _
  exact k1.run r1 (en.mono l1) (xc.mono l1) (.cons i1 .nil) (n.mono l1)
/-- A(e, ..): a new instance -/
theorem we_make {ff A : Addr} {k : Nat} {ps : List Str} {s : DSp} (G : FnD C.g k ff ps s) (M : Mk C.g.K A ff) (hx : InG x C.gl) (hm : C.g.mg x = some (.ref A)) (hk : k + 1 ≤ C.k) (hc : C.calm = true)
    (h : WA C (e :: es) env S fun rs S1 => FnC C s (.loc S1.length :: rs) env (S1 ++ [.ins A [] []]) fun z S2 => z = .val .non ∧ Ψ (.loc S1.length) S2)
    (he : ∀ X : Cx, starEach (e :: es) X.env = (false, eval e X.env) :: starEach es X.env) (hp : ∀ X : Cx, (backTo pos (starEach es X.env)).any (·.1) = false) : WE C (.Call (.Name x p2) (e :: es) [] pos) env S Ψ := fun X W bb ok tk w σ H rp en xc Q n => by
  obtain ⟨g, cN, csc, vis, wr, gl, kk, calm, n0, xi, ho⟩ := C
  obtain ⟨h1, h2⟩ := ok.gl _ hx.mem
  have eg : gdOf X = g := ok.gd
  subst eg
  obtain ⟨⟨fd, F, B⟩, kp⟩ := G
  refine ⟨_, pe_makeS M F ((ok.calm hc).2.mono hk) h1 hm B (fun σ => passAt tk σ) cA_ok (plain_of h2).1 (he X) (hp X), ?_⟩
  refine h X W bb ok tk w σ H rp en xc _ fun w1 S1 H1 rs vs l1 r1 i1 k1 => fun y dx hy hdx hne => ?_
  have r2 := r1.more (o := .own y) hdx
  have hy2 : upd H1 dx (HO.own y) y = none := by rw [upd_ne (Ne.symm hne)]; exact hy
  obtain ⟨r3, l3⟩ := r2.alloc (n := .ins A [] []) (o := .ins A dx []) hy2 ⟨dx, [], upd_same, rfl, .nil⟩
  have l13 := l1.trans l3
  refine k1.run r3 (en.mono l13) (xc.mono l13) (.cons (loc_new r2 y) (i1.mono l3)) fun w4 S4 H4 z v l4 r4 i4 ⟨ez, k4⟩ => ?_
  subst ez
  have i4 : v = V.non := i4
  exact ⟨i4, n w4 S4 H4 (.loc S1.length) _ (l13.trans l4) r4 ((loc_new r2 y).mono l4) k4⟩
end
end DL
set_option Elab.async false
set_option linter.all false
set_option maxRecDepth 100000
set_option maxHeartbeats 4000000
namespace DL
open PySem PySem.Spec PyProof.Rows
open L2 hiding Takes passAt takes_of ps_raise PMk ps_try_as
open L2N (Takes passAt takes_of ps_raise PMk ps_try_as)

/-! ### list comprehensions -/
def wipeN (e : Nv) : List Nat → Nv
  | [] => e
  | v :: vs => (wipeN e vs).set v none
theorem wipe_set {σ : L2.St} {i : Nat} {y : Option V} : ∀ {vs : List Nat}, i ∈ vs → wipe (σ.set i y) vs = wipe σ vs
  | v :: vs, h => by
    by_cases hv : i = v
    · subst hv
      by_cases hm : i ∈ vs
      · show (wipe (σ.set i y) vs).set i none = (wipe σ vs).set i none
        rw [wipe_set hm]
      · have key : ∀ {us : List Nat}, i ∉ us → wipe (σ.set i y) us = (wipe σ us).set i y := fun {us} => by
          induction us with
          | nil => intro _; rfl
          | cons u us ih =>
            intro hu
            have h1 : i ≠ u := fun e => hu (by simp [e])
            have h2 : i ∉ us := fun e => hu (by simp [e])
            show (wipe (σ.set i y) us).set u none = ((wipe σ us).set u none).set i y
            rw [ih h2, List.set_comm _ _ h1]
        show (wipe (σ.set i y) vs).set i none = (wipe σ vs).set i none
        rw [key hm, List.set_set]
    · have hm : i ∈ vs := by
        rcases List.mem_cons.mp h with h | h
        · exact absurd h hv
        · exact h
      show (wipe (σ.set i y) vs).set v none = (wipe σ vs).set v none
      rw [wipe_set hm]
theorem EnvIs.wipe {K : PySem.W.Frag} {b : Base} {w : Wd} {env : Nv} {σ : L2.St} (h : EnvIs K b w env σ) : ∀ vs : List Nat, EnvIs K b w (wipeN env vs) (L2.wipe σ vs)
  | [] => h
  | v :: vs => by
    obtain ⟨h1, h2⟩ := EnvIs.wipe h vs
    refine ⟨by show ((L2.wipe σ vs).set v none).length = ((wipeN env vs).set v none).length; rw [List.length_set, List.length_set]; exact h1, fun i r e => ?_⟩
    have e : ((wipeN env vs).set v none)[i]? = some (some r) := e
    show ∃ x, ((L2.wipe σ vs).set v none)[i]? = some (some x) ∧ _
    by_cases hi : v = i
    · subst hi
      by_cases hl : v < (wipeN env vs).length
      · rw [List.getElem?_set_self hl] at e; cases e
      · rw [List.getElem?_eq_none (by simpa using hl)] at e; cases e
    · rw [List.getElem?_set_ne hi] at e ⊢
      exact h2 i r e
theorem wipe_wipe {σ : L2.St} {vs : List Nat} : ∀ {us : List Nat}, (∀ u ∈ us, u ∈ vs) → wipe (wipe σ us) vs = wipe σ vs
  | [], _ => rfl
  | u :: us, h => by
    show wipe ((wipe σ us).set u none) vs = _
    rw [wipe_set (h u List.mem_cons_self)]
    exact wipe_wipe fun v hv => h v (List.mem_cons_of_mem _ hv)
section
variable {C : DC} {env : Nv} {S : Sto} {Ψ : R → Sto → Prop} {Θ : Bool → Sto → Prop} {Φ : List R → Sto → Prop} {Ω : Nv → Sto → Prop} {E : Nd} {pos p2 p3 : Pos} {a b c e o tg elt iter : Expr} {es rest ifs : List Expr} {x f m : Str}
/-- the newer objects of a value's reckoning settled -/
theorem we_settle (h : WE C e env S fun r S1 => ∃ n r', S.length ≤ n ∧ n ≤ S1.length ∧ (S1.take n).all (Node.okB n) = true ∧ ((okE n r = true ∧ r' = r) ∨ ∃ d, Fz S1 n r d ∧ r' = .val d) ∧ Ψ r' (S1.take n)) : WE C e env S Ψ := fun X W bb ok tk w σ H rp en xc Q nn => by
  refine h X W bb ok tk w σ H rp en xc _ fun w1 S1 H1 r v l1 r1 i1 ⟨n, r', h1, h2, h3, h4, h5⟩ => ?_
  have b0 : bb.as0.length ≤ n := by
    obtain ⟨t, e⟩ := rp.pre
    have : w.as.length = S.length := rp.len
    rw [e, List.length_append] at this
    omega
  have lg : Ex w1.G (gSet bb w1 S1 n H1) := (gSet_ex r1 n).1
  have l : Le w ⟨gSet bb w1 S1 n H1, w1.as.take n⟩ := by
    refine ⟨l1.g.trans lg, ?_⟩
    obtain ⟨t, e⟩ := l1.a
    have : w.as.length = S.length := rp.len
    exact ⟨t.take (n - w.as.length), by show w1.as.take n = _; rw [e, List.take_append, List.take_of_length_le (by omega)]⟩
  refine nn _ _ _ r' v l (r1.settle h2 b0 h3) ?_ h5
  rcases h4 with ⟨o, rfl⟩ | ⟨d, hf, rfl⟩
  · exact (i1.cutE o).mono ⟨lg, [], by simp⟩
  · exact Fz.is r1 b0 hf v i1

/-- a target within a comprehension: only the block's own slots change -/
def WGw (C : DC) (vs : List Nat) (tg : Expr) (r : R) (env : Nv) (S : Sto) (Ω : Nv → Sto → Prop) : Prop := ∀ X W b, OkC X C → Takes X W → ∀ w σ H, Rp C.g.K b w S H → EnvIs C.g.K b w env σ → XCov C.g.K b w C.n0 C.xi W → ∀ v, IsR C.g.K b.B w r v → ∀ Q, ECov C.g.K b w C.n0 Ω (fun σ' H' => wipe σ' vs = wipe σ vs → Q σ' H') → cG X tg v σ H Q
def WGsw (C : DC) (vs : List Nat) (tg : List Expr) (ds : List D) (env : Nv) (S : Sto) (Ω : Nv → Sto → Prop) : Prop := ∀ X W b, OkC X C → Takes X W → ∀ w σ H, Rp C.g.K b w S H → EnvIs C.g.K b w env σ → XCov C.g.K b w C.n0 C.xi W → ∀ us, IsL C.g.K w.G ds us → ∀ Q, ECov C.g.K b w C.n0 Ω (fun σ' H' => wipe σ' vs = wipe σ vs → Q σ' H') → ∃ g, PGs X tg g ∧ g us σ H Q
theorem wgw_name {vs : List Nat} {i : Nat} {r : R} (hx : InV x i C.wr) (hi : vs.contains i = true) (h : Ω (env.set i (some r)) S) : WGw C vs (.Name x pos) r env S Ω := fun X W bb ok tk w σ H rp en xc v hv Q n => by
  obtain ⟨h1, h2, h3⟩ := ok.wr _ hx.mem
  exact ⟨_, pg_name ok.nd h1 h2 h3, n w S H _ _ (LeN.refl _ _) rp (en.set i hv) h (wipe_set (by simpa using hi))⟩
/-- the block, seen from its def -/
def lcB (N : List Str) (sc scope : Scope) (own vis wr : List (Str × Nat)) (gl : List Str) : Bool :=
  blkC N sc scope own && (vis.all fun p => decide (N[p.2]? = some p.1) && (locB (relS scope sc) p.1 || decide ((relS scope sc).names.lookup p.1 = some .free)) && plainName p.1) &&
    (wr.all fun p => decide (N[p.2]? = some p.1) && (decide ((relS scope sc).names.lookup p.1 = some .local) || (decide (scope.names.lookup p.1 = some .cell) && decide ((relS scope sc).names.lookup p.1 = some .cell)))) &&
    (gl.all fun x => decide ((relS scope sc).names.lookup x = some .globalImplicit) && plainName x)
abbrev DC.blk (C : DC) (scope : Scope) (vis wr : List (Str × Nat)) (gl : List Str) (n : Nat) : DC := ⟨C.g, C.N, relS scope C.sc, vis, wr, gl, C.k, C.calm, n, fun _ _ _ _ _ => False, ⟨false, none, none⟩⟩
theorem OkC.blk {X : Cx} {scope : Scope} {own vis wr : List (Str × Nat)} {gl : List Str} {n : Nat} {s : Shared} {H : Hp} {cl : List (Str × Addr)} {A : Addr} {fp : List Addr} (ok : OkC X C) (h : lcB C.N C.sc scope own vis wr gl = true) : OkC (X.blk s H scope (compEnvC scope cl A X.env) fp) (C.blk scope vis wr gl n) := by
  unfold lcB at h
  simp only [Bool.and_eq_true, List.all_eq_true, decide_eq_true_eq, Bool.or_eq_true] at h
  obtain ⟨⟨⟨h1, h2⟩, h3⟩, h4⟩ := h
  have esc : relabel scope X.env = relS scope C.sc := by rw [← ok.sc]; rfl
  refine ⟨ok.gd, ok.N, esc, ok.nd, fun p hp => ?_, fun p hp => ?_, fun x hx => ?_, ok.calm, ok.un, PassesOwn.never, (fun _ z => nomatch z), (fun _ z => nomatch z), (fun z => nomatch z)⟩
  · obtain ⟨⟨q1, q2⟩, q3⟩ := h2 p hp
    refine ⟨by rw [← ok.N] at q1; exact q1, ?_, q3⟩
    show Vis (relabel scope X.env) p.1
    rw [esc]
    rcases q2 with q2 | q2
    · rcases locB_ok q2 with q2 | q2
      · exact .inl q2
      · exact .inr (.inl q2)
    · exact .inr (.inr q2)
  · obtain ⟨q1, q2⟩ := h3 p hp
    refine ⟨by rw [← ok.N] at q1; exact q1, ?_, ?_⟩
    · show Loc (relabel scope X.env) p.1
      rw [esc]
      rcases q2 with q2 | ⟨_, q2⟩
      · exact .inl q2
      · exact .inr q2
    · rcases q2 with q2 | ⟨q2, _⟩
      · right
        show (relabel scope X.env).names.lookup p.1 = _
        rw [esc]; exact q2
      · left
        show (scope.names.lookup p.1 == some .cell) = true
        rw [q2]; rfl
  · obtain ⟨q1, q2⟩ := h4 x hx
    refine ⟨?_, q2⟩
    show (relabel scope X.env).names.lookup x = _
    rw [esc]; exact q1
theorem takes_blk {X : Cx} : Takes X (fun _ _ _ _ => False) := fun u s' ⟨_, _, _, _, _, _, _, _, _, _, _, _, _, _, _, _, h⟩ => h.elim
/-- the tests of a clause -/
def cTs (X : Cx) (ifs : List Expr) : TT := fun σ H Q => ∃ t, PTs X ifs t ∧ t σ H Q
def WTs (C : DC) (e : List Expr) (env : Nv) (S : Sto) (Ψ : Bool → Sto → Prop) : Prop := ∀ X W b, OkC X C → Takes X W → ∀ w σ H, Rp C.g.K b w S H → EnvIs C.g.K b w env σ → XCov C.g.K b w C.n0 C.xi W → ∀ Q, TCov C.g.K b w Ψ Q → cTs X e σ H Q
theorem wts_nil (h : Θ true S) : WTs C [] env S Θ := fun X W bb ok tk w σ H rp en xc Q n => ⟨_, pts_nil, n w S H true (Le.refl _) rp h⟩
/-- what stands behind a comprehension, at the values' level -/
theorem lc_wp {scope : Scope} {own vis wr : List (Str × Nat)} {gl : List Str} (hb : lcB C.N C.sc scope own vis wr gl = true) (hc : C.calm = true)
    (h : WI C tg iter env S fun ds SG S1 => ∃ I : Nat → Sto → Prop, I 0 (S1 ++ [.lst []]) ∧ (∀ i S', I i S' → SG S') ∧
      (∀ i d S', ds[i]? = some d → I i S' → WGw (C.blk scope vis wr gl (S1.length + 1)) (own.map (·.2)) tg (.val d) (wipeN env (own.map (·.2))) S' fun e2 S2 => WTs (C.blk scope vis wr gl (S1.length + 1)) ifs e2 S2 fun k S3 =>
        (k = false → I (i + 1) S3) ∧ (k = true → WE (C.blk scope vis wr gl (S1.length + 1)) elt e2 S3 fun r S4 => ∃ rs, S4[S1.length]? = some (.lst rs) ∧ rs.length < sizeLine ∧ I (i + 1) (S4.set S1.length (.lst (rs ++ [r]))))) ∧
      (∀ S', I ds.length S' → Ψ (.loc S1.length) S'))
    {X : Cx} {W : WX} {bb : Base} (ok : OkC X C) (tk : Takes X W) {w : Wd} {σ : L2.St} {H : Hp} (rp : Rp C.g.K bb w S H) (en : EnvIs C.g.K bb w env σ) (xc : XCov C.g.K bb w C.n0 C.xi W) {Q : VK} (n : NCov C.g.K bb w Ψ Q) :
    tLc (cI X tg iter) (fun v σ H Q => ∀ s H0 A cl fp, cG (X.blk s H0 scope (compEnvC scope cl A X.env) fp) tg v σ H Q) (fun σ H Q => ∀ s H0 A cl fp, cTs (X.blk s H0 scope (compEnvC scope cl A X.env) fp) ifs σ H Q)
      (fun σ H Q => ∀ s H0 A cl fp, cE (X.blk s H0 scope (compEnvC scope cl A X.env) fp) elt σ H Q) (own.map (·.2)) σ H Q := by
  refine h X W bb ok tk w σ H rp en xc _ fun w1 S1 H1 J ds SG l1 r1 wk ⟨I, h0, hG, hstep, hend⟩ => ?_
  obtain ⟨G, Y, wlk, hg, hy⟩ := wk.ex
  intro L hL
  have b0 : bb.as0.length ≤ S1.length := by
    obtain ⟨t, e⟩ := r1.pre
    rw [← r1.len, e, List.length_append]; omega
  obtain ⟨r2, l2⟩ := r1.alloc (n := .lst []) (o := .lst []) hL ⟨[], upd_same, .nil⟩
  refine ⟨fun i m H' => ∃ w' S', Le ⟨w1.G, w1.as ++ [L]⟩ w' ∧ Rp C.g.K bb w' S' H' ∧ I i S' ∧ m = ds.length - i ∧ i ≤ ds.length, ⟨_, _, _, Le.refl _, r2, h0, rfl, Nat.zero_le _⟩, ?_⟩
  rintro i m H2 ⟨w3, S3, l3, r3, i3, rfl, hi⟩
  have lw : Le w w3 := (l1.trans l2).trans l3
  have aL : ∀ {w' : Wd}, Le w3 w' → w'.as[S1.length]? = some L := fun l => l.at_ (l3.at_ (by rw [← r1.len]; simp))
  by_cases hlt : i < ds.length
  · have hd : ds[i]? = some ds[i] := by simp [hlt]
    refine .inr ⟨wlk.goes i H2 hlt (hg w3 S3 H2 (l2.trans l3) r3 (hG i S3 i3)), fun H' => ∃ w' S', Le ⟨w1.G, w1.as ++ [L]⟩ w' ∧ Rp C.g.K bb w' S' H' ∧ I (i + 1) S',
      fun H' ⟨w', S', q1, q2, q3⟩ => ⟨ds.length - (i + 1), by omega, w', S', q1, q2, q3, rfl, hlt⟩, fun x H4 yy => ?_⟩
    obtain ⟨w4, l4, r4, x4⟩ := hy w3 S3 H2 i x H4 ds[i] (l2.trans l3) r3 (hG i S3 i3) hd (wlk.yields i H2 x H4 hlt (hg w3 S3 H2 (l2.trans l3) r3 (hG i S3 i3)) yy)
    intro sb Hb Ab cl fp
    have en4 := (en.mono (lw.trans l4)).wipe (own.map (·.2))
    have len4 : w4.as.length ≥ S1.length + 1 := by
      obtain ⟨t, e⟩ := (l3.trans l4).a
      have : w1.as.length = S1.length := r1.len
      rw [e]; simp; omega
    refine hstep i ds[i] S3 hd i3 _ (fun _ _ _ _ => False) bb (ok.blk hb) takes_blk w4 _ H4 r4 en4 ⟨Nat.le_succ_of_le b0, fun _ _ _ _ _ _ _ _ _ _ _ _ _ _ _ _ z => z.elim⟩ x x4 _ fun w5 S5 H5 env5 σ5 l5 r5 e5 k5 hw => ?_
    refine ⟨hw.trans (wipe_wipe (fun _ h => h)), ?_⟩
    have l15 : Le ⟨w1.G, w1.as ++ [L]⟩ w5 := by
      refine LeN.le (n := S1.length + 1) (((l3.trans l4).n _).trans l5) ?_
      have : w1.as.length = S1.length := r1.len
      simp; omega
    have x0 : ∀ {w' : Wd}, XCov C.g.K bb w' (S1.length + 1) (fun _ _ _ _ _ => False) (fun _ _ _ _ => False) := ⟨Nat.le_succ_of_le b0, fun _ _ _ _ _ _ _ _ _ _ _ _ _ _ _ _ z => z.elim⟩
    intro sb Hb Ab cl fp
    refine k5 _ (fun _ _ _ _ => False) bb (ok.blk hb) takes_blk w5 _ H5 r5 e5 x0 _ fun w6 S6 H6 k l6 r6 k6 => ?_
    cases k with
    | false => exact ⟨w6, S6, l15.trans l6, r6, k6.1 rfl⟩
    | true =>
      show if true = true then _ else _
      rw [if_pos rfl]
      intro sb Hb Ab cl fp
      refine k6.2 rfl _ (fun _ _ _ _ => False) bb (ok.blk hb) takes_blk w6 _ H6 r6 (e5.mono l6) x0 _ fun w7 S7 H7 r v l7 r7 i7 ⟨rs, hrs, hz, hI⟩ => ?_
      have l17 := l15.trans (l6.trans l7)
      have a7 : w7.as[S1.length]? = some L := l17.at_ (by rw [← r1.len]; simp)
      obtain ⟨a', h3, _, _, vs, h4, h5⟩ := r7.at_ _ _ hrs rfl
      rw [a7] at h3; cases h3
      refine ⟨vs, h4, by rw [← IsRs.length h5]; exact hz, w7, _, l17, r7.write (n' := .lst (rs ++ [r])) hrs rfl a7 ⟨vs ++ [v], upd_same, h5.append (.cons i7 .nil)⟩, hI⟩
  · have e : i = ds.length := by omega
    subst e
    refine .inl ⟨wlk.stops H2 (hg w3 S3 H2 (l2.trans l3) r3 (hG _ S3 i3)), ?_⟩
    exact n w3 S3 H2 (.loc S1.length) _ lw r3 ⟨L, aL (Le.refl _), rfl⟩ (hend S3 i3)
theorem cG_blk {X : Cx} {scope : Scope} (s : Shared) (H0 : Hp) (A : Addr) (cl : List (Str × Addr)) (fp : List Addr) : PG (X.blk s H0 scope (compEnvC scope cl A X.env) fp) tg (fun v σ H Q => ∀ s H0 A cl fp, cG (X.blk s H0 scope (compEnvC scope cl A X.env) fp) tg v σ H Q) :=
  ⟨fun pins s' σ H v u Q I r h => cG_ok.run pins s' σ H v u Q I r (h s H0 A cl fp)⟩
theorem cTs_blk {X : Cx} {scope : Scope} (s : Shared) (H0 : Hp) (A : Addr) (cl : List (Str × Addr)) (fp : List Addr) : PTs (X.blk s H0 scope (compEnvC scope cl A X.env) fp) ifs (fun σ H Q => ∀ s H0 A cl fp, cTs (X.blk s H0 scope (compEnvC scope cl A X.env) fp) ifs σ H Q) :=
  ⟨fun pins s' σ H Q I h => by
    obtain ⟨t, p, h⟩ := h s H0 A cl fp
    exact p.run pins s' σ H Q I h⟩
theorem cE_blk {X : Cx} {scope : Scope} (s : Shared) (H0 : Hp) (A : Addr) (cl : List (Str × Addr)) (fp : List Addr) : PE (X.blk s H0 scope (compEnvC scope cl A X.env) fp) e (fun σ H Q => ∀ s H0 A cl fp, cE (X.blk s H0 scope (compEnvC scope cl A X.env) fp) e σ H Q) :=
  ⟨fun pins s' σ H Q I h => cE_ok.run pins s' σ H Q I (h s H0 A cl fp)⟩
theorem lcB_blk {X : Cx} {scope : Scope} {own vis wr : List (Str × Nat)} {gl : List Str} (ok : OkC X C) (h : lcB C.N C.sc scope own vis wr gl = true) : BlkOk X.N X.env.scope scope own := by
  unfold lcB at h
  simp only [Bool.and_eq_true] at h
  rw [ok.N, ok.sc]
  exact blkOk_by h.1.1.1
def LcI (C : DC) (tg elt : Expr) (ifs : List Expr) (scope : Scope) (own vis wr : List (Str × Nat)) (gl : List Str) (env : Nv) (Ψ : R → Sto → Prop) (ds : List D) (SG : Sto → Prop) (S1 : Sto) : Prop :=
  ∃ I : Nat → Sto → Prop, I 0 (S1 ++ [.lst []]) ∧ (∀ i S', I i S' → SG S') ∧
      (∀ i d S', ds[i]? = some d → I i S' → WGw (C.blk scope vis wr gl (S1.length + 1)) (own.map (·.2)) tg (.val d) (wipeN env (own.map (·.2))) S' fun e2 S2 => WTs (C.blk scope vis wr gl (S1.length + 1)) ifs e2 S2 fun k S3 =>
        (k = false → I (i + 1) S3) ∧ (k = true → WE (C.blk scope vis wr gl (S1.length + 1)) elt e2 S3 fun r S4 => ∃ rs, S4[S1.length]? = some (.lst rs) ∧ rs.length < sizeLine ∧ I (i + 1) (S4.set S1.length (.lst (rs ++ [r]))))) ∧
      (∀ S', I ds.length S' → Ψ (.loc S1.length) S')
/-- name = [elt for tg in iter if ..] on one line -/
theorem ws_setLc {scope : Scope} {i : Nat} (own vis wr : List (Str × Nat)) (gl : List Str) (hb : lcB C.N C.sc scope own vis wr gl = true) (hc : C.calm = true) (hx : InV x i C.wr)
    (h : WI C tg iter env S fun ds SG S1 => LcI C tg elt ifs scope own vis wr gl env (fun r S1 => E.nx (env.set i (some r)) S1) ds SG S1) (hs : ∀ X : Cx, ∀ x, foldedSetIterable iter X.env x = pure x)
    (hk : C.sc.kind = .function) (hxl : C.sc.names.lookup x = some .local) (hl : (p2.line == p3.line) = true) (ha : (scope.names.any fun (n, k) => n == x && (k == .local || k == .cell)) = false) :
    WS C (.Assign [.Name x p2] (.ListComp elt [⟨tg, iter, ifs, 0⟩] scope p3) pos) env S E := fun X W bb ok tk w σ H rp en xc D n => by
  obtain ⟨h1, h2, h3⟩ := ok.wr _ hx.mem
  refine ⟨_, ps_setLc (ok.calm hc).1 ok.nd h1 (by rw [ok.sc]; exact hxl) ?_ cI_ok (lcB_blk ok hb) cG_blk cTs_blk cE_blk (hs X), lc_wp hb hc h ok tk rp en xc (Q := fun v H1 => D.nx (σ.set i (some v)) H1) fun w1 S1 H1 r v l1 r1 i1 k1 => n.nx w1 S1 H1 _ _ (l1.n _) r1 ((en.mono l1).set i i1) k1⟩
  exact sw_true (by rw [ok.sc]; exact hk) (by rw [ok.sc]; exact hxl) hl ha
end
end DL
set_option Elab.async false
set_option linter.all false
set_option maxRecDepth 100000
set_option maxHeartbeats 4000000
namespace DL
open PySem PySem.Spec PyProof.Rows
open L2 hiding Takes passAt takes_of ps_raise PMk ps_try_as
open L2N (Takes passAt takes_of ps_raise PMk ps_try_as)
section
variable {C : DC} {env : Nv} {S : Sto} {Ψ : R → Sto → Prop} {Θ : Bool → Sto → Prop} {Φ : List R → Sto → Prop} {Ω : Nv → Sto → Prop} {Λ : List D → (Sto → Prop) → Sto → Prop} {E : Nd} {pos p2 p3 : Pos} {a b c e o tg elt iter : Expr} {es rest ifs : List Expr} {x f m : Str}

/-! ### put together: tuples, lists -/
/-! ### slices -/
def WPO (C : DC) (e : Option Expr) (env : Nv) (S : Sto) (Ψ : Option Int → Sto → Prop) : Prop := ∀ X W b, OkC X C → Takes X W → ∀ w σ H, Rp C.g.K b w S H → EnvIs C.g.K b w env σ → XCov C.g.K b w C.n0 C.xi W → ∀ Q : Option Int → Hp → Prop, (∀ w' S' H' o, Le w w' → Rp C.g.K b w' S' H' → Ψ o S' → Q o H') → ∃ t, PO X e t ∧ t σ H Q
theorem wpo_none {Ψ : Option Int → Sto → Prop} (h : Ψ none S) : WPO C none env S Ψ := fun X W bb ok tk w σ H rp en xc Q n => ⟨_, po_none, n w S H none (Le.refl _) rp h⟩
theorem wpo_some {Ψ : Option Int → Sto → Prop} (h : WE C e env S fun r S1 => ∃ i, r = .val (.int i) ∧ Ψ (some i) S1) : WPO C (some e) env S Ψ := fun X W bb ok tk w σ H rp en xc Q n => by
  refine ⟨_, po_some cE_ok, ?_⟩
  refine h X W bb ok tk w σ H rp en xc _ fun w1 S1 H1 r v l1 r1 i1 ⟨i, e, k⟩ => ?_
  subst e
  exact ⟨i, i1, n w1 S1 H1 _ l1 r1 k⟩
def WSl (C : DC) (x : R) (lo hi : Option Int) (S : Sto) (Ψ : R → Sto → Prop) : Prop := ∀ X b, OkC X C → ∀ w H, Rp C.g.K b w S H → ∀ v, IsR C.g.K b.B w x v → ∀ Q, NCov C.g.K b w Ψ Q → ∃ r, SlR X r ∧ r v lo hi H Q
theorem we_slice {lo hi : Option Expr} (h : WE C e env S fun x S1 => WPO C lo env S1 fun l S2 => WPO C hi env S2 fun u S3 => WSl C x l u S3 Ψ) : WE C (.Subscript e (.Slice lo hi none p2) pos) env S Ψ := fun X W bb ok tk w σ H rp en xc Q n => by
  have key : cE X e σ H fun x H1 => ∃ tl, PO X lo tl ∧ tl σ H1 fun l H2 => ∃ th, PO X hi th ∧ th σ H2 fun u H3 => ∃ r, SlR X r ∧ r x l u H3 Q := by
    refine h X W bb ok tk w σ H rp en xc _ fun w1 S1 H1 x v l1 r1 i1 k1 => ?_
    refine k1 X W bb ok tk w1 σ H1 r1 (en.mono l1) (xc.mono l1) _ fun w2 S2 H2 l l2 r2 k2 => ?_
    refine k2 X W bb ok tk w2 σ H2 r2 (en.mono (l1.trans l2)) (xc.mono (l1.trans l2)) _ fun w3 S3 H3 u l3 r3 k3 => ?_
    exact k3 X bb ok w3 H3 r3 v (i1.mono (l2.trans l3)) Q (n.mono ((l1.trans l2).trans l3))
  refine ⟨tSl (fun x lo hi H Q => ∃ r, SlR X r ∧ r x lo hi H Q) (cE X e) (fun σ H Q => ∃ tl, PO X lo tl ∧ tl σ H Q) (fun σ H Q => ∃ th, PO X hi th ∧ th σ H Q), pe_slice ?_ cE_ok ⟨fun pins s σ H Q I ⟨t, p, h⟩ => p.run pins s σ H Q I h⟩ ⟨fun pins s σ H Q I ⟨t, p, h⟩ => p.run pins s σ H Q I h⟩, key⟩
  intro pins s σ H x v vl vu lo hi sl Q I rx hs pl pu ⟨r, hr, q⟩
  exact hr pins s σ H x v vl vu lo hi sl Q I rx hs pl pu q
def cutA {α : Type} (xs : List α) (lo hi : Option Int) : List α := (xs.drop (HT.sIx xs.length 0 lo)).take (HT.sIx xs.length xs.length hi - HT.sIx xs.length 0 lo)
/-- a list -/
inductive LsD (S : Sto) : R → List D → Prop where
  | lst (ds : List D) : LsD S (.val (.lst ds)) ds
  | bor (ds : List D) : LsD S (.bor ds) ds
  | loc {k : Nat} {ds : List D} : S[k]? = some (nl ds) → LsD S (.loc k) ds
theorem LsD.sq {K : PySem.W.Frag} {b : Base} {w : Wd} {H : Hp} {r : R} {ds : List D} {v : V} (hd : LsD S r ds) (rp : Rp K b w S H) (hv : IsR K b.B w r v) : ∃ p vs, v = .ref p ∧ SqL K H p vs ∧ IsL K w.G ds vs := by
  cases hd with
  | lst =>
    obtain ⟨p, vs, e, h1, h2⟩ := hv
    exact ⟨p, vs, e, rp.ex.l h1, h2⟩
  | bor =>
    obtain ⟨p, vs, e, h1, h2⟩ := hv
    exact ⟨p, vs, e, SqL.ofR rp h1, h2⟩
  | loc g1 =>
    obtain ⟨p, hp, e⟩ := hv
    obtain ⟨p', h3, _, _, vs, h4, h5⟩ := rp.at_ _ _ g1 rfl
    rw [hp] at h3; cases h3
    exact ⟨p, vs, e, SqL.of h4, IsRs.vals.mp h5⟩
theorem LsD.seq {r : R} {ds : List D} (h : LsD S r ds) : SeqD S r ds := by
  cases h with
  | lst => exact .lst _
  | bor => exact .bor _
  | loc h => exact .loc h
/-! ### methods of texts -/
def WM (C : DC) (id : String) (x y : R) (S : Sto) (Ψ : R → Sto → Prop) : Prop := ∀ X b, OkC X C → ∀ w H, Rp C.g.K b w S H → ∀ v u, IsR C.g.K b.B w x v → IsR C.g.K b.B w y u → ∀ Q, NCov C.g.K b w Ψ Q → cMt X id v [u] H Q
/-! ### methods of lists -/
/-! ### a text times a number, the signs of a text -/
/-! ### sorted(..) of texts, fewer than 64 -/
/-! ### dicts: a put, d.get(k) -/
theorem putK_new {κ : Type} [DecidableEq κ] {k : κ} {v : V} {ks : List κ} {vs : List V} (hl : ks.length = vs.length) (hk : k ∉ ks) : putK (ks.zip vs) k v = (ks ++ [k]).zip (vs ++ [v]) := by
  unfold putK
  rw [if_neg]
  · rw [List.zip_append hl]; rfl
  · simp only [List.any_eq_true, decide_eq_true_eq, not_exists, not_and]
    intro p hp e
    have := (List.of_mem_zip (a := p.1) (b := p.2) hp).1
    rw [e] at this
    exact hk this
inductive PutD (S : Sto) : R → R → R → Sto → Prop where
  | newK {j : Nat} {ks : List Key} {rs : List R} {k : Key} {z : R} : S[j]? = some (.dK ks rs) → ks.length < sizeLine → k ∉ ks → PutD S (.loc j) (.val (kD k)) z (S.set j (.dK (ks ++ [k]) (rs ++ [z])))
  | newT {j : Nat} {ks : List (List Key)} {rs : List R} {k : List Key} {z : R} : S[j]? = some (.dT ks rs) → ks.length < sizeLine → k ∉ ks → PutD S (.loc j) (.val (.tup (k.map kD))) z (S.set j (.dT (ks ++ [k]) (rs ++ [z])))
theorem ws_put {i v : Expr} (h : WE C v env S fun z S1 => WE C o env S1 fun r S2 => WE C i env S2 fun y S3 => ∃ S4, PutD S3 r y z S4 ∧ E.nx env S4) (hs : ∀ X : Cx, swapsWith v (some (.Subscript o i p2)) pos.line X.env = pure false) : WS C (.Assign [.Subscript o i p2] v pos) env S E := fun X W bb ok tk w σ H rp en xc D n => by
  refine ⟨_, ps_dput ok.u1 cE_ok cE_ok cE_ok (hs X), ?_⟩
  refine h X W bb ok tk w σ H rp en xc _ fun w1 S1 H1 z zv l1 r1 i1 k1 => ?_
  refine k1 X W bb ok tk w1 σ H1 r1 (en.mono l1) (xc.mono l1) _ fun w2 S2 H2 r v l2 r2 i2 k2 => ?_
  refine k2 X W bb ok tk w2 σ H2 r2 (en.mono (l1.trans l2)) (xc.mono (l1.trans l2)) _ fun w3 S3 H3 y u l3 r3 i3 ⟨S4, hp, k3⟩ => ?_
  have l13 := (l1.trans l2).trans l3
  have iz := i1.mono (l2.trans l3)
  have ir := i2.mono l3
  cases hp with
  | @newK j ks rs k _ hk hl hn =>
    obtain ⟨a, ha, ev⟩ := ir
    subst ev
    obtain ⟨a', h3, _, _, vs, h4, h5, h6⟩ := r3.at_ _ _ hk rfl
    rw [ha] at h3; cases h3
    have i3 := kD_is i3
    subst i3
    refine ⟨a, _, rfl, DPut.k h4 (by rw [List.length_zip]; omega), ?_⟩
    rw [putK_new h5 hn]
    exact n.nx w3 _ _ env σ (l13.n _) (r3.write (n' := .dK (ks ++ [k]) (rs ++ [z])) hk rfl ha ⟨vs ++ [zv], upd_same, by simp [h5], h6.append (.cons iz .nil)⟩) (en.mono l13) k3
  | @newT j ks rs k _ hk hl hn =>
    obtain ⟨a, ha, ev⟩ := ir
    subst ev
    obtain ⟨a', h3, _, _, vs, h4, h5, h6⟩ := r3.at_ _ _ hk rfl
    rw [ha] at h3; cases h3
    obtain ⟨q, us, e2, g1, g2⟩ := i3
    have g2 := kDs_is g2
    subst e2 g2
    refine ⟨a, _, rfl, DPut.t h4 (r3.ex _ _ g1) (by rw [List.length_zip]; omega), ?_⟩
    rw [putK_new h5 hn]
    exact n.nx w3 _ _ env σ (l13.n _) (r3.write (n' := .dT (ks ++ [k]) (rs ++ [z])) hk rfl ha ⟨vs ++ [zv], upd_same, by simp [h5], h6.append (.cons iz .nil)⟩) (en.mono l13) k3
end
end DL
set_option Elab.async false
set_option linter.all false
set_option maxRecDepth 100000
set_option maxHeartbeats 4000000
namespace DL
open PySem PySem.Spec PyProof.Rows
open L2 hiding Takes passAt takes_of ps_raise PMk ps_try_as
open L2N (Takes passAt takes_of ps_raise PMk ps_try_as)

/-! ### enumerate over a text, a tuple (a list: HandS) -/
def ItE (go : Nat → Hp → Prop) (gv : Nat → Hp → V → Prop) (stop : Nat → Hp → Prop) : It :=
  ⟨go, fun i H v H' => ∃ T x, v = .ref T ∧ H T = none ∧ H' = upd H T (.tup [.int (i : Nat), x]) ∧ gv i H x, stop⟩
/-- what is to be known of the inner iterator -/
structure EnSrc (P : Program) (w : World) (K : PySem.W.Frag) (it : Addr) (tn : Nat → Heap → Prop) (go : Nat → Hp → Prop) (gv : Nat → Hp → V → Prop) (stop : Nat → Hp → Prop) : Prop where
  obj : ∀ i h, tn i h → ∃ o, h.get? it = some o ∧ ∀ v, o.data ≠ .cell v
  keep : ∀ i h h', tn i h → (∀ o, h.get? it = some o → h'.get? it = some o) → tn i h'
  item : ∀ (X : Cx), X.prog = P → X.w = w → X.K = K → X.calm = true → ∀ (i : Nat) (pins : List (Addr × Obj)) (s : Shared) (σ : L2.St) (H : Hp) (e : Addr) (c : Int) (old : Value), Inv X pins σ H s → tn i s.heap → go i H → IsEnum s.heap e it c old → ∃ fp n Pv St, Draws X.prog X.w X.A.in1 it fp n Pv St ∧ St i s.heap ∧ i < n ∧ e ∉ fp ∧ (∀ x, Pv i x → ∃ xv, RelV xv x ∧ gv i H xv) ∧ ∀ h', St (i + 1) h' → tn (i + 1) h'
  done : ∀ (X : Cx), X.prog = P → X.w = w → X.K = K → X.calm = true → ∀ (i : Nat) (pins : List (Addr × Obj)) (s : Shared) (σ : L2.St) (H : Hp), Inv X pins σ H s → tn i s.heap → stop i H → ∃ fp n Pv St, Draws X.prog X.w X.A.in1 it fp n Pv St ∧ St n s.heap
section
open Builtin Builtin.Str
set_option maxHeartbeats 1000000 in
end
def itS (x : Str) : It := ItE (fun i _ => i < x.cps.size) (fun i _ v => ∃ c, x.cps[i]? = some c ∧ v = .str ⟨#[c]⟩) (fun i _ => x.cps.size ≤ i ∧ i ≤ x.cps.size)
def itT (K : PySem.W.Frag) (a : Addr) : It := ItE (fun i H => ∃ (xs : List V) (x : V), SqT K H a xs ∧ xs[i]? = some x) (fun i H v => ∀ xs, SqT K H a xs → xs[i]? = some v) (fun i H => ∃ xs : List V, SqT K H a xs ∧ xs.length = i)
def iEnumS (ta : TA) : TI := fun σ H R => ta σ H fun vs H1 => ∃ x : Str, vs = [.str x] ∧ R (itS x) H1
def iEnumT (K : PySem.W.Frag) (ta : TA) : TI := fun σ H R => ta σ H fun vs H1 => ∃ a xs, vs = [.ref a] ∧ SqT K H1 a xs ∧ R (itT K a) H1
section
variable {X : Cx} {e : Expr} {ta : TA} {p pos tpos : Pos} {elts : List Expr} {kk : Nat}
end

/-! ### the rules -/
def enumD (ds : List D) : List D := ds.zipIdx.map fun p => .tup [.int (p.2 : Nat), p.1]
section
variable {C : DC} {env : Nv} {S : Sto} {Λ : List D → (Sto → Prop) → Sto → Prop} {pos p2 tpos : Pos} {e : Expr} {elts : List Expr} {kk : Nat}
end
end DL
set_option Elab.async false
set_option linter.all false
set_option maxRecDepth 100000
set_option maxHeartbeats 4000000
namespace DL
open PySem PySem.Spec PyProof.Rows
open L2 hiding Takes passAt takes_of ps_raise PMk ps_try_as
open L2N (Takes passAt takes_of ps_raise PMk ps_try_as)
section
variable {C : DC} {env : Nv} {S : Sto} {Ψ : R → Sto → Prop} {Θ : Bool → Sto → Prop} {Φ : List R → Sto → Prop} {Ω : Nv → Sto → Prop} {E : Nd} {pos p2 p3 apos : Pos} {a b c e o tg kx vx iter : Expr} {es rest ifs : List Expr} {x f m : Str}
def DcI (C : DC) (tg kx vx : Expr) (ifs : List Expr) (scope : Scope) (own vis wr : List (Str × Nat)) (gl : List Str) (env : Nv) (Ψ : R → Sto → Prop) (ds : List D) (SG : Sto → Prop) (S1 : Sto) : Prop :=
  ∃ I : Nat → Sto → Prop, I 0 (S1 ++ [.dK [] []]) ∧ (∀ i S', I i S' → SG S') ∧
      (∀ i d S', ds[i]? = some d → I i S' → WGw (C.blk scope vis wr gl (S1.length + 1)) (own.map (·.2)) tg (.val d) (wipeN env (own.map (·.2))) S' fun e2 S2 => WTs (C.blk scope vis wr gl (S1.length + 1)) ifs e2 S2 fun k S3 =>
        (k = false → I (i + 1) S3) ∧ (k = true → WE (C.blk scope vis wr gl (S1.length + 1)) kx e2 S3 fun q S4 => WE (C.blk scope vis wr gl (S1.length + 1)) vx e2 S4 fun r S5 => ∃ ks rs key, q = .val (kD key) ∧ S5[S1.length]? = some (.dK ks rs) ∧ ks.length < sizeLine ∧ key ∉ ks ∧ I (i + 1) (S5.set S1.length (.dK (ks ++ [key]) (rs ++ [r]))))) ∧
      (∀ S', I ds.length S' → Ψ (.loc S1.length) S')
end
end DL
set_option Elab.async false
set_option linter.all false
set_option maxRecDepth 100000
set_option maxHeartbeats 4000000
namespace DL
open PySem PySem.Spec PyProof.Rows
open L2 hiding Takes passAt takes_of ps_raise PMk ps_try_as
open L2N (Takes passAt takes_of ps_raise PMk ps_try_as)
/-- names of built-ins that the module leaves alone -/
def BltF (g : Gd) (L : List Str) : Prop := ∀ x ∈ L, g.mg x = none
theorem BltF.at_ {g : Gd} {L : List Str} (h : BltF g L) {x : Str} (hx : InG x L) : g.mg x = none := h x hx.mem
/-! ### numbers, texts -/
abbrev iN (n : Nat) : D := .int (n : Int)
abbrev tN (l : List Nat) : D := .tup (l.map iN)
abbrev pN (p : Nat × Nat) : D := .tup [iN p.1, iN p.2]
abbrev sL (l : List Nat) : D := .str ⟨l.toArray⟩
theorem atI_nat {α : Type} (l : List α) (k : Nat) : atI l (k : Int) = l[k]? := by
  unfold atI
  by_cases h : k < l.length
  · have e : ixN l.length (k : Int) = some k := by
      unfold ixN
      rw [if_pos (by omega), if_pos (by omega)]
      simp
    rw [e]; rfl
  · have e : ixN l.length (k : Int) = none := by
      unfold ixN
      rw [if_pos (by omega), if_neg (by omega)]
    rw [e, List.getElem?_eq_none (by omega)]; rfl
theorem atI_get {α : Type} {l : List α} {i : Int} {k : Nat} {x : α} (e : i = (k : Int)) (h : l[k]? = some x) : atI l i = some x := by rw [e, atI_nat, h]
/-! ### a def without objects: values in, a value out -/
def spF (A : Type) (arg : A → List D) (pre : A → Prop) (res : A → D) : DSp := fun rs S Ψ _ => ∃ a : A, rs = (arg a).map .val ∧ S = [] ∧ pre a ∧ Ψ (.val (res a)) []
section
variable {C : DC} {env : Nv} {S : Sto} {Ψ : R → Sto → Prop}
theorem argsP_vals {ks : List Nat} : ∀ ds : List D, ArgsP S ks (ds.map .val) (ds.map .val)
  | [] => .nil
  | d :: ds => .cons (.val d) (argsP_vals ds)
theorem fnc_F {A : Type} {arg : A → List D} {pre : A → Prop} {res : A → D} {rs : List R} (a : A) (hrs : rs = (arg a).map .val) (hp : pre a) (h : Ψ (.val (res a)) S) : FnC C (spF A arg pre res) rs env S Ψ := by
  subst hrs
  refine ⟨[], [], _, PassS.nil, argsP_vals _, a, rfl, rfl, hp, ?_⟩
  show Ψ (.val (res a)) (backS [] S [])
  rw [backS_nil]
  exact h
end

/-! ### data of one shape: == is = -/
structure Flt {α : Type} [DecidableEq α] (f : α → D) (k : Nat) : Prop where
  eq : ∀ x y, eqD (f x) (f y) = decide (x = y)
  eqs : ∀ x, eqs (f x) = true
  dep : ∀ x, (pd (f x)).depth ≤ k
theorem eqsL_map {α : Type} {f : α → D} (h : ∀ x, eqs (f x) = true) (l : List α) : eqsL (l.map f) = true := by
  induction l with
  | nil => rfl
  | cons x l ih => show (eqs (f x) && eqsL (l.map f)) = true; rw [h, ih]; rfl
theorem eqvAll_map {α : Type} [DecidableEq α] {f : α → D} (h : ∀ x y, eqD (f x) (f y) = decide (x = y)) : ∀ l m : List α, PyData.eqvAll (pdL (l.map f)) (pdL (m.map f)) = decide (l = m)
  | [], [] => rfl
  | [], _ :: _ => rfl
  | _ :: _, [] => rfl
  | x :: l, y :: m => by
    show (PyData.eqv (pd (f x)) (pd (f y)) && PyData.eqvAll (pdL (l.map f)) (pdL (m.map f))) = _
    rw [eqvAll_map h l m, show PyData.eqv (pd (f x)) (pd (f y)) = decide (x = y) from h x y]
    by_cases h1 : x = y <;> by_cases h2 : l = m <;> simp [h1, h2]
theorem depthA_map {α : Type} {f : α → D} {k : Nat} (h : ∀ x, (pd (f x)).depth ≤ k) (l : List α) : PyData.depthAll (pdL (l.map f)) ≤ k := by
  induction l with
  | nil => exact Nat.zero_le _
  | cons x l ih => exact Nat.max_le.mpr ⟨h x, ih⟩
theorem depth_mapT {α : Type} {f : α → D} {k : Nat} (h : ∀ x, (pd (f x)).depth ≤ k) (l : List α) : (PyData.tuple (pdL (l.map f))).depth ≤ k + 1 := by
  show PyData.depthAll (pdL (l.map f)) + 1 ≤ k + 1
  exact Nat.succ_le_succ (depthA_map h l)
theorem depth_mapL {α : Type} {f : α → D} {k : Nat} (h : ∀ x, (pd (f x)).depth ≤ k) (l : List α) : (PyData.list (pdL (l.map f))).depth ≤ k + 1 := by
  show PyData.depthAll (pdL (l.map f)) + 1 ≤ k + 1
  exact Nat.succ_le_succ (depthA_map h l)
theorem flt_int : Flt (fun i : Int => D.int i) 0 := ⟨fun x y => by show (x == y) = _; exact Bool.beq_eq_decide_eq _ _, fun _ => rfl, fun _ => Nat.le_refl _⟩
theorem Flt.tup {α : Type} [DecidableEq α] {f : α → D} {k : Nat} (h : Flt f k) : Flt (fun l : List α => D.tup (l.map f)) (k + 1) := ⟨fun l m => eqvAll_map h.eq l m, fun l => eqsL_map h.eqs l, fun l => depth_mapT h.dep l⟩
theorem Flt.lst {α : Type} [DecidableEq α] {f : α → D} {k : Nat} (h : Flt f k) : Flt (fun l : List α => D.lst (l.map f)) (k + 1) := ⟨fun l m => eqvAll_map h.eq l m, fun l => eqsL_map h.eqs l, fun l => depth_mapL h.dep l⟩
section
variable {C : DC} {env : Nv} {S : Sto} {Ψ : R → Sto → Prop} {α : Type} [DecidableEq α] {f : α → D} {k : Nat} {x y : R} {a b : α}
theorem wo_eqF (hf : Flt f k) (hk : k ≤ 64) (h1 : DatR S x (f a)) (h2 : DatR S y (f b)) (h : Ψ (.val (.bl (decide (a = b)))) S) : WO C (compareOp .Eq) x y S Ψ := wo_eqD h1 h2 (hf.eqs a) (hf.eqs b) (Nat.le_trans (hf.dep a) hk) (Nat.le_trans (hf.dep b) hk) (by rw [hf.eq]; exact h)
theorem wix_F {γ : Type} {g : γ → D} {l : List γ} {i : Int} {j : Nat} {c : γ} (hd : SeqD S x (l.map g)) (e : i = (j : Int)) (h1 : l[j]? = some c) (h : Ψ (.val (g c)) S) : WIx C x (.val (.int i)) S Ψ := wix_seq hd (atI_get e (by rw [List.getElem?_map, h1]; rfl)) h
end
section
variable {C : DC} {env : Nv} {S : Sto} {Ψ : R → Sto → Prop} {E : Nd} {c e : Expr} {body els : List Stmt} {pos : Pos}
/-- a test that changes nothing, told by one word -/
theorem ws_ifB (B : Prop) [Decidable B] (h : WT C c env S fun k S1 => k = decide B ∧ S1 = S) (ht : B → WSs C body env S E) (hf : ¬ B → WSs C els env S E) : WS C (.If c body els pos) env S E := ws_if (by
  intro X W bb ok tk w σ H rp en xc Q n
  refine h X W bb ok tk w σ H rp en xc Q fun w1 S1 H1 k l r ⟨h1, h2⟩ => n w1 S1 H1 k l r ?_
  subst h1 h2
  exact ⟨fun z => ht (of_decide_eq_true z), fun z => hf (of_decide_eq_false z)⟩)
theorem we_mono {Ψ' : R → Sto → Prop} (h : WE C e env S Ψ') (hm : ∀ r S1, Ψ' r S1 → Ψ r S1) : WE C e env S Ψ := fun X W bb ok tk w σ H rp en xc Q n => h X W bb ok tk w σ H rp en xc Q fun w1 S1 H1 r v l rp1 i k => n w1 S1 H1 r v l rp1 i (hm r S1 k)
end

theorem okB_nl (n : Nat) (ds : List D) : Node.okB n (nl ds) = true := by
  show (ds.map R.val).all (R.okB n) = true
  simp [List.all_map, Function.comp_def, R.okB]
def okEs (n : Nat) : Nv → Bool
  | [] => true
  | none :: e => okEs n e
  | some r :: e => okE n r && okEs n e
theorem EnvW.refl {S : Sto} {n : Nat} : ∀ {e : Nv}, okEs n e = true → EnvW S n e e
  | [], _ => .nil
  | none :: e, h => .drop (EnvW.refl h)
  | some r :: e, h => by
    obtain ⟨h1, h2⟩ := Bool.and_eq_true_iff.mp (show (okE n r && okEs n e) = true from h)
    exact .keep h1 (EnvW.refl h2)
theorem Wk.now {n0 : Nat} {I : Nv → Sto → Prop} {env : Nv} {S : Sto} (h0 : n0 ≤ S.length) (h1 : S.all (Node.okB S.length) = true) (h2 : okEs S.length env = true) (h : I env S) : Wk n0 I env S :=
  ⟨S.length, env, h0, Nat.le_refl _, by rw [List.take_length]; exact h1, EnvW.refl h2, by rw [List.take_length]; exact h⟩
theorem RetC.now {n0 : Nat} {Ψ : R → Sto → Prop} {r : R} {S : Sto} (h0 : n0 ≤ S.length) (h1 : S.all (Node.okB S.length) = true) (h2 : r.okB S.length = true) (h : Ψ r S) : RetC n0 Ψ r S :=
  ⟨S.length, h0, Nat.le_refl _, by rw [List.take_length]; exact h1, .inl ⟨h2, by rw [List.take_length]; exact h⟩⟩
/-- a value goes back, the store as it was -/
theorem RetC.cut {Ψ : R → Sto → Prop} {d : D} {S T : Sto} (h1 : S.all (Node.okB S.length) = true) (h : Ψ (.val d) S) : RetC S.length Ψ (.val d) (S ++ T) :=
  ⟨S.length, Nat.le_refl _, by simp, by rw [List.take_left]; exact h1, .inl ⟨rfl, by rw [List.take_left]; exact h⟩⟩
theorem RetC.cut0 {Ψ : R → Sto → Prop} {d : D} {T : Sto} (h : Ψ (.val d) []) : RetC 0 Ψ (.val d) T := RetC.cut (S := []) rfl h

theorem Wk.drop {n0 : Nat} {I : Nv → Sto → Prop} {env env' : Nv} {S : Sto} (h : I env' S) (he : EnvW S S.length env env') (h0 : n0 ≤ S.length) (h1 : S.all (Node.okB S.length) = true) : Wk n0 I env S :=
  ⟨S.length, env', h0, Nat.le_refl _, by rw [List.take_length]; exact h1, he, by rw [List.take_length]; exact h⟩
/-- the store cut back to its first objects -/
theorem Wk.cut {n0 : Nat} {I : Nv → Sto → Prop} {env env' : Nv} {S T : Sto} (h : I env' S) (he : EnvW (S ++ T) S.length env env') (h0 : n0 ≤ S.length) (h1 : S.all (Node.okB S.length) = true) : Wk n0 I env (S ++ T) :=
  ⟨S.length, env', h0, by simp, by rw [List.take_left]; exact h1, he, by rw [List.take_left]; exact h⟩
theorem no_f {P : Prop} (h : true = false) : P := nomatch h
/-- data that compares with itself -/
inductive SmD : Nat → D → Prop where
  | non {n : Nat} : SmD n .non
  | str {n : Nat} (s : Str) : SmD n (.str s)
  | bl {n : Nat} (b : Bool) : SmD n (.bl b)
  | int {n : Nat} (i : Int) : SmD n (.int i)
  | tup {n : Nat} {ds : List D} : (∀ d ∈ ds, SmD n d) → ds.length ≤ 100000 → SmD (n + 1) (.tup ds)
theorem SmD.tN {n : Nat} {l : List Nat} (h : l.length ≤ 100000) : SmD (n + 1) (tN l) := .tup (fun d hd => by obtain ⟨x, _, rfl⟩ := List.mem_map.mp hd; exact .int _) (by simpa using h)
def spSM (n : Nat) : DSp := fun rs S Ψ _ => ∃ d, rs = [.val d, .val d] ∧ S = [] ∧ SmD n d ∧ Ψ (.val (.bl true)) []
end DL
set_option Elab.async false
set_option linter.all false
set_option maxRecDepth 100000
set_option maxHeartbeats 4000000
namespace DL
open PySem PySem.Spec PyProof.Rows
open L2 hiding Takes passAt takes_of ps_raise PMk ps_try_as
open L2N (Takes passAt takes_of ps_raise PMk ps_try_as)
/-! ### texts as lists of signs -/
abbrev sS (l : List Nat) : Str := ⟨l.toArray⟩
theorem sS_len (l : List Nat) : (sS l).length = l.length := by show l.toArray.size = _; simp
theorem sS_app (a b : List Nat) : sS a ++ sS b = sS (a ++ b) := by
  show (⟨a.toArray ++ b.toArray⟩ : Str) = _
  simp
theorem sS_inj {a b : List Nat} : sS a = sS b ↔ a = b := by
  constructor
  · intro h
    have : (sS a).cps.toList = (sS b).cps.toList := by rw [h]
    simpa using this
  · intro h; rw [h]
theorem sS_of (s : Str) : s = sS s.cps.toList := by cases s; rfl
section
variable {C : DC} {env : Nv} {S : Sto} {Ψ : R → Sto → Prop} {Θ : Bool → Sto → Prop} {Λ : List D → (Sto → Prop) → Sto → Prop} {pos p2 tpos apos : Pos} {e o tg : Expr} {elts : List Expr} {kk : Nat} {a b l : List Nat} {c k : Nat} {i : Int}
theorem wc_lenL (hl : l.length ≤ sizeLine) (h : Ψ (.val (iN l.length)) S) : WC C (.builtin "len") [.val (sL l)] S Ψ := wc_len_str (s := sS l) (by rw [sS_len]; exact hl) (by rw [sS_len]; exact h)
theorem wix_L (hl : l.length ≤ sizeLine) (hi : atI l i = some c) (h : Ψ (.val (sL [c])) S) : WIx C (.val (sL l)) (.val (.int i)) S Ψ := wix_str (s := sS l) (by rw [sS_len]; exact hl) hi h
theorem wo_inL (h : Ψ (.val (.bl (decide (k ∈ l)))) S) : WO C (compareOp .In) (.val (sL [k])) (.val (sL l)) S Ψ := wo_inC (t := sS l) h
theorem wo_notInL (h : Ψ (.val (.bl (!decide (k ∈ l)))) S) : WO C (compareOp .NotIn) (.val (sL [k])) (.val (sL l)) S Ψ := wo_notInC (t := sS l) h
theorem wo_eqL (h : Ψ (.val (.bl (decide (a = b)))) S) : WO C (compareOp .Eq) (.val (sL a)) (.val (sL b)) S Ψ := wo_eqS (s := sS a) (t := sS b) (by rw [show decide (sS a = sS b) = decide (a = b) from decide_eq_decide.mpr sS_inj]; exact h)
theorem wo_neL (h : Ψ (.val (.bl (!decide (a = b)))) S) : WO C (compareOp .NotEq) (.val (sL a)) (.val (sL b)) S Ψ := wo_neS (s := sS a) (t := sS b) (by rw [show decide (sS a = sS b) = decide (a = b) from decide_eq_decide.mpr sS_inj]; exact h)
theorem lt1 {c k : Nat} : (([c] : List Nat) < [k]) ↔ c < k := by
  rw [List.cons_lt_cons_iff]
  simp
theorem wo_lt1 (h : Ψ (.val (.bl (decide (c < k)))) S) : WO C (compareOp .Lt) (.val (sL [c])) (.val (sL [k])) S Ψ := wo_ltS (s := sS [c]) (t := sS [k]) (by rw [show decide ((sS [c]).cps.toList < (sS [k]).cps.toList) = decide (c < k) from decide_eq_decide.mpr lt1]; exact h)
theorem wo_le1 (h : Ψ (.val (.bl (decide (c ≤ k)))) S) : WO C (compareOp .LtE) (.val (sL [c])) (.val (sL [k])) S Ψ := wo_leS (s := sS [c]) (t := sS [k]) (by
  rw [show (!decide ((sS [k]).cps.toList < (sS [c]).cps.toList)) = decide (c ≤ k) from by
    rw [show decide ((sS [k]).cps.toList < (sS [c]).cps.toList) = decide (k < c) from decide_eq_decide.mpr lt1, ← decide_not]
    exact decide_eq_decide.mpr Nat.not_lt]; exact h)
theorem wo_ge1 (h : Ψ (.val (.bl (decide (k ≤ c)))) S) : WO C (compareOp .GtE) (.val (sL [c])) (.val (sL [k])) S Ψ := wo_geS (s := sS [c]) (t := sS [k]) (by
  rw [show (!decide ((sS [c]).cps.toList < (sS [k]).cps.toList)) = decide (k ≤ c) from by
    rw [show decide ((sS [c]).cps.toList < (sS [k]).cps.toList) = decide (c < k) from decide_eq_decide.mpr lt1, ← decide_not]
    exact decide_eq_decide.mpr Nat.not_lt]; exact h)
theorem we_type {T : String} {x : Str} (hx : InG x C.gl) (hm : C.g.mg x = none) (hv : bootBuiltins x = some (.type T)) (h : Ψ (.val (.opq (.ty T))) S) : WE C (.Name x pos) env S Ψ := we_bltn (v := .ty T) hx hm hv rfl h
end
def NoA (g : Gd) (A : Addr) (L : List Str) : Prop := ∀ f ∈ L, NoAttr g.K A f
theorem NoA.at_ {g : Gd} {A : Addr} {L : List Str} (h : NoA g A L) {x : Str} (hx : InG x L) : NoAttr g.K A x := h x hx.mem
section
variable {C : DC} {env : Nv} {S : Sto} {Ψ : R → Sto → Prop} {cs l : List Nat} {c : Nat} {s t : Str} {r : R}
end
end DL
set_option Elab.async false
set_option linter.all false
set_option maxRecDepth 100000
set_option maxHeartbeats 4000000
namespace DL
open PySem PySem.Spec PyProof.Rows
open L2 hiding Takes passAt takes_of ps_raise PMk ps_try_as
open L2N (Takes passAt takes_of ps_raise PMk ps_try_as)
/-! ### len of an instance with its own __len__ -/
def rLenO (ff A : Addr) (sp : Sp) : List V → Hp → VK → Prop := fun xs H Q => ∃ (y dx : Addr) (fs : List (Str × V)), xs = [.ref y] ∧ H y = some (.ins A dx fs) ∧
  sp [.ref y] H (fun v H1 => ∃ n : Nat, v = .int (n : Int) ∧ n < 2 ^ 62 ∧ Q v H1) E0
theorem passX {P : Program} {w : World} {X : Cx} : Passes (L2N.CX P w) X E0 := fun _ _ _ _ _ _ _ ⟨_, _, _, _, _, _, _, _, _, _, _, _, h⟩ => h.elim
end DL
set_option Elab.async false
set_option linter.all false
set_option maxRecDepth 100000
set_option maxHeartbeats 4000000
namespace DL
open PySem PySem.Spec PyProof.Rows
open L2 hiding Takes passAt takes_of ps_raise PMk ps_try_as
open L2N (Takes passAt takes_of ps_raise PMk ps_try_as)
/-! ### the end -/
def CXall (P : Program) : CXT := fun outer H s E u s' => ∃ w, L2N.CX P w outer H s E u s'
theorem fnAll {P : Program} {w : World} {K : PySem.W.Frag} {mg : Str → Option Value} {base : Heap} {k : Nat} {f : Addr} {fd : FuncData} {ps : List Str} {sp : Sp} (F : FnOk P w K mg base (L2N.CX P w) k f fd ps sp) : FnOk P w K mg base (CXall P) k f fd ps sp :=
  ⟨F.len, fun A outer s H args us vs Q E hr he hb hv hs => codeAny_mono (F.run A outer s H args us vs Q E hr he hb hv hs) fun r s' hq => by
    cases r with
    | error e => exact ⟨w, hq⟩
    | ok fl => cases fl <;> exact hq⟩
theorem noX {P : Program} {H : Hp} {s : Shared} {e : Value} {s' : Shared} (h : CXall P [] H s (fun _ _ _ => False) e s') : False := by
  obtain ⟨w, _, _, _, _, _, _, _, _, _, _, _, _, h⟩ := h
  exact h
theorem lawSp {K : PySem.W.Frag} {s : DSp} (hs : ∀ (zs : List Int), zs.length ≤ 63 → ∀ (Φ : R → Sto → Prop) (ξ : Addr → List Str → List D → Sto → Prop), Φ (.val (.bl true)) [] → s [.bor (zs.map .int)] [] Φ ξ) {H : Hp} {a : Addr} {ns : List Int} (hl : ns.length ≤ 63) (hS : SqL K H a (ns.map V.int)) :
    spD K s [.ref a] H (fun v _ => v = .bl true) (fun _ _ _ => False) := by
  refine ⟨⟨H, []⟩, [], [.bor (ns.map .int)], fun r S => r = .val (.bl true), fun _ _ _ _ => False, ?_, .cons ⟨a, _, rfl, .inl hS, IsL.ints ns⟩ .nil, hs ns hl _ _ rfl, ?_, fun _ _ _ _ _ _ _ _ _ _ _ _ _ _ z => z⟩
  · exact ⟨Ex.refl _, rfl, ⟨[], rfl⟩, fun k n h => by simp at h, fun j k m n a h => by simp at h, fun a o h _ => h, fun a o h => ⟨o, h⟩, fun a o h => .inl h⟩
  · intro w' S' H' r v l rp hr _ _ e
    subst e
    exact hr
end DL
set_option Elab.async false
set_option linter.all false
set_option maxRecDepth 100000
set_option maxHeartbeats 4000000
namespace RT
open PySem PySem.Spec PyProof.Rows
open L2 hiding Takes passAt takes_of ps_raise PMk ps_try_as
open L2N (Takes passAt takes_of ps_raise PMk ps_try_as)
section
variable {prog : Program} {w : World} {A : Around} {E : Value → Shared → Prop} {s : Shared}
end
end RT
set_option Elab.async false
set_option linter.all false
set_option maxRecDepth 100000
set_option maxHeartbeats 4000000
namespace RT
open PySem PySem.Spec PyProof.Rows
open L2 hiding Takes passAt takes_of ps_raise PMk ps_try_as
open L2N (Takes passAt takes_of ps_raise PMk ps_try_as)
/-- list(reversed(x)), x a list or a tuple: a new list -/
def tListRev (K : PySem.W.Frag) (te : TE) : TE := fun σ H Q => te σ H fun v H1 => ∃ (a : Addr) (xs : List V), v = .ref a ∧ (SqL K H1 a xs ∨ SqT K H1 a xs) ∧ ∀ q, H1 q = none → Q (.ref q) (upd H1 q (.lst xs.reverse))
end RT
namespace DL
open PySem PySem.Spec PyProof.Rows
open L2 hiding Takes passAt takes_of ps_raise PMk ps_try_as
open L2N (Takes passAt takes_of ps_raise PMk ps_try_as)
section
variable {C : DC} {env : Nv} {S : Sto} {Ψ : R → Sto → Prop} {Λ : List D → (Sto → Prop) → Sto → Prop} {pos p2 p3 pos2 apos : Pos} {a b e o tg : Expr}
end
end DL
set_option Elab.async false
set_option linter.all false
set_option maxRecDepth 100000
set_option maxHeartbeats 4000000
namespace DL
open PySem PySem.Spec PyProof.Rows
open L2 hiding Takes passAt takes_of ps_raise PMk ps_try_as
open L2N (Takes passAt takes_of ps_raise PMk ps_try_as)
section
variable {C : DC} {env : Nv} {S : Sto} {Ψ : R → Sto → Prop} {pos apos : Pos} {e o : Expr}
end
section
variable {C : DC} {env : Nv} {S : Sto} {Ψ : R → Sto → Prop} {α : Type} [DecidableEq α] {f : α → D} {k : Nat} {x y : R} {a b : α}
end
end DL
set_option Elab.async false
set_option linter.all false
set_option maxRecDepth 100000
set_option maxHeartbeats 4000000
namespace DL
open PySem PySem.Spec PyProof.Rows
open L2 hiding Takes passAt takes_of ps_raise PMk ps_try_as
open L2N (Takes passAt takes_of ps_raise PMk ps_try_as)
section
variable {C : DC} {env : Nv} {S : Sto} {Ψ : R → Sto → Prop} {pos p2 p3 pos2 apos : Pos} {a b e o : Expr} {l : List Nat}
end
end DL
set_option Elab.async false
set_option linter.all false
set_option maxRecDepth 100000
set_option maxHeartbeats 4000000
namespace DL
open PySem PySem.Spec PyProof.Rows
open L2 hiding Takes passAt takes_of ps_raise PMk ps_try_as
open L2N (Takes passAt takes_of ps_raise PMk ps_try_as)
section
variable {C : DC} {env : Nv} {S : Sto} {Ψ : R → Sto → Prop} {Ω : Nv → Sto → Prop} {Λ : List D → (Sto → Prop) → Sto → Prop} {pos p2 p3 pos2 apos : Pos} {a b c e o i tg : Expr} {l : List Nat}
/-- xs[i] = .. -/
theorem wg_subL {d : D} (h : WE C o env S fun x S1 => WE C i env S1 fun y S2 => ∃ (k : Nat) (ds : List D) (z : Int) (j : Nat), x = .loc k ∧ y = .val (.int z) ∧ S2[k]? = some (nl ds) ∧ ixN ds.length z = some j ∧ Ω env (S2.set k (nl (ds.set j d))))
    (ha : ∀ X : Cx, ∀ v, assign (.Subscript o i pos) X.env v = (do
      let ov ← holding [v] (eval o X.env)
      let iv ← holding [v, ov] (eval i X.env)
      standAt pos
      holding [v, ov, iv] (setItem ov iv v)
      release [v, ov, iv] [])) : WG C (.Subscript o i pos) (.val d) env S Ω := fun X W bb ok tk w σ H rp en xc v hv Q n => by
  refine ⟨_, pg_sub cE_ok cE_ok set_list (ha X), ?_⟩
  refine h X W bb ok tk w σ H rp en xc _ fun w1 S1 H1 x xv l1 r1 i1 k1 => ?_
  refine k1 X W bb ok tk w1 σ H1 r1 (en.mono l1) (xc.mono l1) _ fun w2 S2 H2 y yv l2 r2 i2 ⟨k, ds, z, j, e1, e2, hk, hj, k2⟩ => ?_
  subst e1 e2
  have i2 : yv = .int z := i2
  subst i2
  obtain ⟨p, hp, ev⟩ := i1.mono l2
  subst ev
  obtain ⟨a', h3, _, _, vs, h4, h5⟩ := r2.at_ _ _ hk rfl
  rw [hp] at h3; cases h3
  have h5' : IsL C.g.K w2.G ds vs := IsRs.vals.mp h5
  have hv2 : Is C.g.K w2.G d v := Is.mono (l1.trans l2).g d v hv
  refine ⟨p, vs, z, j, rfl, rfl, h4, by rw [← h5'.length]; exact hj, ?_⟩
  have hset : IsRs C.g.K bb.B w2 ((ds.set j d).map .val) (vs.set j v) := by
    have := IsRs.set j h5 (show IsR C.g.K bb.B w2 (.val d) v from hv2)
    rwa [← List.map_set] at this
  have r3 := r2.write hk rfl hp (n' := nl (ds.set j d)) (o := .lst (vs.set j v)) ⟨vs.set j v, upd_same, hset⟩
  exact n w2 _ _ _ _ ((l1.trans l2).n _) r3 (en.mono (l1.trans l2)) k2
end
end DL
namespace DL
open PySem PySem.Spec PyProof.Rows
open L2 hiding Takes passAt takes_of ps_raise PMk ps_try_as
open L2N (Takes passAt takes_of ps_raise PMk ps_try_as)
/-! ### a dict of ints that are all True -/
def nT (ks : List Int) : Node := .dK (ks.map Sum.inl) (ks.map fun _ => R.val (.bl true))
section
variable {C : DC} {env : Nv} {S : Sto} {Ψ : R → Sto → Prop} {E : Nd} {pos p2 : Pos} {o i v : Expr} {r : R}
end
end DL
set_option Elab.async false
set_option linter.all false
set_option maxRecDepth 100000
set_option maxHeartbeats 4000000
namespace DL
open PySem PySem.Spec PyProof.Rows
open L2 hiding Takes passAt takes_of ps_raise PMk ps_try_as
open L2N (Takes passAt takes_of ps_raise PMk ps_try_as)
/-! ### slices by natural bounds -/
section
variable {C : DC} {env : Nv} {S : Sto} {Ψ : R → Sto → Prop}
end
end DL
set_option Elab.async false
set_option linter.all false
set_option maxRecDepth 100000
set_option maxHeartbeats 4000000
namespace L2
open PySem PySem.Spec PyProof.Rows
def rCatG (K : PySem.W.Frag) : R2 := fun x y H Q => ∃ l b xs zs, x = .ref l ∧ y = .ref b ∧ SqL K H l xs ∧ SqL K H b zs ∧ xs.length + zs.length ≤ sizeLine ∧ ∀ p, H p = none → Q (.ref p) (upd H p (.lst (xs ++ zs)))
end L2
namespace DL
open PySem PySem.Spec PyProof.Rows
open L2 hiding Takes passAt takes_of ps_raise PMk ps_try_as
open L2N (Takes passAt takes_of ps_raise PMk ps_try_as)
end DL
set_option Elab.async false
set_option linter.all false
set_option maxRecDepth 100000
set_option maxHeartbeats 4000000
namespace DL
open PySem PySem.Spec PyProof.Rows
open L2 hiding Takes passAt takes_of ps_raise PMk ps_try_as
open L2N (Takes passAt takes_of ps_raise PMk ps_try_as)
section
variable {C : DC} {env : Nv} {S : Sto} {Ψ : R → Sto → Prop} {pos p2 p3 pos2 : Pos} {e : Expr}
end
end DL
set_option Elab.async false
set_option linter.all false
set_option maxRecDepth 100000
set_option maxHeartbeats 4000000
namespace DL
open PySem PySem.Spec PyProof.Rows
open L2 hiding Takes passAt takes_of ps_raise PMk ps_try_as
open L2N (Takes passAt takes_of ps_raise PMk ps_try_as)
/-! ### a property of an instance, read -/
end DL
set_option Elab.async false
set_option linter.all false
set_option maxRecDepth 100000
set_option maxHeartbeats 4000000
namespace DL
open PySem PySem.Spec PyProof.Rows
open L2 hiding Takes passAt takes_of ps_raise PMk ps_try_as
open L2N (Takes passAt takes_of ps_raise PMk ps_try_as)
abbrev Pr := Nat × Nat
/-- each x y one behind the other becomes c -/
def putT (a b c : Nat) : List Nat → List Nat
  | [] => []
  | [x] => [x]
  | x :: y :: r => if x = a ∧ y = b then c :: putT a b c r else x :: putT a b c (y :: r)
def adj (row : List Nat) : List Pr := row.zip row.tail
def lowB (P : List Pr) (p : Pr) : Option Pr → Bool
  | none => true
  | some q => decide (P.idxOf p < P.idxOf q)
def lowS (P : List Pr) (best : Option Pr) (p : Pr) : Option Pr :=
  if p ∈ P ∧ lowB P p best = true then some p else best
def lowF (P : List Pr) (l : List Pr) : Option Pr := l.foldl (lowS P) none
def kP (p : Pr) : List Key := [.inl (p.1 : Int), .inl (p.2 : Int)]
def oP : Option Pr → D
  | none => .non
  | some p => pN p
abbrev rkK (P : List Pr) : List (List Key) := P.map kP
abbrev rkD (P : List Pr) : List D := (List.range P.length).map iN
theorem lowF_mem {P : List Pr} : ∀ {l : List Pr} {b : Option Pr} {p : Pr}, l.foldl (lowS P) b = some p → (p ∈ l ∧ p ∈ P) ∨ b = some p
  | [], b, p, h => .inr h
  | q :: l, b, p, h => by
    rw [List.foldl_cons] at h
    rcases lowF_mem h with ⟨h1, h2⟩ | h1
    · exact .inl ⟨List.mem_cons_of_mem _ h1, h2⟩
    · unfold lowS at h1
      split at h1
      · rename_i hc
        cases h1
        exact .inl ⟨List.mem_cons_self, hc.1⟩
      · exact .inr h1
theorem putT_len (a b c : Nat) : ∀ row : List Nat, (putT a b c row).length ≤ row.length
  | [] => Nat.le_refl _
  | [_] => Nat.le_refl _
  | x :: y :: r => by
    unfold putT
    split
    · have := putT_len a b c r; simp; omega
    · have := putT_len a b c (y :: r); simp at this ⊢; omega
theorem putT_lt {a b c : Nat} : ∀ {row : List Nat}, (a, b) ∈ adj row → (putT a b c row).length < row.length
  | [], h => by simp [adj] at h
  | [_], h => by simp [adj] at h
  | x :: y :: r, h => by
    unfold putT
    split
    · have := putT_len a b c r; simp; omega
    · rename_i hn
      have h' : (a, b) = (x, y) ∨ (a, b) ∈ adj (y :: r) := by simpa [adj] using h
      rcases h' with h' | h'
      · cases h'; exact absurd ⟨rfl, rfl⟩ hn
      · have := putT_lt (c := c) h'; simp at this ⊢; omega
/-- cut_row -/
def cutF (P : List Pr) (n : Nat) (row : List Nat) : List Nat :=
  match h : lowF P (adj row) with
  | none => row
  | some p => cutF P n (putT p.1 p.2 (n + P.idxOf p) row)
termination_by row.length
decreasing_by
  rcases lowF_mem h with ⟨h1, _⟩ | h1
  · exact putT_lt h1
  · cases h1
theorem cutF_some {P : List Pr} {n : Nat} {row : List Nat} {p : Pr} (h : lowF P (adj row) = some p) : cutF P n row = cutF P n (putT p.1 p.2 (n + P.idxOf p) row) := by
  rw [cutF]
  split
  · rename_i q; rw [h] at q; cases q
  · rename_i p' q; rw [h] at q; cases q; rfl
/-! ### the texts of the pieces -/
theorem look_inj {κ α : Type} [DecidableEq κ] [BEq α] [LawfulBEq α] {f : α → κ} (hf : ∀ x y, f x = f y → x = y) {p : α} : ∀ (P : List α) (s : Nat), look (P.map f) ((List.range' s P.length).map iN) (f p) = if p ∈ P then some (iN (s + P.idxOf p)) else none
  | [], s => by simp [look]
  | q :: P, s => by
    by_cases e : q = p
    · subst e
      simp [look, List.range'_succ]
    · have e1 : look ((q :: P).map f) ((List.range' s (q :: P).length).map iN) (f p) = look (P.map f) ((List.range' (s + 1) P.length).map iN) (f p) := by
        have : ¬ f q = f p := fun h => e (hf _ _ h)
        simp [look, List.range'_succ, this]
      rw [e1, look_inj hf P (s + 1)]
      have e2 : (p ∈ q :: P) ↔ p ∈ P := by simp [Ne.symm e]
      by_cases hm : p ∈ P
      · rw [if_pos hm, if_pos (e2.mpr hm)]
        rw [List.idxOf_cons, show (q == p) = false by simpa using e]
        simp [iN]
        omega
      · rw [if_neg hm, if_neg (fun h => hm (e2.mp h))]
def kT (t : List Nat) : Key := .inr ⟨t.toArray⟩
theorem kT_inj {a b : List Nat} (h : kT a = kT b) : a = b := by
  unfold kT at h
  simpa using h
abbrev nmK (ts : List (List Nat)) : List Key := ts.map kT
abbrev nmD (k : Nat) : List D := (List.range k).map iN
theorem LookD.nm {S : Sto} {r : R} {ts : List (List Nat)} (h : DctD S r (nmK ts) (nmD ts.length)) (t : List Nat) : LookD S r (.val (sL t)) (if t ∈ ts then some (iN (ts.idxOf t)) else none) := by
  have := LookD.k (k := kT t) h
  have e : look (nmK ts) (nmD ts.length) (kT t) = if t ∈ ts then some (iN (ts.idxOf t)) else none := by
    have := look_inj (f := kT) (fun _ _ h => kT_inj h) (p := t) ts 0
    show look (ts.map kT) ((List.range ts.length).map iN) (kT t) = _
    rw [List.range_eq_range']
    simpa using this
  rw [e] at this
  exact this
/-- the texts: the letters, then each pair's two texts put together -/
def addT (ts : List (List Nat)) (p : Pr) : List (List Nat) := ts ++ [ts.getD p.1 [] ++ ts.getD p.2 []]
def txts (l : List Nat) (P : List Pr) : List (List Nat) := P.foldl addT (l.map fun c => [c])
theorem txts_snoc (l : List Nat) (P : List Pr) (p : Pr) : txts l (P ++ [p]) = addT (txts l P) p := by simp [txts]
theorem txts_pre (l : List Nat) : ∀ P : List Pr, ∃ u, txts l P = (l.map fun c => [c]) ++ u ∧ u.length = P.length := by
  have key : ∀ (P : List Pr) (ts : List (List Nat)), ∃ u, P.foldl addT ts = ts ++ u ∧ u.length = P.length := by
    intro P
    induction P with
    | nil => intro ts; exact ⟨[], by simp, rfl⟩
    | cons p P ih =>
      intro ts
      obtain ⟨u, h1, h2⟩ := ih (addT ts p)
      exact ⟨[ts.getD p.1 [] ++ ts.getD p.2 []] ++ u, by rw [List.foldl_cons, h1, addT, List.append_assoc], by simp [h2]⟩
  exact fun P => key P _
theorem txts_len (l : List Nat) (P : List Pr) : (txts l P).length = l.length + P.length := by
  obtain ⟨u, h1, h2⟩ := txts_pre l P
  rw [h1]; simp [h2]
theorem txts_mem {l : List Nat} {P : List Pr} : ∀ t ∈ txts l P, ∀ c ∈ t, c ∈ l := by
  have key : ∀ (P : List Pr) (ts : List (List Nat)), (∀ t ∈ ts, ∀ c ∈ t, c ∈ l) → ∀ t ∈ P.foldl addT ts, ∀ c ∈ t, c ∈ l := by
    intro P
    induction P with
    | nil => intro ts h; exact h
    | cons p P ih =>
      intro ts h
      refine ih _ fun t ht c hc => ?_
      have gd : ∀ i, ∀ c ∈ ts.getD i [], c ∈ l := by
        intro i c hc
        rw [List.getD_eq_getElem?_getD] at hc
        cases q : ts[i]? with
        | none => rw [q] at hc; simp at hc
        | some t => rw [q] at hc; exact h t (List.mem_of_getElem? q) c hc
      unfold addT at ht
      rcases List.mem_append.mp ht with ht | ht
      · exact h t ht c hc
      · have ht : t = ts.getD p.1 [] ++ ts.getD p.2 [] := by simpa using ht
        subst ht
        rcases List.mem_append.mp hc with hc | hc
        · exact gd _ c hc
        · exact gd _ c hc
  refine key P _ fun t ht c hc => ?_
  obtain ⟨d, hd, rfl⟩ := List.mem_map.mp ht
  simp at hc
  exact hc ▸ hd
/-- the row of a text's letters -/
def rowL (l t : List Nat) : List Nat := t.map l.idxOf
/-- is the pair proper behind P? -/
def propT (l : List Nat) (P : List Pr) (p : Pr) : Prop :=
  p.1 < l.length + P.length ∧ p.2 < l.length + P.length ∧ ((txts l P).getD p.1 [] ++ (txts l P).getD p.2 []).length ≤ 40 ∧
    cutF P l.length (rowL l ((txts l P).getD p.1 [] ++ (txts l P).getD p.2 [])) = [p.1, p.2]
instance (l : List Nat) (P : List Pr) (p : Pr) : Decidable (propT l P p) := by unfold propT; exact inferInstance
/-! ### the objects of a Joins -/
abbrev jF : List Str := ["alphabet", "pairs", "texts", "ranks", "numbers", "longest"]
theorem jF_nd : jF.Nodup := by decide +kernel
def jS (A : Addr) (l : List Nat) (P : List Pr) (lg : Nat) : Sto := [.ins A jF [.val (sL l), .val (.tup (P.map pN)), .loc 1, .loc 2, .loc 3, .val (iN lg)], nl ((txts l P).map sL), .dT (rkK P) ((rkD P).map .val), .dK (nmK (txts l P)) ((nmD (txts l P).length).map .val)]
theorem fldL {S : Sto} {f : Str} {k j : Nat} {A : Addr} {rs : List R} {z : R} (h : S[k]? = some (.ins A jF rs)) (ha : AtN f j jF) (hz : rs[j]? = some z) : FldR S f (.loc k) A z := .loc h jF_nd ha hz
theorem fldV {S : Sto} {f : Str} {j : Nat} {A : Addr} {ds : List D} {z : D} (ha : AtN f j jF) (hz : ds[j]? = some z) : FldR S f (.val (.ins A jF ds)) A (.val z) := .val jF_nd ha hz
theorem RetC.eq {n0 : Nat} {Ψ : R → Sto → Prop} {r : R} {S S' : Sto} (e : S = S') (h : RetC n0 Ψ r S') : RetC n0 Ψ r S := e ▸ h
/-- a list that Joins takes -/
def ProperL (l : List Nat) (P : List Pr) : Prop := ∀ r (h : r < P.length), propT l (P.take r) P[r] ∧ P[r] ∉ P.take r ∧ (txts l (P.take r)).getD P[r].1 [] ++ (txts l (P.take r)).getD P[r].2 [] ∉ txts l (P.take r)
theorem take_snoc {α : Type} {P : List α} {r : Nat} (h : r < P.length) : P.take (r + 1) = P.take r ++ [P[r]] := by
  rw [List.take_add_one, List.getElem?_eq_getElem h]; rfl
/-- a Joins that is not changed any more -/
def jD (A : Addr) (l : List Nat) (P : List Pr) (lg : Nat) : D := .ins A jF [sL l, .tup (P.map pN), .lst ((txts l P).map sL), .dcT (rkK P) (rkD P), .dct (nmK (txts l P)) (nmD (txts l P).length), iN lg]
structure JV where
  l : List Nat
  P : List Pr
  lg : Nat
structure JI extends JV where
  i : Nat
structure JT extends JV where
  t : List Nat
structure JR extends JV where
  row : List Nat
def JV.ok (j : JV) : Prop := j.l.length ≤ 30 ∧ j.P.length ≤ 1000
/-- stage by stage -/
def stg (n : Nat) (P : List Pr) (row : List Nat) : List Nat := P.zipIdx.foldl (fun row (q : Pr × Nat) => putT q.1.1 q.1.2 (n + q.2) row) row
theorem stg_snoc (n : Nat) (P : List Pr) (p : Pr) (row : List Nat) : stg n (P ++ [p]) row = putT p.1 p.2 (n + P.length) (stg n P row) := by
  unfold stg
  rw [List.zipIdx_append, List.foldl_append]
  simp
theorem stg_len (n : Nat) (row : List Nat) : ∀ P : List Pr, (stg n P row).length ≤ row.length := by
  intro P
  unfold stg
  generalize P.zipIdx = Q
  induction Q generalizing row with
  | nil => exact Nat.le_refl _
  | cons q Q ih =>
    rw [List.foldl_cons]
    exact Nat.le_trans (ih _) (putT_len _ _ _ _)
end DL
set_option Elab.async false
set_option linter.all false
set_option maxRecDepth 100000
set_option maxHeartbeats 4000000
namespace DL
open PySem PySem.Spec PyProof.Rows
open L2 hiding Takes passAt takes_of ps_raise PMk ps_try_as
open L2N (Takes passAt takes_of ps_raise PMk ps_try_as)
/-! ### the slow cut: the leftmost place of the lowest rank, one at a time -/
/-- (best, place) behind the places below k: best = P.length where none -/
def slowB (P : List Pr) (row : List Nat) : Nat → Nat × Nat
  | 0 => (P.length, 0)
  | k + 1 =>
    let q := slowB P row k
    let p : Pr := (row.getD k 0, row.getD (k + 1) 0)
    if p ∈ P ∧ P.idxOf p < q.1 then (P.idxOf p, k) else q
/-- one turn -/
def slow1 (n : Nat) (P : List Pr) (row : List Nat) : List Nat :=
  let q := slowB P row (row.length - 1)
  row.take q.2 ++ [n + q.1] ++ row.drop (q.2 + 2)
def slowC (n : Nat) (P : List Pr) : Nat → List Nat → List Nat
  | 0, row => row
  | f + 1, row => if (slowB P row (row.length - 1)).1 = P.length then row else slowC n P f (slow1 n P row)
end DL
set_option Elab.async false
set_option linter.all false
set_option maxRecDepth 100000
set_option maxHeartbeats 4000000
namespace DL
open PySem PySem.Spec PyProof.Rows
open L2 hiding Takes passAt takes_of ps_raise PMk ps_try_as
open L2N (Takes passAt takes_of ps_raise PMk ps_try_as)
/-! ### cutting by the lowest rank is cutting stage by stage -/
structure Wf (n : Nat) (P : List Pr) : Prop where
  nd : P.Nodup
  lt : ∀ r (h : r < P.length), P[r].1 < n + r ∧ P[r].2 < n + r
theorem adj_cons {x y : Nat} {r : List Nat} : adj (x :: y :: r) = (x, y) :: adj (y :: r) := rfl
theorem putT_head {a b c y : Nat} {r : List Nat} : ∃ t, putT a b c (y :: r) = y :: t ∨ putT a b c (y :: r) = c :: t := by
  cases r with
  | nil => exact ⟨[], .inl rfl⟩
  | cons z r =>
    unfold putT
    split
    · exact ⟨_, .inr rfl⟩
    · exact ⟨_, .inl rfl⟩
theorem adj_tail {x : Nat} {t : List Nat} {q : Pr} (h : q ∈ adj (x :: t)) : (∃ y s, t = y :: s ∧ q = (x, y)) ∨ q ∈ adj t := by
  cases t with
  | nil => simp [adj] at h
  | cons y s =>
    rw [adj_cons] at h
    rcases List.mem_cons.mp h with h | h
    · exact .inl ⟨y, s, rfl, h⟩
    · exact .inr h
theorem putT_adj {a b c : Nat} : ∀ {row : List Nat} {q : Pr}, q ∈ adj (putT a b c row) → (q.1 = c ∨ q.2 = c) ∨ (q ∈ adj row ∧ q ≠ (a, b))
  | [], q, h => by simp [putT, adj] at h
  | [x], q, h => by simp [putT, adj] at h
  | x :: y :: r, q, h => by
    unfold putT at h
    split at h
    · rcases adj_tail h with ⟨y', s, _, rfl⟩ | h
      · exact .inl (.inl rfl)
      · rcases putT_adj h with h | ⟨h1, h2⟩
        · exact .inl h
        · refine .inr ⟨?_, h2⟩
          rw [adj_cons]
          refine List.mem_cons_of_mem _ ?_
          cases r with
          | nil => simp [adj] at h1
          | cons z r => rw [adj_cons]; exact List.mem_cons_of_mem _ h1
    · rename_i hn
      rcases adj_tail h with ⟨y', s, e, rfl⟩ | h
      · obtain ⟨t, e2 | e2⟩ := putT_head (a := a) (b := b) (c := c) (y := y) (r := r)
        · rw [e2] at e
          cases e
          exact .inr ⟨by rw [adj_cons]; exact List.mem_cons_self, fun z => hn (by cases z; exact ⟨rfl, rfl⟩)⟩
        · rw [e2] at e
          cases e
          exact .inl (.inr rfl)
      · rcases putT_adj h with h | ⟨h1, h2⟩
        · exact .inl h
        · exact .inr ⟨by rw [adj_cons]; exact List.mem_cons_of_mem _ h1, h2⟩
theorem putT_none {a b c : Nat} : ∀ {row : List Nat}, (a, b) ∉ adj row → putT a b c row = row
  | [], _ => rfl
  | [_], _ => rfl
  | x :: y :: r, h => by
    unfold putT
    rw [adj_cons] at h
    rw [if_neg (fun z => h (by rw [z.1, z.2]; exact List.mem_cons_self)), putT_none (fun z => h (List.mem_cons_of_mem _ z))]
theorem putT_mem {a b c : Nat} : ∀ {row : List Nat} {x : Nat}, x ∈ putT a b c row → x = c ∨ x ∈ row
  | [], x, h => .inr h
  | [_], x, h => .inr h
  | y :: z :: r, x, h => by
    unfold putT at h
    split at h
    · rcases List.mem_cons.mp h with h | h
      · exact .inl h
      · rcases putT_mem h with h | h
        · exact .inl h
        · exact .inr (List.mem_cons_of_mem _ (List.mem_cons_of_mem _ h))
    · rcases List.mem_cons.mp h with h | h
      · exact .inr (h ▸ List.mem_cons_self)
      · rcases putT_mem h with h | h
        · exact .inl h
        · exact .inr (List.mem_cons_of_mem _ h)
theorem lowF_snoc {P l : List Pr} {p : Pr} : lowF P (l ++ [p]) = lowS P (lowF P l) p := by
  unfold lowF
  rw [List.foldl_append]; rfl
theorem rev_ind {α : Type} {M : List α → Prop} (h0 : M []) (h1 : ∀ l x, M l → M (l ++ [x])) : ∀ l, M l := by
  intro l
  have key : ∀ k, ∀ l : List α, l.length = k → M l := by
    intro k
    induction k with
    | zero => intro l hl; rw [List.eq_nil_of_length_eq_zero hl]; exact h0
    | succ k ih =>
      intro l hl
      have hne : l ≠ [] := by intro e; subst e; simp at hl
      rw [← List.dropLast_concat_getLast hne]
      exact h1 _ _ (ih _ (by rw [List.length_dropLast]; omega))
  exact key _ l rfl
theorem lowF_spec (P : List Pr) : ∀ l : List Pr, (lowF P l = none → ∀ p ∈ l, p ∉ P) ∧ (∀ q, lowF P l = some q → q ∈ l ∧ q ∈ P ∧ ∀ p ∈ l, p ∈ P → P.idxOf q ≤ P.idxOf p) := by
  refine rev_ind ⟨fun _ p h => by simp at h, fun q h => by simp [lowF] at h⟩ fun l x ⟨h1, h2⟩ => ?_
  rw [lowF_snoc]
  unfold lowS
  cases hq : lowF P l with
  | none =>
    have h1 := h1 hq
    by_cases hx : x ∈ P
    · rw [if_pos ⟨hx, rfl⟩]
      refine ⟨fun h => (by cases h), fun q h => ?_⟩
      cases h
      refine ⟨by simp, hx, fun p hp hpP => ?_⟩
      rcases List.mem_append.mp hp with hp | hp
      · exact absurd hpP (h1 p hp)
      · have hp : p = x := by simpa using hp
        rw [hp]; exact Nat.le_refl _
    · rw [if_neg (fun z => hx z.1)]
      refine ⟨fun _ p hp => ?_, fun q h => by cases h⟩
      rcases List.mem_append.mp hp with hp | hp
      · exact h1 p hp
      · have hp : p = x := by simpa using hp
        rw [hp]; exact hx
  | some q0 =>
    obtain ⟨g1, g2, g3⟩ := h2 q0 hq
    by_cases hx : x ∈ P ∧ lowB P x (some q0) = true
    · rw [if_pos hx]
      have hlt : P.idxOf x < P.idxOf q0 := of_decide_eq_true hx.2
      refine ⟨fun h => (by cases h), fun q h => ?_⟩
      cases h
      refine ⟨by simp, hx.1, fun p hp hpP => ?_⟩
      rcases List.mem_append.mp hp with hp | hp
      · exact Nat.le_trans (Nat.le_of_lt hlt) (g3 p hp hpP)
      · have hp : p = x := by simpa using hp
        rw [hp]; exact Nat.le_refl _
    · rw [if_neg hx]
      refine ⟨fun h => (by cases h), fun q h => ?_⟩
      cases h
      refine ⟨List.mem_append_left _ g1, g2, fun p hp hpP => ?_⟩
      rcases List.mem_append.mp hp with hp | hp
      · exact g3 p hp hpP
      · have hp : p = x := by simpa using hp
        rw [hp] at hpP ⊢
        have : ¬ P.idxOf x < P.idxOf q0 := fun z => hx ⟨hpP, decide_eq_true z⟩
        omega
theorem nodup_idx {P : List Pr} (nd : P.Nodup) {r : Nat} (h : r < P.length) : P.idxOf P[r] = r := by
  have hm := List.getElem_mem h
  have h1 := List.idxOf_lt_length_of_mem hm
  have h2 : P[P.idxOf P[r]] = P[r] := List.getElem_idxOf h1
  rcases Nat.lt_trichotomy (P.idxOf P[r]) r with q | q | q
  · exact absurd h2 ((List.pairwise_iff_getElem.mp (List.nodup_iff_pairwise_ne.mp nd)) _ _ h1 h q)
  · exact q
  · exact absurd h2.symm ((List.pairwise_iff_getElem.mp (List.nodup_iff_pairwise_ne.mp nd)) _ _ h h1 q)
theorem take_mem_lt {P : List Pr} {r : Nat} {q : Pr} (h : q ∈ P) (hr : P.idxOf q < r) : q ∈ P.take r := by
  have h2 := List.idxOf_lt_length_of_mem h
  have h3 : P[P.idxOf q] = q := List.getElem_idxOf h2
  rw [List.mem_iff_getElem]
  exact ⟨P.idxOf q, by rw [List.length_take]; omega, by rw [List.getElem_take]; exact h3⟩
theorem low_at {n : Nat} {P : List Pr} (wf : Wf n P) {l : List Pr} {r : Nat} (hr : r < P.length) (hn : ∀ p ∈ l, p ∉ P.take r) (hp : P[r] ∈ l) : lowF P l = some P[r] := by
  obtain ⟨h1, h2⟩ := lowF_spec P l
  cases hq : lowF P l with
  | none => exact absurd (List.getElem_mem hr) (h1 hq _ hp)
  | some q =>
    obtain ⟨g1, g2, g3⟩ := h2 q hq
    have e1 := g3 _ hp (List.getElem_mem hr)
    rw [nodup_idx wf.nd hr] at e1
    have e2 : ¬ P.idxOf q < r := fun z => hn q g1 (take_mem_lt g2 z)
    have e3 : P.idxOf q = r := by omega
    have h4 := List.idxOf_lt_length_of_mem g2
    have h5 : P[P.idxOf q] = q := List.getElem_idxOf h4
    congr 1
    rw [← h5]
    congr 1
/-- behind the first r stages -/
theorem stage_inv {n : Nat} {P : List Pr} (wf : Wf n P) {row : List Nat} (hrow : ∀ x ∈ row, x < n) : ∀ r, r ≤ P.length →
    (∀ q ∈ adj (stg n (P.take r) row), q ∉ P.take r) ∧ (∀ x ∈ stg n (P.take r) row, x < n + r) ∧ cutF P n row = cutF P n (stg n (P.take r) row)
  | 0, _ => ⟨fun q _ => by simp, fun x hx => hrow x hx, rfl⟩
  | r + 1, hr => by
    have hr' : r < P.length := hr
    obtain ⟨h1, h2, h3⟩ := stage_inv wf hrow r (Nat.le_of_lt hr')
    have el : (P.take r).length = r := by rw [List.length_take]; omega
    have es : stg n (P.take (r + 1)) row = putT P[r].1 P[r].2 (n + r) (stg n (P.take r) row) := by rw [take_snoc hr', stg_snoc, el]
    rw [es]
    generalize stg n (P.take r) row = R at *
    have small : ∀ q ∈ P.take (r + 1), q.1 < n + r ∧ q.2 < n + r := fun q hq => by
      obtain ⟨j, hj, e⟩ := List.mem_iff_getElem.mp hq
      rw [List.length_take] at hj
      rw [List.getElem_take] at e
      have := wf.lt j (by omega)
      rw [e] at this
      omega
    refine ⟨fun q hq hm => ?_, fun x hx => ?_, ?_⟩
    · rcases putT_adj hq with h | ⟨g1, g2⟩
      · have := small q hm
        omega
      · rw [take_snoc hr'] at hm
        rcases List.mem_append.mp hm with hm | hm
        · exact h1 q g1 hm
        · have hm : q = P[r] := by simpa using hm
          exact g2 hm
    · rcases putT_mem hx with h | h
      · omega
      · have := h2 x h; omega
    · rw [h3]
      by_cases hp : P[r] ∈ adj R
      · rw [cutF_some (low_at wf hr' h1 hp), nodup_idx wf.nd hr']
      · rw [putT_none (a := P[r].1) (b := P[r].2) hp]
end DL
set_option Elab.async false
set_option linter.all false
set_option maxRecDepth 100000
set_option maxHeartbeats 4000000
namespace DL
open PySem PySem.Spec PyProof.Rows
open L2 hiding Takes passAt takes_of ps_raise PMk ps_try_as
open L2N (Takes passAt takes_of ps_raise PMk ps_try_as)
end DL
set_option Elab.async false
set_option linter.all false
set_option maxRecDepth 100000
set_option maxHeartbeats 4000000
namespace DL
open PySem PySem.Spec PyProof.Rows
open L2 hiding Takes passAt takes_of ps_raise PMk ps_try_as
open L2N (Takes passAt takes_of ps_raise PMk ps_try_as)
/-! ### pieces taken apart -/
def apartF (c a b : Nat) (row : List Nat) : List Nat := row.flatMap fun x => if x = c then [a, b] else [x]
/-- by the ranks k - 1, .., m -/
def splK (n : Nat) (P : List Pr) (m : Nat) : Nat → List Nat → List Nat
  | 0, row => row
  | k + 1, row => if k < m then row else splK n P m k (apartF (n + k) (P.getD k (0, 0)).1 (P.getD k (0, 0)).2 row)
theorem apartF_app (c a b : Nat) (u v : List Nat) : apartF c a b (u ++ v) = apartF c a b u ++ apartF c a b v := by simp [apartF]
theorem splK_app {n : Nat} {P : List Pr} {m : Nat} : ∀ (k : Nat) (u v : List Nat), splK n P m k (u ++ v) = splK n P m k u ++ splK n P m k v
  | 0, _, _ => rfl
  | k + 1, u, v => by
    unfold splK
    split
    · rfl
    · rw [apartF_app, splK_app k]
theorem apartF_out {c a b : Nat} : ∀ {row : List Nat}, c ∉ row → apartF c a b row = row
  | [], _ => rfl
  | x :: r, h => by
    have h1 : x ≠ c := fun e => h (by simp [e])
    have ih := apartF_out (a := a) (b := b) (row := r) fun hc => h (List.mem_cons_of_mem _ hc)
    unfold apartF at ih ⊢
    rw [List.flatMap_cons, if_neg h1, ih]
    rfl
theorem splK_low {n : Nat} {P : List Pr} {m : Nat} {row : List Nat} (h : ∀ x ∈ row, x < n + m) : ∀ k : Nat, splK n P m k row = row
  | 0 => rfl
  | k + 1 => by
    unfold splK
    split
    · rfl
    · rename_i hk
      rw [apartF_out fun hc => by have := h _ hc; omega]
      exact splK_low h k
/-- ranks above do nothing -/
theorem splK_up {n : Nat} {P : List Pr} {m j : Nat} {row : List Nat} (hm : m ≤ j) (h : ∀ x ∈ row, x < n + j) : ∀ k : Nat, j ≤ k → splK n P m k row = splK n P m j row := by
  intro k
  induction k with
  | zero =>
    intro hk
    have : j = 0 := by omega
    subst this; rfl
  | succ k ih =>
    intro hk
    by_cases e : j = k + 1
    · subst e; rfl
    · have hk' : j ≤ k := by omega
      show (if k < m then row else _) = _
      rw [if_neg (by omega), apartF_out fun hc => by have := h _ hc; omega]
      exact ih hk'
theorem splK_part {n : Nat} {P : List Pr} {m x L : Nat} (hw : Wf n P) (hL : P.length = L) (hx : n + m ≤ x) (hx2 : x < n + L) :
    splK n P m L [x] = splK n P m L [(P.getD (x - n) (0, 0)).1, (P.getD (x - n) (0, 0)).2] := by
  have hr : x - n < P.length := by omega
  have hg : P.getD (x - n) (0, 0) = P[x - n] := by rw [List.getD_eq_getElem?_getD, List.getElem?_eq_getElem hr]; rfl
  have hlt := hw.lt (x - n) hr
  rw [splK_up (j := x - n + 1) (by omega) (by simp; omega) L (by omega)]
  rw [splK_up (j := x - n) (by omega) (by rw [hg]; simp; omega) L (by omega)]
  show (if x - n < m then [x] else _) = _
  rw [if_neg (by omega)]
  congr 1
  unfold apartF
  rw [show n + (x - n) = x by omega]
  simp
/-- the split row -/
def spl (n : Nat) (P : List Pr) (m : Nat) (row : List Nat) : List Nat := splK n P m P.length row
theorem apart_put {a b c : Nat} : ∀ {row : List Nat}, c ∉ row → apartF c a b (putT a b c row) = row
  | [], _ => rfl
  | [x], h => apartF_out h
  | x :: y :: r, h => by
    unfold putT
    split
    · rename_i hc
      have ih := apart_put (a := a) (b := b) (c := c) (row := r) fun hc => h (by simp [hc])
      unfold apartF at ih ⊢
      rw [List.flatMap_cons, if_pos rfl, ih, hc.1, hc.2]
      rfl
    · have ih := apart_put (a := a) (b := b) (c := c) (row := y :: r) fun hc => h (List.mem_cons_of_mem _ hc)
      have h1 : x ≠ c := fun e => h (by simp [e])
      unfold apartF at ih ⊢
      rw [List.flatMap_cons, if_neg h1, ih]
      rfl
/-- what the stages made is taken apart -/
theorem spl_stg {n : Nat} {P : List Pr} {m : Nat} (hw : Wf n P) {row : List Nat} (hr : ∀ x ∈ row, x < n) (hm : m ≤ P.length) : spl n P m (stg n P row) = stg n (P.take m) row := by
  have key : ∀ k, m ≤ k → k ≤ P.length → splK n P m k (stg n (P.take k) row) = stg n (P.take m) row := by
    intro k
    induction k with
    | zero =>
      intro h1 _
      have : m = 0 := by omega
      subst this; rfl
    | succ k ih =>
      intro h1 h2
      by_cases e : m = k + 1
      · subst e
        exact splK_low (fun x hx => by
          have := (stage_inv hw hr (k + 1) h2).2.1 x hx
          omega) _
      · have hk : k < P.length := h2
        have hin := (stage_inv hw hr k (by omega)).2.1
        have e1 : stg n (P.take (k + 1)) row = putT P[k].1 P[k].2 (n + k) (stg n (P.take k) row) := by
          rw [show P.take (k + 1) = P.take k ++ [P[k]] by rw [List.take_add_one, List.getElem?_eq_getElem hk]; rfl, stg_snoc, List.length_take, Nat.min_eq_left (by omega)]
        have hg : P.getD k (0, 0) = P[k] := by rw [List.getD_eq_getElem?_getD, List.getElem?_eq_getElem hk]; rfl
        show (if k < m then _ else _) = _
        rw [if_neg (by omega), e1, hg, apart_put fun hc => by have := hin _ hc; omega]
        exact ih (by omega) (by omega)
  have := key P.length hm (Nat.le_refl _)
  rwa [List.take_length] at this
end DL
set_option Elab.async false
set_option linter.all false
set_option maxRecDepth 100000
set_option maxHeartbeats 4000000
namespace DL
open PySem PySem.Spec PyProof.Rows
open L2 hiding Takes passAt takes_of ps_raise PMk ps_try_as
open L2N (Takes passAt takes_of ps_raise PMk ps_try_as)
/-! ### where a join crosses the place between two pieces -/
/-- is the last of the row left alone by the scan? -/
def pend (a b : Nat) : List Nat → Bool
  | [] => false
  | [_] => true
  | x :: y :: r => if x = a ∧ y = b then pend a b r else pend a b (y :: r)
theorem pend_ne {a b : Nat} {u : List Nat} (h : pend a b u = true) : u ≠ [] := fun e => by rw [e] at h; simp [pend] at h
theorem putT_ne {a b c : Nat} : ∀ {u : List Nat}, u ≠ [] → putT a b c u ≠ []
  | [], h => absurd rfl h
  | [_], _ => by simp [putT]
  | x :: y :: r, _ => by unfold putT; split <;> simp
theorem glast_cons {x : Nat} {r : List Nat} (h : r ≠ []) : (x :: r).getLast? = r.getLast? := by
  cases r with
  | nil => exact absurd rfl h
  | cons y r => simp [List.getLast?_cons_cons]
theorem dlast_cons {x : Nat} {r : List Nat} (h : r ≠ []) : (x :: r).dropLast = x :: r.dropLast := by
  cases r with
  | nil => exact absurd rfl h
  | cons y r => rfl
theorem putT_app {a b c : Nat} : ∀ (u v : List Nat), putT a b c (u ++ v) = if pend a b u = true ∧ u.getLast? = some a ∧ v.head? = some b then (putT a b c u).dropLast ++ c :: putT a b c v.tail else putT a b c u ++ putT a b c v
  | [], v => by simp [pend, putT]
  | [x], v => by
    cases v with
    | nil => simp [putT]
    | cons y v =>
      show (if x = a ∧ y = b then c :: putT a b c v else x :: putT a b c (y :: v)) = _
      by_cases h : x = a ∧ y = b
      · rw [if_pos h, if_pos ⟨rfl, by rw [h.1]; rfl, by rw [h.2]; rfl⟩]
        rfl
      · rw [if_neg h, if_neg (fun z => h ⟨by simpa using z.2.1, by simpa using z.2.2⟩)]
        rfl
  | x :: y :: r, v => by
    show (if x = a ∧ y = b then c :: putT a b c (r ++ v) else x :: putT a b c (y :: r ++ v)) = _
    have e1 : putT a b c (x :: y :: r) = if x = a ∧ y = b then c :: putT a b c r else x :: putT a b c (y :: r) := rfl
    have e2 : pend a b (x :: y :: r) = if x = a ∧ y = b then pend a b r else pend a b (y :: r) := rfl
    rw [e1, e2]
    by_cases h : x = a ∧ y = b
    · rw [if_pos h, if_pos h, if_pos h, putT_app r v]
      by_cases hr : r = []
      · subst hr
        simp [pend, putT]
      · rw [glast_cons (by simp), glast_cons hr]
        split
        · rw [dlast_cons (putT_ne hr)]; rfl
        · rfl
    · rw [if_neg h, if_neg h, if_neg h, putT_app (y :: r) v, glast_cons (x := x) (r := y :: r) (by simp)]
      split
      · rw [dlast_cons (putT_ne (by simp))]; rfl
      · rfl
theorem pend_last {a b c : Nat} : ∀ {u : List Nat}, c ∉ u → u ≠ [] → (pend a b u = true ↔ (putT a b c u).getLast? = u.getLast?)
  | [], _, h => absurd rfl h
  | [x], _, _ => by simp [pend, putT]
  | x :: y :: r, hc, _ => by
    have e1 : putT a b c (x :: y :: r) = if x = a ∧ y = b then c :: putT a b c r else x :: putT a b c (y :: r) := rfl
    have e2 : pend a b (x :: y :: r) = if x = a ∧ y = b then pend a b r else pend a b (y :: r) := rfl
    rw [e1, e2]
    by_cases h : x = a ∧ y = b
    · rw [if_pos h, if_pos h]
      by_cases hr : r = []
      · subst hr
        have hy : c ≠ y := fun e => hc (by simp [e])
        simp [pend, putT]
        exact hy
      · rw [glast_cons (putT_ne hr), glast_cons (by simp), glast_cons hr]
        exact pend_last (fun z => hc (by simp [z])) hr
    · rw [if_neg h, if_neg h, glast_cons (putT_ne (by simp)), glast_cons (by simp)]
      exact pend_last (fun z => hc (List.mem_cons_of_mem _ z)) (by simp)
theorem putT_last {a b c : Nat} : ∀ {u : List Nat}, pend a b u = true → ∃ x, u.getLast? = some x ∧ putT a b c u = (putT a b c u).dropLast ++ [x]
  | [], h => by simp [pend] at h
  | [x], _ => ⟨x, rfl, rfl⟩
  | x :: y :: r, h => by
    have e1 : putT a b c (x :: y :: r) = if x = a ∧ y = b then c :: putT a b c r else x :: putT a b c (y :: r) := rfl
    have e2 : pend a b (x :: y :: r) = if x = a ∧ y = b then pend a b r else pend a b (y :: r) := rfl
    rw [e2] at h
    rw [e1]
    by_cases hh : x = a ∧ y = b
    · rw [if_pos hh] at h ⊢
      have hr := pend_ne h
      obtain ⟨z, h1, h2⟩ := putT_last (c := c) h
      refine ⟨z, by rw [glast_cons (by simp), glast_cons hr]; exact h1, ?_⟩
      rw [dlast_cons (putT_ne hr)]
      rw [List.cons_append, ← h2]
    · rw [if_neg hh] at h ⊢
      obtain ⟨z, h1, h2⟩ := putT_last (c := c) h
      refine ⟨z, by rw [glast_cons (by simp)]; exact h1, ?_⟩
      rw [dlast_cons (putT_ne (by simp)), List.cons_append, ← h2]
/-! ### stages of two rows, one behind the other -/
def stN (n : Nat) (P : List Pr) (k : Nat) (row : List Nat) : List Nat := stg n (P.take k) row
theorem stN_succ {n : Nat} {P : List Pr} {row : List Nat} {i : Nat} (h : i < P.length) : stN n P (i + 1) row = putT P[i].1 P[i].2 (n + i) (stN n P i row) := by
  unfold stN
  rw [show P.take (i + 1) = P.take i ++ [P[i]] by rw [List.take_add_one, List.getElem?_eq_getElem h]; rfl, stg_snoc, List.length_take, Nat.min_eq_left (Nat.le_of_lt h)]
theorem stN_ne {n : Nat} {P : List Pr} {row : List Nat} (h : row ≠ []) : ∀ k, k ≤ P.length → stN n P k row ≠ []
  | 0, _ => h
  | k + 1, hk => by rw [stN_succ hk]; exact putT_ne (stN_ne h k (by omega))
def crossAt (n : Nat) (P : List Pr) (u v : List Nat) (r : Nat) : Prop := ∃ h : r < P.length, pend P[r].1 P[r].2 (stN n P r u) = true ∧ (stN n P r u).getLast? = some P[r].1 ∧ (stN n P r v).head? = some P[r].2
theorem stN_app {n : Nat} {P : List Pr} {u v : List Nat} : ∀ k, k ≤ P.length → (∀ r, r < k → ¬ crossAt n P u v r) → stN n P k (u ++ v) = stN n P k u ++ stN n P k v
  | 0, _, _ => rfl
  | k + 1, hk, h => by
    have hk' : k < P.length := hk
    rw [stN_succ hk', stN_succ hk', stN_succ hk', stN_app k (by omega) (fun r hr => h r (by omega)), putT_app, if_neg (fun z => h k (Nat.lt_succ_self _) ⟨hk', z⟩)]
theorem stN_cross {n : Nat} {P : List Pr} {u v : List Nat} {r : Nat} (hr : r < P.length) (hlt : P[r].1 < n + r) (h0 : ∀ q, q < r → ¬ crossAt n P u v q) (h : crossAt n P u v r) :
    ∃ u' v', stN n P r u = u' ++ [P[r].1] ∧ stN n P r v = P[r].2 :: v' ∧ stN n P (r + 1) (u ++ v) = putT P[r].1 P[r].2 (n + r) u' ++ (n + r) :: putT P[r].1 P[r].2 (n + r) v' := by
  obtain ⟨_, h1, h2, h3⟩ := h
  rw [stN_succ hr, stN_app r (by omega) h0, putT_app, if_pos ⟨h1, h2, h3⟩]
  generalize stN n P r u = x at *
  generalize stN n P r v = y at *
  obtain ⟨u', rfl⟩ : ∃ u', x = u' ++ [P[r].1] := by
    obtain ⟨ys, e⟩ := List.getLast?_eq_some_iff.mp h2
    exact ⟨ys, e⟩
  cases y with
  | nil => simp at h3
  | cons z v' =>
    have hz : z = P[r].2 := by simpa using h3
    subst hz
    refine ⟨u', v', rfl, rfl, ?_⟩
    have hp := putT_app (a := P[r].1) (b := P[r].2) (c := n + r) u' [P[r].1]
    obtain ⟨w, hw1, hw2⟩ := putT_last (c := n + r) h1
    have hw : w = P[r].1 := by rw [h2] at hw1; exact (Option.some.inj hw1).symm
    subst hw
    rw [hp]
    split
    · rename_i hc
      exfalso
      rw [hp, if_pos hc] at hw2
      have e : ∀ (X : List Nat), X ++ (n + r) :: putT P[r].1 P[r].2 (n + r) ([P[r].1] : List Nat).tail = (X ++ (n + r) :: putT P[r].1 P[r].2 (n + r) ([P[r].1] : List Nat).tail).dropLast ++ [P[r].1] → n + r = P[r].1 := fun X h => by
        have h := congrArg List.getLast? h
        simpa [putT] using h
      have := e _ hw2
      omega
    · simp [putT]
/-! ### sums: the places where pieces end -/
def sumW (W : Nat → Nat) (row : List Nat) : Nat := (row.map W).sum
theorem sumW_app (W : Nat → Nat) (u v : List Nat) : sumW W (u ++ v) = sumW W u + sumW W v := by simp [sumW]
theorem sumW_cons (W : Nat → Nat) (x : Nat) (v : List Nat) : sumW W (x :: v) = W x + sumW W v := by simp [sumW]
def cutAt (W : Nat → Nat) (row : List Nat) (m : Nat) : Prop := ∃ s t, row = s ++ t ∧ sumW W s = m
theorem cutAt_cons {W : Nat → Nat} {x : Nat} {row : List Nat} {m : Nat} (h : cutAt W row m) : cutAt W (x :: row) (W x + m) := by
  obtain ⟨s, t, rfl, e⟩ := h
  exact ⟨x :: s, t, rfl, by rw [sumW_cons, e]⟩
theorem cutAt_zero (W : Nat → Nat) (row : List Nat) : cutAt W row 0 := ⟨[], row, rfl, rfl⟩
theorem cutAt_inv {W : Nat → Nat} {x : Nat} {row : List Nat} {m : Nat} (h : cutAt W (x :: row) m) : m = 0 ∨ ∃ m', m = W x + m' ∧ cutAt W row m' := by
  obtain ⟨s, t, e, hm⟩ := h
  cases s with
  | nil => exact .inl (by rw [← hm]; rfl)
  | cons y s =>
    cases e
    exact .inr ⟨_, by rw [← hm, sumW_cons], s, t, rfl, rfl⟩
theorem cutAt_put {W : Nat → Nat} {a b c : Nat} (hc : W c = W a + W b) : ∀ {row : List Nat} {m : Nat}, cutAt W (putT a b c row) m → cutAt W row m
  | [], _, h => h
  | [_], _, h => h
  | x :: y :: r, m, h => by
    unfold putT at h
    split at h
    · rename_i hx
      rcases cutAt_inv h with rfl | ⟨m', rfl, h2⟩
      · exact cutAt_zero _ _
      · have := cutAt_cons (x := x) (cutAt_cons (x := y) (cutAt_put hc h2))
        rw [hx.1, hx.2] at this ⊢
        rw [hc, Nat.add_assoc]; exact this
    · rcases cutAt_inv h with rfl | ⟨m', rfl, h2⟩
      · exact cutAt_zero _ _
      · exact cutAt_cons (cutAt_put hc h2)
theorem sumW_put {W : Nat → Nat} {a b c : Nat} (hc : W c = W a + W b) : ∀ row : List Nat, sumW W (putT a b c row) = sumW W row
  | [] => rfl
  | [_] => rfl
  | x :: y :: r => by
    unfold putT
    split
    · rename_i hx
      rw [sumW_cons, sumW_cons, sumW_cons, sumW_put hc r, hc, hx.1, hx.2, Nat.add_assoc]
    · rw [sumW_cons, sumW_cons, sumW_put hc (y :: r)]
theorem not_cut {W : Nat → Nat} {c m : Nat} : ∀ {u v : List Nat}, sumW W u < m → m < sumW W u + W c → ¬ cutAt W (u ++ c :: v) m
  | [], v, h1, h2, h => by
    have h1 : 0 < m := h1
    have h2 : m < 0 + W c := h2
    rcases cutAt_inv h with e | ⟨m', e, _⟩ <;> omega
  | x :: u, v, h1, h2, h => by
    rw [sumW_cons] at h1 h2
    rcases cutAt_inv h with e | ⟨m', e, h⟩
    · omega
    · exact not_cut (by omega) (by omega) h
/-- W tells how long a piece is -/
structure Wgt (n : Nat) (P : List Pr) (W : Nat → Nat) : Prop where
  join : ∀ r (h : r < P.length), W (n + r) = W P[r].1 + W P[r].2
  pos : ∀ x, x < n + P.length → 1 ≤ W x
theorem sumW_stN {n : Nat} {P : List Pr} {W : Nat → Nat} (hW : Wgt n P W) {row : List Nat} : ∀ k, k ≤ P.length → sumW W (stN n P k row) = sumW W row
  | 0, _ => rfl
  | k + 1, hk => by rw [stN_succ hk, sumW_put (hW.join k hk), sumW_stN hW k (by omega)]
theorem cutAt_stN {n : Nat} {P : List Pr} {W : Nat → Nat} (hW : Wgt n P W) {row : List Nat} {m j : Nat} : ∀ k, k ≤ P.length → j ≤ k → cutAt W (stN n P k row) m → cutAt W (stN n P j row) m
  | 0, _, hj, h => by
    have : j = 0 := by omega
    subst this; exact h
  | k + 1, hk, hj, h => by
    by_cases e : j = k + 1
    · subst e; exact h
    · rw [stN_succ hk] at h
      exact cutAt_stN hW k (by omega) (by omega) (cutAt_put (hW.join k hk) h)
theorem mark_no {n : Nat} {P : List Pr} {W : Nat → Nat} (hw : Wf n P) (hW : Wgt n P W) {u v : List Nat} {r k : Nat} (hk : k ≤ P.length) (hrk : r < k) (h0 : ∀ q, q < r → ¬ crossAt n P u v q) (h : crossAt n P u v r) : ¬ cutAt W (stN n P k (u ++ v)) (sumW W u) := fun hc => by
  have hr : r < P.length := by omega
  have hlt := hw.lt r hr
  have hc := cutAt_stN hW (j := r + 1) k hk hrk hc
  obtain ⟨u', v', e1, e2, e3⟩ := stN_cross hr hlt.1 h0 h
  rw [e3] at hc
  have hs := sumW_stN hW (row := u) r (by omega)
  rw [e1, sumW_app] at hs
  have p1 := hW.pos P[r].1 (by omega)
  have p2 := hW.pos P[r].2 (by omega)
  have hj := hW.join r hr
  have e4 : sumW W [P[r].1] = W P[r].1 := by simp [sumW]
  rw [e4] at hs
  refine not_cut ?_ ?_ hc
  · rw [sumW_put hj]; omega
  · rw [sumW_put hj]; omega
/-- the first crossing -/
def FirstX (n : Nat) (P : List Pr) (u v : List Nat) : Option Nat → Prop
  | none => ∀ r, ¬ crossAt n P u v r
  | some r => crossAt n P u v r ∧ ∀ q, q < r → ¬ crossAt n P u v q
theorem FirstX.uniq {n : Nat} {P : List Pr} {u v : List Nat} {x y : Option Nat} (hx : FirstX n P u v x) (hy : FirstX n P u v y) : x = y := by
  cases x with
  | none =>
    cases y with
    | none => rfl
    | some r => exact absurd hy.1 (hx r)
  | some r =>
    cases y with
    | none => exact absurd hx.1 (hy r)
    | some q =>
      congr 1
      by_cases h1 : r < q
      · exact absurd hx.1 (hy.2 r h1)
      · by_cases h2 : q < r
        · exact absurd hy.1 (hx.2 q h2)
        · omega
end DL
set_option Elab.async false
set_option linter.all false
set_option maxRecDepth 100000
set_option maxHeartbeats 4000000
namespace DL
open PySem PySem.Spec PyProof.Rows
open L2 hiding Takes passAt takes_of ps_raise PMk ps_try_as
open L2N (Takes passAt takes_of ps_raise PMk ps_try_as)
/-! ### spines -/
abbrev Sp1 := Nat × Option Nat
def okBd (k : Nat) : Option Nat → Prop
  | none => True
  | some q => k ≤ q
/-- the pairs (piece, bound) downwards; sd: which part -/
def spn (sd : Pr → Nat) (n : Nat) (P : List Pr) : Nat → Nat → Option Nat → List Sp1
  | 0, x, b => [(x, b)]
  | f + 1, x, b => (x, b) :: if x < n then [] else spn sd n P f (sd (P.getD (x - n) (0, 0))) (some (x - n))
theorem spn_bd {sd : Pr → Nat} {n : Nat} {P : List Pr} (hs : ∀ r (h : r < P.length), sd P[r] < n + r) : ∀ (f x : Nat) (b : Nat), x ≤ n + b → x < n + P.length → ∀ z ∈ spn sd n P f x (some b), ∃ q, z.2 = some q ∧ q ≤ b
  | 0, x, b, _, _, z, hz => ⟨b, by have : z = (x, some b) := by simpa [spn] using hz
                                   rw [this], Nat.le_refl _⟩
  | f + 1, x, b, hx, hxl, z, hz => by
    unfold spn at hz
    rcases List.mem_cons.mp hz with rfl | hz
    · exact ⟨b, rfl, Nat.le_refl _⟩
    · split at hz
      · simp at hz
      · have hr : x - n < P.length := by omega
        have hg : P.getD (x - n) (0, 0) = P[x - n] := by rw [List.getD_eq_getElem?_getD, List.getElem?_eq_getElem hr]; rfl
        have := hs (x - n) hr
        rw [hg] at hz
        obtain ⟨q, h1, h2⟩ := spn_bd hs f _ (x - n) (by omega) (by omega) z hz
        exact ⟨q, h1, by omega⟩
/-- an end of the pieces at stage k: pick is the last (the first) -/
structure EndP (sd : Pr → Nat) (pick : List Nat → Option Nat) : Prop where
  one : ∀ x, pick [x] = some x
  part : ∀ (f : Nat → List Nat) (p : Pr), (∀ x, f x ≠ []) → pick (f p.1 ++ f p.2) = pick (f (sd p))
theorem endR : EndP Prod.snd List.getLast? := ⟨fun x => rfl, fun f p h => by rw [List.getLast?_append]; cases q : (f p.2).getLast? with
  | none => exact absurd (List.getLast?_eq_none_iff.mp q) (h _)
  | some x => rfl⟩
theorem endL : EndP Prod.fst List.head? := ⟨fun x => rfl, fun f p h => by rw [List.head?_append]; cases q : (f p.1).head? with
  | none => exact absurd (List.head?_eq_none_iff.mp q) (h _)
  | some x => rfl⟩
theorem splK_lenLe {n : Nat} {P : List Pr} {m : Nat} : ∀ (k : Nat) (row : List Nat), row ≠ [] → splK n P m k row ≠ []
  | 0, _, h => h
  | k + 1, row, h => by
    unfold splK
    split
    · exact h
    · refine splK_lenLe k _ ?_
      cases row with
      | nil => exact absurd rfl h
      | cons x r => unfold apartF; rw [List.flatMap_cons]; split <;> simp
theorem spl_ne (n : Nat) (P : List Pr) (k x : Nat) : spl n P k [x] ≠ [] := splK_lenLe _ _ (by simp)
theorem spl_two {n : Nat} {P : List Pr} {k x : Nat} (hw : Wf n P) (h1 : n + k ≤ x) (h2 : x < n + P.length) : spl n P k [x] = spl n P k [(P.getD (x - n) (0, 0)).1] ++ spl n P k [(P.getD (x - n) (0, 0)).2] :=
  (splK_part hw rfl h1 h2).trans (splK_app P.length [(P.getD (x - n) (0, 0)).1] [(P.getD (x - n) (0, 0)).2])
theorem spn_end {sd : Pr → Nat} {pick : List Nat → Option Nat} (he : EndP sd pick) {n : Nat} {P : List Pr} (hw : Wf n P) (hs : ∀ r (h : r < P.length), sd P[r] < n + r) {k : Nat} (hk : k ≤ P.length) : ∀ (f x : Nat) (b : Option Nat), x ≤ f → x < n + P.length → okBd k b →
    (∃ y yb, (y, yb) ∈ spn sd n P f x b ∧ pick (spl n P k [x]) = some y ∧ y < n + k ∧ okBd k yb) ∧ (∀ y yb, (y, yb) ∈ spn sd n P f x b → y < n + k → okBd k yb → pick (spl n P k [x]) = some y)
  | 0, x, b, hf, hx, hb => by
    have hx0 : x = 0 := by omega
    subst hx0
    by_cases h : 0 < n + k
    · have e : spl n P k [0] = [0] := splK_low (by simpa using h) _
      rw [e, he.one]
      exact ⟨⟨0, b, by simp [spn], rfl, h, hb⟩, fun y yb hy _ _ => by
        have : (y, yb) = (0, b) := by simpa [spn] using hy
        cases this; rfl⟩
    · exfalso
      have := hw.lt 0 (by omega)
      omega
  | f + 1, x, b, hf, hx, hb => by
    by_cases h : x < n + k
    · have e : spl n P k [x] = [x] := splK_low (by simpa using h) _
      rw [e, he.one]
      refine ⟨⟨x, b, by simp [spn], rfl, h, hb⟩, fun y yb hy h1 h2 => ?_⟩
      unfold spn at hy
      rcases List.mem_cons.mp hy with hy | hy
      · cases hy; rfl
      · split at hy
        · simp at hy
        · exfalso
          have hr : x - n < P.length := by omega
          have hg : P.getD (x - n) (0, 0) = P[x - n] := by rw [List.getD_eq_getElem?_getD, List.getElem?_eq_getElem hr]; rfl
          have := hs (x - n) hr
          rw [hg] at hy
          obtain ⟨q, e1, e2⟩ := spn_bd hs f _ (x - n) (by omega) (by omega) _ hy
          have e1 : yb = some q := e1
          rw [e1] at h2
          have h2 : k ≤ q := h2
          omega
    · have hr : x - n < P.length := by omega
      have hg : P.getD (x - n) (0, 0) = P[x - n] := by rw [List.getD_eq_getElem?_getD, List.getElem?_eq_getElem hr]; rfl
      have hlt := hs (x - n) hr
      have e : pick (spl n P k [x]) = pick (spl n P k [sd (P.getD (x - n) (0, 0))]) := by
        rw [spl_two hw (by omega) hx]
        exact he.part (fun z => spl n P k [z]) _ (fun z => spl_ne n P k z)
      have ih := spn_end he hw hs hk f (sd (P.getD (x - n) (0, 0))) (some (x - n)) (by rw [hg]; omega) (by rw [hg]; omega) (show k ≤ x - n by omega)
      rw [e]
      have es : spn sd n P (f + 1) x b = (x, b) :: spn sd n P f (sd (P.getD (x - n) (0, 0))) (some (x - n)) := by
        show (x, b) :: (if x < n then [] else _) = _
        rw [if_neg (by omega)]
      rw [es]
      obtain ⟨⟨y, yb, h1, h2, h3, h4⟩, hu⟩ := ih
      refine ⟨⟨y, yb, List.mem_cons_of_mem _ h1, h2, h3, h4⟩, fun y yb hy h1 h2 => ?_⟩
      rcases List.mem_cons.mp hy with hy | hy
      · cases hy; exact absurd h1 h
      · exact hu y yb hy h1 h2
abbrev rsp (n : Nat) (P : List Pr) (x : Nat) : List Sp1 := spn Prod.snd n P x x none
abbrev lsp (n : Nat) (P : List Pr) (x : Nat) : List Sp1 := spn Prod.fst n P x x none
theorem crossAt_spn {n : Nat} {P : List Pr} (hw : Wf n P) {u v : List Nat} {a b : Nat} (hul : ∀ x ∈ u, x < n) (hvl : ∀ x ∈ v, x < n) (hu : stg n P u = [a]) (hv : stg n P v = [b]) (ha : a < n + P.length) (hb : b < n + P.length) {r : Nat} :
    crossAt n P u v r ↔ ∃ x xb y yb, (x, xb) ∈ rsp n P a ∧ (y, yb) ∈ lsp n P b ∧ P[r]? = some (x, y) ∧ okBd (r + 1) xb ∧ okBd r yb := by
  have hs2 : ∀ r (h : r < P.length), P[r].2 < n + r := fun r h => (hw.lt r h).2
  have hs1 : ∀ r (h : r < P.length), P[r].1 < n + r := fun r h => (hw.lt r h).1
  have eu : ∀ k, k ≤ P.length → stN n P k u = spl n P k [a] := fun k hk => by rw [← hu]; exact (spl_stg hw hul hk).symm
  have ev : ∀ k, k ≤ P.length → stN n P k v = spl n P k [b] := fun k hk => by rw [← hv]; exact (spl_stg hw hvl hk).symm
  have pe : ∀ (h : r < P.length), (pend P[r].1 P[r].2 (stN n P r u) = true ↔ (stN n P (r + 1) u).getLast? = (stN n P r u).getLast?) := fun h => by
    rw [stN_succ h]
    refine pend_last (fun hc => ?_) ?_
    · have := (stage_inv hw hul r (by omega)).2.1 _ hc
      omega
    · rw [eu r (by omega)]; exact spl_ne n P r a
  constructor
  · rintro ⟨h, h1, h2, h3⟩
    have h1 := (pe h).mp h1
    rw [h2, eu (r + 1) h] at h1
    rw [ev r (by omega)] at h3
    obtain ⟨⟨x, xb, g1, g2, g3, g4⟩, _⟩ := spn_end endR hw hs2 (k := r + 1) h a a none (Nat.le_refl _) ha trivial
    obtain ⟨⟨y, yb, g5, g6, g7, g8⟩, _⟩ := spn_end endL hw hs1 (k := r) (by omega) b b none (Nat.le_refl _) hb trivial
    rw [h1] at g2
    rw [h3] at g6
    refine ⟨x, xb, y, yb, g1, g5, ?_, g4, g8⟩
    rw [List.getElem?_eq_getElem h, ← Option.some.inj g2, ← Option.some.inj g6]
  · rintro ⟨x, xb, y, yb, g1, g2, g3, g4, g5⟩
    obtain ⟨h, e⟩ := List.getElem?_eq_some_iff.mp g3
    have hlt := hw.lt r h
    rw [e] at hlt
    have g4' : okBd r xb := by
      cases xb with
      | none => trivial
      | some q => have : r + 1 ≤ q := g4; show r ≤ q; omega
    have k1 := (spn_end endR hw hs2 (k := r) (by omega) a a none (Nat.le_refl _) ha trivial).2 x xb g1 hlt.1 g4'
    have k2 := (spn_end endR hw hs2 (k := r + 1) h a a none (Nat.le_refl _) ha trivial).2 x xb g1 (by have := hlt.1; show x < n + (r + 1); omega) g4
    have k3 := (spn_end endL hw hs1 (k := r) (by omega) b b none (Nat.le_refl _) hb trivial).2 y yb g2 hlt.2 g5
    refine ⟨h, ?_, ?_, ?_⟩
    · rw [pe h, eu (r + 1) h, eu r (by omega), k1, k2]
    · rw [eu r (by omega), k1, e]
    · rw [ev r (by omega), k3, e]
/-! ### the least of the ranks -/
def minS (b : Option Nat) (r : Nat) : Option Nat := match b with
  | none => some r
  | some q => if r < q then some r else some q
def minL (L : List Nat) : Option Nat := L.foldl minS none
theorem minL_snoc (L : List Nat) (r : Nat) : minL (L ++ [r]) = minS (minL L) r := by simp [minL]
theorem minL_ok (L : List Nat) : (∀ r, minL L = some r → r ∈ L ∧ ∀ q ∈ L, r ≤ q) ∧ (minL L = none → L = []) := by
  have key : ∀ (m : Nat) (L : List Nat), L.length = m → (∀ r, minL L = some r → r ∈ L ∧ ∀ q ∈ L, r ≤ q) ∧ (minL L = none → L = []) := by
    intro m
    induction m with
    | zero =>
      intro L hL
      have : L = [] := List.eq_nil_of_length_eq_zero hL
      subst this
      exact ⟨fun r h => by simp [minL] at h, fun _ => rfl⟩
    | succ m ih =>
      intro L hL
      obtain ⟨M, z, rfl⟩ : ∃ M z, L = M ++ [z] := by
        have hne : L ≠ [] := fun e => by rw [e] at hL; simp at hL
        exact ⟨L.dropLast, L.getLast hne, (List.dropLast_concat_getLast hne).symm⟩
      obtain ⟨i1, i2⟩ := ih M (by simpa using hL)
      rw [minL_snoc]
      cases q : minL M with
      | none =>
        have := i2 q
        subst this
        exact ⟨fun r h => by cases h; simp, fun h => by cases h⟩
      | some w =>
        obtain ⟨w1, w2⟩ := i1 w q
        refine ⟨fun r h => ?_, fun h => ?_⟩
        · unfold minS at h
          dsimp only at h
          split at h
          · cases h
            refine ⟨by simp, fun q hq => ?_⟩
            rcases List.mem_append.mp hq with hq | hq
            · have := w2 q hq; omega
            · have : q = z := by simpa using hq
              omega
          · cases h
            refine ⟨List.mem_append_left _ w1, fun q hq => ?_⟩
            rcases List.mem_append.mp hq with hq | hq
            · exact w2 q hq
            · have : q = z := by simpa using hq
              omega
        · unfold minS at h
          dsimp only at h
          split at h <;> cases h
  exact key L.length L rfl
/-- the rank that two entries of the spines tell -/
def ltB (r : Nat) : Option Nat → Bool
  | none => true
  | some w => decide (r < w)
def leB (r : Nat) : Option Nat → Bool
  | none => true
  | some w => decide (r ≤ w)
theorem ltB_ok {r : Nat} {b : Option Nat} : ltB r b = true ↔ okBd (r + 1) b := by
  cases b with
  | none => simp [ltB, okBd]
  | some w => simp [ltB, okBd]; omega
theorem leB_ok {r : Nat} {b : Option Nat} : leB r b = true ↔ okBd r b := by
  cases b with
  | none => simp [leB, okBd]
  | some w => simp [leB, okBd]
def candS (P : List Pr) (p q : Sp1) : Option Nat :=
  if (p.1, q.1) ∈ P ∧ ltB (P.idxOf (p.1, q.1)) p.2 = true ∧ leB (P.idxOf (p.1, q.1)) q.2 = true then some (P.idxOf (p.1, q.1)) else none
def crossL (P : List Pr) (L M : List Sp1) : List Nat := L.flatMap fun p => M.filterMap (candS P p)
def crossF (n : Nat) (P : List Pr) (a b : Nat) : Option Nat := minL (crossL P (rsp n P a) (lsp n P b))
theorem firstX_crossF {n : Nat} {P : List Pr} (hw : Wf n P) {u v : List Nat} {a b : Nat} (hul : ∀ x ∈ u, x < n) (hvl : ∀ x ∈ v, x < n) (hu : stg n P u = [a]) (hv : stg n P v = [b]) (ha : a < n + P.length) (hb : b < n + P.length) : FirstX n P u v (crossF n P a b) := by
  have hm : ∀ r, r ∈ crossL P (rsp n P a) (lsp n P b) ↔ crossAt n P u v r := by
    intro r
    rw [crossAt_spn hw hul hvl hu hv ha hb]
    unfold crossL
    constructor
    · intro h
      obtain ⟨p, hp, h⟩ := List.mem_flatMap.mp h
      obtain ⟨q, hq, h⟩ := List.mem_filterMap.mp h
      unfold candS at h
      split at h
      · rename_i hc
        have hr : P.idxOf (p.1, q.1) = r := Option.some.inj h
        rw [hr] at hc
        have hlt := List.idxOf_lt_length_of_mem hc.1
        refine ⟨p.1, p.2, q.1, q.2, hp, hq, ?_, ltB_ok.mp hc.2.1, leB_ok.mp hc.2.2⟩
        rw [← hr, List.getElem?_eq_getElem hlt, List.getElem_idxOf hlt]
      · cases h
    · rintro ⟨x, xb, y, yb, h1, h2, h3, h4, h5⟩
      obtain ⟨hr, e⟩ := List.getElem?_eq_some_iff.mp h3
      have hi : P.idxOf (x, y) = r := by
        rw [← e]; exact hw.nd.idxOf_getElem r hr
      refine List.mem_flatMap.mpr ⟨(x, xb), h1, List.mem_filterMap.mpr ⟨(y, yb), h2, ?_⟩⟩
      unfold candS
      rw [hi, if_pos ⟨by rw [← e]; exact List.getElem_mem hr, ltB_ok.mpr h4, leB_ok.mpr h5⟩]
  obtain ⟨h1, h2⟩ := minL_ok (crossL P (rsp n P a) (lsp n P b))
  unfold crossF
  cases q : minL (crossL P (rsp n P a) (lsp n P b)) with
  | none =>
    have := h2 q
    intro r hr
    have := (hm r).mpr hr
    rw [h2 q] at this
    simp at this
  | some r =>
    obtain ⟨g1, g2⟩ := h1 r q
    exact ⟨(hm r).mp g1, fun w hw' hc => by have := g2 w ((hm w).mpr hc); omega⟩
end DL
set_option Elab.async false
set_option linter.all false
set_option maxRecDepth 100000
set_option maxHeartbeats 4000000
namespace DL
open PySem PySem.Spec PyProof.Rows
open L2 hiding Takes passAt takes_of ps_raise PMk ps_try_as
open L2N (Takes passAt takes_of ps_raise PMk ps_try_as)
/-! ### many pieces side by side -/
theorem pend_app {a b : Nat} : ∀ (u w : List Nat), w ≠ [] → ¬ (pend a b u = true ∧ u.getLast? = some a ∧ w.head? = some b) → pend a b (u ++ w) = pend a b w
  | [], _, _, _ => rfl
  | [x], w, hw, h => by
    cases w with
    | nil => exact absurd rfl hw
    | cons y w =>
      show (if x = a ∧ y = b then pend a b w else pend a b (y :: w)) = _
      rw [if_neg fun z => h ⟨rfl, by rw [z.1]; rfl, by rw [z.2]; rfl⟩]
  | x :: y :: r, w, hw, h => by
    have e2 : pend a b (x :: y :: r) = if x = a ∧ y = b then pend a b r else pend a b (y :: r) := rfl
    show (if x = a ∧ y = b then pend a b (r ++ w) else pend a b (y :: r ++ w)) = _
    rw [e2] at h
    by_cases hh : x = a ∧ y = b
    · rw [if_pos hh] at h ⊢
      by_cases hr : r = []
      · subst hr; rfl
      · exact pend_app r w hw fun z => h ⟨z.1, by rw [glast_cons (by simp), glast_cons hr]; exact z.2.1, z.2.2⟩
    · rw [if_neg hh] at h ⊢
      exact pend_app (y :: r) w hw fun z => h ⟨z.1, by rw [glast_cons (x := x) (r := y :: r) (by simp)]; exact z.2.1, z.2.2⟩
/-- what stands further left does not matter -/
theorem crossAt_left {n : Nat} {P : List Pr} {U u v : List Nat} (hu : u ≠ []) (h : ∀ r, ¬ crossAt n P U u r) (r : Nat) : crossAt n P (U ++ u) v r ↔ crossAt n P u v r := by
  have key : ∀ hr : r < P.length, stN n P r (U ++ u) = stN n P r U ++ stN n P r u := fun hr => stN_app r (by omega) fun q _ => h q
  have hne : ∀ hr : r < P.length, stN n P r u ≠ [] := fun hr => stN_ne hu r (by omega)
  have hp : ∀ hr : r < P.length, pend P[r].1 P[r].2 (stN n P r U ++ stN n P r u) = pend P[r].1 P[r].2 (stN n P r u) := fun hr => pend_app _ _ (hne hr) fun z => h r ⟨hr, z⟩
  have hl : ∀ hr : r < P.length, (stN n P r U ++ stN n P r u).getLast? = (stN n P r u).getLast? := fun hr => by
    rw [List.getLast?_append]
    cases q : (stN n P r u).getLast? with
    | none => exact absurd (List.getLast?_eq_none_iff.mp q) (hne hr)
    | some x => rfl
  constructor
  · rintro ⟨hr, h1, h2, h3⟩
    rw [key hr, hp hr] at h1
    rw [key hr, hl hr] at h2
    exact ⟨hr, h1, h2, h3⟩
  · rintro ⟨hr, h1, h2, h3⟩
    exact ⟨hr, by rw [key hr, hp hr]; exact h1, by rw [key hr, hl hr]; exact h2, h3⟩
/-- f tells the letters of a piece -/
structure Ltr (n : Nat) (P : List Pr) (f : Nat → List Nat) : Prop where
  lt : ∀ x, x < n + P.length → ∀ c ∈ f x, c < n
  one : ∀ x, x < n + P.length → stg n P (f x) = [x]
theorem Ltr.ne {n : Nat} {P : List Pr} {f : Nat → List Nat} (h : Ltr n P f) {x : Nat} (hx : x < n + P.length) : f x ≠ [] := fun e => by
  have := h.one x hx
  rw [e] at this
  have hl := stg_len n [] P
  rw [this] at hl
  simp at hl
theorem Ltr.stN {n : Nat} {P : List Pr} {f : Nat → List Nat} (h : Ltr n P f) {x : Nat} (hx : x < n + P.length) : stN n P P.length (f x) = [x] := by
  unfold DL.stN; rw [List.take_length]; exact h.one x hx
def catF (f : Nat → List Nat) (row : List Nat) : List Nat := row.flatMap f
theorem catF_snoc (f : Nat → List Nat) (row : List Nat) (x : Nat) : catF f (row ++ [x]) = catF f row ++ f x := by simp [catF]
theorem cross_iff {n : Nat} {P : List Pr} {f : Nat → List Nat} (hw : Wf n P) (hf : Ltr n P f) {x y : Nat} (hx : x < n + P.length) (hy : y < n + P.length) : crossF n P x y = none ↔ ∀ r, ¬ crossAt n P (f x) (f y) r := by
  have hfx := firstX_crossF hw (hf.lt x hx) (hf.lt y hy) (hf.one x hx) (hf.one y hy) hx hy
  constructor
  · intro h
    rw [h] at hfx
    exact hfx
  · intro h
    exact hfx.uniq (y := none) h
/-- all neighbors are side by side -/
def sideR (n : Nat) (P : List Pr) (row : List Nat) : Prop := ∀ q ∈ adj row, crossF n P q.1 q.2 = none
theorem adj_snoc : ∀ (row : List Nat) (x y : Nat), adj (row ++ [x] ++ [y]) = adj (row ++ [x]) ++ [(x, y)]
  | [], x, y => rfl
  | [z], x, y => rfl
  | z :: w :: r, x, y => by
    have := adj_snoc (w :: r) x y
    show (z, w) :: adj (w :: r ++ [x] ++ [y]) = (z, w) :: adj (w :: r ++ [x]) ++ [(x, y)]
    rw [this]; rfl
theorem row_iff {n : Nat} {P : List Pr} {f : Nat → List Nat} {W : Nat → Nat} (hw : Wf n P) (hf : Ltr n P f) (hW : Wgt n P W) : ∀ (m : Nat) (row : List Nat), row.length = m → (∀ x ∈ row, x < n + P.length) → (stN n P P.length (catF f row) = row ↔ sideR n P row)
  | 0, row, hm, _ => by
    have : row = [] := List.eq_nil_of_length_eq_zero hm
    subst this
    refine ⟨fun _ q hq => by simp [adj] at hq, fun _ => ?_⟩
    show stN n P P.length [] = []
    have := stg_len n [] (P.take P.length)
    exact List.eq_nil_of_length_eq_zero (by unfold stN; simpa using this)
  | m + 1, row, hm, hx => by
    obtain ⟨R, y, rfl⟩ : ∃ R y, row = R ++ [y] := by
      have hne : row ≠ [] := fun e => by rw [e] at hm; simp at hm
      exact ⟨row.dropLast, row.getLast hne, (List.dropLast_concat_getLast hne).symm⟩
    have hy := hx y (by simp)
    have hR : ∀ x ∈ R, x < n + P.length := fun x h => hx x (List.mem_append_left _ h)
    have ih := row_iff hw hf hW m R (by simpa using hm) hR
    have ey := hf.stN hy
    rw [catF_snoc]
    by_cases hR0 : R = []
    · subst hR0
      refine ⟨fun _ q hq => by simp [adj] at hq, fun _ => ?_⟩
      show stN n P P.length (f y) = [y]
      exact ey
    obtain ⟨Q, x, rfl⟩ : ∃ Q x, R = Q ++ [x] := ⟨R.dropLast, R.getLast hR0, (List.dropLast_concat_getLast hR0).symm⟩
    have hxx := hR x (by simp)
    have hQ : ∀ z ∈ Q, z < n + P.length := fun z h => hR z (List.mem_append_left _ h)
    -- no crossing inside R: then the place before y is told by x alone
    have hin : sideR n P (Q ++ [x]) → ∀ r, ¬ crossAt n P (catF f Q) (f x) r := fun hs => by
      have hst := ih.mpr hs
      rw [catF_snoc] at hst
      intro r hc
      obtain ⟨q, hq1, hq2⟩ : ∃ q, crossAt n P (catF f Q) (f x) q ∧ ∀ z, z < q → ¬ crossAt n P (catF f Q) (f x) z := by
        induction r using Nat.strongRecOn with
        | ind r ihr =>
          by_cases h : ∃ z, z < r ∧ crossAt n P (catF f Q) (f x) z
          · obtain ⟨z, h1, h2⟩ := h
            exact ihr z h1 h2
          · exact ⟨r, hc, fun z hz hcz => h ⟨z, hz, hcz⟩⟩
      have hno := mark_no hw hW (Nat.le_refl P.length) hq1.1 hq2 hq1
      rw [hst] at hno
      refine hno ⟨Q, [x], rfl, ?_⟩
      have h1 := sumW_stN hW (row := catF f Q ++ f x) P.length (Nat.le_refl _)
      rw [hst, sumW_app, sumW_app] at h1
      have h2 := sumW_stN hW (row := f x) P.length (Nat.le_refl _)
      rw [hf.stN hxx] at h2
      omega
    have hcx : (∀ r, ¬ crossAt n P (catF f Q) (f x) r) → ∀ r, crossAt n P (catF f (Q ++ [x])) (f y) r ↔ crossAt n P (f x) (f y) r := fun h r => by
      rw [catF_snoc]; exact crossAt_left (hf.ne hxx) h r
    have hside : sideR n P (Q ++ [x] ++ [y]) ↔ sideR n P (Q ++ [x]) ∧ crossF n P x y = none := by
      unfold sideR
      rw [adj_snoc]
      constructor
      · exact fun h => ⟨fun q hq => h q (List.mem_append_left _ hq), h (x, y) (by simp)⟩
      · rintro ⟨h1, h2⟩ q hq
        rcases List.mem_append.mp hq with hq | hq
        · exact h1 q hq
        · have : q = (x, y) := by simpa using hq
          subst this; exact h2
    rw [hside]
    constructor
    · intro hst
      have hno : ∀ r, ¬ crossAt n P (catF f (Q ++ [x])) (f y) r := by
        intro r hc
        obtain ⟨q, hq1, hq2⟩ : ∃ q, crossAt n P (catF f (Q ++ [x])) (f y) q ∧ ∀ z, z < q → ¬ crossAt n P (catF f (Q ++ [x])) (f y) z := by
          induction r using Nat.strongRecOn with
          | ind r ihr =>
            by_cases h : ∃ z, z < r ∧ crossAt n P (catF f (Q ++ [x])) (f y) z
            · obtain ⟨z, h1, h2⟩ := h
              exact ihr z h1 h2
            · exact ⟨r, hc, fun z hz hcz => h ⟨z, hz, hcz⟩⟩
        have hnm := mark_no hw hW (Nat.le_refl P.length) hq1.1 hq2 hq1
        rw [hst] at hnm
        refine hnm ⟨Q ++ [x], [y], rfl, ?_⟩
        have h1 := sumW_stN hW (row := catF f (Q ++ [x]) ++ f y) P.length (Nat.le_refl _)
        rw [hst, sumW_app W (Q ++ [x]) [y], sumW_app W (catF f (Q ++ [x])) (f y)] at h1
        have h2 := sumW_stN hW (row := f y) P.length (Nat.le_refl _)
        rw [ey] at h2
        omega
      have happ := stN_app P.length (Nat.le_refl _) (fun r _ => hno r)
      rw [happ, ey] at hst
      have hst := List.append_cancel_right hst
      have hs := ih.mp hst
      refine ⟨hs, (cross_iff hw hf hxx hy).mpr fun r hc => hno r ?_⟩
      exact (hcx (hin hs) r).mpr hc
    · rintro ⟨hs, hxy⟩
      have hno : ∀ r, ¬ crossAt n P (catF f (Q ++ [x])) (f y) r := fun r hc => (cross_iff hw hf hxx hy).mp hxy r ((hcx (hin hs) r).mp hc)
      rw [stN_app P.length (Nat.le_refl _) (fun r _ => hno r), ih.mpr hs, ey]
end DL
set_option Elab.async false
set_option linter.all false
set_option maxRecDepth 100000
set_option maxHeartbeats 4000000
namespace DL
open PySem PySem.Spec PyProof.Rows
open L2 hiding Takes passAt takes_of ps_raise PMk ps_try_as
open L2N (Takes passAt takes_of ps_raise PMk ps_try_as)
/-- proper by the law's own stages -/
def propS (l : List Nat) (ts : List (List Nat)) (P : List Pr) (p : Pr) : Prop :=
  p.1 < ts.length ∧ p.2 < ts.length ∧ (ts.getD p.1 [] ++ ts.getD p.2 []).length ≤ 40 ∧ stg l.length P (rowL l (ts.getD p.1 [] ++ ts.getD p.2 [])) = [p.1, p.2]
instance (l : List Nat) (ts : List (List Nat)) (P : List Pr) (p : Pr) : Decidable (propS l ts P p) := by unfold propS; exact inferInstance
/-- what the law draws: each pair proper by its own stages -/
def GoodS (l : List Nat) (P : List Pr) : Prop := ∀ r (h : r < P.length), propS l (txts l (P.take r)) (P.take r) P[r]
theorem GoodS.nil (l : List Nat) : GoodS l [] := fun r h => by simp at h
end DL
set_option Elab.async false
set_option linter.all false
set_option maxRecDepth 100000
set_option maxHeartbeats 4000000
namespace DL
open PySem PySem.Spec PyProof.Rows
open L2 hiding Takes passAt takes_of ps_raise PMk ps_try_as
open L2N (Takes passAt takes_of ps_raise PMk ps_try_as)
/-! ### what the law draws is what Joins takes -/
theorem rowL_lt {l t : List Nat} (h : ∀ c ∈ t, c ∈ l) : ∀ x ∈ rowL l t, x < l.length := fun x hx => by
  obtain ⟨c, hc, rfl⟩ := List.mem_map.mp hx
  exact List.idxOf_lt_length_of_mem (h c hc)
theorem getD_mem {l : List Nat} {P : List Pr} (i : Nat) : ∀ c ∈ (txts l P).getD i [], c ∈ l := fun c hc => by
  rw [List.getD_eq_getElem?_getD] at hc
  cases q : (txts l P)[i]? with
  | none => rw [q] at hc; simp at hc
  | some t => rw [q] at hc; exact txts_mem t (List.mem_of_getElem? q) c hc
theorem GoodS.take {l : List Nat} {P : List Pr} (h : GoodS l P) (r : Nat) : GoodS l (P.take r) := fun j hj => by
  rw [List.length_take] at hj
  have := h j (by omega)
  rw [List.getElem_take, List.take_take, Nat.min_eq_left (by omega)]
  exact this
theorem good_wf {l : List Nat} (P : List Pr) : GoodS l P → Wf l.length P := by
  have key : ∀ k, ∀ P : List Pr, P.length = k → GoodS l P → Wf l.length P := by
    intro k
    induction k with
    | zero =>
      intro P hk _
      rw [List.eq_nil_of_length_eq_zero hk]
      exact ⟨List.nodup_nil, fun r h => by simp at h⟩
    | succ k ih =>
      intro P hk hg
      have hkl : k < P.length := by omega
      have w := ih (P.take k) (by rw [List.length_take]; omega) (hg.take k)
      have hp := hg k hkl
      have hml := txts_len l (P.take k)
      have e : P = P.take k ++ [P[k]] := by rw [← take_snoc hkl, List.take_of_length_le (by omega)]
      have hmem : ∀ c ∈ (txts l (P.take k)).getD P[k].1 [] ++ (txts l (P.take k)).getD P[k].2 [], c ∈ l := fun c hc => by
        rcases List.mem_append.mp hc with hc | hc
        · exact getD_mem _ c hc
        · exact getD_mem _ c hc
      have hst := (stage_inv w (rowL_lt hmem) (P.take k).length (Nat.le_refl _)).1
      rw [List.take_length, hp.2.2.2] at hst
      have hnew : P[k] ∉ P.take k := hst P[k] (by simp [adj])
      refine ⟨?_, fun r hr => ?_⟩
      · rw [e, List.nodup_append]
        refine ⟨w.nd, by simp, fun a ha b hb z => hnew ?_⟩
        have hb : b = P[k] := by simpa using hb
        rw [← hb, ← z]; exact ha
      · have := hg r hr
        have h1 := this.1
        have h2 := this.2.1
        rw [txts_len, List.length_take] at h1 h2
        omega
  exact fun hg => key P.length P rfl hg
/-- each piece's text is cut into the piece alone -/
theorem whole {l : List Nat} (hnd : l.Nodup) (P : List Pr) (hg : GoodS l P) : ∀ i t, (txts l P)[i]? = some t → stg l.length P (rowL l t) = [i] := by
  have key : ∀ r, r ≤ P.length → ∀ i t, (txts l (P.take r))[i]? = some t → stg l.length (P.take r) (rowL l t) = [i] := by
    intro r
    induction r with
    | zero =>
      intro _ i t ht
      have ht : (l.map fun c => [c])[i]? = some t := by simpa [txts] using ht
      rw [List.getElem?_map] at ht
      obtain ⟨c, hc, rfl⟩ := Option.map_eq_some_iff.mp ht
      obtain ⟨hi, rfl⟩ := List.getElem?_eq_some_iff.mp hc
      have hm := List.getElem_mem hi
      have h1 := List.idxOf_lt_length_of_mem hm
      have h2 : l[l.idxOf l[i]] = l[i] := List.getElem_idxOf h1
      have h3 : l.idxOf l[i] = i := by
        rcases Nat.lt_trichotomy (l.idxOf l[i]) i with q | q | q
        · exact absurd h2 ((List.pairwise_iff_getElem.mp (List.nodup_iff_pairwise_ne.mp hnd)) _ _ h1 hi q)
        · exact q
        · exact absurd h2.symm ((List.pairwise_iff_getElem.mp (List.nodup_iff_pairwise_ne.mp hnd)) _ _ hi h1 q)
      simp [stg, rowL, h3]
    | succ r ih =>
      intro hr i t ht
      have hr' : r < P.length := hr
      have hml := txts_len l (P.take r)
      have el : (P.take r).length = r := by rw [List.length_take]; omega
      rw [take_snoc hr', txts_snoc, addT] at ht
      rw [take_snoc hr', stg_snoc, el]
      by_cases hi : i < (txts l (P.take r)).length
      · rw [List.getElem?_append_left hi] at ht
        rw [ih (Nat.le_of_lt hr') i t ht]
        rfl
      · rw [List.getElem?_append_right (by omega)] at ht
        have hi0 : i - (txts l (P.take r)).length = 0 := by
          rcases Nat.eq_zero_or_pos (i - (txts l (P.take r)).length) with q | q
          · exact q
          · rw [List.getElem?_eq_none (by simp; omega)] at ht; cases ht
        rw [hi0] at ht
        have ht : (txts l (P.take r)).getD P[r].1 [] ++ (txts l (P.take r)).getD P[r].2 [] = t := by simpa using ht
        rw [← ht, (hg r hr').2.2.2]
        show (if P[r].1 = P[r].1 ∧ P[r].2 = P[r].2 then (l.length + r) :: putT P[r].1 P[r].2 (l.length + r) [] else _) = _
        rw [if_pos ⟨rfl, rfl⟩]
        show [l.length + r] = [i]
        congr 1
        omega
  have := key P.length (Nat.le_refl _)
  rwa [List.take_length] at this
end DL
set_option Elab.async false
set_option linter.all false
set_option maxRecDepth 100000
set_option maxHeartbeats 4000000
namespace DL
open PySem PySem.Spec PyProof.Rows
open L2 hiding Takes passAt takes_of ps_raise PMk ps_try_as
open L2N (Takes passAt takes_of ps_raise PMk ps_try_as)
/-! ### the text of a cut is the text -/
def tx (ts : List (List Nat)) (row : List Nat) : List Nat := (row.map fun i => ts.getD i []).flatten
theorem tx_put {ts : List (List Nat)} {a b c : Nat} (h : ts.getD c [] = ts.getD a [] ++ ts.getD b []) : ∀ row : List Nat, tx ts (putT a b c row) = tx ts row
  | [] => rfl
  | [_] => rfl
  | x :: y :: r => by
    unfold putT
    split
    · rename_i hc
      have ih := tx_put h r
      unfold tx at ih ⊢
      rw [List.map_cons, List.flatten_cons, ih, h, hc.1, hc.2]
      simp
    · have ih := tx_put h (y :: r)
      unfold tx at ih ⊢
      rw [List.map_cons, List.flatten_cons, ih]
      simp
theorem txts_at {l : List Nat} {P : List Pr} {r : Nat} (hr : r < P.length) (hw : Wf l.length P) : (txts l P).getD (l.length + r) [] = (txts l P).getD P[r].1 [] ++ (txts l P).getD P[r].2 [] := by
  have key : ∀ k, r < k → (hk : k ≤ P.length) → (txts l (P.take k)).getD (l.length + r) [] = (txts l (P.take k)).getD P[r].1 [] ++ (txts l (P.take k)).getD P[r].2 [] := by
    intro k
    induction k with
    | zero => omega
    | succ k ih =>
      intro hrk hk
      have hk' : k < P.length := hk
      have el : (txts l (P.take k)).length = l.length + k := by rw [txts_len, List.length_take]; omega
      have hlt := hw.lt r hr
      rw [take_snoc hk', txts_snoc]
      have g : ∀ i, i < l.length + k → (addT (txts l (P.take k)) P[k]).getD i [] = (txts l (P.take k)).getD i [] := fun i hi => by
        unfold addT
        rw [List.getD_eq_getElem?_getD, List.getElem?_append_left (by omega), List.getD_eq_getElem?_getD]
      by_cases e : r = k
      · subst e
        rw [g _ hlt.1, g _ hlt.2]
        unfold addT
        rw [List.getD_eq_getElem?_getD, List.getElem?_append_right (by omega), el]
        simp
      · rw [g _ (by omega), g _ (by omega), g _ (by omega)]
        exact ih (by omega) (by omega)
  have := key P.length hr (Nat.le_refl _)
  rwa [List.take_length] at this
theorem tx_letters {l t : List Nat} {P : List Pr} (h : ∀ c ∈ t, c ∈ l) : tx (txts l P) (rowL l t) = t := by
  obtain ⟨u, hu, _⟩ := txts_pre l P
  unfold tx rowL
  rw [List.map_map]
  induction t with
  | nil => rfl
  | cons c t ih =>
    have hc := h c List.mem_cons_self
    have h1 := List.idxOf_lt_length_of_mem hc
    have e : (txts l P).getD (l.idxOf c) [] = [c] := by
      rw [hu, List.getD_eq_getElem?_getD, List.getElem?_append_left (by simpa using h1), List.getElem?_map, List.getElem?_eq_getElem h1, List.getElem_idxOf h1]
      rfl
    rw [List.map_cons, List.flatten_cons, ih (fun c hc => h c (List.mem_cons_of_mem _ hc))]
    show (txts l P).getD (l.idxOf c) [] ++ t = _
    rw [e]; rfl
theorem tx_stg {l : List Nat} {P : List Pr} (hw : Wf l.length P) (row : List Nat) : tx (txts l P) (stg l.length P row) = tx (txts l P) row := by
  have key : ∀ k, k ≤ P.length → tx (txts l P) (stg l.length (P.take k) row) = tx (txts l P) row := by
    intro k
    induction k with
    | zero => intro _; rfl
    | succ k ih =>
      intro hk
      have hk' : k < P.length := hk
      have el : (P.take k).length = k := by rw [List.length_take]; omega
      rw [take_snoc hk', stg_snoc, el, tx_put (txts_at hk' hw), ih (by omega)]
  have := key P.length (Nat.le_refl _)
  rwa [List.take_length] at this
end DL
set_option Elab.async false
set_option linter.all false
set_option maxRecDepth 100000
set_option maxHeartbeats 4000000
namespace DL
open PySem PySem.Spec PyProof.Rows
open L2 hiding Takes passAt takes_of ps_raise PMk ps_try_as
open L2N (Takes passAt takes_of ps_raise PMk ps_try_as)
theorem txts_pos {l : List Nat} {P : List Pr} (hw : Wf l.length P) : ∀ t ∈ txts l P, 1 ≤ t.length := by
  have key : ∀ k, k ≤ P.length → ∀ t ∈ txts l (P.take k), 1 ≤ t.length := by
    intro k
    induction k with
    | zero =>
      intro _ t ht
      simp [txts] at ht
      obtain ⟨c, _, rfl⟩ := ht
      simp
    | succ k ih =>
      intro hk t ht
      have hk' : k < P.length := hk
      have el : (txts l (P.take k)).length = l.length + k := by rw [txts_len, List.length_take]; omega
      have hlt := hw.lt k hk'
      rw [take_snoc hk', txts_snoc, addT] at ht
      rcases List.mem_append.mp ht with ht | ht
      · exact ih (by omega) t ht
      · have ht : t = (txts l (P.take k)).getD P[k].1 [] ++ (txts l (P.take k)).getD P[k].2 [] := by simpa using ht
        have := ih (by omega) ((txts l (P.take k)).getD P[k].1 []) (by rw [List.getD_eq_getElem?_getD, List.getElem?_eq_getElem (by omega)]; exact List.getElem_mem _)
        rw [ht, List.length_append]; omega
  have := key P.length (Nat.le_refl _)
  rwa [List.take_length] at this
def wOf (ts : List (List Nat)) (x : Nat) : Nat := (ts.getD x []).length
theorem rowL_app (l s t : List Nat) : rowL l (s ++ t) = rowL l s ++ rowL l t := by simp [rowL]
theorem wgt_txts {l : List Nat} {P : List Pr} (hw : Wf l.length P) : Wgt l.length P (wOf (txts l P)) := by
  refine ⟨fun r hr => ?_, fun x hx => ?_⟩
  · unfold wOf
    rw [txts_at hr hw, List.length_append]
  · unfold wOf
    have hx : x < (txts l P).length := by rw [txts_len]; exact hx
    refine txts_pos hw _ ?_
    rw [List.getD_eq_getElem?_getD, List.getElem?_eq_getElem hx]
    exact List.getElem_mem hx
/-- the letters of the pieces -/
def ltrF (l : List Nat) (P : List Pr) (x : Nat) : List Nat := rowL l ((txts l P).getD x [])
theorem ltr_ok {l : List Nat} {P : List Pr} (hnd : l.Nodup) (hg : GoodS l P) : Ltr l.length P (ltrF l P) := by
  have htl := txts_len l P
  have key : ∀ x, x < l.length + P.length → (txts l P)[x]? = some ((txts l P).getD x []) := fun x hx => by rw [List.getD_eq_getElem?_getD, List.getElem?_eq_getElem (by omega)]; rfl
  exact ⟨fun x hx => rowL_lt (txts_mem _ (List.mem_of_getElem? (key x hx))), fun x hx => whole hnd P hg x _ (key x hx)⟩
theorem cat_tx (l : List Nat) (P : List Pr) : ∀ row : List Nat, catF (ltrF l P) row = rowL l (tx (txts l P) row)
  | [] => rfl
  | x :: r => by
    have ih := cat_tx l P r
    unfold catF at ih ⊢
    rw [List.flatMap_cons, ih]
    unfold ltrF tx
    rw [← rowL_app, List.map_cons, List.flatten_cons]
/-- a row is the cut of its text just if its pieces are side by side -/
theorem cut_iff {l : List Nat} {P : List Pr} (hnd : l.Nodup) (hg : GoodS l P) {row : List Nat} (hx : ∀ x ∈ row, x < l.length + P.length) : stg l.length P (rowL l (tx (txts l P) row)) = row ↔ sideR l.length P row := by
  have hw := good_wf P hg
  have := row_iff hw (ltr_ok hnd hg) (wgt_txts hw) row.length row rfl hx
  rw [cat_tx] at this
  unfold stN at this
  rw [List.take_length] at this
  exact this
end DL
set_option Elab.async false
set_option linter.all false
set_option maxRecDepth 100000
set_option maxHeartbeats 4000000
namespace DL
open PySem PySem.Spec PyProof.Rows
open L2 hiding Takes passAt takes_of ps_raise PMk ps_try_as
open L2N (Takes passAt takes_of ps_raise PMk ps_try_as)
theorem stg_lt {n : Nat} {P : List Pr} (w : Wf n P) {row : List Nat} (h : ∀ x ∈ row, x < n) : ∀ x ∈ stg n P row, x < n + P.length := by
  have := (stage_inv w h P.length (Nat.le_refl _)).2.1
  rwa [List.take_length] at this
/-! ### the joins of each two letters that follow one another, the last ones first -/
def dbl (n : Nat) : List Pr := (List.range (n - 1)).map fun z => (n - 2 - z, n - 1 - z)
end DL
set_option Elab.async false
set_option linter.all false
set_option maxRecDepth 100000
set_option maxHeartbeats 4000000
namespace DL
open PySem PySem.Spec PyProof.Rows
open L2 hiding Takes passAt takes_of ps_raise PMk ps_try_as
open L2N (Takes passAt takes_of ps_raise PMk ps_try_as)
/-! ### rows whose neighbors are side by side -/
theorem side_nil (n : Nat) (P : List Pr) : sideR n P [] := fun q hq => by simp [adj] at hq
theorem tx_app (ts : List (List Nat)) (u v : List Nat) : tx ts (u ++ v) = tx ts u ++ tx ts v := by simp [tx]
/-- the cut of a text: pieces that are side by side -/
theorem cut_side {l t : List Nat} {P : List Pr} (hnd : l.Nodup) (hg : GoodS l P) (ht : ∀ c ∈ t, c ∈ l) : (∀ x ∈ stg l.length P (rowL l t), x < l.length + P.length) ∧ sideR l.length P (stg l.length P (rowL l t)) ∧ tx (txts l P) (stg l.length P (rowL l t)) = t := by
  have hw := good_wf P hg
  have hrow := stg_lt hw (rowL_lt ht)
  have e : tx (txts l P) (stg l.length P (rowL l t)) = t := by rw [tx_stg hw, tx_letters ht]
  exact ⟨hrow, (cut_iff hnd hg hrow).mp (by rw [e]), e⟩
end DL
set_option Elab.async false
set_option linter.all false
set_option maxRecDepth 100000
set_option maxHeartbeats 4000000
namespace DL
open PySem PySem.Spec PyProof.Rows
open L2 hiding Takes passAt takes_of ps_raise PMk ps_try_as
open L2N (Takes passAt takes_of ps_raise PMk ps_try_as)
/-! ### the longest text -/
def LgO (l : List Nat) (P : List Pr) (lg : Nat) : Prop := (∀ t ∈ txts l P, t.length ≤ lg) ∧ lg ≤ 1000
theorem LgO.start (l : List Nat) : LgO l [] 1 := ⟨fun t ht => by
  simp [txts] at ht
  obtain ⟨c, _, rfl⟩ := ht
  exact Nat.le_refl _, by decide⟩
/-! ### the cut, its last piece -/
def cutr (l : List Nat) (P : List Pr) (t : List Nat) : List Nat := stg l.length P (rowL l t)
def tailF (l : List Nat) (P : List Pr) (t : List Nat) : Nat := (cutr l P t).getLast?.getD 0
section
variable {l : List Nat} {P : List Pr}
theorem cutr_ok (hnd : l.Nodup) (hg : GoodS l P) {t : List Nat} (ht : ∀ c ∈ t, c ∈ l) : (∀ x ∈ cutr l P t, x < l.length + P.length) ∧ sideR l.length P (cutr l P t) ∧ tx (txts l P) (cutr l P t) = t := cut_side hnd hg ht
theorem cutr_of (hnd : l.Nodup) (hg : GoodS l P) {row : List Nat} (hx : ∀ x ∈ row, x < l.length + P.length) (hs : sideR l.length P row) : cutr l P (tx (txts l P) row) = row := (cut_iff hnd hg hx).mpr hs
theorem cutr_nil (hnd : l.Nodup) (hg : GoodS l P) : cutr l P [] = [] := cutr_of hnd hg (row := []) (fun x h => by simp at h) (side_nil _ _)
/-! ### the tails of all beginnings -/
def tlsF (l : List Nat) (P : List Pr) (t : List Nat) : List Nat := (List.range t.length).map fun e => tailF l P (t.take (e + 1))
end
end DL
set_option Elab.async false
set_option linter.all false
set_option maxRecDepth 100000
set_option maxHeartbeats 4000000
namespace DL
open PySem PySem.Spec PyProof.Rows
open L2 hiding Takes passAt takes_of ps_raise PMk ps_try_as
open L2N (Takes passAt takes_of ps_raise PMk ps_try_as)
/-- one object goes along that holds no other -/
theorem passN {S : Sto} {k : Nat} {n : Node} (h : S[k]? = some n) (hr : ∀ f, n.ren f = n) (hl : n.live = true) (ho : n.okB 1 = true) : PassS [k] S [n] := by
  refine ⟨by simp, rfl, fun j k' hj => ?_, by simp [ho]⟩
  cases j with
  | zero => simp at hj; subst hj; exact ⟨_, rfl, hl, by rw [hr]; exact h⟩
  | succ j => simp at hj
theorem backN {S : Sto} {k : Nat} {n : Node} (hr : ∀ f, n.ren f = n) : backS [k] S [n] = S.set k n := by
  have e3 : ∀ (f : Nat → Nat) (X Y : Sto), upS f [] X Y = X := fun f X Y => by cases Y <;> rfl
  unfold backS
  show upS (rho [k] S.length) [] (S.set k (n.ren (rho [k] S.length))) [] ++ [].map (Node.ren (rho [k] S.length)) = _
  rw [hr, e3]
  simp
/-- two pieces asked before: side by side or not -/
def knN (n : Nat) (P K : List Pr) : Node := .dT (K.map kP) ((K.map fun p : Pr => D.bl (crossF n P p.1 p.2).isNone).map .val)
end DL
set_option Elab.async false
set_option linter.all false
set_option maxRecDepth 100000
set_option maxHeartbeats 4000000
namespace DL
open PySem PySem.Spec PyProof.Rows
open L2 hiding Takes passAt takes_of ps_raise PMk ps_try_as
open L2N (Takes passAt takes_of ps_raise PMk ps_try_as)
/-! ### borders of cuts -/
def Bd (l : List Nat) (P : List Pr) (t : List Nat) (b : Nat) : Prop := b ≤ t.length ∧ cutr l P (t.take b) <+: cutr l P t
section
variable {l : List Nat} {P : List Pr}
theorem mem_take {t : List Nat} (h : ∀ c ∈ t, c ∈ l) (n : Nat) : ∀ c ∈ t.take n, c ∈ l := fun c hc => h c (List.mem_of_mem_take hc)
theorem Bd_zero (hnd : l.Nodup) (hg : GoodS l P) (t : List Nat) : Bd l P t 0 := ⟨Nat.zero_le _, by rw [List.take_zero, cutr_nil hnd hg]; exact List.nil_prefix⟩
theorem Bd.pre (hnd : l.Nodup) (hg : GoodS l P) {t : List Nat} (ht : ∀ c ∈ t, c ∈ l) {b c : Nat} (hb : Bd l P t b) (hc : Bd l P t c) (h : b ≤ c) : cutr l P (t.take b) <+: cutr l P (t.take c) := by
  rcases List.prefix_or_prefix_of_prefix hb.2 hc.2 with z | z
  · exact z
  · obtain ⟨X, e⟩ := z
    have h1 := (cutr_ok hnd hg (mem_take ht b)).2.2
    have h2 := (cutr_ok hnd hg (mem_take ht c)).2.2
    rw [← e, tx_app, h2] at h1
    have h3 := congrArg List.length h1
    rw [List.length_append, List.length_take, List.length_take] at h3
    have := hb.1
    have := hc.1
    have : b = c := by omega
    rw [this]
    exact List.prefix_rfl
theorem Bd.take (hnd : l.Nodup) (hg : GoodS l P) {t : List Nat} (ht : ∀ c ∈ t, c ∈ l) {b c : Nat} (hb : Bd l P t b) (hc : Bd l P t c) (h : b ≤ c) : Bd l P (t.take c) b := by
  refine ⟨by rw [List.length_take]; exact Nat.le_min.mpr ⟨h, hb.1⟩, ?_⟩
  rw [List.take_take, Nat.min_eq_left h]
  exact hb.pre hnd hg ht hc h
theorem Bd.trans {t : List Nat} {b c : Nat} (hb : Bd l P (t.take c) b) (hc : Bd l P t c) : Bd l P t b := by
  have h1 := hb.1
  rw [List.length_take] at h1
  have h2 := hb.2
  rw [List.take_take, Nat.min_eq_left (by omega)] at h2
  exact ⟨by omega, h2.trans hc.2⟩
/-- the border ahead of the last piece -/
def aheadB (l : List Nat) (P : List Pr) (t : List Nat) : Nat := t.length - ((txts l P).getD (tailF l P t) []).length
/-! ### borders for good -/
def Sure (l : List Nat) (P : List Pr) (t : List Nat) (b : Nat) : Prop := b ≤ t.length ∧ ∀ m : List Nat, (∀ c ∈ m, c ∈ l) → Bd l P (t ++ m) b
theorem Sure.here {t : List Nat} {b : Nat} (h : Sure l P t b) : Bd l P t b := by
  have := h.2 [] (fun c hc => by simp at hc)
  rwa [List.append_nil] at this
theorem Sure.more {t u : List Nat} {b : Nat} (h : Sure l P t b) (hu : ∀ c ∈ u, c ∈ l) : Sure l P (t ++ u) b := ⟨by rw [List.length_append]; have := h.1; omega, fun m hm => by
  rw [List.append_assoc]
  exact h.2 (u ++ m) fun c hc => (List.mem_append.mp hc).elim (hu c) (hm c)⟩
theorem Sure.zero (hnd : l.Nodup) (hg : GoodS l P) (t : List Nat) : Sure l P t 0 := ⟨Nat.zero_le _, fun m _ => Bd_zero hnd hg _⟩
/-- a piece may begin at this border and go on beyond the text -/
def MayB (l : List Nat) (P : List Pr) (t : List Nat) (a : Nat) : Prop := ∃ q, q < l.length + P.length ∧ (t.length - a < ((txts l P).getD q []).length ∧ t.drop a <+: (txts l P).getD q []) ∧ (a = 0 ∨ crossF l.length P (tailF l P (t.take a)) q = none)
end
end DL
set_option Elab.async false
set_option linter.all false
set_option maxRecDepth 100000
set_option maxHeartbeats 4000000
namespace DL
open PySem PySem.Spec PyProof.Rows
open L2 hiding Takes passAt takes_of ps_raise PMk ps_try_as
open L2N (Takes passAt takes_of ps_raise PMk ps_try_as)
/-! ### two objects go along, the first one names the second -/
abbrev nM (ns : List Nat) : Node := nl (ns.map iN)
end DL
set_option Elab.async false
set_option linter.all false
set_option maxRecDepth 100000
set_option maxHeartbeats 4000000
namespace DL
open PySem PySem.Spec PyProof.Rows
open L2 hiding Takes passAt takes_of ps_raise PMk ps_try_as
open L2N (Takes passAt takes_of ps_raise PMk ps_try_as)
section
variable {C : DC} {env : Nv} {S : Sto} {Ψ : R → Sto → Prop} {pos p1 p2 : Pos} {l m : List Nat} {x : Str}
end
/-! ### a stream: its object and its list of tails -/
abbrev sF : List Str := ["joins", "letters", "ends", "many", "begun"]
def smN (B A : Addr) (l : List Nat) (P : List Pr) (lg : Nat) (t : List Nat) (m b k : Nat) : Node := .ins B sF [.val (jD A l P lg), .val (sL t), .loc k, .val (iN m), .val (iN b)]
end DL
set_option Elab.async false
set_option linter.all false
set_option maxRecDepth 100000
set_option maxHeartbeats 4000000
namespace DL
open PySem PySem.Spec PyProof.Rows
open L2 hiding Takes passAt takes_of ps_raise PMk ps_try_as
open L2N (Takes passAt takes_of ps_raise PMk ps_try_as)
/-! ### list.extend of a tuple -/
set_option maxRecDepth 8000 in
def rExtT (X : Cx) : V → List V → Hp → VK → Prop := fun x vs H Q => ∃ l b xs zs, x = .ref l ∧ vs = [.ref b] ∧ H l = some (.lst xs) ∧ SqT X.K H b zs ∧
  xs.length + zs.length ≤ sizeLine ∧ Q .non (upd H l (.lst (xs ++ zs)))
section
variable {C : DC} {env : Nv} {S : Sto} {Ψ : R → Sto → Prop} {pos apos : Pos} {o e : Expr}
end
end DL
set_option Elab.async false
set_option linter.all false
set_option maxRecDepth 100000
set_option maxHeartbeats 4000000
namespace DL
open PySem PySem.Spec PyProof.Rows
open L2 hiding Takes passAt takes_of ps_raise PMk ps_try_as
open L2N (Takes passAt takes_of ps_raise PMk ps_try_as)
/-! ### the store in another order -/
inductive EnvR (π : List Nat) : Nv → Nv → Prop where
  | nil : EnvR π [] []
  | drop {x : Option R} {e e' : Nv} : EnvR π e e' → EnvR π (x :: e) (none :: e')
  | val {d : D} {e e' : Nv} : EnvR π e e' → EnvR π (some (.val d) :: e) (some (.val d) :: e')
  | bor {ds : List D} {e e' : Nv} : EnvR π e e' → EnvR π (some (.bor ds) :: e) (some (.bor ds) :: e')
  | loc {j k : Nat} {e e' : Nv} : π[j]? = some k → EnvR π e e' → EnvR π (some (.loc k) :: e) (some (.loc j) :: e')
theorem EnvR.is {K : PySem.W.Frag} {b : Base} {w : Wd} {π : List Nat} (hk : ∀ (j k : Nat), π[j]? = some k → ∃ a, w.as[k]? = some a) : ∀ {e e' : Nv} {σ : L2.St}, EnvR π e e' → EnvIs K b w e σ → EnvIs K b ⟨w.G, asC w π⟩ e' σ
  | _, _, _, .nil, h => ⟨h.1, fun i r e => by simp at e⟩
  | _, _, [], .drop _, h => by have := h.1; simp at this
  | _, _, [], .val _, h => by have := h.1; simp at this
  | _, _, [], .bor _, h => by have := h.1; simp at this
  | _, _, [], .loc _ _, h => by have := h.1; simp at this
  | _, _, v :: σ, .drop t, h => by
    have q := EnvR.is hk t (σ := σ) ⟨by simpa using h.1, fun i r e => by simpa using h.2 (i + 1) r (by simpa using e)⟩
    refine ⟨by simpa using q.1, fun i r e => ?_⟩
    cases i with
    | zero => simp at e
    | succ i => simpa using q.2 i r (by simpa using e)
  | _, _, v :: σ, .val (d := d) t, h => by
    have q := EnvR.is hk t (σ := σ) ⟨by simpa using h.1, fun i r e => by simpa using h.2 (i + 1) r (by simpa using e)⟩
    refine ⟨by simpa using q.1, fun i r e => ?_⟩
    cases i with
    | zero =>
      simp at e; subst e
      exact h.2 0 (.val d) (by simp)
    | succ i => simpa using q.2 i r (by simpa using e)
  | _, _, v :: σ, .bor (ds := ds) t, h => by
    have q := EnvR.is hk t (σ := σ) ⟨by simpa using h.1, fun i r e => by simpa using h.2 (i + 1) r (by simpa using e)⟩
    refine ⟨by simpa using q.1, fun i r e => ?_⟩
    cases i with
    | zero =>
      simp at e; subst e
      exact h.2 0 (.bor ds) (by simp)
    | succ i => simpa using q.2 i r (by simpa using e)
  | _, _, v :: σ, .loc (j := j) (k := k) hj t, h => by
    have q := EnvR.is hk t (σ := σ) ⟨by simpa using h.1, fun i r e => by simpa using h.2 (i + 1) r (by simpa using e)⟩
    refine ⟨by simpa using q.1, fun i r e => ?_⟩
    cases i with
    | zero =>
      simp at e; subst e
      obtain ⟨u, h1, a, h2, h3⟩ := h.2 0 (.loc k) (by simp)
      exact ⟨u, h1, a, asC_get.mpr ⟨k, hj, getD_of h2⟩, h3⟩
    | succ i => simpa using q.2 i r (by simpa using e)
/-! ### lists of objects -/
section
variable {C : DC} {env : Nv} {S : Sto} {Ψ : R → Sto → Prop} {Ω : Nv → Sto → Prop} {pos p2 : Pos} {es : List Expr} {o i : Expr}
end
end DL
set_option Elab.async false
set_option linter.all false
set_option maxRecDepth 100000
set_option maxHeartbeats 4000000
namespace DL
open PySem PySem.Spec PyProof.Rows
open L2 hiding Takes passAt takes_of ps_raise PMk ps_try_as
open L2N (Takes passAt takes_of ps_raise PMk ps_try_as)
/-! ### for x in range(..), where the store may be put in another order -/
end DL
set_option Elab.async false
set_option linter.all false
set_option maxRecDepth 100000
set_option maxHeartbeats 4000000
namespace DL
open PySem PySem.Spec PyProof.Rows
open L2 hiding Takes passAt takes_of ps_raise PMk ps_try_as
open L2N (Takes passAt takes_of ps_raise PMk ps_try_as)
section
variable {C : DC} {S : Sto} {Ψ : R → Sto → Prop}
end
/-! ### how far two rows are the same -/
def cpl : List Nat → List Nat → Nat
  | x :: u, y :: v => if x = y then cpl u v + 1 else 0
  | _, _ => 0
section
variable {l : List Nat} {P : List Pr}
end
end DL
set_option Elab.async false
set_option linter.all false
set_option maxRecDepth 100000
set_option maxHeartbeats 4000000
namespace DL
open PySem PySem.Spec PyProof.Rows
open L2 hiding Takes passAt takes_of ps_raise PMk ps_try_as
open L2N (Takes passAt takes_of ps_raise PMk ps_try_as)
/-! ### dicts with texts as keys, whose values may be objects -/
theorem valV_at {κ : Type} [DecidableEq κ] : ∀ {ks : List κ} {vs : List V} {j : Nat} {k : κ} {v : V}, ks.Nodup → ks[j]? = some k → vs[j]? = some v → valV (ks.zip vs) k = some v
  | [], _, _, _, _, _, h, _ => by simp at h
  | _ :: _, [], _, _, _, _, _, h => by simp at h
  | x :: ks, y :: vs, 0, k, v, _, h1, h2 => by
    simp at h1 h2
    subst h1 h2
    simp [valV, List.find?_cons]
  | x :: ks, y :: vs, j + 1, k, v, hn, h1, h2 => by
    have hx : x ≠ k := fun e => by
      subst e
      exact (List.nodup_cons.mp hn).1 (List.mem_of_getElem? (by simpa using h1))
    have ih := valV_at (List.nodup_cons.mp hn).2 (by simpa using h1) (by simpa using h2)
    show Option.map _ (List.find? _ ((x, y) :: ks.zip vs)) = _
    rw [List.find?_cons, decide_eq_false (by exact hx)]
    exact ih
theorem putK_at {κ : Type} [DecidableEq κ] {k : κ} {v : V} {ks : List κ} {vs : List V} {j : Nat} (hl : ks.length = vs.length) (hn : ks.Nodup) (hk : ks[j]? = some k) : putK (ks.zip vs) k v = ks.zip (vs.set j v) := by
  have hj := (List.getElem?_eq_some_iff.mp hk).1
  unfold putK
  rw [if_pos]
  · have key : ∀ (ks : List κ) (vs : List V) (j : Nat), ks.length = vs.length → ks.Nodup → ks[j]? = some k → (ks.zip vs).map (fun kv => if kv.1 = k then (kv.1, v) else kv) = ks.zip (vs.set j v) := by
      intro ks
      induction ks with
      | nil => intro vs j _ _ h; simp at h
      | cons x ks ih =>
        intro vs j h1 h2 h3
        cases vs with
        | nil => simp at h1
        | cons y vs =>
          obtain ⟨n1, n2⟩ := List.nodup_cons.mp h2
          cases j with
          | zero =>
            simp at h3
            subst h3
            rw [List.set_cons_zero, List.zip_cons_cons, List.zip_cons_cons, List.map_cons, if_pos rfl]
            congr 1
            have : ∀ p ∈ ks.zip vs, (fun kv : κ × V => if kv.1 = x then (kv.1, v) else kv) p = id p := fun p hp => by
              have h := (List.of_mem_zip (a := p.1) (b := p.2) hp).1
              show (if p.1 = x then (p.1, v) else p) = p
              rw [if_neg (fun e => n1 (by rw [← e]; exact h))]
            rw [List.map_congr_left this, List.map_id]
          | succ j =>
            have h3' : ks[j]? = some k := by simpa using h3
            have hx : x ≠ k := fun e => n1 (by rw [e]; exact List.mem_of_getElem? h3')
            rw [List.set_cons_succ, List.zip_cons_cons, List.zip_cons_cons, List.map_cons, if_neg hx, ih vs j (by simpa using h1) n2 h3']
    exact key ks vs j hl hn hk
  · simp only [List.any_eq_true, decide_eq_true_eq]
    exact ⟨(k, vs[j]'(by omega)), by
      obtain ⟨h1, h2⟩ := List.getElem?_eq_some_iff.mp hk
      exact List.mem_of_getElem? (i := j) (by rw [List.getElem?_zip_eq_some]; exact ⟨hk, List.getElem?_eq_getElem (by omega)⟩), rfl⟩
theorem mergeK_fresh : ∀ (kvs acc : List (Key × V)), (acc.map (·.1) ++ kvs.map (·.1)).Nodup → mergeK acc kvs = acc ++ kvs
  | [], acc, _ => by simp [mergeK]
  | (k, v) :: r, acc, h => by
    have hk : ¬ k ∈ acc.map (·.1) := fun m => by
      have := (List.nodup_append.mp h).2.2 k m k (by simp)
      exact this rfl
    have e : putK acc k v = acc ++ [(k, v)] := by
      unfold putK
      rw [if_neg]
      simp only [List.any_eq_true, decide_eq_true_eq, not_exists, not_and]
      intro p hp e
      exact hk (List.mem_map.mpr ⟨p, hp, e⟩)
    show mergeK (putK acc k v) r = _
    rw [e, mergeK_fresh r (acc ++ [(k, v)]) (by simpa using h)]
    simp
section
variable {C : DC} {env : Nv} {S : Sto} {Ψ : R → Sto → Prop} {E : Nd}
abbrev sK (fs : List Str) : List Key := fs.map Sum.inr
theorem sK_nd {fs : List Str} (h : fs.Nodup) : (sK fs).Nodup := List.Pairwise.map _ (fun a b hab e => hab (Sum.inr.inj e)) h
/-- d["name"], an object or a value -/
theorem wix_dR {k j : Nat} {fs : List Str} {rs : List R} {f : Str} {r : R} (hk : S[k]? = some (.dK (sK fs) rs)) (hnd : fs.Nodup) (hj : AtN f j fs) (hr : rs[j]? = some r) (h : Ψ r S) : WIx C (.loc k) (.val (.str f)) S Ψ := fun X b ok w H rp v u hv hu Q n => by
  have hu : u = .str f := hu
  obtain ⟨a, h2, e⟩ := hv
  subst e hu
  obtain ⟨a', h3, _, _, vs, h4, h5, h6⟩ := rp.at_ _ _ hk rfl
  rw [h2] at h3; cases h3
  obtain ⟨v, g1, g2⟩ := h6.get hr
  have gg : DGet H a (.str f) (some v) := by
    have := DGet.k (k := (Sum.inr f : Key)) h4
    rwa [valV_at (sK_nd hnd) (j := j) (by rw [List.getElem?_map, hj.get]; rfl) g1] at this
  refine ⟨fun x y H Q => ∃ a v, x = .ref a ∧ DGet H a y (some v) ∧ Q v H, fun value slice pins s σ H x y v u Q I rx ry hq hs => ?_, a, v, rfl, gg, n w S H r v (Le.refl w) rp g2 h⟩
  obtain ⟨a, z, e, g, q⟩ := hq
  subst e
  obtain rfl : v = Value.ref a := rx
  exact tail_of PySem.F.slot_dict_getitem.lookup (dict_typeIs I g) (d_getItem ok.u1 I g ry fun w' s' I' rw' => ⟨z, H, I', rw', q⟩) hs
/-- d["name"] = .., the name is there -/
theorem ws_putS {i v o : Expr} {pos p2 : Pos} (h : WE C v env S fun z S1 => WE C o env S1 fun r S2 => WE C i env S2 fun y S3 => ∃ (k j : Nat) (fs : List Str) (rs : List R) (f : Str), r = .loc k ∧ y = .val (.str f) ∧ S3[k]? = some (.dK (sK fs) rs) ∧ fs.Nodup ∧ fs.length < 1000 ∧ AtN f j fs ∧ E.nx env (S3.set k (.dK (sK fs) (rs.set j z))))
    (hs : ∀ X : Cx, swapsWith v (some (.Subscript o i p2)) pos.line X.env = pure false) : WS C (.Assign [.Subscript o i p2] v pos) env S E := fun X W bb ok tk w σ H rp en xc D n => by
  refine ⟨_, ps_dput ok.u1 cE_ok cE_ok cE_ok (hs X), ?_⟩
  refine h X W bb ok tk w σ H rp en xc _ fun w1 S1 H1 z zv l1 r1 i1 k1 => ?_
  refine k1 X W bb ok tk w1 σ H1 r1 (en.mono l1) (xc.mono l1) _ fun w2 S2 H2 r v l2 r2 i2 k2 => ?_
  refine k2 X W bb ok tk w2 σ H2 r2 (en.mono (l1.trans l2)) (xc.mono (l1.trans l2)) _ fun w3 S3 H3 y u l3 r3 i3 ⟨k, j, fs, rs, f, er, ey, hk, hnd, hl, hj, k3⟩ => ?_
  subst er ey
  have l13 := (l1.trans l2).trans l3
  have iz := i1.mono (l2.trans l3)
  obtain ⟨a, ha, ev⟩ := i2.mono l3
  subst ev
  have i3 : u = .str f := i3
  subst i3
  obtain ⟨a', h3, _, _, vs, h4, h5, h6⟩ := r3.at_ _ _ hk rfl
  rw [ha] at h3; cases h3
  refine ⟨a, _, rfl, DPut.k (k := Sum.inr f) h4 (by rw [List.length_zip, sizeLine_eq]; simp; omega), ?_⟩
  rw [putK_at h5 (sK_nd hnd) (j := j) (by rw [List.getElem?_map, hj.get]; rfl)]
  exact n.nx w3 _ _ env σ (l13.n _) (r3.write (n' := .dK (sK fs) (rs.set j z)) hk rfl ha ⟨vs.set j zv, upd_same, by simpa using h5, h6.set j iz⟩) (en.mono l13) k3
/-! ### {"name": .., ..} -/
inductive KeyS : List (Option Expr) → List Str → Prop where
  | nil : KeyS [] []
  | cons {k : Str} {j : Nat} {p : Pos} {ks : List (Option Expr)} {ss : List Str} : KeyS ks ss → KeyS (some (.Constant (.str k) j p) :: ks) (k :: ss)
def prT (X : Cx) : List Str → List Expr → List (TE × TE)
  | k :: ks, v :: vs => (tC (.str k), cE X v) :: prT X ks vs
  | _, _ => []
theorem KeyS.pps {X : Cx} {pos : Pos} : ∀ {keys : List (Option Expr)} {ss : List Str} {vs : List Expr}, KeyS keys ss → keys.length = vs.length → PPs X pos keys vs (prT X ss vs)
  | _, _, [], .nil, _ => pps_nil
  | _, _, _ :: _, .cons h, e => pps_cons pe_str cE_ok (KeyS.pps h (by simpa using e))
theorem KeyS.len : ∀ {keys : List (Option Expr)} {ss : List Str}, KeyS keys ss → keys.length = ss.length ∧ (keys.all fun x => x.isSome) = true
  | _, _, .nil => ⟨rfl, rfl⟩
  | _, _, .cons h => ⟨by simp [h.len.1], by simpa using h.len.2⟩
def WPs (C : DC) (ss : List Str) (es : List Expr) (env : Nv) (S : Sto) (Φ : List R → Sto → Prop) : Prop :=
  ∀ (X : Cx) (W : WX) (b : Base), OkC X C → Takes X W → ∀ (w : Wd) (σ : L2.St) (H : Hp), Rp C.g.K b w S H → EnvIs C.g.K b w env σ → XCov C.g.K b w C.n0 C.xi W → ∀ Q : List (V × V) → Hp → Prop,
    (∀ (w2 : Wd) (S2 : Sto) (H2 : Hp) (rs : List R) (vs : List V), Le w w2 → Rp C.g.K b w2 S2 H2 → IsRs C.g.K b.B w2 rs vs → vs.length = ss.length → Φ rs S2 → Q ((ss.map V.str).zip vs) H2) → tPairs (prT X ss es) σ H Q
theorem wps_nil {Φ : List R → Sto → Prop} (h : Φ [] S) : WPs C [] [] env S Φ := fun X W bb ok tk w σ H rp en xc Q n => n w S H [] [] (Le.refl w) rp .nil rfl h
theorem wps_cons {Φ : List R → Sto → Prop} {k : Str} {ss : List Str} {e : Expr} {es : List Expr} (h : WE C e env S fun r S1 => WPs C ss es env S1 fun rs S2 => Φ (r :: rs) S2) : WPs C (k :: ss) (e :: es) env S Φ := fun X W bb ok tk w σ H rp en xc Q n => by
  show cE X e σ H _
  refine h X W bb ok tk w σ H rp en xc _ fun w1 S1 H1 x v l1 r1 i1 k1 => ?_
  refine k1 X W bb ok tk w1 σ H1 r1 (en.mono l1) (xc.mono l1) _ fun w2 S2 H2 rs vs l2 r2 i2 hl k2 => ?_
  exact n w2 S2 H2 (x :: rs) (v :: vs) (l1.trans l2) r2 (.cons (i1.mono l2) i2) (by simp [hl]) k2
theorem we_dictS {keys : List (Option Expr)} {es : List Expr} {pos : Pos} (ss : List Str) (hk : KeyS keys ss) (hl : keys.length = es.length) (hnd : ss.Nodup) (h0 : keys ≠ []) (h15 : keys.length ≤ 15)
    (h : WPs C ss es env (S ++ [.dK [] []]) fun rs S2 => S2[S.length]? = some (.dK [] []) ∧ Ψ (.loc S.length) (S2.set S.length (.dK (sK ss) rs))) : WE C (.Dict keys es pos) env S Ψ := fun X W bb ok tk w σ H rp en xc Q n => by
  refine ⟨_, pe_disp (hk.pps hl) hk.len.2 hl h0 h15, ?_⟩
  intro p hp
  obtain ⟨r1, l1⟩ := rp.alloc (n := .dK [] []) (o := .dK []) hp ⟨[], upd_same, rfl, .nil⟩
  refine h X W bb ok tk _ σ _ r1 (en.mono l1) (xc.mono l1) _ fun w2 S2 H2 rs vs l2 r2 i2 hl2 ⟨k1, k2⟩ => ?_
  have ha : w2.as[S.length]? = some p := by
    obtain ⟨_, t, e⟩ := l2
    rw [e]
    have : (w.as ++ [p])[S.length]? = some p := by rw [← rp.len]; simp
    exact (List.getElem?_append_left (by rw [← rp.len]; simp)).trans this
  obtain ⟨a', h3, _, _, us, h4, h5, h6⟩ := r2.at_ _ _ k1 rfl
  rw [ha] at h3; cases h3
  refine ⟨by simpa using h4, (sK ss).zip vs, ?_, ?_, ?_⟩
  · rw [List.zip_map_left, List.zip_map_left, List.map_map]
    exact List.map_congr_left fun q _ => rfl
  · rw [List.length_zip, List.length_map]
    have := hk.len.1
    omega
  · rw [mergeK_fresh _ [] (by
      rw [List.map_nil, List.nil_append, List.map_fst_zip (by rw [List.length_map]; omega)]
      exact sK_nd hnd), List.nil_append]
    have r3 := r2.write (n' := .dK (sK ss) rs) (o := .dK ((sK ss).zip vs)) k1 rfl ha ⟨vs, upd_same, by rw [List.length_map]; omega, i2⟩
    exact n _ _ _ (.loc S.length) _ (l1.trans l2) r3 ⟨p, ha, rfl⟩ k2
end
end DL
set_option Elab.async false
set_option linter.all false
set_option maxRecDepth 100000
set_option maxHeartbeats 4000000
namespace DL
open PySem PySem.Spec PyProof.Rows
open L2 hiding Takes passAt takes_of ps_raise PMk ps_try_as
open L2N (Takes passAt takes_of ps_raise PMk ps_try_as)
/-! ### a call without arguments -/
section
variable {C : DC} {env : Nv} {S : Sto} {Ψ : R → Sto → Prop} {x : Str} {p2 pos : Pos}
end
end DL
set_option Elab.async false
set_option linter.all false
set_option maxRecDepth 100000
set_option maxHeartbeats 4000000
namespace DL
open PySem PySem.Spec PyProof.Rows
open L2 hiding Takes passAt takes_of ps_raise PMk ps_try_as
open L2N (Takes passAt takes_of ps_raise PMk ps_try_as)
section
variable {C : DC} {env : Nv} {S : Sto} {Ψ : R → Sto → Prop} {pos apos : Pos} {e f o : Expr} {l : List Nat}
end
/-! ### a list of joins as a law keeps it -/
abbrev jnF : List Str := ["letters", "pairs", "ranks", "texts"]
def jnD (l : List Nat) (P : List Pr) : D := .dct (sK jnF) [sL l, .lst (P.map pN), .dcT (rkK P) (rkD P), .lst ((txts l P).map sL)]
inductive JnD (S : Sto) : R → List Nat → List Pr → Prop where
  | val (l : List Nat) (P : List Pr) : JnD S (.val (jnD l P)) l P
  | loc {k p q t : Nat} {l : List Nat} {P : List Pr} : S[k]? = some (.dK (sK jnF) [.val (sL l), .loc p, .loc q, .loc t]) → S[p]? = some (nl (P.map pN)) → S[q]? = some (.dT (rkK P) ((rkD P).map .val)) → S[t]? = some (nl ((txts l P).map sL)) → JnD S (.loc k) l P
section
variable {C : DC} {S : Sto} {Ψ : R → Sto → Prop} {r : R} {l : List Nat} {P : List Pr}
end
end DL
set_option Elab.async false
set_option linter.all false
set_option maxRecDepth 100000
set_option maxHeartbeats 4000000
namespace DL
open PySem PySem.Spec PyProof.Rows
open L2 hiding Takes passAt takes_of ps_raise PMk ps_try_as
open L2N (Takes passAt takes_of ps_raise PMk ps_try_as)
section
variable {C : DC} {S : Sto} {Ψ : R → Sto → Prop}
/-- truth values: is not -/
theorem wo_notB {a c : Bool} (h : Ψ (.val (.bl (!decide (a = c)))) S) : WO C (compareOp .IsNot) (.val (.bl a)) (.val (.bl c)) S Ψ := fun X b ok w H rp v u hv hu Q n => by
  have hv : v = .bl a := hv
  have hu : u = .bl c := hu
  subst hv hu
  exact ⟨_, op_isnot_bl, a, c, rfl, rfl, n.at_ (d := .bl (!decide (a = c))) rp rfl h⟩
end
end DL
set_option Elab.async false
set_option linter.all false
set_option maxRecDepth 100000
set_option maxHeartbeats 4000000
namespace DL
open PySem PySem.Spec PyProof.Rows
open L2 hiding Takes passAt takes_of ps_raise PMk ps_try_as
open L2N (Takes passAt takes_of ps_raise PMk ps_try_as)
/-! ### own exceptions: made and raised where nothing is handled -/
theorem mk_exc {X : Cx} {x : Str} {e : Expr} {es : List Expr} {ta : TA} {p pos : Pos} {A fI : Addr} {k : Nat} {fd : FuncData} {ps : List Str} {sp : Sp} (T : OexC X.K A)
    (iA : PySem.W.findIn X.K (.ref A) "__init__" = some (some (.ref fI))) (tI : PySem.W.typeIn X.K (.ref fI) = some (.type "function")) (F : FnOk X.prog X.w X.K X.mg X.base (L2N.CX X.prog X.w) k fI fd ps sp)
    (rm : Room (k + 1) X.A) (bi : L2.Binds X.K fd ps []) (gx : Gl X x) (mx : X.mg x = some (.ref A)) (pa : PA X (e :: es) ta) (nd : (x == ("__debug__" : Str)) = false)
    (se : starEach (e :: es) X.env = (false, eval e X.env) :: starEach es X.env) (sq : (backTo pos (starEach es X.env)).any (·.1) = false) :
    L2N.PMk X (.Call (.Name x p) (e :: es) [] pos) (tMkO A sp [] ta) := fun pins s σ H Q I h => by
  obtain ⟨nm, qn, N, bs, bm, sn, sub, ab, col, dd, k0, k1, k2, k3, k5, atA, rf⟩ := T.cls
  refine wpAny_Call_Name_kw (ld_glob I gx mx ?_ nd)
  refine PySem.W.callWith_K (h₀ := X.base) I.ok.mod.kin T.kC (thn (pa.run pos pins s σ H _ I h) fun us s1 y => ?_) se sq
  obtain ⟨vs, H1, I1, rv1, z1000, mk⟩ := y
  refine ⟨I1.kIn, ?_⟩
  show wpAny _ _ (call (.ref A) us) _ _ _
  obtain ⟨hp, gs, dr, tk, os⟩ := s1
  have le1 : hp.objs.size ≤ hp.objs.size + 1 := Nat.le_succ _
  have free : H1 (hp.objs.size + 1) = none := I1.hok.fresh le1
  have spq := mk (hp.objs.size + 1) free
  rw [List.append_nil] at spq
  let hq : Heap := (hp.push (PySem.W.kdv_tup us)).push (PySem.HandSPX.excO A hp.objs.size)
  have kp : ∀ b o, hp.get? b = some o → hq.get? b = some o := fun b o z => Heap.get?_push_of_some _ (Heap.get?_push_of_some _ z)
  have at1 : hq.get? (hp.objs.size + 1) = some (PySem.HandSPX.excO A hp.objs.size) := by
    show ((hp.push (PySem.W.kdv_tup us)).push (PySem.HandSPX.excO A hp.objs.size)).get? (hp.objs.size + 1) = _
    heap_get
  have J2 : Inv X pins σ (upd H1 (hp.objs.size + 1) (exo (hp.objs.size + 1) A none)) ⟨hq, gs, dr, tk, os⟩ := I1.laid kp le1 (exo_ok at1)
  have rv2 : Vals (V.ref (hp.objs.size + 1) :: vs) (Value.ref (hp.objs.size + 1) :: us) := .cons rfl rv1
  have ln : (Value.ref (hp.objs.size + 1) :: us ++ []).length = ps.length := by
    rw [List.append_nil, ← rv2.length]
    exact F.len _ _ _ _ spq
  have us1000 : us.length ≤ sizeLine := by
    have := Paired.length rv1
    rw [sizeLine_eq]; omega
  have b2 := bi _ (Value.ref (hp.objs.size + 1) :: us) J2.kIn ln
  rw [List.append_nil] at b2
  have inner := F.run _ X.stack _ _ ⟨Value.ref (hp.objs.size + 1) :: us, []⟩ (Value.ref (hp.objs.size + 1) :: us) _ _ (fun _ _ _ => False) (rm.make A us []) (J2.env0.make A us []) b2 rv2 spq
  refine wpAny_call (PySem.HandSPX.call_own PySem.F.excBase_ValueError (fun Y => PySem.HandSPX.refsVE_contains Y bm rf) (I1.kIn _ _ atA) (PySem.W.looks_findIn I1.kIn iA) (fun self => PySem.W.bind_fn I1.kIn self tI) us1000 (codeAny_mono inner fun r s' out => ?_))
  match r, out with
  | .error er, out => exact passX pins σ _ _ er s' J2 out
  | .ok .next, out => exact False.elim out
  | .ok .brk, out => exact False.elim out
  | .ok .cont, out => exact False.elim out
  | .ok (.ret u), out =>
    obtain ⟨v, H2, os2, bare2, un2, hok2, rv, ev, d, fs, ea, ed, nd1, qq⟩ := out
    subst ev
    obtain ⟨h2, g2, d2, t2, os'⟩ := s'
    obtain ⟨t0, G, JG, kG, gone, there, na⟩ := mk_end0 (d2 := d2) (t2 := t2) I1 le1 kp un2 hok2 os2 bare2 ea ed nd1
    refine ⟨rv, hp.objs.size + 1, _, _, ⟨G, g2, d2, t2, os'⟩, _, .ref A, some d, rfl, JG, kG, gone, there, ⟨rfl, rfl, fun w hw => ?_⟩, rfl, rfl, na, rfl, bare2, raises_own T.exC T.tyC, qq⟩
    cases hw
    rfl
end DL
set_option Elab.async false
set_option linter.all false
set_option maxRecDepth 100000
set_option maxHeartbeats 4000000
namespace DL
open PySem PySem.Spec PyProof.Rows
open L2 hiding Takes passAt takes_of ps_raise PMk ps_try_as
open L2N (Takes passAt takes_of ps_raise PMk ps_try_as)
theorem zip_rev {α β : Type} {a : List α} {b : List β} (h : a.length = b.length) : (a.zip b).reverse = a.reverse.zip b.reverse := by
  unfold List.zip
  exact List.reverse_zipWith h
/-- self, then a value for each field, in the order of the stores -/
def spXI (C : Addr) (fs : List Str) : Sp := fun vs H Q E => ∃ (a : Addr) (ys : List V), vs = .ref a :: ys ∧ ys.length = fs.length ∧ H a = some (exo a C none) ∧ ∀ dx, H dx = none → dx ≠ a → Q .non (upd (upd H dx (exd dx ((fs.zip ys).reverse))) a (exo a C (some dx)))
section
variable {g : Gd} {f C : Addr} {fd : FuncData} {x qual : Str} {params : Arguments} {scope : Scope} {f1 f2 v1 v2 : Str} {p1 p2 p3 p4 q1 q2 q3 q4 : Pos}
theorem xinit1 (F : FunD g.K x qual params [.Assign [.Attribute (.Name "self" p1) f1 p2] (.Name v1 p3) p4] scope [] [] f fd) (Sc : FnScope ["self", v1] ["self", v1] scope) (hs : locB scope "self" = true) (hv : locB scope v1 = true) (hp : plainName v1 = true)
    (T : OexC g.K C) (h1 : PySem.W.findIn g.K (.ref C) f1 = some none) : FnOk g.prog g.w g.K g.mg g.base (L2N.CX g.prog g.w) 1 f fd ["self", v1] (spXI C [f1]) := by
  refine F.ok Sc (fun vs H Q E h => ?_) (fun cdv A outer sh H vs Q E hr h => ?_)
  · obtain ⟨a, ys, rfl, hl, _⟩ := h
    simpa using hl
  · obtain ⟨a, ys, rfl, hl, ha, hq⟩ := h
    match ys, hl with
    | [y], _ =>
      obtain ⟨n1, n2, _⟩ := plain_of hp
      refine ⟨_, pss_one (ps_ost (pe_var (i := 0) rfl ((locB_ok hs).elim (fun h => .inl h) (fun h => .inr (.inl h))) (by decide) (by decide)) (pe_var (i := 1) rfl ((locB_ok hv).elim (fun h => .inl h) (fun h => .inr (.inl h))) n1 n2) rfl), ?_⟩
      exact ⟨y, rfl, .ref a, rfl, a, C, rfl, T, h1, .inl ⟨ha, fun dx hd hne => hq dx hd hne⟩⟩
end
/-- an own class of error, whose __init__ only stores its values -/
structure XcC (g : Gd) (A : Addr) (ps fs : List Str) : Prop where
  oc : OexC g.K A
  ini : ∃ fI fd, PySem.W.findIn g.K (.ref A) "__init__" = some (some (.ref fI)) ∧ PySem.W.typeIn g.K (.ref fI) = some (.type "function") ∧ FnOk g.prog g.w g.K g.mg g.base (L2N.CX g.prog g.w) 1 fI fd ps (spXI A fs) ∧ L2.Binds g.K fd ps []
/-- raise E(e, ..) -/
theorem ws_raise {C : DC} {env : Nv} {S : Sto} {E : Nd} {A : Addr} {ps fs : List Str} {x : Str} {e : Expr} {es : List Expr} {p2 pos pos2 : Pos} (T : XcC C.g A ps fs) (hx : InG x C.gl) (hm : C.g.mg x = some (.ref A)) (hk : 2 ≤ C.k) (hc : C.calm = true)
    (h : WA C (e :: es) env S fun rs S1 => ∃ ds : List D, rs = ds.map .val ∧ ds.length = fs.length ∧ fs.length ≤ 10 ∧ C.xi A fs.reverse ds.reverse env S1)
    (he : ∀ X : Cx, starEach (e :: es) X.env = (false, eval e X.env) :: starEach es X.env) (hp : ∀ X : Cx, (backTo pos (starEach es X.env)).any (·.1) = false) : WS C (.Raise (some (.Call (.Name x p2) (e :: es) [] pos)) none pos2) env S E := fun X W bb ok tk w σ H rp en xc D n => by
  obtain ⟨g, cN, csc, vis, wr, gl, kk, calm, n0, xi, ho⟩ := C
  obtain ⟨h1, h2⟩ := ok.gl _ hx.mem
  have eg := ok.gd
  have eg : gdOf X = g := eg
  subst eg
  obtain ⟨oc, fI, fd, iC, tI, F1, B⟩ := T
  refine ⟨_, ps_raise (ok.calm hc).1 tk (mk_exc oc iC tI F1 ((ok.calm hc).2.mono hk) B h1 hm cA_ok (plain_of h2).1 (he X) (hp X)), ?_⟩
  refine h X W bb ok tk w σ H rp en xc _ fun w1 S1 H1 rs vs l1 r1 i1 ⟨ds, er, hl, h10, k1⟩ => ?_
  subst er
  have i1 := IsRs.vals.mp i1
  have hvl : vs.length = fs.length := by rw [← IsL.length i1]; exact hl
  refine ⟨by omega, fun a ha => ⟨a, vs ++ [], rfl, by rw [List.append_nil]; exact hvl, upd_same, fun dx hd hne => ?_⟩⟩
  rw [List.append_nil]
  rw [upd_ne hne] at hd
  refine ⟨rfl, dx, (fs.zip vs).reverse, upd_same, by rw [upd_ne hne, upd_same], hd, ?_⟩
  have eH : upd (del (upd (upd (upd H1 a (exo a A none)) dx (exd dx ((fs.zip vs).reverse))) a (exo a A (some dx))) a) dx (.xd ((fs.zip vs).reverse)) = upd H1 dx (.xd ((fs.zip vs).reverse)) := by
    funext b
    by_cases hb : b = dx
    · subst hb; rw [upd_same, upd_same]
    · rw [upd_ne hb, upd_ne hb]
      by_cases hb2 : b = a
      · subst hb2; rw [del_same]; exact ha.symm
      · rw [del_ne hb2, upd_ne hb2, upd_ne hb, upd_ne hb2]
  rw [eH]
  obtain ⟨r2, l2⟩ := r1.known (o := .xd ((fs.zip vs).reverse)) hd
  refine xc.2 _ S1 _ σ env A fs.reverse ds.reverse dx vs.reverse ((l1.trans l2).n _) r2 (en.mono (l1.trans l2)) ?_ (by simp [hvl]) ((i1.mono l2.g).reverse) k1
  show upd w1.G dx _ dx = _
  rw [upd_same, zip_rev hvl.symm]

/-! ### own defs called where an exception is handled -/
structure FnDH (g : Gd) (k : Nat) (f : Addr) (ps : List Str) (s : DSp) : Prop where
  ok : ∃ fd, L2H.FnH g.prog g.w g.K g.mg g.base (L2N.CX g.prog g.w) k f fd ps (spD g.K s) ∧ L2.Binds g.K fd ps []
  kp : PySem.W.keepIn g.K (.ref f) = true
section
variable {C : DC} {env : Nv} {S : Sto} {Ψ : R → Sto → Prop} {Θ : Bool → Sto → Prop} {E : Nd} {pos p2 p3 : Pos} {c e : Expr} {es : List Expr} {x : Str} {body els : List Stmt}
end
section
variable {g : Gd} {k : Nat} {f : Addr} {ps : List Str} {s : DSp} {fd : FuncData} {x qual : Str} {params : Arguments} {body : List Stmt} {scope : Scope} {N gl : List Str}
end

/-! ### try: .. except E as n: .. -/
abbrev DC.sui (C : DC) (a A d : Addr) : DC := { C with calm := false, xi := fun _ _ _ _ _ => False, ho := ⟨false, some C.k, some (a, A, d)⟩ }
theorem OkC.sui {X : Cx} {C : DC} (ok : OkC X C) (hc : C.calm = true) {a A d : Addr} {oe : Obj} {pn : List (Addr × Obj)} (hz : L2N.Zn (.ref A) (some d) oe) (hf : ∃ vs, oe.data = .fields vs) : OkC (X.suite a ((a, oe) :: pn)) (C.sui a A d) := by
  refine ⟨ok.gd, ok.N, ok.sc, ok.nd, ok.vis, ok.wr, ok.gl, (fun z => nomatch z), ok.un, PassesOwn.never, (fun k z => ?_), (fun e z => ?_), fun z => nomatch z⟩
  · cases z
    obtain ⟨vs, hv⟩ := hf
    exact ⟨⟨(a, oe), ⟨rfl, vs, hv, hz.2.2 vs hv⟩, List.mem_cons_self⟩, ⟨(ok.calm hc).2.dp, (ok.calm hc).2.un⟩⟩
  · cases z
    obtain ⟨vs, hv⟩ := hf
    exact ⟨rfl, oe, ⟨rfl, vs, hv, hz.2.2 vs hv⟩, List.mem_cons_self, ⟨hz.1, hz.2.1⟩, ⟨vs, hv⟩, fun _ => ⟨X, pn, rfl⟩⟩
/-- what the clause asks of an exception of the body -/
def TryX (C : DC) (c : Addr) (i : Nat) (suite : List Stmt) (E : Nd) : Xi := fun A fs ds env S => ∃ q, PySem.W.exmOne C.g.K (.ref A) (.ref c) = some q ∧
  (q = true → ∀ a d, WSs (C.sui a A d) suite (env.set i (some (.val (.exc a d A fs ds)))) S ⟨fun env' => E.nx (env'.set i none), E.rt, fun env' => E.bk (env'.set i none), fun env' => E.ct (env'.set i none)⟩) ∧ (q = false → C.xi A fs ds env S)
theorem ws_try {C : DC} {env : Nv} {S : Sto} {E : Nd} {x n : Str} {c : Addr} {i : Nat} {body suite : List Stmt} {b₀ : Stmt} {np pos pos' : Pos} (hx : InG x C.gl) (hm : C.g.mg x = some (.ref c)) (hn : InV n i C.wr) (hl : C.sc.names.lookup n = some .local) (hc : C.calm = true) (ht : C.ho.tr = true)
    (h : WSs { C with xi := TryX C c i (b₀ :: suite) E } body env S E) : WS C (.Try body [.ExceptHandler (some (.Name x np)) (some n) (b₀ :: suite) pos'] [] [] pos) env S E := fun X W bb ok tk w σ H rp en xc D nn => by
  obtain ⟨fr1, fr2⟩ := ok.fr ht
  obtain ⟨h1, h2⟩ := ok.gl _ hx.mem
  obtain ⟨hN, hL, _⟩ := ok.wr _ hn.mem
  refine ⟨_, ps_try_as (tb := fun W' D σ H => ∀ pn xe, Takes (X.tr pn xe) W' → PassesOwn (model X.prog X.w) X.A X.env xe → cSs (X.tr pn xe) body D σ H)
    (ts := fun a cls d D σ H => ∀ oe pn, L2N.Zn cls d oe → (∃ vs, oe.data = .fields vs) → cSs (X.suite a ((a, oe) :: pn)) (b₀ :: suite) D σ H)
    fr1 fr2 ok.nd hN (by show X.env.scope.names.lookup n = _; rw [ok.sc]; exact hl) (c := .ref c) ⟨h1, (plain_of h2).1, .inl (by rw [ok.mg]; exact hm)⟩ tk (fun W' pn xe tk' po' => ?_) (fun a oe cls d pn hz hf => ?_), ?_⟩
  · exact ⟨fun pins s σ H D I hh => cSs_ok.run pins s σ H D I (hh pn xe tk' po')⟩
  · exact ⟨fun pins s σ H D I hh => cSs_ok.run pins s σ H D I (hh oe pn hz hf)⟩
  · intro pn xe tk' po'
    have ok' : OkC (X.tr pn xe) { C with xi := TryX C c i (b₀ :: suite) E } := by
      refine ⟨ok.gd, ok.N, ok.sc, ok.nd, ok.vis, ok.wr, ok.gl, ok.calm, ok.un, po', (fun k z => ?_), (fun e z => ?_), ok.fr⟩
      · obtain ⟨⟨p, hp, _⟩, _⟩ := ok.hot k z
        have q1 := hp.1
        rw [(ok.calm hc).2.hd] at q1
        cases q1
      · obtain ⟨q1, _⟩ := ok.exc e z
        rw [(ok.calm hc).1] at q1
        exact Bool.noConfusion (show true = false from q1)
    refine h _ _ bb ok' tk' w σ H rp en ⟨xc.1, ?_⟩ _ nn
    intro w' S' H' σ' env' A fs ds d vs l rp' en' hd hlen his ⟨q, hq, ht', hf'⟩
    refine ⟨q, by rw [ok.K]; exact hq, fun e a ha => ?_, fun e => xc.2 w' S' H' σ' env' A fs ds d vs l rp' en' hd hlen his (hf' e)⟩
    intro oe pn2 hz hf
    refine ht' e a d _ (fun _ _ _ _ => False) bb (ok.sui hc hz hf) takes_blk w' _ H' rp' (en'.set i ⟨rfl, vs, hd, hlen, his⟩) ⟨xc.1, fun _ _ _ _ _ _ _ _ _ _ _ _ _ _ _ _ z => z⟩ _ ?_
    have n2 := nn.monoN l
    have wp : ∀ {F : Nv → Sto → Prop} {Q : L2.St → Hp → Prop}, ECov C.g.K bb w' C.n0 F Q → ECov C.g.K bb w' C.n0 (fun env' => F (env'.set i none)) (fun σ' H' => Q (σ'.set i none) H') := fun z w1 S1 H1 env1 σ1 l1 r1 e1 k1 => z w1 S1 H1 _ _ l1 r1 (e1.wipe [i]) k1
    exact ⟨wp n2.nx, n2.rt, wp n2.bk, wp n2.ct⟩
end DL
set_option Elab.async false
set_option linter.all false
set_option maxRecDepth 100000
set_option maxHeartbeats 4000000
namespace DL
open PySem PySem.Spec PyProof.Rows
open L2 hiding Takes passAt takes_of ps_raise PMk ps_try_as
open L2N (Takes passAt takes_of ps_raise PMk ps_try_as)
/-! ### what is asked of an own class of error -/
structure ErC (K : PySem.W.Frag) (A : Addr) (fs : List Str) : Prop where
  oc : OexC K A
  xf : XfC K A
  cl : (PySem.W.clsIn K A).isSome = true
  ca : PySem.W.findIn K (.ref A) "__class__" = some (some (.builtin "object.__class__"))
  gs : PySem.W.specialIn K (.builtin "object.__class__") "__get__" = some (some (.builtin "getset_descriptor.__get__"))
  tk : PySem.W.takesIn K (.builtin "object.__class__") = some true
  mr : PySem.W.mroIn K A (.type "object") = some true
  nf : ∀ f ∈ fs, PySem.W.findIn K (.ref A) f = some none
  i1 : PySem.W.findIn K (.ref A) "__init__" = some (some (.ref (He.ma K A "__init__")))
  i2 : PySem.W.typeIn K (.ref (He.ma K A "__init__")) = some (.type "function")
theorem shapeB_ok {K : PySem.W.Frag} {A : Addr} (h : shapeB K A = true) : ∃ nm q N bs bm sn sub ab col dd k0 k1 k2 k3 k5, K.lookup A = some (excClassObj nm q A N bs bm true sn sub ab col dd k0 k1 k2 k3 k5 "ValueError.__new__") ∧ PySem.HandSPX.refsVE bm = true := by
  unfold shapeB at h
  split at h
  · rename_i dd cd sl at1
    split at h
    · rename_i B bm k0 k1 k2 k3 n k5 em es
      obtain ⟨h1, h⟩ := Bool.and_eq_true_iff.mp h
      obtain ⟨h2, h⟩ := Bool.and_eq_true_iff.mp h
      obtain ⟨h3, h⟩ := Bool.and_eq_true_iff.mp h
      obtain ⟨h4, h5⟩ := Bool.and_eq_true_iff.mp h
      have h1 := of_decide_eq_true h1
      have h2 := of_decide_eq_true h2
      subst h1 h2
      obtain ⟨nm, bs, mro, ns, qn, hd, sn, sub, ab, col, del⟩ := cd
      obtain ⟨sl⟩ := sl
      dsimp only at em es h3 h4
      subst em es h4
      cases del with
      | true => cases h3
      | false => exact ⟨nm, qn, ns, bs, bm, sn, sub, ab, col, dd, k0, k1, k2, k3, k5, at1, h5⟩
    · cases h
  · cases h
theorem erB_ok {K : PySem.W.Frag} {A : Addr} {fs : List Str} (h : erB K A fs = true) : ErC K A fs := by
  unfold erB at h
  simp only [Bool.and_eq_true, decide_eq_true_eq, List.all_eq_true] at h
  obtain ⟨h1, h2, h3, h4, h5, h6, h7, h8, h9, h10, h11, h12, h13⟩ := h
  have x := xfB_ok h2
  exact ⟨⟨shapeB_ok h1, h3, x.exC, h4, h5⟩, x, h6, h7, h8, h9, h10, h11, h12, h13⟩
theorem ErC.less {K : PySem.W.Frag} {A : Addr} {fs gs : List Str} (h : ErC K A fs) (l : ∀ f ∈ gs, f ∈ fs) : ErC K A gs := ⟨h.oc, h.xf, h.cl, h.ca, h.gs, h.tk, h.mr, fun f hf => h.nf f (l f hf), h.i1, h.i2⟩

/-! ### isinstance(e, ..), e.f -/
theorem call_isX {X : Cx} {a d A : Addr} {fs : List Str} {oe : Obj} (T : ErC X.K A fs) (hp : (a, oe) ∈ X.pn) (hz : Zc (.ref A) (some d) oe) (hf : ∃ vs, oe.data = .fields vs) :
    CallR X (.builtin "isinstance") (fun xs H Q => ∃ c cv b fl, xs = [.ref a, c] ∧ (∀ u, RelV c u → u = cv) ∧ H d = some (.xd fl) ∧ PySem.W.kitOne X.K (.ref A) cv = some b ∧ Q (.bl b) H) := by
  intro pins s σ H xs us Q I rv ⟨c, cv, b, fl, ex, hc, hd, hk, hq⟩
  subst ex
  cases rv with
  | cons r1 rv =>
    cases rv with
    | cons r2 rv =>
      cases rv
      cases r1
      have e2 := hc _ r2
      subst e2
      obtain ⟨at1, _⟩ := I.pin (a, oe) (List.mem_append_left _ hp)
      obtain ⟨vs, hv⟩ := hf
      have ho : ObjOk X.prog X.w H s.heap d (.xd fl) := I.hok d _ hd
      obtain ⟨mA, ns, _⟩ := ho
      obtain ⟨od, at2, _⟩ := lookIn_ns ns
      have J : PySem.W.InstAt s.heap a oe A (some od) := ⟨at1, hz.1, by unfold PySem.W.notCls; rw [hv] <;> rfl, by rw [hz.2]; exact at2⟩
      exact PySem.W.kia_one (PySem.W.kitx_exc T.cl T.xf.ga T.xf.gg T.xf.exC T.ca T.gs T.tk T.mr) I.kIn J hk (fun z => nomatch z) fun t => ⟨.bl b, H, I.kept (t' := t) fun _ _ z => z, rfl, hq⟩
section
variable {C : DC} {env : Nv} {S : Sto} {Ψ : R → Sto → Prop} {a d A B : Addr} {fs gs : List Str} {ds : List D} {b : Bool} {o : Expr} {f : Str} {pos : Pos}
theorem wc_isX {c : V} {cv : Value} (hx : C.ho.ex = some (a, A, d)) (T : ErC C.g.K A gs) (hc : ∀ u, RelV c u → u = cv) (hk : PySem.W.kitOne C.g.K (.ref A) cv = some b) (h : Ψ (.val (.bl b)) S) : WC C (.builtin "isinstance") [.val (.exc a d A fs ds), .val (.opq c)] S Ψ := fun X bb ok w H rp vs hv Q n => by
  obtain ⟨v, u, e, h1, h2⟩ := vals2' hv
  subst e
  obtain ⟨e1, ws, g1, g2, g3⟩ := h1
  have h2 : u = c := h2
  subst e1 h2
  obtain ⟨_, oe, _, hp, hz, hf, _⟩ := ok.exc _ hx
  have eK : X.K = C.g.K := ok.K
  rw [← eK] at T hk
  exact ⟨_, call_isX T hp hz hf, u, cv, b, _, rfl, hc, rp.ex _ _ g1, hk, n w S H (.val (.bl b)) _ (Le.refl _) rp rfl h⟩
/-- .. of a class of the text -/
theorem wc_isXR (hx : C.ho.ex = some (a, A, d)) (T : ErC C.g.K A gs) (hk : PySem.W.kitOne C.g.K (.ref A) (.ref B) = some b) (h : Ψ (.val (.bl b)) S) : WC C (.builtin "isinstance") [.val (.exc a d A fs ds), .val (.opq (.ref B))] S Ψ := wc_isX hx T (fun _ h => h) hk h
/-- .. of a built-in class -/
theorem wc_isXT {t : String} (hx : C.ho.ex = some (a, A, d)) (T : ErC C.g.K A gs) (hk : PySem.W.kitOne C.g.K (.ref A) (.type t) = some b) (h : Ψ (.val (.bl b)) S) : WC C (.builtin "isinstance") [.val (.exc a d A fs ds), .val (.opq (.ty t))] S Ψ := wc_isX hx T (fun _ h => h) hk h
/-- the name of a class of the text -/
theorem we_cls {x : Str} (hx : InG x C.gl) (hm : C.g.mg x = some (.ref B)) (h : Ψ (.val (.opq (.ref B))) S) : WE C (.Name x pos) env S Ψ := we_glob (d := .opq (.ref B)) hx hm ⟨.ref B, rfl, fun _ => rfl⟩ h
/-- e.f -/
inductive FldX (f : Str) : R → Addr → Addr → Addr → D → Prop where
  | mk {a d A : Addr} {fs : List Str} {ds : List D} {j : Nat} {z : D} : fs.Nodup → AtN f j fs → ds[j]? = some z → FldX f (.val (.exc a d A fs ds)) a A d z
theorem we_fldX (hx : C.ho.ex = some (a, A, d)) (T : ErC C.g.K A gs) (hf : InG f gs) (h : WE C o env S fun r S1 => ∃ z, FldX f r a A d z ∧ Ψ (.val z) S1) (hb : ∀ X : Cx, attributeBase o f X.env (eval o X.env) = eval o X.env) (ht : C.ho.tr = false := by rfl) : WE C (.Attribute o f pos) env S Ψ := fun X W bb ok tk w σ H rp en xc Q n => by
  obtain ⟨_, oe, _, _, hz, hd, hX⟩ := ok.exc _ hx
  obtain ⟨X0, pn, e⟩ := hX ht
  subst e
  have eK : X0.K = C.g.K := ok.K
  rw [← eK] at T
  refine ⟨_, pe_xf (te := cE _ o) T.xf (T.nf f hf.mem) hz hd cE_ok (hb _), ?_⟩
  refine h _ W bb ok tk w σ H rp en xc _ fun w1 S1 H1 r v l1 r1 i1 ⟨z, hr, k1⟩ => ?_
  cases hr with
  | mk nd hj hds =>
    obtain ⟨e1, ws, g1, g2, g3⟩ := i1
    obtain ⟨u, hu, iu⟩ := IsL.get g3 hds
    exact ⟨e1, rfl, d, _, u, rfl, r1.ex _ _ g1, zip_lookup nd hj.get hu, n w1 S1 H1 (.val z) u l1 r1 iu k1⟩
/-! ### an own class of error, ready to be raised -/
theorem xcc {g : Gd} {A : Addr} {ps fs gs : List Str} {fd : FuncData} (T : ErC g.K A gs) (F : FnOk g.prog g.w g.K g.mg g.base (L2N.CX g.prog g.w) 1 (He.ma g.K A "__init__") fd ps (spXI A fs)) (B : L2.Binds g.K fd ps []) : XcC g A ps fs := ⟨T.oc, _, fd, T.i1, T.i2, F, B⟩
end
/-! ### pure defs that may raise -/
abbrev Ex3 : Type := Addr × List Str × List D
def resP (Ψ : R → Sto → Prop) (ξ : Addr → List Str → List D → Sto → Prop) (S : Sto) : Except Ex3 D → Prop
  | .ok d => Ψ (.val d) S
  | .error e => ξ e.1 e.2.1 e.2.2 S
def spE (A : Type) (arg : A → List D) (pre : A → Prop) (res : A → Except Ex3 D) : DSp := fun rs S Ψ ξ => ∃ a : A, rs = (arg a).map .val ∧ S = [] ∧ pre a ∧ resP Ψ ξ [] (res a)
section
variable {C : DC} {env : Nv} {S : Sto} {Ψ : R → Sto → Prop}
theorem RaiC.now {n0 : Nat} {ξ : Addr → List Str → List D → Sto → Prop} {c : Addr} {fs : List Str} {ds : List D} {S : Sto} (h0 : n0 ≤ S.length) (h1 : S.all (Node.okB S.length) = true) (h : ξ c fs ds S) : RaiC n0 ξ c fs ds [] S :=
  ⟨S.length, h0, Nat.le_refl _, by rw [List.take_length]; exact h1, by rw [List.take_length]; exact h⟩
theorem RaiC.cut {ξ : Addr → List Str → List D → Sto → Prop} {c : Addr} {fs : List Str} {ds : List D} {S T : Sto} (h1 : S.all (Node.okB S.length) = true) (h : ξ c fs ds S) : RaiC S.length ξ c fs ds [] (S ++ T) :=
  ⟨S.length, Nat.le_refl _, by simp, by rw [List.take_left]; exact h1, by rw [List.take_left]; exact h⟩
theorem RaiC.cut0 {ξ : Addr → List Str → List D → Sto → Prop} {c : Addr} {fs : List Str} {ds : List D} {T : Sto} (h : ξ c fs ds []) : RaiC 0 ξ c fs ds [] T :=
  ⟨0, Nat.le_refl _, Nat.zero_le _, rfl, h⟩
end
end DL
set_option Elab.async false
set_option linter.all false
set_option maxRecDepth 100000
set_option maxHeartbeats 4000000
namespace DL
open PySem PySem.Spec PyProof.Rows
open L2 hiding Takes passAt takes_of ps_raise PMk ps_try_as
open L2N (Takes passAt takes_of ps_raise PMk ps_try_as)
/-! ### a list's place is written -/
theorem ixN_of {n j : Nat} (h : j < n) : ixN n (j : Int) = some j := by
  unfold ixN
  rw [if_pos (by omega), if_pos (by omega)]
  congr 1
abbrev tD3 (p : Nat × Nat × Nat) : D := .tup [iN p.1, iN p.2.1, iN p.2.2]
theorem FnD.imp {g : Gd} {k : Nat} {f : Addr} {ps : List Str} {s s' : DSp} (h : FnD g k f ps s) (i : ∀ rs S Ψ ξ, s' rs S Ψ ξ → s rs S Ψ ξ) : FnD g k f ps s' := by
  obtain ⟨⟨fd, F, B⟩, kp⟩ := h
  have key : ∀ vs H Q E, spD g.K s' vs H Q E → spD g.K s vs H Q E := fun vs H Q E ⟨w, S, rs, Ψ, ξ, h1, h2, h3, h4⟩ => ⟨w, S, rs, Ψ, ξ, h1, h2, i _ _ _ _ h3, h4⟩
  exact ⟨⟨fd, ⟨fun vs H Q E z => F.len vs H Q E (key _ _ _ _ z), fun A outer s0 H args us vs Q E hr e0 hb r hs => F.run A outer s0 H args us vs Q E hr e0 hb r (key _ _ _ _ hs)⟩, B⟩, kp⟩
end DL
set_option Elab.async false
set_option linter.all false
set_option maxRecDepth 100000
set_option maxHeartbeats 4000000
namespace DL
open PySem PySem.Spec PyProof.Rows
open L2 hiding Takes passAt takes_of ps_raise PMk ps_try_as
open L2N (Takes passAt takes_of ps_raise PMk ps_try_as)
/-! ### dict(a list of pairs) -/
abbrev kvD (p : Int × D) : D := .tup [.int p.1, p.2]
/-- a text and a number -/
abbrev tcD (p : List Nat × Int) : D := .tup [sL p.1, .int p.2]
end DL
set_option Elab.async false
set_option linter.all false
set_option maxRecDepth 100000
set_option maxHeartbeats 4000000
namespace DL
open PySem PySem.Spec PyProof.Rows PySem.W
open L2 hiding Takes passAt takes_of ps_raise PMk ps_try_as
open L2N (Takes passAt takes_of ps_raise PMk ps_try_as)
/-! ### tuples (number, text): their order -/
def ltT (p q : Int × List Nat) : Prop := p.1 < q.1 ∨ (p.1 = q.1 ∧ p.2 < q.2)
instance (p q : Int × List Nat) : Decidable (ltT p q) := inferInstanceAs (Decidable (_ ∨ _))
def tsD (p : Int × List Nat) : D := .tup [.int p.1, sL p.2]
section
variable {C : DC} {S : Sto} {Ψ : R → Sto → Prop}
end
/-! ### a dict of texts that are all True -/
def nTS (ks : List (List Nat)) : Node := .dK (ks.map fun k => Sum.inr ⟨k.toArray⟩) (ks.map fun _ => R.val (.bl true))
section
variable {C : DC} {env : Nv} {S : Sto} {Ψ : R → Sto → Prop} {E : Nd} {pos p2 : Pos} {o i v : Expr} {r : R}
end
section
variable {C : DC} {S : Sto} {Ψ : R → Sto → Prop}
end
end DL
set_option Elab.async false
set_option linter.all false
set_option maxRecDepth 100000
set_option maxHeartbeats 4000000
namespace DL
open PySem PySem.Spec PyProof.Rows
open L2 hiding Takes passAt takes_of ps_raise PMk ps_try_as
open L2N (Takes passAt takes_of ps_raise PMk ps_try_as)
/-! ### zip of two lists -/
def zipD (ds es : List D) : List D := (ds.zip es).map fun p => .tup [p.1, p.2]
section
variable {C : DC} {env : Nv} {S : Sto} {Λ : List D → (Sto → Prop) → Sto → Prop} {pos p2 tpos : Pos} {e1 e2 : Expr} {elts : List Expr} {kk : Nat}
end
/-! ### f(q = .., p = ..) of a def f(p, q) -/
structure FnDW (g : Gd) (k : Nat) (f : Addr) (p q : Str) (s : DSp) : Prop where
  ok : ∃ fd, FnOk g.prog g.w g.K g.mg g.base (L2N.CX g.prog g.w) k f fd [p, q] (spD g.K s) ∧ L2.Binds g.K fd [p, q] [] ∧ KBinds g.K fd [p, q] [q, p] (fun us ws => us ++ ws.reverse) (fun vs zs => vs ++ zs.reverse)
  kp : PySem.W.keepIn g.K (.ref f) = true
theorem FnDW.d {g : Gd} {k : Nat} {f : Addr} {p q : Str} {s : DSp} (h : FnDW g k f p q s) : FnD g k f [p, q] s := by
  obtain ⟨⟨fd, F, B, _⟩, kp⟩ := h
  exact ⟨⟨fd, F, B⟩, kp⟩
def tCallSK (sp : Sp) (E : L2.St → XK) (t : TA) : TE := fun σ H Q => t σ H fun zs H1 => sp zs.reverse H1 Q (E σ)
section
variable {C : DC} {env : Nv} {S : Sto} {Ψ : R → Sto → Prop} {x : Str} {p2 pos kp1 kp2 : Pos} {e1 e2 : Expr}
end
end DL
set_option Elab.async false
set_option linter.all false
set_option maxRecDepth 100000
set_option maxHeartbeats 4000000
namespace DL
open PySem PySem.Spec PyProof.Rows
open L2 hiding Takes passAt takes_of ps_raise PMk ps_try_as
open L2N (Takes passAt takes_of ps_raise PMk ps_try_as)
theorem sw_cell {e : Expr} {py : Pos} {y : Str} {l : Nat} {en : Env} (hy : en.scope.names.lookup y = some .cell) : swapsWith e (some (.Name y py)) l en = pure false := by
  have ky : en.kindOf y = some .cell := hy
  unfold swapsWith
  have hc : (NameKind.cell == NameKind.local) = false := by decide
  cases e <;> simp [ky, hc]
/-- name = e, the name is used in a comprehension too -/
theorem ws_setCe {C : DC} {env : Nv} {S : Sto} {E : Nd} {e : Expr} {x : Str} {pos p2 : Pos} {i : Nat} (hx : InV x i C.wr) (hy : C.sc.names.lookup x = some .cell) (h : WE C e env S fun r S1 => E.nx (env.set i (some r)) S1) : WS C (.Assign [.Name x p2] e pos) env S E := fun X W bb ok tk w σ H rp en xc D n => by
  obtain ⟨h1, h2, h3⟩ := ok.wr _ hx.mem
  refine ⟨_, ps_set ok.nd h1 h2 cE_ok (sw_cell (by rw [ok.sc]; exact hy)) h3, ?_⟩
  exact h X W bb ok tk w σ H rp en xc _ fun w1 S1 H1 r v l1 r1 i1 k1 => n.nx w1 S1 H1 _ _ (l1.n _) r1 ((en.mono l1).set i i1) k1
end DL
set_option Elab.async false
set_option linter.all false
set_option maxRecDepth 100000
set_option maxHeartbeats 4000000
namespace DL
open PySem PySem.Spec PyProof.Rows
open L2 hiding Takes passAt takes_of ps_raise PMk ps_try_as
open L2N (Takes passAt takes_of ps_raise PMk ps_try_as)
/-! ### a list walked to its end while an error is handled -/
/-! ### [y for y in iter if y] while an error is handled: iter a list of bools -/
def tLcB (te : TE) : TE := fun σ H Q => te σ H fun x H1 => ∃ (a : Addr) (bs : List Bool), x = .ref a ∧ H1 a = some (.lst (bs.map V.bl)) ∧ ∀ D, H1 D = none → Q (.ref D) (upd H1 D (.lst ((bs.filter id).map V.bl)))
end DL
set_option Elab.async false
set_option linter.all false
set_option maxRecDepth 100000
set_option maxHeartbeats 4000000
namespace DL
open PySem PySem.Spec PyProof.Rows
open L2 hiding Takes passAt takes_of ps_raise PMk ps_try_as
open L2N (Takes passAt takes_of ps_raise PMk ps_try_as)
/-! ### operators that an own class defines: +, -, *, == -/
def rBinO (A : Addr) (sp : Sp) : R2 := fun x y H Q => ∃ (a dx : Addr) (fs : List (Str × V)) (b dy : Addr) (gs : List (Str × V)), x = .ref a ∧ y = .ref b ∧ H a = some (.ins A dx fs) ∧ H b = some (.ins A dy gs) ∧ sp [.ref a, .ref b] H Q E0
def rEqO (K : PySem.W.Frag) (A : Addr) (sp : Sp) : R2 := fun x y H Q => ∃ (a dx : Addr) (fs : List (Str × V)) (T : String), x = .ref a ∧ H a = some (.ins A dx fs) ∧ TyX K H y (.type T) ∧ PySem.W.notFirst K A (.type T) = true ∧ sp [.ref a, y] H Q E0
theorem back_own {X : Cx} {pins : List (Addr × Obj)} {σ : L2.St} {Q : VK} {u : Value} {s : Shared} (h : EP X pins σ Q u s) : PySem.W.CmpBack (EP X pins σ Q) u s := by
  obtain ⟨z, H', I', rz, q⟩ := id h
  unfold PySem.W.CmpBack
  cases z with
  | non => cases (show u = _ from rz); exact h
  | bl b => cases (show u = _ from rz); exact h
  | int i => obtain ⟨t, e⟩ := (show ∃ t, u = _ from rz); subst e; exact h
  | str i => obtain ⟨t, e⟩ := (show ∃ t, u = _ from rz); subst e; exact h
  | byt i => obtain ⟨t, e⟩ := (show ∃ t, u = _ from rz); subst e; exact h
  | flt i => obtain ⟨t, e⟩ := (show ∃ t, u = _ from rz); subst e; exact h
  | ref a => cases (show u = _ from rz); exact h
  | ty n => cases (show u = _ from rz); exact h
section
variable {X : Cx} {CX : CXT} {k : Nat} {ff A : Addr} {fd : FuncData} {ps : List Str} {sp : Sp}
theorem call_own2 (F : FnOk X.prog X.w X.K X.mg X.base CX k ff fd ps sp) (hr : Room k X.A) (hb : Binds X.K fd ps []) (hx : Passes CX X E0) {pins : List (Addr × Obj)} {s : Shared} {σ : L2.St} {H : Hp} {a : Addr} {y : V} {u : Value} {Q : VK} (I : Inv X pins σ H s) (ry : RelV y u) (h : sp [.ref a, y] H Q E0) :
    wpAny (model X.prog X.w) X.A (call (.ref ff) [.ref a, u]) (PySem.W.CmpBack (EP X pins σ Q)) X.xe s := by
  have hl := F.len _ _ _ _ h
  have r2 : Vals [V.ref a, y] [Value.ref a, u] := .cons rfl (.cons ry .nil)
  refine wpAny_call (codeAny_mono (F.run X.A X.stack s H ⟨[.ref a, u], []⟩ [.ref a, u] [.ref a, y] Q E0 hr I.env0 (by
    have := hb s [.ref a, u] I.kIn (by simpa using hl)
    simpa using this) r2 h) fun r s' hq => ?_)
  cases r with
  | error e => exact hx pins σ H s e s' I hq
  | ok fl =>
    cases fl with
    | ret w => exact back_own (I.after hq)
    | next => exact False.elim hq
    | brk => exact False.elim hq
    | cont => exact False.elim hq
theorem op_binOwn {op : Operator} (F : FnOk X.prog X.w X.K X.mg X.base CX k ff fd ps sp) (hr : Room k X.A) (hb : Binds X.K fd ps []) (hc : PySem.W.selfFirst X.K A = true)
    (hs : PySem.W.findIn X.K (.ref A) (PySem.dunder op.info.2) = some (some (.ref ff))) (hf : PySem.W.isFn X.K (.ref ff) = true) (hx : Passes CX X E0) : OpR X (binaryOp op) (rBinO A sp) := by
  intro pins s σ H x y v u Q I rx ry h
  obtain ⟨a, dx, fs, b, dy, gs, rfl, rfl, ha, hb', h⟩ := h
  cases (show v = Value.ref a from rx)
  cases (show u = Value.ref b from ry)
  obtain ⟨mA, J, _⟩ := ins_get I.hok ha
  obtain ⟨mB, J', _⟩ := ins_get I.hok hb'
  obtain ⟨od, J, _⟩ := J.look
  obtain ⟨od', J', _⟩ := J'.look
  obtain ⟨m, hF⟩ := I.fr
  exact PySem.W.binop_K hF I.ok.mod.kin J J'.type hc hs hf (call_own2 (y := .ref b) F hr hb hx I rfl h)
theorem op_eqOwn (F : FnOk X.prog X.w X.K X.mg X.base CX k ff fd ps sp) (hr : Room k X.A) (hb : Binds X.K fd ps [])
    (hs : PySem.W.findIn X.K (.ref A) "__eq__" = some (some (.ref ff))) (hf : PySem.W.isFn X.K (.ref ff) = true) (hx : Passes CX X E0) : OpR X (compareOp .Eq) (rEqO X.K A sp) := by
  intro pins s σ H x y v u Q I rx ry h
  obtain ⟨a, dx, fs, T, rfl, ha, ty, hn, h⟩ := h
  cases (show v = Value.ref a from rx)
  obtain ⟨P, kx, hP, _⟩ := kit_of I ry ty
  obtain ⟨mA, J, _⟩ := ins_get I.hok ha
  obtain ⟨od, J, _⟩ := J.look
  obtain ⟨m, hF⟩ := I.fr
  exact PySem.W.cmp_K (op := .Eq) (tb := .type T) hr.units0 hF I.ok.mod.kin J (kx.ty _ _ I.kIn hP) hn hs hf (call_own2 F hr hb hx I ry h)
theorem op_eqOwn2 (F : FnOk X.prog X.w X.K X.mg X.base CX k ff fd ps sp) (hr : Room k X.A) (hb : Binds X.K fd ps [])
    (hs : PySem.W.findIn X.K (.ref A) "__eq__" = some (some (.ref ff))) (hf : PySem.W.isFn X.K (.ref ff) = true) (hx : Passes CX X E0) : OpR X (compareOp .Eq) (rBinO A sp) := by
  intro pins s σ H x y v u Q I rx ry h
  obtain ⟨a, dx, fs, b, dy, gs, rfl, rfl, ha, hb', h⟩ := h
  cases (show v = Value.ref a from rx)
  cases (show u = Value.ref b from ry)
  obtain ⟨mA, J, _⟩ := ins_get I.hok ha
  obtain ⟨mB, J', _⟩ := ins_get I.hok hb'
  obtain ⟨od, J, _⟩ := J.look
  obtain ⟨od', J', _⟩ := J'.look
  obtain ⟨m, hF⟩ := I.fr
  exact PySem.W.cmp_K (op := .Eq) (tb := .ref A) hr.units0 hF I.ok.mod.kin J J'.type (by simp [PySem.W.notFirst]) hs hf (call_own2 (y := .ref b) F hr hb hx I rfl h)
end
section
variable {C : DC} {env : Nv} {S : Sto} {Ψ : R → Sto → Prop} {x y : R} {ff A : Addr} {k : Nat} {ps n1 n2 : List Str} {s : DSp}
theorem wo_binO {op : Operator} (G : FnD C.g k ff ps s) (hsf : PySem.W.selfFirst C.g.K A = true) (hs : PySem.W.findIn C.g.K (.ref A) (PySem.dunder op.info.2) = some (some (.ref ff))) (hf : PySem.W.isFn C.g.K (.ref ff) = true) (hk : k ≤ C.k) (hc : C.calm = true)
    (hx : InsR S x A n1) (hy : InsR S y A n2) (h : ∀ D : DC, FnC D s [x, y] [] S Ψ) : WO C (binaryOp op) x y S Ψ := fun X b ok w H rp v u hv hu Q nn => by
  obtain ⟨g, cN, csc, vis, wr, gl, kk, calm, n0, xi, ho⟩ := C
  have eg : gdOf X = g := ok.gd
  subst eg
  obtain ⟨⟨fd, F, B⟩, kp⟩ := G
  obtain ⟨a, dx, vs, e1, ha⟩ := hx.at_ rp hv
  obtain ⟨a2, dy, us, e2, hb⟩ := hy.at_ rp hu
  refine ⟨_, op_binOwn F ((ok.calm hc).2.mono hk) B hsf hs hf passX, a, dx, _, a2, dy, _, e1, e2, ha, hb, ?_⟩
  subst e1 e2
  exact (h ⟨gdOf X, cN, csc, vis, wr, gl, kk, calm, b.as0.length, fun _ _ _ _ _ => False, ho⟩).run (W := fun _ _ _ _ => False) (σ := []) rp ⟨rfl, fun i r e => by simp at e⟩ ⟨Nat.le_refl _, fun _ _ _ _ _ _ _ _ _ _ _ _ _ _ _ _ z => z⟩ (.cons hv (.cons hu .nil)) nn
theorem wo_eqO2 (G : FnD C.g k ff ps s) (hs : PySem.W.findIn C.g.K (.ref A) "__eq__" = some (some (.ref ff))) (hf : PySem.W.isFn C.g.K (.ref ff) = true) (hk : k ≤ C.k) (hc : C.calm = true)
    (hx : InsR S x A n1) (hy : InsR S y A n2) (h : ∀ D : DC, FnC D s [x, y] [] S Ψ) : WO C (compareOp .Eq) x y S Ψ := fun X b ok w H rp v u hv hu Q nn => by
  obtain ⟨g, cN, csc, vis, wr, gl, kk, calm, n0, xi, ho⟩ := C
  have eg : gdOf X = g := ok.gd
  subst eg
  obtain ⟨⟨fd, F, B⟩, kp⟩ := G
  obtain ⟨a, dx, vs, e1, ha⟩ := hx.at_ rp hv
  obtain ⟨a2, dy, us, e2, hb⟩ := hy.at_ rp hu
  refine ⟨_, op_eqOwn2 F ((ok.calm hc).2.mono hk) B hs hf passX, a, dx, _, a2, dy, _, e1, e2, ha, hb, ?_⟩
  subst e1 e2
  exact (h ⟨gdOf X, cN, csc, vis, wr, gl, kk, calm, b.as0.length, fun _ _ _ _ _ => False, ho⟩).run (W := fun _ _ _ _ => False) (σ := []) rp ⟨rfl, fun i r e => by simp at e⟩ ⟨Nat.le_refl _, fun _ _ _ _ _ _ _ _ _ _ _ _ _ _ _ _ z => z⟩ (.cons hv (.cons hu .nil)) nn
/-- x == y, y of another kind -/
theorem wo_eqO {T : String} (G : FnD C.g k ff ps s) (hs : PySem.W.findIn C.g.K (.ref A) "__eq__" = some (some (.ref ff))) (hf : PySem.W.isFn C.g.K (.ref ff) = true) (hk : k ≤ C.k) (hc : C.calm = true)
    (hx : InsR S x A n1) (hy : tyR S y = some T) (hn : PySem.W.notFirst C.g.K A (.type T) = true) (h : ∀ D : DC, FnC D s [x, y] [] S Ψ) : WO C (compareOp .Eq) x y S Ψ := fun X b ok w H rp v u hv hu Q nn => by
  obtain ⟨g, cN, csc, vis, wr, gl, kk, calm, n0, xi, ho⟩ := C
  have eg : gdOf X = g := ok.gd
  subst eg
  obtain ⟨⟨fd, F, B⟩, kp⟩ := G
  obtain ⟨a, dx, vs, e1, ha⟩ := hx.at_ rp hv
  have ty := tyR_is rp hu hy
  refine ⟨_, op_eqOwn F ((ok.calm hc).2.mono hk) B hs hf passX, a, dx, _, T, e1, ha, ty, hn, ?_⟩
  subst e1
  exact (h ⟨gdOf X, cN, csc, vis, wr, gl, kk, calm, b.as0.length, fun _ _ _ _ _ => False, ho⟩).run (W := fun _ _ _ _ => False) (σ := []) rp ⟨rfl, fun i r e => by simp at e⟩ ⟨Nat.le_refl _, fun _ _ _ _ _ _ _ _ _ _ _ _ _ _ _ _ z => z⟩ (.cons hv (.cons hu .nil)) nn
end
theorem notFirst_T {K : PySem.W.Frag} {A : Addr} {T : String} (h : T = "NoneType" ∨ T = "int" ∨ T = "str" ∨ T = "tuple") : PySem.W.notFirst K A (.type T) = true := by
  rcases h with rfl | rfl | rfl | rfl <;> rfl
/-! ### integers of any size -/
section
variable {C : DC} {S : Sto} {Ψ : R → Sto → Prop} {i j : Int}
theorem wo_mulX (hc : CMulX i j) (h : Ψ (.val (.int (i * j))) S) : WO C (binaryOp .Mult) (.val (.int i)) (.val (.int j)) S Ψ := wo_I (fun _ => op_mulX) (z := (.int (i * j))) (fun _ => rfl) hc h
theorem op_fdivX {X : Cx} : OpR X (binaryOp .FloorDiv) (rI CDivP fun i j => .int (i / j)) := opI fun i j _ _ _ _ _ hc q => by
  have h1 : (0 : Int) < j := hc.1
  exact floordiv_int (by omega) (by rw [Int.fdiv_eq_ediv_of_nonneg i (by omega)]; exact q) (.inl hc.2)
theorem wo_fdivX (hc : CDivP i j) (h : Ψ (.val (.int (i / j))) S) : WO C (binaryOp .FloorDiv) (.val (.int i)) (.val (.int j)) S Ψ := wo_I (fun _ => op_fdivX) (z := (.int (i / j))) (fun _ => rfl) hc h
/-- str(i) -/
def strI (i : Int) : Str := toString i
theorem wc_strI (hi : i.natAbs.log2 < 1920) (h : Ψ (.val (.str (strI i))) S) : WC C (.type "str") [.val (.int i)] S Ψ := fun X b ok w H rp vs hv Q n => by
  obtain ⟨v, e, g1⟩ := vals1' hv
  subst e
  have g1 : v = .int i := g1
  subst g1
  exact ⟨_, call_str_int, i, rfl, hi, n.at_ (d := .str _) rp rfl h⟩
end
theorem strI_len {i : Int} (h : i.natAbs.log2 < 1920) : (strI i).length ≤ 4000 := by
  have e := PySem.int_text_length_le (k := 1920) (by decide) h
  show (Str.ofString (toString i)).length ≤ 4000
  rw [PySem.ofString_length]; omega
theorem strL (a b : Str) : (a ++ b).length = a.length + b.length := PyProof.Rows.len_cat a b
section
variable {C : DC} {env : Nv} {S : Sto} {Ψ : R → Sto → Prop} {e f : Expr} {pos p1 p2 p3 : Pos} {s : Str} {q : Int}
/-- f"{e}..{f}", both integers -/
theorem we_fstr2 {kk : Nat} (hs : s.length ≤ 1000) (h : WE C e env S fun r S1 => ∃ i : Int, r = .val (.int i) ∧ i.natAbs.log2 < 1920 ∧ WE C f env S1 fun r2 S2 => ∃ j : Int, r2 = .val (.int j) ∧ j.natAbs.log2 < 1920 ∧ Ψ (.val (.str (((Str.empty ++ strI i) ++ s) ++ strI j))) S2) :
    WE C (.JoinedStr [.FormattedValue e (-1) none p1, .Constant (.str s) kk p2, .FormattedValue f (-1) none p3] pos) env S Ψ := fun X W bb ok tk w σ H rp en xc Q n => by
  refine ⟨_, pe_joined (.cons (pe_fmt cE_ok) (.cons pe_str (.cons (pe_fmt cE_ok) .nil))), ?_⟩
  refine h X W bb ok tk w σ H rp en xc _ fun w1 S1 H1 r v l1 r1 i1 ⟨i, e1, hi, k1⟩ => ?_
  subst e1
  have i1 : v = .int i := i1
  subst i1
  have li := strI_len hi
  refine .inr ⟨i, rfl, hi, strI i, rfl, ?_, s, rfl, ?_, ?_⟩
  · rw [strL, sizeLine_eq]; show (Str.empty).length + _ ≤ _; have : Str.empty.length = 0 := rfl; omega
  · rw [strL, strL, sizeLine_eq]; have : Str.empty.length = 0 := rfl; omega
  refine k1 X W bb ok tk w1 σ H1 r1 (en.mono l1) (xc.mono l1) _ fun w2 S2 H2 r v l2 r2 i2 ⟨j, e2, hj, hq⟩ => ?_
  subst e2
  have i2 : v = .int j := i2
  subst i2
  have lj := strI_len hj
  refine .inr ⟨j, rfl, hj, strI j, rfl, ?_, ?_⟩
  · rw [strL, strL, strL, sizeLine_eq]; have : Str.empty.length = 0 := rfl; omega
  exact n w2 S2 H2 (.val (.str _)) _ (l1.trans l2) r2 rfl hq
end
end DL
set_option Elab.async false
set_option linter.all false
set_option maxRecDepth 100000
set_option maxHeartbeats 4000000
namespace DL
open PySem PySem.Spec PyProof.Rows
open L2 hiding Takes passAt takes_of ps_raise PMk ps_try_as
open L2N (Takes passAt takes_of ps_raise PMk ps_try_as)
/-! ### isinstance(x, A), A an own class -/
structure OwnC (K : PySem.W.Frag) (A : Addr) : Prop where
  cl : Cls K A
  ca : PySem.W.findIn K (.ref A) "__class__" = some (some (.builtin "object.__class__"))
  gs : PySem.W.specialIn K (.builtin "object.__class__") "__get__" = some (some (.builtin "getset_descriptor.__get__"))
  tk : PySem.W.takesIn K (.builtin "object.__class__") = some true
  mr : PySem.W.mroIn K A (.type "object") = some true
  sf : PySem.W.selfFirst K A = true
  k0 : PySem.W.kitOne K (.type "NoneType") (.ref A) = some false
  k1 : PySem.W.kitOne K (.type "int") (.ref A) = some false
  k2 : PySem.W.kitOne K (.type "str") (.ref A) = some false
  k3 : PySem.W.kitOne K (.type "tuple") (.ref A) = some false
theorem ownB_ok {K : PySem.W.Frag} {A : Addr} (hc : Cls K A) (h : ownB K A = true) : OwnC K A := by
  unfold ownB at h
  simp only [Bool.and_eq_true, decide_eq_true_eq] at h
  obtain ⟨h1, h2, h3, h4, h5, h6, h7, h8, h9⟩ := h
  exact ⟨hc, h1, h2, h3, h4, h5, h6, h7, h8, h9⟩
section
variable {C : DC} {S : Sto} {Ψ : R → Sto → Prop} {A : Addr} {r : R} {fs : List Str} {T : String}
theorem wc_isO1 (T : OwnC C.g.K A) (hr : InsR S r A fs) (h : Ψ (.val (.bl true)) S) : WC C (.builtin "isinstance") [r, .val (.opq (.ref A))] S Ψ := fun X b ok w H rp vs hv Q n => by
  obtain ⟨v, u, e, h1, h2⟩ := vals2' hv
  subst e
  have h2 : u = .ref A := h2
  subst h2
  obtain ⟨a, dx, us, e1, ha⟩ := hr.at_ rp h1
  subst e1
  rw [← ok.K] at T
  exact ⟨_, call_isi, .ref a, .ref A, .ref A, .ref A, true, rfl, .own A, .base (.ins ha T.cl T.ca T.gs T.tk T.mr), (if_pos (by simp)), n.at_ (d := .bl true) rp rfl h⟩
theorem wc_isO0 (O : OwnC C.g.K A) (hr : tyR S r = some T) (ht : T = "NoneType" ∨ T = "int" ∨ T = "str" ∨ T = "tuple") (h : Ψ (.val (.bl false)) S) : WC C (.builtin "isinstance") [r, .val (.opq (.ref A))] S Ψ := fun X b ok w H rp vs hv Q n => by
  obtain ⟨v, u, e, h1, h2⟩ := vals2' hv
  subst e
  have h2 : u = .ref A := h2
  subst h2
  have ty := tyR_is rp h1 hr
  rw [← ok.K] at ty O
  have hk : PySem.W.kitOne X.K (.type T) (.ref A) = some false := by
    rcases ht with rfl | rfl | rfl | rfl
    · exact O.k0
    · exact O.k1
    · exact O.k2
    · exact O.k3
  exact ⟨_, call_isi, v, .ref A, .type T, .ref A, false, rfl, .own A, ty, hk, n.at_ (d := .bl false) rp rfl h⟩
end
/-! ### fractions -/
/-- over and under in lowest terms, under above 0 -/
def shF (o u : Int) : Int × Int := ((if 0 < u then o else -o) / (Nat.gcd o.natAbs u.natAbs : Nat), (u.natAbs : Int) / (Nat.gcd o.natAbs u.natAbs : Nat))
structure ShB (n : Nat) (p : Int × Int) : Prop where
  pos : 0 < p.2
  b1 : p.1.natAbs < 2 ^ n
  b2 : p.2.natAbs < 2 ^ n
theorem ShB.mono {n m : Nat} {p : Int × Int} (h : ShB n p) (hm : n ≤ m) : ShB m p := ⟨h.pos, Nat.lt_of_lt_of_le h.b1 (Nat.pow_le_pow_right (by decide) hm), Nat.lt_of_lt_of_le h.b2 (Nat.pow_le_pow_right (by decide) hm)⟩
theorem ediv_natAbs {a : Int} {g : Nat} (hg : 0 < g) : (a / (g : Int)).natAbs ≤ a.natAbs := by
  cases a with
  | ofNat m =>
    show (((m : Int) / (g : Int))).natAbs ≤ m
    rw [← Int.natCast_ediv, Int.natAbs_natCast]
    exact Nat.div_le_self _ _
  | negSucc m =>
    obtain ⟨k, rfl⟩ : ∃ k, g = k + 1 := ⟨g - 1, by omega⟩
    show (Int.negSucc m / ((k + 1 : Nat) : Int)).natAbs ≤ m + 1
    rw [Int.negSucc_ediv _ (by omega)]
    show (-((m : Int) / ((k + 1 : Nat) : Int) + 1)).natAbs ≤ m + 1
    have : ((m : Int) / ((k + 1 : Nat) : Int)).natAbs ≤ m := by
      rw [← Int.natCast_ediv, Int.natAbs_natCast]
      exact Nat.div_le_self _ _
    omega
theorem shF_ok {n : Nat} {o u : Int} (hu : u ≠ 0) (h1 : o.natAbs < 2 ^ n) (h2 : u.natAbs < 2 ^ n) : ShB n (shF o u) := by
  have hg : 0 < Nat.gcd o.natAbs u.natAbs := Nat.gcd_pos_of_pos_right _ (by omega)
  refine ⟨?_, ?_, ?_⟩
  · show (0 : Int) < (u.natAbs : Int) / _
    rw [← Int.natCast_ediv]
    have := Nat.div_pos (Nat.le_of_dvd (by omega) (Nat.gcd_dvd_right o.natAbs u.natAbs)) hg
    omega
  · refine Nat.lt_of_le_of_lt (ediv_natAbs hg) ?_
    split
    · exact h1
    · rw [Int.natAbs_neg]; exact h1
  · refine Nat.lt_of_le_of_lt (ediv_natAbs hg) ?_
    rw [Int.natAbs_natCast]; exact h2
theorem mul_lt2 {a b : Int} {n m : Nat} (h1 : a.natAbs < 2 ^ n) (h2 : b.natAbs < 2 ^ m) : (a * b).natAbs < 2 ^ (n + m) := by
  rw [Int.natAbs_mul, Nat.pow_add]
  have := Nat.two_pow_pos m
  by_cases hz : a.natAbs = 0
  · rw [hz, Nat.zero_mul]; exact Nat.mul_pos (Nat.two_pow_pos n) this
  · exact Nat.mul_lt_mul'' h1 h2
theorem add_lt2 {a b : Int} {n : Nat} (h1 : a.natAbs < 2 ^ n) (h2 : b.natAbs < 2 ^ n) : (a + b).natAbs < 2 ^ (n + 1) := by
  have := Int.natAbs_add_le a b
  rw [Nat.pow_succ]
  omega
theorem sub_lt2 {a b : Int} {n : Nat} (h1 : a.natAbs < 2 ^ n) (h2 : b.natAbs < 2 ^ n) : (a - b).natAbs < 2 ^ (n + 1) := by
  rw [Int.sub_eq_add_neg]
  exact add_lt2 h1 (by rw [Int.natAbs_neg]; exact h2)
def adF (p q : Int × Int) : Int × Int := shF (p.1 * q.2 + q.1 * p.2) (p.2 * q.2)
def sbF (p q : Int × Int) : Int × Int := shF (p.1 * q.2 - q.1 * p.2) (p.2 * q.2)
def mlF (p q : Int × Int) : Int × Int := shF (p.1 * q.1) (p.2 * q.2)
theorem pow_up {a n m : Nat} (h : a < 2 ^ n) (hm : n ≤ m) : a < 2 ^ m := Nat.lt_of_lt_of_le h (Nat.pow_le_pow_right (by decide) hm)
theorem adF_ok {n m : Nat} {p q : Int × Int} (hp : ShB n p) (hq : ShB m q) : ShB (n + m + 1) (adF p q) :=
  shF_ok (by have := Int.mul_pos hp.pos hq.pos; omega) (add_lt2 (mul_lt2 hp.b1 hq.b2) (by rw [Nat.add_comm n m]; exact mul_lt2 hq.b1 hp.b2)) (pow_up (mul_lt2 hp.b2 hq.b2) (by omega))
theorem mlF_ok {n m : Nat} {p q : Int × Int} (hp : ShB n p) (hq : ShB m q) : ShB (n + m) (mlF p q) :=
  shF_ok (by have := Int.mul_pos hp.pos hq.pos; omega) (mul_lt2 hp.b1 hq.b1) (mul_lt2 hp.b2 hq.b2)
theorem sbF_eq (p q : Int × Int) : sbF p q = adF p (0 - q.1, q.2) := by
  unfold sbF adF
  dsimp only
  rw [Int.sub_mul, Int.zero_mul, Int.zero_sub, Int.sub_eq_add_neg]
/-- one turn of Euclid's steps halves the product -/
theorem euc {a b : Nat} (h : a < b) (h0 : 0 < a) : b % a < a ∧ (b % a) * a * 2 ≤ a * b := by
  have h1 := Nat.mod_lt b h0
  refine ⟨h1, ?_⟩
  have e := Nat.div_add_mod b a
  have hd : 1 ≤ b / a := Nat.div_pos (by omega) h0
  have h2 : a * 1 ≤ a * (b / a) := Nat.mul_le_mul_left a hd
  have h3 : (b % a) * 2 ≤ b := by omega
  calc (b % a) * a * 2 = a * ((b % a) * 2) := by rw [Nat.mul_comm (b % a) a, Nat.mul_assoc]
    _ ≤ a * b := Nat.mul_le_mul_left a h3
theorem log2_lt {n k : Nat} (h : n < 2 ^ k) (hk : 0 < k) : n.log2 < k := by
  by_cases h0 : n = 0
  · subst h0; simpa using hk
  · exact (Nat.log2_lt h0).mpr h
theorem bits_le {i : Int} {n : Nat} (h : i.natAbs < 2 ^ n) : Builtin.Int.intBits i ≤ n := PyProof.Rows.intBits_le h
theorem cdiv_ok {i j : Int} {n : Nat} (hj : 0 < j) (h : i.natAbs < 2 ^ n) (hn : n ≤ 4000) : CDivP i j := divp_ok hj (by have := bits_le h; omega)
end DL
set_option Elab.async false
set_option linter.all false
set_option maxRecDepth 100000
set_option maxHeartbeats 4000000
namespace DL
open PySem PySem.Spec PyProof.Rows
open L2 hiding Takes passAt takes_of ps_raise PMk ps_try_as
open L2N (Takes passAt takes_of ps_raise PMk ps_try_as)
/-! ### x, y = a, b -/
def isSt : Expr → Bool
  | .Starred .. => true
  | _ => false
theorem sw_par {a b : Expr} {x y : Str} {px py pt : Pos} {kt k2 : Nat} {pt2 : Pos} {en : Env} (hk : en.scope.kind = .function) (hx : en.scope.names.lookup x = some .local) (hy : en.scope.names.lookup y = some .local)
    (hl : (py.line == px.line) = true) (hne : (x == y) = false) (hsa : isSt a = false) (hsb : isSt b = false) (hf : [a, b].all (foldedForSure 8) = false) (hc : [a, b].all (constantsAlone 8) = false) :
    swappedStores [.Tuple [.Name x px, .Name y py] kt pt] (.Tuple [a, b] k2 pt2) en = pure (some [x, y]) := by
  have kx : en.kindOf x = some .local := hx
  have ky : en.kindOf y = some .local := hy
  have kb : en.blockKind = .function := by unfold Env.blockKind; rw [hk]; rfl
  have e1 : (NameKind.local == NameKind.local) = true := rfl
  have e2 : (ScopeKind.function != ScopeKind.function) = false := rfl
  have hne2 : (y == x) = false := by rw [← hne]; exact Bool.beq_comm
  have q1 : (if en.kindOf x == some NameKind.local && px.line == px.line then some x else none) = some x := by rw [kx]; simp
  have q2 : (if en.kindOf y == some NameKind.local && py.line == px.line then some y else none) = some y := by rw [ky, hl]; rfl
  have ed : [x, y].eraseDups = [x, y] := by simp [List.eraseDups, List.eraseDupsBy, List.eraseDupsBy.loop, hne2]
  have fm : List.filterMap (fun | .Name id pos => if en.kindOf id == some NameKind.local && pos.line == px.line then some id else none | _ => none) [Expr.Name x px, Expr.Name y py] = [x, y] := by
    rw [List.filterMap_cons, List.filterMap_cons]
    dsimp only
    rw [q1, q2]; rfl
  have F : ∀ f : Expr → Option Str, f = (fun | .Name id pos => if en.kindOf id == some NameKind.local && pos.line == px.line then some id else none | _ => none) → List.filterMap f [Expr.Name x px, Expr.Name y py] = [x, y] := fun f e => by rw [e]; exact fm
  unfold swappedStores
  show (if (!(2 == 2 || 2 == 3) || 2 != 2 || en.blockKind != .function) = true then pure none else if (isSt a || (isSt b || false)) = true then pure none else (fun names : List Str => if (names.length != 2 || names.eraseDups.length != names.length) = true then pure none else if ([a, b].all (foldedForSure 8)) = true then pure none else (if ([a, b].all (constantsAlone 8)) = true then ((unsupported "assign.tuple-of-constant-expressions:order-of-the-stores" : Sem Unit) >>= fun _ => pure (some names)) else pure (some names))) (List.filterMap (fun | .Name id pos => if en.kindOf id == some NameKind.local && pos.line == px.line then some id else none | _ => none) [Expr.Name x px, Expr.Name y py])) = _
  rw [fm, kb, hsa, hsb]
  dsimp only
  rw [ed, hf, hc]
  rfl
theorem ws_par {C : DC} {env : Nv} {S : Sto} {E : Nd} {a b : Expr} {x y : Str} {px py pt pt2 pos : Pos} {kt k2 i j : Nat} (hc : C.calm = true) (hx : InV x i C.wr) (hy : InV y j C.wr) (hij : i ≠ j)
    (hlx : C.sc.names.lookup x = some .local) (hly : C.sc.names.lookup y = some .local) (hk : C.sc.kind = .function) (hl : (py.line == px.line) = true) (hne : (x == y) = false) (hsa : isSt a = false) (hsb : isSt b = false) (hf : [a, b].all (foldedForSure 8) = false) (hca : [a, b].all (constantsAlone 8) = false)
    (h : WA C [a, b] env S fun rs S1 => ∃ r q, rs = [r, q] ∧ E.nx ((env.set i (some r)).set j (some q)) S1) (hs : ∀ X : Cx, swapsWithSole [.Tuple [.Name x px, .Name y py] kt pt] (.Tuple [a, b] k2 pt2) pos.line X.env = pure false) :
    WS C (.Assign [.Tuple [.Name x px, .Name y py] kt pt] (.Tuple [a, b] k2 pt2) pos) env S E := fun X W bb ok tk w σ H rp en xc D n => by
  obtain ⟨h1, h2, h3⟩ := ok.wr _ hx.mem
  obtain ⟨g1, g2, g3⟩ := ok.wr _ hy.mem
  refine ⟨_, ps_par (ok.calm hc).1 ok.nd h1 g1 hij (by rw [ok.sc]; exact hlx) (by rw [ok.sc]; exact hly) cA_ok (sw_par (by rw [ok.sc]; exact hk) (by rw [ok.sc]; exact hlx) (by rw [ok.sc]; exact hly) hl hne hsa hsb hf hca) (hs X), ?_⟩
  refine h X W bb ok tk w σ H rp en xc _ fun w1 S1 H1 rs vs l1 r1 i1 ⟨r, q, er, k1⟩ => ?_
  subst er
  obtain ⟨v, u, ev, q1, q2⟩ := vals2' i1
  subst ev
  exact ⟨v, u, rfl, n.nx w1 S1 H1 _ _ (l1.n _) r1 (((en.mono l1).set i q1).set j q2) k1⟩
end DL
set_option Elab.async false
set_option linter.all false
set_option maxRecDepth 100000
set_option maxHeartbeats 4000000
namespace DL
open PySem PySem.Spec PyProof.Rows
open L2 hiding Takes passAt takes_of ps_raise PMk ps_try_as
open L2N (Takes passAt takes_of ps_raise PMk ps_try_as)
local macro_rules | `(tactic| walk_at "inv") => `(tactic| ((try dsimp only); repeat (first | with_reducible exact InV.here | with_reducible apply InV.there)))
local macro_rules | `(tactic| walk_at "ing") => `(tactic| ((try dsimp only); repeat (first | with_reducible exact InG.here | with_reducible apply InG.there)))
local macro_rules | `(tactic| walk_at "nb") => `(tactic| first | assumption | (dsimp only; refine BltF.at_ (by assumption) ?_; repeat (first | with_reducible exact InG.here | with_reducible apply InG.there)))
local macro_rules | `(tactic| walk_at "s") => `(tactic| first
  | refine wss_cons ?_ | refine wss_nil ?_ | refine ws_set (by walk_at "inv") ?_ (fun _ => rfl) | refine ws_if ?_ | refine ws_ret ?_ | refine ws_aug (by walk_at "inv") rfl ?_
  | refine ws_expr ?_ (fun _ => rfl) | refine ws_pass ?_ | refine ws_break ?_ | refine ws_cont ?_ | refine ws_retN ?_
  | refine ws_setA ?_ (fun _ => rfl) | refine ws_put ?_ (fun _ => rfl) | refine ws_asg ?_ (fun _ => rfl) (fun _ => rfl) (fun _ => rfl))
local macro_rules | `(tactic| walk_at "we") => `(tactic| first
  | refine we_name (by walk_at "inv") rfl ?_ | refine we_int ?_ | refine we_op ?_ | refine we_str ?_
  | refine we_callB (by walk_at "ing") (by walk_at "nb") (by first | exact PySem.boot_len | exact boot_abs | exact boot_min | exact boot_max | exact boot_sorted | exact boot_isinstance) ?_ (fun _ => rfl) (fun _ => rfl)
  | refine we_callT (by walk_at "ing") (by walk_at "nb") (by first | exact boot_tuple | exact boot_list | exact boot_int) ?_ (fun _ => rfl) (fun _ => rfl)
  | refine we_attr ?_ (fun _ => rfl) | refine we_ix ?_ (fun _ _ => rfl) | refine we_tup ?_
  | refine we_append ?_ (fun _ => rfl) (fun _ => rfl) rfl (fun _ => rfl) (fun _ => rfl)
  | refine we_bl ?_ | refine we_non ?_ | refine we_chain ?_ rfl | refine we_cmp ?_ rfl | refine we_one ?_ | refine we_and ?_ | refine we_or ?_ | refine we_not ?_ | refine we_ifx ?_ | refine we_neg ?_ | refine we_slice ?_)
local macro_rules | `(tactic| walk_at "wb") => `(tactic| first | refine we_type (by walk_at "ing") (by walk_at "nb") boot_int ?_ | refine we_type (by walk_at "ing") (by walk_at "nb") boot_bool ?_ | refine we_type (by walk_at "ing") (by walk_at "nb") boot_str ?_ | refine we_type (by walk_at "ing") (by walk_at "nb") boot_tuple ?_)
local macro_rules | `(tactic| walk_at "wt") => `(tactic| first | refine wt_cmp ?_ rfl | refine wt_not ?_ | refine wt_chain ?_ rfl | refine wt_of ?_)
local macro_rules | `(tactic| walk_at "wto") => `(tactic| first | refine wto_and1 ?_ | refine wto_or1 ?_ | refine wto_and ?_ | refine wto_or ?_)
local macro_rules | `(tactic| walk_at "wo") => `(tactic| first
  | refine wo_add ?_ | refine wo_sub ?_ | refine wo_lt ?_ | refine wo_le ?_ | refine wo_gt ?_ | refine wo_ge ?_ | refine wo_eqI ?_ | refine wo_neI ?_ | refine wo_eqL ?_ | refine wo_neL ?_ | refine wo_lt1 ?_ | refine wo_le1 ?_ | refine wo_ge1 ?_ | refine wo_inL ?_ | refine wo_notInL ?_
  | refine wo_mod (by omega) ?_ | refine wo_fdiv ⟨by omega, by omega⟩ ?_ | refine wo_mul (by first | exact Or.inr ⟨by omega, by omega⟩ | exact Or.inl ⟨by omega, by omega⟩) ?_ | refine wo_pow ⟨by omega, by omega, by decide⟩ ?_
  | refine wo_isN (by intro _ h; cases h) ?_ | refine wo_notN (by intro _ h; cases h) ?_)
local macro_rules | `(tactic| walk_at "wc") => `(tactic| first
  | refine wc_len (by first | exact .tup _ | exact .lst _ | exact .bor _ | exact .loc rfl) ?_ | refine wc_int ?_ | refine wc_intB ?_ | refine wc_abs ?_ | refine wc_min2 rfl ?_ | refine wc_max2 rfl ?_ | refine wc_tuple (by first | exact .tup _ | exact .lst _ | exact .bor _ | exact .loc rfl) ?_)
local macro_rules | `(tactic| walk_at "e") => `(tactic| first
  | (with_reducible show WE _ _ _ _ _); walk_at "we"
  | (with_reducible show WT _ _ _ _ _); walk_at "wt"
  | (with_reducible show WTo _ _ _ _ _); walk_at "wto"
  | (with_reducible show WO _ _ _ _ _ _); walk_at "wo"
  | (with_reducible show WA _ _ _ _ _); first | refine wa_cons ?_ (fun _ => rfl) | refine wa_nil ?_
  | (with_reducible show WC _ _ _ _ _); walk_at "wc"
  | (with_reducible show WPO _ _ _ _ _); first | refine wpo_none ?_ | refine wpo_some ?_
  | refine asB_mk ?_ | refine wip_add ?_
  | refine ⟨_, rfl, (by first | decide | exact Nat.le_of_ble_eq_true rfl), ?_⟩)
local macro_rules | `(tactic| walk_at "ew") => `(tactic| ((try simp only [List.set_cons_zero, List.set_cons_succ]); repeat (first | exact EnvW.nil | refine EnvW.keep (by first | rfl | assumption) ?_ | refine EnvW.drop ?_)))
local macro_rules | `(tactic| walk_at "fl") => `(tactic| (refine ⟨_, _, fldL rfl (by repeat (first | with_reducible exact AtN.here | with_reducible apply AtN.there)) rfl, by assumption, NoA.at_ (by assumption) (by walk_at "ing"), ?_⟩))
local macro_rules | `(tactic| walk_at "fv") => `(tactic| (refine ⟨_, _, fldV (by repeat (first | with_reducible exact AtN.here | with_reducible apply AtN.there)) rfl, by assumption, NoA.at_ (by assumption) (by walk_at "ing"), ?_⟩))
end DL
set_option Elab.async false
set_option linter.all false
set_option maxRecDepth 100000
set_option maxHeartbeats 4000000
namespace DL
open PySem PySem.Spec PyProof.Rows
open L2 hiding Takes passAt takes_of ps_raise PMk ps_try_as
open L2N (Takes passAt takes_of ps_raise PMk ps_try_as)
local macro_rules | `(tactic| walk_at "inv") => `(tactic| ((try dsimp only); repeat (first | with_reducible exact InV.here | with_reducible apply InV.there)))
local macro_rules | `(tactic| walk_at "ing") => `(tactic| ((try dsimp only); repeat (first | with_reducible exact InG.here | with_reducible apply InG.there)))
local macro_rules | `(tactic| walk_at "nb") => `(tactic| first | assumption | (dsimp only; refine BltF.at_ (by assumption) ?_; repeat (first | with_reducible exact InG.here | with_reducible apply InG.there)))
local macro_rules | `(tactic| walk_at "s") => `(tactic| first
  | refine wss_cons ?_ | refine wss_nil ?_ | refine ws_set (by walk_at "inv") ?_ (fun _ => rfl) | refine ws_if ?_ | refine ws_ret ?_ | refine ws_aug (by walk_at "inv") rfl ?_
  | refine ws_expr ?_ (fun _ => rfl) | refine ws_pass ?_ | refine ws_break ?_ | refine ws_cont ?_ | refine ws_retN ?_
  | refine ws_setA ?_ (fun _ => rfl) | refine ws_put ?_ (fun _ => rfl) | refine ws_asg ?_ (fun _ => rfl) (fun _ => rfl) (fun _ => rfl))
local macro_rules | `(tactic| walk_at "we") => `(tactic| first
  | refine we_name (by walk_at "inv") rfl ?_ | refine we_int ?_ | refine we_op ?_ | refine we_str ?_
  | refine we_callB (by walk_at "ing") (by walk_at "nb") (by first | exact PySem.boot_len | exact boot_abs | exact boot_min | exact boot_max | exact boot_sorted | exact boot_isinstance) ?_ (fun _ => rfl) (fun _ => rfl)
  | refine we_callT (by walk_at "ing") (by walk_at "nb") (by first | exact boot_tuple | exact boot_list | exact boot_int) ?_ (fun _ => rfl) (fun _ => rfl)
  | refine we_attr ?_ (fun _ => rfl) | refine we_ix ?_ (fun _ _ => rfl) | refine we_tup ?_
  | refine we_append ?_ (fun _ => rfl) (fun _ => rfl) rfl (fun _ => rfl) (fun _ => rfl)
  | refine we_bl ?_ | refine we_non ?_ | refine we_chain ?_ rfl | refine we_cmp ?_ rfl | refine we_one ?_ | refine we_and ?_ | refine we_or ?_ | refine we_not ?_ | refine we_ifx ?_ | refine we_neg ?_ | refine we_slice ?_)
local macro_rules | `(tactic| walk_at "wb") => `(tactic| first | refine we_type (by walk_at "ing") (by walk_at "nb") boot_int ?_ | refine we_type (by walk_at "ing") (by walk_at "nb") boot_bool ?_ | refine we_type (by walk_at "ing") (by walk_at "nb") boot_str ?_ | refine we_type (by walk_at "ing") (by walk_at "nb") boot_tuple ?_)
local macro_rules | `(tactic| walk_at "wt") => `(tactic| first | refine wt_cmp ?_ rfl | refine wt_not ?_ | refine wt_chain ?_ rfl | refine wt_of ?_)
local macro_rules | `(tactic| walk_at "wto") => `(tactic| first | refine wto_and1 ?_ | refine wto_or1 ?_ | refine wto_and ?_ | refine wto_or ?_)
local macro_rules | `(tactic| walk_at "wo") => `(tactic| first
  | refine wo_add ?_ | refine wo_sub ?_ | refine wo_lt ?_ | refine wo_le ?_ | refine wo_gt ?_ | refine wo_ge ?_ | refine wo_eqI ?_ | refine wo_neI ?_ | refine wo_eqL ?_ | refine wo_neL ?_ | refine wo_lt1 ?_ | refine wo_le1 ?_ | refine wo_ge1 ?_ | refine wo_inL ?_ | refine wo_notInL ?_
  | refine wo_mod (by omega) ?_ | refine wo_fdiv ⟨by omega, by omega⟩ ?_ | refine wo_mul (by first | exact Or.inr ⟨by omega, by omega⟩ | exact Or.inl ⟨by omega, by omega⟩) ?_ | refine wo_pow ⟨by omega, by omega, by decide⟩ ?_
  | refine wo_isN (by intro _ h; cases h) ?_ | refine wo_notN (by intro _ h; cases h) ?_)
local macro_rules | `(tactic| walk_at "wc") => `(tactic| first
  | refine wc_len (by first | exact .tup _ | exact .lst _ | exact .bor _ | exact .loc rfl) ?_ | refine wc_int ?_ | refine wc_intB ?_ | refine wc_abs ?_ | refine wc_min2 rfl ?_ | refine wc_max2 rfl ?_ | refine wc_tuple (by first | exact .tup _ | exact .lst _ | exact .bor _ | exact .loc rfl) ?_)
local macro_rules | `(tactic| walk_at "e") => `(tactic| first
  | (with_reducible show WE _ _ _ _ _); walk_at "we"
  | (with_reducible show WT _ _ _ _ _); walk_at "wt"
  | (with_reducible show WTo _ _ _ _ _); walk_at "wto"
  | (with_reducible show WO _ _ _ _ _ _); walk_at "wo"
  | (with_reducible show WA _ _ _ _ _); first | refine wa_cons ?_ (fun _ => rfl) | refine wa_nil ?_
  | (with_reducible show WC _ _ _ _ _); walk_at "wc"
  | (with_reducible show WPO _ _ _ _ _); first | refine wpo_none ?_ | refine wpo_some ?_
  | refine asB_mk ?_ | refine wip_add ?_
  | refine ⟨_, rfl, (by first | decide | exact Nat.le_of_ble_eq_true rfl), ?_⟩)
local macro_rules | `(tactic| walk_at "ew") => `(tactic| ((try simp only [List.set_cons_zero, List.set_cons_succ]); repeat (first | exact EnvW.nil | refine EnvW.keep (by first | rfl | assumption) ?_ | refine EnvW.drop ?_)))
local macro_rules | `(tactic| walk_at "fl") => `(tactic| (refine ⟨_, _, fldL rfl (by repeat (first | with_reducible exact AtN.here | with_reducible apply AtN.there)) rfl, by assumption, NoA.at_ (by assumption) (by walk_at "ing"), ?_⟩))
local macro_rules | `(tactic| walk_at "fv") => `(tactic| (refine ⟨_, _, fldV (by repeat (first | with_reducible exact AtN.here | with_reducible apply AtN.there)) rfl, by assumption, NoA.at_ (by assumption) (by walk_at "ing"), ?_⟩))
/-! ### InvalidNumber -/
theorem scINi : FnScope ["self", "number"] ["self", "number"] (defScope (inClass (top 2) 0)) := ⟨rfl, rfl, rfl, by decide +kernel, rfl, by decide +kernel, by decide +kernel⟩
theorem ok_ini {g : Gd} {fd : FuncData} (F : FunD g.K "__init__" "InvalidNumber.__init__" (defArgs (inClass (top 2) 0)) (defBody (inClass (top 2) 0)) (defScope (inClass (top 2) 0)) [] [] (He.ma g.K (He.ga g.K "InvalidNumber") "__init__") fd) (hb : Binds g.K fd ["self", "number"] [])
    (eIN : ErC g.K (He.ga g.K "InvalidNumber") ["number"]) : XcC g (He.ga g.K "InvalidNumber") ["self", "number"] ["number"] := by
  exact xcc eIN (xinit1 F scINi (by decide +kernel) (by decide +kernel) (by decide +kernel) eIN.oc (eIN.nf _ (by simp))) hb
/-! ### common_divisor -/
abbrev spCD := spF (Nat × Nat) (fun p => [iN p.1, iN p.2]) (fun _ => True) (fun p => iN (Nat.gcd p.1 p.2))
theorem scCD : FnScope ["one", "two"] ["one", "two"] (defScope (top 5)) := ⟨rfl, rfl, rfl, by decide +kernel, rfl, by decide +kernel, by decide +kernel⟩
theorem ok_cd {g : Gd} {f : Addr} {fd : FuncData} (F : FunD g.K "common_divisor" "common_divisor" (defArgs (top 5)) (defBody (top 5)) (defScope (top 5)) [] [] f fd) (hb : Binds g.K fd ["one", "two"] []) :
    FnD g 1 f ["one", "two"] spCD := by
  refine fn_mk F hb scCD (gl := []) [("one", 0), ("two", 1)] (by decide +kernel) (by decide +kernel) (fun rs S Ψ ξ h => ?_) (fun rs S Ψ ξ h => ?_)
  · obtain ⟨_, rfl, _⟩ := h; rfl
  · obtain ⟨⟨a0, b0⟩, rfl, rfl, _, hΨ⟩ := h
    dsimp only at hΨ
    refine wss_cons ?_
    refine ws_while (fun m env S => ∃ a b : Nat, m = b ∧ env = [some (.val (iN a)), some (.val (iN b))] ∧ S = [] ∧ Nat.gcd a b = Nat.gcd a0 b0) b0 (Nat.zero_le _) ⟨a0, b0, rfl, rfl, rfl, rfl⟩ ?_
    rintro m env' S' ⟨a, b, rfl, rfl, rfl, hg⟩
    repeat walk_at "e"
    refine ⟨fun h => ?_, fun h => ?_⟩
    · have hb0 : 0 < m := by have := of_decide_eq_true h; omega
      refine wss_one ?_
      refine ws_par rfl (by walk_at "inv") (by walk_at "inv") (by decide) (by dsimp only; decide +kernel) (by dsimp only; decide +kernel) (by dsimp only; decide +kernel) rfl rfl rfl rfl rfl rfl ?_ (fun _ => rfl)
      repeat walk_at "e"
      refine ⟨_, _, rfl, ?_⟩
      refine ⟨a % m, Nat.mod_lt _ hb0, Wk.now (Nat.le_refl _) rfl rfl ⟨m, a % m, rfl, rfl, rfl, ?_⟩⟩
      rw [← hg, Nat.gcd_comm m (a % m), ← Nat.gcd_rec, Nat.gcd_comm]
    · have hb0 : m = 0 := by have := of_decide_eq_false h; omega
      subst hb0
      rw [Nat.gcd_zero_right] at hg
      subst hg
      refine wss_one ?_
      walk_at "s"
      repeat walk_at "e"
      exact RetC.now (Nat.le_refl _) rfl rfl hΨ
/-! ### Share -/
abbrev shF2 : List Str := ["over", "under"]
theorem oF_nd : shF2.Nodup := by decide +kernel
def shD (A : Addr) (p : Int × Int) : D := .ins A shF2 [.int p.1, .int p.2]
def shN (A : Addr) (p : Int × Int) : Node := .ins A shF2 [.val (.int p.1), .val (.int p.2)]
def prD (p : Int × Int) : D := .tup [.int p.1, .int p.2]
theorem shFld {S : Sto} {f : Str} {j : Nat} {d : D} {A : Addr} {p : Int × Int} (hj : AtN f j shF2) (hd : ([.int p.1, .int p.2] : List D)[j]? = some d) : FldR S f (.val (shD A p)) A (.val d) := .val oF_nd hj hd
theorem shIns (S : Sto) (A : Addr) (p : Int × Int) : InsR S (.val (shD A p)) A shF2 := .val _ _ _
local macro_rules | `(tactic| walk_at "sf") => `(tactic| (refine ⟨_, _, shFld (by repeat (first | with_reducible exact AtN.here | with_reducible apply AtN.there)) rfl, by assumption, NoA.at_ (by assumption) (by walk_at "ing"), ?_⟩))
def spIS (A E : Addr) : DSp := fun rs S Ψ ξ => ∃ o u : Int, rs = [.loc 0, .val (.int o), .val (.int u)] ∧ S = [.ins A [] []] ∧ o.natAbs < 2 ^ 1000 ∧ u.natAbs < 2 ^ 1000 ∧ (u ≠ 0 → Ψ (.val .non) [shN A (shF o u)]) ∧ (u = 0 → ξ E ["number"] [.int 0] [.ins A [] []])
theorem fnc_IS {C : DC} {env : Nv} {S : Sto} {Ψ : R → Sto → Prop} {A E : Addr} {o u : Int} (h1 : o.natAbs < 2 ^ 1000) (h2 : u.natAbs < 2 ^ 1000) (h : u ≠ 0 → Ψ (.val .non) (S ++ [shN A (shF o u)])) (hx : u = 0 → C.xi E ["number"] [.int 0] env (S ++ [.ins A [] []])) : FnC C (spIS A E) [.loc S.length, .val (.int o), .val (.int u)] env (S ++ [.ins A [] []]) Ψ := by
  have bk : ∀ n : Node, (∀ f, n.ren f = n) → backS [S.length] (S ++ [.ins A [] []]) [n] = S ++ [n] := fun n hr => by
    rw [backN hr]; simp
  refine ⟨[S.length], [.ins A [] []], [.loc 0, .val (.int o), .val (.int u)], ⟨by simp, rfl, fun j k hj => ?_, rfl⟩, .cons (.loc rfl) (.cons (.val _) (.cons (.val _) .nil)), o, u, rfl, rfl, h1, h2, fun q => ?_, fun q => ?_⟩
  · cases j with
    | zero => simp at hj; subst hj; exact ⟨_, rfl, rfl, by simp; rfl⟩
    | succ j => simp at hj
  · show Ψ (.val .non) (backS [S.length] (S ++ [.ins A [] []]) [shN A (shF o u)])
    rw [bk _ (fun _ => rfl)]; exact h q
  · show C.xi _ _ _ env (backS [S.length] (S ++ [.ins A [] []]) [.ins A [] []])
    rw [bk _ (fun _ => rfl)]; exact hx q
theorem fz_Sh (S : Sto) (A : Addr) (p : Int × Int) : Fz (S ++ [shN A p]) S.length (.loc S.length) (shD A p) := .ins (Nat.le_refl _) (by rw [List.getElem?_append_right (Nat.le_refl _), Nat.sub_self]; rfl) (.cons (.val _) (.cons (.val _) .nil))
theorem scIS : FnScope ["self", "over", "under", "sign", "by"] ["self", "over", "under"] (defScope (inClass (top 6) 0)) := ⟨rfl, rfl, rfl, by decide +kernel, rfl, by decide +kernel, by decide +kernel⟩
theorem ok_is {g : Gd} {f f1 A : Addr} {fd : FuncData} (F : FunD g.K "__init__" "Share.__init__" (defArgs (inClass (top 6) 0)) (defBody (inClass (top 6) 0)) (defScope (inClass (top 6) 0)) [] [] f fd) (hb : Binds g.K fd ["self", "over", "under"] [])
    (hB : BltF g ["abs"]) (hcl : Cls g.K A) (hna : NoA g A shF2) (G1 : FnD g 1 f1 ["one", "two"] spCD) (m1 : g.mg "common_divisor" = some (.ref f1)) (xIN : XcC g (He.ga g.K "InvalidNumber") ["self", "number"] ["number"]) (mIN : g.mg "InvalidNumber" = some (.ref (He.ga g.K "InvalidNumber"))) :
    FnD g 3 f ["self", "over", "under"] (spIS A (He.ga g.K "InvalidNumber")) := by
  refine fn_mk F hb scIS (gl := ["abs", "common_divisor", "InvalidNumber"]) [("self", 0), ("over", 1), ("under", 2), ("sign", 3), ("by", 4)] (by decide +kernel) (by decide +kernel) (fun rs S Ψ ξ h => ?_) (fun rs S Ψ ξ h => ?_)
  · obtain ⟨_, _, rfl, _⟩ := h; rfl
  · obtain ⟨o, u, rfl, rfl, h1, h2, hΨ, hξ⟩ := h
    refine wss_cons ?_
    refine ws_ifB (u = 0) ?_ (fun h => ?_) (fun h => ?_)
    · repeat walk_at "e"
      exact ⟨rfl, rfl⟩
    · refine wss_one ?_
      refine ws_raise xIN (by walk_at "ing") mIN (Nat.le_of_ble_eq_true rfl) rfl ?_ (fun _ => rfl) (fun _ => rfl)
      repeat walk_at "e"
      refine ⟨[.int u], rfl, rfl, by decide, ?_⟩
      subst h
      exact RaiC.now (Nat.le_refl _) rfl (hξ rfl)
    · have hΨ := hΨ h
      clear hξ
      walk_at "s"
      refine wss_cons ?_
      walk_at "s"
      refine we_mono (Ψ' := fun r S => r = .val (.int (if 0 < u then 1 else -1)) ∧ S = [.ins A [] []]) ?_ ?_
      · repeat walk_at "e"
        refine ⟨fun h => ?_, fun h => ?_⟩
        · have h := of_decide_eq_true h
          repeat walk_at "e"
          exact ⟨by rw [if_pos h], rfl⟩
        · have h := of_decide_eq_false h
          repeat walk_at "e"
          refine ⟨_, rfl, by rw [if_neg h], rfl⟩
      rintro r S ⟨rfl, rfl⟩
      refine wss_cons ?_
      walk_at "s"
      refine we_call G1 (by walk_at "ing") m1 (Nat.le_of_ble_eq_true rfl) rfl ?_ (fun _ => rfl) (fun _ => rfl)
      repeat walk_at "e"
      rw [show (if o < 0 then -o else o) = ((o.natAbs : Nat) : Int) by split <;> omega]
      rw [show (if u < 0 then -u else u) = ((u.natAbs : Nat) : Int) by split <;> omega]
      refine fnc_F (A := Nat × Nat) (o.natAbs, u.natAbs) rfl trivial ?_
      dsimp only
      have hg : 0 < Nat.gcd o.natAbs u.natAbs := Nat.gcd_pos_of_pos_right _ (by omega)
      have hs1 : (if 0 < u then (1 : Int) else -1) * o = (if 0 < u then o else -o) := by split <;> omega
      have hs2 : (if 0 < u then (1 : Int) else -1) * u = (u.natAbs : Int) := by split <;> omega
      have b0 : ((if 0 < u then (1 : Int) else -1)).natAbs < 2 ^ 1 := by split <;> decide
      have b1 : ((if 0 < u then o else -o)).natAbs < 2 ^ 1000 := by
        split
        · exact h1
        · rw [Int.natAbs_neg]; exact h1
      have hgi : (0 : Int) < ((Nat.gcd o.natAbs u.natAbs : Nat) : Int) := by omega
      refine wss_cons ?_
      walk_at "s"
      repeat walk_at "e"
      rw [hs1]
      refine wo_fdivX (cdiv_ok hgi b1 (by omega)) ?_
      repeat walk_at "e"
      refine ⟨0, A, _, rfl, .new rfl (by decide) (by simp), hcl, NoA.at_ hna (by walk_at "ing"), ?_⟩
      refine wss_one ?_
      walk_at "s"
      repeat walk_at "e"
      rw [hs2]
      refine wo_fdivX (cdiv_ok hgi (n := 1000) (by rw [Int.natAbs_natCast]; exact h2) (by omega)) ?_
      repeat walk_at "e"
      refine ⟨0, A, _, rfl, .new rfl (by decide) (by decide +kernel), hcl, NoA.at_ hna (by walk_at "ing"), ?_⟩
      exact RetC.now (Nat.le_refl _) rfl rfl hΨ
end DL
set_option Elab.async false
set_option linter.all false
set_option maxRecDepth 100000
set_option maxHeartbeats 4000000
namespace DL
open PySem PySem.Spec PyProof.Rows
open L2 hiding Takes passAt takes_of ps_raise PMk ps_try_as
open L2N (Takes passAt takes_of ps_raise PMk ps_try_as)
local macro_rules | `(tactic| walk_at "inv") => `(tactic| ((try dsimp only); repeat (first | with_reducible exact InV.here | with_reducible apply InV.there)))
local macro_rules | `(tactic| walk_at "ing") => `(tactic| ((try dsimp only); repeat (first | with_reducible exact InG.here | with_reducible apply InG.there)))
local macro_rules | `(tactic| walk_at "nb") => `(tactic| first | assumption | (dsimp only; refine BltF.at_ (by assumption) ?_; repeat (first | with_reducible exact InG.here | with_reducible apply InG.there)))
local macro_rules | `(tactic| walk_at "s") => `(tactic| first
  | refine wss_cons ?_ | refine wss_nil ?_ | refine ws_set (by walk_at "inv") ?_ (fun _ => rfl) | refine ws_if ?_ | refine ws_ret ?_ | refine ws_aug (by walk_at "inv") rfl ?_
  | refine ws_expr ?_ (fun _ => rfl) | refine ws_pass ?_ | refine ws_break ?_ | refine ws_cont ?_ | refine ws_retN ?_
  | refine ws_setA ?_ (fun _ => rfl) | refine ws_put ?_ (fun _ => rfl) | refine ws_asg ?_ (fun _ => rfl) (fun _ => rfl) (fun _ => rfl))
local macro_rules | `(tactic| walk_at "we") => `(tactic| first
  | refine we_name (by walk_at "inv") rfl ?_ | refine we_int ?_ | refine we_op ?_ | refine we_str ?_
  | refine we_callB (by walk_at "ing") (by walk_at "nb") (by first | exact PySem.boot_len | exact boot_abs | exact boot_min | exact boot_max | exact boot_sorted | exact boot_isinstance) ?_ (fun _ => rfl) (fun _ => rfl)
  | refine we_callT (by walk_at "ing") (by walk_at "nb") (by first | exact boot_tuple | exact boot_list | exact boot_int) ?_ (fun _ => rfl) (fun _ => rfl)
  | refine we_attr ?_ (fun _ => rfl) | refine we_ix ?_ (fun _ _ => rfl) | refine we_tup ?_
  | refine we_append ?_ (fun _ => rfl) (fun _ => rfl) rfl (fun _ => rfl) (fun _ => rfl)
  | refine we_bl ?_ | refine we_non ?_ | refine we_chain ?_ rfl | refine we_cmp ?_ rfl | refine we_one ?_ | refine we_and ?_ | refine we_or ?_ | refine we_not ?_ | refine we_ifx ?_ | refine we_neg ?_ | refine we_slice ?_)
local macro_rules | `(tactic| walk_at "wb") => `(tactic| first | refine we_type (by walk_at "ing") (by walk_at "nb") boot_int ?_ | refine we_type (by walk_at "ing") (by walk_at "nb") boot_bool ?_ | refine we_type (by walk_at "ing") (by walk_at "nb") boot_str ?_ | refine we_type (by walk_at "ing") (by walk_at "nb") boot_tuple ?_)
local macro_rules | `(tactic| walk_at "wt") => `(tactic| first | refine wt_cmp ?_ rfl | refine wt_not ?_ | refine wt_chain ?_ rfl | refine wt_of ?_)
local macro_rules | `(tactic| walk_at "wto") => `(tactic| first | refine wto_and1 ?_ | refine wto_or1 ?_ | refine wto_and ?_ | refine wto_or ?_)
local macro_rules | `(tactic| walk_at "wo") => `(tactic| first
  | refine wo_add ?_ | refine wo_sub ?_ | refine wo_lt ?_ | refine wo_le ?_ | refine wo_gt ?_ | refine wo_ge ?_ | refine wo_eqI ?_ | refine wo_neI ?_ | refine wo_eqL ?_ | refine wo_neL ?_ | refine wo_lt1 ?_ | refine wo_le1 ?_ | refine wo_ge1 ?_ | refine wo_inL ?_ | refine wo_notInL ?_
  | refine wo_mod (by omega) ?_ | refine wo_fdiv ⟨by omega, by omega⟩ ?_ | refine wo_mul (by first | exact Or.inr ⟨by omega, by omega⟩ | exact Or.inl ⟨by omega, by omega⟩) ?_ | refine wo_pow ⟨by omega, by omega, by decide⟩ ?_
  | refine wo_isN (by intro _ h; cases h) ?_ | refine wo_notN (by intro _ h; cases h) ?_)
local macro_rules | `(tactic| walk_at "wc") => `(tactic| first
  | refine wc_len (by first | exact .tup _ | exact .lst _ | exact .bor _ | exact .loc rfl) ?_ | refine wc_int ?_ | refine wc_intB ?_ | refine wc_abs ?_ | refine wc_min2 rfl ?_ | refine wc_max2 rfl ?_ | refine wc_tuple (by first | exact .tup _ | exact .lst _ | exact .bor _ | exact .loc rfl) ?_)
local macro_rules | `(tactic| walk_at "e") => `(tactic| first
  | (with_reducible show WE _ _ _ _ _); walk_at "we"
  | (with_reducible show WT _ _ _ _ _); walk_at "wt"
  | (with_reducible show WTo _ _ _ _ _); walk_at "wto"
  | (with_reducible show WO _ _ _ _ _ _); walk_at "wo"
  | (with_reducible show WA _ _ _ _ _); first | refine wa_cons ?_ (fun _ => rfl) | refine wa_nil ?_
  | (with_reducible show WC _ _ _ _ _); walk_at "wc"
  | (with_reducible show WPO _ _ _ _ _); first | refine wpo_none ?_ | refine wpo_some ?_
  | refine asB_mk ?_ | refine wip_add ?_
  | refine ⟨_, rfl, (by first | decide | exact Nat.le_of_ble_eq_true rfl), ?_⟩)
local macro_rules | `(tactic| walk_at "ew") => `(tactic| ((try simp only [List.set_cons_zero, List.set_cons_succ]); repeat (first | exact EnvW.nil | refine EnvW.keep (by first | rfl | assumption) ?_ | refine EnvW.drop ?_)))
local macro_rules | `(tactic| walk_at "fl") => `(tactic| (refine ⟨_, _, fldL rfl (by repeat (first | with_reducible exact AtN.here | with_reducible apply AtN.there)) rfl, by assumption, NoA.at_ (by assumption) (by walk_at "ing"), ?_⟩))
local macro_rules | `(tactic| walk_at "fv") => `(tactic| (refine ⟨_, _, fldV (by repeat (first | with_reducible exact AtN.here | with_reducible apply AtN.there)) rfl, by assumption, NoA.at_ (by assumption) (by walk_at "ing"), ?_⟩))
abbrev tpF : List Str := ["cells", "at", "great", "left", "seed", "turn"]
theorem tpF_nd : tpF.Nodup := by decide +kernel
local macro_rules | `(tactic| walk_at "at") => `(tactic| repeat (first | with_reducible exact AtN.here | with_reducible apply AtN.there))
local macro_rules | `(tactic| walk_at "tp") => `(tactic| refine wix_dR rfl tpF_nd (by walk_at "at") rfl ?_)
local macro_rules | `(tactic| walk_at "tq") => `(tactic| refine ⟨_, _, tpF, _, _, rfl, rfl, rfl, tpF_nd, by decide, by walk_at "at", ?_⟩)
/-- what a tape is like: how far it is read -/
structure Tp where
  at_ : Nat
  gr : Nat
  left : Nat
  sd : Int
  tn : Nat
def tpN (zs : List Int) : Tp → Node
  | ⟨a, g, l, s, t⟩ => .dK (sK tpF) [.val (.lst (zs.map .int)), .val (iN a), .val (iN g), .val (iN l), .val (.int s), .val (iN t)]
/-! ### mixed -/
def spMX : DSp := fun rs S Ψ _ => ∃ (a b : Int), rs = [.val (.int a), .val (.int b)] ∧ S = [] ∧ ∀ v : Nat, v < 999983 → Ψ (.val (iN v)) []
theorem fnc_MX {C : DC} {env : Nv} {S : Sto} {Ψ : R → Sto → Prop} {a b : Int} (h : ∀ v : Nat, v < 999983 → Ψ (.val (iN v)) S) : FnC C spMX [.val (.int a), .val (.int b)] env S Ψ := by
  refine ⟨[], [], [.val (.int a), .val (.int b)], PassS.nil, .cons (.val _) (.cons (.val _) .nil), a, b, rfl, rfl, fun v hv => ?_⟩
  show Ψ (.val _) (backS [] S [])
  rw [backS_nil]; exact h v hv
theorem scMX : FnScope ["_law_number", "_law_turn", "_law_first", "_law_second"] ["_law_number", "_law_turn"] (defScope (top 8)) := ⟨rfl, rfl, rfl, by decide +kernel, rfl, by decide +kernel, by decide +kernel⟩
theorem ok_mx {g : Gd} {f : Addr} {fd : FuncData} (F : FunD g.K "_law_mixed" "_law_mixed" (defArgs (top 8)) (defBody (top 8)) (defScope (top 8)) [] [] f fd) (hb : Binds g.K fd ["_law_number", "_law_turn"] [])
    (hB : BltF g ["int"]) : FnD g 1 f ["_law_number", "_law_turn"] spMX := by
  refine fn_mk F hb scMX (gl := ["int"]) [("_law_number", 0), ("_law_turn", 1), ("_law_first", 2), ("_law_second", 3)] (by decide +kernel) (by decide +kernel) (fun rs S Ψ ξ h => ?_) (fun rs S Ψ ξ h => ?_)
  · obtain ⟨_, _, rfl, _⟩ := h; rfl
  · obtain ⟨a, b, rfl, rfl, hΨ⟩ := h
    refine wss_cons ?_
    walk_at "s"
    repeat walk_at "e"
    generalize hf : (a * 48271 + b * 69621 + 11) % 2147483647 = f1
    refine wss_cons ?_
    walk_at "s"
    repeat walk_at "e"
    generalize hs : (f1 * 16807 + f1 / 127773 + b * 271) % 1000003 = f2
    have h2 : 0 ≤ f2 ∧ f2 < 1000003 := by omega
    refine wss_one ?_
    walk_at "s"
    repeat walk_at "e"
    have h3 : (f2 * f2 + f1 / 1009) % 999983 = (((f2 * f2 + f1 / 1009) % 999983).toNat : Int) := by omega
    rw [h3]
    exact RetC.now (Nat.le_refl _) rfl rfl (hΨ _ (by omega))
/-! ### tape -/
def spTP : DSp := fun rs S Ψ _ => ∃ zs : List Int, rs = [.bor (zs.map .int)] ∧ S = [] ∧ zs.length ≤ 63 ∧ Ψ (.loc 0) [tpN zs ⟨0, 0, 0, 7, 0⟩]
theorem scTP : FnScope ["_law_script"] ["_law_script"] (defScope (top 9)) := ⟨rfl, rfl, rfl, by decide +kernel, rfl, by decide +kernel, by decide +kernel⟩
theorem ok_tp {g : Gd} {f : Addr} {fd : FuncData} (F : FunD g.K "_law_tape" "_law_tape" (defArgs (top 9)) (defBody (top 9)) (defScope (top 9)) [] [] f fd) (hb : Binds g.K fd ["_law_script"] [])
    (hB : BltF g ["list"]) : FnD g 1 f ["_law_script"] spTP := by
  refine fn_mk F hb scTP (gl := ["list"]) [("_law_script", 0)] (by decide +kernel) (by decide +kernel) (fun rs S Ψ ξ h => ?_) (fun rs S Ψ ξ h => ?_)
  · obtain ⟨_, rfl, _⟩ := h; rfl
  · obtain ⟨zs, rfl, rfl, hz, hΨ⟩ := h
    refine wss_one ?_
    walk_at "s"
    refine we_dictS tpF (by repeat (first | exact KeyS.nil | refine KeyS.cons ?_)) rfl tpF_nd (by simp) (by simp) ?_
    refine wps_cons ?_
    repeat walk_at "e"
    refine wc_listF (.bor _) ?_
    refine wps_cons ?_
    repeat walk_at "e"
    refine wps_cons ?_
    repeat walk_at "e"
    refine wps_cons ?_
    repeat walk_at "e"
    refine wps_cons ?_
    repeat walk_at "e"
    refine wps_cons ?_
    repeat walk_at "e"
    refine wps_nil ⟨rfl, ?_⟩
    exact RetC.now (Nat.zero_le _) rfl rfl hΨ
/-! ### draw -/
theorem tpN_ren (zs : List Int) (T : Tp) (f : Nat → Nat) : (tpN zs T).ren f = tpN zs T := by cases T; rfl
theorem tpN_ok (zs : List Int) (T : Tp) (m : Nat) : (tpN zs T).okB m = true := by cases T; rfl
def spDW : DSp := fun rs S Ψ _ => ∃ (zs : List Int) (T : Tp) (m : Nat), rs = [.loc 0, .val (iN m)] ∧ S = [tpN zs T] ∧ zs.length ≤ 63 ∧ 1 ≤ m ∧ ∀ (v : Nat) (T' : Tp), v < m → Ψ (.val (iN v)) [tpN zs T']
theorem fnc_DW {C : DC} {env : Nv} {S : Sto} {Ψ : R → Sto → Prop} {zs : List Int} {T : Tp} {m k : Nat} (hk : S[k]? = some (tpN zs T)) (hz : zs.length ≤ 63) (hm : 1 ≤ m) (h : ∀ (v : Nat) (T' : Tp), v < m → Ψ (.val (iN v)) (S.set k (tpN zs T'))) : FnC C spDW [.loc k, .val (iN m)] env S Ψ := by
  refine ⟨[k], [tpN zs T], [.loc 0, .val (iN m)], passN hk (fun f => tpN_ren zs T f) (by cases T; rfl) (tpN_ok _ _ _), .cons (.loc rfl) (.cons (.val _) .nil), zs, T, m, rfl, rfl, hz, hm, fun v T' hv => ?_⟩
  show Ψ (.val _) (backS [k] S [tpN zs T'])
  rw [backN (fun f => tpN_ren zs T' f)]
  exact h v T' hv
theorem scDW : FnScope ["_law_tape_here", "_law_many", "_law_cell", "_law_digit"] ["_law_tape_here", "_law_many"] (defScope (top 10)) := ⟨rfl, rfl, rfl, by decide +kernel, rfl, by decide +kernel, by decide +kernel⟩
theorem ok_dw {g : Gd} {f fMX : Addr} {fd : FuncData} (F : FunD g.K "_law_draw" "_law_draw" (defArgs (top 10)) (defBody (top 10)) (defScope (top 10)) [] [] f fd) (hb : Binds g.K fd ["_law_tape_here", "_law_many"] [])
    (hB : BltF g ["int", "len"]) (GMX : FnD g 1 fMX ["_law_number", "_law_turn"] spMX) (mMX : g.mg "_law_mixed" = some (.ref fMX)) : FnD g 2 f ["_law_tape_here", "_law_many"] spDW := by
  refine fn_mk F hb scDW (gl := ["int", "len", "_law_mixed"]) [("_law_tape_here", 0), ("_law_many", 1), ("_law_cell", 2), ("_law_digit", 3)] (by decide +kernel) (by decide +kernel) (fun rs S Ψ ξ h => ?_) (fun rs S Ψ ξ h => ?_)
  · obtain ⟨_, _, _, rfl, _⟩ := h; rfl
  · obtain ⟨zs, ⟨at0, gr, left, sd, tn⟩, m, rfl, rfl, hz, hm, hΨ⟩ := h
    refine wss_cons ?_
    refine ws_putS ?_ (fun _ => rfl)
    repeat walk_at "e"
    walk_at "tp"
    repeat walk_at "e"
    walk_at "tq"
    show WSs _ _ [some (.loc 0), some (.val (iN m)), none, none] [tpN zs ⟨at0, gr, left, sd, tn + 1⟩] _
    refine wss_cut (fun env S => ∃ (T : Tp) (o : Option R), env = [some (.loc 0), some (.val (iN m)), o, none] ∧ S = [tpN zs T]) ?_ ?_
    · refine ws_ifB (left = 0 ∧ at0 < zs.length) ?_ (fun h => ?_) (fun h => ?_)
      · refine wt_of ?_
        refine wto_and ?_
        repeat walk_at "e"
        walk_at "tp"
        repeat walk_at "e"
        refine ⟨fun h => ?_, fun h => ?_⟩
        · have h := of_decide_eq_true h
          refine wto_and1 ?_
          repeat walk_at "e"
          walk_at "tp"
          repeat walk_at "e"
          walk_at "tp"
          repeat walk_at "e"
          exact ⟨decide_eq_decide.mpr (by rw [List.length_map]; omega), rfl⟩
        · have h := of_decide_eq_false h
          exact ⟨(decide_eq_false (by omega)).symm, rfl⟩
      · have hcell := List.getElem?_eq_getElem h.2
        generalize zs[at0] = cell at hcell
        refine wss_cons ?_
        walk_at "s"
        repeat walk_at "e"
        walk_at "tp"
        repeat walk_at "e"
        walk_at "tp"
        refine wix_F (g := .int) (.lst _) rfl hcell ?_
        refine wss_cons ?_
        refine ws_putS ?_ (fun _ => rfl)
        repeat walk_at "e"
        walk_at "tp"
        repeat walk_at "e"
        walk_at "tq"
        show WSs _ _ [some (.loc 0), some (.val (iN m)), some (.val (.int cell)), none] [tpN zs ⟨at0 + 1, gr, left, sd, tn + 1⟩] _
        refine wss_cons ?_
        refine ws_putS ?_ (fun _ => rfl)
        refine we_call GMX (by walk_at "ing") mMX (Nat.le_of_ble_eq_true rfl) rfl ?_ (fun _ => rfl) (fun _ => rfl)
        repeat walk_at "e"
        walk_at "tp"
        repeat walk_at "e"
        walk_at "tp"
        repeat walk_at "e"
        refine fnc_MX fun s2 hs2 => ?_
        repeat walk_at "e"
        walk_at "tq"
        show WSs _ _ [some (.loc 0), some (.val (iN m)), some (.val (.int cell)), none] [tpN zs ⟨at0 + 1, gr, left, s2, tn + 1⟩] _
        refine wss_cons ?_
        refine ws_putS ?_ (fun _ => rfl)
        repeat walk_at "e"
        walk_at "tq"
        show WSs _ _ [some (.loc 0), some (.val (iN m)), some (.val (.int cell)), none] [tpN zs ⟨at0 + 1, gr, 4, s2, tn + 1⟩] _
        refine wss_one ?_
        refine ws_ifB ((10 : Int) ^ 18 ≤ cell) ?_ (fun h => ?_) (fun h => ?_)
        · repeat walk_at "e"
          exact ⟨rfl, rfl⟩
        · obtain ⟨c, rfl⟩ := Int.eq_ofNat_of_zero_le (show 0 ≤ cell by omega)
          refine wss_cons ?_
          refine ws_putS ?_ (fun _ => rfl)
          repeat walk_at "e"
          walk_at "tq"
          show WSs _ _ [some (.loc 0), some (.val (iN m)), some (.val (.int c)), none] [tpN zs ⟨at0 + 1, c, 4, s2, tn + 1⟩] _
          refine wss_one ?_
          refine ws_putS ?_ (fun _ => rfl)
          repeat walk_at "e"
          walk_at "tq"
          exact ⟨⟨at0 + 1, c, 60, s2, tn + 1⟩, _, rfl, rfl⟩
        · walk_at "s"
          exact ⟨⟨at0 + 1, gr, 4, s2, tn + 1⟩, _, rfl, rfl⟩
      · walk_at "s"
        exact ⟨⟨at0, gr, left, sd, tn + 1⟩, _, rfl, rfl⟩
    · rintro env' S' ⟨⟨at1, g1, l1, s1, t1⟩, o, rfl, rfl⟩
      refine wss_cut (fun env S => ∃ (T : Tp), env = [some (.loc 0), some (.val (iN m)), o, none] ∧ S = [tpN zs T]) ?_ ?_
      · refine ws_ifB (0 < l1) ?_ (fun h => ?_) (fun h => ?_)
        · repeat walk_at "e"
          walk_at "tp"
          repeat walk_at "e"
          exact ⟨decide_eq_decide.mpr (by omega), rfl⟩
        · refine wss_one ?_
          refine ws_putS ?_ (fun _ => rfl)
          repeat walk_at "e"
          walk_at "tp"
          repeat walk_at "e"
          rw [show (l1 : Int) - 1 = ((l1 - 1 : Nat) : Int) by omega]
          walk_at "tq"
          exact ⟨⟨at1, g1, l1 - 1, s1, t1⟩, rfl, rfl⟩
        · walk_at "s"
          exact ⟨⟨at1, g1, l1, s1, t1⟩, rfl, rfl⟩
      · rintro env' S' ⟨⟨at1, g1, l1, s1, t1⟩, rfl, rfl⟩
        refine wss_cons ?_
        refine ws_ifB (g1 = 0) ?_ (fun h => ?_) (fun h => ?_)
        · repeat walk_at "e"
          walk_at "tp"
          repeat walk_at "e"
          exact ⟨decide_eq_decide.mpr (by omega), rfl⟩
        · refine wss_one ?_
          walk_at "s"
          repeat walk_at "e"
          refine we_call GMX (by walk_at "ing") mMX (Nat.le_of_ble_eq_true rfl) rfl ?_ (fun _ => rfl) (fun _ => rfl)
          repeat walk_at "e"
          walk_at "tp"
          repeat walk_at "e"
          walk_at "tp"
          repeat walk_at "e"
          refine fnc_MX fun v hv => ?_
          repeat walk_at "e"
          rw [show (v : Int) % (m : Int) = ((v % m : Nat) : Int) by omega]
          exact RetC.now (by simp) (by simp [tpN_ok]) rfl (hΨ _ ⟨at1, g1, l1, s1, t1⟩ (Nat.mod_lt _ (by omega)))
        · walk_at "s"
          refine wss_cons ?_
          walk_at "s"
          repeat walk_at "e"
          walk_at "tp"
          repeat walk_at "e"
          rw [show (g1 : Int) % 1009 = ((g1 % 1009 : Nat) : Int) by omega]
          generalize g1 % 1009 = dg
          refine wss_cons ?_
          refine ws_putS ?_ (fun _ => rfl)
          repeat walk_at "e"
          walk_at "tp"
          repeat walk_at "e"
          rw [show (g1 : Int) / 1009 = ((g1 / 1009 : Nat) : Int) by omega]
          generalize g1 / 1009 = g2
          walk_at "tq"
          show WSs _ _ [some (.loc 0), some (.val (iN m)), o, some (.val (iN dg))] [tpN zs ⟨at1, g2, l1, s1, t1⟩] _
          refine wss_cut (fun env S => ∃ (T : Tp), env = [some (.loc 0), some (.val (iN m)), o, some (.val (iN dg))] ∧ S = [tpN zs T]) ?_ ?_
          · refine ws_ifB (g2 = 0 ∨ l1 = 0) ?_ (fun h => ?_) (fun h => ?_)
            · refine wt_of ?_
              refine wto_or ?_
              repeat walk_at "e"
              walk_at "tp"
              repeat walk_at "e"
              refine ⟨fun h => ?_, fun h => ?_⟩
              · have h := of_decide_eq_true h
                exact ⟨(decide_eq_true (by omega)).symm, rfl⟩
              · have h := of_decide_eq_false h
                refine wto_or1 ?_
                repeat walk_at "e"
                walk_at "tp"
                repeat walk_at "e"
                exact ⟨decide_eq_decide.mpr (by omega), rfl⟩
            · refine wss_cons ?_
              refine ws_putS ?_ (fun _ => rfl)
              repeat walk_at "e"
              walk_at "tq"
              show WSs _ _ [some (.loc 0), some (.val (iN m)), o, some (.val (iN dg))] [tpN zs ⟨at1, 0, l1, s1, t1⟩] _
              refine wss_one ?_
              refine ws_putS ?_ (fun _ => rfl)
              repeat walk_at "e"
              walk_at "tq"
              exact ⟨⟨at1, 0, 0, s1, t1⟩, rfl, rfl⟩
            · walk_at "s"
              exact ⟨⟨at1, g2, l1, s1, t1⟩, rfl, rfl⟩
          · rintro env' S' ⟨T, rfl, rfl⟩
            refine wss_one ?_
            walk_at "s"
            repeat walk_at "e"
            rw [show (dg : Int) % (m : Int) = ((dg % m : Nat) : Int) by omega]
            exact RetC.now (by simp) (by simp [tpN_ok]) rfl (hΨ _ T (Nat.mod_lt _ (by omega)))
end DL
set_option Elab.async false
set_option linter.all false
set_option maxRecDepth 100000
set_option maxHeartbeats 4000000
namespace DL
open PySem PySem.Spec PyProof.Rows
open L2 hiding Takes passAt takes_of ps_raise PMk ps_try_as
open L2N (Takes passAt takes_of ps_raise PMk ps_try_as)
local macro_rules | `(tactic| walk_at "inv") => `(tactic| ((try dsimp only); repeat (first | with_reducible exact InV.here | with_reducible apply InV.there)))
local macro_rules | `(tactic| walk_at "ing") => `(tactic| ((try dsimp only); repeat (first | with_reducible exact InG.here | with_reducible apply InG.there)))
local macro_rules | `(tactic| walk_at "nb") => `(tactic| first | assumption | (dsimp only; refine BltF.at_ (by assumption) ?_; repeat (first | with_reducible exact InG.here | with_reducible apply InG.there)))
local macro_rules | `(tactic| walk_at "s") => `(tactic| first
  | refine wss_cons ?_ | refine wss_nil ?_ | refine ws_set (by walk_at "inv") ?_ (fun _ => rfl) | refine ws_if ?_ | refine ws_ret ?_ | refine ws_aug (by walk_at "inv") rfl ?_
  | refine ws_expr ?_ (fun _ => rfl) | refine ws_pass ?_ | refine ws_break ?_ | refine ws_cont ?_ | refine ws_retN ?_
  | refine ws_setA ?_ (fun _ => rfl) | refine ws_put ?_ (fun _ => rfl) | refine ws_asg ?_ (fun _ => rfl) (fun _ => rfl) (fun _ => rfl))
local macro_rules | `(tactic| walk_at "we") => `(tactic| first
  | refine we_name (by walk_at "inv") rfl ?_ | refine we_int ?_ | refine we_op ?_ | refine we_str ?_
  | refine we_callB (by walk_at "ing") (by walk_at "nb") (by first | exact PySem.boot_len | exact boot_abs | exact boot_min | exact boot_max | exact boot_sorted | exact boot_isinstance) ?_ (fun _ => rfl) (fun _ => rfl)
  | refine we_callT (by walk_at "ing") (by walk_at "nb") (by first | exact boot_tuple | exact boot_list | exact boot_int) ?_ (fun _ => rfl) (fun _ => rfl)
  | refine we_attr ?_ (fun _ => rfl) | refine we_ix ?_ (fun _ _ => rfl) | refine we_tup ?_
  | refine we_append ?_ (fun _ => rfl) (fun _ => rfl) rfl (fun _ => rfl) (fun _ => rfl)
  | refine we_bl ?_ | refine we_non ?_ | refine we_chain ?_ rfl | refine we_cmp ?_ rfl | refine we_one ?_ | refine we_and ?_ | refine we_or ?_ | refine we_not ?_ | refine we_ifx ?_ | refine we_neg ?_ | refine we_slice ?_)
local macro_rules | `(tactic| walk_at "wb") => `(tactic| first | refine we_type (by walk_at "ing") (by walk_at "nb") boot_int ?_ | refine we_type (by walk_at "ing") (by walk_at "nb") boot_bool ?_ | refine we_type (by walk_at "ing") (by walk_at "nb") boot_str ?_ | refine we_type (by walk_at "ing") (by walk_at "nb") boot_tuple ?_)
local macro_rules | `(tactic| walk_at "wt") => `(tactic| first | refine wt_cmp ?_ rfl | refine wt_not ?_ | refine wt_chain ?_ rfl | refine wt_of ?_)
local macro_rules | `(tactic| walk_at "wto") => `(tactic| first | refine wto_and1 ?_ | refine wto_or1 ?_ | refine wto_and ?_ | refine wto_or ?_)
local macro_rules | `(tactic| walk_at "wo") => `(tactic| first
  | refine wo_add ?_ | refine wo_sub ?_ | refine wo_lt ?_ | refine wo_le ?_ | refine wo_gt ?_ | refine wo_ge ?_ | refine wo_eqI ?_ | refine wo_neI ?_ | refine wo_eqL ?_ | refine wo_neL ?_ | refine wo_lt1 ?_ | refine wo_le1 ?_ | refine wo_ge1 ?_ | refine wo_inL ?_ | refine wo_notInL ?_
  | refine wo_mod (by omega) ?_ | refine wo_fdiv ⟨by omega, by omega⟩ ?_ | refine wo_mul (by first | exact Or.inr ⟨by omega, by omega⟩ | exact Or.inl ⟨by omega, by omega⟩) ?_ | refine wo_pow ⟨by omega, by omega, by decide⟩ ?_
  | refine wo_isN (by intro _ h; cases h) ?_ | refine wo_notN (by intro _ h; cases h) ?_)
local macro_rules | `(tactic| walk_at "wc") => `(tactic| first
  | refine wc_len (by first | exact .tup _ | exact .lst _ | exact .bor _ | exact .loc rfl) ?_ | refine wc_int ?_ | refine wc_intB ?_ | refine wc_abs ?_ | refine wc_min2 rfl ?_ | refine wc_max2 rfl ?_ | refine wc_tuple (by first | exact .tup _ | exact .lst _ | exact .bor _ | exact .loc rfl) ?_)
local macro_rules | `(tactic| walk_at "e") => `(tactic| first
  | (with_reducible show WE _ _ _ _ _); walk_at "we"
  | (with_reducible show WT _ _ _ _ _); walk_at "wt"
  | (with_reducible show WTo _ _ _ _ _); walk_at "wto"
  | (with_reducible show WO _ _ _ _ _ _); walk_at "wo"
  | (with_reducible show WA _ _ _ _ _); first | refine wa_cons ?_ (fun _ => rfl) | refine wa_nil ?_
  | (with_reducible show WC _ _ _ _ _); walk_at "wc"
  | (with_reducible show WPO _ _ _ _ _); first | refine wpo_none ?_ | refine wpo_some ?_
  | refine asB_mk ?_ | refine wip_add ?_
  | refine ⟨_, rfl, (by first | decide | exact Nat.le_of_ble_eq_true rfl), ?_⟩)
local macro_rules | `(tactic| walk_at "ew") => `(tactic| ((try simp only [List.set_cons_zero, List.set_cons_succ]); repeat (first | exact EnvW.nil | refine EnvW.keep (by first | rfl | assumption) ?_ | refine EnvW.drop ?_)))
local macro_rules | `(tactic| walk_at "fl") => `(tactic| (refine ⟨_, _, fldL rfl (by repeat (first | with_reducible exact AtN.here | with_reducible apply AtN.there)) rfl, by assumption, NoA.at_ (by assumption) (by walk_at "ing"), ?_⟩))
local macro_rules | `(tactic| walk_at "fv") => `(tactic| (refine ⟨_, _, fldV (by repeat (first | with_reducible exact AtN.here | with_reducible apply AtN.there)) rfl, by assumption, NoA.at_ (by assumption) (by walk_at "ing"), ?_⟩))
local macro_rules | `(tactic| walk_at "at") => `(tactic| repeat (first | with_reducible exact AtN.here | with_reducible apply AtN.there))
local macro_rules | `(tactic| walk_at "tp") => `(tactic| refine wix_dR rfl tpF_nd (by walk_at "at") rfl ?_)
local macro_rules | `(tactic| walk_at "tq") => `(tactic| refine ⟨_, _, tpF, _, _, rfl, rfl, rfl, tpF_nd, by decide, by walk_at "at", ?_⟩)
/-! ### pick -/
inductive PkD : D → List D → Prop where
  | lst (ds : List D) : PkD (.lst ds) ds
  | tup (ds : List D) : PkD (.tup ds) ds
  | str (l : List Nat) : PkD (sL l) (l.map fun c => sL [c])
def spPk : DSp := fun rs S Ψ _ => ∃ (zs : List Int) (T : Tp) (d : D) (ds : List D), rs = [.loc 0, .val d] ∧ S = [tpN zs T] ∧ zs.length ≤ 63 ∧ PkD d ds ∧ 1 ≤ ds.length ∧ ds.length ≤ 10000 ∧ ∀ (x : D) (T' : Tp), x ∈ ds → Ψ (.val x) [tpN zs T']
theorem fnc_Pk {C : DC} {env : Nv} {S : Sto} {Ψ : R → Sto → Prop} {zs : List Int} {T : Tp} {d : D} {k : Nat} (ds : List D) (hd : PkD d ds) (hk : S[k]? = some (tpN zs T)) (hz : zs.length ≤ 63) (h1 : 1 ≤ ds.length) (h2 : ds.length ≤ 10000) (h : ∀ (x : D) (T' : Tp), x ∈ ds → Ψ (.val x) (S.set k (tpN zs T'))) : FnC C spPk [.loc k, .val d] env S Ψ := by
  refine ⟨[k], [tpN zs T], [.loc 0, .val d], passN hk (fun f => tpN_ren zs T f) (by cases T; rfl) (tpN_ok _ _ _), .cons (.loc rfl) (.cons (.val _) .nil), zs, T, d, ds, rfl, rfl, hz, hd, h1, h2, fun v T' hv => ?_⟩
  show Ψ (.val _) (backS [k] S [tpN zs T'])
  rw [backN (fun f => tpN_ren zs T' f)]
  exact h v T' hv
theorem scPk : FnScope ["_law_tape_here", "_law_row"] ["_law_tape_here", "_law_row"] (defScope (top 11)) := ⟨rfl, rfl, rfl, by decide +kernel, rfl, by decide +kernel, by decide +kernel⟩
theorem ok_pk {g : Gd} {f fDW : Addr} {fd : FuncData} (F : FunD g.K "_law_pick" "_law_pick" (defArgs (top 11)) (defBody (top 11)) (defScope (top 11)) [] [] f fd) (hb : Binds g.K fd ["_law_tape_here", "_law_row"] [])
    (hB : BltF g ["len"]) (GDW : FnD g 2 fDW ["_law_tape_here", "_law_many"] spDW) (mDW : g.mg "_law_draw" = some (.ref fDW)) : FnD g 3 f ["_law_tape_here", "_law_row"] spPk := by
  refine fn_mk F hb scPk (gl := ["len", "_law_draw"]) [("_law_tape_here", 0), ("_law_row", 1)] (by decide +kernel) (by decide +kernel) (fun rs S Ψ ξ h => ?_) (fun rs S Ψ ξ h => ?_)
  · obtain ⟨_, _, _, _, rfl, _⟩ := h; rfl
  · obtain ⟨zs, T, d, ds, rfl, rfl, hz, hd, h1, h2, hΨ⟩ := h
    cases hd with
    | lst =>
      refine wss_one ?_
      walk_at "s"
      repeat walk_at "e"
      refine we_call GDW (by walk_at "ing") mDW (Nat.le_of_ble_eq_true rfl) rfl ?_ (fun _ => rfl) (fun _ => rfl)
      repeat walk_at "e"
      refine fnc_DW (m := ds.length) rfl hz h1 fun v T' hv => ?_
      refine wix_seq (.lst _) (atI_get rfl (List.getElem?_eq_getElem hv)) ?_
      exact RetC.now (by simp) (by simp [tpN_ok]) rfl (hΨ _ T' (List.getElem_mem hv))
    | tup =>
      refine wss_one ?_
      walk_at "s"
      repeat walk_at "e"
      refine we_call GDW (by walk_at "ing") mDW (Nat.le_of_ble_eq_true rfl) rfl ?_ (fun _ => rfl) (fun _ => rfl)
      repeat walk_at "e"
      refine fnc_DW (m := ds.length) rfl hz h1 fun v T' hv => ?_
      refine wix_seq (.tup _) (atI_get rfl (List.getElem?_eq_getElem hv)) ?_
      exact RetC.now (by simp) (by simp [tpN_ok]) rfl (hΨ _ T' (List.getElem_mem hv))
    | str l =>
      rw [List.length_map] at h1 h2
      refine wss_one ?_
      walk_at "s"
      repeat walk_at "e"
      refine we_call GDW (by walk_at "ing") mDW (Nat.le_of_ble_eq_true rfl) rfl ?_ (fun _ => rfl) (fun _ => rfl)
      repeat walk_at "e"
      refine wc_lenL (l := l) (by rw [sizeLine_eq]; omega) ?_
      repeat walk_at "e"
      refine fnc_DW (m := l.length) rfl hz h1 fun v T' hv => ?_
      refine wix_L (l := l) (by rw [sizeLine_eq]; omega) (c := l[v]) (atI_get rfl (List.getElem?_eq_getElem hv)) ?_
      exact RetC.now (by simp) (by simp [tpN_ok]) rfl (hΨ _ T' (List.mem_map.mpr ⟨_, List.getElem_mem hv, rfl⟩))
end DL
set_option Elab.async false
set_option linter.all false
set_option maxRecDepth 100000
set_option maxHeartbeats 4000000
namespace DL
open PySem PySem.Spec PyProof.Rows
open L2 hiding Takes passAt takes_of ps_raise PMk ps_try_as
open L2N (Takes passAt takes_of ps_raise PMk ps_try_as)
local macro_rules | `(tactic| walk_at "inv") => `(tactic| ((try dsimp only); repeat (first | with_reducible exact InV.here | with_reducible apply InV.there)))
local macro_rules | `(tactic| walk_at "ing") => `(tactic| ((try dsimp only); repeat (first | with_reducible exact InG.here | with_reducible apply InG.there)))
local macro_rules | `(tactic| walk_at "nb") => `(tactic| first | assumption | (dsimp only; refine BltF.at_ (by assumption) ?_; repeat (first | with_reducible exact InG.here | with_reducible apply InG.there)))
local macro_rules | `(tactic| walk_at "s") => `(tactic| first
  | refine wss_cons ?_ | refine wss_nil ?_ | refine ws_set (by walk_at "inv") ?_ (fun _ => rfl) | refine ws_if ?_ | refine ws_ret ?_ | refine ws_aug (by walk_at "inv") rfl ?_
  | refine ws_expr ?_ (fun _ => rfl) | refine ws_pass ?_ | refine ws_break ?_ | refine ws_cont ?_ | refine ws_retN ?_
  | refine ws_setA ?_ (fun _ => rfl) | refine ws_put ?_ (fun _ => rfl) | refine ws_asg ?_ (fun _ => rfl) (fun _ => rfl) (fun _ => rfl))
local macro_rules | `(tactic| walk_at "we") => `(tactic| first
  | refine we_name (by walk_at "inv") rfl ?_ | refine we_int ?_ | refine we_op ?_ | refine we_str ?_
  | refine we_callB (by walk_at "ing") (by walk_at "nb") (by first | exact PySem.boot_len | exact boot_abs | exact boot_min | exact boot_max | exact boot_sorted | exact boot_isinstance) ?_ (fun _ => rfl) (fun _ => rfl)
  | refine we_callT (by walk_at "ing") (by walk_at "nb") (by first | exact boot_tuple | exact boot_list | exact boot_int) ?_ (fun _ => rfl) (fun _ => rfl)
  | refine we_attr ?_ (fun _ => rfl) | refine we_ix ?_ (fun _ _ => rfl) | refine we_tup ?_
  | refine we_append ?_ (fun _ => rfl) (fun _ => rfl) rfl (fun _ => rfl) (fun _ => rfl)
  | refine we_bl ?_ | refine we_non ?_ | refine we_chain ?_ rfl | refine we_cmp ?_ rfl | refine we_one ?_ | refine we_and ?_ | refine we_or ?_ | refine we_not ?_ | refine we_ifx ?_ | refine we_neg ?_ | refine we_slice ?_)
local macro_rules | `(tactic| walk_at "wb") => `(tactic| first | refine we_type (by walk_at "ing") (by walk_at "nb") boot_int ?_ | refine we_type (by walk_at "ing") (by walk_at "nb") boot_bool ?_ | refine we_type (by walk_at "ing") (by walk_at "nb") boot_str ?_ | refine we_type (by walk_at "ing") (by walk_at "nb") boot_tuple ?_)
local macro_rules | `(tactic| walk_at "wt") => `(tactic| first | refine wt_cmp ?_ rfl | refine wt_not ?_ | refine wt_chain ?_ rfl | refine wt_of ?_)
local macro_rules | `(tactic| walk_at "wto") => `(tactic| first | refine wto_and1 ?_ | refine wto_or1 ?_ | refine wto_and ?_ | refine wto_or ?_)
local macro_rules | `(tactic| walk_at "wo") => `(tactic| first
  | refine wo_add ?_ | refine wo_sub ?_ | refine wo_lt ?_ | refine wo_le ?_ | refine wo_gt ?_ | refine wo_ge ?_ | refine wo_eqI ?_ | refine wo_neI ?_ | refine wo_eqL ?_ | refine wo_neL ?_ | refine wo_lt1 ?_ | refine wo_le1 ?_ | refine wo_ge1 ?_ | refine wo_inL ?_ | refine wo_notInL ?_
  | refine wo_mod (by omega) ?_ | refine wo_fdiv ⟨by omega, by omega⟩ ?_ | refine wo_mul (by first | exact Or.inr ⟨by omega, by omega⟩ | exact Or.inl ⟨by omega, by omega⟩) ?_ | refine wo_pow ⟨by omega, by omega, by decide⟩ ?_
  | refine wo_isN (by intro _ h; cases h) ?_ | refine wo_notN (by intro _ h; cases h) ?_)
local macro_rules | `(tactic| walk_at "wc") => `(tactic| first
  | refine wc_len (by first | exact .tup _ | exact .lst _ | exact .bor _ | exact .loc rfl) ?_ | refine wc_int ?_ | refine wc_intB ?_ | refine wc_abs ?_ | refine wc_min2 rfl ?_ | refine wc_max2 rfl ?_ | refine wc_tuple (by first | exact .tup _ | exact .lst _ | exact .bor _ | exact .loc rfl) ?_)
local macro_rules | `(tactic| walk_at "e") => `(tactic| first
  | (with_reducible show WE _ _ _ _ _); walk_at "we"
  | (with_reducible show WT _ _ _ _ _); walk_at "wt"
  | (with_reducible show WTo _ _ _ _ _); walk_at "wto"
  | (with_reducible show WO _ _ _ _ _ _); walk_at "wo"
  | (with_reducible show WA _ _ _ _ _); first | refine wa_cons ?_ (fun _ => rfl) | refine wa_nil ?_
  | (with_reducible show WC _ _ _ _ _); walk_at "wc"
  | (with_reducible show WPO _ _ _ _ _); first | refine wpo_none ?_ | refine wpo_some ?_
  | refine asB_mk ?_ | refine wip_add ?_
  | refine ⟨_, rfl, (by first | decide | exact Nat.le_of_ble_eq_true rfl), ?_⟩)
local macro_rules | `(tactic| walk_at "ew") => `(tactic| ((try simp only [List.set_cons_zero, List.set_cons_succ]); repeat (first | exact EnvW.nil | refine EnvW.keep (by first | rfl | assumption) ?_ | refine EnvW.drop ?_)))
local macro_rules | `(tactic| walk_at "fl") => `(tactic| (refine ⟨_, _, fldL rfl (by repeat (first | with_reducible exact AtN.here | with_reducible apply AtN.there)) rfl, by assumption, NoA.at_ (by assumption) (by walk_at "ing"), ?_⟩))
local macro_rules | `(tactic| walk_at "fv") => `(tactic| (refine ⟨_, _, fldV (by repeat (first | with_reducible exact AtN.here | with_reducible apply AtN.there)) rfl, by assumption, NoA.at_ (by assumption) (by walk_at "ing"), ?_⟩))
local macro_rules | `(tactic| walk_at "sf") => `(tactic| (refine ⟨_, _, shFld (by repeat (first | with_reducible exact AtN.here | with_reducible apply AtN.there)) rfl, by assumption, NoA.at_ (by assumption) (by walk_at "ing"), ?_⟩))
structure SS where
  p : Int × Int
  q : Int × Int
def SS.ok (z : SS) : Prop := ∃ n m, ShB n z.p ∧ ShB m z.q ∧ n + m + 1 ≤ 1000
abbrev spBo (A : Addr) (f : Int × Int → Int × Int → Int × Int) := spF SS (fun z => [shD A z.p, shD A z.q]) (fun z => z.ok) (fun z => shD A (f z.p z.q))
/-! ### __add__ -/
theorem scAD : FnScope ["self", "other"] ["self", "other"] (defScope (inClass (top 6) 1)) := ⟨rfl, rfl, rfl, by decide +kernel, rfl, by decide +kernel, by decide +kernel⟩
theorem ok_ad {g : Gd} {f f1 A : Addr} {fd : FuncData} (F : FunD g.K "__add__" "Share.__add__" (defArgs (inClass (top 6) 1)) (defBody (inClass (top 6) 1)) (defScope (inClass (top 6) 1)) [] [] f fd) (hb : Binds g.K fd ["self", "other"] [])
    (hcl : Cls g.K A) (hna : NoA g A shF2) (GIS : FnD g 3 f1 ["self", "over", "under"] (spIS A (He.ga g.K "InvalidNumber"))) (MIS : Mk g.K A f1) (mIS : g.mg "Share" = some (.ref A)) :
    FnD g 5 f ["self", "other"] (spBo A adF) := by
  refine fn_mk F hb scAD (gl := ["Share"]) [("self", 0), ("other", 1)] (by decide +kernel) (by decide +kernel) (fun rs S Ψ ξ h => ?_) (fun rs S Ψ ξ h => ?_)
  · obtain ⟨_, rfl, _⟩ := h; rfl
  · obtain ⟨⟨p, q⟩, rfl, rfl, ⟨n, m, hp, hq, hnm⟩, hΨ⟩ := h
    dsimp only at hp hq hΨ
    refine wss_one ?_
    walk_at "s"
    refine we_make GIS MIS (by walk_at "ing") mIS (Nat.le_of_ble_eq_true rfl) rfl ?_ (fun _ => rfl) (fun _ => rfl)
    repeat walk_at "e"
    walk_at "sf"
    repeat walk_at "e"
    walk_at "sf"
    refine wo_mulX (mulx_ok hp.b1 hq.b2 (by omega)) ?_
    repeat walk_at "e"
    walk_at "sf"
    repeat walk_at "e"
    walk_at "sf"
    refine wo_mulX (mulx_ok hq.b1 hp.b2 (by omega)) ?_
    repeat walk_at "e"
    walk_at "sf"
    repeat walk_at "e"
    walk_at "sf"
    refine wo_mulX (mulx_ok hp.b2 hq.b2 (by omega)) ?_
    repeat walk_at "e"
    refine fnc_IS (S := []) (pow_up (add_lt2 (mul_lt2 hp.b1 hq.b2) (by rw [Nat.add_comm n m]; exact mul_lt2 hq.b1 hp.b2)) (by omega)) (pow_up (mul_lt2 hp.b2 hq.b2) (by omega)) (fun _ => ⟨rfl, ?_⟩) (fun hz => absurd hz (Int.ne_of_gt (Int.mul_pos hp.pos hq.pos)))
    exact ⟨0, Nat.le_refl _, Nat.zero_le _, rfl, .inr ⟨_, fz_Sh [] A _, hΨ⟩⟩
/-! ### __sub__ -/
theorem scSB : FnScope ["self", "other"] ["self", "other"] (defScope (inClass (top 6) 2)) := ⟨rfl, rfl, rfl, by decide +kernel, rfl, by decide +kernel, by decide +kernel⟩
theorem ok_sb {g : Gd} {f f1 A : Addr} {fd : FuncData} (F : FunD g.K "__sub__" "Share.__sub__" (defArgs (inClass (top 6) 2)) (defBody (inClass (top 6) 2)) (defScope (inClass (top 6) 2)) [] [] f fd) (hb : Binds g.K fd ["self", "other"] [])
    (hcl : Cls g.K A) (hna : NoA g A shF2) (GIS : FnD g 3 f1 ["self", "over", "under"] (spIS A (He.ga g.K "InvalidNumber"))) (MIS : Mk g.K A f1) (mIS : g.mg "Share" = some (.ref A)) :
    FnD g 5 f ["self", "other"] (spBo A sbF) := by
  refine fn_mk F hb scSB (gl := ["Share"]) [("self", 0), ("other", 1)] (by decide +kernel) (by decide +kernel) (fun rs S Ψ ξ h => ?_) (fun rs S Ψ ξ h => ?_)
  · obtain ⟨_, rfl, _⟩ := h; rfl
  · obtain ⟨⟨p, q⟩, rfl, rfl, ⟨n, m, hp, hq, hnm⟩, hΨ⟩ := h
    dsimp only at hp hq hΨ
    refine wss_one ?_
    walk_at "s"
    refine we_make GIS MIS (by walk_at "ing") mIS (Nat.le_of_ble_eq_true rfl) rfl ?_ (fun _ => rfl) (fun _ => rfl)
    repeat walk_at "e"
    walk_at "sf"
    repeat walk_at "e"
    walk_at "sf"
    refine wo_mulX (mulx_ok hp.b1 hq.b2 (by omega)) ?_
    repeat walk_at "e"
    walk_at "sf"
    repeat walk_at "e"
    walk_at "sf"
    refine wo_mulX (mulx_ok hq.b1 hp.b2 (by omega)) ?_
    repeat walk_at "e"
    walk_at "sf"
    repeat walk_at "e"
    walk_at "sf"
    refine wo_mulX (mulx_ok hp.b2 hq.b2 (by omega)) ?_
    repeat walk_at "e"
    refine fnc_IS (S := []) (pow_up (sub_lt2 (mul_lt2 hp.b1 hq.b2) (by rw [Nat.add_comm n m]; exact mul_lt2 hq.b1 hp.b2)) (by omega)) (pow_up (mul_lt2 hp.b2 hq.b2) (by omega)) (fun _ => ⟨rfl, ?_⟩) (fun hz => absurd hz (Int.ne_of_gt (Int.mul_pos hp.pos hq.pos)))
    exact ⟨0, Nat.le_refl _, Nat.zero_le _, rfl, .inr ⟨_, fz_Sh [] A _, hΨ⟩⟩
/-! ### __mul__ -/
theorem scML : FnScope ["self", "other"] ["self", "other"] (defScope (inClass (top 6) 3)) := ⟨rfl, rfl, rfl, by decide +kernel, rfl, by decide +kernel, by decide +kernel⟩
theorem ok_ml {g : Gd} {f f1 A : Addr} {fd : FuncData} (F : FunD g.K "__mul__" "Share.__mul__" (defArgs (inClass (top 6) 3)) (defBody (inClass (top 6) 3)) (defScope (inClass (top 6) 3)) [] [] f fd) (hb : Binds g.K fd ["self", "other"] [])
    (hcl : Cls g.K A) (hna : NoA g A shF2) (GIS : FnD g 3 f1 ["self", "over", "under"] (spIS A (He.ga g.K "InvalidNumber"))) (MIS : Mk g.K A f1) (mIS : g.mg "Share" = some (.ref A)) :
    FnD g 5 f ["self", "other"] (spBo A mlF) := by
  refine fn_mk F hb scML (gl := ["Share"]) [("self", 0), ("other", 1)] (by decide +kernel) (by decide +kernel) (fun rs S Ψ ξ h => ?_) (fun rs S Ψ ξ h => ?_)
  · obtain ⟨_, rfl, _⟩ := h; rfl
  · obtain ⟨⟨p, q⟩, rfl, rfl, ⟨n, m, hp, hq, hnm⟩, hΨ⟩ := h
    dsimp only at hp hq hΨ
    refine wss_one ?_
    walk_at "s"
    refine we_make GIS MIS (by walk_at "ing") mIS (Nat.le_of_ble_eq_true rfl) rfl ?_ (fun _ => rfl) (fun _ => rfl)
    repeat walk_at "e"
    walk_at "sf"
    repeat walk_at "e"
    walk_at "sf"
    refine wo_mulX (mulx_ok hp.b1 hq.b1 (by omega)) ?_
    repeat walk_at "e"
    walk_at "sf"
    repeat walk_at "e"
    walk_at "sf"
    refine wo_mulX (mulx_ok hp.b2 hq.b2 (by omega)) ?_
    repeat walk_at "e"
    refine fnc_IS (S := []) (pow_up (mul_lt2 hp.b1 hq.b1) (by omega)) (pow_up (mul_lt2 hp.b2 hq.b2) (by omega)) (fun _ => ⟨rfl, ?_⟩) (fun hz => absurd hz (Int.ne_of_gt (Int.mul_pos hp.pos hq.pos)))
    exact ⟨0, Nat.le_refl _, Nat.zero_le _, rfl, .inr ⟨_, fz_Sh [] A _, hΨ⟩⟩
/-! ### __eq__ -/
inductive EqS (A : Addr) (p : Int × Int) : D → Bool → Prop where
  | sh (q : Int × Int) : EqS A p (shD A q) (decide (p = q))
  | ot {d : D} {T : String} : tyD d = some T → (T = "NoneType" ∨ T = "int" ∨ T = "str" ∨ T = "tuple") → EqS A p d false
def spEQ (A : Addr) : DSp := fun rs S Ψ _ => ∃ (p : Int × Int) (d : D) (b : Bool), rs = [.val (shD A p), .val d] ∧ S = [] ∧ EqS A p d b ∧ Ψ (.val (.bl b)) []
theorem fnc_EQ {C : DC} {env : Nv} {S : Sto} {Ψ : R → Sto → Prop} {A : Addr} {p : Int × Int} {d : D} {b : Bool} (hd : EqS A p d b) (h : Ψ (.val (.bl b)) S) : FnC C (spEQ A) [.val (shD A p), .val d] env S Ψ := by
  refine ⟨[], [], _, PassS.nil, .cons (.val _) (.cons (.val _) .nil), p, d, b, rfl, rfl, hd, ?_⟩
  show Ψ (.val _) (backS [] S [])
  rw [backS_nil]; exact h
theorem scEQ : FnScope ["self", "other"] ["self", "other"] (defScope (inClass (top 6) 4)) := ⟨rfl, rfl, rfl, by decide +kernel, rfl, by decide +kernel, by decide +kernel⟩
theorem ok_eq {g : Gd} {f A : Addr} {fd : FuncData} (F : FunD g.K "__eq__" "Share.__eq__" (defArgs (inClass (top 6) 4)) (defBody (inClass (top 6) 4)) (defScope (inClass (top 6) 4)) [] [] f fd) (hb : Binds g.K fd ["self", "other"] [])
    (hB : BltF g ["isinstance"]) (hcl : Cls g.K A) (hna : NoA g A shF2) (oC : OwnC g.K A) (mIS : g.mg "Share" = some (.ref A)) :
    FnD g 1 f ["self", "other"] (spEQ A) := by
  refine fn_mk F hb scEQ (gl := ["Share", "isinstance"]) [("self", 0), ("other", 1)] (by decide +kernel) (by decide +kernel) (fun rs S Ψ ξ h => ?_) (fun rs S Ψ ξ h => ?_)
  · obtain ⟨_, _, _, rfl, _⟩ := h; rfl
  · obtain ⟨p, d, b, rfl, rfl, hd, hΨ⟩ := h
    refine wss_cons ?_
    refine ws_if ?_
    refine wt_not ?_
    refine wt_val ?_ (fun _ _ => rfl)
    repeat walk_at "e"
    refine we_cls (by walk_at "ing") mIS ?_
    repeat walk_at "e"
    cases hd with
    | sh q =>
      refine wc_isO1 oC (shIns _ _ _) ?_
      refine ⟨true, rfl, fun h => (by cases h), fun _ => ?_⟩
      walk_at "s"
      refine wss_one ?_
      walk_at "s"
      repeat walk_at "e"
      walk_at "sf"
      repeat walk_at "e"
      walk_at "sf"
      repeat walk_at "e"
      refine ⟨fun h => ?_, fun h => ?_⟩
      · have h := of_decide_eq_true h
        repeat walk_at "e"
        walk_at "sf"
        repeat walk_at "e"
        walk_at "sf"
        repeat walk_at "e"
        refine RetC.now (Nat.le_refl _) rfl rfl ?_
        rw [show decide (p.2 = q.2) = decide (p = q) from decide_eq_decide.mpr ⟨fun k => Prod.ext h k, fun k => by rw [k]⟩]
        exact hΨ
      · have h := of_decide_eq_false h
        rw [decide_eq_false (fun k => h (by rw [k]))] at hΨ
        exact RetC.now (Nat.le_refl _) rfl rfl hΨ
    | ot h1 h2 =>
      refine wc_isO0 oC h1 h2 ?_
      refine ⟨false, rfl, fun _ => ?_, fun h => (by cases h)⟩
      refine wss_one ?_
      walk_at "s"
      repeat walk_at "e"
      exact RetC.now (Nat.le_refl _) rfl rfl hΨ
/-! ### is_below, written -/
def blF (p q : Int × Int) : Bool := decide (p.1 * q.2 < q.1 * p.2)
abbrev spBE (A : Addr) := spF SS (fun z => [shD A z.p, shD A z.q]) (fun z => z.ok) (fun z => .bl (blF z.p z.q))
theorem scBE : FnScope ["self", "other"] ["self", "other"] (defScope (inClass (top 6) 5)) := ⟨rfl, rfl, rfl, by decide +kernel, rfl, by decide +kernel, by decide +kernel⟩
theorem ok_be {g : Gd} {f A : Addr} {fd : FuncData} (F : FunD g.K "is_below" "Share.is_below" (defArgs (inClass (top 6) 5)) (defBody (inClass (top 6) 5)) (defScope (inClass (top 6) 5)) [] [] f fd) (hb : Binds g.K fd ["self", "other"] [])
    (hcl : Cls g.K A) (hna : NoA g A shF2) : FnD g 1 f ["self", "other"] (spBE A) := by
  refine fn_mk F hb scBE (gl := []) [("self", 0), ("other", 1)] (by decide +kernel) (by decide +kernel) (fun rs S Ψ ξ h => ?_) (fun rs S Ψ ξ h => ?_)
  · obtain ⟨_, rfl, _⟩ := h; rfl
  · obtain ⟨⟨p, q⟩, rfl, rfl, ⟨n, m, hp, hq, hnm⟩, hΨ⟩ := h
    dsimp only at hp hq hΨ
    refine wss_one ?_
    walk_at "s"
    repeat walk_at "e"
    walk_at "sf"
    repeat walk_at "e"
    walk_at "sf"
    refine wo_mulX (mulx_ok hp.b1 hq.b2 (by omega)) ?_
    repeat walk_at "e"
    walk_at "sf"
    repeat walk_at "e"
    walk_at "sf"
    refine wo_mulX (mulx_ok hq.b1 hp.b2 (by omega)) ?_
    repeat walk_at "e"
    exact RetC.now (Nat.le_refl _) rfl rfl hΨ
/-- how it is written -/
def wrS (p : Int × Int) : Str := if p.2 = 1 then strI p.1 else strI p.1 ++ Str.ofString "/" ++ strI p.2
abbrev spWT (A : Addr) := spF (Int × Int) (fun p => [shD A p]) (fun p => ShB 1000 p) (fun p => .str (wrS p))
theorem ShB.l1 {p : Int × Int} (h : ShB 1000 p) : p.1.natAbs.log2 < 1920 := log2_lt (Nat.lt_of_lt_of_le h.b1 (Nat.pow_le_pow_right (by decide) (by decide))) (by decide)
theorem ShB.l2 {p : Int × Int} (h : ShB 1000 p) : p.2.natAbs.log2 < 1920 := log2_lt (Nat.lt_of_lt_of_le h.b2 (Nat.pow_le_pow_right (by decide) (by decide))) (by decide)
theorem scWT : FnScope ["self"] ["self"] (defScope (inClass (top 6) 6)) := ⟨rfl, rfl, rfl, by decide +kernel, rfl, by decide +kernel, by decide +kernel⟩
theorem ok_wt {g : Gd} {f A : Addr} {fd : FuncData} (F : FunD g.K "written" "Share.written" (defArgs (inClass (top 6) 6)) (defBody (inClass (top 6) 6)) (defScope (inClass (top 6) 6)) [] [] f fd) (hb : Binds g.K fd ["self"] [])
    (hB : BltF g ["str"]) (hcl : Cls g.K A) (hna : NoA g A shF2) : FnD g 1 f ["self"] (spWT A) := by
  refine fn_mk F hb scWT (gl := ["str"]) [("self", 0)] (by decide +kernel) (by decide +kernel) (fun rs S Ψ ξ h => ?_) (fun rs S Ψ ξ h => ?_)
  · obtain ⟨_, rfl, _⟩ := h; rfl
  · obtain ⟨p, rfl, rfl, hp, hΨ⟩ := h
    dsimp only at hp hΨ
    unfold wrS at hΨ
    refine wss_cons ?_
    refine ws_ifB (p.2 = 1) ?_ (fun h => ?_) (fun h => ?_)
    · repeat walk_at "e"
      walk_at "sf"
      repeat walk_at "e"
      exact ⟨rfl, rfl⟩
    · rw [if_pos h] at hΨ
      refine wss_one ?_
      walk_at "s"
      refine we_callT (by walk_at "ing") (by walk_at "nb") boot_str ?_ (fun _ => rfl) (fun _ => rfl)
      repeat walk_at "e"
      walk_at "sf"
      repeat walk_at "e"
      refine wc_strI hp.l1 ?_
      exact RetC.now (Nat.le_refl _) rfl rfl hΨ
    · rw [if_neg h] at hΨ
      walk_at "s"
      refine wss_one ?_
      walk_at "s"
      refine we_fstr2 (by decide) ?_
      repeat walk_at "e"
      walk_at "sf"
      refine ⟨_, rfl, hp.l1, ?_⟩
      repeat walk_at "e"
      walk_at "sf"
      refine ⟨_, rfl, hp.l2, ?_⟩
      refine RetC.now (Nat.le_refl _) rfl rfl ?_
      have e : ∀ s : Str, Str.empty ++ s = s := fun s => by
        have : Str.empty = sS [] := rfl
        rw [sS_of s, this, sS_app]; rfl
      rw [e]
      exact hΨ
end DL
set_option Elab.async false
set_option linter.all false
set_option maxRecDepth 100000
set_option maxHeartbeats 4000000
namespace DL
open PySem PySem.Spec PyProof.Rows
open L2 hiding Takes passAt takes_of ps_raise PMk ps_try_as
open L2N (Takes passAt takes_of ps_raise PMk ps_try_as)
local macro_rules | `(tactic| walk_at "inv") => `(tactic| ((try dsimp only); repeat (first | with_reducible exact InV.here | with_reducible apply InV.there)))
local macro_rules | `(tactic| walk_at "ing") => `(tactic| ((try dsimp only); repeat (first | with_reducible exact InG.here | with_reducible apply InG.there)))
local macro_rules | `(tactic| walk_at "nb") => `(tactic| first | assumption | (dsimp only; refine BltF.at_ (by assumption) ?_; repeat (first | with_reducible exact InG.here | with_reducible apply InG.there)))
local macro_rules | `(tactic| walk_at "s") => `(tactic| first
  | refine wss_cons ?_ | refine wss_nil ?_ | refine ws_set (by walk_at "inv") ?_ (fun _ => rfl) | refine ws_if ?_ | refine ws_ret ?_ | refine ws_aug (by walk_at "inv") rfl ?_
  | refine ws_expr ?_ (fun _ => rfl) | refine ws_pass ?_ | refine ws_break ?_ | refine ws_cont ?_ | refine ws_retN ?_
  | refine ws_setA ?_ (fun _ => rfl) | refine ws_put ?_ (fun _ => rfl) | refine ws_asg ?_ (fun _ => rfl) (fun _ => rfl) (fun _ => rfl))
local macro_rules | `(tactic| walk_at "we") => `(tactic| first
  | refine we_name (by walk_at "inv") rfl ?_ | refine we_int ?_ | refine we_op ?_ | refine we_str ?_
  | refine we_callB (by walk_at "ing") (by walk_at "nb") (by first | exact PySem.boot_len | exact boot_abs | exact boot_min | exact boot_max | exact boot_sorted | exact boot_isinstance) ?_ (fun _ => rfl) (fun _ => rfl)
  | refine we_callT (by walk_at "ing") (by walk_at "nb") (by first | exact boot_tuple | exact boot_list | exact boot_int) ?_ (fun _ => rfl) (fun _ => rfl)
  | refine we_attr ?_ (fun _ => rfl) | refine we_ix ?_ (fun _ _ => rfl) | refine we_tup ?_
  | refine we_append ?_ (fun _ => rfl) (fun _ => rfl) rfl (fun _ => rfl) (fun _ => rfl)
  | refine we_bl ?_ | refine we_non ?_ | refine we_chain ?_ rfl | refine we_cmp ?_ rfl | refine we_one ?_ | refine we_and ?_ | refine we_or ?_ | refine we_not ?_ | refine we_ifx ?_ | refine we_neg ?_ | refine we_slice ?_)
local macro_rules | `(tactic| walk_at "wb") => `(tactic| first | refine we_type (by walk_at "ing") (by walk_at "nb") boot_int ?_ | refine we_type (by walk_at "ing") (by walk_at "nb") boot_bool ?_ | refine we_type (by walk_at "ing") (by walk_at "nb") boot_str ?_ | refine we_type (by walk_at "ing") (by walk_at "nb") boot_tuple ?_)
local macro_rules | `(tactic| walk_at "wt") => `(tactic| first | refine wt_cmp ?_ rfl | refine wt_not ?_ | refine wt_chain ?_ rfl | refine wt_of ?_)
local macro_rules | `(tactic| walk_at "wto") => `(tactic| first | refine wto_and1 ?_ | refine wto_or1 ?_ | refine wto_and ?_ | refine wto_or ?_)
local macro_rules | `(tactic| walk_at "wo") => `(tactic| first
  | refine wo_add ?_ | refine wo_sub ?_ | refine wo_lt ?_ | refine wo_le ?_ | refine wo_gt ?_ | refine wo_ge ?_ | refine wo_eqI ?_ | refine wo_neI ?_ | refine wo_eqL ?_ | refine wo_neL ?_ | refine wo_lt1 ?_ | refine wo_le1 ?_ | refine wo_ge1 ?_ | refine wo_inL ?_ | refine wo_notInL ?_
  | refine wo_mod (by omega) ?_ | refine wo_fdiv ⟨by omega, by omega⟩ ?_ | refine wo_mul (by first | exact Or.inr ⟨by omega, by omega⟩ | exact Or.inl ⟨by omega, by omega⟩) ?_ | refine wo_pow ⟨by omega, by omega, by decide⟩ ?_
  | refine wo_isN (by intro _ h; cases h) ?_ | refine wo_notN (by intro _ h; cases h) ?_)
local macro_rules | `(tactic| walk_at "wc") => `(tactic| first
  | refine wc_len (by first | exact .tup _ | exact .lst _ | exact .bor _ | exact .loc rfl) ?_ | refine wc_int ?_ | refine wc_intB ?_ | refine wc_abs ?_ | refine wc_min2 rfl ?_ | refine wc_max2 rfl ?_ | refine wc_tuple (by first | exact .tup _ | exact .lst _ | exact .bor _ | exact .loc rfl) ?_)
local macro_rules | `(tactic| walk_at "e") => `(tactic| first
  | (with_reducible show WE _ _ _ _ _); walk_at "we"
  | (with_reducible show WT _ _ _ _ _); walk_at "wt"
  | (with_reducible show WTo _ _ _ _ _); walk_at "wto"
  | (with_reducible show WO _ _ _ _ _ _); walk_at "wo"
  | (with_reducible show WA _ _ _ _ _); first | refine wa_cons ?_ (fun _ => rfl) | refine wa_nil ?_
  | (with_reducible show WC _ _ _ _ _); walk_at "wc"
  | (with_reducible show WPO _ _ _ _ _); first | refine wpo_none ?_ | refine wpo_some ?_
  | refine asB_mk ?_ | refine wip_add ?_
  | refine ⟨_, rfl, (by first | decide | exact Nat.le_of_ble_eq_true rfl), ?_⟩)
local macro_rules | `(tactic| walk_at "ew") => `(tactic| ((try simp only [List.set_cons_zero, List.set_cons_succ]); repeat (first | exact EnvW.nil | refine EnvW.keep (by first | rfl | assumption) ?_ | refine EnvW.drop ?_)))
local macro_rules | `(tactic| walk_at "fl") => `(tactic| (refine ⟨_, _, fldL rfl (by repeat (first | with_reducible exact AtN.here | with_reducible apply AtN.there)) rfl, by assumption, NoA.at_ (by assumption) (by walk_at "ing"), ?_⟩))
local macro_rules | `(tactic| walk_at "fv") => `(tactic| (refine ⟨_, _, fldV (by repeat (first | with_reducible exact AtN.here | with_reducible apply AtN.there)) rfl, by assumption, NoA.at_ (by assumption) (by walk_at "ing"), ?_⟩))
local macro_rules | `(tactic| walk_at "at") => `(tactic| repeat (first | with_reducible exact AtN.here | with_reducible apply AtN.there))
local macro_rules | `(tactic| walk_at "tp") => `(tactic| refine wix_dR rfl tpF_nd (by walk_at "at") rfl ?_)
local macro_rules | `(tactic| walk_at "tq") => `(tactic| refine ⟨_, _, tpF, _, _, rfl, rfl, rfl, tpF_nd, by decide, by walk_at "at", ?_⟩)
local macro_rules | `(tactic| walk_at "sf") => `(tactic| (refine ⟨_, _, shFld (by repeat (first | with_reducible exact AtN.here | with_reducible apply AtN.there)) rfl, by assumption, NoA.at_ (by assumption) (by walk_at "ing"), ?_⟩))
/-! ### a fraction in lowest terms, by the law's own steps -/
def OU (p : Int × Int) : Prop := p.2 ≠ 0 ∧ p.1.natAbs < 2 ^ 1000 ∧ p.2.natAbs < 2 ^ 1000
abbrev spSh := spF (Int × Int) (fun p => [.int p.1, .int p.2]) (fun p => OU p) (fun p => prD (shF p.1 p.2))
structure EucI (g i a b : Nat) : Prop where
  g : Nat.gcd a b = g
  b0 : 0 < b
  st : i = 0 ∨ a = 0 ∨ (a < b ∧ a * b * 2 ^ i < 2 ^ 2002)
theorem EucI.step {g i a b : Nat} (h : EucI g i a b) (ha : 0 < a) (hi : i = 0 → a < 2 ^ 1000 ∧ b < 2 ^ 1000) : EucI g (i + 1) (b % a) a := by
  refine ⟨by rw [← h.g, ← Nat.gcd_rec], ha, .inr ?_⟩
  rcases Nat.eq_zero_or_pos (b % a) with z | z
  · exact .inl z
  refine .inr ⟨Nat.mod_lt _ ha, ?_⟩
  rcases h.st with e | e | ⟨h1, h2⟩
  · subst e
    obtain ⟨q1, q2⟩ := hi rfl
    have h3 : b % a < 2 ^ 1000 := Nat.lt_of_le_of_lt (Nat.mod_le _ _) q2
    have h4 : b % a * a < 2 ^ 2000 := by
      rw [show (2 : Nat) ^ 2000 = 2 ^ 1000 * 2 ^ 1000 by rw [← Nat.pow_add]]
      exact Nat.mul_lt_mul'' h3 q1
    rw [show (2 : Nat) ^ 2002 = 2 ^ 2000 * 2 ^ 2 by rw [← Nat.pow_add]]
    generalize (2 : Nat) ^ 2000 = X at h4
    omega
  · omega
  · have h3 := (euc h1 ha).2
    refine Nat.lt_of_le_of_lt ?_ h2
    rw [Nat.pow_succ, Nat.mul_comm (2 ^ i) 2, ← Nat.mul_assoc]
    exact Nat.mul_le_mul_right _ h3
theorem EucI.zero {g a b : Nat} (h : EucI g 4000 a b) : a = 0 := by
  rcases h.st with e | e | ⟨h1, h2⟩
  · omega
  · exact e
  · refine Nat.eq_zero_of_not_pos fun ha => ?_
    have h3 : 1 ≤ a * b := Nat.mul_pos ha h.b0
    have h4 : (2 : Nat) ^ 4000 ≤ a * b * 2 ^ 4000 := Nat.le_mul_of_pos_left _ h3
    exact absurd (Nat.lt_of_le_of_lt h4 h2) (Nat.not_lt.mpr (Nat.pow_le_pow_right (by decide) (by decide)))
theorem scSh : FnScope ["_law_over", "_law_under", "_law_a", "_law_b", "_law_k", "_law_c"] ["_law_over", "_law_under"] (defScope (top 12)) := ⟨rfl, rfl, rfl, by decide +kernel, rfl, by decide +kernel, by decide +kernel⟩
theorem ok_sh {g : Gd} {f : Addr} {fd : FuncData} (F : FunD g.K "_law_share" "_law_share" (defArgs (top 12)) (defBody (top 12)) (defScope (top 12)) [] [] f fd) (hb : Binds g.K fd ["_law_over", "_law_under"] [])
    (hB : BltF g ["abs", "int", "range"]) : FnD g 1 f ["_law_over", "_law_under"] spSh := by
  refine fn_mk F hb scSh (gl := ["abs", "int", "range"]) [("_law_over", 0), ("_law_under", 1), ("_law_a", 2), ("_law_b", 3), ("_law_k", 4), ("_law_c", 5)] (by decide +kernel) (by decide +kernel) (fun rs S Ψ ξ h => ?_) (fun rs S Ψ ξ h => ?_)
  · obtain ⟨_, rfl, _⟩ := h; rfl
  · obtain ⟨⟨o, u⟩, rfl, rfl, ⟨h0, h1, h2⟩, hΨ⟩ := h
    dsimp only at h0 h1 h2 hΨ
    have eo : ((if 0 < u then o else -o)).natAbs = o.natAbs := by
      split
      · rfl
      · exact Int.natAbs_neg o
    refine wss_cut (fun env S => env = [some (.val (.int (if 0 < u then o else -o))), some (.val (iN u.natAbs)), none, none, none, none] ∧ S = []) ?_ ?_
    · refine ws_ifB (u < 0) ?_ (fun h => ?_) (fun h => ?_)
      · repeat walk_at "e"
        exact ⟨rfl, rfl⟩
      · refine wss_cons ?_
        walk_at "s"
        repeat walk_at "e"
        refine wss_one ?_
        walk_at "s"
        repeat walk_at "e"
        refine ⟨?_, rfl⟩
        rw [if_neg (by omega), show (0 : Int) - o = -o by omega, show (0 : Int) - u = ((u.natAbs : Nat) : Int) by omega]
        rfl
      · walk_at "s"
        refine ⟨?_, rfl⟩
        rw [if_pos (by omega), show u = ((u.natAbs : Nat) : Int) by omega]
        rfl
    rintro env' S' ⟨rfl, rfl⟩
    refine wss_cons ?_
    walk_at "s"
    repeat walk_at "e"
    rw [show (if (if 0 < u then o else -o) < 0 then -(if 0 < u then o else -o) else (if 0 < u then o else -o)) = ((o.natAbs : Nat) : Int) by split <;> split <;> omega]
    refine wss_cons ?_
    walk_at "s"
    repeat walk_at "e"
    have hg : 0 < Nat.gcd o.natAbs u.natAbs := Nat.gcd_pos_of_pos_right _ (by omega)
    refine wss_cut (fun env S => ∃ o5 o6 : Option R, env = [some (.val (.int (if 0 < u then o else -o))), some (.val (iN u.natAbs)), some (.val (iN 0)), some (.val (iN (Nat.gcd o.natAbs u.natAbs))), o5, o6] ∧ S = []) ?_ ?_
    · refine ws_for rfl ?_ (fun _ _ => rfl)
      refine wi_range1 (by walk_at "ing") (by walk_at "nb") ?_ (fun _ => rfl)
      repeat walk_at "e"
      refine ⟨fun i env S => ∃ a b : Nat, env = [some (.val (.int (if 0 < u then o else -o))), some (.val (iN u.natAbs)), some (.val (iN a)), some (.val (iN b)), none, none] ∧ S = [] ∧ EucI (Nat.gcd o.natAbs u.natAbs) i a b ∧ (i = 0 → a < 2 ^ 1000 ∧ b < 2 ^ 1000), Nat.zero_le _, ⟨o.natAbs, u.natAbs, rfl, rfl, ⟨rfl, by omega, .inl rfl⟩, fun _ => ⟨h1, h2⟩⟩, fun _ _ _ _ => trivial, ?_, ?_⟩
      · rintro i d env' S' hd ⟨a, b, rfl, rfl, hE, h00⟩
        obtain ⟨hi, rfl⟩ := rangeD_get hd
        refine wg_name (by walk_at "inv") ?_
        refine wss_cons ?_
        refine ws_ifB (a = 0) ?_ (fun h => ?_) (fun h => ?_)
        · repeat walk_at "e"
          exact ⟨decide_eq_decide.mpr (by omega), rfl⟩
        · subst h
          refine wss_one ?_
          walk_at "s"
          have e := hE.g
          rw [Nat.gcd_zero_left] at e
          subst e
          exact ⟨_, _, rfl, rfl⟩
        · walk_at "s"
          have ha : 0 < a := Nat.pos_of_ne_zero h
          refine wss_cons ?_
          walk_at "s"
          repeat walk_at "e"
          rw [show (b : Int) % (a : Int) = ((b % a : Nat) : Int) from (Int.natCast_emod b a).symm]
          refine wss_cons ?_
          walk_at "s"
          repeat walk_at "e"
          refine wss_one ?_
          walk_at "s"
          repeat walk_at "e"
          dsimp only
          exact Wk.drop (env' := [some (.val (.int (if 0 < u then o else -o))), some (.val (iN u.natAbs)), some (.val (iN (b % a))), some (.val (iN a)), none, none]) ⟨_, _, rfl, rfl, hE.step ha h00, fun h => (by cases h)⟩ (by walk_at "ew") (Nat.le_refl _) rfl
      · rintro env' S' ⟨a, b, rfl, rfl, hE, _⟩
        have hE : EucI (Nat.gcd o.natAbs u.natAbs) 4000 a b := hE
        have ha := hE.zero
        subst ha
        have e := hE.g
        rw [Nat.gcd_zero_left] at e
        subst e
        exact ⟨_, _, rfl, rfl⟩
    rintro env' S' ⟨o5, o6, rfl, rfl⟩
    have hgi : (0 : Int) < ((Nat.gcd o.natAbs u.natAbs : Nat) : Int) := by omega
    refine wss_one ?_
    walk_at "s"
    repeat walk_at "e"
    refine wo_fdivX (cdiv_ok hgi (n := 1000) (by rw [eo]; exact h1) (by omega)) ?_
    repeat walk_at "e"
    refine wo_fdivX (cdiv_ok hgi (n := 1000) (by rw [Int.natAbs_natCast]; exact h2) (by omega)) ?_
    refine wa_nil ⟨_, rfl, Nat.le_of_ble_eq_true rfl, ?_⟩
    exact RetC.now (Nat.le_refl _) rfl rfl hΨ
end DL
set_option Elab.async false
set_option linter.all false
set_option maxRecDepth 100000
set_option maxHeartbeats 4000000
namespace DL
open PySem PySem.Spec PyProof.Rows
open L2 hiding Takes passAt takes_of ps_raise PMk ps_try_as
open L2N (Takes passAt takes_of ps_raise PMk ps_try_as)
local macro_rules | `(tactic| walk_at "inv") => `(tactic| ((try dsimp only); repeat (first | with_reducible exact InV.here | with_reducible apply InV.there)))
local macro_rules | `(tactic| walk_at "ing") => `(tactic| ((try dsimp only); repeat (first | with_reducible exact InG.here | with_reducible apply InG.there)))
local macro_rules | `(tactic| walk_at "nb") => `(tactic| first | assumption | (dsimp only; refine BltF.at_ (by assumption) ?_; repeat (first | with_reducible exact InG.here | with_reducible apply InG.there)))
local macro_rules | `(tactic| walk_at "s") => `(tactic| first
  | refine wss_cons ?_ | refine wss_nil ?_ | refine ws_set (by walk_at "inv") ?_ (fun _ => rfl) | refine ws_if ?_ | refine ws_ret ?_ | refine ws_aug (by walk_at "inv") rfl ?_
  | refine ws_expr ?_ (fun _ => rfl) | refine ws_pass ?_ | refine ws_break ?_ | refine ws_cont ?_ | refine ws_retN ?_
  | refine ws_setA ?_ (fun _ => rfl) | refine ws_put ?_ (fun _ => rfl) | refine ws_asg ?_ (fun _ => rfl) (fun _ => rfl) (fun _ => rfl))
local macro_rules | `(tactic| walk_at "we") => `(tactic| first
  | refine we_name (by walk_at "inv") rfl ?_ | refine we_int ?_ | refine we_op ?_ | refine we_str ?_
  | refine we_callB (by walk_at "ing") (by walk_at "nb") (by first | exact PySem.boot_len | exact boot_abs | exact boot_min | exact boot_max | exact boot_sorted | exact boot_isinstance) ?_ (fun _ => rfl) (fun _ => rfl)
  | refine we_callT (by walk_at "ing") (by walk_at "nb") (by first | exact boot_tuple | exact boot_list | exact boot_int) ?_ (fun _ => rfl) (fun _ => rfl)
  | refine we_attr ?_ (fun _ => rfl) | refine we_ix ?_ (fun _ _ => rfl) | refine we_tup ?_
  | refine we_append ?_ (fun _ => rfl) (fun _ => rfl) rfl (fun _ => rfl) (fun _ => rfl)
  | refine we_bl ?_ | refine we_non ?_ | refine we_chain ?_ rfl | refine we_cmp ?_ rfl | refine we_one ?_ | refine we_and ?_ | refine we_or ?_ | refine we_not ?_ | refine we_ifx ?_ | refine we_neg ?_ | refine we_slice ?_)
local macro_rules | `(tactic| walk_at "wb") => `(tactic| first | refine we_type (by walk_at "ing") (by walk_at "nb") boot_int ?_ | refine we_type (by walk_at "ing") (by walk_at "nb") boot_bool ?_ | refine we_type (by walk_at "ing") (by walk_at "nb") boot_str ?_ | refine we_type (by walk_at "ing") (by walk_at "nb") boot_tuple ?_)
local macro_rules | `(tactic| walk_at "wt") => `(tactic| first | refine wt_cmp ?_ rfl | refine wt_not ?_ | refine wt_chain ?_ rfl | refine wt_of ?_)
local macro_rules | `(tactic| walk_at "wto") => `(tactic| first | refine wto_and1 ?_ | refine wto_or1 ?_ | refine wto_and ?_ | refine wto_or ?_)
local macro_rules | `(tactic| walk_at "wo") => `(tactic| first
  | refine wo_add ?_ | refine wo_sub ?_ | refine wo_lt ?_ | refine wo_le ?_ | refine wo_gt ?_ | refine wo_ge ?_ | refine wo_eqI ?_ | refine wo_neI ?_ | refine wo_eqL ?_ | refine wo_neL ?_ | refine wo_lt1 ?_ | refine wo_le1 ?_ | refine wo_ge1 ?_ | refine wo_inL ?_ | refine wo_notInL ?_
  | refine wo_mod (by omega) ?_ | refine wo_fdiv ⟨by omega, by omega⟩ ?_ | refine wo_mul (by first | exact Or.inr ⟨by omega, by omega⟩ | exact Or.inl ⟨by omega, by omega⟩) ?_ | refine wo_pow ⟨by omega, by omega, by decide⟩ ?_
  | refine wo_isN (by intro _ h; cases h) ?_ | refine wo_notN (by intro _ h; cases h) ?_)
local macro_rules | `(tactic| walk_at "wc") => `(tactic| first
  | refine wc_len (by first | exact .tup _ | exact .lst _ | exact .bor _ | exact .loc rfl) ?_ | refine wc_int ?_ | refine wc_intB ?_ | refine wc_abs ?_ | refine wc_min2 rfl ?_ | refine wc_max2 rfl ?_ | refine wc_tuple (by first | exact .tup _ | exact .lst _ | exact .bor _ | exact .loc rfl) ?_)
local macro_rules | `(tactic| walk_at "e") => `(tactic| first
  | (with_reducible show WE _ _ _ _ _); walk_at "we"
  | (with_reducible show WT _ _ _ _ _); walk_at "wt"
  | (with_reducible show WTo _ _ _ _ _); walk_at "wto"
  | (with_reducible show WO _ _ _ _ _ _); walk_at "wo"
  | (with_reducible show WA _ _ _ _ _); first | refine wa_cons ?_ (fun _ => rfl) | refine wa_nil ?_
  | (with_reducible show WC _ _ _ _ _); walk_at "wc"
  | (with_reducible show WPO _ _ _ _ _); first | refine wpo_none ?_ | refine wpo_some ?_
  | refine asB_mk ?_ | refine wip_add ?_
  | refine ⟨_, rfl, (by first | decide | exact Nat.le_of_ble_eq_true rfl), ?_⟩)
local macro_rules | `(tactic| walk_at "ew") => `(tactic| ((try simp only [List.set_cons_zero, List.set_cons_succ]); repeat (first | exact EnvW.nil | refine EnvW.keep (by first | rfl | assumption) ?_ | refine EnvW.drop ?_)))
local macro_rules | `(tactic| walk_at "fl") => `(tactic| (refine ⟨_, _, fldL rfl (by repeat (first | with_reducible exact AtN.here | with_reducible apply AtN.there)) rfl, by assumption, NoA.at_ (by assumption) (by walk_at "ing"), ?_⟩))
local macro_rules | `(tactic| walk_at "fv") => `(tactic| (refine ⟨_, _, fldV (by repeat (first | with_reducible exact AtN.here | with_reducible apply AtN.there)) rfl, by assumption, NoA.at_ (by assumption) (by walk_at "ing"), ?_⟩))
local macro_rules | `(tactic| walk_at "at") => `(tactic| repeat (first | with_reducible exact AtN.here | with_reducible apply AtN.there))
local macro_rules | `(tactic| walk_at "tp") => `(tactic| refine wix_dR rfl tpF_nd (by walk_at "at") rfl ?_)
local macro_rules | `(tactic| walk_at "tq") => `(tactic| refine ⟨_, _, tpF, _, _, rfl, rfl, rfl, tpF_nd, by decide, by walk_at "at", ?_⟩)
local macro_rules | `(tactic| walk_at "sf") => `(tactic| (refine ⟨_, _, shFld (by repeat (first | with_reducible exact AtN.here | with_reducible apply AtN.there)) rfl, by assumption, NoA.at_ (by assumption) (by walk_at "ing"), ?_⟩))
/-! ### added, times -/
def PP (z : SS) : Prop := ∃ n m, ShB n z.p ∧ ShB m z.q ∧ n + m + 1 ≤ 1000
theorem ou_ad {n m : Nat} {p q : Int × Int} (hp : ShB n p) (hq : ShB m q) (h : n + m + 1 ≤ 1000) : OU (p.1 * q.2 + q.1 * p.2, p.2 * q.2) := ⟨Int.ne_of_gt (Int.mul_pos hp.pos hq.pos), pow_up (add_lt2 (mul_lt2 hp.b1 hq.b2) (by rw [Nat.add_comm n m]; exact mul_lt2 hq.b1 hp.b2)) h, pow_up (mul_lt2 hp.b2 hq.b2) (by omega)⟩
theorem ou_ml {n m : Nat} {p q : Int × Int} (hp : ShB n p) (hq : ShB m q) (h : n + m + 1 ≤ 1000) : OU (p.1 * q.1, p.2 * q.2) := ⟨Int.ne_of_gt (Int.mul_pos hp.pos hq.pos), pow_up (mul_lt2 hp.b1 hq.b1) (by omega), pow_up (mul_lt2 hp.b2 hq.b2) (by omega)⟩
abbrev spPp (f : Int × Int → Int × Int → Int × Int) := spF SS (fun z => [prD z.p, prD z.q]) (fun z => z.ok) (fun z => prD (f z.p z.q))
theorem wix_p1 {C : DC} {S : Sto} {Ψ : R → Sto → Prop} {p : Int × Int} (h : Ψ (.val (.int p.1)) S) : WIx C (.val (prD p)) (.val (.int 0)) S Ψ := wix_seq (.tup _) rfl h
theorem wix_p2 {C : DC} {S : Sto} {Ψ : R → Sto → Prop} {p : Int × Int} (h : Ψ (.val (.int p.2)) S) : WIx C (.val (prD p)) (.val (.int 1)) S Ψ := wix_seq (.tup _) rfl h
theorem scAd : FnScope ["_law_one", "_law_other"] ["_law_one", "_law_other"] (defScope (top 13)) := ⟨rfl, rfl, rfl, by decide +kernel, rfl, by decide +kernel, by decide +kernel⟩
theorem ok_lad {g : Gd} {f f1 : Addr} {fd : FuncData} (F : FunD g.K "_law_added" "_law_added" (defArgs (top 13)) (defBody (top 13)) (defScope (top 13)) [] [] f fd) (hb : Binds g.K fd ["_law_one", "_law_other"] [])
    (G1 : FnD g 1 f1 ["_law_over", "_law_under"] spSh) (m1 : g.mg "_law_share" = some (.ref f1)) : FnD g 2 f ["_law_one", "_law_other"] (spPp adF) := by
  refine fn_mk F hb scAd (gl := ["_law_share"]) [("_law_one", 0), ("_law_other", 1)] (by decide +kernel) (by decide +kernel) (fun rs S Ψ ξ h => ?_) (fun rs S Ψ ξ h => ?_)
  · obtain ⟨_, rfl, _⟩ := h; rfl
  · obtain ⟨⟨p, q⟩, rfl, rfl, ⟨n, m, hp, hq, hnm⟩, hΨ⟩ := h
    dsimp only at hp hq hΨ
    refine wss_one ?_
    walk_at "s"
    refine we_call G1 (by walk_at "ing") m1 (Nat.le_of_ble_eq_true rfl) rfl ?_ (fun _ => rfl) (fun _ => rfl)
    repeat walk_at "e"
    refine wix_p1 ?_
    repeat walk_at "e"
    refine wix_p2 ?_
    refine wo_mulX (mulx_ok hp.b1 hq.b2 (by omega)) ?_
    repeat walk_at "e"
    refine wix_p1 ?_
    repeat walk_at "e"
    refine wix_p2 ?_
    refine wo_mulX (mulx_ok hq.b1 hp.b2 (by omega)) ?_
    repeat walk_at "e"
    refine wix_p2 ?_
    repeat walk_at "e"
    refine wix_p2 ?_
    refine wo_mulX (mulx_ok hp.b2 hq.b2 (by omega)) ?_
    repeat walk_at "e"
    refine fnc_F (A := Int × Int) (p.1 * q.2 + q.1 * p.2, p.2 * q.2) rfl (ou_ad hp hq hnm) ?_
    exact RetC.now (Nat.le_refl _) rfl rfl hΨ
theorem scTi : FnScope ["_law_one", "_law_other"] ["_law_one", "_law_other"] (defScope (top 14)) := ⟨rfl, rfl, rfl, by decide +kernel, rfl, by decide +kernel, by decide +kernel⟩
theorem ok_lti {g : Gd} {f f1 : Addr} {fd : FuncData} (F : FunD g.K "_law_times" "_law_times" (defArgs (top 14)) (defBody (top 14)) (defScope (top 14)) [] [] f fd) (hb : Binds g.K fd ["_law_one", "_law_other"] [])
    (G1 : FnD g 1 f1 ["_law_over", "_law_under"] spSh) (m1 : g.mg "_law_share" = some (.ref f1)) : FnD g 2 f ["_law_one", "_law_other"] (spPp mlF) := by
  refine fn_mk F hb scTi (gl := ["_law_share"]) [("_law_one", 0), ("_law_other", 1)] (by decide +kernel) (by decide +kernel) (fun rs S Ψ ξ h => ?_) (fun rs S Ψ ξ h => ?_)
  · obtain ⟨_, rfl, _⟩ := h; rfl
  · obtain ⟨⟨p, q⟩, rfl, rfl, ⟨n, m, hp, hq, hnm⟩, hΨ⟩ := h
    dsimp only at hp hq hΨ
    refine wss_one ?_
    walk_at "s"
    refine we_call G1 (by walk_at "ing") m1 (Nat.le_of_ble_eq_true rfl) rfl ?_ (fun _ => rfl) (fun _ => rfl)
    repeat walk_at "e"
    refine wix_p1 ?_
    repeat walk_at "e"
    refine wix_p1 ?_
    refine wo_mulX (mulx_ok hp.b1 hq.b1 (by omega)) ?_
    repeat walk_at "e"
    refine wix_p2 ?_
    repeat walk_at "e"
    refine wix_p2 ?_
    refine wo_mulX (mulx_ok hp.b2 hq.b2 (by omega)) ?_
    repeat walk_at "e"
    refine fnc_F (A := Int × Int) (p.1 * q.1, p.2 * q.2) rfl (ou_ml hp hq hnm) ?_
    exact RetC.now (Nat.le_refl _) rfl rfl hΨ
/-! ### is_share -/
theorem flt_pr : Flt prD 1 := by
  have e : ∀ x y : Int × Int, eqD (prD x) (prD y) = decide (x = y) := fun x y => by
    have h := (flt_int.tup).eq [x.1, x.2] [y.1, y.2]
    show eqD (.tup ([x.1, x.2].map .int)) (.tup ([y.1, y.2].map .int)) = _
    rw [h]
    refine decide_eq_decide.mpr ⟨fun k => ?_, fun k => by rw [k]⟩
    simp at k
    exact Prod.ext k.1 k.2
  exact ⟨e, fun _ => rfl, fun x => (flt_int.tup).dep [x.1, x.2]⟩
abbrev spIs (A : Addr) := spF SS (fun z => [shD A z.p, prD z.q]) (fun _ => True) (fun z => .bl (decide (z.p = z.q)))
theorem scIs : FnScope ["_law_actual", "_law_due", "_law_part"] ["_law_actual", "_law_due"] (defScope (top 15)) := ⟨rfl, rfl, rfl, by decide +kernel, rfl, by decide +kernel, by decide +kernel⟩
theorem ok_lis {g : Gd} {f A : Addr} {fd : FuncData} (F : FunD g.K "_law_is_share" "_law_is_share" (defArgs (top 15)) (defBody (top 15)) (defScope (top 15)) [] [] f fd) (hb : Binds g.K fd ["_law_actual", "_law_due"] [])
    (hB : BltF g ["isinstance", "int", "bool"]) (hcl : Cls g.K A) (hna : NoA g A shF2) : FnD g 1 f ["_law_actual", "_law_due"] (spIs A) := by
  refine fn_mk F hb scIs (gl := ["isinstance", "int", "bool"]) [("_law_actual", 0), ("_law_due", 1), ("_law_part", 2)] (by decide +kernel) (by decide +kernel) (fun rs S Ψ ξ h => ?_) (fun rs S Ψ ξ h => ?_)
  · obtain ⟨_, rfl, _⟩ := h; rfl
  · obtain ⟨⟨p, q⟩, rfl, rfl, _, hΨ⟩ := h
    dsimp only at hΨ
    refine wss_cons ?_
    refine ws_for rfl ?_ (fun _ _ => rfl)
    refine wi_seq ?_
    repeat walk_at "e"
    walk_at "sf"
    repeat walk_at "e"
    walk_at "sf"
    refine wa_nil ⟨[.int p.1, .int p.2], rfl, Nat.le_of_ble_eq_true rfl, ?_⟩
    refine ⟨_, .tup _, fun i env S => env = [some (.val (shD A p)), some (.val (prD q)), none] ∧ S = [], Nat.zero_le _, ⟨rfl, rfl⟩, fun _ _ _ _ => trivial, ?_, ?_⟩
    · rintro i d env' S' hd ⟨rfl, rfl⟩
      obtain ⟨z, rfl⟩ : ∃ z : Int, d = .int z := by
        rcases List.mem_cons.mp (List.mem_of_getElem? hd) with rfl | h
        · exact ⟨_, rfl⟩
        · rw [List.mem_singleton.mp h]; exact ⟨_, rfl⟩
      refine wg_name (by walk_at "inv") ?_
      refine wss_one ?_
      refine ws_if ?_
      refine wt_of ?_
      refine wto_or ?_
      refine wt_not ?_
      refine wt_val ?_ (fun _ _ => rfl)
      repeat walk_at "e"
      walk_at "wb"
      repeat walk_at "e"
      refine wc_isi rfl rfl ?_
      refine ⟨true, rfl, fun h => (by cases h), fun _ => ?_⟩
      refine wto_or1 ?_
      refine wt_val ?_ (fun _ _ => rfl)
      repeat walk_at "e"
      walk_at "wb"
      repeat walk_at "e"
      refine wc_isi rfl rfl ?_
      refine ⟨false, rfl, fun h => (by cases h), fun _ => ?_⟩
      walk_at "s"
      dsimp only
      exact Wk.drop (env' := [some (.val (shD A p)), some (.val (prD q)), none]) ⟨rfl, rfl⟩ (by walk_at "ew") (Nat.le_refl _) rfl
    · rintro env' S' ⟨rfl, rfl⟩
      refine wss_one ?_
      walk_at "s"
      repeat walk_at "e"
      walk_at "sf"
      repeat walk_at "e"
      walk_at "sf"
      refine wa_nil ⟨[.int p.1, .int p.2], rfl, Nat.le_of_ble_eq_true rfl, ?_⟩
      repeat walk_at "e"
      refine wo_eqF (f := prD) (a := p) (b := q) flt_pr (by decide) (.val _) (.val _) ?_
      exact RetC.now (Nat.le_refl _) rfl rfl hΨ
/-! ### written -/
abbrev spWr := spF (Int × Int) (fun p => [prD p]) (fun p => ShB 1000 p) (fun p => .str (wrS p))
theorem scWr : FnScope ["_law_share_here"] ["_law_share_here"] (defScope (top 18)) := ⟨rfl, rfl, rfl, by decide +kernel, rfl, by decide +kernel, by decide +kernel⟩
theorem ok_lwr {g : Gd} {f : Addr} {fd : FuncData} (F : FunD g.K "_law_written" "_law_written" (defArgs (top 18)) (defBody (top 18)) (defScope (top 18)) [] [] f fd) (hb : Binds g.K fd ["_law_share_here"] [])
    (hB : BltF g ["str"]) : FnD g 1 f ["_law_share_here"] spWr := by
  refine fn_mk F hb scWr (gl := ["str"]) [("_law_share_here", 0)] (by decide +kernel) (by decide +kernel) (fun rs S Ψ ξ h => ?_) (fun rs S Ψ ξ h => ?_)
  · obtain ⟨_, rfl, _⟩ := h; rfl
  · obtain ⟨p, rfl, rfl, hp, hΨ⟩ := h
    dsimp only at hp hΨ
    have l1 := strI_len hp.l1
    have l2 := strI_len hp.l2
    unfold wrS at hΨ
    refine wss_cons ?_
    refine ws_ifB (p.2 = 1) ?_ (fun h => ?_) (fun h => ?_)
    · repeat walk_at "e"
      refine wix_p2 ?_
      repeat walk_at "e"
      exact ⟨rfl, rfl⟩
    · rw [if_pos h] at hΨ
      refine wss_one ?_
      walk_at "s"
      refine we_callT (by walk_at "ing") (by walk_at "nb") boot_str ?_ (fun _ => rfl) (fun _ => rfl)
      repeat walk_at "e"
      refine wix_p1 ?_
      repeat walk_at "e"
      refine wc_strI hp.l1 ?_
      exact RetC.now (Nat.le_refl _) rfl rfl hΨ
    · rw [if_neg h] at hΨ
      walk_at "s"
      refine wss_one ?_
      walk_at "s"
      refine we_op ?_
      refine we_op ?_
      refine we_callT (by walk_at "ing") (by walk_at "nb") boot_str ?_ (fun _ => rfl) (fun _ => rfl)
      repeat walk_at "e"
      refine wix_p1 ?_
      repeat walk_at "e"
      refine wc_strI hp.l1 ?_
      repeat walk_at "e"
      refine wo_addS (by rw [sizeLine_eq]; have : (Str.ofString "/").length = 1 := rfl; omega) ?_
      refine we_callT (by walk_at "ing") (by walk_at "nb") boot_str ?_ (fun _ => rfl) (fun _ => rfl)
      repeat walk_at "e"
      refine wix_p2 ?_
      repeat walk_at "e"
      refine wc_strI hp.l2 ?_
      refine wo_addS (by rw [strL, sizeLine_eq]; have : (Str.ofString "/").length = 1 := rfl; omega) ?_
      exact RetC.now (Nat.le_refl _) rfl rfl hΨ
/-! ### one_right -/
structure SD where
  p : Int × Int
abbrev spOR (A : Addr) := spF (Int × Int) (fun p => [shD A p, prD p]) (fun p => ShB 1000 p) (fun _ => .bl true)
theorem scOR : FnScope ["_law_share_here", "_law_due", "_law_text"] ["_law_share_here", "_law_due"] (defScope (top 20)) := ⟨rfl, rfl, rfl, by decide +kernel, rfl, by decide +kernel, by decide +kernel⟩
theorem ok_lor {g : Gd} {f f1 f2 f3 A : Addr} {fd : FuncData} (F : FunD g.K "_law_one_right" "_law_one_right" (defArgs (top 20)) (defBody (top 20)) (defScope (top 20)) [] [] f fd) (hb : Binds g.K fd ["_law_share_here", "_law_due"] [])
    (hB : BltF g ["isinstance", "str"]) (hcl : Cls g.K A) (G1 : FnD g 1 f1 ["self"] (spWT A)) (m1 : Meth g.K A "written" f1) (G2 : FnD g 1 f2 ["_law_actual", "_law_due"] (spIs A)) (m2 : g.mg "_law_is_share" = some (.ref f2)) (G3 : FnD g 1 f3 ["_law_share_here"] spWr) (m3 : g.mg "_law_written" = some (.ref f3)) :
    FnD g 2 f ["_law_share_here", "_law_due"] (spOR A) := by
  refine fn_mk F hb scOR (gl := ["isinstance", "str", "_law_is_share", "_law_written"]) [("_law_share_here", 0), ("_law_due", 1), ("_law_text", 2)] (by decide +kernel) (by decide +kernel) (fun rs S Ψ ξ h => ?_) (fun rs S Ψ ξ h => ?_)
  · obtain ⟨_, rfl, _⟩ := h; rfl
  · obtain ⟨p, rfl, rfl, hp, hΨ⟩ := h
    dsimp only at hp hΨ
    refine wss_cons ?_
    walk_at "s"
    refine we_meth0 G1 hcl m1 (Nat.le_of_ble_eq_true rfl) rfl ?_ (fun _ => rfl)
    repeat walk_at "e"
    refine ⟨_, shIns _ _ _, by decide +kernel, ?_⟩
    refine fnc_F (A := Int × Int) p rfl hp ?_
    refine wss_one ?_
    walk_at "s"
    refine we_and ?_
    refine we_call G2 (by walk_at "ing") m2 (Nat.le_of_ble_eq_true rfl) rfl ?_ (fun _ => rfl) (fun _ => rfl)
    repeat walk_at "e"
    refine fnc_F (A := SS) ⟨p, p⟩ rfl trivial ?_
    refine ⟨true, by dsimp only; rw [decide_eq_true rfl], fun _ => ?_, fun h => no_f h⟩
    refine we_and ?_
    repeat walk_at "e"
    walk_at "wb"
    repeat walk_at "e"
    refine wc_isi rfl rfl ?_
    refine ⟨true, rfl, fun _ => ?_, fun h => no_f h⟩
    refine we_one ?_
    refine we_cmp ?_ rfl
    repeat walk_at "e"
    refine we_call G3 (by walk_at "ing") m3 (Nat.le_of_ble_eq_true rfl) rfl ?_ (fun _ => rfl) (fun _ => rfl)
    repeat walk_at "e"
    refine fnc_F (A := Int × Int) p rfl hp ?_
    refine wo_eqS ?_
    rw [decide_eq_true rfl]
    exact RetC.now (Nat.le_refl _) rfl rfl hΨ
end DL
set_option Elab.async false
set_option linter.all false
set_option maxRecDepth 100000
set_option maxHeartbeats 4000000
namespace DL
open PySem PySem.Spec PyProof.Rows
open L2 hiding Takes passAt takes_of ps_raise PMk ps_try_as
open L2N (Takes passAt takes_of ps_raise PMk ps_try_as)
local macro_rules | `(tactic| walk_at "inv") => `(tactic| ((try dsimp only); repeat (first | with_reducible exact InV.here | with_reducible apply InV.there)))
local macro_rules | `(tactic| walk_at "ing") => `(tactic| ((try dsimp only); repeat (first | with_reducible exact InG.here | with_reducible apply InG.there)))
local macro_rules | `(tactic| walk_at "nb") => `(tactic| first | assumption | (dsimp only; refine BltF.at_ (by assumption) ?_; repeat (first | with_reducible exact InG.here | with_reducible apply InG.there)))
local macro_rules | `(tactic| walk_at "s") => `(tactic| first
  | refine wss_cons ?_ | refine wss_nil ?_ | refine ws_set (by walk_at "inv") ?_ (fun _ => rfl) | refine ws_if ?_ | refine ws_ret ?_ | refine ws_aug (by walk_at "inv") rfl ?_
  | refine ws_expr ?_ (fun _ => rfl) | refine ws_pass ?_ | refine ws_break ?_ | refine ws_cont ?_ | refine ws_retN ?_
  | refine ws_setA ?_ (fun _ => rfl) | refine ws_put ?_ (fun _ => rfl) | refine ws_asg ?_ (fun _ => rfl) (fun _ => rfl) (fun _ => rfl))
local macro_rules | `(tactic| walk_at "we") => `(tactic| first
  | refine we_name (by walk_at "inv") rfl ?_ | refine we_int ?_ | refine we_op ?_ | refine we_str ?_
  | refine we_callB (by walk_at "ing") (by walk_at "nb") (by first | exact PySem.boot_len | exact boot_abs | exact boot_min | exact boot_max | exact boot_sorted | exact boot_isinstance) ?_ (fun _ => rfl) (fun _ => rfl)
  | refine we_callT (by walk_at "ing") (by walk_at "nb") (by first | exact boot_tuple | exact boot_list | exact boot_int) ?_ (fun _ => rfl) (fun _ => rfl)
  | refine we_attr ?_ (fun _ => rfl) | refine we_ix ?_ (fun _ _ => rfl) | refine we_tup ?_
  | refine we_append ?_ (fun _ => rfl) (fun _ => rfl) rfl (fun _ => rfl) (fun _ => rfl)
  | refine we_bl ?_ | refine we_non ?_ | refine we_chain ?_ rfl | refine we_cmp ?_ rfl | refine we_one ?_ | refine we_and ?_ | refine we_or ?_ | refine we_not ?_ | refine we_ifx ?_ | refine we_neg ?_ | refine we_slice ?_)
local macro_rules | `(tactic| walk_at "wb") => `(tactic| first | refine we_type (by walk_at "ing") (by walk_at "nb") boot_int ?_ | refine we_type (by walk_at "ing") (by walk_at "nb") boot_bool ?_ | refine we_type (by walk_at "ing") (by walk_at "nb") boot_str ?_ | refine we_type (by walk_at "ing") (by walk_at "nb") boot_tuple ?_)
local macro_rules | `(tactic| walk_at "wt") => `(tactic| first | refine wt_cmp ?_ rfl | refine wt_not ?_ | refine wt_chain ?_ rfl | refine wt_of ?_)
local macro_rules | `(tactic| walk_at "wto") => `(tactic| first | refine wto_and1 ?_ | refine wto_or1 ?_ | refine wto_and ?_ | refine wto_or ?_)
local macro_rules | `(tactic| walk_at "wo") => `(tactic| first
  | refine wo_add ?_ | refine wo_sub ?_ | refine wo_lt ?_ | refine wo_le ?_ | refine wo_gt ?_ | refine wo_ge ?_ | refine wo_eqI ?_ | refine wo_neI ?_ | refine wo_eqL ?_ | refine wo_neL ?_ | refine wo_lt1 ?_ | refine wo_le1 ?_ | refine wo_ge1 ?_ | refine wo_inL ?_ | refine wo_notInL ?_
  | refine wo_mod (by omega) ?_ | refine wo_fdiv ⟨by omega, by omega⟩ ?_ | refine wo_mul (by first | exact Or.inr ⟨by omega, by omega⟩ | exact Or.inl ⟨by omega, by omega⟩) ?_ | refine wo_pow ⟨by omega, by omega, by decide⟩ ?_
  | refine wo_isN (by intro _ h; cases h) ?_ | refine wo_notN (by intro _ h; cases h) ?_)
local macro_rules | `(tactic| walk_at "wc") => `(tactic| first
  | refine wc_len (by first | exact .tup _ | exact .lst _ | exact .bor _ | exact .loc rfl) ?_ | refine wc_int ?_ | refine wc_intB ?_ | refine wc_abs ?_ | refine wc_min2 rfl ?_ | refine wc_max2 rfl ?_ | refine wc_tuple (by first | exact .tup _ | exact .lst _ | exact .bor _ | exact .loc rfl) ?_)
local macro_rules | `(tactic| walk_at "e") => `(tactic| first
  | (with_reducible show WE _ _ _ _ _); walk_at "we"
  | (with_reducible show WT _ _ _ _ _); walk_at "wt"
  | (with_reducible show WTo _ _ _ _ _); walk_at "wto"
  | (with_reducible show WO _ _ _ _ _ _); walk_at "wo"
  | (with_reducible show WA _ _ _ _ _); first | refine wa_cons ?_ (fun _ => rfl) | refine wa_nil ?_
  | (with_reducible show WC _ _ _ _ _); walk_at "wc"
  | (with_reducible show WPO _ _ _ _ _); first | refine wpo_none ?_ | refine wpo_some ?_
  | refine asB_mk ?_ | refine wip_add ?_
  | refine ⟨_, rfl, (by first | decide | exact Nat.le_of_ble_eq_true rfl), ?_⟩)
local macro_rules | `(tactic| walk_at "ew") => `(tactic| ((try simp only [List.set_cons_zero, List.set_cons_succ]); repeat (first | exact EnvW.nil | refine EnvW.keep (by first | rfl | assumption) ?_ | refine EnvW.drop ?_)))
local macro_rules | `(tactic| walk_at "fl") => `(tactic| (refine ⟨_, _, fldL rfl (by repeat (first | with_reducible exact AtN.here | with_reducible apply AtN.there)) rfl, by assumption, NoA.at_ (by assumption) (by walk_at "ing"), ?_⟩))
local macro_rules | `(tactic| walk_at "fv") => `(tactic| (refine ⟨_, _, fldV (by repeat (first | with_reducible exact AtN.here | with_reducible apply AtN.there)) rfl, by assumption, NoA.at_ (by assumption) (by walk_at "ing"), ?_⟩))
local macro_rules | `(tactic| walk_at "at") => `(tactic| repeat (first | with_reducible exact AtN.here | with_reducible apply AtN.there))
local macro_rules | `(tactic| walk_at "tp") => `(tactic| refine wix_dR rfl tpF_nd (by walk_at "at") rfl ?_)
local macro_rules | `(tactic| walk_at "tq") => `(tactic| refine ⟨_, _, tpF, _, _, rfl, rfl, rfl, tpF_nd, by decide, by walk_at "at", ?_⟩)
local macro_rules | `(tactic| walk_at "sf") => `(tactic| (refine ⟨_, _, shFld (by repeat (first | with_reducible exact AtN.here | with_reducible apply AtN.there)) rfl, by assumption, NoA.at_ (by assumption) (by walk_at "ing"), ?_⟩))
/-! ### two_right -/
abbrev spTw (A : Addr) := spF SS (fun z => [shD A z.p, shD A z.q, prD z.p, prD z.q]) (fun z => ShB 490 z.p ∧ ShB 490 z.q) (fun _ => .bl true)
theorem scTw : FnScope ["_law_one", "_law_other", "_law_first", "_law_second", "_law_minus", "_law_alike", "_law_below"] ["_law_one", "_law_other", "_law_first", "_law_second"] (defScope (top 21)) := ⟨rfl, rfl, rfl, by decide +kernel, rfl, by decide +kernel, by decide +kernel⟩
theorem ok_ltw {g : Gd} {f f1 f2 f3 f4 f5 f6 f7 f8 A : Addr} {fd : FuncData} (F : FunD g.K "_law_two_right" "_law_two_right" (defArgs (top 21)) (defBody (top 21)) (defScope (top 21)) [] [] f fd) (hb : Binds g.K fd ["_law_one", "_law_other", "_law_first", "_law_second"] [])
    (hB : BltF g ["isinstance", "bool"]) (hcl : Cls g.K A) (hna : NoA g A shF2) (oC : OwnC g.K A)
    (G1 : FnD g 2 f1 ["_law_share_here", "_law_due"] (spOR A)) (m1 : g.mg "_law_one_right" = some (.ref f1))
    (G2 : FnD g 2 f2 ["_law_one", "_law_other"] (spPp adF)) (m2 : g.mg "_law_added" = some (.ref f2))
    (G3 : FnD g 2 f3 ["_law_one", "_law_other"] (spPp mlF)) (m3 : g.mg "_law_times" = some (.ref f3))
    (G4 : FnD g 5 f4 ["self", "other"] (spBo A adF)) (m4 : Meth g.K A "__add__" f4) (G5 : FnD g 5 f5 ["self", "other"] (spBo A sbF)) (m5 : Meth g.K A "__sub__" f5)
    (G6 : FnD g 5 f6 ["self", "other"] (spBo A mlF)) (m6 : Meth g.K A "__mul__" f6) (G7 : FnD g 1 f7 ["self", "other"] (spEQ A)) (m7 : Meth g.K A "__eq__" f7) (G8 : FnD g 1 f8 ["self", "other"] (spBE A)) (m8 : Meth g.K A "is_below" f8) :
    FnD g 6 f ["_law_one", "_law_other", "_law_first", "_law_second"] (spTw A) := by
  refine fn_mk F hb scTw (gl := ["isinstance", "bool", "_law_one_right", "_law_added", "_law_times"]) [("_law_one", 0), ("_law_other", 1), ("_law_first", 2), ("_law_second", 3), ("_law_minus", 4), ("_law_alike", 5), ("_law_below", 6)] (by decide +kernel) (by decide +kernel) (fun rs S Ψ ξ h => ?_) (fun rs S Ψ ξ h => ?_)
  · obtain ⟨_, rfl, _⟩ := h; rfl
  · obtain ⟨⟨p, q⟩, rfl, rfl, ⟨hp, hq⟩, hΨ⟩ := h
    dsimp only at hp hq hΨ
    have hok : SS.ok ⟨p, q⟩ := ⟨490, 490, hp, hq, by omega⟩
    have hq' : ShB 490 (0 - q.1, q.2) := ⟨hq.pos, by show (0 - q.1).natAbs < _; rw [Int.zero_sub, Int.natAbs_neg]; exact hq.b1, hq.b2⟩
    refine wss_cons ?_
    walk_at "s"
    repeat walk_at "e"
    refine wix_p1 ?_
    repeat walk_at "e"
    refine wix_p2 ?_
    refine wa_nil ⟨[.int (0 - q.1), .int q.2], rfl, Nat.le_of_ble_eq_true rfl, ?_⟩
    refine wss_cons ?_
    refine ws_if ?_
    refine wt_of ?_
    refine wto_or ?_
    refine wt_not ?_
    refine wt_val ?_ (fun _ _ => rfl)
    refine we_call G1 (by walk_at "ing") m1 (Nat.le_of_ble_eq_true rfl) rfl ?_ (fun _ => rfl) (fun _ => rfl)
    repeat walk_at "e"
    refine wo_binO G4 oC.sf m4.at_ m4.fn (Nat.le_of_ble_eq_true rfl) rfl (shIns _ _ _) (shIns _ _ _) fun D => ?_
    refine fnc_F (A := SS) ⟨p, q⟩ rfl hok ?_
    dsimp only
    repeat walk_at "e"
    refine we_call G2 (by walk_at "ing") m2 (Nat.le_of_ble_eq_true rfl) rfl ?_ (fun _ => rfl) (fun _ => rfl)
    repeat walk_at "e"
    refine fnc_F (A := SS) ⟨p, q⟩ rfl hok ?_
    repeat walk_at "e"
    refine fnc_F (A := Int × Int) (adF p q) rfl ((adF_ok hp hq).mono (by omega)) ?_
    refine ⟨true, rfl, fun h => (by cases h), fun _ => ?_⟩
    refine wto_or1 ?_
    refine wt_not ?_
    refine wt_val ?_ (fun _ _ => rfl)
    refine we_call G1 (by walk_at "ing") m1 (Nat.le_of_ble_eq_true rfl) rfl ?_ (fun _ => rfl) (fun _ => rfl)
    repeat walk_at "e"
    refine wo_binO G5 oC.sf m5.at_ m5.fn (Nat.le_of_ble_eq_true rfl) rfl (shIns _ _ _) (shIns _ _ _) fun D => ?_
    refine fnc_F (A := SS) ⟨p, q⟩ rfl hok ?_
    dsimp only
    repeat walk_at "e"
    refine we_call G2 (by walk_at "ing") m2 (Nat.le_of_ble_eq_true rfl) rfl ?_ (fun _ => rfl) (fun _ => rfl)
    repeat walk_at "e"
    refine fnc_F (A := SS) ⟨p, (0 - q.1, q.2)⟩ rfl ⟨490, 490, hp, hq', by omega⟩ ?_
    dsimp only
    rw [sbF_eq]
    repeat walk_at "e"
    refine fnc_F (A := Int × Int) (adF p (0 - q.1, q.2)) rfl ((adF_ok hp hq').mono (by omega)) ?_
    refine ⟨true, rfl, fun h => (by cases h), fun _ => ?_⟩
    walk_at "s"
    refine wss_cons ?_
    refine ws_if ?_
    refine wt_not ?_
    refine wt_val ?_ (fun _ _ => rfl)
    refine we_call G1 (by walk_at "ing") m1 (Nat.le_of_ble_eq_true rfl) rfl ?_ (fun _ => rfl) (fun _ => rfl)
    repeat walk_at "e"
    refine wo_binO G6 oC.sf m6.at_ m6.fn (Nat.le_of_ble_eq_true rfl) rfl (shIns _ _ _) (shIns _ _ _) fun D => ?_
    refine fnc_F (A := SS) ⟨p, q⟩ rfl hok ?_
    dsimp only
    repeat walk_at "e"
    refine we_call G3 (by walk_at "ing") m3 (Nat.le_of_ble_eq_true rfl) rfl ?_ (fun _ => rfl) (fun _ => rfl)
    repeat walk_at "e"
    refine fnc_F (A := SS) ⟨p, q⟩ rfl hok ?_
    repeat walk_at "e"
    refine fnc_F (A := Int × Int) (mlF p q) rfl ((mlF_ok hp hq).mono (by omega)) ?_
    refine ⟨true, rfl, fun h => (by cases h), fun _ => ?_⟩
    walk_at "s"
    refine wss_cons ?_
    walk_at "s"
    repeat walk_at "e"
    refine wo_eqO2 G7 m7.at_ m7.fn (Nat.le_of_ble_eq_true rfl) rfl (shIns _ _ _) (shIns _ _ _) fun D => ?_
    refine fnc_EQ (.sh q) ?_
    refine wss_cons ?_
    walk_at "s"
    refine we_meth G8 hcl m8 (Nat.le_of_ble_eq_true rfl) rfl ?_ (fun _ => rfl) (fun _ => rfl) (fun _ => rfl)
    repeat walk_at "e"
    refine ⟨_, shIns _ _ _, by decide +kernel, ?_⟩
    repeat walk_at "e"
    refine fnc_F (A := SS) ⟨p, q⟩ rfl hok ?_
    dsimp only
    refine wss_cons ?_
    refine ws_if ?_
    refine wt_of ?_
    refine wto_or ?_
    refine wt_not ?_
    refine wt_val ?_ (fun _ _ => rfl)
    repeat walk_at "e"
    walk_at "wb"
    repeat walk_at "e"
    refine wc_isi rfl rfl ?_
    refine ⟨true, rfl, fun h => (by cases h), fun _ => ?_⟩
    refine wto_or ?_
    refine wt_cmp ?_ rfl
    repeat walk_at "e"
    refine wo_eqF (f := prD) (a := p) (b := q) flt_pr (by decide) (.val _) (.val _) ?_
    refine wo_neB ?_
    rw [beq_self_eq_true]
    refine ⟨_, rfl, fun h => (by cases h), fun _ => ?_⟩
    refine wto_or1 ?_
    refine wt_not ?_
    refine wt_val ?_ (fun _ _ => rfl)
    repeat walk_at "e"
    walk_at "wb"
    repeat walk_at "e"
    refine wc_isi rfl rfl ?_
    refine ⟨true, rfl, fun h => (by cases h), fun _ => ?_⟩
    walk_at "s"
    refine wss_one ?_
    walk_at "s"
    repeat walk_at "e"
    refine wix_p1 ?_
    repeat walk_at "e"
    refine wix_p2 ?_
    refine wo_mulX (mulx_ok hp.b1 hq.b2 (by omega)) ?_
    repeat walk_at "e"
    refine wix_p1 ?_
    repeat walk_at "e"
    refine wix_p2 ?_
    refine wo_mulX (mulx_ok hq.b1 hp.b2 (by omega)) ?_
    repeat walk_at "e"
    refine wo_eqB ?_
    unfold blF
    rw [beq_self_eq_true]
    exact RetC.now (Nat.le_refl _) rfl rfl hΨ
/-! ### drawn integers, drawn pairs -/
def spIt : DSp := fun rs S Ψ _ => ∃ (zs : List Int) (T : Tp) (sz : Nat), rs = [.loc 0, .val (iN sz)] ∧ S = [tpN zs T] ∧ zs.length ≤ 63 ∧ sz < 3 ∧ ∀ (v : Int) (T' : Tp), v.natAbs < 2 ^ 102 → Ψ (.val (.int v)) [tpN zs T']
theorem fnc_It {C : DC} {env : Nv} {S : Sto} {Ψ : R → Sto → Prop} {zs : List Int} {T : Tp} {sz k : Nat} (hk : S[k]? = some (tpN zs T)) (hz : zs.length ≤ 63) (hm : sz < 3) (h : ∀ (v : Int) (T' : Tp), v.natAbs < 2 ^ 102 → Ψ (.val (.int v)) (S.set k (tpN zs T'))) : FnC C spIt [.loc k, .val (iN sz)] env S Ψ := by
  refine ⟨[k], [tpN zs T], [.loc 0, .val (iN sz)], passN hk (fun f => tpN_ren zs T f) (by cases T; rfl) (tpN_ok _ _ _), .cons (.loc rfl) (.cons (.val _) .nil), zs, T, sz, rfl, rfl, hz, hm, fun v T' hv => ?_⟩
  show Ψ (.val _) (backS [k] S [tpN zs T'])
  rw [backN (fun f => tpN_ren zs T' f)]
  exact h v T' hv
theorem scIt : FnScope ["_law_tape_here", "_law_size", "_law_great", "_law_k"] ["_law_tape_here", "_law_size"] (defScope (top 16)) := ⟨rfl, rfl, rfl, by decide +kernel, rfl, by decide +kernel, by decide +kernel⟩
theorem small_int {v : Int} (h : v.natAbs ≤ 1000000) : v.natAbs < 2 ^ 102 := Nat.lt_of_le_of_lt h (by decide)
theorem ok_lit {g : Gd} {f fDW fPk : Addr} {fd : FuncData} (F : FunD g.K "_law_integer" "_law_integer" (defArgs (top 16)) (defBody (top 16)) (defScope (top 16)) [] [] f fd) (hb : Binds g.K fd ["_law_tape_here", "_law_size"] [])
    (hB : BltF g ["range"]) (GDW : FnD g 2 fDW ["_law_tape_here", "_law_many"] spDW) (mDW : g.mg "_law_draw" = some (.ref fDW)) (GPk : FnD g 3 fPk ["_law_tape_here", "_law_row"] spPk) (mPk : g.mg "_law_pick" = some (.ref fPk)) : FnD g 4 f ["_law_tape_here", "_law_size"] spIt := by
  refine fn_mk F hb scIt (gl := ["range", "_law_draw", "_law_pick"]) [("_law_tape_here", 0), ("_law_size", 1), ("_law_great", 2), ("_law_k", 3)] (by decide +kernel) (by decide +kernel) (fun rs S Ψ ξ h => ?_) (fun rs S Ψ ξ h => ?_)
  · obtain ⟨_, _, _, rfl, _⟩ := h; rfl
  · obtain ⟨zs, T, sz, rfl, rfl, hz, hsz, hΨ⟩ := h
    refine wss_cons ?_
    refine ws_ifB (sz = 0) ?_ (fun h => ?_) (fun h => ?_)
    · repeat walk_at "e"
      exact ⟨decide_eq_decide.mpr (by omega), rfl⟩
    · refine wss_one ?_
      walk_at "s"
      repeat walk_at "e"
      refine we_call GDW (by walk_at "ing") mDW (Nat.le_of_ble_eq_true rfl) rfl ?_ (fun _ => rfl) (fun _ => rfl)
      repeat walk_at "e"
      refine fnc_DW (m := 13) rfl hz (by omega) fun v T' hv => ?_
      repeat walk_at "e"
      exact RetC.now (by simp) (by simp [tpN_ok]) rfl (hΨ _ T' (small_int (by omega)))
    walk_at "s"
    refine wss_cons ?_
    refine ws_ifB (sz = 1) ?_ (fun h => ?_) (fun h => ?_)
    · repeat walk_at "e"
      exact ⟨decide_eq_decide.mpr (by omega), rfl⟩
    · refine wss_one ?_
      walk_at "s"
      refine we_call GPk (by walk_at "ing") mPk (Nat.le_of_ble_eq_true rfl) rfl ?_ (fun _ => rfl) (fun _ => rfl)
      repeat walk_at "e"
      refine we_lstF ?_
      repeat walk_at "e"
      refine ⟨_, rfl, ?_⟩
      repeat walk_at "e"
      refine ⟨_, rfl, ?_⟩
      repeat walk_at "e"
      refine we_call GDW (by walk_at "ing") mDW (Nat.le_of_ble_eq_true rfl) rfl ?_ (fun _ => rfl) (fun _ => rfl)
      repeat walk_at "e"
      refine fnc_DW (m := 1000) rfl hz (by omega) fun v T' hv => ?_
      repeat walk_at "e"
      refine fnc_Pk (k := 0) [.int 0, .int 1, .int (-1), .int 2, .int 6, .int (-12), .int 360, .int ((v : Int) - 500)] (.lst _) rfl hz (by simp) (by simp) fun x T2 hx => ?_
      obtain ⟨z, rfl, hz2⟩ : ∃ z : Int, x = .int z ∧ z.natAbs ≤ 1000000 := by
        simp only [List.mem_cons, List.not_mem_nil, or_false] at hx
        rcases hx with rfl | rfl | rfl | rfl | rfl | rfl | rfl | rfl <;> exact ⟨_, rfl, by omega⟩
      exact RetC.now (by simp) (by simp [tpN_ok]) rfl (hΨ _ T2 (small_int hz2))
    walk_at "s"
    refine wss_cons ?_
    walk_at "s"
    repeat walk_at "e"
    refine wss_cons ?_
    refine ws_for rfl ?_ (fun _ _ => rfl)
    refine wi_range1 (by walk_at "ing") (by walk_at "nb") ?_ (fun _ => rfl)
    repeat walk_at "e"
    refine we_call GDW (by walk_at "ing") mDW (Nat.le_of_ble_eq_true rfl) rfl ?_ (fun _ => rfl) (fun _ => rfl)
    repeat walk_at "e"
    refine fnc_DW (m := 10) rfl hz (by omega) fun v T1 hv => ?_
    repeat walk_at "e"
    refine ⟨_, rfl, by omega, fun i env S => ∃ (T' : Tp) (G : Nat), env = [some (.loc 0), some (.val (iN sz)), some (.val (iN G)), none] ∧ S = [tpN zs T'] ∧ G + 1 ≤ 2 * 1009 ^ i, Nat.le_refl _, ⟨T1, 1, rfl, rfl, by decide⟩, fun _ _ _ _ => trivial, ?_, ?_⟩
    · rintro i d env' S' hd ⟨T2, G, rfl, rfl, hG⟩
      obtain ⟨hi, rfl⟩ := rangeD_get hd
      refine wg_name (by walk_at "inv") ?_
      have hGb : ((G : Int)).natAbs < 2 ^ 102 := by
        rw [Int.natAbs_natCast]
        have h9 : 1009 ^ i ≤ 1009 ^ 10 := Nat.pow_le_pow_right (by decide) (by omega)
        have h8 : (2 : Nat) * 1009 ^ 10 < 2 ^ 102 := by decide
        exact Nat.lt_of_lt_of_le (Nat.lt_of_succ_le (Nat.le_trans hG (Nat.mul_le_mul_left 2 h9))) (Nat.le_of_lt h8)
      refine wss_one ?_
      walk_at "s"
      refine we_op ?_
      refine we_op ?_
      repeat walk_at "e"
      refine we_call GPk (by walk_at "ing") mPk (Nat.le_of_ble_eq_true rfl) rfl ?_ (fun _ => rfl) (fun _ => rfl)
      repeat walk_at "e"
      refine we_lstF ?_
      repeat walk_at "e"
      refine we_call GDW (by walk_at "ing") mDW (Nat.le_of_ble_eq_true rfl) rfl ?_ (fun _ => rfl) (fun _ => rfl)
      repeat walk_at "e"
      refine fnc_DW (m := 1000) rfl hz (by omega) fun v2 T3 hv2 => ?_
      repeat walk_at "e"
      refine fnc_Pk (k := 0) [.int (1 + (v2 : Int)), .int 1009] (.lst _) rfl hz (by simp) (by simp) fun x T4 hx => ?_
      obtain ⟨y, rfl, hy⟩ : ∃ y : Nat, x = iN y ∧ y ≤ 1009 := by
        rcases List.mem_cons.mp hx with rfl | h
        · exact ⟨1 + v2, by show D.int _ = D.int _; rw [show (1 : Int) + (v2 : Int) = ((1 + v2 : Nat) : Int) by omega], by omega⟩
        · rw [List.mem_singleton.mp h]; exact ⟨1009, rfl, Nat.le_refl _⟩
      refine wo_mulX (mulx_ok hGb (b := 10) (by rw [Int.natAbs_natCast]; omega) (by omega)) ?_
      refine we_call GDW (by walk_at "ing") mDW (Nat.le_of_ble_eq_true rfl) rfl ?_ (fun _ => rfl) (fun _ => rfl)
      repeat walk_at "e"
      refine fnc_DW (m := 1009) rfl hz (by omega) fun v3 T5 hv3 => ?_
      repeat walk_at "e"
      rw [show (G : Int) * (y : Int) + (v3 : Int) = ((G * y + v3 : Nat) : Int) by rw [Int.natCast_add, Int.natCast_mul]]
      dsimp only
      refine Wk.drop (env' := [some (.loc 0), some (.val (iN sz)), some (.val (iN (G * y + v3))), none]) ⟨T5, _, rfl, rfl, ?_⟩ (by walk_at "ew") (by simp) (by simp [tpN_ok])
      rw [Nat.pow_succ, ← Nat.mul_assoc]
      have h5 : G * y ≤ G * 1009 := Nat.mul_le_mul_left _ hy
      have h6 : (G + 1) * 1009 ≤ 2 * 1009 ^ i * 1009 := Nat.mul_le_mul_right _ hG
      omega
    · rintro env' S' ⟨T2, G, rfl, rfl, hG⟩
      rw [rangeD_len] at hG
      have hGb : ((G : Int)).natAbs < 2 ^ 101 := by
        rw [Int.natAbs_natCast]
        have h9 : 1009 ^ (1 + (v : Int)).toNat ≤ 1009 ^ 10 := Nat.pow_le_pow_right (by decide) (by omega)
        have h8 : (2 : Nat) * 1009 ^ 10 < 2 ^ 101 := by decide
        exact Nat.lt_of_lt_of_le (Nat.lt_of_succ_le (Nat.le_trans hG (Nat.mul_le_mul_left 2 h9))) (Nat.le_of_lt h8)
      refine wss_one ?_
      walk_at "s"
      refine we_op ?_
      repeat walk_at "e"
      refine we_call GDW (by walk_at "ing") mDW (Nat.le_of_ble_eq_true rfl) rfl ?_ (fun _ => rfl) (fun _ => rfl)
      repeat walk_at "e"
      refine fnc_DW (m := 2) rfl hz (by omega) fun v3 T5 hv3 => ?_
      repeat walk_at "e"
      have h1 : ((1 : Int) - 2 * (v3 : Int)).natAbs < 2 ^ 1 := by omega
      exact RetC.now (by simp) (by simp [tpN_ok]) rfl (hΨ _ T5 (mul_lt2 hGb h1))
def PrB (p : Int × Int) : Prop := p.2 ≠ 0 ∧ p.1.natAbs < 2 ^ 109 ∧ p.2.natAbs < 2 ^ 109
def spPa : DSp := fun rs S Ψ _ => ∃ (zs : List Int) (T : Tp), rs = [.loc 0] ∧ S = [tpN zs T] ∧ zs.length ≤ 63 ∧ ∀ (p : Int × Int) (T' : Tp), PrB p → Ψ (.val (prD p)) [tpN zs T']
theorem fnc_Pa {C : DC} {env : Nv} {S : Sto} {Ψ : R → Sto → Prop} {zs : List Int} {T : Tp} {k : Nat} (hk : S[k]? = some (tpN zs T)) (hz : zs.length ≤ 63) (h : ∀ (p : Int × Int) (T' : Tp), PrB p → Ψ (.val (prD p)) (S.set k (tpN zs T'))) : FnC C spPa [.loc k] env S Ψ := by
  refine ⟨[k], [tpN zs T], [.loc 0], passN hk (fun f => tpN_ren zs T f) (by cases T; rfl) (tpN_ok _ _ _), .cons (.loc rfl) .nil, zs, T, rfl, rfl, hz, fun v T' hv => ?_⟩
  show Ψ (.val _) (backS [k] S [tpN zs T'])
  rw [backN (fun f => tpN_ren zs T' f)]
  exact h v T' hv
theorem scPa : FnScope ["_law_tape_here", "_law_size", "_law_over", "_law_under", "_law_more"] ["_law_tape_here"] (defScope (top 17)) := ⟨rfl, rfl, rfl, by decide +kernel, rfl, by decide +kernel, by decide +kernel⟩
theorem ok_lpa {g : Gd} {f fDW fPk fIt : Addr} {fd : FuncData} (F : FunD g.K "_law_pair" "_law_pair" (defArgs (top 17)) (defBody (top 17)) (defScope (top 17)) [] [] f fd) (hb : Binds g.K fd ["_law_tape_here"] [])
    (GDW : FnD g 2 fDW ["_law_tape_here", "_law_many"] spDW) (mDW : g.mg "_law_draw" = some (.ref fDW)) (GPk : FnD g 3 fPk ["_law_tape_here", "_law_row"] spPk) (mPk : g.mg "_law_pick" = some (.ref fPk)) (GIt : FnD g 4 fIt ["_law_tape_here", "_law_size"] spIt) (mIt : g.mg "_law_integer" = some (.ref fIt)) : FnD g 5 f ["_law_tape_here"] spPa := by
  refine fn_mk F hb scPa (gl := ["_law_draw", "_law_pick", "_law_integer"]) [("_law_tape_here", 0), ("_law_size", 1), ("_law_over", 2), ("_law_under", 3), ("_law_more", 4)] (by decide +kernel) (by decide +kernel) (fun rs S Ψ ξ h => ?_) (fun rs S Ψ ξ h => ?_)
  · obtain ⟨_, _, rfl, _⟩ := h; rfl
  · obtain ⟨zs, T, rfl, rfl, hz, hΨ⟩ := h
    refine wss_cons ?_
    walk_at "s"
    refine we_call GDW (by walk_at "ing") mDW (Nat.le_of_ble_eq_true rfl) rfl ?_ (fun _ => rfl) (fun _ => rfl)
    repeat walk_at "e"
    refine fnc_DW (m := 3) rfl hz (by omega) fun sz T1 hsz => ?_
    refine wss_cons ?_
    walk_at "s"
    refine we_call GIt (by walk_at "ing") mIt (Nat.le_of_ble_eq_true rfl) rfl ?_ (fun _ => rfl) (fun _ => rfl)
    repeat walk_at "e"
    refine fnc_It rfl hz hsz fun o T2 ho => ?_
    refine wss_cons ?_
    walk_at "s"
    refine we_call GIt (by walk_at "ing") mIt (Nat.le_of_ble_eq_true rfl) rfl ?_ (fun _ => rfl) (fun _ => rfl)
    repeat walk_at "e"
    refine we_call GPk (by walk_at "ing") mPk (Nat.le_of_ble_eq_true rfl) rfl ?_ (fun _ => rfl) (fun _ => rfl)
    repeat walk_at "e"
    refine we_lstF ?_
    repeat walk_at "e"
    refine fnc_Pk (k := 0) [iN sz, iN sz, .int 0] (.lst _) rfl hz (by simp) (by simp) fun x T3 hx => ?_
    obtain ⟨y, rfl, hy⟩ : ∃ y : Nat, x = iN y ∧ y < 3 := by
      simp only [List.mem_cons, List.not_mem_nil, or_false] at hx
      rcases hx with rfl | rfl | rfl
      · exact ⟨_, rfl, hsz⟩
      · exact ⟨_, rfl, hsz⟩
      · exact ⟨0, rfl, by omega⟩
    repeat walk_at "e"
    refine fnc_It rfl hz hy fun u0 T4 hu0 => ?_
    refine wss_cut (fun env S => ∃ (u : Int) (T' : Tp), env = [some (.loc 0), some (.val (iN sz)), some (.val (.int o)), some (.val (.int u)), none] ∧ S = [tpN zs T'] ∧ u ≠ 0 ∧ u.natAbs < 2 ^ 102) ?_ ?_
    · refine ws_ifB (u0 = 0) ?_ (fun h => ?_) (fun h => ?_)
      · repeat walk_at "e"
        exact ⟨rfl, rfl⟩
      · refine wss_one ?_
        walk_at "s"
        repeat walk_at "e"
        refine we_call GDW (by walk_at "ing") mDW (Nat.le_of_ble_eq_true rfl) rfl ?_ (fun _ => rfl) (fun _ => rfl)
        repeat walk_at "e"
        refine fnc_DW (m := 1000) rfl hz (by omega) fun w T5 hw => ?_
        repeat walk_at "e"
        exact ⟨_, T5, rfl, rfl, by omega, small_int (by omega)⟩
      · walk_at "s"
        exact ⟨_, T4, rfl, rfl, h, hu0⟩
    rintro env' S' ⟨u, T5, rfl, rfl, hu, hub⟩
    refine wss_cons ?_
    walk_at "s"
    refine we_call GPk (by walk_at "ing") mPk (Nat.le_of_ble_eq_true rfl) rfl ?_ (fun _ => rfl) (fun _ => rfl)
    repeat walk_at "e"
    refine we_lstF ?_
    repeat walk_at "e"
    refine ⟨_, rfl, ?_⟩
    repeat walk_at "e"
    refine we_call GDW (by walk_at "ing") mDW (Nat.le_of_ble_eq_true rfl) rfl ?_ (fun _ => rfl) (fun _ => rfl)
    repeat walk_at "e"
    refine fnc_DW (m := 100) rfl hz (by omega) fun w T6 hw => ?_
    repeat walk_at "e"
    refine fnc_Pk (k := 0) [.int 1, .int 1, .int (-1), .int 2, .int 12, .int (0 - 1 - (w : Int))] (.lst _) rfl hz (by simp) (by simp) fun x T7 hx => ?_
    obtain ⟨z, rfl, hz0, hz2⟩ : ∃ z : Int, x = .int z ∧ z ≠ 0 ∧ z.natAbs < 2 ^ 7 := by
      simp only [List.mem_cons, List.not_mem_nil, or_false] at hx
      rcases hx with rfl | rfl | rfl | rfl | rfl | rfl <;> exact ⟨_, rfl, by omega, by omega⟩
    refine wss_one ?_
    walk_at "s"
    refine we_tup ?_
    refine wa_cons ?_ (fun _ => rfl)
    refine we_op ?_
    walk_at "e"
    walk_at "e"
    refine wo_mulX (mulx_ok ho hz2 (by omega)) ?_
    refine wa_cons ?_ (fun _ => rfl)
    refine we_op ?_
    walk_at "e"
    walk_at "e"
    refine wo_mulX (mulx_ok hub hz2 (by omega)) ?_
    refine wa_nil ⟨[.int (o * z), .int (u * z)], rfl, Nat.le_of_ble_eq_true rfl, ?_⟩
    exact RetC.now (by simp) (by simp [tpN_ok]) rfl (hΨ (o * z, u * z) T7 ⟨Int.mul_ne_zero hu hz0, mul_lt2 ho hz2, mul_lt2 hub hz2⟩)
/-! ### refused -/
abbrev spRf := spF Int (fun o => [.int o]) (fun o => o.natAbs < 2 ^ 1000) (fun _ => .bl true)
theorem scRf : FnScope ["_law_over", "e"] ["_law_over"] (defScope (top 19)) := ⟨rfl, rfl, rfl, by decide +kernel, rfl, by decide +kernel, by decide +kernel⟩
theorem ok_rf {g : Gd} {f fIS A : Addr} {fd : FuncData} (F : FunD g.K "_law_refused" "_law_refused" (defArgs (top 19)) (defBody (top 19)) (defScope (top 19)) [] [] f fd) (hb : Binds g.K fd ["_law_over"] [])
    (hB : BltF g ["isinstance", "ValueError", "int", "bool"]) (GIS : FnD g 3 fIS ["self", "over", "under"] (spIS A (He.ga g.K "InvalidNumber"))) (MIS : Mk g.K A fIS) (mIS : g.mg "Share" = some (.ref A))
    (eIN : ErC g.K (He.ga g.K "InvalidNumber") ["number"]) (mIN : g.mg "InvalidNumber" = some (.ref (He.ga g.K "InvalidNumber"))) (mJE : g.mg "JoinError" = some (.ref (He.ga g.K "JoinError"))) (mNC : g.mg "NotCut" = some (.ref (He.ga g.K "NotCut")))
    (x1 : PySem.W.exmOne g.K (.ref (He.ga g.K "InvalidNumber")) (.ref (He.ga g.K "JoinError")) = some true) (x2 : PySem.W.kitOne g.K (.ref (He.ga g.K "InvalidNumber")) (.ref (He.ga g.K "InvalidNumber")) = some true) (x3 : PySem.W.kitOne g.K (.ref (He.ga g.K "InvalidNumber")) (.type "ValueError") = some true) (x4 : PySem.W.kitOne g.K (.ref (He.ga g.K "InvalidNumber")) (.ref (He.ga g.K "NotCut")) = some false) :
    FnD g 5 f ["_law_over"] spRf := by
  refine fn_mk F hb scRf (gl := ["isinstance", "ValueError", "int", "bool", "Share", "InvalidNumber", "JoinError", "NotCut"]) [("_law_over", 0), ("e", 1)] (by decide +kernel) (by decide +kernel) (fun rs S Ψ ξ h => ?_) (fun rs S Ψ ξ h => ?_)
  · obtain ⟨_, rfl, _⟩ := h; rfl
  · obtain ⟨o, rfl, rfl, ho, hΨ⟩ := h
    dsimp only at ho hΨ
    refine wss_cons ?_
    refine ws_try (by walk_at "ing") mJE (by walk_at "inv") (by dsimp only; decide +kernel) rfl rfl ?_
    refine wss_one ?_
    refine ws_expr ?_ (fun _ => rfl)
    refine we_make GIS MIS (by walk_at "ing") mIS (Nat.le_of_ble_eq_true rfl) rfl ?_ (fun _ => rfl) (fun _ => rfl)
    repeat walk_at "e"
    refine fnc_IS (S := []) ho (by decide) (fun h => absurd rfl h) (fun _ => ?_)
    refine ⟨true, x1, fun _ a d => ?_, fun h => no_f h⟩
    refine wss_cons ?_
    refine ws_if ?_
    refine wt_of ?_
    refine wto_or ?_
    refine wt_not ?_
    refine wt_val ?_ (fun _ _ => rfl)
    repeat walk_at "e"
    refine we_cls (by walk_at "ing") mIN ?_
    repeat walk_at "e"
    refine wc_isXR rfl eIN x2 ?_
    refine ⟨true, rfl, fun h => (by cases h), fun _ => ?_⟩
    refine wto_or ?_
    refine wt_not ?_
    refine wt_val ?_ (fun _ _ => rfl)
    repeat walk_at "e"
    refine we_type (by walk_at "ing") (by walk_at "nb") PyProof.Rows.Boot.«ValueError» ?_
    repeat walk_at "e"
    refine wc_isXT rfl eIN x3 ?_
    refine ⟨true, rfl, fun h => (by cases h), fun _ => ?_⟩
    refine wto_or1 ?_
    refine wt_val ?_ (fun _ _ => rfl)
    repeat walk_at "e"
    refine we_cls (by walk_at "ing") mNC ?_
    repeat walk_at "e"
    refine wc_isXR rfl eIN x4 ?_
    refine ⟨false, rfl, fun h => (by cases h), fun _ => ?_⟩
    walk_at "s"
    refine wss_one ?_
    walk_at "s"
    refine we_and ?_
    refine we_callB (by walk_at "ing") (by walk_at "nb") boot_isinstance ?_ (fun _ => rfl) (fun _ => rfl)
    refine wa_cons ?_ (fun _ => rfl)
    refine we_fldX rfl eIN (by walk_at "ing") ?_ (fun _ => rfl)
    repeat walk_at "e"
    refine ⟨_, .mk (by decide +kernel) .here rfl, ?_⟩
    repeat walk_at "e"
    walk_at "wb"
    repeat walk_at "e"
    refine wc_isi rfl rfl ?_
    refine ⟨true, rfl, fun _ => ?_, fun h => no_f h⟩
    refine we_and ?_
    refine we_not ?_
    refine we_callB (by walk_at "ing") (by walk_at "nb") boot_isinstance ?_ (fun _ => rfl) (fun _ => rfl)
    refine wa_cons ?_ (fun _ => rfl)
    refine we_fldX rfl eIN (by walk_at "ing") ?_ (fun _ => rfl)
    repeat walk_at "e"
    refine ⟨_, .mk (by decide +kernel) .here rfl, ?_⟩
    repeat walk_at "e"
    walk_at "wb"
    repeat walk_at "e"
    refine wc_isi rfl rfl ?_
    refine ⟨false, rfl, ?_⟩
    refine ⟨true, rfl, fun _ => ?_, fun h => no_f h⟩
    refine we_one ?_
    refine we_cmp ?_ rfl
    refine we_fldX rfl eIN (by walk_at "ing") ?_ (fun _ => rfl)
    repeat walk_at "e"
    refine ⟨_, .mk (by decide +kernel) .here rfl, ?_⟩
    repeat walk_at "e"
    exact RetC.cut0 hΨ
end DL
set_option Elab.async false
set_option linter.all false
set_option maxRecDepth 100000
set_option maxHeartbeats 4000000
namespace DL
open PySem PySem.Spec PyProof.Rows
open L2 hiding Takes passAt takes_of ps_raise PMk ps_try_as
open L2N (Takes passAt takes_of ps_raise PMk ps_try_as)
local macro_rules | `(tactic| walk_at "inv") => `(tactic| ((try dsimp only); repeat (first | with_reducible exact InV.here | with_reducible apply InV.there)))
local macro_rules | `(tactic| walk_at "ing") => `(tactic| ((try dsimp only); repeat (first | with_reducible exact InG.here | with_reducible apply InG.there)))
local macro_rules | `(tactic| walk_at "nb") => `(tactic| first | assumption | (dsimp only; refine BltF.at_ (by assumption) ?_; repeat (first | with_reducible exact InG.here | with_reducible apply InG.there)))
local macro_rules | `(tactic| walk_at "s") => `(tactic| first
  | refine wss_cons ?_ | refine wss_nil ?_ | refine ws_set (by walk_at "inv") ?_ (fun _ => rfl) | refine ws_if ?_ | refine ws_ret ?_ | refine ws_aug (by walk_at "inv") rfl ?_
  | refine ws_expr ?_ (fun _ => rfl) | refine ws_pass ?_ | refine ws_break ?_ | refine ws_cont ?_ | refine ws_retN ?_
  | refine ws_setA ?_ (fun _ => rfl) | refine ws_put ?_ (fun _ => rfl) | refine ws_asg ?_ (fun _ => rfl) (fun _ => rfl) (fun _ => rfl))
local macro_rules | `(tactic| walk_at "we") => `(tactic| first
  | refine we_name (by walk_at "inv") rfl ?_ | refine we_int ?_ | refine we_op ?_ | refine we_str ?_
  | refine we_callB (by walk_at "ing") (by walk_at "nb") (by first | exact PySem.boot_len | exact boot_abs | exact boot_min | exact boot_max | exact boot_sorted | exact boot_isinstance) ?_ (fun _ => rfl) (fun _ => rfl)
  | refine we_callT (by walk_at "ing") (by walk_at "nb") (by first | exact boot_tuple | exact boot_list | exact boot_int) ?_ (fun _ => rfl) (fun _ => rfl)
  | refine we_attr ?_ (fun _ => rfl) | refine we_ix ?_ (fun _ _ => rfl) | refine we_tup ?_
  | refine we_append ?_ (fun _ => rfl) (fun _ => rfl) rfl (fun _ => rfl) (fun _ => rfl)
  | refine we_bl ?_ | refine we_non ?_ | refine we_chain ?_ rfl | refine we_cmp ?_ rfl | refine we_one ?_ | refine we_and ?_ | refine we_or ?_ | refine we_not ?_ | refine we_ifx ?_ | refine we_neg ?_ | refine we_slice ?_)
local macro_rules | `(tactic| walk_at "wb") => `(tactic| first | refine we_type (by walk_at "ing") (by walk_at "nb") boot_int ?_ | refine we_type (by walk_at "ing") (by walk_at "nb") boot_bool ?_ | refine we_type (by walk_at "ing") (by walk_at "nb") boot_str ?_ | refine we_type (by walk_at "ing") (by walk_at "nb") boot_tuple ?_)
local macro_rules | `(tactic| walk_at "wt") => `(tactic| first | refine wt_cmp ?_ rfl | refine wt_not ?_ | refine wt_chain ?_ rfl | refine wt_of ?_)
local macro_rules | `(tactic| walk_at "wto") => `(tactic| first | refine wto_and1 ?_ | refine wto_or1 ?_ | refine wto_and ?_ | refine wto_or ?_)
local macro_rules | `(tactic| walk_at "wo") => `(tactic| first
  | refine wo_add ?_ | refine wo_sub ?_ | refine wo_lt ?_ | refine wo_le ?_ | refine wo_gt ?_ | refine wo_ge ?_ | refine wo_eqI ?_ | refine wo_neI ?_ | refine wo_eqL ?_ | refine wo_neL ?_ | refine wo_lt1 ?_ | refine wo_le1 ?_ | refine wo_ge1 ?_ | refine wo_inL ?_ | refine wo_notInL ?_
  | refine wo_mod (by omega) ?_ | refine wo_fdiv ⟨by omega, by omega⟩ ?_ | refine wo_mul (by first | exact Or.inr ⟨by omega, by omega⟩ | exact Or.inl ⟨by omega, by omega⟩) ?_ | refine wo_pow ⟨by omega, by omega, by decide⟩ ?_
  | refine wo_isN (by intro _ h; cases h) ?_ | refine wo_notN (by intro _ h; cases h) ?_)
local macro_rules | `(tactic| walk_at "wc") => `(tactic| first
  | refine wc_len (by first | exact .tup _ | exact .lst _ | exact .bor _ | exact .loc rfl) ?_ | refine wc_int ?_ | refine wc_intB ?_ | refine wc_abs ?_ | refine wc_min2 rfl ?_ | refine wc_max2 rfl ?_ | refine wc_tuple (by first | exact .tup _ | exact .lst _ | exact .bor _ | exact .loc rfl) ?_)
local macro_rules | `(tactic| walk_at "e") => `(tactic| first
  | (with_reducible show WE _ _ _ _ _); walk_at "we"
  | (with_reducible show WT _ _ _ _ _); walk_at "wt"
  | (with_reducible show WTo _ _ _ _ _); walk_at "wto"
  | (with_reducible show WO _ _ _ _ _ _); walk_at "wo"
  | (with_reducible show WA _ _ _ _ _); first | refine wa_cons ?_ (fun _ => rfl) | refine wa_nil ?_
  | (with_reducible show WC _ _ _ _ _); walk_at "wc"
  | (with_reducible show WPO _ _ _ _ _); first | refine wpo_none ?_ | refine wpo_some ?_
  | refine asB_mk ?_ | refine wip_add ?_
  | refine ⟨_, rfl, (by first | decide | exact Nat.le_of_ble_eq_true rfl), ?_⟩)
local macro_rules | `(tactic| walk_at "ew") => `(tactic| ((try simp only [List.set_cons_zero, List.set_cons_succ]); repeat (first | exact EnvW.nil | refine EnvW.keep (by first | rfl | assumption) ?_ | refine EnvW.drop ?_)))
local macro_rules | `(tactic| walk_at "fl") => `(tactic| (refine ⟨_, _, fldL rfl (by repeat (first | with_reducible exact AtN.here | with_reducible apply AtN.there)) rfl, by assumption, NoA.at_ (by assumption) (by walk_at "ing"), ?_⟩))
local macro_rules | `(tactic| walk_at "fv") => `(tactic| (refine ⟨_, _, fldV (by repeat (first | with_reducible exact AtN.here | with_reducible apply AtN.there)) rfl, by assumption, NoA.at_ (by assumption) (by walk_at "ing"), ?_⟩))
local macro_rules | `(tactic| walk_at "at") => `(tactic| repeat (first | with_reducible exact AtN.here | with_reducible apply AtN.there))
local macro_rules | `(tactic| walk_at "tp") => `(tactic| refine wix_dR rfl tpF_nd (by walk_at "at") rfl ?_)
local macro_rules | `(tactic| walk_at "tq") => `(tactic| refine ⟨_, _, tpF, _, _, rfl, rfl, rfl, tpF_nd, by decide, by walk_at "at", ?_⟩)
def spLW : DSp := fun rs S Ψ _ => ∃ (zs : List Int), rs = [.bor (zs.map .int)] ∧ S = [] ∧ zs.length ≤ 63 ∧ Ψ (.val (.bl true)) []
theorem lwOk {zs : List Int} (hz : zs.length ≤ 63) {Φ : R → Sto → Prop} {ξ : Addr → List Str → List D → Sto → Prop} (hΦ : Φ (.val (.bl true)) []) : spLW [.bor (zs.map .int)] [] Φ ξ := ⟨zs, rfl, rfl, hz, hΦ⟩
theorem fnc_TpO {C : DC} {env : Nv} {Ψ : R → Sto → Prop} {zs : List Int} (hz : zs.length ≤ 63) (h : Ψ (.loc 0) [tpN zs ⟨0, 0, 0, 7, 0⟩]) : FnC C spTP [.bor (zs.map .int)] env [] Ψ := by
  refine ⟨[], [], _, PassS.nil, .cons (.bor _) .nil, zs, rfl, rfl, hz, ?_⟩
  show Ψ (.loc 0) [Node.ren _ _]
  rw [tpN_ren]
  exact h
theorem shF_zero {u : Int} (h : u ≠ 0) : shF 0 u = (0, 1) := by
  have e : Nat.gcd (0 : Int).natAbs u.natAbs = u.natAbs := Nat.gcd_zero_left _
  unfold shF
  rw [e]
  refine Prod.ext ?_ ?_
  · show (if 0 < u then (0 : Int) else -0) / _ = 0
    rw [Int.neg_zero, ite_self, Int.zero_ediv]
  · show ((u.natAbs : Nat) : Int) / _ = 1
    exact Int.ediv_self (by omega)
def PrC (p : Int × Int) : Prop := p.2 ≠ 0 ∧ p.1.natAbs < 2 ^ 116 ∧ p.2.natAbs < 2 ^ 116
theorem PrB.c {p : Int × Int} (h : PrB p) : PrC p := ⟨h.1, pow_up h.2.1 (by decide), pow_up h.2.2 (by decide)⟩
theorem PrC.ou {p : Int × Int} (h : PrC p) : OU p := ⟨h.1, pow_up h.2.1 (by decide), pow_up h.2.2 (by decide)⟩
theorem PrC.sh {p : Int × Int} (h : PrC p) : ShB 116 (shF p.1 p.2) := shF_ok h.1 h.2.1 h.2.2
theorem scLW : FnScope ["_law_script", "_law_tape_here", "_law_k", "_law_pairs", "_law_more", "_law_dues", "_law_shares", "_law_at", "_law_total", "_law_product", "_law_sums", "_law_pair_here"] ["_law_script"] (defScope (top 22)) := ⟨rfl, rfl, rfl, by decide +kernel, rfl, by decide +kernel, by decide +kernel⟩
theorem ok_lw {g : Gd} {f fTP fDW fPk fPa fSh fIS fOR fTw fAd fTi f4 f6 f7 fRf A : Addr} {fd : FuncData} (F : FunD g.K "law" "law" (defArgs (top 22)) (defBody (top 22)) (defScope (top 22)) [] [] f fd) (hb : Binds g.K fd ["_law_script"] [])
    (hB : BltF g ["range", "len", "int"]) (oC : OwnC g.K A)
    (GTP : FnD g 1 fTP ["_law_script"] spTP) (mTP : g.mg "_law_tape" = some (.ref fTP))
    (GDW : FnD g 2 fDW ["_law_tape_here", "_law_many"] spDW) (mDW : g.mg "_law_draw" = some (.ref fDW))
    (GPk : FnD g 3 fPk ["_law_tape_here", "_law_row"] spPk) (mPk : g.mg "_law_pick" = some (.ref fPk))
    (GPa : FnD g 5 fPa ["_law_tape_here"] spPa) (mPa : g.mg "_law_pair" = some (.ref fPa))
    (GSh : FnD g 1 fSh ["_law_over", "_law_under"] spSh) (mSh : g.mg "_law_share" = some (.ref fSh))
    (GIS : FnD g 3 fIS ["self", "over", "under"] (spIS A (He.ga g.K "InvalidNumber"))) (MIS : Mk g.K A fIS) (mIS : g.mg "Share" = some (.ref A))
    (GOR : FnD g 2 fOR ["_law_share_here", "_law_due"] (spOR A)) (mOR : g.mg "_law_one_right" = some (.ref fOR))
    (GTw : FnD g 6 fTw ["_law_one", "_law_other", "_law_first", "_law_second"] (spTw A)) (mTw : g.mg "_law_two_right" = some (.ref fTw))
    (GAd : FnD g 2 fAd ["_law_one", "_law_other"] (spPp adF)) (mAd : g.mg "_law_added" = some (.ref fAd))
    (GTi : FnD g 2 fTi ["_law_one", "_law_other"] (spPp mlF)) (mTi : g.mg "_law_times" = some (.ref fTi))
    (G4 : FnD g 5 f4 ["self", "other"] (spBo A adF)) (m4 : Meth g.K A "__add__" f4) (G6 : FnD g 5 f6 ["self", "other"] (spBo A mlF)) (m6 : Meth g.K A "__mul__" f6) (G7 : FnD g 1 f7 ["self", "other"] (spEQ A)) (m7 : Meth g.K A "__eq__" f7)
    (GRf : FnD g 5 fRf ["_law_over"] spRf) (mRf : g.mg "_law_refused" = some (.ref fRf)) :
    FnOk g.prog g.w g.K g.mg g.base (L2N.CX g.prog g.w) 8 f fd ["_law_script"] (spD g.K spLW) := by
  refine fn_mkX F hb scLW (gl := ["range", "len", "int", "_law_tape", "_law_draw", "_law_pick", "Share", "_law_one_right", "_law_two_right", "_law_added", "_law_times", "_law_refused"]) [("_law_script", 0), ("_law_tape_here", 1), ("_law_k", 2), ("_law_pairs", 3), ("_law_more", 4), ("_law_dues", 5), ("_law_shares", 6), ("_law_at", 7), ("_law_total", 8), ("_law_product", 9), ("_law_sums", 10)] (by decide +kernel) (by decide +kernel) (fun rs S Ψ ξ h => ?_) (fun rs S Ψ ξ h => ?_)
  · obtain ⟨_, rfl, _⟩ := h; rfl
  · obtain ⟨zs, rfl, rfl, hz, hΨ⟩ := h
    refine wss_cons ?_
    refine ws_setCe (by walk_at "inv") rfl ?_
    refine we_call GTP (by walk_at "ing") mTP (Nat.le_of_ble_eq_true rfl) rfl ?_ (fun _ => rfl) (fun _ => rfl)
    repeat walk_at "e"
    refine fnc_TpO hz ?_
    refine wss_cons ?_
    refine ws_setLc [("_law_k", 2)] [("_law_tape_here", 1), ("_law_k", 2)] [("_law_k", 2)] ["_law_pair"] (by dsimp only; decide +kernel) rfl (by walk_at "inv") ?_ (fun _ _ => rfl) rfl rfl rfl rfl
    refine wi_range1 (by walk_at "ing") (by walk_at "nb") ?_ (fun _ => rfl)
    repeat walk_at "e"
    refine we_call GDW (by walk_at "ing") mDW (Nat.le_of_ble_eq_true rfl) rfl ?_ (fun _ => rfl) (fun _ => rfl)
    repeat walk_at "e"
    refine fnc_DW (m := 4) rfl hz (by omega) fun v T1 hv => ?_
    repeat walk_at "e"
    refine ⟨_, rfl, by omega, fun i S' => ∃ (ps : List (Int × Int)) (T' : Tp), S' = [tpN zs T', nl (ps.map prD)] ∧ ps.length = i ∧ ∀ p ∈ ps, PrB p, ⟨[], T1, rfl, rfl, fun _ h => absurd h (by simp)⟩, fun _ _ _ => trivial, ?_, ?_⟩
    · rintro i d S' hd ⟨ps, T2, rfl, hl, hps⟩
      obtain ⟨hi, rfl⟩ := rangeD_get hd
      refine wgw_name (by walk_at "inv") (by decide) ?_
      refine wts_nil ⟨fun h => (by cases h), fun _ => ?_⟩
      refine we_call GPa (by walk_at "ing") mPa (Nat.le_of_ble_eq_true rfl) rfl ?_ (fun _ => rfl) (fun _ => rfl)
      repeat walk_at "e"
      refine fnc_Pa rfl hz fun p T3 hp => ?_
      refine ⟨_, rfl, by simp [sizeLine_eq]; omega, ps ++ [p], T3, by simp, by simp [hl], fun q hq => ?_⟩
      rcases List.mem_append.mp hq with h | h
      · exact hps q h
      · rw [List.mem_singleton.mp h]; exact hp
    rintro S' ⟨ps0, T2, rfl, hl, hps0⟩
    rw [rangeD_len] at hl
    show WSs _ _ [some (.bor (zs.map .int)), some (.loc 0), none, some (.loc 1), none, none, none, none, none, none, none, none] [tpN zs T2, nl (ps0.map prD)] _
    refine wss_cut (fun env S => ∃ (ps : List (Int × Int)) (T' : Tp) (o4 : Option R), env = [some (.bor (zs.map .int)), some (.loc 0), none, some (.loc 1), o4, none, none, none, none, none, none, none] ∧ S = [tpN zs T', nl (ps.map prD)] ∧ 2 ≤ ps.length ∧ ps.length ≤ 5 ∧ ∀ p ∈ ps, PrC p) ?_ ?_
    · refine ws_if ?_
      repeat walk_at "e"
      refine we_call GDW (by walk_at "ing") mDW (Nat.le_of_ble_eq_true rfl) rfl ?_ (fun _ => rfl) (fun _ => rfl)
      repeat walk_at "e"
      refine fnc_DW (m := 4) rfl hz (by omega) fun v2 T3 hv2 => ?_
      repeat walk_at "e"
      refine ⟨fun h => ?_, fun h => ?_⟩
      · refine wss_cons ?_
        walk_at "s"
        repeat walk_at "e"
        refine we_call GDW (by walk_at "ing") mDW (Nat.le_of_ble_eq_true rfl) rfl ?_ (fun _ => rfl) (fun _ => rfl)
        repeat walk_at "e"
        refine fnc_DW (m := 50) rfl hz (by omega) fun v3 T4 hv3 => ?_
        repeat walk_at "e"
        have e0 : ps0[0]? = some ps0[0] := by simp
        have hp0 := hps0 ps0[0] (List.getElem_mem _)
        generalize ps0[0] = p0 at e0 hp0
        have hb : ((1 : Int) + (v3 : Int)).natAbs < 2 ^ 7 := by omega
        refine wss_one ?_
        refine ws_asg ?_ (fun _ => rfl) (fun _ => rfl) (fun _ => rfl)
        refine we_tup ?_
        refine wa_cons ?_ (fun _ => rfl)
        refine we_op ?_
        refine we_ix ?_ (fun _ _ => rfl)
        repeat walk_at "e"
        refine wix_F (g := prD) (.loc rfl) (j := 0) rfl e0 ?_
        repeat walk_at "e"
        refine wix_p1 ?_
        walk_at "e"
        refine wo_mulX (mulx_ok hp0.2.1 hb (by omega)) ?_
        refine wa_cons ?_ (fun _ => rfl)
        refine we_op ?_
        refine we_ix ?_ (fun _ _ => rfl)
        repeat walk_at "e"
        refine wix_F (g := prD) (.loc rfl) (j := 0) rfl e0 ?_
        repeat walk_at "e"
        refine wix_p2 ?_
        walk_at "e"
        refine wo_mulX (mulx_ok hp0.2.2 hb (by omega)) ?_
        refine wa_nil ⟨[.int (p0.1 * (1 + (v3 : Int))), .int (p0.2 * (1 + (v3 : Int)))], rfl, Nat.le_of_ble_eq_true rfl, ?_⟩
        refine wg_subL ?_ (fun _ _ => rfl)
        repeat walk_at "e"
        refine ⟨1, ps0.map prD, 1, 1, rfl, rfl, rfl, ixN_of (j := 1) (by rw [List.length_map]; omega), ?_⟩
        refine ⟨ps0.set 1 (p0.1 * (1 + (v3 : Int)), p0.2 * (1 + (v3 : Int))), T4, _, rfl, ?_, by simp; omega, by simp; omega, fun p hp => ?_⟩
        · show [_, nl _] = [_, nl _]
          rw [List.map_set]; rfl
        · rcases List.mem_or_eq_of_mem_set hp with h | rfl
          · exact (hps0 p h).c
          · exact ⟨Int.mul_ne_zero hp0.1 (by omega), mul_lt2 hp0.2.1 hb, mul_lt2 hp0.2.2 hb⟩
      · walk_at "s"
        exact ⟨ps0, T3, none, rfl, rfl, by omega, by omega, fun p hp => (hps0 p hp).c⟩
    rintro env' S' ⟨ps, T3, o4, rfl, rfl, hn2, hn5, hps⟩
    refine wss_settle 1 (env' := [some (.bor (zs.map .int)), some (.loc 0), none, some (.val (.lst (ps.map prD))), none, none, none, none, none, none, none, none]) (Nat.zero_le _) (by simp) (by simp [tpN_ok]) (.keep rfl (.keep rfl (.drop (.fix (.lst (Nat.le_refl _) rfl (FzL.vals _)) (.drop (.drop (.drop (.drop (.drop (.drop (.drop (.drop .nil)))))))))))) ?_
    show WSs _ _ [some (.bor (zs.map .int)), some (.loc 0), none, some (.val (.lst (ps.map prD))), none, none, none, none, none, none, none, none] [tpN zs T3] _
    obtain ⟨dd, hdd⟩ : ∃ dd : List (Int × Int), dd = ps.map fun p => shF p.1 p.2 := ⟨_, rfl⟩
    have hdl : dd.length = ps.length := by rw [hdd, List.length_map]
    have hds : ∀ p ∈ dd, ShB 116 p := fun p hp => by
      rw [hdd] at hp
      obtain ⟨q, hq, rfl⟩ := List.mem_map.mp hp
      exact (hps q hq).sh
    refine wss_cons ?_
    refine ws_setLc [("_law_pair_here", 11)] [("_law_pair_here", 11)] [("_law_pair_here", 11)] ["_law_share"] (by dsimp only; decide +kernel) rfl (by walk_at "inv") ?_ (fun _ _ => rfl) rfl rfl rfl rfl
    refine wi_seq ?_
    repeat walk_at "e"
    refine ⟨_, .lst _, fun i S' => S' = [tpN zs T3, nl ((dd.take i).map prD)], rfl, fun _ _ _ => trivial, ?_, ?_⟩
    · rintro i d S' hd rfl
      rw [List.getElem?_map] at hd
      obtain ⟨p, hp, rfl⟩ := Option.map_eq_some_iff.mp hd
      have hi := (List.getElem?_eq_some_iff.mp hp).1
      have hpm := hps p (List.mem_of_getElem? hp)
      refine wgw_name (by walk_at "inv") (by decide) ?_
      refine wts_nil ⟨fun h => (by cases h), fun _ => ?_⟩
      refine we_call GSh (by walk_at "ing") mSh (Nat.le_of_ble_eq_true rfl) rfl ?_ (fun _ => rfl) (fun _ => rfl)
      repeat walk_at "e"
      refine wix_p1 ?_
      repeat walk_at "e"
      refine wix_p2 ?_
      repeat walk_at "e"
      refine fnc_F (A := Int × Int) p rfl hpm.ou ?_
      refine ⟨_, rfl, by simp [sizeLine_eq]; omega, ?_⟩
      show _ = _
      rw [List.take_add_one, show dd[i]? = some (shF p.1 p.2) by rw [hdd, List.getElem?_map, hp]; rfl]
      simp
    rintro S' rfl
    rw [List.length_map, List.take_of_length_le (by omega)]
    show WSs _ _ [some (.bor (zs.map .int)), some (.loc 0), none, some (.val (.lst (ps.map prD))), none, some (.loc 1), none, none, none, none, none, none] [tpN zs T3, nl (dd.map prD)] _
    refine wss_settle 1 (env' := [some (.bor (zs.map .int)), some (.loc 0), none, some (.val (.lst (ps.map prD))), none, some (.val (.lst (dd.map prD))), none, none, none, none, none, none]) (Nat.zero_le _) (by simp) (by simp [tpN_ok]) (.keep rfl (.keep rfl (.drop (.keep rfl (.drop (.fix (.lst (Nat.le_refl _) rfl (FzL.vals _)) (.drop (.drop (.drop (.drop (.drop (.drop .nil)))))))))))) ?_
    show WSs _ _ [some (.bor (zs.map .int)), some (.loc 0), none, some (.val (.lst (ps.map prD))), none, some (.val (.lst (dd.map prD))), none, none, none, none, none, none] [tpN zs T3] _
    refine wss_cons ?_
    refine ws_setLc [("_law_pair_here", 11)] [("_law_pair_here", 11)] [("_law_pair_here", 11)] ["Share"] (by dsimp only; decide +kernel) rfl (by walk_at "inv") ?_ (fun _ _ => rfl) rfl rfl rfl rfl
    refine wi_seq ?_
    repeat walk_at "e"
    refine ⟨_, .lst _, fun i S' => S' = [tpN zs T3, nl ((dd.take i).map (shD A))], rfl, fun _ _ _ => trivial, ?_, ?_⟩
    · rintro i d S' hd rfl
      rw [List.getElem?_map] at hd
      obtain ⟨p, hp, rfl⟩ := Option.map_eq_some_iff.mp hd
      have hi := (List.getElem?_eq_some_iff.mp hp).1
      have hpm := hps p (List.mem_of_getElem? hp)
      refine wgw_name (by walk_at "inv") (by decide) ?_
      refine wts_nil ⟨fun h => (by cases h), fun _ => ?_⟩
      refine we_settle ?_
      refine we_make GIS MIS (by walk_at "ing") mIS (Nat.le_of_ble_eq_true rfl) rfl ?_ (fun _ => rfl) (fun _ => rfl)
      repeat walk_at "e"
      refine wix_p1 ?_
      repeat walk_at "e"
      refine wix_p2 ?_
      repeat walk_at "e"
      refine fnc_IS (S := [tpN zs T3, nl ((dd.take i).map (shD A))]) hpm.ou.2.1 hpm.ou.2.2 (fun _ => ⟨rfl, 2, .val (shD A (shF p.1 p.2)), Nat.le_refl _, Nat.le_of_ble_eq_true rfl, by simp [tpN_ok, okB_nl], .inr ⟨_, fz_Sh _ A _, rfl⟩, ?_⟩) (fun h => absurd h hpm.1)
      refine ⟨_, rfl, by simp [sizeLine_eq]; omega, ?_⟩
      have ed : dd.take (i + 1) = dd.take i ++ [shF p.1 p.2] := by
        rw [List.take_add_one, show dd[i]? = some (shF p.1 p.2) by rw [hdd, List.getElem?_map, hp]; rfl]
        rfl
      show _ = _
      rw [ed]
      simp
    rintro S' rfl
    rw [List.length_map, List.take_of_length_le (by omega)]
    show WSs _ _ [some (.bor (zs.map .int)), some (.loc 0), none, some (.val (.lst (ps.map prD))), none, some (.val (.lst (dd.map prD))), some (.loc 1), none, none, none, none, none] [tpN zs T3, nl (dd.map (shD A))] _
    refine wss_settle 1 (env' := [some (.bor (zs.map .int)), some (.loc 0), none, some (.val (.lst (ps.map prD))), none, some (.val (.lst (dd.map prD))), some (.val (.lst (dd.map (shD A)))), none, none, none, none, none]) (Nat.zero_le _) (by simp) (by simp [tpN_ok]) (.keep rfl (.keep rfl (.drop (.keep rfl (.drop (.keep rfl (.fix (.lst (Nat.le_refl _) rfl (FzL.vals _)) (.drop (.drop (.drop (.drop (.drop .nil)))))))))))) ?_
    show WSs _ _ [some (.bor (zs.map .int)), some (.loc 0), none, some (.val (.lst (ps.map prD))), none, some (.val (.lst (dd.map prD))), some (.val (.lst (dd.map (shD A)))), none, none, none, none, none] [tpN zs T3] _
    have hat : ∀ i (h : i < ps.length), ∃ p, dd[i]? = some p ∧ ShB 116 p := fun i h => ⟨dd[i]'(by omega), by simp [show i < dd.length by omega], hds _ (List.getElem_mem _)⟩
    refine wss_cons ?_
    refine ws_for rfl ?_ (fun _ _ => rfl)
    refine wi_range1 (by walk_at "ing") (by walk_at "nb") ?_ (fun _ => rfl)
    repeat walk_at "e"
    rw [List.length_map]
    refine ⟨_, rfl, by omega, fun i env S' => ∃ T' : Tp, env = [some (.bor (zs.map .int)), some (.loc 0), none, some (.val (.lst (ps.map prD))), none, some (.val (.lst (dd.map prD))), some (.val (.lst (dd.map (shD A)))), none, none, none, none, none] ∧ S' = [tpN zs T'], Nat.zero_le _, ⟨T3, rfl, rfl⟩, fun _ _ _ _ => trivial, ?_, ?_⟩
    · rintro i d env' S' hd ⟨T4, rfl, rfl⟩
      obtain ⟨hi, rfl⟩ := rangeD_get hd
      have hi : i < ps.length := by omega
      rw [show (0 : Int) + (i : Int) = (i : Int) by omega]
      obtain ⟨p, hp, hpb⟩ := hat i hi
      refine wg_name (by walk_at "inv") ?_
      refine wss_cons ?_
      walk_at "s"
      refine we_call GDW (by walk_at "ing") mDW (Nat.le_of_ble_eq_true rfl) rfl ?_ (fun _ => rfl) (fun _ => rfl)
      repeat walk_at "e"
      rw [List.length_map]
      refine fnc_DW (m := ps.length) rfl hz (by omega) fun a T5 ha => ?_
      obtain ⟨q, hq, hqb⟩ := hat a ha
      obtain ⟨r, hr, hrb⟩ := hat ((i + 1) % ps.length) (Nat.mod_lt _ (by omega))
      refine wss_cons ?_
      refine ws_if ?_
      refine wt_of ?_
      refine wto_or ?_
      refine wt_not ?_
      refine wt_val ?_ (fun _ _ => rfl)
      refine we_call GOR (by walk_at "ing") mOR (Nat.le_of_ble_eq_true rfl) rfl ?_ (fun _ => rfl) (fun _ => rfl)
      repeat walk_at "e"
      refine wix_F (g := shD A) (.lst _) rfl hp ?_
      repeat walk_at "e"
      refine wix_F (g := prD) (.lst _) rfl hp ?_
      repeat walk_at "e"
      refine fnc_F (A := Int × Int) p rfl (hpb.mono (by omega)) ?_
      refine ⟨true, rfl, fun h => (by cases h), fun _ => ?_⟩
      refine wto_or1 ?_
      refine wt_not ?_
      refine wt_val ?_ (fun _ _ => rfl)
      refine we_call GTw (by walk_at "ing") mTw (Nat.le_of_ble_eq_true rfl) rfl ?_ (fun _ => rfl) (fun _ => rfl)
      repeat walk_at "e"
      refine wix_F (g := shD A) (.lst _) rfl hp ?_
      repeat walk_at "e"
      refine wix_F (g := shD A) (.lst _) rfl hq ?_
      repeat walk_at "e"
      refine wix_F (g := prD) (.lst _) rfl hp ?_
      repeat walk_at "e"
      refine wix_F (g := prD) (.lst _) rfl hq ?_
      repeat walk_at "e"
      refine fnc_F (A := SS) ⟨p, q⟩ rfl ⟨hpb.mono (by omega), hqb.mono (by omega)⟩ ?_
      refine ⟨true, rfl, fun h => (by cases h), fun _ => ?_⟩
      walk_at "s"
      have em : ((i : Int) + 1) % (ps.length : Int) = (((i + 1) % ps.length : Nat) : Int) := by rw [Int.natCast_emod]; rfl
      refine wss_one ?_
      refine ws_if ?_
      refine wt_not ?_
      refine wt_val ?_ (fun _ _ => rfl)
      refine we_call GTw (by walk_at "ing") mTw (Nat.le_of_ble_eq_true rfl) rfl ?_ (fun _ => rfl) (fun _ => rfl)
      repeat walk_at "e"
      refine wix_F (g := shD A) (.lst _) rfl hp ?_
      repeat walk_at "e"
      rw [List.length_map]
      refine wo_mod (by omega) ?_
      rw [em]
      refine wix_F (g := shD A) (.lst _) rfl hr ?_
      repeat walk_at "e"
      refine wix_F (g := prD) (.lst _) rfl hp ?_
      repeat walk_at "e"
      rw [List.length_map]
      refine wo_mod (by omega) ?_
      rw [em]
      refine wix_F (g := prD) (.lst _) rfl hr ?_
      repeat walk_at "e"
      refine fnc_F (A := SS) ⟨p, r⟩ rfl ⟨hpb.mono (by omega), hrb.mono (by omega)⟩ ?_
      refine ⟨true, rfl, fun h => (by cases h), fun _ => ?_⟩
      walk_at "s"
      dsimp only
      exact Wk.drop (env' := [some (.bor (zs.map .int)), some (.loc 0), none, some (.val (.lst (ps.map prD))), none, some (.val (.lst (dd.map prD))), some (.val (.lst (dd.map (shD A)))), none, none, none, none, none]) ⟨T5, rfl, rfl⟩ (by walk_at "ew") (by simp) (by simp [tpN_ok])
    rintro env' S' ⟨T4, rfl, rfl⟩
    refine wss_cons ?_
    walk_at "s"
    refine we_settle ?_
    refine we_make GIS MIS (by walk_at "ing") mIS (Nat.le_of_ble_eq_true rfl) rfl ?_ (fun _ => rfl) (fun _ => rfl)
    repeat walk_at "e"
    refine we_call GDW (by walk_at "ing") mDW (Nat.le_of_ble_eq_true rfl) rfl ?_ (fun _ => rfl) (fun _ => rfl)
    repeat walk_at "e"
    refine fnc_DW (m := 100) rfl hz (by omega) fun v4 T5 hv4 => ?_
    repeat walk_at "e"
    have hu : (0 : Int) - 1 - (v4 : Int) ≠ 0 := by omega
    refine fnc_IS (S := [tpN zs T5]) (by decide) (Nat.lt_of_le_of_lt (show ((0 : Int) - 1 - (v4 : Int)).natAbs ≤ 1000 by omega) (by decide)) (fun _ => ⟨rfl, 1, .val (shD A (0, 1)), Nat.le_refl _, Nat.le_of_ble_eq_true rfl, by simp [tpN_ok], .inr ⟨_, fz_Sh _ A _, by rw [shF_zero hu]⟩, ?_⟩) (fun h => absurd h hu)
    show WSs _ _ [some (.bor (zs.map .int)), some (.loc 0), none, some (.val (.lst (ps.map prD))), none, some (.val (.lst (dd.map prD))), some (.val (.lst (dd.map (shD A)))), none, some (.val (shD A (0, 1))), none, none, none] [tpN zs T5] _
    refine wss_cons ?_
    walk_at "s"
    refine we_settle ?_
    refine we_make GIS MIS (by walk_at "ing") mIS (Nat.le_of_ble_eq_true rfl) rfl ?_ (fun _ => rfl) (fun _ => rfl)
    repeat walk_at "e"
    refine fnc_IS (S := [tpN zs T5]) (by decide) (by decide) (fun _ => ⟨rfl, 1, .val (shD A (1, 1)), Nat.le_refl _, Nat.le_of_ble_eq_true rfl, by simp [tpN_ok], .inr ⟨_, fz_Sh _ A _, by rw [show shF 1 1 = (1, 1) by decide]⟩, ?_⟩) (fun h => absurd h (by decide))
    show WSs _ _ [some (.bor (zs.map .int)), some (.loc 0), none, some (.val (.lst (ps.map prD))), none, some (.val (.lst (dd.map prD))), some (.val (.lst (dd.map (shD A)))), none, some (.val (shD A (0, 1))), some (.val (shD A (1, 1))), none, none] [tpN zs T5] _
    refine wss_cons ?_
    walk_at "s"
    refine we_lstF ?_
    repeat walk_at "e"
    show WSs _ _ [some (.bor (zs.map .int)), some (.loc 0), none, some (.val (.lst (ps.map prD))), none, some (.val (.lst (dd.map prD))), some (.val (.lst (dd.map (shD A)))), none, some (.val (shD A (0, 1))), some (.val (shD A (1, 1))), some (.val (.lst [prD (0, 1), prD (1, 1)])), none] [tpN zs T5] _
    refine wss_cons ?_
    refine ws_for rfl ?_ (fun _ _ => rfl)
    refine wi_range1 (by walk_at "ing") (by walk_at "nb") ?_ (fun _ => rfl)
    repeat walk_at "e"
    rw [List.length_map]
    refine ⟨_, rfl, by omega, fun i env S' => ∃ t s : Int × Int, env = [some (.bor (zs.map .int)), some (.loc 0), none, some (.val (.lst (ps.map prD))), none, some (.val (.lst (dd.map prD))), some (.val (.lst (dd.map (shD A)))), none, some (.val (shD A t)), some (.val (shD A s)), some (.val (.lst [prD t, prD s])), none] ∧ S' = [tpN zs T5] ∧ ShB (2 + 117 * i) t ∧ ShB (2 + 117 * i) s, Nat.zero_le _, ⟨(0, 1), (1, 1), rfl, rfl, ⟨by decide, by decide, by decide⟩, ⟨by decide, by decide, by decide⟩⟩, fun _ _ _ _ => trivial, ?_, ?_⟩
    · rintro i d env' S' hd ⟨t, s, rfl, rfl, ht, hs⟩
      obtain ⟨hi, rfl⟩ := rangeD_get hd
      have hi : i < ps.length := by omega
      rw [show (0 : Int) + (i : Int) = (i : Int) by omega]
      obtain ⟨p, hp, hpb⟩ := hat i hi
      have ok1 : SS.ok ⟨t, p⟩ := ⟨_, _, ht, hpb, by omega⟩
      have ok2 : SS.ok ⟨s, p⟩ := ⟨_, _, hs, hpb, by omega⟩
      refine wg_name (by walk_at "inv") ?_
      refine wss_cons ?_
      walk_at "s"
      repeat walk_at "e"
      refine wix_F (g := shD A) (.lst _) rfl hp ?_
      refine wo_binO G4 oC.sf m4.at_ m4.fn (Nat.le_of_ble_eq_true rfl) rfl (shIns _ _ _) (shIns _ _ _) fun D => ?_
      refine fnc_F (A := SS) ⟨t, p⟩ rfl ok1 ?_
      dsimp only
      refine wss_cons ?_
      walk_at "s"
      repeat walk_at "e"
      refine wix_F (g := shD A) (.lst _) rfl hp ?_
      refine wo_binO G6 oC.sf m6.at_ m6.fn (Nat.le_of_ble_eq_true rfl) rfl (shIns _ _ _) (shIns _ _ _) fun D => ?_
      refine fnc_F (A := SS) ⟨s, p⟩ rfl ok2 ?_
      dsimp only
      refine wss_one ?_
      walk_at "s"
      refine we_lstF ?_
      refine wa_cons ?_ (fun _ => rfl)
      refine we_call GAd (by walk_at "ing") mAd (Nat.le_of_ble_eq_true rfl) rfl ?_ (fun _ => rfl) (fun _ => rfl)
      repeat walk_at "e"
      refine wix_seq (.lst _) (d := prD t) rfl ?_
      repeat walk_at "e"
      refine wix_F (g := prD) (.lst _) rfl hp ?_
      repeat walk_at "e"
      refine fnc_F (A := SS) ⟨t, p⟩ rfl ok1 ?_
      refine wa_cons ?_ (fun _ => rfl)
      refine we_call GTi (by walk_at "ing") mTi (Nat.le_of_ble_eq_true rfl) rfl ?_ (fun _ => rfl) (fun _ => rfl)
      repeat walk_at "e"
      refine wix_seq (.lst _) (d := prD s) rfl ?_
      repeat walk_at "e"
      refine wix_F (g := prD) (.lst _) rfl hp ?_
      repeat walk_at "e"
      refine fnc_F (A := SS) ⟨s, p⟩ rfl ok2 ?_
      refine wa_nil ⟨[prD (adF t p), prD (mlF s p)], rfl, Nat.le_of_ble_eq_true rfl, ?_⟩
      dsimp only
      exact Wk.drop (env' := [some (.bor (zs.map .int)), some (.loc 0), none, some (.val (.lst (ps.map prD))), none, some (.val (.lst (dd.map prD))), some (.val (.lst (dd.map (shD A)))), none, some (.val (shD A (adF t p))), some (.val (shD A (mlF s p))), some (.val (.lst [prD (adF t p), prD (mlF s p)])), none]) ⟨_, _, rfl, rfl, (adF_ok ht hpb).mono (by omega), (mlF_ok hs hpb).mono (by omega)⟩ (by walk_at "ew") (by simp) (by simp [tpN_ok])
    rintro env' S' ⟨t, s, rfl, rfl, ht, hs⟩
    rw [rangeD_len] at ht hs
    refine wss_cons ?_
    refine ws_if ?_
    refine wt_of ?_
    refine wto_or ?_
    refine wt_not ?_
    refine wt_val ?_ (fun _ _ => rfl)
    refine we_call GOR (by walk_at "ing") mOR (Nat.le_of_ble_eq_true rfl) rfl ?_ (fun _ => rfl) (fun _ => rfl)
    repeat walk_at "e"
    refine wix_seq (.lst _) (d := prD t) rfl ?_
    repeat walk_at "e"
    refine fnc_F (A := Int × Int) t rfl (ht.mono (by omega)) ?_
    refine ⟨true, rfl, fun h => (by cases h), fun _ => ?_⟩
    refine wto_or1 ?_
    refine wt_not ?_
    refine wt_val ?_ (fun _ _ => rfl)
    refine we_call GOR (by walk_at "ing") mOR (Nat.le_of_ble_eq_true rfl) rfl ?_ (fun _ => rfl) (fun _ => rfl)
    repeat walk_at "e"
    refine wix_seq (.lst _) (d := prD s) rfl ?_
    repeat walk_at "e"
    refine fnc_F (A := Int × Int) s rfl (hs.mono (by omega)) ?_
    refine ⟨true, rfl, fun h => (by cases h), fun _ => ?_⟩
    walk_at "s"
    clear ht hs
    refine wss_cons ?_
    refine ws_for rfl ?_ (fun _ _ => rfl)
    refine wi_range1 (by walk_at "ing") (by walk_at "nb") ?_ (fun _ => rfl)
    repeat walk_at "e"
    rw [List.length_map]
    refine ⟨_, rfl, by omega, fun i env S' => ∃ T' : Tp, env = [some (.bor (zs.map .int)), some (.loc 0), none, some (.val (.lst (ps.map prD))), none, some (.val (.lst (dd.map prD))), some (.val (.lst (dd.map (shD A)))), none, some (.val (shD A t)), some (.val (shD A s)), some (.val (.lst [prD t, prD s])), none] ∧ S' = [tpN zs T'], Nat.zero_le _, ⟨T5, rfl, rfl⟩, fun _ _ _ _ => trivial, ?_, ?_⟩
    · rintro i d env' S' hd ⟨T6, rfl, rfl⟩
      obtain ⟨hi, rfl⟩ := rangeD_get hd
      have hi : i < ps.length := by omega
      rw [show (0 : Int) + (i : Int) = (i : Int) by omega]
      obtain ⟨p, hp, hpb⟩ := hat i hi
      refine wg_name (by walk_at "inv") ?_
      refine wss_one ?_
      refine ws_if ?_
      refine wt_of ?_
      refine wto_or ?_
      refine wt_not ?_
      refine wt_val ?_ (fun _ _ => rfl)
      refine we_call GOR (by walk_at "ing") mOR (Nat.le_of_ble_eq_true rfl) rfl ?_ (fun _ => rfl) (fun _ => rfl)
      repeat walk_at "e"
      refine wix_F (g := shD A) (.lst _) rfl hp ?_
      repeat walk_at "e"
      refine wix_F (g := prD) (.lst _) rfl hp ?_
      repeat walk_at "e"
      refine fnc_F (A := Int × Int) p rfl (hpb.mono (by omega)) ?_
      refine ⟨true, rfl, fun h => (by cases h), fun _ => ?_⟩
      refine wto_or1 ?_
      refine wt_cmp ?_ rfl
      refine we_cmp ?_ rfl
      repeat walk_at "e"
      refine wix_F (g := shD A) (.lst _) rfl hp ?_
      refine we_call GPk (by walk_at "ing") mPk (Nat.le_of_ble_eq_true rfl) rfl ?_ (fun _ => rfl) (fun _ => rfl)
      repeat walk_at "e"
      refine we_lstF ?_
      repeat walk_at "e"
      refine wix_F (g := prD) (.lst _) rfl hp ?_
      repeat walk_at "e"
      refine wix_F (g := prD) (.lst _) rfl hp ?_
      repeat walk_at "e"
      refine wix_p1 ?_
      repeat walk_at "e"
      refine fnc_Pk (k := 0) [.non, prD p, .int p.1, .str "1"] (.lst _) rfl hz (by simp) (by simp) fun x T7 hx => ?_
      obtain ⟨T, hT1, hT2⟩ : ∃ T, tyD x = some T ∧ (T = "NoneType" ∨ T = "int" ∨ T = "str" ∨ T = "tuple") := by
        simp only [List.mem_cons, List.not_mem_nil, or_false] at hx
        rcases hx with rfl | rfl | rfl | rfl
        · exact ⟨_, rfl, by simp⟩
        · exact ⟨_, rfl, by simp⟩
        · exact ⟨_, rfl, by simp⟩
        · exact ⟨_, rfl, by simp⟩
      refine wo_eqO (T := T) G7 m7.at_ m7.fn (Nat.le_of_ble_eq_true rfl) rfl (shIns _ _ _) hT1 (notFirst_T hT2) fun D => ?_
      refine fnc_EQ (.ot hT1 hT2) ?_
      repeat walk_at "e"
      refine wo_notB ?_
      refine ⟨false, rfl, fun h => (by cases h), fun _ => ?_⟩
      walk_at "s"
      dsimp only
      exact Wk.drop (env' := [some (.bor (zs.map .int)), some (.loc 0), none, some (.val (.lst (ps.map prD))), none, some (.val (.lst (dd.map prD))), some (.val (.lst (dd.map (shD A)))), none, some (.val (shD A t)), some (.val (shD A s)), some (.val (.lst [prD t, prD s])), none]) ⟨T7, rfl, rfl⟩ (by walk_at "ew") (by simp) (by simp [tpN_ok])
    rintro env' S' ⟨T6, rfl, rfl⟩
    have e0 : ps[0]? = some ps[0] := by simp
    have hp0 := hps ps[0] (List.getElem_mem _)
    generalize ps[0] = p0 at e0 hp0
    refine wss_one ?_
    walk_at "s"
    refine we_call GRf (by walk_at "ing") mRf (Nat.le_of_ble_eq_true rfl) rfl ?_ (fun _ => rfl) (fun _ => rfl)
    repeat walk_at "e"
    refine wix_F (g := prD) (.lst _) (j := 0) rfl e0 ?_
    repeat walk_at "e"
    refine wix_p1 ?_
    repeat walk_at "e"
    refine fnc_F (A := Int) p0.1 rfl hp0.ou.2.1 ?_
    exact RetC.cut0 hΨ
end DL
set_option Elab.async false
set_option linter.all false
set_option maxRecDepth 100000
set_option maxHeartbeats 0
namespace DL
open PySem PySem.Spec PyProof.Rows
open L2 hiding Takes passAt takes_of ps_raise PMk ps_try_as
open L2N (Takes passAt takes_of ps_raise PMk ps_try_as)
theorem BltF.of {g : Gd} (L : List Str) (h : ∀ x ∈ L, g.mg x = none) : BltF g L := h
theorem facts {P : Program} {w : World} {K : PySem.W.Frag} {h : Heap} {mg : Str → Option Value} {f : Addr} (X : K.In h) (G : h.Ns mainGlobals mg) (hfa : mg ("law" : Str) = some (.ref f)) (c : SaysM fa fn pr fb K) :
    ∃ fd : FuncData, (∀ (s : Shared) (v : Value), BindsTo s fd ⟨[v], []⟩ [("_law_script", v)]) ∧ ∀ base : Heap, K.In base → base.Ns mainGlobals mg → FnOk P w K mg base (L2N.CX P w) 8 f fd ["_law_script"] (spD K spLW) := by
  obtain ⟨d0, F0⟩ := c.d.def_ 0 (d := fnL 0) rfl
  have b0 : Binds K d0 ["self", "number"] [] := F0.bindsN fun _ _ _ _ _ _ us hl => match us, hl with | [_, _], _ => rfl
  obtain ⟨d1, F1⟩ := c.d.def_ 1 (d := fnL 1) rfl
  have b1 : Binds K d1 ["one", "two"] [] := F1.bindsN fun _ _ _ _ _ _ us hl => match us, hl with | [_, _], _ => rfl
  obtain ⟨d2, F2⟩ := c.d.def_ 2 (d := fnL 2) rfl
  have b2 : Binds K d2 ["self", "over", "under"] [] := F2.bindsN fun _ _ _ _ _ _ us hl => match us, hl with | [_, _, _], _ => rfl
  obtain ⟨d3, F3⟩ := c.d.def_ 3 (d := fnL 3) rfl
  have b3 : Binds K d3 ["_law_number", "_law_turn"] [] := F3.bindsN fun _ _ _ _ _ _ us hl => match us, hl with | [_, _], _ => rfl
  obtain ⟨d4, F4⟩ := c.d.def_ 4 (d := fnL 4) rfl
  have b4 : Binds K d4 ["_law_script"] [] := F4.bindsN fun _ _ _ _ _ _ us hl => match us, hl with | [_], _ => rfl
  obtain ⟨d5, F5⟩ := c.d.def_ 5 (d := fnL 5) rfl
  have b5 : Binds K d5 ["_law_tape_here", "_law_many"] [] := F5.bindsN fun _ _ _ _ _ _ us hl => match us, hl with | [_, _], _ => rfl
  obtain ⟨d6, F6⟩ := c.d.def_ 6 (d := fnL 6) rfl
  have b6 : Binds K d6 ["_law_tape_here", "_law_row"] [] := F6.bindsN fun _ _ _ _ _ _ us hl => match us, hl with | [_, _], _ => rfl
  obtain ⟨d7, F7⟩ := c.d.def_ 7 (d := fnL 7) rfl
  have b7 : Binds K d7 ["self", "other"] [] := F7.bindsN fun _ _ _ _ _ _ us hl => match us, hl with | [_, _], _ => rfl
  obtain ⟨d8, F8⟩ := c.d.def_ 8 (d := fnL 8) rfl
  have b8 : Binds K d8 ["self", "other"] [] := F8.bindsN fun _ _ _ _ _ _ us hl => match us, hl with | [_, _], _ => rfl
  obtain ⟨d9, F9⟩ := c.d.def_ 9 (d := fnL 9) rfl
  have b9 : Binds K d9 ["self", "other"] [] := F9.bindsN fun _ _ _ _ _ _ us hl => match us, hl with | [_, _], _ => rfl
  obtain ⟨d10, F10⟩ := c.d.def_ 10 (d := fnL 10) rfl
  have b10 : Binds K d10 ["self", "other"] [] := F10.bindsN fun _ _ _ _ _ _ us hl => match us, hl with | [_, _], _ => rfl
  obtain ⟨d11, F11⟩ := c.d.def_ 11 (d := fnL 11) rfl
  have b11 : Binds K d11 ["self", "other"] [] := F11.bindsN fun _ _ _ _ _ _ us hl => match us, hl with | [_, _], _ => rfl
  obtain ⟨d12, F12⟩ := c.d.def_ 12 (d := fnL 12) rfl
  have b12 : Binds K d12 ["self"] [] := F12.bindsN fun _ _ _ _ _ _ us hl => match us, hl with | [_], _ => rfl
  obtain ⟨d13, F13⟩ := c.d.def_ 13 (d := fnL 13) rfl
  have b13 : Binds K d13 ["_law_over", "_law_under"] [] := F13.bindsN fun _ _ _ _ _ _ us hl => match us, hl with | [_, _], _ => rfl
  obtain ⟨d14, F14⟩ := c.d.def_ 14 (d := fnL 14) rfl
  have b14 : Binds K d14 ["_law_one", "_law_other"] [] := F14.bindsN fun _ _ _ _ _ _ us hl => match us, hl with | [_, _], _ => rfl
  obtain ⟨d15, F15⟩ := c.d.def_ 15 (d := fnL 15) rfl
  have b15 : Binds K d15 ["_law_one", "_law_other"] [] := F15.bindsN fun _ _ _ _ _ _ us hl => match us, hl with | [_, _], _ => rfl
  obtain ⟨d16, F16⟩ := c.d.def_ 16 (d := fnL 16) rfl
  have b16 : Binds K d16 ["_law_actual", "_law_due"] [] := F16.bindsN fun _ _ _ _ _ _ us hl => match us, hl with | [_, _], _ => rfl
  obtain ⟨d17, F17⟩ := c.d.def_ 17 (d := fnL 17) rfl
  have b17 : Binds K d17 ["_law_share_here"] [] := F17.bindsN fun _ _ _ _ _ _ us hl => match us, hl with | [_], _ => rfl
  obtain ⟨d18, F18⟩ := c.d.def_ 18 (d := fnL 18) rfl
  have b18 : Binds K d18 ["_law_share_here", "_law_due"] [] := F18.bindsN fun _ _ _ _ _ _ us hl => match us, hl with | [_, _], _ => rfl
  obtain ⟨d19, F19⟩ := c.d.def_ 19 (d := fnL 19) rfl
  have b19 : Binds K d19 ["_law_one", "_law_other", "_law_first", "_law_second"] [] := F19.bindsN fun _ _ _ _ _ _ us hl => match us, hl with | [_, _, _, _], _ => rfl
  obtain ⟨d20, F20⟩ := c.d.def_ 20 (d := fnL 20) rfl
  have b20 : Binds K d20 ["_law_tape_here", "_law_size"] [] := F20.bindsN fun _ _ _ _ _ _ us hl => match us, hl with | [_, _], _ => rfl
  obtain ⟨d21, F21⟩ := c.d.def_ 21 (d := fnL 21) rfl
  have b21 : Binds K d21 ["_law_tape_here"] [] := F21.bindsN fun _ _ _ _ _ _ us hl => match us, hl with | [_], _ => rfl
  obtain ⟨d22, F22⟩ := c.d.def_ 22 (d := fnL 22) rfl
  have b22 : Binds K d22 ["_law_over"] [] := F22.bindsN fun _ _ _ _ _ _ us hl => match us, hl with | [_], _ => rfl
  obtain ⟨d23, F23⟩ := c.d.def_ 23 (d := fnL 23) rfl
  have b23 : Binds K d23 ["_law_script"] [] := F23.bindsN fun _ _ _ _ _ _ us hl => match us, hl with | [_], _ => rfl
  have e := hfa.symm.trans (He.glo_ok X G (c.d.fact 38 (f := .glo "law") rfl))
  cases e
  have b := FunD.bindsA (ps := ["_law_script"]) F23 fun _ _ _ _ _ _ us hl => match us, hl with | [_], _ => rfl
  refine ⟨d23, fun s v => b s [v] rfl, fun base _ _ => ?_⟩
  have G0 := ok_ini (g := ⟨P, w, K, mg, base⟩) F0 b0 (erB_ok (c.fb_ 0 (f := fun K => erB K (He.ga K "InvalidNumber") ["number"]) rfl))
  have G1 := ok_cd (g := ⟨P, w, K, mg, base⟩) F1 b1
  have G2 := ok_is (g := ⟨P, w, K, mg, base⟩) (A := He.ga K "Share") F2 b2 (BltF.of ["abs"] (List.forall_mem_cons.mpr ⟨He.free_ok X G (c.d.fact 0 (f := .free "abs") rfl), (fun _ hf => nomatch hf)⟩)) (He.cls_ok (c.d.fact 1 (f := .cls "Share") rfl)) (List.forall_mem_cons.mpr ⟨He.noat_ok (c.d.fact 3 (f := .noat "Share" "over") rfl), (List.forall_mem_cons.mpr ⟨He.noat_ok (c.d.fact 2 (f := .noat "Share" "under") rfl), (fun _ hf => nomatch hf)⟩)⟩) G1 (He.glo_ok X G (c.d.fact 4 (f := .glo "common_divisor") rfl)) G0 (He.glo_ok X G (c.d.fact 5 (f := .glo "InvalidNumber") rfl))
  have G3 := ok_mx (g := ⟨P, w, K, mg, base⟩) F3 b3 (BltF.of ["int"] (List.forall_mem_cons.mpr ⟨He.free_ok X G (c.d.fact 6 (f := .free "int") rfl), (fun _ hf => nomatch hf)⟩))
  have G4 := ok_tp (g := ⟨P, w, K, mg, base⟩) F4 b4 (BltF.of ["list"] (List.forall_mem_cons.mpr ⟨He.free_ok X G (c.d.fact 7 (f := .free "list") rfl), (fun _ hf => nomatch hf)⟩))
  have G5 := ok_dw (g := ⟨P, w, K, mg, base⟩) F5 b5 (BltF.of ["int", "len"] (List.forall_mem_cons.mpr ⟨He.free_ok X G (c.d.fact 6 (f := .free "int") rfl), (List.forall_mem_cons.mpr ⟨He.free_ok X G (c.d.fact 8 (f := .free "len") rfl), (fun _ hf => nomatch hf)⟩)⟩)) G3 (He.glo_ok X G (c.d.fact 9 (f := .glo "_law_mixed") rfl))
  have G6 := ok_pk (g := ⟨P, w, K, mg, base⟩) F6 b6 (BltF.of ["len"] (List.forall_mem_cons.mpr ⟨He.free_ok X G (c.d.fact 8 (f := .free "len") rfl), (fun _ hf => nomatch hf)⟩)) G5 (He.glo_ok X G (c.d.fact 10 (f := .glo "_law_draw") rfl))
  have G7 := ok_ad (g := ⟨P, w, K, mg, base⟩) (A := He.ga K "Share") F7 b7 (He.cls_ok (c.d.fact 1 (f := .cls "Share") rfl)) (List.forall_mem_cons.mpr ⟨He.noat_ok (c.d.fact 3 (f := .noat "Share" "over") rfl), (List.forall_mem_cons.mpr ⟨He.noat_ok (c.d.fact 2 (f := .noat "Share" "under") rfl), (fun _ hf => nomatch hf)⟩)⟩) G2 (He.mkr_ok (c.d.fact 11 (f := .mkr "Share") rfl)) (He.glo_ok X G (c.d.fact 12 (f := .glo "Share") rfl))
  have G8 := ok_sb (g := ⟨P, w, K, mg, base⟩) (A := He.ga K "Share") F8 b8 (He.cls_ok (c.d.fact 1 (f := .cls "Share") rfl)) (List.forall_mem_cons.mpr ⟨He.noat_ok (c.d.fact 3 (f := .noat "Share" "over") rfl), (List.forall_mem_cons.mpr ⟨He.noat_ok (c.d.fact 2 (f := .noat "Share" "under") rfl), (fun _ hf => nomatch hf)⟩)⟩) G2 (He.mkr_ok (c.d.fact 11 (f := .mkr "Share") rfl)) (He.glo_ok X G (c.d.fact 12 (f := .glo "Share") rfl))
  have G9 := ok_ml (g := ⟨P, w, K, mg, base⟩) (A := He.ga K "Share") F9 b9 (He.cls_ok (c.d.fact 1 (f := .cls "Share") rfl)) (List.forall_mem_cons.mpr ⟨He.noat_ok (c.d.fact 3 (f := .noat "Share" "over") rfl), (List.forall_mem_cons.mpr ⟨He.noat_ok (c.d.fact 2 (f := .noat "Share" "under") rfl), (fun _ hf => nomatch hf)⟩)⟩) G2 (He.mkr_ok (c.d.fact 11 (f := .mkr "Share") rfl)) (He.glo_ok X G (c.d.fact 12 (f := .glo "Share") rfl))
  have G10 := ok_eq (g := ⟨P, w, K, mg, base⟩) (A := He.ga K "Share") F10 b10 (BltF.of ["isinstance"] (List.forall_mem_cons.mpr ⟨He.free_ok X G (c.d.fact 13 (f := .free "isinstance") rfl), (fun _ hf => nomatch hf)⟩)) (He.cls_ok (c.d.fact 1 (f := .cls "Share") rfl)) (List.forall_mem_cons.mpr ⟨He.noat_ok (c.d.fact 3 (f := .noat "Share" "over") rfl), (List.forall_mem_cons.mpr ⟨He.noat_ok (c.d.fact 2 (f := .noat "Share" "under") rfl), (fun _ hf => nomatch hf)⟩)⟩) (ownB_ok (He.cls_ok (c.d.fact 1 (f := .cls "Share") rfl)) (c.fb_ 1 (f := fun K => ownB K (He.ga K "Share")) rfl)) (He.glo_ok X G (c.d.fact 12 (f := .glo "Share") rfl))
  have G11 := ok_be (g := ⟨P, w, K, mg, base⟩) (A := He.ga K "Share") F11 b11 (He.cls_ok (c.d.fact 1 (f := .cls "Share") rfl)) (List.forall_mem_cons.mpr ⟨He.noat_ok (c.d.fact 3 (f := .noat "Share" "over") rfl), (List.forall_mem_cons.mpr ⟨He.noat_ok (c.d.fact 2 (f := .noat "Share" "under") rfl), (fun _ hf => nomatch hf)⟩)⟩)
  have G12 := ok_wt (g := ⟨P, w, K, mg, base⟩) (A := He.ga K "Share") F12 b12 (BltF.of ["str"] (List.forall_mem_cons.mpr ⟨He.free_ok X G (c.d.fact 14 (f := .free "str") rfl), (fun _ hf => nomatch hf)⟩)) (He.cls_ok (c.d.fact 1 (f := .cls "Share") rfl)) (List.forall_mem_cons.mpr ⟨He.noat_ok (c.d.fact 3 (f := .noat "Share" "over") rfl), (List.forall_mem_cons.mpr ⟨He.noat_ok (c.d.fact 2 (f := .noat "Share" "under") rfl), (fun _ hf => nomatch hf)⟩)⟩)
  have G13 := ok_sh (g := ⟨P, w, K, mg, base⟩) F13 b13 (BltF.of ["abs", "int", "range"] (List.forall_mem_cons.mpr ⟨He.free_ok X G (c.d.fact 0 (f := .free "abs") rfl), (List.forall_mem_cons.mpr ⟨He.free_ok X G (c.d.fact 6 (f := .free "int") rfl), (List.forall_mem_cons.mpr ⟨He.free_ok X G (c.d.fact 15 (f := .free "range") rfl), (fun _ hf => nomatch hf)⟩)⟩)⟩))
  have G14 := ok_lad (g := ⟨P, w, K, mg, base⟩) F14 b14 G13 (He.glo_ok X G (c.d.fact 16 (f := .glo "_law_share") rfl))
  have G15 := ok_lti (g := ⟨P, w, K, mg, base⟩) F15 b15 G13 (He.glo_ok X G (c.d.fact 16 (f := .glo "_law_share") rfl))
  have G16 := ok_lis (g := ⟨P, w, K, mg, base⟩) (A := He.ga K "Share") F16 b16 (BltF.of ["isinstance", "int", "bool"] (List.forall_mem_cons.mpr ⟨He.free_ok X G (c.d.fact 13 (f := .free "isinstance") rfl), (List.forall_mem_cons.mpr ⟨He.free_ok X G (c.d.fact 6 (f := .free "int") rfl), (List.forall_mem_cons.mpr ⟨He.free_ok X G (c.d.fact 17 (f := .free "bool") rfl), (fun _ hf => nomatch hf)⟩)⟩)⟩)) (He.cls_ok (c.d.fact 1 (f := .cls "Share") rfl)) (List.forall_mem_cons.mpr ⟨He.noat_ok (c.d.fact 3 (f := .noat "Share" "over") rfl), (List.forall_mem_cons.mpr ⟨He.noat_ok (c.d.fact 2 (f := .noat "Share" "under") rfl), (fun _ hf => nomatch hf)⟩)⟩)
  have G17 := ok_lwr (g := ⟨P, w, K, mg, base⟩) F17 b17 (BltF.of ["str"] (List.forall_mem_cons.mpr ⟨He.free_ok X G (c.d.fact 14 (f := .free "str") rfl), (fun _ hf => nomatch hf)⟩))
  have G18 := ok_lor (g := ⟨P, w, K, mg, base⟩) (A := He.ga K "Share") F18 b18 (BltF.of ["isinstance", "str"] (List.forall_mem_cons.mpr ⟨He.free_ok X G (c.d.fact 13 (f := .free "isinstance") rfl), (List.forall_mem_cons.mpr ⟨He.free_ok X G (c.d.fact 14 (f := .free "str") rfl), (fun _ hf => nomatch hf)⟩)⟩)) (He.cls_ok (c.d.fact 1 (f := .cls "Share") rfl)) G12 (He.meth_ok (c.d.fact 18 (f := .meth "Share" "written") rfl)) G16 (He.glo_ok X G (c.d.fact 19 (f := .glo "_law_is_share") rfl)) G17 (He.glo_ok X G (c.d.fact 20 (f := .glo "_law_written") rfl))
  have G19 := ok_ltw (g := ⟨P, w, K, mg, base⟩) (A := He.ga K "Share") F19 b19 (BltF.of ["isinstance", "bool"] (List.forall_mem_cons.mpr ⟨He.free_ok X G (c.d.fact 13 (f := .free "isinstance") rfl), (List.forall_mem_cons.mpr ⟨He.free_ok X G (c.d.fact 17 (f := .free "bool") rfl), (fun _ hf => nomatch hf)⟩)⟩)) (He.cls_ok (c.d.fact 1 (f := .cls "Share") rfl)) (List.forall_mem_cons.mpr ⟨He.noat_ok (c.d.fact 3 (f := .noat "Share" "over") rfl), (List.forall_mem_cons.mpr ⟨He.noat_ok (c.d.fact 2 (f := .noat "Share" "under") rfl), (fun _ hf => nomatch hf)⟩)⟩) (ownB_ok (He.cls_ok (c.d.fact 1 (f := .cls "Share") rfl)) (c.fb_ 1 (f := fun K => ownB K (He.ga K "Share")) rfl)) G18 (He.glo_ok X G (c.d.fact 21 (f := .glo "_law_one_right") rfl)) G14 (He.glo_ok X G (c.d.fact 22 (f := .glo "_law_added") rfl)) G15 (He.glo_ok X G (c.d.fact 23 (f := .glo "_law_times") rfl)) G7 (He.meth_ok (c.d.fact 24 (f := .meth "Share" "__add__") rfl)) G8 (He.meth_ok (c.d.fact 25 (f := .meth "Share" "__sub__") rfl)) G9 (He.meth_ok (c.d.fact 26 (f := .meth "Share" "__mul__") rfl)) G10 (He.meth_ok (c.d.fact 27 (f := .meth "Share" "__eq__") rfl)) G11 (He.meth_ok (c.d.fact 28 (f := .meth "Share" "is_below") rfl))
  have G20 := ok_lit (g := ⟨P, w, K, mg, base⟩) F20 b20 (BltF.of ["range"] (List.forall_mem_cons.mpr ⟨He.free_ok X G (c.d.fact 15 (f := .free "range") rfl), (fun _ hf => nomatch hf)⟩)) G5 (He.glo_ok X G (c.d.fact 10 (f := .glo "_law_draw") rfl)) G6 (He.glo_ok X G (c.d.fact 29 (f := .glo "_law_pick") rfl))
  have G21 := ok_lpa (g := ⟨P, w, K, mg, base⟩) F21 b21 G5 (He.glo_ok X G (c.d.fact 10 (f := .glo "_law_draw") rfl)) G6 (He.glo_ok X G (c.d.fact 29 (f := .glo "_law_pick") rfl)) G20 (He.glo_ok X G (c.d.fact 30 (f := .glo "_law_integer") rfl))
  have G22 := ok_rf (g := ⟨P, w, K, mg, base⟩) (A := He.ga K "Share") F22 b22 (BltF.of ["isinstance", "ValueError", "int", "bool"] (List.forall_mem_cons.mpr ⟨He.free_ok X G (c.d.fact 13 (f := .free "isinstance") rfl), (List.forall_mem_cons.mpr ⟨He.free_ok X G (c.d.fact 31 (f := .free "ValueError") rfl), (List.forall_mem_cons.mpr ⟨He.free_ok X G (c.d.fact 6 (f := .free "int") rfl), (List.forall_mem_cons.mpr ⟨He.free_ok X G (c.d.fact 17 (f := .free "bool") rfl), (fun _ hf => nomatch hf)⟩)⟩)⟩)⟩)) G2 (He.mkr_ok (c.d.fact 11 (f := .mkr "Share") rfl)) (He.glo_ok X G (c.d.fact 12 (f := .glo "Share") rfl)) (erB_ok (c.fb_ 0 (f := fun K => erB K (He.ga K "InvalidNumber") ["number"]) rfl)) (He.glo_ok X G (c.d.fact 5 (f := .glo "InvalidNumber") rfl)) (He.glo_ok X G (c.d.fact 32 (f := .glo "JoinError") rfl)) (He.glo_ok X G (c.d.fact 33 (f := .glo "NotCut") rfl)) (of_decide_eq_true (c.fb_ 2 (f := fun K => decide (PySem.W.exmOne K (.ref (He.ga K "InvalidNumber")) (.ref (He.ga K "JoinError")) = some true)) rfl)) (of_decide_eq_true (c.fb_ 3 (f := fun K => decide (PySem.W.kitOne K (.ref (He.ga K "InvalidNumber")) (.ref (He.ga K "InvalidNumber")) = some true)) rfl)) (of_decide_eq_true (c.fb_ 4 (f := fun K => decide (PySem.W.kitOne K (.ref (He.ga K "InvalidNumber")) (.type "ValueError") = some true)) rfl)) (of_decide_eq_true (c.fb_ 5 (f := fun K => decide (PySem.W.kitOne K (.ref (He.ga K "InvalidNumber")) (.ref (He.ga K "NotCut")) = some false)) rfl))
  exact ok_lw (g := ⟨P, w, K, mg, base⟩) (A := He.ga K "Share") F23 b23 (BltF.of ["range", "len", "int"] (List.forall_mem_cons.mpr ⟨He.free_ok X G (c.d.fact 15 (f := .free "range") rfl), (List.forall_mem_cons.mpr ⟨He.free_ok X G (c.d.fact 8 (f := .free "len") rfl), (List.forall_mem_cons.mpr ⟨He.free_ok X G (c.d.fact 6 (f := .free "int") rfl), (fun _ hf => nomatch hf)⟩)⟩)⟩)) (ownB_ok (He.cls_ok (c.d.fact 1 (f := .cls "Share") rfl)) (c.fb_ 1 (f := fun K => ownB K (He.ga K "Share")) rfl)) G4 (He.glo_ok X G (c.d.fact 34 (f := .glo "_law_tape") rfl)) G5 (He.glo_ok X G (c.d.fact 10 (f := .glo "_law_draw") rfl)) G6 (He.glo_ok X G (c.d.fact 29 (f := .glo "_law_pick") rfl)) G21 (He.glo_ok X G (c.d.fact 35 (f := .glo "_law_pair") rfl)) G13 (He.glo_ok X G (c.d.fact 16 (f := .glo "_law_share") rfl)) G2 (He.mkr_ok (c.d.fact 11 (f := .mkr "Share") rfl)) (He.glo_ok X G (c.d.fact 12 (f := .glo "Share") rfl)) G18 (He.glo_ok X G (c.d.fact 21 (f := .glo "_law_one_right") rfl)) G19 (He.glo_ok X G (c.d.fact 36 (f := .glo "_law_two_right") rfl)) G14 (He.glo_ok X G (c.d.fact 22 (f := .glo "_law_added") rfl)) G15 (He.glo_ok X G (c.d.fact 23 (f := .glo "_law_times") rfl)) G7 (He.meth_ok (c.d.fact 24 (f := .meth "Share" "__add__") rfl)) G9 (He.meth_ok (c.d.fact 26 (f := .meth "Share" "__mul__") rfl)) G10 (He.meth_ok (c.d.fact 27 (f := .meth "Share" "__eq__") rfl)) G22 (He.glo_ok X G (c.d.fact 37 (f := .glo "_law_refused") rfl))
end DL
open PySem PySem.W PySem.Calls PyProof.Rows
theorem PySem.Challenge.cw_rankedjoins_k44_shares_holds : PySem.Challenge.rw_rankedjoins_k44_shares.Holds := by
  w_on; o_law
  refine HandSHeadRun.head_any (r := OpenLaw.row PySem.Challenge.rw_rankedjoins_k44_shares) (q := view (OpenLaw.row PySem.Challenge.rw_rankedjoins_k44_shares).prog [22]) (H := DL.hk) (ob := DL.ob) (M := 8000) (loose := DL.loose) (d := HandSHeadRun.topDef (OpenLaw.row PySem.Challenge.rw_rankedjoins_k44_shares).prog 22) (kwd := []) DL.ob_eq
    (by kernel_rfl) (fun s => by kernel_rfl) DL.run (by kernel_rfl) (by kernel_rfl) (by kernel_rfl) (by rfl) (by first | assumption | decide +kernel) (by decide +kernel) ⟨rfl, rfl, rfl, rfl, rfl, by decide +kernel⟩ ?hw ?hc
  case hw => w_witness2
  case hc =>
    refine L2.walk_ofE (l := PySem.Challenge.rw_rankedjoins_k44_shares) (n := 63) (k := 8) (x := "_law_script") (CX := DL.CXall (PySem.Challenge.rw_rankedjoins_k44_shares).prog) rfl (by decide) (by kernel_rfl) ⟨rfl, by decide, by decide⟩ ?F (fun _ _ _ _ z => DL.noX z)
    intro w mg fa h Y G hmg0
    obtain ⟨K, KX, c⟩ := Y
    have hmg : mg ("law" : PySem.Str) = some (.ref fa) := by
      have e : (HandSHeadRun.topDef (OpenLaw.row PySem.Challenge.rw_rankedjoins_k44_shares).prog 22).name = ("law" : PySem.Str) := by kernel_rfl
      rw [← e]
      exact hmg0
    obtain ⟨fd, hb, hF⟩ := DL.facts (P := (PySem.Challenge.rw_rankedjoins_k44_shares).prog) (w := w) KX G hmg c
    exact ⟨K, fd, DL.spD K DL.spLW, KX, hb, fun H a ns hl _ hS => DL.lawSp (fun zs hz Φ ξ hΦ => DL.lwOk hz hΦ) hl hS, fun base h1 h2 => DL.fnAll (hF base h1 h2)⟩
