import PyProof.Rows.All
import Wide.All
import OpenK.AllK
import Wide.FinOn
import HandS.ForMost
import HandS.Wide
import HandS.ForSpec
import KE.OsGo
import Open.SpecLaws
import PyProof.EqAt
import PyProof.EqKinds
import PyProof.TupleCall
import HandS.Exc
import HandS.Flow
import HandS.Style
import HandS.TupMul
import HandS.TupAny
import HandS.StrMore
import HandS.ExcOwn
import HandS.CallSlots
import HandS.ExcIs
import HandS.ExcField
import KE.KExcIs
import HandS.IsInst
import HandS.More
import HandS.WordsDict
import HandS.SortInts
import HandS.SortOrd
import HandS.TupSets
import KE.KSortTup
import HandS.Walk
import HandS.Rev
import HandS.Zip
import KE.GoesEnum
import HandS.Small
import HandS.Conv
import HandS.TryMany
import HandS.WordsExc
import HandS.EndBits
import PySem.Challenge.RW_stemshelf_k59_grafts
set_option Elab.async false
set_option linter.all false
set_option maxRecDepth 100000
/-! Mp1, ahead: own exceptions with one field (turned from the guide's skeleton for them). -/
namespace PySem
namespace LowX_number
open PySem.W PySem.Calls PyProof.Rows PySem.HandSPX
/-! ### the text of __init__ -/
def iA (p1 p2 : Pos) : Arguments := { posonlyargs := [], args := [{ arg := "self", annotation := none, pos := p1 }, { arg := "number", annotation := none, pos := p2 }], vararg := none, kwonlyargs := [], kw_defaults := [], kwarg := none, defaults := [] }
def iB (q1 q2 q3 q4 : Pos) : List Stmt := [.Assign [.Attribute (.Name "self" q1) "number" q2] (.Name "number" q3) q4]
def iS : Scope := { kind := .function, names := [(PySem.Str.ofString "self", .local), (PySem.Str.ofString "number", .local)], isGenerator := false, isCoroutine := false, more := [] }
/-- what the written part says of X, at C, and of its __init__, at fI -/
structure LowTxt (cn qn : Str) (K : Frag) (mg : Str → Option Value) (C fI : Addr) : Prop where
  gC : mg cn = some (.ref C)
  cls : ∃ nm q N bs bm sn sub ab col dd k0 k1 k2 k3 k5, K.lookup C = some (excClassObj nm q C N bs bm true sn sub ab col dd k0 k1 k2 k3 k5 "ValueError.__new__") ∧ refsVE bm = true
  sa : findIn K (.ref C) "__setattr__" = some (some (.builtin "object.__setattr__"))
  ga : findIn K (.ref C) "__getattribute__" = some (some (.builtin "BaseException.__getattribute__"))
  gg : findIn K (.ref C) "__getattr__" = some none
  noN : findIn K (.ref C) "number" = some none
  iC : findIn K (.ref C) "__init__" = some (some (.ref fI))
  tC : typeIn K (.ref fI) = some (.type "function")
  kC : keepIn K (.ref C) = true
  exC : subIn K (.ref C) (.type "BaseException") = some true
  tyC : typeIn K (.ref C) = some (.type "type")
  hdC : hasDictIn K C = true
  te : exmOne K (.ref C) (.ref C) = some true
  fn : ∃ (oc : Value) (od : Option Addr) (doc pm : Value) (an : Option Addr) (cdv ct : Value) (osl : Array (Option Value)) (p1 p2 q1 q2 q3 q4 : Pos),
    K.lookup fI = some ⟨oc, od, .func (fnOf "__init__" qn (iA p1 p2) (iB q1 q2 q3 q4) iS .none .none doc pm an cdv ct), osl⟩ ∧ codeIn K cdv qn = true
theorem one_size (v : Value) : [v].length ≤ sizeLine := by
  rw [sizeLine_eq]
  exact (by decide : 1 ≤ 16777216)
theorem kept_but {K : Frag} {h h' : Heap} {x : Addr} (X : K.In h) (hx : K.lookup x = none) (k : ∀ b o, b ≠ x → h.get? b = some o → h'.get? b = some o) : K.In h' := fun a o e =>
  k a o (fun z => by rw [z, hx] at e; cases e) (X a o e)
theorem ldC {M : Model} {s : Shared} {name : Str} {scope : Scope} {L a : Addr} {cd : Value} {m : Str → Option Value} {x : Str} {pos : Pos} {v : Value} {Q : Value → Shared → Prop} {A : Around} {E : Value → Shared → Prop} (hn : s.heap.Ns L m) (hv : m x = some v) (h : Q v s)
    (hk : scope.kind = .function := by rfl) (hl : (envOfC name scope L a cd).kindOf x = some .local := by rfl) (hd : (x == ("__debug__" : Str)) = false := by decide) :
    wpAny M A (eval (.Name x pos) (envOfC name scope L a cd)) Q E s := wpAny_Name (wpAny_loadName_local hk hl hn hv h) hd
/-- what __init__ leaves of a fresh exception at x -/
structure InitEnd (h h' : Heap) (x C dx t1 : Addr) (v : Value) : Prop where
  keep : ∀ b o, b ≠ x → h.get? b = some o → h'.get? b = some o
  obj : h'.get? x = some { cls := .ref C, dict := some dx, data := .fields #[.ref t1, .none, .none, .none, .bool false, .none] }
  dbig : h.objs.size ≤ dx
  dne : dx ≠ x
  ns : h'.Ns1 dx (fun y => if y = "number" then some v else none)
/-- a made X -/
structure OwnMade (h h' : Heap) (e C d : Addr) (v : Value) : Prop where
  keep : ∀ b o, h.get? b = some o → h'.get? b = some o
  new : h.objs.size ≤ e
  obj : ∃ oe vs, h'.get? e = some oe ∧ oe.cls = .ref C ∧ oe.dict = some d ∧ oe.data = .fields vs ∧ vs[1]? = some .none
  dbig : h.objs.size ≤ d
  dne : d ≠ e
  ns : h'.Ns1 d (fun y => if y = "number" then some v else none)
section
variable {prog : Program} {w : World} {A : Around} {E : Value → Shared → Prop} {R : Result → Shared → Prop} {s : Shared} {K : Frag} {mg : Str → Option Value} {C fI : Addr} {cn qn : Str}
theorem low_init (T : LowTxt cn qn K mg C fI) {x t0 : Addr} {v : Value} (X : K.In s.heap) (hlim : s.heap.NoLimit) (hx : s.heap.get? x = some (excO C t0)) (hnx : K.lookup x = none) (hroom : A.depth < recursionLimit)
    (hq : ∀ h' tk dx, InitEnd s.heap h' x C dx t0 v → R (.ok (.ret .none)) { s with heap := h', toks := tk }) :
    codeAny (model prog w) A (.call (.ref fI) ⟨[.ref x, v], []⟩) R s := by
  obtain ⟨oc, od, doc, pm, an, cdv, ct, osl, p1, p2, q1, q2, q3, q4, ho, hcd⟩ := T.fn
  obtain ⟨nm, q, N, bs, bm, sn, sub, ab, col, dd, k0, k1, k2, k3, k5, hC, hbm⟩ := T.cls
  have hcl : clsIn K C = some { name := nm, bases := bs, mro := .ref C :: bm, ns := N, qualname := q, hasDict := true, slotNames := sn, subclasses := sub, abstract := ab, collection := col, hasDel := false } := by unfold clsIn; rw [hC] <;> rfl
  refine Att.call_fn (binds := [("self", .ref x), ("number", v)]) X hlim ho hcd hroom (BindsTo.of_eq (by first | rfl | with_unfolding_all rfl)) (by first | rfl | decide | with_unfolding_all rfl) (fun s₁ IC => ?_) rfl rfl rfl
  obtain ⟨h₁, tk₁, rfl⟩ := IC.toInCall.same
  have k : ∀ b o, s.heap.get? b = some o → h₁.get? b = some o := IC.toInCall.keep
  have hn := IC.toInCall.ns
  have hxL : s.heap.objs.size ≠ x := Nat.ne_of_gt (Heap.lt_size hx)
  have X₁ : K.In h₁ := X.keeps k
  have hx₁ := k _ _ hx
  -- self.by = by
  show wpAny _ _ (execs _ _) _ _ _
  refine wpAny_execs_cons (plainObj_wpAny_Assign_Attribute ?_)
  refine ldC (v := v) hn (by first | rfl | with_unfolding_all rfl | kernel_rfl) (ldC (v := .ref x) hn (by first | rfl | with_unfolding_all rfl | kernel_rfl) ?_)
  refine set_plain X₁ (ox := excO C t0) (od := none) ⟨hx₁, rfl, rfl, trivial⟩ T.sa ?_
  refine exc_osa X₁ hx₁ hcl (show refsVE (.ref C :: bm) = true from hbm) rfl T.noN (fun h₃ tk₃ dx k₃ dn dne hx₃ hn₃ => ?_)
  show wpAny _ _ (execs _ _) _ _ _
  have z : s.heap.objs.size < h₁.objs.size := hn.lt
  exact wpAny_execs_nil (hq h₃ tk₃ dx ⟨fun b o hb e => k₃ b o hb (k b o e), hx₃, Nat.le_of_lt (Nat.lt_of_lt_of_le z dn), dne, hn₃⟩)
theorem low_made (T : LowTxt cn qn K mg C fI) {v : Value} (X : K.In s.heap) (hlim : s.heap.NoLimit) (hroom : A.depth + 1 < recursionLimit)
    (hq : ∀ h' tk e d, OwnMade s.heap h' e C d v → R (.ok (.ret (.ref e))) { s with heap := h', toks := tk }) :
    codeAny (model prog w) A (.call (.ref C) ⟨[v], []⟩) R s := by
  obtain ⟨nm, q, N, bs, bm, sn, sub, ab, col, dd, k0, k1, k2, k3, k5, hC, hbm⟩ := T.cls
  obtain ⟨hp, g, dr, tk, os⟩ := s
  have k : ∀ b o, hp.get? b = some o → ((hp.push (kdv_tup [v])).push (excO C hp.objs.size)).get? b = some o := fun b o e => Heap.get?_push_of_some _ (Heap.get?_push_of_some _ e)
  have hget : ((hp.push (kdv_tup [v])).push (excO C hp.objs.size)).get? (hp.objs.size + 1) = some (excO C hp.objs.size) := by heap_get
  have hnx : K.lookup (hp.objs.size + 1) = none := by
    cases e : K.lookup (hp.objs.size + 1) with
    | none => rfl
    | some o =>
      have z : hp.get? (hp.objs.size + 1) = some o := X _ _ e
      exact absurd (Nat.lt_of_succ_lt (Heap.lt_size z)) (Nat.lt_irrefl _)
  refine call_own F.excBase_ValueError (fun X => refsVE_contains X bm hbm) (X _ _ hC) (looks_findIn X T.iC) (fun self => bind_fn X self T.tC) (one_size v) ?_
  refine low_init (s := ⟨(hp.push (kdv_tup [v])).push (excO C hp.objs.size), g, dr, tk, os⟩) T (X.keeps k) (hlim.keeps k) hget hnx ?_ fun h' tk' dx ⟨k', hx, dn, dne, hns⟩ => ?_
  · show A.depth + 1 < recursionLimit
    exact hroom
  · have old : ∀ b o, hp.get? b = some o → h'.get? b = some o := fun b o e => k' b o (Nat.ne_of_lt (Nat.lt_succ_of_lt (Heap.lt_size e))) (k b o e)
    have z : hp.objs.size + 1 + 1 ≤ dx := by
      first
        | (simpa only [Heap.size_push] using dn)
        | exact dn
        | (have q := dn; rw [Heap.size_push, Heap.size_push] at q; exact q)
    exact ⟨rfl, hq h' tk' (hp.objs.size + 1) dx ⟨old, Nat.le_succ _, ⟨_, _, hx, rfl, rfl, rfl, rfl⟩, Nat.le_trans (Nat.le_trans (Nat.le_succ _) (Nat.le_succ _)) z, dne, hns⟩⟩
end
end LowX_number
end PySem
namespace L2
open PySem PySem.Spec PyProof.Rows
theorem relO_number {v : V} {v' : Value} (r : RelV v v') (f : Str) : RelO (List.lookup f [(("number" : Str), v)]) (if f = "number" then some v' else none) := by
  by_cases hw : f = "number"
  · subst hw
    rw [if_pos rfl]
    have q : List.lookup ("number" : Str) [(("number" : Str), v)] = some v := by simp [List.lookup]
    rw [q]
    exact r
  · rw [if_neg hw]
    have qw : (f == ("number" : Str)) = false := by simpa using hw
    have q2 : List.lookup f [(("number" : Str), v)] = none := by simp [List.lookup, qw]
    rw [q2]
    trivial
section
variable {X : Cx} {C fI : Addr} {cn qn : Str}
/-- X(e) -/
def tMk_number (C : Addr) (ta : TA) : St → Hp → XK → Prop := fun σ H Q => ta σ H fun vs H1 => ∃ v, vs = [v] ∧ ∀ d, H1 d = none → Q (.ref C) (some d) (upd H1 d (.xd [(("number" : Str), v)]))
theorem pmk_number {a : Expr} {ta : TA} {p pos : Pos} {k : Nat} (T : PySem.LowX_number.LowTxt cn qn X.K X.mg C fI) (hr : Room k X.A) (ha : PA X [a] ta) (hg : Gl X cn) (hdb : (cn == ("__debug__" : Str)) = false)
    (he : starEach (a :: []) X.env = (false, eval a X.env) :: starEach [] X.env := by rfl) (hpl : (backTo pos (starEach [] X.env)).any (·.1) = false := by rfl) :
    PMk X (.Call (.Name cn p) [a] [] pos) (tMk_number C ta) := by
  intro pins s σ H Q I h
  refine wpAny_Call_Name_kw (ld_glob I hg T.gC ?_ hdb)
  refine PySem.W.callWith_K (h₀ := X.base) I.ok.mod.kin T.kC (thn (ha.run pos pins s σ H _ I h) fun us s1 hh => ?_) he hpl
  obtain ⟨vs, H1, I1, r1, v, ev, q1⟩ := hh
  subst ev
  refine ⟨I1.kIn, ?_⟩
  cases r1 with
  | cons rv rn =>
    rename_i v' us'
    cases rn
    show wpAny _ _ (call (.ref C) [v']) _ _ _
    have hlim := I1.nolimit
    obtain ⟨hp, g, dr, tk, os⟩ := s1
    refine wpAny_call (PySem.LowX_number.low_made T I1.kIn hlim (by have := hr.dp; omega) fun h' tk' e d M => ?_)
    show MkP X pins σ Q (.ref e) ⟨h', g, dr, tk', os⟩
    obtain ⟨oe, fv, hoe, hc, hd, hdat, h1⟩ := M.obj
    have hns := M.ns
    obtain ⟨G', g1, g2⟩ := restrict h' fun b => decide (b ≠ e)
    have gk : ∀ b, b ≠ e → G'.get? b = h'.get? b := fun b hb => g1 b (decide_eq_true hb)
    have ge : G'.get? e = none := g2 e (by simp)
    have old : ∀ b o, hp.get? b = some o → G'.get? b = some o := fun b o q => (gk b (Nat.ne_of_lt (Nat.lt_of_lt_of_le (Heap.lt_size q) M.new))).trans (M.keep b o q)
    have ob : ObjOk X.prog X.w (upd H1 d (.xd [(("number" : Str), v)])) G' d (.xd [(("number" : Str), v)]) :=
      ⟨_, hns.at (fun o q => (gk d M.dne).trans q), fun f => relO_number rv f⟩
    have J : Inv X pins σ (upd H1 d (.xd [(("number" : Str), v)])) ⟨G', g, dr, tk', os⟩ := I1.laid (t' := tk') old M.dbig ob
    refine ⟨e, oe, fv, ⟨G', g, dr, tk', os⟩, _, .ref C, some d, rfl, J, fun b o q => ?_, ge, hoe, ⟨hc, hd⟩, hdat, h1, ?_, rfl, I1.bare, raises_own T.exC T.tyC, q1 d (I1.hok.fresh M.dbig)⟩
    · by_cases hb : b = e
      · have q' : G'.get? b = some o := q
        rw [hb, ge] at q'; cases q'
      · exact (gk b hb).symm.trans q
    · rw [upd_ne (Ne.symm M.dne)]
      exact I1.hok.fresh M.new
end
end L2
namespace PySem
namespace LowX_name
open PySem.W PySem.Calls PyProof.Rows PySem.HandSPX
/-! ### the text of __init__ -/
def iA (p1 p2 : Pos) : Arguments := { posonlyargs := [], args := [{ arg := "self", annotation := none, pos := p1 }, { arg := "name", annotation := none, pos := p2 }], vararg := none, kwonlyargs := [], kw_defaults := [], kwarg := none, defaults := [] }
def iB (q1 q2 q3 q4 : Pos) : List Stmt := [.Assign [.Attribute (.Name "self" q1) "name" q2] (.Name "name" q3) q4]
def iS : Scope := { kind := .function, names := [(PySem.Str.ofString "self", .local), (PySem.Str.ofString "name", .local)], isGenerator := false, isCoroutine := false, more := [] }
/-- what the written part says of X, at C, and of its __init__, at fI -/
structure LowTxt (cn qn : Str) (K : Frag) (mg : Str → Option Value) (C fI : Addr) : Prop where
  gC : mg cn = some (.ref C)
  cls : ∃ nm q N bs bm sn sub ab col dd k0 k1 k2 k3 k5, K.lookup C = some (excClassObj nm q C N bs bm true sn sub ab col dd k0 k1 k2 k3 k5 "ValueError.__new__") ∧ refsVE bm = true
  sa : findIn K (.ref C) "__setattr__" = some (some (.builtin "object.__setattr__"))
  ga : findIn K (.ref C) "__getattribute__" = some (some (.builtin "BaseException.__getattribute__"))
  gg : findIn K (.ref C) "__getattr__" = some none
  noN : findIn K (.ref C) "name" = some none
  iC : findIn K (.ref C) "__init__" = some (some (.ref fI))
  tC : typeIn K (.ref fI) = some (.type "function")
  kC : keepIn K (.ref C) = true
  exC : subIn K (.ref C) (.type "BaseException") = some true
  tyC : typeIn K (.ref C) = some (.type "type")
  hdC : hasDictIn K C = true
  te : exmOne K (.ref C) (.ref C) = some true
  fn : ∃ (oc : Value) (od : Option Addr) (doc pm : Value) (an : Option Addr) (cdv ct : Value) (osl : Array (Option Value)) (p1 p2 q1 q2 q3 q4 : Pos),
    K.lookup fI = some ⟨oc, od, .func (fnOf "__init__" qn (iA p1 p2) (iB q1 q2 q3 q4) iS .none .none doc pm an cdv ct), osl⟩ ∧ codeIn K cdv qn = true
theorem one_size (v : Value) : [v].length ≤ sizeLine := by
  rw [sizeLine_eq]
  exact (by decide : 1 ≤ 16777216)
theorem kept_but {K : Frag} {h h' : Heap} {x : Addr} (X : K.In h) (hx : K.lookup x = none) (k : ∀ b o, b ≠ x → h.get? b = some o → h'.get? b = some o) : K.In h' := fun a o e =>
  k a o (fun z => by rw [z, hx] at e; cases e) (X a o e)
theorem ldC {M : Model} {s : Shared} {name : Str} {scope : Scope} {L a : Addr} {cd : Value} {m : Str → Option Value} {x : Str} {pos : Pos} {v : Value} {Q : Value → Shared → Prop} {A : Around} {E : Value → Shared → Prop} (hn : s.heap.Ns L m) (hv : m x = some v) (h : Q v s)
    (hk : scope.kind = .function := by rfl) (hl : (envOfC name scope L a cd).kindOf x = some .local := by rfl) (hd : (x == ("__debug__" : Str)) = false := by decide) :
    wpAny M A (eval (.Name x pos) (envOfC name scope L a cd)) Q E s := wpAny_Name (wpAny_loadName_local hk hl hn hv h) hd
/-- what __init__ leaves of a fresh exception at x -/
structure InitEnd (h h' : Heap) (x C dx t1 : Addr) (v : Value) : Prop where
  keep : ∀ b o, b ≠ x → h.get? b = some o → h'.get? b = some o
  obj : h'.get? x = some { cls := .ref C, dict := some dx, data := .fields #[.ref t1, .none, .none, .none, .bool false, .none] }
  dbig : h.objs.size ≤ dx
  dne : dx ≠ x
  ns : h'.Ns1 dx (fun y => if y = "name" then some v else none)
/-- a made X -/
structure OwnMade (h h' : Heap) (e C d : Addr) (v : Value) : Prop where
  keep : ∀ b o, h.get? b = some o → h'.get? b = some o
  new : h.objs.size ≤ e
  obj : ∃ oe vs, h'.get? e = some oe ∧ oe.cls = .ref C ∧ oe.dict = some d ∧ oe.data = .fields vs ∧ vs[1]? = some .none
  dbig : h.objs.size ≤ d
  dne : d ≠ e
  ns : h'.Ns1 d (fun y => if y = "name" then some v else none)
section
variable {prog : Program} {w : World} {A : Around} {E : Value → Shared → Prop} {R : Result → Shared → Prop} {s : Shared} {K : Frag} {mg : Str → Option Value} {C fI : Addr} {cn qn : Str}
theorem low_init (T : LowTxt cn qn K mg C fI) {x t0 : Addr} {v : Value} (X : K.In s.heap) (hlim : s.heap.NoLimit) (hx : s.heap.get? x = some (excO C t0)) (hnx : K.lookup x = none) (hroom : A.depth < recursionLimit)
    (hq : ∀ h' tk dx, InitEnd s.heap h' x C dx t0 v → R (.ok (.ret .none)) { s with heap := h', toks := tk }) :
    codeAny (model prog w) A (.call (.ref fI) ⟨[.ref x, v], []⟩) R s := by
  obtain ⟨oc, od, doc, pm, an, cdv, ct, osl, p1, p2, q1, q2, q3, q4, ho, hcd⟩ := T.fn
  obtain ⟨nm, q, N, bs, bm, sn, sub, ab, col, dd, k0, k1, k2, k3, k5, hC, hbm⟩ := T.cls
  have hcl : clsIn K C = some { name := nm, bases := bs, mro := .ref C :: bm, ns := N, qualname := q, hasDict := true, slotNames := sn, subclasses := sub, abstract := ab, collection := col, hasDel := false } := by unfold clsIn; rw [hC] <;> rfl
  refine Att.call_fn (binds := [("self", .ref x), ("name", v)]) X hlim ho hcd hroom (BindsTo.of_eq (by first | rfl | with_unfolding_all rfl)) (by first | rfl | decide | with_unfolding_all rfl) (fun s₁ IC => ?_) rfl rfl rfl
  obtain ⟨h₁, tk₁, rfl⟩ := IC.toInCall.same
  have k : ∀ b o, s.heap.get? b = some o → h₁.get? b = some o := IC.toInCall.keep
  have hn := IC.toInCall.ns
  have hxL : s.heap.objs.size ≠ x := Nat.ne_of_gt (Heap.lt_size hx)
  have X₁ : K.In h₁ := X.keeps k
  have hx₁ := k _ _ hx
  -- self.by = by
  show wpAny _ _ (execs _ _) _ _ _
  refine wpAny_execs_cons (plainObj_wpAny_Assign_Attribute ?_)
  refine ldC (v := v) hn (by first | rfl | with_unfolding_all rfl | kernel_rfl) (ldC (v := .ref x) hn (by first | rfl | with_unfolding_all rfl | kernel_rfl) ?_)
  refine set_plain X₁ (ox := excO C t0) (od := none) ⟨hx₁, rfl, rfl, trivial⟩ T.sa ?_
  refine exc_osa X₁ hx₁ hcl (show refsVE (.ref C :: bm) = true from hbm) rfl T.noN (fun h₃ tk₃ dx k₃ dn dne hx₃ hn₃ => ?_)
  show wpAny _ _ (execs _ _) _ _ _
  have z : s.heap.objs.size < h₁.objs.size := hn.lt
  exact wpAny_execs_nil (hq h₃ tk₃ dx ⟨fun b o hb e => k₃ b o hb (k b o e), hx₃, Nat.le_of_lt (Nat.lt_of_lt_of_le z dn), dne, hn₃⟩)
theorem low_made (T : LowTxt cn qn K mg C fI) {v : Value} (X : K.In s.heap) (hlim : s.heap.NoLimit) (hroom : A.depth + 1 < recursionLimit)
    (hq : ∀ h' tk e d, OwnMade s.heap h' e C d v → R (.ok (.ret (.ref e))) { s with heap := h', toks := tk }) :
    codeAny (model prog w) A (.call (.ref C) ⟨[v], []⟩) R s := by
  obtain ⟨nm, q, N, bs, bm, sn, sub, ab, col, dd, k0, k1, k2, k3, k5, hC, hbm⟩ := T.cls
  obtain ⟨hp, g, dr, tk, os⟩ := s
  have k : ∀ b o, hp.get? b = some o → ((hp.push (kdv_tup [v])).push (excO C hp.objs.size)).get? b = some o := fun b o e => Heap.get?_push_of_some _ (Heap.get?_push_of_some _ e)
  have hget : ((hp.push (kdv_tup [v])).push (excO C hp.objs.size)).get? (hp.objs.size + 1) = some (excO C hp.objs.size) := by heap_get
  have hnx : K.lookup (hp.objs.size + 1) = none := by
    cases e : K.lookup (hp.objs.size + 1) with
    | none => rfl
    | some o =>
      have z : hp.get? (hp.objs.size + 1) = some o := X _ _ e
      exact absurd (Nat.lt_of_succ_lt (Heap.lt_size z)) (Nat.lt_irrefl _)
  refine call_own F.excBase_ValueError (fun X => refsVE_contains X bm hbm) (X _ _ hC) (looks_findIn X T.iC) (fun self => bind_fn X self T.tC) (one_size v) ?_
  refine low_init (s := ⟨(hp.push (kdv_tup [v])).push (excO C hp.objs.size), g, dr, tk, os⟩) T (X.keeps k) (hlim.keeps k) hget hnx ?_ fun h' tk' dx ⟨k', hx, dn, dne, hns⟩ => ?_
  · show A.depth + 1 < recursionLimit
    exact hroom
  · have old : ∀ b o, hp.get? b = some o → h'.get? b = some o := fun b o e => k' b o (Nat.ne_of_lt (Nat.lt_succ_of_lt (Heap.lt_size e))) (k b o e)
    have z : hp.objs.size + 1 + 1 ≤ dx := by
      first
        | (simpa only [Heap.size_push] using dn)
        | exact dn
        | (have q := dn; rw [Heap.size_push, Heap.size_push] at q; exact q)
    exact ⟨rfl, hq h' tk' (hp.objs.size + 1) dx ⟨old, Nat.le_succ _, ⟨_, _, hx, rfl, rfl, rfl, rfl⟩, Nat.le_trans (Nat.le_trans (Nat.le_succ _) (Nat.le_succ _)) z, dne, hns⟩⟩
end
end LowX_name
end PySem
namespace L2
open PySem PySem.Spec PyProof.Rows
theorem relO_name {v : V} {v' : Value} (r : RelV v v') (f : Str) : RelO (List.lookup f [(("name" : Str), v)]) (if f = "name" then some v' else none) := by
  by_cases hw : f = "name"
  · subst hw
    rw [if_pos rfl]
    have q : List.lookup ("name" : Str) [(("name" : Str), v)] = some v := by simp [List.lookup]
    rw [q]
    exact r
  · rw [if_neg hw]
    have qw : (f == ("name" : Str)) = false := by simpa using hw
    have q2 : List.lookup f [(("name" : Str), v)] = none := by simp [List.lookup, qw]
    rw [q2]
    trivial
section
variable {X : Cx} {C fI : Addr} {cn qn : Str}
/-- X(e) -/
def tMk_name (C : Addr) (ta : TA) : St → Hp → XK → Prop := fun σ H Q => ta σ H fun vs H1 => ∃ v, vs = [v] ∧ ∀ d, H1 d = none → Q (.ref C) (some d) (upd H1 d (.xd [(("name" : Str), v)]))
theorem pmk_name {a : Expr} {ta : TA} {p pos : Pos} {k : Nat} (T : PySem.LowX_name.LowTxt cn qn X.K X.mg C fI) (hr : Room k X.A) (ha : PA X [a] ta) (hg : Gl X cn) (hdb : (cn == ("__debug__" : Str)) = false)
    (he : starEach (a :: []) X.env = (false, eval a X.env) :: starEach [] X.env := by rfl) (hpl : (backTo pos (starEach [] X.env)).any (·.1) = false := by rfl) :
    PMk X (.Call (.Name cn p) [a] [] pos) (tMk_name C ta) := by
  intro pins s σ H Q I h
  refine wpAny_Call_Name_kw (ld_glob I hg T.gC ?_ hdb)
  refine PySem.W.callWith_K (h₀ := X.base) I.ok.mod.kin T.kC (thn (ha.run pos pins s σ H _ I h) fun us s1 hh => ?_) he hpl
  obtain ⟨vs, H1, I1, r1, v, ev, q1⟩ := hh
  subst ev
  refine ⟨I1.kIn, ?_⟩
  cases r1 with
  | cons rv rn =>
    rename_i v' us'
    cases rn
    show wpAny _ _ (call (.ref C) [v']) _ _ _
    have hlim := I1.nolimit
    obtain ⟨hp, g, dr, tk, os⟩ := s1
    refine wpAny_call (PySem.LowX_name.low_made T I1.kIn hlim (by have := hr.dp; omega) fun h' tk' e d M => ?_)
    show MkP X pins σ Q (.ref e) ⟨h', g, dr, tk', os⟩
    obtain ⟨oe, fv, hoe, hc, hd, hdat, h1⟩ := M.obj
    have hns := M.ns
    obtain ⟨G', g1, g2⟩ := restrict h' fun b => decide (b ≠ e)
    have gk : ∀ b, b ≠ e → G'.get? b = h'.get? b := fun b hb => g1 b (decide_eq_true hb)
    have ge : G'.get? e = none := g2 e (by simp)
    have old : ∀ b o, hp.get? b = some o → G'.get? b = some o := fun b o q => (gk b (Nat.ne_of_lt (Nat.lt_of_lt_of_le (Heap.lt_size q) M.new))).trans (M.keep b o q)
    have ob : ObjOk X.prog X.w (upd H1 d (.xd [(("name" : Str), v)])) G' d (.xd [(("name" : Str), v)]) :=
      ⟨_, hns.at (fun o q => (gk d M.dne).trans q), fun f => relO_name rv f⟩
    have J : Inv X pins σ (upd H1 d (.xd [(("name" : Str), v)])) ⟨G', g, dr, tk', os⟩ := I1.laid (t' := tk') old M.dbig ob
    refine ⟨e, oe, fv, ⟨G', g, dr, tk', os⟩, _, .ref C, some d, rfl, J, fun b o q => ?_, ge, hoe, ⟨hc, hd⟩, hdat, h1, ?_, rfl, I1.bare, raises_own T.exC T.tyC, q1 d (I1.hok.fresh M.dbig)⟩
    · by_cases hb : b = e
      · have q' : G'.get? b = some o := q
        rw [hb, ge] at q'; cases q'
      · exact (gk b hb).symm.trans q
    · rw [upd_ne (Ne.symm M.dne)]
      exact I1.hok.fresh M.new
end
end L2
namespace PySem
namespace LowX_path
open PySem.W PySem.Calls PyProof.Rows PySem.HandSPX
/-! ### the text of __init__ -/
def iA (p1 p2 : Pos) : Arguments := { posonlyargs := [], args := [{ arg := "self", annotation := none, pos := p1 }, { arg := "path", annotation := none, pos := p2 }], vararg := none, kwonlyargs := [], kw_defaults := [], kwarg := none, defaults := [] }
def iB (q1 q2 q3 q4 : Pos) : List Stmt := [.Assign [.Attribute (.Name "self" q1) "path" q2] (.Name "path" q3) q4]
def iS : Scope := { kind := .function, names := [(PySem.Str.ofString "self", .local), (PySem.Str.ofString "path", .local)], isGenerator := false, isCoroutine := false, more := [] }
/-- what the written part says of X, at C, and of its __init__, at fI -/
structure LowTxt (cn qn : Str) (K : Frag) (mg : Str → Option Value) (C fI : Addr) : Prop where
  gC : mg cn = some (.ref C)
  cls : ∃ nm q N bs bm sn sub ab col dd k0 k1 k2 k3 k5, K.lookup C = some (excClassObj nm q C N bs bm true sn sub ab col dd k0 k1 k2 k3 k5 "ValueError.__new__") ∧ refsVE bm = true
  sa : findIn K (.ref C) "__setattr__" = some (some (.builtin "object.__setattr__"))
  ga : findIn K (.ref C) "__getattribute__" = some (some (.builtin "BaseException.__getattribute__"))
  gg : findIn K (.ref C) "__getattr__" = some none
  noN : findIn K (.ref C) "path" = some none
  iC : findIn K (.ref C) "__init__" = some (some (.ref fI))
  tC : typeIn K (.ref fI) = some (.type "function")
  kC : keepIn K (.ref C) = true
  exC : subIn K (.ref C) (.type "BaseException") = some true
  tyC : typeIn K (.ref C) = some (.type "type")
  hdC : hasDictIn K C = true
  te : exmOne K (.ref C) (.ref C) = some true
  fn : ∃ (oc : Value) (od : Option Addr) (doc pm : Value) (an : Option Addr) (cdv ct : Value) (osl : Array (Option Value)) (p1 p2 q1 q2 q3 q4 : Pos),
    K.lookup fI = some ⟨oc, od, .func (fnOf "__init__" qn (iA p1 p2) (iB q1 q2 q3 q4) iS .none .none doc pm an cdv ct), osl⟩ ∧ codeIn K cdv qn = true
theorem one_size (v : Value) : [v].length ≤ sizeLine := by
  rw [sizeLine_eq]
  exact (by decide : 1 ≤ 16777216)
theorem kept_but {K : Frag} {h h' : Heap} {x : Addr} (X : K.In h) (hx : K.lookup x = none) (k : ∀ b o, b ≠ x → h.get? b = some o → h'.get? b = some o) : K.In h' := fun a o e =>
  k a o (fun z => by rw [z, hx] at e; cases e) (X a o e)
theorem ldC {M : Model} {s : Shared} {name : Str} {scope : Scope} {L a : Addr} {cd : Value} {m : Str → Option Value} {x : Str} {pos : Pos} {v : Value} {Q : Value → Shared → Prop} {A : Around} {E : Value → Shared → Prop} (hn : s.heap.Ns L m) (hv : m x = some v) (h : Q v s)
    (hk : scope.kind = .function := by rfl) (hl : (envOfC name scope L a cd).kindOf x = some .local := by rfl) (hd : (x == ("__debug__" : Str)) = false := by decide) :
    wpAny M A (eval (.Name x pos) (envOfC name scope L a cd)) Q E s := wpAny_Name (wpAny_loadName_local hk hl hn hv h) hd
/-- what __init__ leaves of a fresh exception at x -/
structure InitEnd (h h' : Heap) (x C dx t1 : Addr) (v : Value) : Prop where
  keep : ∀ b o, b ≠ x → h.get? b = some o → h'.get? b = some o
  obj : h'.get? x = some { cls := .ref C, dict := some dx, data := .fields #[.ref t1, .none, .none, .none, .bool false, .none] }
  dbig : h.objs.size ≤ dx
  dne : dx ≠ x
  ns : h'.Ns1 dx (fun y => if y = "path" then some v else none)
/-- a made X -/
structure OwnMade (h h' : Heap) (e C d : Addr) (v : Value) : Prop where
  keep : ∀ b o, h.get? b = some o → h'.get? b = some o
  new : h.objs.size ≤ e
  obj : ∃ oe vs, h'.get? e = some oe ∧ oe.cls = .ref C ∧ oe.dict = some d ∧ oe.data = .fields vs ∧ vs[1]? = some .none
  dbig : h.objs.size ≤ d
  dne : d ≠ e
  ns : h'.Ns1 d (fun y => if y = "path" then some v else none)
section
variable {prog : Program} {w : World} {A : Around} {E : Value → Shared → Prop} {R : Result → Shared → Prop} {s : Shared} {K : Frag} {mg : Str → Option Value} {C fI : Addr} {cn qn : Str}
theorem low_init (T : LowTxt cn qn K mg C fI) {x t0 : Addr} {v : Value} (X : K.In s.heap) (hlim : s.heap.NoLimit) (hx : s.heap.get? x = some (excO C t0)) (hnx : K.lookup x = none) (hroom : A.depth < recursionLimit)
    (hq : ∀ h' tk dx, InitEnd s.heap h' x C dx t0 v → R (.ok (.ret .none)) { s with heap := h', toks := tk }) :
    codeAny (model prog w) A (.call (.ref fI) ⟨[.ref x, v], []⟩) R s := by
  obtain ⟨oc, od, doc, pm, an, cdv, ct, osl, p1, p2, q1, q2, q3, q4, ho, hcd⟩ := T.fn
  obtain ⟨nm, q, N, bs, bm, sn, sub, ab, col, dd, k0, k1, k2, k3, k5, hC, hbm⟩ := T.cls
  have hcl : clsIn K C = some { name := nm, bases := bs, mro := .ref C :: bm, ns := N, qualname := q, hasDict := true, slotNames := sn, subclasses := sub, abstract := ab, collection := col, hasDel := false } := by unfold clsIn; rw [hC] <;> rfl
  refine Att.call_fn (binds := [("self", .ref x), ("path", v)]) X hlim ho hcd hroom (BindsTo.of_eq (by first | rfl | with_unfolding_all rfl)) (by first | rfl | decide | with_unfolding_all rfl) (fun s₁ IC => ?_) rfl rfl rfl
  obtain ⟨h₁, tk₁, rfl⟩ := IC.toInCall.same
  have k : ∀ b o, s.heap.get? b = some o → h₁.get? b = some o := IC.toInCall.keep
  have hn := IC.toInCall.ns
  have hxL : s.heap.objs.size ≠ x := Nat.ne_of_gt (Heap.lt_size hx)
  have X₁ : K.In h₁ := X.keeps k
  have hx₁ := k _ _ hx
  -- self.by = by
  show wpAny _ _ (execs _ _) _ _ _
  refine wpAny_execs_cons (plainObj_wpAny_Assign_Attribute ?_)
  refine ldC (v := v) hn (by first | rfl | with_unfolding_all rfl | kernel_rfl) (ldC (v := .ref x) hn (by first | rfl | with_unfolding_all rfl | kernel_rfl) ?_)
  refine set_plain X₁ (ox := excO C t0) (od := none) ⟨hx₁, rfl, rfl, trivial⟩ T.sa ?_
  refine exc_osa X₁ hx₁ hcl (show refsVE (.ref C :: bm) = true from hbm) rfl T.noN (fun h₃ tk₃ dx k₃ dn dne hx₃ hn₃ => ?_)
  show wpAny _ _ (execs _ _) _ _ _
  have z : s.heap.objs.size < h₁.objs.size := hn.lt
  exact wpAny_execs_nil (hq h₃ tk₃ dx ⟨fun b o hb e => k₃ b o hb (k b o e), hx₃, Nat.le_of_lt (Nat.lt_of_lt_of_le z dn), dne, hn₃⟩)
theorem low_made (T : LowTxt cn qn K mg C fI) {v : Value} (X : K.In s.heap) (hlim : s.heap.NoLimit) (hroom : A.depth + 1 < recursionLimit)
    (hq : ∀ h' tk e d, OwnMade s.heap h' e C d v → R (.ok (.ret (.ref e))) { s with heap := h', toks := tk }) :
    codeAny (model prog w) A (.call (.ref C) ⟨[v], []⟩) R s := by
  obtain ⟨nm, q, N, bs, bm, sn, sub, ab, col, dd, k0, k1, k2, k3, k5, hC, hbm⟩ := T.cls
  obtain ⟨hp, g, dr, tk, os⟩ := s
  have k : ∀ b o, hp.get? b = some o → ((hp.push (kdv_tup [v])).push (excO C hp.objs.size)).get? b = some o := fun b o e => Heap.get?_push_of_some _ (Heap.get?_push_of_some _ e)
  have hget : ((hp.push (kdv_tup [v])).push (excO C hp.objs.size)).get? (hp.objs.size + 1) = some (excO C hp.objs.size) := by heap_get
  have hnx : K.lookup (hp.objs.size + 1) = none := by
    cases e : K.lookup (hp.objs.size + 1) with
    | none => rfl
    | some o =>
      have z : hp.get? (hp.objs.size + 1) = some o := X _ _ e
      exact absurd (Nat.lt_of_succ_lt (Heap.lt_size z)) (Nat.lt_irrefl _)
  refine call_own F.excBase_ValueError (fun X => refsVE_contains X bm hbm) (X _ _ hC) (looks_findIn X T.iC) (fun self => bind_fn X self T.tC) (one_size v) ?_
  refine low_init (s := ⟨(hp.push (kdv_tup [v])).push (excO C hp.objs.size), g, dr, tk, os⟩) T (X.keeps k) (hlim.keeps k) hget hnx ?_ fun h' tk' dx ⟨k', hx, dn, dne, hns⟩ => ?_
  · show A.depth + 1 < recursionLimit
    exact hroom
  · have old : ∀ b o, hp.get? b = some o → h'.get? b = some o := fun b o e => k' b o (Nat.ne_of_lt (Nat.lt_succ_of_lt (Heap.lt_size e))) (k b o e)
    have z : hp.objs.size + 1 + 1 ≤ dx := by
      first
        | (simpa only [Heap.size_push] using dn)
        | exact dn
        | (have q := dn; rw [Heap.size_push, Heap.size_push] at q; exact q)
    exact ⟨rfl, hq h' tk' (hp.objs.size + 1) dx ⟨old, Nat.le_succ _, ⟨_, _, hx, rfl, rfl, rfl, rfl⟩, Nat.le_trans (Nat.le_trans (Nat.le_succ _) (Nat.le_succ _)) z, dne, hns⟩⟩
end
end LowX_path
end PySem
namespace L2
open PySem PySem.Spec PyProof.Rows
theorem relO_path {v : V} {v' : Value} (r : RelV v v') (f : Str) : RelO (List.lookup f [(("path" : Str), v)]) (if f = "path" then some v' else none) := by
  by_cases hw : f = "path"
  · subst hw
    rw [if_pos rfl]
    have q : List.lookup ("path" : Str) [(("path" : Str), v)] = some v := by simp [List.lookup]
    rw [q]
    exact r
  · rw [if_neg hw]
    have qw : (f == ("path" : Str)) = false := by simpa using hw
    have q2 : List.lookup f [(("path" : Str), v)] = none := by simp [List.lookup, qw]
    rw [q2]
    trivial
section
variable {X : Cx} {C fI : Addr} {cn qn : Str}
/-- X(e) -/
def tMk_path (C : Addr) (ta : TA) : St → Hp → XK → Prop := fun σ H Q => ta σ H fun vs H1 => ∃ v, vs = [v] ∧ ∀ d, H1 d = none → Q (.ref C) (some d) (upd H1 d (.xd [(("path" : Str), v)]))
theorem pmk_path {a : Expr} {ta : TA} {p pos : Pos} {k : Nat} (T : PySem.LowX_path.LowTxt cn qn X.K X.mg C fI) (hr : Room k X.A) (ha : PA X [a] ta) (hg : Gl X cn) (hdb : (cn == ("__debug__" : Str)) = false)
    (he : starEach (a :: []) X.env = (false, eval a X.env) :: starEach [] X.env := by rfl) (hpl : (backTo pos (starEach [] X.env)).any (·.1) = false := by rfl) :
    PMk X (.Call (.Name cn p) [a] [] pos) (tMk_path C ta) := by
  intro pins s σ H Q I h
  refine wpAny_Call_Name_kw (ld_glob I hg T.gC ?_ hdb)
  refine PySem.W.callWith_K (h₀ := X.base) I.ok.mod.kin T.kC (thn (ha.run pos pins s σ H _ I h) fun us s1 hh => ?_) he hpl
  obtain ⟨vs, H1, I1, r1, v, ev, q1⟩ := hh
  subst ev
  refine ⟨I1.kIn, ?_⟩
  cases r1 with
  | cons rv rn =>
    rename_i v' us'
    cases rn
    show wpAny _ _ (call (.ref C) [v']) _ _ _
    have hlim := I1.nolimit
    obtain ⟨hp, g, dr, tk, os⟩ := s1
    refine wpAny_call (PySem.LowX_path.low_made T I1.kIn hlim (by have := hr.dp; omega) fun h' tk' e d M => ?_)
    show MkP X pins σ Q (.ref e) ⟨h', g, dr, tk', os⟩
    obtain ⟨oe, fv, hoe, hc, hd, hdat, h1⟩ := M.obj
    have hns := M.ns
    obtain ⟨G', g1, g2⟩ := restrict h' fun b => decide (b ≠ e)
    have gk : ∀ b, b ≠ e → G'.get? b = h'.get? b := fun b hb => g1 b (decide_eq_true hb)
    have ge : G'.get? e = none := g2 e (by simp)
    have old : ∀ b o, hp.get? b = some o → G'.get? b = some o := fun b o q => (gk b (Nat.ne_of_lt (Nat.lt_of_lt_of_le (Heap.lt_size q) M.new))).trans (M.keep b o q)
    have ob : ObjOk X.prog X.w (upd H1 d (.xd [(("path" : Str), v)])) G' d (.xd [(("path" : Str), v)]) :=
      ⟨_, hns.at (fun o q => (gk d M.dne).trans q), fun f => relO_path rv f⟩
    have J : Inv X pins σ (upd H1 d (.xd [(("path" : Str), v)])) ⟨G', g, dr, tk', os⟩ := I1.laid (t' := tk') old M.dbig ob
    refine ⟨e, oe, fv, ⟨G', g, dr, tk', os⟩, _, .ref C, some d, rfl, J, fun b o q => ?_, ge, hoe, ⟨hc, hd⟩, hdat, h1, ?_, rfl, I1.bare, raises_own T.exC T.tyC, q1 d (I1.hok.fresh M.dbig)⟩
    · by_cases hb : b = e
      · have q' : G'.get? b = some o := q
        rw [hb, ge] at q'; cases q'
      · exact (gk b hb).symm.trans q
    · rw [upd_ne (Ne.symm M.dne)]
      exact I1.hok.fresh M.new
end
end L2
/-! Mp1: values, heaps, the small syntax, the weakest precondition by recursion. -/
namespace Mp
open PySem

/-- values: tuples, and lists and dicts that nobody changes any more, are trees -/
inductive U where
  | non | bl (b : Bool) | int (i : Int) | str (s : List Nat)
  | tup (xs : List U) | lst (xs : List U) | dic (ks vs : List U) | set (xs : List U) | ref (a : Addr)
  deriving Inhabited

/-- what stands at an address of the shared heap -/
inductive O where
  | con (u : U) | ins (k : Nat) (fs : List (Nat × U))
abbrev Hh := Addr → Option O
def put (G : Hh) (a : Addr) (o : O) : Hh := fun b => if b = a then some o else G b
/-- G' knows no more than G -/
def Sub (G' G : Hh) : Prop := ∀ a o, G' a = some o → G a = some o
theorem Sub.refl (G : Hh) : Sub G G := fun _ _ h => h
theorem Sub.trans {A B C : Hh} (h : Sub A B) (k : Sub B C) : Sub A C := fun a o e => k a o (h a o e)

/-- what a slot holds: a value; a list or dict that it alone has; one that is lent (at t); a caught exception -/
inductive SV where
  | u (v : U) | own (v : U) | fz (t : Addr) (v : U) | exc (a : Addr) (d : Option (Addr × Str × U))
/-- what an expression gives: a value; a new list or dict that nobody else has; the one in a slot; an exception -/
inductive R where
  | u (v : U) | tmp (v : U) | lv (i : Nat) | exc (a : Addr)
abbrev Rho := List (Option SV)

/-! ### ==, order, kinds -/
mutual
def eqU : U → U → Bool
  | .non, .non => true
  | .bl a, .bl b => a == b
  | .bl a, .int b => (if a then 1 else 0) == b
  | .int a, .bl b => a == (if b then 1 else 0)
  | .int a, .int b => a == b
  | .str a, .str b => a == b
  | .tup a, .tup b => eqUs a b
  | .lst a, .lst b => eqUs a b
  | _, _ => false
def eqUs : List U → List U → Bool
  | [], [] => true
  | x :: xs, y :: ys => eqU x y && eqUs xs ys
  | _, _ => false
end
mutual
/-- plain data, at most n deep -/
def okU : Nat → U → Bool
  | _, .non => true
  | _, .bl _ => true
  | _, .int _ => true
  | _, .str _ => true
  | n + 1, .tup xs => okUs n xs
  | n + 1, .lst xs => okUs n xs
  | _, _ => false
def okUs : Nat → List U → Bool
  | _, [] => true
  | n, x :: xs => okU n x && okUs n xs
end
def flatU : U → Bool
  | .non => true | .bl _ => true | .int _ => true | .str _ => true | _ => false

def truth : U → Option Bool
  | .non => some false
  | .bl b => some b
  | .int i => some (decide (i ≠ 0))
  | .str s => some (!s.isEmpty)
  | .tup xs => some (!xs.isEmpty)
  | .lst xs => some (!xs.isEmpty)
  | _ => none

/-- keys of dicts: ints, texts -/
def key1 : U → Bool
  | .int _ => true | .str _ => true | _ => false
def lookD : List U → List U → U → Option U
  | k :: ks, v :: vs, x => if eqU k x then some v else lookD ks vs x
  | _, _, _ => none
def hasD : List U → U → Bool
  | [], _ => false
  | k :: ks, x => eqU k x || hasD ks x
/-- each value at a key x is y now -/
def updD : List U → List U → U → U → List U
  | k :: ks, v :: vs, x, y => (if eqU k x then y else v) :: updD ks vs x y
  | _, _, _, _ => []
def putDk (ks : List U) (x : U) : List U := if hasD ks x then ks else ks ++ [x]
def putDv (ks vs : List U) (x y : U) : List U := if hasD ks x then updD ks vs x y else vs ++ [y]
def delDk : List U → U → List U
  | [], _ => []
  | k :: ks, x => if eqU k x then delDk ks x else k :: delDk ks x
def delDv : List U → List U → U → List U
  | k :: ks, v :: vs, x => if eqU k x then delDv ks vs x else v :: delDv ks vs x
  | _, _, _ => []
/-- an instance's fields -/
def lookF : List (Nat × U) → Nat → Option U
  | [], _ => none
  | (g, x) :: r, f => bif Nat.beq g f then some x else lookF r f

/-! ### the syntax -/
inductive BOp where | add | sub | mul | fdiv | mod | pow
  deriving DecidableEq
inductive COp where | eq | ne | lt | le | gt | ge | inn | nin
  deriving DecidableEq
inductive Ty where | int | bool | str | list | tuple | dict | cls (k : Nat)
  deriving DecidableEq
/-- built-in functions -/
inductive Bf where | len | int | str | list | tuple | abs | sum | all | any | min | max | sorted | dict | rev | lset
  deriving DecidableEq
/-- methods of built-in types -/
inductive Mt where | append | extend | pop | sindex | join | startswith | split | get | dpop | lindex
  deriving DecidableEq
mutual
inductive E where
  | loc (i : Nat) | int (i : Int) | str (s : List Nat) | bl (b : Bool) | non
  | cst (v : U)
  | bin (op : BOp) (a b : E) | neg (a : E) | not_ (a : E)
  | and_ (a : E) (es : Es) | or_ (a : E) (es : Es)
  | cmp (op : COp) (a b : E) | chain (o1 o2 : COp) (a b c : E)
  | isN (a : E) (neg : Bool) | isB (a : E) (v neg : Bool)
  | idx (a b : E) | slc (a : E) (lo hi : Oe)
  | fld (a : E) (f : Nat) | exf (i f : Nat)
  | call (f : Nat) (args : Es)
  | make (k f : Nat) (args : Es)
  | meth (k f : Nat) (o : E) (args : Es)
  | bcall (b : Bf) (args : Es)
  | bmeth (m : Mt) (o : E) (args : Es)
  | isin (a : E) (ts : List Ty) | isx (i j : Nat) | isxs (i : Nat) (js : List Nat)
  | tup (es : Es) | lst (es : Es) | dic (ks vs : Es)
  | lc (elt : E) (t : T) (it : It) (c : Oe) (own : List Nat)
  | new (e : E)
  | itl (it : It)
  /-- a name: what it alone has is frozen -/
  | frz (i : Nat)
inductive Es where
  | nil | cons (e : E) (es : Es)
inductive Oe where
  | none | some (e : E)
inductive T where
  | nm (i : Nat) | tp (ts : Ts) | ix (a b : E) | fd (a : E) (f : Nat)
inductive Ts where
  | nil | cons (t : T) (ts : Ts)
inductive It where
  | seq (e : E) | rng (a : E) | rng2 (a b : E) | enm (e : E) | zip (a b : E) | rev (e : E)
end
mutual
inductive S where
  | ex (e : E) | asg (t : T) (e : E) | ret (e : E) | retn
  | ite (c : E) (a b : Ss) | for_ (t : T) (it : It) (b : Ss) | whl (c : E) (b : Ss)
  | rais (k : Nat) (args : Es)
  | tri (b : Ss) (hs : Hs) | pass | cont
  | par (i j : Nat) (a b : E)
  /-- a loop over the keys of the dict in a slot -/
  | fork (i : Nat) (t : T) (b : Ss)
inductive Ss where
  | nil | cons (s : S) (ss : Ss)
inductive Hs where
  | nil | cons (ks : List Nat) (slot : Option Nat) (b : Ss) (hs : Hs)
end

def tsLen : Ts → Nat
  | .nil => 0
  | .cons _ ts => tsLen ts + 1
mutual
/-- the names that a target stores are among vs -/
def tgB (vs : List Nat) : T → Bool
  | .nm i => vs.contains i
  | .tp ts => tgBs vs ts
  | .ix _ _ => true
  | .fd _ _ => true
def tgBs (vs : List Nat) : Ts → Bool
  | .nil => true
  | .cons t ts => tgB vs t && tgBs vs ts
end
structure Fn where
  np : Nat
  nl : Nat
  body : Ss
structure Pg where
  fns : Nat → Option Fn
  /-- the class has the field -/
  fdc : Nat → Nat → Bool
  sup : Nat → Nat → Bool
  /-- an exception's one field -/
  xfd : Nat → Option Nat
  xfs : Nat → Str
abbrev Xc := Nat → List U → Rho → Hh → Prop
abbrev Kc := R → Rho → Hh → Prop
/-- a call of an own def: the def, its arguments, the heap, what is wanted of an exception, of the value -/
abbrev CalF := Nat → List SV → Hh → (Nat → List U → Hh → Prop) → (R → Hh → Prop) → Prop
/-- .. and the exception that the suite holds: where it lies, its class, its arguments -/
structure Cal where
  fn : CalF
  cur : Option (Addr × Option Addr × Nat × List U)
def xcD (d : Addr) : List U → Option Addr
  | [] => none
  | _ => some d
def xcV (d : Addr) (s : Str) : List U → Option (Addr × Str × U)
  | [x] => some (d, s, x)
  | _ => none
/-- the exception's dict is the one that the suite holds -/
def dvOk (dv : Option (Addr × Str × U)) (e : Option Addr) : Prop :=
  match e with
  | none => True
  | some d => match dv with
    | some (d2, _, _) => d2 = d
    | none => False
instance : Coe CalF Cal := ⟨fun f => ⟨f, none⟩⟩

/-! ### operations on values -/
/-- a slot set; the list comes out written -/
def setK : Rho → Nat → Option SV → (Rho → Prop) → Prop
  | [], _, _, _ => False
  | _ :: ρ, 0, v, K => K (v :: ρ)
  | x :: ρ, i + 1, v, K => setK ρ i v fun ρ' => K (x :: ρ')
theorem setK_iff : ∀ {ρ : Rho} {i : Nat} {v : Option SV} {K : Rho → Prop}, setK ρ i v K ↔ i < ρ.length ∧ K (ρ.set i v)
  | [], _, _, _ => by simp [setK]
  | _ :: ρ, 0, v, K => by simp [setK]
  | x :: ρ, i + 1, v, K => by simp [setK, setK_iff]
def noneK : Nat → (Rho → Prop) → Prop
  | 0, K => K []
  | n + 1, K => noneK n fun ρ => K (none :: ρ)
theorem noneK_iff : ∀ {n : Nat} {K : Rho → Prop}, noneK n K ↔ K (List.replicate n none)
  | 0, _ => Iff.rfl
  | n + 1, K => by simp only [noneK, noneK_iff, List.replicate_succ]
def startK : Nat → List SV → Nat → (Rho → Prop) → Prop
  | 0, [], k, K => noneK k K
  | n + 1, v :: vs, k, K => startK n vs k fun ρ => K (some v :: ρ)
  | _, _, _, _ => False
theorem startK_iff : ∀ {n : Nat} {vs : List SV} {k : Nat} {K : Rho → Prop}, startK n vs k K ↔ vs.length = n ∧ K (vs.map some ++ List.replicate k none)
  | 0, [], k, K => by simp [startK, noneK_iff]
  | n + 1, v :: vs, k, K => by simp [startK, startK_iff]
  | 0, _ :: _, _, _ => by simp [startK]
  | _ + 1, [], _, _ => by simp [startK]
/-- what a result looks like -/
def vw (r : R) (ρ : Rho) (G : Hh) : Option U :=
  match r with
  | .u v => match v with
    | .ref a => match G a with
      | some (.con c) => some c
      | _ => none
    | v => some v
  | .tmp c => some c
  | .lv i => match ρ[i]? with
    | some (some (.own c)) => some c
    | some (some (.fz _ c)) => some c
    | _ => none
  | .exc _ => none
def vwK (r : R) (ρ : Rho) (G : Hh) (K : U → Prop) : Prop :=
  match vw r ρ G with
  | some x => K x
  | none => False
/-- a way each for true and false -/
def Br : Bool → Prop → Prop → Prop
  | true, A, _ => A
  | false, _, B => B
theorem Br.dec {p A B : Prop} [Decidable p] (h1 : p → A) (h2 : ¬ p → B) : Br (decide p) A B := by
  by_cases h : p
  · rw [decide_eq_true h]; exact h1 h
  · rw [decide_eq_false h]; exact h2 h
theorem Br.any {b : Bool} {A B : Prop} (h1 : b = true → A) (h2 : b = false → B) : Br b A B := by
  cases b
  · exact h2 rfl
  · exact h1 rfl
theorem Br.nt {b : Bool} {A B : Prop} (h : Br b B A) : Br (!b) A B := by
  cases b <;> exact h
theorem Br.out {b : Bool} {A B : Prop} (h : Br b A B) : (b = true → A) ∧ (b = false → B) := by
  cases b
  · exact ⟨(fun e => nomatch e), fun _ => h⟩
  · exact ⟨fun _ => h, (fun e => nomatch e)⟩
def optK {α : Type} (o : Option α) (K : α → Prop) : Prop :=
  match o with
  | some x => K x
  | none => False
/-- a result to be kept in a container: what is new, or in a slot, is frozen -/
def toU (r : R) (ρ : Rho) (K : U → Rho → Prop) : Prop :=
  match r with
  | .u v => K v ρ
  | .tmp v => K v ρ
  | .lv i => match ρ[i]? with
    | some (some (.own c)) => setK ρ i (some (.u c)) fun ρ' => K c ρ'
    | _ => False
  | .exc _ => False
/-- two values -/
def parK (rs : List R) (K : U → U → Prop) : Prop :=
  match rs with
  | [.u v, .u w] => K v w
  | _ => False
def toUs : List R → Rho → (List U → Rho → Prop) → Prop
  | [], ρ, K => K [] ρ
  | r :: rs, ρ, K => toU r ρ fun v ρ1 => toUs rs ρ1 fun vs ρ2 => K (v :: vs) ρ2
/-- a result as an argument: what is new is the callee's, what is in a slot is lent -/
def toS (r : R) (ρ : Rho) (K : SV → Prop) : Prop :=
  match r with
  | .u v => K (.u v)
  | .tmp v => K (.own v)
  | .lv i => match ρ[i]? with
    | some (some (.own c)) => ∀ t, K (.fz t c)
    | some (some (.fz t c)) => K (.fz t c)
    | _ => False
  | .exc _ => False
def toSs : List R → Rho → (List SV → Prop) → Prop
  | [], _, K => K []
  | r :: rs, ρ, K => toS r ρ fun v => toSs rs ρ fun vs => K (v :: vs)
/-- a result that is no list or dict, as an index -/
def ixK (r : R) (K : U → Prop) : Prop :=
  match r with
  | .u i => K i
  | _ => False
/-- a new content for the list or dict that r is -/
def putR (r : R) (c : U) (ρ : Rho) (G : Hh) (K : Rho → Hh → Prop) : Prop :=
  match r with
  | .lv i => match ρ[i]? with
    | some (some (.own _)) => setK ρ i (some (.own c)) fun ρ' => K ρ' G
    | _ => False
  | .u (.ref a) => K ρ (put G a (.con c))
  | _ => False
/-- .. or what nobody else has -/
def putT (r : R) (c : U) (ρ : Rho) (G : Hh) (K : Rho → Hh → Prop) : Prop :=
  match r with
  | .tmp _ => K ρ G
  | r => putR r c ρ G K
/-- texts alone -/
def litS : Es → Option (List (List Nat))
  | .nil => some []
  | .cons e es => match e with
    | .str s => (litS es).map (s :: ·)
    | _ => none
/-- a result stored under a name -/
def asgN (i : Nat) (r : R) (ρ : Rho) (K : Rho → Prop) : Prop :=
  match r with
  | .u v => setK ρ i (some (.u v)) K
  | .tmp v => setK ρ i (some (.own v)) K
  | .lv j => match ρ[j]? with
    | some (some (.own c)) => setK ρ j (some (.u c)) fun ρ' => setK ρ' i (some (.u c)) K
    | some (some (.fz t c)) => setK ρ i (some (.fz t c)) K
    | _ => False
  | .exc _ => False

def MulOk (i j : Int) : Prop := (i.natAbs < 2 ^ 64 ∨ j.natAbs < 2 ^ 64) ∨ L2.CMulW i j
def DivOk (j : Int) : Prop := 0 < j ∧ j.natAbs < 2 ^ 8000
def rep {α : Type} (xs : List α) (k : Int) : List α := (List.replicate k.toNat xs).flatten
def binU (op : BOp) (x y : U) (K : R → Prop) : Prop :=
  match op with
  | .add => match x with
    | .int i => match y with
      | .int j => K (.u (.int (i + j)))
      | _ => False
    | .str s => match y with
      | .str t => s.length + t.length ≤ sizeLine ∧ K (.u (.str (s ++ t)))
      | _ => False
    | .tup s => match y with
      | .tup t => s.length + t.length ≤ sizeLine ∧ K (.u (.tup (s ++ t)))
      | _ => False
    | .lst s => match y with
      | .lst t => s.length + t.length ≤ sizeLine ∧ K (.tmp (.lst (s ++ t)))
      | _ => False
    | _ => False
  | .sub => match x with
    | .int i => match y with
      | .int j => K (.u (.int (i - j)))
      | _ => False
    | _ => False
  | .mul => match x with
    | .int i => match y with
      | .int j => MulOk i j ∧ K (.u (.int (i * j)))
      | _ => False
    | .str s => match y with
      | .int j => (j < 2 ^ 24 ∧ -(2 ^ 24) < j ∧ s.length * j.toNat ≤ sizeLine) ∧ K (.u (.str (rep s j)))
      | _ => False
    | .lst s => match y with
      | .int j => (j < 2 ^ 24 ∧ -(2 ^ 24) < j ∧ s.length * j.toNat ≤ sizeLine) ∧ K (.tmp (.lst (rep s j)))
      | _ => False
    | .tup s => match y with
      | .int j => (s.length ≠ 0 ∧ 2 ≤ j ∧ j ≤ 1000 ∧ s.length ≤ 1000) ∧ K (.u (.tup (rep s j)))
      | _ => False
    | _ => False
  | .fdiv => match x with
    | .int i => match y with
      | .int j => DivOk j ∧ K (.u (.int (i / j)))
      | _ => False
    | _ => False
  | .mod => match x with
    | .int i => match y with
      | .int j => 0 < j ∧ K (.u (.int (i % j)))
      | _ => False
    | _ => False
  | .pow => match x with
    | .int i => match y with
      | .int j => (0 ≤ j ∧ j ≤ 1000000 ∧ i.natAbs < 2 ^ 64) ∧ K (.u (.int (i ^ j.toNat)))
      | _ => False
    | _ => False

/-- the items of what is walked or asked by 'in' -/
def seqU : U → Option (List U)
  | .tup xs => some xs
  | .lst xs => some xs
  | _ => none
def deepU : Nat := 40
def cmpU (op : COp) (x y : U) (K : Bool → Prop) : Prop :=
  match op with
  | .eq => (okU deepU x = true ∧ okU deepU y = true) ∧ K (eqU x y)
  | .ne => (okU deepU x = true ∧ okU deepU y = true) ∧ K (!eqU x y)
  | .lt => match x with
    | .int i => match y with
      | .int j => K (decide (i < j))
      | _ => False
    | .str s => match y with
      | .str t => K (decide (s < t))
      | _ => False
    | _ => False
  | .le => match x with
    | .int i => match y with
      | .int j => K (decide (i ≤ j))
      | _ => False
    | _ => False
  | .gt => match x with
    | .int i => match y with
      | .int j => K (decide (j < i))
      | _ => False
    | _ => False
  | .ge => match x with
    | .int i => match y with
      | .int j => K (decide (j ≤ i))
      | _ => False
    | _ => False
  | .inn => match y with
    | .str t => match x with
      | .str s => match s with
        | [c] => K (decide (c ∈ t))
        | _ => False
      | _ => False
    | .lst xs => (okU deepU x = true ∧ okUs deepU xs = true) ∧ K (xs.any fun y => eqU y x)
    | .tup xs => (okU deepU x = true ∧ okUs deepU xs = true) ∧ K (xs.any fun y => eqU y x)
    | .dic ks _ => key1 x = true ∧ K (hasD ks x)
    | _ => False
  | .nin => match y with
    | .str t => match x with
      | .str s => match s with
        | [c] => K (!decide (c ∈ t))
        | _ => False
      | _ => False
    | .lst xs => (okU deepU x = true ∧ okUs deepU xs = true) ∧ K (!xs.any fun y => eqU y x)
    | .tup xs => (okU deepU x = true ∧ okUs deepU xs = true) ∧ K (!xs.any fun y => eqU y x)
    | .dic ks _ => key1 x = true ∧ K (!hasD ks x)
    | _ => False

def atK {α : Type} (xs : List α) (i : Int) (K : α → Prop) : Prop := optK (L2.atI xs i) K
def idxU (x y : U) (K : U → Prop) : Prop :=
  match x with
  | .tup xs => match y with
    | .int i => atK xs i K
    | _ => False
  | .lst xs => match y with
    | .int i => atK xs i K
    | _ => False
  | .str s => match y with
    | .int i => atK s i fun c => K (.str [c])
    | _ => False
  | .dic ks vs => key1 y = true ∧ optK (lookD ks vs y) K
  | _ => False
def cut {α : Type} (xs : List α) (lo hi : Option Int) : List α :=
  (xs.drop (HT.sIx xs.length 0 lo)).take (HT.sIx xs.length xs.length hi - HT.sIx xs.length 0 lo)
def slcU (x : U) (lo hi : Option Int) (K : R → Prop) : Prop :=
  match x with
  | .tup xs => K (.u (.tup (cut xs lo hi)))
  | .lst xs => K (.tmp (.lst (cut xs lo hi)))
  | .str s => K (.u (.str (cut s lo hi)))
  | _ => False
/-- a part of a slice -/
def partK (r : Option R) (K : Option Int → Prop) : Prop :=
  match r with
  | none => K none
  | some (.u (.int i)) => K (some i)
  | _ => False

def tyU (t : Ty) (v : U) : Bool :=
  match v with
  | .non => false
  | .bl _ => decide (t = .bool) || decide (t = .int)
  | .int _ => decide (t = .int)
  | .str _ => decide (t = .str)
  | .tup _ => decide (t = .tuple)
  | .lst _ => decide (t = .list)
  | .dic _ _ => decide (t = .dict)
  | .set _ => false
  | .ref _ => false

def putFd (f : Nat) (v : U) : List (Nat × U) → List (Nat × U)
  | [] => [(f, v)]
  | (g, x) :: r => bif Nat.beq g f then (g, v) :: r else (g, x) :: putFd f v r
def setU (o i v : U) (K : U → Prop) : Prop :=
  match o with
  | .lst xs => match i with
    | .int k => optK (L2.ixN xs.length k) fun j => K (.lst (xs.set j v))
    | _ => False
  | .dic ks vs => (key1 i = true ∧ ks.length < sizeLine) ∧ K (.dic (putDk ks i) (putDv ks vs i v))
  | _ => False

/-! ### built-in functions -/
def allInt : List U → Option (List Int)
  | [] => some []
  | .int i :: xs => (allInt xs).map (i :: ·)
  | _ => none
def allBl : List U → Option (List Bool)
  | [] => some []
  | .bl i :: xs => (allBl xs).map (i :: ·)
  | _ => none
def allStr : List U → Option (List (List Nat))
  | [] => some []
  | .str i :: xs => (allStr xs).map (i :: ·)
  | _ => none
def insertI (x : Int) : List Int → List Int
  | [] => [x]
  | y :: ys => if x ≤ y then x :: y :: ys else y :: insertI x ys
def sortI : List Int → List Int
  | [] => []
  | x :: xs => insertI x (sortI xs)
def insertS (x : List Nat) : List (List Nat) → List (List Nat)
  | [] => [x]
  | y :: ys => if x ≤ y then x :: y :: ys else y :: insertS x ys
def sortS : List (List Nat) → List (List Nat)
  | [] => []
  | x :: xs => insertS x (sortS xs)
def maxI : List Int → Int
  | [] => 0
  | [x] => x
  | x :: xs => max x (maxI xs)
def minI : List Int → Int
  | [] => 0
  | [x] => x
  | x :: xs => min x (minI xs)
/-- a text that may be -/
def goodU : U → Bool
  | .str s => decide (s.length ≤ sizeLine) && s.all fun c => decide (c < 1114112)
  | _ => true
/-- the firsts of tuples, all ints or all texts -/
def headsI : List U → Option (List Int)
  | [] => some []
  | x :: xs => match x with
    | .tup (.int i :: _) => (headsI xs).map (i :: ·)
    | _ => none
def headsS : List U → Option (List (List Nat))
  | [] => some []
  | x :: xs => match x with
    | .tup (.str i :: _) => (headsS xs).map (i :: ·)
    | _ => none
def hLe (x y : U) : Bool :=
  match x with
  | .tup (.int a :: _) => match y with
    | .tup (.int b :: _) => decide (a ≤ b)
    | _ => true
  | .tup (.str a :: _) => match y with
    | .tup (.str b :: _) => decide (a ≤ b)
    | _ => true
  | _ => true
def insertH (x : U) : List U → List U
  | [] => [x]
  | y :: ys => if hLe x y = true then x :: y :: ys else y :: insertH x ys
def sortH : List U → List U
  | [] => []
  | x :: xs => insertH x (sortH xs)
/-- the figures of an int -/
def decS (i : Int) : List Nat := (PySem.Str.ofString (toString i)).cps.toList
/-- ints, or texts, sorted; or tuples by their firsts, that are unlike -/
def sortU (xs : List U) (K : R → Prop) : Prop :=
  match allInt xs with
  | some ns => K (.tmp (.lst ((sortI ns).map U.int)))
  | none => match allStr xs with
    | some ss => ss.length < 64 ∧ K (.tmp (.lst ((sortS ss).map U.str)))
    | none => match headsI xs with
      | some hs => hs.Nodup ∧ K (.tmp (.lst (sortH xs)))
      | none => match headsS xs with
        | some hs => hs.Nodup ∧ K (.tmp (.lst (sortH xs)))
        | none => False
def bf1 (b : Bf) (x : U) (K : R → Prop) : Prop :=
  match b with
  | .len => match x with
    | .str s => K (.u (.int s.length))
    | .tup xs => K (.u (.int xs.length))
    | .lst xs => K (.u (.int xs.length))
    | .dic ks _ => K (.u (.int ks.length))
    | _ => False
  | .int => match x with
    | .int i => K (.u (.int i))
    | .bl k => K (.u (.int (if k then 1 else 0)))
    | _ => False
  | .list => match x with
    | .tup xs => K (.tmp (.lst xs))
    | .lst xs => K (.tmp (.lst xs))
    | .dic ks _ => ks.all goodU = true ∧ K (.tmp (.lst ks))
    | _ => False
  | .tuple => match x with
    | .tup xs => K (.u (.tup xs))
    | .lst xs => K (.u (.tup xs))
    | _ => False
  | .abs => match x with
    | .int i => K (.u (.int i.natAbs))
    | _ => False
  | .sum => match x with
    | .lst xs => optK (allInt xs) fun ns => K (.u (.int ns.sum))
    | _ => False
  | .all => match x with
    | .lst xs => optK (allBl xs) fun bs => K (.u (.bl (bs.all id)))
    | _ => False
  | .sorted => match x with
    | .lst xs => sortU xs K
    | .dic ks _ => (ks.length < 64 ∧ ks.all goodU = true) ∧ sortU ks K
    | _ => False
  | .dict => match x with
    | .dic ks vs => K (.tmp (.dic ks vs))
    | _ => False
  | .rev => match x with
    | .lst xs => K (.tmp (.lst xs.reverse))
    | _ => False
  | .lset => match x with
    | .lst xs => optK (allInt xs) fun ns => (ns.length < 64 ∧ ns.Nodup) ∧ K (.u (.int ns.length))
    | _ => False
  | .str => match x with
    | .int i => (i.natAbs < 2 ^ 1000 ∧ goodU (.str (decS i)) = true) ∧ K (.u (.str (decS i)))
    | _ => False
  | .min => match x with
    | .lst xs => optK (allInt xs) fun ns => ns ≠ [] ∧ K (.u (.int (minI ns)))
    | _ => False
  | .max => match x with
    | .lst xs => optK (allInt xs) fun ns => ns ≠ [] ∧ K (.u (.int (maxI ns)))
    | _ => False
  | _ => False
def bf2 (b : Bf) (x y : U) (K : R → Prop) : Prop :=
  match b with
  | .max => match x with
    | .int i => match y with
      | .int j => K (.u (.int (if j > i then j else i)))
      | _ => False
    | _ => False
  | .min => match x with
    | .int i => match y with
      | .int j => K (.u (.int (if j < i then j else i)))
      | _ => False
    | _ => False
  | _ => False
def bfK (b : Bf) (rs : List R) (ρ : Rho) (G : Hh) (K : R → Prop) : Prop :=
  match rs with
  | [r] => vwK r ρ G fun x => bf1 b x K
  | [r, q] => vwK r ρ G fun x => vwK q ρ G fun y => bf2 b x y K
  | _ => False

def joinS (sep : List Nat) : List (List Nat) → List Nat
  | [] => []
  | [x] => x
  | x :: y :: xs => x ++ (sep ++ joinS sep (y :: xs))
def idxOfS (c : Nat) : List Nat → Nat → Option Nat
  | [], _ => none
  | x :: xs, k => if x = c then some k else idxOfS c xs (k + 1)
/-- the kind of a method's receiver -/
def idxOfL (s : List Nat) : List (List Nat) → Nat → Option Nat
  | [], _ => none
  | x :: xs, k => if x = s then some k else idxOfL s xs (k + 1)
def recM (m : Mt) (x : U) : Bool :=
  match x with
  | .lst _ => match m with
    | .append => true | .extend => true | .pop => true | .lindex => true | _ => false
  | .dic _ _ => match m with
    | .get => true | .dpop => true | _ => false
  | .str _ => match m with
    | .sindex => true | .join => true | .startswith => true | .split => true | _ => false
  | _ => false
def mtK (m : Mt) (r : R) (rs : List R) (ρ : Rho) (G : Hh) (K : R → Rho → Hh → Prop) : Prop :=
  match m with
  | .append => match rs with
    | [q] => toU q ρ fun v ρ1 => vwK r ρ1 G fun x => match x with
      | .lst xs => xs.length < sizeLine ∧ putT r (.lst (xs ++ [v])) ρ1 G fun ρ2 G2 => K (.u .non) ρ2 G2
      | _ => False
    | _ => False
  | .extend => match rs with
    | [q] => vwK q ρ G fun y => vwK r ρ G fun x => match x with
      | .lst xs => match y with
        | .lst ys => xs.length + ys.length ≤ sizeLine ∧ putR r (.lst (xs ++ ys)) ρ G fun ρ2 G2 => K (.u .non) ρ2 G2
        | _ => False
      | _ => False
    | _ => False
  | .pop => match rs with
    | [] => vwK r ρ G fun x => match x with
      | .lst xs => optK xs.getLast? fun v => putR r (.lst xs.dropLast) ρ G fun ρ2 G2 => K (.u v) ρ2 G2
      | _ => False
    | _ => False
  | .sindex => match rs with
    | [q] => vwK r ρ G fun x => match x with
      | .str s => vwK q ρ G fun y => match y with
        | .str [c] => optK (idxOfS c s 0) fun k => K (.u (.int (k : Int))) ρ G
        | _ => False
      | _ => False
    | _ => False
  | .get => match rs with
    | [q] => vwK r ρ G fun x => match x with
      | .dic ks vs => vwK q ρ G fun y => key1 y = true ∧ K (.u ((lookD ks vs y).getD .non)) ρ G
      | _ => False
    | [q, d] => vwK r ρ G fun x => match x with
      | .dic ks vs => vwK q ρ G fun y => key1 y = true ∧ K (match lookD ks vs y with
        | some v => .u v
        | none => d) ρ G
      | _ => False
    | _ => False
  | .dpop => match rs with
    | [q] => vwK r ρ G fun x => match x with
      | .dic ks vs => vwK q ρ G fun y => key1 y = true ∧ optK (lookD ks vs y) fun v => putR r (.dic (delDk ks y) (delDv ks vs y)) ρ G fun ρ2 G2 => K (.u v) ρ2 G2
      | _ => False
    | [q, d] => vwK r ρ G fun x => match x with
      | .dic ks vs => vwK q ρ G fun y => key1 y = true ∧ (match lookD ks vs y with
        | some v => putR r (.dic (delDk ks y) (delDv ks vs y)) ρ G fun ρ2 G2 => K (.u v) ρ2 G2
        | none => putR r (.dic ks vs) ρ G fun ρ2 G2 => K d ρ2 G2)
      | _ => False
    | _ => False
  | .lindex => match rs with
    | [q] => vwK r ρ G fun x => match x with
      | .lst xs => vwK q ρ G fun y => match y with
        | .str s => optK (allStr xs) fun ss => optK (idxOfL s ss 0) fun k => K (.u (.int (k : Int))) ρ G
        | _ => False
      | _ => False
    | _ => False
  | .join => match rs with
    | [q] => vwK r ρ G fun x => match x with
      | .str s => vwK q ρ G fun y => match y with
        | .lst xs => optK (allStr xs) fun ys => (ys.map List.length).sum + ys.length * s.length ≤ sizeLine ∧ K (.u (.str (joinS s ys))) ρ G
        | _ => False
      | _ => False
    | _ => False
  | _ => False

/-! ### loops over what is walked -/
inductive Src where
  | fix (xs : List U) | slot (i : Nat) (c : U) (xs : List U) | heap (a : Addr) (c : U) (xs : List U)
def enumI (k : Nat) : List U → List U
  | [] => []
  | x :: xs => .tup [.int k, x] :: enumI (k + 1) xs
def zipI : List U → List U → List U
  | x :: xs, y :: ys => .tup [x, y] :: zipI xs ys
  | _, _ => []
def zipK (x y : U) (K : List U → Prop) : Prop :=
  match x with
  | .tup xs => match y with
    | .tup ys => K (zipI xs ys)
    | _ => False
  | .lst xs => match y with
    | .lst ys => K (zipI xs ys)
    | _ => False
  | _ => False
def rangeI (lo hi : Int) : List U := (List.range (hi - lo).toNat).map fun (k : Nat) => U.int (lo + (k : Int))
def itemsU : U → Option (List U)
  | .tup xs => some xs
  | .lst xs => some xs
  | .str s => some (s.map fun c => .str [c])
  | _ => none
/-- how the items us of x, that r is, are walked -/
def srcR (r : R) (ρ : Rho) (x : U) (us : List U) (K : Src → Prop) : Prop :=
  match r with
  | .u (.ref a) => K (.heap a x us)
  | .lv i => match ρ[i]? with
    | some (some (.own c)) => K (.slot i c us)
    | _ => K (.fix us)
  | _ => K (.fix us)
/-- the items of what r is, of a kind that p lets by, through f -/
def srcK (r : R) (ρ : Rho) (G : Hh) (p : U → Bool) (f : List U → List U) (K : Src → Prop) : Prop :=
  vwK r ρ G fun x => optK (if p x then itemsU x else none) fun xs => srcR r ρ x (f xs) K
def isL : U → Bool
  | .lst _ => true | _ => false
def isLT : U → Bool
  | .lst _ => true | .tup _ => true | _ => false
theorem isLT_of {u : U} (h : isL u = true) : isLT u = true := by cases u <;> first | rfl | cases h
def anyU : U → Bool := fun _ => true

def forI0 (ck : Rho → Hh → Prop) (turn : U → Rho → Hh → (Rho → Hh → Prop) → Prop) : List U → Rho → Hh → (Rho → Hh → Prop) → Prop
  | [], ρ, G, Q => Q ρ G
  | x :: xs, ρ, G, Q => turn x ρ G fun ρ' G' => ∃ G'', Sub G'' G' ∧ ck ρ' G'' ∧ forI0 ck turn xs ρ' G'' Q
/-- the turns of a loop; to be opened by forI_nil, forI_cons alone -/
@[irreducible] def forI (ck : Rho → Hh → Prop) (turn : U → Rho → Hh → (Rho → Hh → Prop) → Prop) (xs : List U) (ρ : Rho) (G : Hh) (Q : Rho → Hh → Prop) : Prop := forI0 ck turn xs ρ G Q
theorem forI_nil {ck : Rho → Hh → Prop} {turn : U → Rho → Hh → (Rho → Hh → Prop) → Prop} {ρ : Rho} {G : Hh} {Q : Rho → Hh → Prop} : forI ck turn [] ρ G Q = Q ρ G := by
  unfold forI
  rfl
theorem forI_cons {ck : Rho → Hh → Prop} {turn : U → Rho → Hh → (Rho → Hh → Prop) → Prop} {x : U} {xs : List U} {ρ : Rho} {G : Hh} {Q : Rho → Hh → Prop} : forI ck turn (x :: xs) ρ G Q = turn x ρ G fun ρ' G' => ∃ G'', Sub G'' G' ∧ ck ρ' G'' ∧ forI ck turn xs ρ' G'' Q := by
  unfold forI
  rfl
def forK (src : Src) (turn : U → Rho → Hh → (Rho → Hh → Prop) → Prop) (ρ : Rho) (G : Hh) (Q : Rho → Hh → Prop) : Prop :=
  match src with
  | .fix xs => forI (fun _ _ => True) turn xs ρ G Q
  | .slot i c xs => setK ρ i (some (.u c)) fun ρ0 => forI (fun _ _ => True) turn xs ρ0 G Q
  | .heap a c xs => forI (fun _ G' => G' a = some (.con c)) turn xs ρ G Q
/-- a comprehension's turns: acc so far -/
def wipeK (ρ : Rho) : List Nat → (Rho → Prop) → Prop
  | [], K => K ρ
  | v :: vs, K => wipeK ρ vs fun ρ' => setK ρ' v none K
def addO (acc : List U) (o : Option U) : List U :=
  match o with
  | some y => acc ++ [y]
  | none => acc
def delG (G : Hh) (a : Addr) : Hh := fun b => if b = a then none else G b
/-- no other slot holds what is lent -/
def noFz (i : Nat) : Rho → Nat → Bool
  | [], _ => true
  | some (.fz _ _) :: ρ, j => decide (j = i) && noFz i ρ (j + 1)
  | _ :: ρ, j => noFz i ρ (j + 1)
/-- a loop over the keys of the dict that slot i holds: it is read meanwhile, and nobody writes it -/
def forkK (i : Nat) (sv : SV) (ρ : Rho) (G : Hh) (turn : (R → Rho → Hh → Prop) → U → Rho → Hh → (Rho → Hh → Prop) → Prop) (rt : R → Rho → Hh → Prop) (nx : Rho → Hh → Prop) : Prop :=
  match sv with
  | .u x => match x with
    | .dic ks _ => ks.all goodU = true ∧ forI (fun _ _ => True) (turn rt) ks ρ G nx
    | .ref a => match G a with
      | some (.con c) => match c with
        | .dic ks ws => ks.all goodU = true ∧ setK ρ i (some (.fz a (.dic ks ws))) fun ρ0 => forI (fun _ _ => True) (turn fun _ _ _ => False) ks ρ0 (delG G a) fun ρ' G' =>
            (ρ'[i]? = some (some (.fz a (.dic ks ws))) ∧ noFz i ρ' 0 = true) ∧ setK ρ' i (some (.u (.ref a))) fun ρ2 => nx ρ2 (put G' a (.con (.dic ks ws)))
        | _ => False
      | _ => False
    | _ => False
  | .own c => match c with
    | .dic ks ws => ks.all goodU = true ∧ setK ρ i (some (.u (.dic ks ws))) fun ρ0 => forI (fun _ _ => True) (turn rt) ks ρ0 G nx
    | _ => False
  | .fz _ c => match c with
    | .dic ks _ => ks.all goodU = true ∧ forI (fun _ _ => True) (turn rt) ks ρ G nx
    | _ => False
  | _ => False

def lcI0 (own : List Nat) (ck : Rho → Hh → Prop) (turn : U → Rho → Hh → (Option U → Rho → Hh → Prop) → Prop) : List U → List U → Rho → Hh → (List U → Rho → Hh → Prop) → Prop
  | [], acc, ρ, G, Q => Q acc ρ G
  | x :: xs, acc, ρ, G, Q => turn x ρ G fun o ρ' G' => wipeK ρ' own fun ρ2 => ck ρ2 G' ∧ lcI0 own ck turn xs (addO acc o) ρ2 G' Q
@[irreducible] def lcI (own : List Nat) (ck : Rho → Hh → Prop) (turn : U → Rho → Hh → (Option U → Rho → Hh → Prop) → Prop) (xs acc : List U) (ρ : Rho) (G : Hh) (Q : List U → Rho → Hh → Prop) : Prop := lcI0 own ck turn xs acc ρ G Q
theorem lcI_nil {own : List Nat} {ck : Rho → Hh → Prop} {turn : U → Rho → Hh → (Option U → Rho → Hh → Prop) → Prop} {acc : List U} {ρ : Rho} {G : Hh} {Q : List U → Rho → Hh → Prop} : lcI own ck turn [] acc ρ G Q = Q acc ρ G := by
  unfold lcI
  rfl
theorem lcI_cons {own : List Nat} {ck : Rho → Hh → Prop} {turn : U → Rho → Hh → (Option U → Rho → Hh → Prop) → Prop} {x : U} {xs acc : List U} {ρ : Rho} {G : Hh} {Q : List U → Rho → Hh → Prop} : lcI own ck turn (x :: xs) acc ρ G Q = turn x ρ G fun o ρ' G' => wipeK ρ' own fun ρ2 => ck ρ2 G' ∧ lcI own ck turn xs (addO acc o) ρ2 G' Q := by
  unfold lcI
  rfl
/-- the slots vs as they were in ρ0 -/
def backK (ρ0 ρ : Rho) : List Nat → (Rho → Prop) → Prop
  | [], K => K ρ
  | v :: vs, K => backK ρ0 ρ vs fun ρ' => optK (ρ0[v]?) fun o => setK ρ' v o K
/-- no list or dict of its own in the slot -/
def plainS : Option (Option SV) → Bool
  | some none => true
  | some (some (.u _)) => true
  | _ => false
def plainsS (ρ : Rho) : List Nat → Bool
  | [] => true
  | v :: vs => plainS (ρ[v]?) && plainsS ρ vs
def lcK (src : Src) (own : List Nat) (turn : U → Rho → Hh → (Option U → Rho → Hh → Prop) → Prop) (ρ : Rho) (G : Hh) (Q : List U → Rho → Hh → Prop) : Prop :=
  plainsS ρ own = true ∧ match src with
  | .fix xs => xs.length ≤ sizeLine ∧ wipeK ρ own fun ρ0 => lcI own (fun _ _ => True) turn xs [] ρ0 G fun acc ρ' G' => backK ρ ρ' own fun ρ2 => Q acc ρ2 G'
  | .slot i c xs => xs.length ≤ sizeLine ∧ wipeK ρ own fun ρ0 => lcI own (fun ρ' _ => ρ'[i]? = some (some (.own c))) turn xs [] ρ0 G fun acc ρ' G' => backK ρ ρ' own fun ρ2 => Q acc ρ2 G'
  | .heap a c xs => xs.length ≤ sizeLine ∧ wipeK ρ own fun ρ0 => lcI own (fun _ G' => G' a = some (.con c)) turn xs [] ρ0 G fun acc ρ' G' => backK ρ ρ' own fun ρ2 => Q acc ρ2 G'

abbrev Nx := Rho → Hh → Prop
/-! ### the weakest precondition -/
section
variable (P : Pg) (Γ : Cal)
def bK (b : Bool) (K : R → Prop) : Prop := K (.u (.bl b))
def nonB (v : U) (neg : Bool) : Bool :=
  match v with
  | .non => !neg
  | _ => neg
/-- a truth's own value, known -/
def bvl (r : R) (b : Bool) : R :=
  match r with
  | .u (.bl _) => .u (.bl b)
  | r => r
/-- a field of an instance is set -/
def putA (ro : R) (f : Nat) (v : U) (G : Hh) (K : Hh → Prop) : Prop :=
  match ro with
  | .u (.ref p) => match G p with
    | some (.ins k fs) => (fs.length < 900 ∧ P.fdc k f = true) ∧ K (put G p (.ins k (putFd f v fs)))
    | _ => False
  | _ => False
def nonR (r : R) : Prop :=
  match r with
  | .u .non => True
  | _ => False
def tstK (r : R) (ρ : Rho) (G : Hh) (K : Bool → Prop) : Prop := vwK r ρ G fun x => optK (truth x) K
/-- a comprehension's condition -/
def cndK (rc : Option R) (ρ : Rho) (G : Hh) (A B : Prop) : Prop :=
  match rc with
  | some r => tstK r ρ G fun b => Br b A B
  | none => A
mutual
def wpE : E → Rho → Hh → Xc → Kc → Prop
  | .loc i, ρ, G, _, Q => match ρ[i]? with
    | some (some (.u v)) => Q (.u v) ρ G
    | some (some (.exc a _)) => Q (.exc a) ρ G
    | some (some _) => Q (.lv i) ρ G
    | _ => False
  | .frz i, ρ, G, _, Q => match ρ[i]? with
    | some (some (.u v)) => Q (.u v) ρ G
    | some (some (.own c)) => setK ρ i (some (.u c)) fun ρ1 => Q (.u c) ρ1 G
    | _ => False
  | .int i, ρ, G, _, Q => Q (.u (.int i)) ρ G
  | .str s, ρ, G, _, Q => Q (.u (.str s)) ρ G
  | .bl b, ρ, G, _, Q => Q (.u (.bl b)) ρ G
  | .non, ρ, G, _, Q => Q (.u .non) ρ G
  | .cst v, ρ, G, _, Q => Q (.u v) ρ G
  | .bin op a b, ρ, G, X, Q => wpE a ρ G X fun ra ρ1 G1 => wpE b ρ1 G1 X fun rb ρ2 G2 =>
      vwK ra ρ2 G2 fun x => vwK rb ρ2 G2 fun y => binU op x y fun r => Q r ρ2 G2
  | .neg a, ρ, G, X, Q => wpE a ρ G X fun ra ρ1 G1 => vwK ra ρ1 G1 fun x => match x with
      | .int i => Q (.u (.int (-i))) ρ1 G1
      | _ => False
  | .not_ a, ρ, G, X, Q => wpE a ρ G X fun ra ρ1 G1 => tstK ra ρ1 G1 fun b => Q (.u (.bl (!b))) ρ1 G1
  | .and_ a es, ρ, G, X, Q => wpE a ρ G X fun ra ρ1 G1 => tstK ra ρ1 G1 fun b => Br b (wpAnd es ρ1 G1 X Q) (Q (bvl ra false) ρ1 G1)
  | .or_ a es, ρ, G, X, Q => wpE a ρ G X fun ra ρ1 G1 => tstK ra ρ1 G1 fun b => Br b (Q (bvl ra true) ρ1 G1) (wpOr es ρ1 G1 X Q)
  | .cmp op a b, ρ, G, X, Q => wpE a ρ G X fun ra ρ1 G1 => wpE b ρ1 G1 X fun rb ρ2 G2 =>
      vwK ra ρ2 G2 fun x => vwK rb ρ2 G2 fun y => cmpU op x y fun k => Q (.u (.bl k)) ρ2 G2
  | .chain o1 o2 a b c, ρ, G, X, Q => wpE a ρ G X fun ra ρ1 G1 => wpE b ρ1 G1 X fun rb ρ2 G2 =>
      vwK ra ρ2 G2 fun x => vwK rb ρ2 G2 fun y => cmpU o1 x y fun k =>
        Br k (wpE c ρ2 G2 X fun rc ρ3 G3 => vwK rb ρ3 G3 fun y' => vwK rc ρ3 G3 fun z => cmpU o2 y' z fun k' => Q (.u (.bl k')) ρ3 G3) (Q (.u (.bl false)) ρ2 G2)
  | .isN a neg, ρ, G, X, Q => wpE a ρ G X fun ra ρ1 G1 => match ra with
      | .u v => Q (.u (.bl (nonB v neg))) ρ1 G1
      | _ => vwK ra ρ1 G1 fun _ => Q (.u (.bl neg)) ρ1 G1
  | .isB a k neg, ρ, G, X, Q => wpE a ρ G X fun ra ρ1 G1 => match ra with
      | .u v => match v with
        | .bl b => Q (.u (.bl (if neg then !decide (b = k) else decide (b = k)))) ρ1 G1
        | _ => False
      | _ => False
  | .idx a b, ρ, G, X, Q => wpE a ρ G X fun ra ρ1 G1 => wpE b ρ1 G1 X fun rb ρ2 G2 =>
      vwK ra ρ2 G2 fun x => vwK rb ρ2 G2 fun y => idxU x y fun v => Q (.u v) ρ2 G2
  | .slc a lo hi, ρ, G, X, Q => wpE a ρ G X fun ra ρ1 G1 => wpO lo ρ1 G1 X fun rl ρ2 G2 => partK rl fun l => wpO hi ρ2 G2 X fun rh ρ3 G3 => partK rh fun h =>
      vwK ra ρ3 G3 fun x => slcU x l h fun r => Q r ρ3 G3
  | .fld a f, ρ, G, X, Q => wpE a ρ G X fun ra ρ1 G1 => match ra with
      | .u (.ref p) => match G1 p with
        | some (.ins _ fs) => optK (lookF fs f) fun v => Q (.u v) ρ1 G1
        | _ => False
      | _ => False
  | .exf i f, ρ, G, _, Q => match ρ[i]? with
    | some (some (.exc a (some (d, s, x)))) => match Γ.cur with
      | some (b, e, k, _) => (a = b ∧ e = some d ∧ P.xfd k = some f ∧ s = P.xfs k) ∧ Q (.u x) ρ G
      | _ => False
    | _ => False
  | .call f args, ρ, G, X, Q => wpEs args ρ G X fun rs ρ1 G1 => toSs rs ρ1 fun svs =>
      Γ.fn f svs G1 (fun k as G2 => X k as ρ1 G2) fun r G2 => Q r ρ1 G2
  | .make k f args, ρ, G, X, Q => wpEs args ρ G X fun rs ρ1 G1 => toSs rs ρ1 fun svs => ∀ a, G1 a = none →
      Γ.fn f (.u (.ref a) :: svs) (put G1 a (.ins k [])) (fun k as G2 => X k as ρ1 G2) fun r G2 => nonR r ∧ Q (.u (.ref a)) ρ1 G2
  | .meth k f o args, ρ, G, X, Q => wpE o ρ G X fun ro ρ1 G1 => match ro with
      | .u (.ref p) => match G1 p with
        | some (.ins k' _) => k' = k ∧ wpEs args ρ1 G1 X fun rs ρ2 G2 => toSs rs ρ2 fun svs =>
            Γ.fn f (.u (.ref p) :: svs) G2 (fun k as G3 => X k as ρ2 G3) fun r G3 => Q r ρ2 G3
        | _ => False
      | _ => False
  | .bcall b args, ρ, G, X, Q => wpEs args ρ G X fun rs ρ1 G1 => bfK b rs ρ1 G1 fun r => Q r ρ1 G1
  | .bmeth m o args, ρ, G, X, Q => wpE o ρ G X fun ro ρ1 G1 => vwK ro ρ1 G1 fun x => Br (recM m x) (wpEs args ρ1 G1 X fun rs ρ2 G2 => mtK m ro rs ρ2 G2 Q) False
  | .isin a ts, ρ, G, X, Q => wpE a ρ G X fun ra ρ1 G1 => vwK ra ρ1 G1 fun x => Q (.u (.bl (ts.any fun t => tyU t x))) ρ1 G1
  | .isx i j, ρ, G, _, Q => match ρ[i]? with
    | some (some (.exc a dv)) => match Γ.cur with
      | some (b, e, k, _) => a = b ∧ dvOk dv e ∧ Q (.u (.bl (P.sup k j))) ρ G
      | _ => False
    | _ => False
  | .isxs i js, ρ, G, _, Q => match ρ[i]? with
    | some (some (.exc a dv)) => match Γ.cur with
      | some (b, e, k, _) => a = b ∧ dvOk dv e ∧ Q (.u (.bl (js.any fun j => P.sup k j))) ρ G
      | _ => False
    | _ => False
  | .tup es, ρ, G, X, Q => wpEs es ρ G X fun rs ρ1 G1 => toUs rs ρ1 fun vs ρ2 => vs.length ≤ sizeLine ∧ Q (.u (.tup vs)) ρ2 G1
  | .lst es, ρ, G, X, Q => wpEs es ρ G X fun rs ρ1 G1 => toUs rs ρ1 fun vs ρ2 => vs.length ≤ sizeLine ∧ Q (.tmp (.lst vs)) ρ2 G1
  | .dic ks vs, ρ, G, X, Q => match ks with
    | .nil => Q (.tmp (.dic [] [])) ρ G
    | .cons _ _ => optK (litS ks) fun ss => wpEs vs ρ G X fun rs ρ1 G1 => toUs rs ρ1 fun us ρ2 => us.length = ss.length ∧ Q (.tmp (.dic (ss.map U.str) us)) ρ2 G1
  | .lc elt t it c own, ρ, G, X, Q => wpIt it ρ G X fun src ρ1 G1 => lcK src own (fun x ρ2 G2 K => asgT t (.u x) ρ2 G2 (fun _ _ _ _ => False) fun ρ3 G3 =>
      wpO c ρ3 G3 (fun _ _ _ _ => False) fun rc ρ4 G4 => cndK rc ρ4 G4 (wpE elt ρ4 G4 (fun _ _ _ _ => False) fun ry ρ5 G5 => toU ry ρ5 fun y ρ6 => K (some y) ρ6 G5) (K none ρ4 G4)) ρ1 G1 fun acc ρ2 G2 => Q (.tmp (.lst acc)) ρ2 G2
  | .new e, ρ, G, X, Q => wpE e ρ G X fun r ρ1 G1 => match r with
      | .tmp c => ∀ a, G1 a = none → Q (.u (.ref a)) ρ1 (put G1 a (.con c))
      | _ => False
  | .itl it, ρ, G, X, Q => wpIt it ρ G X fun src ρ1 G1 => match src with
      | .fix xs => xs.length ≤ sizeLine ∧ Q (.tmp (.lst xs)) ρ1 G1
      | .slot _ _ xs => xs.length ≤ sizeLine ∧ Q (.tmp (.lst xs)) ρ1 G1
      | .heap _ _ xs => xs.length ≤ sizeLine ∧ Q (.tmp (.lst xs)) ρ1 G1
def wpEs : Es → Rho → Hh → Xc → (List R → Rho → Hh → Prop) → Prop
  | .nil, ρ, G, _, Q => Q [] ρ G
  | .cons e es, ρ, G, X, Q => wpE e ρ G X fun r ρ1 G1 => wpEs es ρ1 G1 X fun rs ρ2 G2 => Q (r :: rs) ρ2 G2
def wpAnd : Es → Rho → Hh → Xc → Kc → Prop
  | .nil, _, _, _, _ => False
  | .cons e es, ρ, G, X, Q => match es with
    | .nil => wpE e ρ G X Q
    | .cons _ _ => wpE e ρ G X fun ra ρ1 G1 => tstK ra ρ1 G1 fun b => Br b (wpAnd es ρ1 G1 X Q) (Q (bvl ra false) ρ1 G1)
def wpOr : Es → Rho → Hh → Xc → Kc → Prop
  | .nil, _, _, _, _ => False
  | .cons e es, ρ, G, X, Q => match es with
    | .nil => wpE e ρ G X Q
    | .cons _ _ => wpE e ρ G X fun ra ρ1 G1 => tstK ra ρ1 G1 fun b => Br b (Q (bvl ra true) ρ1 G1) (wpOr es ρ1 G1 X Q)
def wpO : Oe → Rho → Hh → Xc → (Option R → Rho → Hh → Prop) → Prop
  | .none, ρ, G, _, Q => Q none ρ G
  | .some e, ρ, G, X, Q => wpE e ρ G X fun r ρ1 G1 => Q (some r) ρ1 G1
def asgT : T → R → Rho → Hh → Xc → (Rho → Hh → Prop) → Prop
  | .nm i, r, ρ, G, _, Q => asgN i r ρ fun ρ1 => Q ρ1 G
  | .tp ts, r, ρ, G, X, Q => match r with
    | .u (.tup xs) => xs.length = tsLen ts ∧ asgTs ts xs ρ G X Q
    | _ => False
  | .ix a b, r, ρ, G, X, Q => wpE a ρ G X fun ro ρ1 G1 => wpE b ρ1 G1 X fun ri ρ2 G2 => toU r ρ2 fun v ρ3 => ixK ri fun i => vwK ro ρ3 G2 fun o => setU o i v fun o' => putR ro o' ρ3 G2 Q
  | .fd a f, r, ρ, G, X, Q => wpE a ρ G X fun ro ρ1 G1 => toU r ρ1 fun v ρ2 => putA P ro f v G1 fun G2 => Q ρ2 G2
def asgTs : Ts → List U → Rho → Hh → Xc → (Rho → Hh → Prop) → Prop
  | .nil, xs, ρ, G, _, Q => xs = [] ∧ Q ρ G
  | .cons t ts, xs, ρ, G, X, Q => match xs with
    | x :: xs => asgT t (.u x) ρ G X fun ρ1 G1 => asgTs ts xs ρ1 G1 X Q
    | [] => False
def wpIt : It → Rho → Hh → Xc → (Src → Rho → Hh → Prop) → Prop
  | .seq e, ρ, G, X, Q => wpE e ρ G X fun r ρ1 G1 => srcK r ρ1 G1 anyU id fun s => Q s ρ1 G1
  | .rng a, ρ, G, X, Q => wpE a ρ G X fun r ρ1 G1 => match r with
      | .u (.int n) => (n < 2 ^ 62 ∧ -(2 ^ 62) ≤ n) ∧ Q (.fix (rangeI 0 n)) ρ1 G1
      | _ => False
  | .rng2 a b, ρ, G, X, Q => wpE a ρ G X fun r ρ1 G1 => wpE b ρ1 G1 X fun q ρ2 G2 => match r with
      | .u (.int m) => match q with
        | .u (.int n) => (n < 2 ^ 62 ∧ -(2 ^ 62) ≤ n ∧ m < 2 ^ 62 ∧ -(2 ^ 62) ≤ m) ∧ Q (.fix (rangeI m n)) ρ2 G2
        | _ => False
      | _ => False
  | .enm e, ρ, G, X, Q => wpE e ρ G X fun r ρ1 G1 => srcK r ρ1 G1 isLT (enumI 0) fun s => Q s ρ1 G1
  | .zip a b, ρ, G, X, Q => wpE a ρ G X fun r ρ1 G1 => wpE b ρ1 G1 X fun q ρ2 G2 => match r with
      | .u x => match q with
        | .u y => zipK x y fun us => Q (.fix us) ρ2 G2
        | _ => False
      | _ => False
  | .rev e, ρ, G, X, Q => wpE e ρ G X fun r ρ1 G1 => srcK r ρ1 G1 isLT List.reverse fun s => Q s ρ1 G1
end

end
section
variable (P : Pg)
def whlN (test : Rho → Hh → (Bool → Rho → Hh → Prop) → Prop) (body : Rho → Hh → (Rho → Hh → Prop) → Prop) : Nat → Rho → Hh → (Rho → Hh → Prop) → Prop
  | 0, _, _, _ => False
  | n + 1, ρ, G, Q => test ρ G fun b ρ1 G1 => Br b (body ρ1 G1 fun ρ2 G2 => ∃ G3, Sub G3 G2 ∧ whlN test body n ρ2 G3 Q) (Q ρ1 G1)
mutual
def wpS : Cal → S → Rho → Hh → Nx → Kc → Nx → Xc → Prop
  | Γ, .ex e, ρ, G, nx, _, _, ex => wpE P Γ e ρ G ex fun _ ρ1 G1 => nx ρ1 G1
  | Γ, .asg t e, ρ, G, nx, _, _, ex => wpE P Γ e ρ G ex fun r ρ1 G1 => asgT P Γ t r ρ1 G1 ex nx
  | Γ, .ret e, ρ, G, _, rt, _, ex => wpE P Γ e ρ G ex rt
  | Γ, .retn, ρ, G, _, rt, _, _ => rt (.u .non) ρ G
  | Γ, .ite c a b, ρ, G, nx, rt, ct, ex => wpE P Γ c ρ G ex fun r ρ1 G1 => tstK r ρ1 G1 fun k => Br k (wpSs Γ a ρ1 G1 nx rt ct ex) (wpSs Γ b ρ1 G1 nx rt ct ex)
  | Γ, .for_ t it b, ρ, G, nx, rt, _, ex => wpIt P Γ it ρ G ex fun src ρ1 G1 => forK src (fun x ρ2 G2 K => asgT P Γ t (.u x) ρ2 G2 ex fun ρ3 G3 => wpSs Γ b ρ3 G3 K rt K ex) ρ1 G1 nx
  | Γ, .whl c b, ρ, G, nx, rt, _, ex => ∃ n, whlN (fun ρ1 G1 K => wpE P Γ c ρ1 G1 ex fun r ρ2 G2 => tstK r ρ2 G2 fun k => K k ρ2 G2) (fun ρ1 G1 K => wpSs Γ b ρ1 G1 K rt K ex) n ρ G nx
  | Γ, .rais k args, ρ, G, _, _, _, ex => wpEs P Γ args ρ G ex fun rs ρ1 G1 => toUs rs ρ1 fun vs ρ2 => ex k vs ρ2 G1
  | Γ, .tri b hs, ρ, G, nx, rt, ct, ex => wpSs Γ b ρ G nx rt ct fun k as ρ1 G1 => wpHs Γ hs k as ρ1 G1 nx rt ct ex
  | Γ, .pass, ρ, G, nx, _, _, _ => nx ρ G
  | Γ, .cont, ρ, G, _, _, ct, _ => ct ρ G
  | Γ, .fork i t b, ρ, G, nx, rt, _, _ => match ρ[i]? with
    | some (some sv) => forkK i sv ρ G (fun rt' x ρ2 G2 K => asgT P Γ t (.u x) ρ2 G2 (fun _ _ _ _ => False) fun ρ3 G3 => wpSs Γ b ρ3 G3 K rt' K fun _ _ _ _ => False) rt nx
    | _ => False
  | Γ, .par i j a b, ρ, G, nx, _, _, ex => wpEs P Γ (.cons a (.cons b .nil)) ρ G ex fun rs ρ1 G1 => parK rs fun v w => setK ρ1 i (some (.u v)) fun ρ2 => setK ρ2 j (some (.u w)) fun ρ3 => nx ρ3 G1
def wpSs : Cal → Ss → Rho → Hh → Nx → Kc → Nx → Xc → Prop
  | Γ, .nil, ρ, G, nx, _, _, _ => nx ρ G
  | Γ, .cons s ss, ρ, G, nx, rt, ct, ex => wpS Γ s ρ G (fun ρ1 G1 => wpSs Γ ss ρ1 G1 nx rt ct ex) rt ct ex
def wpHs : Cal → Hs → Nat → List U → Rho → Hh → Nx → Kc → Nx → Xc → Prop
  | Γ, .nil, k, as, ρ, G, _, _, _, ex => ex k as ρ G
  | Γ, .cons ks sl b hs, k, as, ρ, G, nx, rt, ct, ex => Br (ks.any (fun j => P.sup k j))
      (match sl with
      | some i => ∀ a d, setK ρ i (some (.exc a (xcV d (P.xfs k) as))) fun ρ0 => wpSs ⟨Γ.fn, some (a, xcD d as, k, as)⟩ b ρ0 G (fun ρ1 G1 => setK ρ1 i none fun ρ2 => nx ρ2 G1) rt (fun ρ1 G1 => setK ρ1 i none fun ρ2 => ct ρ2 G1) (fun _ _ _ _ => False)
      | none => wpSs Γ b ρ G nx rt ct (fun _ _ _ _ => False))
      (wpHs Γ hs k as ρ G nx rt ct ex)
end
end

/-- what a def hands back: a slot's list is the caller's then -/
def finR (r : R) (ρ : Rho) (K : R → Prop) : Prop :=
  match r with
  | .lv i => match ρ[i]? with
    | some (some (.own c)) => K (.tmp c)
    | _ => False
  | .exc _ => False
  | r => K r
def fin (r : R) (ρ : Rho) (G : Hh) (Q : R → Hh → Prop) : Prop := finR r ρ fun r' => ∃ G', Sub G' G ∧ Q r' G'
def callN (P : Pg) : Nat → CalF
  | 0 => fun _ _ _ _ _ => False
  | n + 1 => fun f svs G X Q => optK (P.fns f) fun d => startK d.np svs d.nl fun ρ => wpSs P (callN P n) d.body ρ G
      (fun ρ G' => fin (.u .non) ρ G' Q) (fun r ρ G' => fin r ρ G' Q) (fun _ _ => False) (fun k as _ G' => ∃ G'', Sub G'' G' ∧ X k as G'')
end Mp

/-! Mp2: the check that a small text stands for a text of the program (positions are not looked at). -/
namespace Mp
open PySem

structure Ck where
  N : List Str
  sc : Scope
  blk : Option Scope
  fnm : List (Nat × Str)
  cnm : List (Nat × Str)
  cst : List (Str × U)
  /-- own exceptions that are raised without a word -/
  xnm : List (Nat × Str) := []
  /-- fields -/
  fdn : List (Nat × Str) := []
  /-- methods: def, class, name -/
  mth : List (Nat × Nat × Str) := []
  /-- classes: their __init__ def, class, name -/
  mks : List (Nat × Nat × Str) := []
  /-- own exceptions with one argument -/
  xn1 : List (Nat × Str) := []
  /-- within an except suite -/
  hot : Bool := false

def visB (sc : Scope) (x : Str) : Bool :=
  match sc.names.lookup x with
  | some .local => true
  | some .cell => true
  | some .free => true
  | _ => false
def locB (sc : Scope) (x : Str) : Bool :=
  match sc.names.lookup x with
  | some .local => true
  | some .cell => true
  | _ => false
def lclB (sc : Scope) (x : Str) : Bool :=
  match sc.names.lookup x with
  | some .local => true
  | _ => false
def glB (sc : Scope) (x : Str) : Bool :=
  match sc.names.lookup x with
  | some .globalImplicit => true
  | _ => false
def strS (s : List Nat) : Str := ⟨s.toArray⟩
def goodB (s : List Nat) : Bool := decide (s.length ≤ 1000) && s.all fun c => decide (c < 1114112)
def okNm (x : Str) : Bool := decide (x ≠ ("__debug__" : Str)) && decide (x ≠ ("__classdict__" : Str)) && decide (x ≠ ("__name__" : Str))
def Ck.loc (K : Ck) (i : Nat) (x : Str) : Bool := decide (K.N[i]? = some x) && visB K.sc x && okNm x
def Ck.sto (K : Ck) (i : Nat) (x : Str) : Bool := decide (K.N[i]? = some x) && okNm x && (match K.blk with
  | none => locB K.sc x
  | some s => locB s x)
def Ck.glob (K : Ck) (x : Str) : Bool := glB K.sc x && okNm x
def Bf.name : Bf → String
  | .len => "len" | .int => "int" | .str => "str" | .list => "list" | .tuple => "tuple" | .abs => "abs" | .sum => "sum" | .all => "all" | .any => "any" | .min => "min" | .max => "max" | .sorted => "sorted" | .dict => "dict" | .rev => "reversed" | .lset => "set"
def Mt.name : Mt → String
  | .append => "append" | .extend => "extend" | .pop => "pop" | .sindex => "index" | .join => "join" | .startswith => "startswith" | .split => "split" | .get => "get" | .dpop => "pop" | .lindex => "index"
def BOp.op : BOp → Operator
  | .add => .Add | .sub => .Sub | .mul => .Mult | .fdiv => .FloorDiv | .mod => .Mod | .pow => .Pow
def COp.op : COp → CmpOp
  | .eq => .Eq | .ne => .NotEq | .lt => .Lt | .le => .LtE | .gt => .Gt | .ge => .GtE | .inn => .In | .nin => .NotIn
def Ck.isNm (K : Ck) (n : String) : Expr → Bool
  | .Name x _ => decide (x = Str.ofString n) && K.glob x
  | _ => false
def Ck.ty (K : Ck) (t : Ty) (e : Expr) : Bool :=
  match t with
  | .int => K.isNm "int" e
  | .bool => K.isNm "bool" e
  | .str => K.isNm "str" e
  | .list => K.isNm "list" e
  | .tuple => K.isNm "tuple" e
  | .dict => K.isNm "dict" e
  | .cls _ => false
def Ck.tys (K : Ck) : List Ty → List Expr → Bool
  | [], [] => true
  | t :: ts, e :: es => K.ty t e && K.tys ts es
  | _, _ => false
def ownOf (N : List Str) (own : List Nat) : List (Str × Nat) := own.map fun i => (N.getD i ⟨#[]⟩, i)
def Ck.inner (K : Ck) (scope : Scope) : Ck := { K with sc := L2.relS scope K.sc, blk := some scope }

def plainX : Expr → Bool
  | .Starred _ _ => false
  | .Slice _ _ _ _ => false
  | .Set _ _ _ => false
  | _ => true
/-- a test of it asks its value -/
def plainT : Expr → Bool
  | .UnaryOp .Not _ _ => false
  | .BoolOp _ _ _ => false
  | .IfExp _ _ _ _ => false
  | .Compare _ _ _ _ => false
  | _ => true
def notSup : Expr → Bool
  | .Call (.Name id _) _ _ _ => decide (id ≠ "super")
  | _ => true
def isTup : Expr → Bool
  | .Tuple _ _ _ => true
  | _ => false
def itT (it : It) (tg : Expr) : Bool :=
  match it with
  | .enm _ => isTup tg
  | .zip _ _ => isTup tg
  | _ => true
def dclsB (K : Ck) : List Nat → List Expr → Bool
  | [], [] => true
  | k :: ks, .Name x _ :: es => K.glob x && decide (K.cnm.lookup k = some x) && dclsB K ks es
  | _, _ => false
def Mt.isD : Mt → Bool
  | .get => true | .dpop => true | _ => false
def fewD : Es → Bool
  | .cons _ .nil => true
  | .cons _ (.cons _ .nil) => true
  | _ => false
/-- texts as keys -/
def ckKs : Es → List (Option Expr) → Bool
  | .nil, es => match es with
    | [] => true
    | _ :: _ => false
  | .cons k ks, es => match es with
    | [] => false
    | oe :: es => (match k, oe with
      | .str s, some (.Constant (.str t) _ _) => decide (strS s = t) && goodB s
      | _, _ => false) && ckKs ks es
def esNil : Es → Bool
  | .nil => true
  | .cons _ _ => false
mutual
def ckE (K : Ck) (m : E) (e : Expr) : Bool := plainX e && match m with
  | .loc i => match e with
    | .Name x _ => K.loc i x
    | _ => false
  | .int i => match e with
    | .Constant (.int j) _ _ => decide (i = j)
    | _ => false
  | .str s => match e with
    | .Constant (.str t) _ _ => decide (strS s = t) && goodB s
    | _ => false
  | .bl b => match e with
    | .Constant (.bool c) _ _ => decide (b = c)
    | _ => false
  | .non => match e with
    | .Constant .none _ _ => true
    | _ => false
  | .cst v => match e with
    | .Name x _ => K.glob x && (K.cst.any fun p => decide (p.1 = x) && (match v, p.2 with
        | .int i, .int j => decide (i = j)
        | .str s, .str t => decide (s = t) && goodB s
        | _, _ => false))
    | _ => false
  | .bin op a b => match e with
    | .BinOp x o y _ => decide (o = op.op) && ckE K a x && ckE K b y
    | _ => false
  | .neg a => match e with
    | .UnaryOp .USub x _ => ckE K a x
    | _ => false
  | .not_ a => match e with
    | .UnaryOp .Not x _ => ckE K a x
    | _ => false
  | .and_ a es => match e with
    | .BoolOp .And (x :: y :: xs) _ => ckE K a x && ckEs K es (y :: xs)
    | _ => false
  | .or_ a es => match e with
    | .BoolOp .Or (x :: y :: xs) _ => ckE K a x && ckEs K es (y :: xs)
    | _ => false
  | .cmp op a b => match e with
    | .Compare x [o] [y] _ => decide (o = op.op) && ckE K a x && ckE K b y
    | _ => false
  | .chain o1 o2 a b c => match e with
    | .Compare x [p1, p2] [y, z] _ => decide (p1 = o1.op) && decide (p2 = o2.op) && ckE K a x && ckE K b y && ckE K c z
    | _ => false
  | .isN a neg => match e with
    | .Compare x [o] [.Constant .none _ _] _ => decide (o = if neg then .IsNot else .Is) && ckE K a x
    | _ => false
  | .isB a v neg => match e with
    | .Compare x [o] [.Constant (.bool c) _ _] _ => decide (o = if neg then .IsNot else .Is) && decide (v = c) && ckE K a x
    | _ => false
  | .idx a b => match e with
    | .Subscript x y _ => ckE K a x && ckE K b y
    | _ => false
  | .slc a lo hi => match e with
    | .Subscript x (.Slice l h none _) _ => ckE K a x && ckO K lo l && ckO K hi h
    | _ => false
  | .fld a f => match e with
    | .Attribute x n _ => decide (K.fdn.lookup f = some n) && ckE K a x && notSup x
    | _ => false
  | .frz i => match e with
    | .Name x _ => K.loc i x
    | _ => false
  | .exf i f => match e with
    | .Attribute (.Name x _) n _ => K.loc i x && decide (K.fdn.lookup f = some n) && decide (x ≠ "super")
    | _ => false
  | .call f args => match e with
    | .Call (.Name x _) es [] _ => !K.hot && K.glob x && decide (K.fnm.lookup f = some x) && ckEs K args es
    | _ => false
  | .make k f args => match e with
    | .Call (.Name x _) es [] _ => !K.hot && K.glob x && decide (K.mks.lookup f = some (k, x)) && ckEs K args es
    | _ => false
  | .meth k f o args => match e with
    | .Call (.Attribute x n ap) es [] cp => !K.hot && decide (K.mth.lookup f = some (k, n)) && ckE K o x && ckEs K args es && notSup x && (ap.endLine == cp.line) && decide (es.length < 9)
    | _ => false
  | .bcall b args => match e with
    | .Call x es [] _ => !K.hot && (match b with
      | .rev => false
      | .lset => (match es with
        | [.Call y [z] [] _] => K.isNm "len" x && K.isNm "set" y && ckEs K args [z]
        | _ => false)
      | b => K.isNm b.name x && ckEs K args es)
    | .Subscript x (.Slice none none (some (.UnaryOp .USub (.Constant (.int j) _ _) _)) _) _ => decide (b = .rev) && decide (j = 1) && ckEs K args [x]
    | _ => false
  | .bmeth m o args => match e with
    | .Call (.Attribute x n ap) es [] cp => (!K.hot || decide (m = .append)) && decide (n = Str.ofString m.name) && ckE K o x && ckEs K args es && notSup x && (ap.endLine == cp.line) && decide (es.length < 9) && (!m.isD || fewD args)
    | _ => false
  | .isx i j => match e with
    | .Call f [.Name x _, .Name y _] [] _ => K.isNm "isinstance" f && K.loc i x && K.glob y && decide (K.cnm.lookup j = some y)
    | _ => false
  | .isxs i js => match e with
    | .Call f [.Name x _, .Tuple ys _ _] [] _ => K.isNm "isinstance" f && K.loc i x && dclsB K js ys && decide (ys.length ≤ 1000)
    | _ => false
  | .isin a ts => match e with
    | .Call f [x, t] [] _ => K.isNm "isinstance" f && ckE K a x && (match ts with
        | [ty] => K.ty ty t
        | _ => false)
    | _ => false
  | .tup es => match e with
    | .Tuple xs _ _ => ckEs K es xs && decide (xs.length ≤ 1000)
    | _ => false
  | .lst es => match e with
    | .List xs _ => ckEs K es xs && decide (xs.length ≤ 1000)
    | _ => false
  | .dic ks vs => match e with
    | .Dict keys vals _ => (match keys with
      | [] => esNil ks && esNil vs && vals.isEmpty
      | _ :: _ => ckKs ks keys && ckEs K vs vals && decide (keys.length = vals.length) && decide (keys.length ≤ 15) && (match litS ks with
        | some ss => decide ss.Nodup
        | none => false))
    | _ => false
  | .lc elt t it c own => match e with
    | .ListComp x [⟨tg, iter, ifs, 0⟩] scope _ => !K.hot && ckIt K it iter && itT it tg && L2.blkC K.N K.sc scope (ownOf K.N own) && tgB own t && ckT (K.inner scope) t tg && ckE (K.inner scope) elt x &&
        (match ifs with
        | [] => (match c with
          | .none => true
          | .some _ => false)
        | [y] => ckO (K.inner scope) c (some y)
        | _ => false)
    | _ => false
  | .new a => ckE K a e && plainT e
  | .itl it => match e with
    | .Call f [x] [] _ => !K.hot && K.isNm "list" f && ckIt K it x && plainX x && (match it with
        | .rng _ => true
        | .rng2 _ _ => true
        | _ => false)
    | _ => false
def ckEs (K : Ck) : Es → List Expr → Bool
  | .nil, es => match es with
    | [] => true
    | _ :: _ => false
  | .cons a as, es => match es with
    | [] => false
    | e :: es => ckE K a e && ckEs K as es
def ckO (K : Ck) : Oe → Option Expr → Bool
  | .none, e => match e with
    | none => true
    | some _ => false
  | .some a, e => match e with
    | none => false
    | some x => ckE K a x
def ckT (K : Ck) : T → Expr → Bool
  | .nm i, e => match e with
    | .Name x _ => K.sto i x
    | _ => false
  | .tp ts, e => match e with
    | .Tuple es _ _ => !K.hot && ckTs K ts es
    | _ => false
  | .ix a b, e => match e with
    | .Subscript x y _ => ckE K a x && ckE K b y
    | _ => false
  | .fd a f, e => match e with
    | .Attribute x n _ => decide (K.fdn.lookup f = some n) && ckE K a x
    | _ => false
def ckTs (K : Ck) : Ts → List Expr → Bool
  | .nil, es => match es with
    | [] => true
    | _ :: _ => false
  | .cons t ts, es => match es with
    | [] => false
    | e :: es => ckT K t e && ckTs K ts es
def ckIt (K : Ck) : It → Expr → Bool
  | .seq a, e => ckE K a e
  | .rng a, e => match e with
    | .Call f [x] [] _ => K.isNm "range" f && ckE K a x
    | _ => false
  | .rng2 a b, e => match e with
    | .Call f [x, y] [] _ => K.isNm "range" f && ckE K a x && ckE K b y
    | _ => false
  | .enm a, e => match e with
    | .Call f [x] [] _ => K.isNm "enumerate" f && ckE K a x
    | _ => false
  | .zip a b, e => match e with
    | .Call f [x, y] [] _ => !K.hot && K.isNm "zip" f && ckE K a x && ckE K b y
    | _ => false
  | .rev a, e => match e with
    | .Call f [x] [] _ => K.isNm "reversed" f && ckE K a x
    | _ => false
end
def isLc : Expr → Bool
  | .ListComp _ _ _ _ => true
  | .SetComp _ _ _ _ => true
  | .DictComp _ _ _ _ _ => true
  | _ => false
def notNm : Expr → Bool
  | .Name _ _ => false
  | _ => true
/-- a comprehension stored under a local name, on its line -/
def lcNm (K : Ck) : Expr → Expr → Bool
  | .Name y py, .ListComp _ _ scope pos => (py.line == pos.line) && (match K.sc.names.lookup y with
    | some .local => true
    | _ => false) && !(scope.names.any fun (n, k) => n == y && (k == .local || k == .cell))
  | _, _ => false
/-- a name that inner blocks read -/
def celNm (K : Ck) : Expr → Bool
  | .Name y _ => (match K.sc.names.lookup y with
    | some .cell => true
    | _ => false)
  | _ => false
/-- one clause with a name, or clauses without -/
def noAs : Hs → Bool
  | .nil => true
  | .cons _ none _ hs => noAs hs
  | .cons _ (some _) _ _ => false
def oneAs : Hs → Bool
  | .cons _ (some _) _ .nil => true
  | hs => noAs hs
mutual
def ckS (K : Ck) : S → Stmt → Bool
  | .ex a, s => match s with
    | .Expr e _ => ckE K a e && !isLc e
    | _ => false
  | .asg t a, s => match s with
    | .Assign [tg] e _ => ckT K t tg && ckE K a e && !(isTup tg && isTup e) && (!isLc e || notNm tg || celNm K tg || (!K.hot && lcNm K tg e && (match a with
        | .lc _ _ _ _ _ => true
        | _ => false) && (match t with
        | .nm _ => true
        | _ => false)))
    | _ => false
  | .ret a, s => match s with
    | .Return (some e) _ => ckE K a e
    | _ => false
  | .retn, s => match s with
    | .Return none _ => true
    | _ => false
  | .ite c a b, s => match s with
    | .If e x y _ => ckE K c e && ckSs K a x && ckSs K b y
    | _ => false
  | .for_ t it b, s => match s with
    | .For tg iter x [] _ => !K.hot && ckT K t tg && ckIt K it iter && itT it tg && ckSs K b x
    | _ => false
  | .fork i t b, s => match s with
    | .For tg (.Name x _) ss [] _ => !K.hot && K.loc i x && ckT K t tg && ckSs K b ss
    | _ => false
  | .whl c b, s => match s with
    | .While e x [] _ => ckE K c e && ckSs K b x
    | _ => false
  | .rais k args, s => match s with
    | .Raise (some (.Call (.Name x _) es [] _)) none _ => !K.hot && K.glob x && (match args, es with
        | .nil, [] => decide (K.xnm.lookup k = some x)
        | .cons a .nil, [e] => decide (K.xn1.lookup k = some x) && ckE K a e
        | _, _ => false)
    | _ => false
  | .tri b hs, s => match s with
    | .Try x (h :: hl) [] [] _ => !K.hot && ckSs K b x && ckHs K hs (h :: hl) && oneAs hs
    | _ => false
  | .pass, s => match s with
    | .Pass _ => true
    | _ => false
  | .cont, s => match s with
    | .Continue _ => true
    | _ => false
  | .par i j a b, s => match s with
    | .Assign [.Tuple [.Name x px, .Name y py] _ _] (.Tuple [e1, e2] _ _) _ => !K.hot && K.sto i x && K.sto j y && decide (i ≠ j) && decide (x ≠ y) && lclB K.sc x && lclB K.sc y && (px.line == py.line) && ckE K a e1 && ckE K b e2 && !(foldedForSure 8 e1 && foldedForSure 8 e2) && !(constantsAlone 8 e1 && constantsAlone 8 e2)
    | _ => false
def ckHs (K : Ck) : Hs → List ExceptHandler → Bool
  | .nil, hl => match hl with
    | [] => true
    | _ :: _ => false
  | .cons ks sl b hs, hl => match hl with
    | .ExceptHandler (some (.Name x _)) n (y :: ys) _ :: hl => K.glob x && (match ks with
        | [j] => decide (K.cnm.lookup j = some x)
        | _ => false) && (match sl, n with
        | some i, some z => K.sto i z && lclB K.sc z
        | none, none => true
        | _, _ => false) && ckSs { K with hot := true } b (y :: ys) && ckHs K hs hl
    | _ => false
def ckSs (K : Ck) : Ss → List Stmt → Bool
  | .nil, ss => match ss with
    | [] => true
    | _ :: _ => false
  | .cons m ms, ss => match ss with
    | [] => false
    | s :: ss => ckS K m s && ckSs K ms ss
end
end Mp

/-! Mp3: how small states lie in the layer's states. -/
namespace Mp
open PySem L2

/-- what is known of a heap and is not excepted stays, and stays so -/
def Ext (H : Hp) (ex : Addr → Prop) (H' : Hp) (ex' : Addr → Prop) : Prop := ∀ a o, H a = some o → ¬ ex a → H' a = some o ∧ ¬ ex' a
theorem Ext.refl (H : Hp) (ex : Addr → Prop) : Ext H ex H ex := fun _ _ h n => ⟨h, n⟩
theorem Ext.trans {H H1 H2 : Hp} {e e1 e2 : Addr → Prop} (h : Ext H e H1 e1) (k : Ext H1 e1 H2 e2) : Ext H e H2 e2 := fun a o x n => k a o (h a o x n).1 (h a o x n).2
theorem Ext.sub {H : Hp} {e e' : Addr → Prop} (h : ∀ a, e' a → e a) : Ext H e H e' := fun a _ x n => ⟨x, fun q => n (h a q)⟩

/-- a text that may be: not too long, of signs that are -/
def GoodS (s : List Nat) : Prop := s.length ≤ sizeLine ∧ ∀ c ∈ s, c < 1114112
theorem GoodS.app {s t : List Nat} (h : GoodS s) (k : GoodS t) (l : s.length + t.length ≤ sizeLine) : GoodS (s ++ t) :=
  ⟨by rw [List.length_append]; exact l, fun c hc => (List.mem_append.mp hc).elim (h.2 c) (k.2 c)⟩
theorem GoodS.subl {s t : List Nat} (h : GoodS s) (l : t.length ≤ s.length) (m : ∀ c ∈ t, c ∈ s) : GoodS t := ⟨Nat.le_trans l h.1, fun c hc => h.2 c (m c hc)⟩
section
variable (K : PySem.W.Frag) (H : Hp) (ex : Addr → Prop)
/-- a tuple: known, or of the written part -/
def TpAt (a : Addr) (vs : List V) : Prop := (Rd H a (.tup vs) ∧ ¬ ex a) ∨
  ∃ (o : Obj) (its : Array Value) (n : Nat), K.lookup a = some o ∧ o.cls = .type "tuple" ∧ o.data = .seq its n ∧ its.size ≤ sizeLine ∧ Vals vs its.toList
/-- a list that nobody changes: known, or of the written part -/
def LsAt (a : Addr) (vs : List V) : Prop := (Rd H a (.lst vs) ∧ ¬ ex a) ∨
  ∃ (o : Obj) (its : Array Value) (n : Nat), K.lookup a = some o ∧ o.cls = .type "list" ∧ o.dict = none ∧ o.data = .seq its n ∧ its.size ≤ sizeLine ∧ Vals vs its.toList
def kKey : Key → U
  | .inl i => .int i
  | .inr x => .str x.cps.toList
mutual
def RepU : U → V → Prop
  | .non, v => v = .non
  | .bl b, v => v = .bl b
  | .int i, v => v = .int i
  | .str s, v => v = .str ⟨s.toArray⟩ ∧ GoodS s
  | .tup xs, v => ∃ a vs, v = .ref a ∧ TpAt K H ex a vs ∧ RepUs xs vs
  | .lst xs, v => ∃ a vs, v = .ref a ∧ LsAt K H ex a vs ∧ RepUs xs vs
  | .dic ks ws, v => ∃ a kvs, v = .ref a ∧ ¬ ex a ∧ Rd H a (.dK kvs) ∧ ks = kvs.map (fun p => kKey p.1) ∧ RepUs ws (kvs.map (·.2))
  | .set _, _ => False
  | .ref a, v => v = .ref a
def RepUs : List U → List V → Prop
  | [], vs => vs = []
  | x :: xs, vs => ∃ v r, vs = v :: r ∧ RepU x v ∧ RepUs xs r
end
/-- a content of a list or dict that may change -/
def RepC (u : U) (o : HO) : Prop :=
  match u with
  | .lst xs => ∃ vs, o = .lst vs ∧ RepUs K H ex xs vs
  | .dic ks ws => ∃ kvs, o = .dK kvs ∧ ks = kvs.map (fun p => kKey p.1) ∧ RepUs K H ex ws (kvs.map (·.2))
  | _ => False
def RepFs (fn : Nat → Str) : List (Nat × U) → List (Str × V) → Prop
  | [], fs => fs = []
  | (f, x) :: r, fs => ∃ v q, fs = (fn f, v) :: q ∧ RepU K H ex x v ∧ RepFs fn r q
end
/-- where classes lie, what fields are called -/
structure Cs where
  ca : Nat → Addr
  fn : Nat → Str
  inj : ∀ f g, fn f = fn g → f = g
  /-- the class has the field -/
  fd : Nat → Nat → Bool
/-- the class's fields stand in no class -/
def FdOk (ca : Nat → Addr) (fn : Nat → Str) (fd : Nat → Nat → Bool) (K : PySem.W.Frag) (k : Nat) : Prop := Cls K (ca k) ∧ ∀ f, fd k f = true → NoAttr K (ca k) (fn f)
instance : CoeFun Cs (fun _ => Nat → Addr) := ⟨Cs.ca⟩

theorem Rd.ext {H H' : Hp} {ex ex' : Addr → Prop} {a : Addr} {u : HO} (h : Ext H ex H' ex') (n : ¬ ex a) (r : Rd H a u) : Rd H' a u ∧ ¬ ex' a := by
  rcases r with r | ⟨o, r⟩
  · exact ⟨.inl (h _ _ r n).1, (h _ _ r n).2⟩
  · exact ⟨.inr ⟨o, (h _ _ r n).1⟩, (h _ _ r n).2⟩
mutual
theorem RepU.ext {K : PySem.W.Frag} {H H' : Hp} {ex ex' : Addr → Prop} (h : Ext H ex H' ex') : ∀ (u : U) {v : V}, RepU K H ex u v → RepU K H' ex' u v
  | .non, v, r => by simpa only [RepU] using r
  | .bl _, v, r => by simpa only [RepU] using r
  | .int _, v, r => by simpa only [RepU] using r
  | .str _, v, r => by simpa only [RepU] using r
  | .ref _, v, r => by simpa only [RepU] using r
  | .set _, v, r => by simp only [RepU] at r
  | .tup xs, v, r => by
    simp only [RepU] at r ⊢
    obtain ⟨a, vs, e, t, q⟩ := r
    refine ⟨a, vs, e, ?_, RepUs.ext h xs q⟩
    rcases t with ⟨t, n⟩ | t
    · exact .inl (Rd.ext h n t)
    · exact .inr t
  | .lst xs, v, r => by
    simp only [RepU] at r ⊢
    obtain ⟨a, vs, e, t, q⟩ := r
    refine ⟨a, vs, e, ?_, RepUs.ext h xs q⟩
    rcases t with ⟨t, n⟩ | t
    · exact .inl (Rd.ext h n t)
    · exact .inr t
  | .dic ks ws, v, r => by
    simp only [RepU] at r ⊢
    obtain ⟨a, kvs, e, n, t, e2, q⟩ := r
    exact ⟨a, kvs, e, (Rd.ext h n t).2, (Rd.ext h n t).1, e2, RepUs.ext h ws q⟩
theorem RepUs.ext {K : PySem.W.Frag} {H H' : Hp} {ex ex' : Addr → Prop} (h : Ext H ex H' ex') : ∀ (us : List U) {vs : List V}, RepUs K H ex us vs → RepUs K H' ex' us vs
  | [], vs, r => by simpa only [RepUs] using r
  | u :: us, vs, r => by
    simp only [RepUs] at r ⊢
    obtain ⟨v, q, e, r1, r2⟩ := r
    exact ⟨v, q, e, RepU.ext h u r1, RepUs.ext h us r2⟩
end
section
variable {K : PySem.W.Frag} {H H' : Hp} {ex ex' : Addr → Prop}
theorem RepC.ext (h : Ext H ex H' ex') {u : U} {o : HO} (r : RepC K H ex u o) : RepC K H' ex' u o := by
  cases u <;> simp only [RepC] at r ⊢
  · obtain ⟨vs, e, q⟩ := r
    exact ⟨vs, e, RepUs.ext h _ q⟩
  · obtain ⟨kvs, e, e2, q⟩ := r
    exact ⟨kvs, e, e2, RepUs.ext h _ q⟩
theorem RepFs.ext {fn : Nat → Str} (h : Ext H ex H' ex') : ∀ {fs : List (Nat × U)} {gs : List (Str × V)}, RepFs K H ex fn fs gs → RepFs K H' ex' fn fs gs
  | [], _, r => r
  | (f, x) :: fs, gs, r => by
    obtain ⟨v, q, e, r1, r2⟩ := r
    exact ⟨v, q, e, RepU.ext h x r1, RepFs.ext h r2⟩
theorem RepUs.length : ∀ {us : List U} {vs : List V}, RepUs K H ex us vs → us.length = vs.length
  | [], vs, r => by simp only [RepUs] at r; rw [r]; rfl
  | u :: us, vs, r => by
    simp only [RepUs] at r
    obtain ⟨v, q, e, r1, r2⟩ := r
    rw [e, List.length_cons, List.length_cons, RepUs.length r2]
theorem RepUs.append : ∀ {us ws : List U} {vs xs : List V}, RepUs K H ex us vs → RepUs K H ex ws xs → RepUs K H ex (us ++ ws) (vs ++ xs)
  | [], ws, vs, xs, r, q => by simp only [RepUs] at r; rw [r]; exact q
  | u :: us, ws, vs, xs, r, q => by
    simp only [RepUs] at r
    obtain ⟨v, t, e, r1, r2⟩ := r
    rw [e]
    show RepUs K H ex (u :: (us ++ ws)) (v :: (t ++ xs))
    simp only [RepUs]
    exact ⟨v, _, rfl, r1, RepUs.append r2 q⟩
theorem RepUs.get : ∀ {us : List U} {vs : List V} {i : Nat} {u : U}, RepUs K H ex us vs → us[i]? = some u → ∃ v, vs[i]? = some v ∧ RepU K H ex u v
  | [], vs, i, u, r, e => by simp at e
  | x :: us, vs, i, u, r, e => by
    simp only [RepUs] at r
    obtain ⟨v, t, e1, r1, r2⟩ := r
    subst e1
    cases i with
    | zero =>
      simp at e
      subst e
      exact ⟨v, by simp, r1⟩
    | succ i =>
      obtain ⟨w, h1, h2⟩ := RepUs.get (i := i) r2 (by simpa using e)
      exact ⟨w, by simpa using h1, h2⟩
theorem RepUs.getV {us : List U} {vs : List V} {i : Nat} {v : V} (r : RepUs K H ex us vs) (e : vs[i]? = some v) : ∃ u, us[i]? = some u ∧ RepU K H ex u v := by
  have hl := r.length
  obtain ⟨h, _⟩ := List.getElem?_eq_some_iff.mp e
  obtain ⟨w, h1, h2⟩ := r.get (List.getElem?_eq_getElem (show i < us.length by omega))
  rw [e] at h1
  cases h1
  exact ⟨_, List.getElem?_eq_getElem _, h2⟩
theorem RepUs.take : ∀ {us : List U} {vs : List V} (n : Nat), RepUs K H ex us vs → RepUs K H ex (us.take n) (vs.take n)
  | [], vs, n, r => by simp only [RepUs] at r; rw [r]; simp [RepUs]
  | x :: us, vs, 0, r => by simp [RepUs]
  | x :: us, vs, n + 1, r => by
    simp only [RepUs] at r
    obtain ⟨v, t, e, r1, r2⟩ := r
    rw [e, List.take_succ_cons, List.take_succ_cons]
    simp only [RepUs]
    exact ⟨v, _, rfl, r1, RepUs.take n r2⟩
theorem RepUs.drop : ∀ {us : List U} {vs : List V} (n : Nat), RepUs K H ex us vs → RepUs K H ex (us.drop n) (vs.drop n)
  | [], vs, n, r => by simp only [RepUs] at r; rw [r]; simp [RepUs]
  | x :: us, vs, 0, r => r
  | x :: us, vs, n + 1, r => by
    simp only [RepUs] at r
    obtain ⟨v, t, e, r1, r2⟩ := r
    rw [e]
    exact RepUs.drop n r2
theorem RepUs.reverse : ∀ {us : List U} {vs : List V}, RepUs K H ex us vs → RepUs K H ex us.reverse vs.reverse
  | [], vs, r => by simp only [RepUs] at r; rw [r]; simp [RepUs]
  | x :: us, vs, r => by
    simp only [RepUs] at r
    obtain ⟨v, t, e, r1, r2⟩ := r
    rw [e, List.reverse_cons, List.reverse_cons]
    exact (RepUs.reverse r2).append (by simp only [RepUs]; exact ⟨v, [], rfl, r1, rfl⟩)
theorem RepUs.set : ∀ {us : List U} {vs : List V} (i : Nat) {u : U} {v : V}, RepUs K H ex us vs → RepU K H ex u v → RepUs K H ex (us.set i u) (vs.set i v)
  | [], vs, i, u, v, r, _ => by simp only [RepUs] at r; rw [r]; simp [RepUs]
  | x :: us, vs, 0, u, v, r, q => by
    simp only [RepUs] at r
    obtain ⟨w, t, e, r1, r2⟩ := r
    rw [e, List.set_cons_zero, List.set_cons_zero]
    simp only [RepUs]
    exact ⟨v, t, rfl, q, r2⟩
  | x :: us, vs, i + 1, u, v, r, q => by
    simp only [RepUs] at r
    obtain ⟨w, t, e, r1, r2⟩ := r
    rw [e, List.set_cons_succ, List.set_cons_succ]
    simp only [RepUs]
    exact ⟨w, _, rfl, r1, RepUs.set i r2 q⟩
theorem RepUs.dropLast {us : List U} {vs : List V} (r : RepUs K H ex us vs) : RepUs K H ex us.dropLast vs.dropLast := by
  rw [List.dropLast_eq_take, List.dropLast_eq_take, r.length]
  exact r.take _
end

/-! ### states -/
/-- where the small state may write -/
def fp (σ : L2.St) (ρ : Rho) (G : Hh) : Addr → Prop := fun a => (∃ o, G a = some o) ∨ ∃ (i : Nat) (u : U), ρ[i]? = some (some (.own u)) ∧ σ[i]? = some (some (.ref a))
def Or2 (A B : Addr → Prop) : Addr → Prop := fun a => A a ∨ B a
def One (p : Addr) : Addr → Prop := fun a => a = p
/-- a caught exception: where it lies, its dict with one field -/
def RepE (K : PySem.W.Frag) (H : Hp) (ex : Addr → Prop) (a : Addr) (d : Option (Addr × Str × U)) (v : V) : Prop :=
  v = .ref a ∧ match d with
    | none => True
    | some (dd, s, x) => ∃ w, H dd = some (.xd [(s, w)]) ∧ ¬ ex dd ∧ RepU K H ex x w
theorem RepE.ext {K : PySem.W.Frag} {H H' : Hp} {ex ex' : Addr → Prop} {a : Addr} {d : Option (Addr × Str × U)} {v : V} (h : Ext H ex H' ex') (r : RepE K H ex a d v) : RepE K H' ex' a d v := by
  obtain ⟨e, r⟩ := r
  refine ⟨e, ?_⟩
  match d, r with
  | none, _ => trivial
  | some (dd, s, x), ⟨w, h1, h2, h3⟩ => exact ⟨w, (h dd _ h1 h2).1, (h dd _ h1 h2).2, RepU.ext h x h3⟩
section
variable (ca : Cs) (K : PySem.W.Frag) (L : Addr → Prop) (H : Hp) (ex fpr : Addr → Prop)
def RepS (sv : SV) (v : V) : Prop :=
  match sv with
  | .u x => RepU K H ex x v
  | .own x => ∃ a o, v = .ref a ∧ H a = some o ∧ RepC K H ex x o
  | .fz t x => v = .ref t ∧ (¬ fpr t ∧ L t) ∧ ∃ o, Rd H t o ∧ RepC K H ex x o
  | .exc a d => RepE K H ex a d v
def RepO (o : O) (ho : HO) : Prop :=
  match o with
  | .con u => RepC K H ex u ho
  | .ins k fs => FdOk ca.ca ca.fn ca.fd K k ∧ (∀ p ∈ fs, ca.fd k p.1 = true) ∧ ∃ dx gs, ho = .ins (ca k) dx gs ∧ RepFs K H ex ca.fn fs gs
end
structure Rep (ca : Cs) (K : PySem.W.Frag) (L Z : Addr → Prop) (σ : L2.St) (H : Hp) (ρ : Rho) (G : Hh) : Prop where
  len : σ.length = ρ.length
  slot : ∀ (i : Nat) (sv : SV), ρ[i]? = some (some sv) → ∃ v, σ[i]? = some (some v) ∧ RepS K L H (Or2 (fp σ ρ G) Z) (fp σ ρ G) sv v
  own : ∀ (i j : Nat) (u w : U) (a : Addr), ρ[i]? = some (some (.own u)) → ρ[j]? = some (some (.own w)) → σ[i]? = some (some (.ref a)) → σ[j]? = some (some (.ref a)) → i = j
  ownG : ∀ (i : Nat) (u : U) (a : Addr), ρ[i]? = some (some (.own u)) → σ[i]? = some (some (.ref a)) → G a = none
  heap : ∀ a o, G a = some o → ∃ ho, H a = some ho ∧ RepO ca K H (Or2 (fp σ ρ G) Z) o ho
  zd : ∀ a, Z a → ¬ fp σ ρ G a ∧ ∃ o, H a = some o

/-- what only the answer r has -/
def Hd (r : R) (v : V) : Addr → Prop := fun a => match r with
  | .tmp _ => v = .ref a
  | _ => False
def Val (K : PySem.W.Frag) (H : Hp) (ex : Addr → Prop) (σ : L2.St) (r : R) (v : V) : Prop := match r with
  | .u x => RepU K H ex x v
  | .tmp x => ∃ p o, v = .ref p ∧ H p = some o ∧ RepC K H ex x o
  | .lv i => σ[i]? = some (some v)
  | .exc a => v = .ref a
/-- an expression's answer r, in the state behind: H0, f0 the heap and the write set ahead -/
structure RepR (ca : Cs) (K : PySem.W.Frag) (L Z : Addr → Prop) (σ : L2.St) (H0 : Hp) (f0 : Addr → Prop) (H : Hp) (ρ : Rho) (G : Hh) (r : R) (v : V) : Prop where
  rep : Rep ca K L (Or2 Z (Hd r v)) σ H ρ G
  val : Val K H (Or2 (fp σ ρ G) (Or2 Z (Hd r v))) σ r v
  new : ∀ p, Hd r v p → (H0 p = none ∨ f0 p) ∧ ¬ Z p

section
variable {ca : Cs} {K : PySem.W.Frag} {L Z Z' : Addr → Prop} {σ : L2.St} {H H' : Hp} {ρ ρ' : Rho} {G G' : Hh} {ex ex' : Addr → Prop} {r : R} {v : V} {u : U}
theorem RepS.ext {f f' : Addr → Prop} (h : Ext H ex H' ex') (hf : ∀ a o, H a = some o → ¬ f a → H' a = some o ∧ ¬ f' a) {sv : SV} (hown : ∀ x a, sv = .own x → v = .ref a → ∀ o, H a = some o → H' a = some o) (r : RepS K L H ex f sv v) : RepS K L H' ex' f' sv v := by
  cases sv with
  | u x => exact RepU.ext h x r
  | own x =>
    obtain ⟨a, o, e, e2, q⟩ := r
    exact ⟨a, o, e, hown x a rfl e o e2, q.ext h⟩
  | fz t x =>
    obtain ⟨e, ⟨n, l⟩, o, e2, q⟩ := r
    obtain ⟨e3, n3⟩ := Rd.ext (show Ext H f H' f' from hf) n e2
    exact ⟨e, ⟨n3, l⟩, o, e3, q.ext h⟩
  | exc k d => exact RepE.ext h r
theorem RepO.ext (h : Ext H ex H' ex') {o : O} {ho : HO} (r : RepO ca K H ex o ho) : RepO ca K H' ex' o ho := by
  cases o with
  | con u => exact RepC.ext h (show RepC K H ex u ho from r)
  | ins k fs =>
    obtain ⟨h1, h2, dx, gs, e, q⟩ := r
    exact ⟨h1, h2, dx, gs, e, q.ext h⟩
/-- fewer reserved addresses -/
theorem Rep.less (R : Rep ca K L Z σ H ρ G) (h : ∀ a, Z' a → Z a) : Rep ca K L Z' σ H ρ G := by
  have hx : Ext H (Or2 (fp σ ρ G) Z) H (Or2 (fp σ ρ G) Z') := Ext.sub fun a q => q.elim .inl fun z => .inr (h a z)
  refine ⟨R.len, fun i sv e => ?_, R.own, R.ownG, fun a o e => ?_, fun a z => R.zd a (h a z)⟩
  · obtain ⟨v, e1, q⟩ := R.slot i sv e
    exact ⟨v, e1, q.ext hx (fun a o x n => ⟨x, n⟩) fun _ _ _ _ _ e => e⟩
  · obtain ⟨ho, e1, q⟩ := R.heap a o e
    exact ⟨ho, e1, q.ext hx⟩
/-- where the write set lies -/
theorem Rep.mut (R : Rep ca K L Z σ H ρ G) {a : Addr} (h : fp σ ρ G a) : ∃ o, H a = some o ∧ ((∃ u, RepC K H (Or2 (fp σ ρ G) Z) u o) ∨ ∃ C dx gs, o = .ins C dx gs) := by
  rcases h with ⟨o, e⟩ | ⟨i, u, e1, e2⟩
  · obtain ⟨ho, e1, q⟩ := R.heap a o e
    refine ⟨ho, e1, ?_⟩
    cases o with
    | con u => exact .inl ⟨u, q⟩
    | ins k fs =>
      obtain ⟨_, _, dx, gs, e2, _⟩ := q
      exact .inr ⟨_, dx, gs, e2⟩
  · obtain ⟨v, e3, q⟩ := R.slot i _ e1
    obtain ⟨b, o, e4, e5, q⟩ := q
    rw [e2] at e3
    cases e3
    cases e4
    exact ⟨o, e5, .inl ⟨u, q⟩⟩
/-- the heap changes outside of what the state looks at -/
theorem Rep.heapExt (R : Rep ca K L Z σ H ρ G) (h : ∀ a o, H a = some o → H' a = some o) : Rep ca K L Z σ H' ρ G := by
  have hx : Ext H (Or2 (fp σ ρ G) Z) H' (Or2 (fp σ ρ G) Z) := fun a o e n => ⟨h a o e, n⟩
  refine ⟨R.len, fun i sv e => ?_, R.own, R.ownG, fun a o e => ?_, fun a z => ?_⟩
  · obtain ⟨v, e1, q⟩ := R.slot i sv e
    exact ⟨v, e1, q.ext hx (fun a o x n => ⟨h a o x, n⟩) fun _ _ _ _ o e => h _ o e⟩
  · obtain ⟨ho, e1, q⟩ := R.heap a o e
    exact ⟨ho, h _ _ e1, q.ext hx⟩
  · obtain ⟨n, o, e⟩ := R.zd a z
    exact ⟨n, o, h _ _ e⟩
/-- a new address is reserved -/
theorem Rep.more (R : Rep ca K L Z σ H ρ G) {N : Addr → Prop} {H' : Hp} (h : ∀ a o, H a = some o → H' a = some o) (hn : ∀ a, N a → H a = none ∧ ∃ o, H' a = some o) : Rep ca K L (Or2 Z N) σ H' ρ G := by
  have hN : ∀ a o, H a = some o → ¬ N a := fun a o e n => by rw [(hn a n).1] at e; cases e
  have hx : Ext H (Or2 (fp σ ρ G) Z) H' (Or2 (fp σ ρ G) (Or2 Z N)) := fun a o e n => ⟨h a o e, fun q => q.elim (fun q => n (.inl q)) fun q => q.elim (fun q => n (.inr q)) (hN a o e)⟩
  refine ⟨R.len, fun i sv e => ?_, R.own, R.ownG, fun a o e => ?_, fun a z => ?_⟩
  · obtain ⟨v, e1, q⟩ := R.slot i sv e
    exact ⟨v, e1, q.ext hx (fun a o x n => ⟨h a o x, n⟩) fun _ _ _ _ o e => h _ o e⟩
  · obtain ⟨ho, e1, q⟩ := R.heap a o e
    exact ⟨ho, h _ _ e1, q.ext hx⟩
  · rcases z with z | z
    · obtain ⟨n, o, e⟩ := R.zd a z
      exact ⟨n, o, h _ _ e⟩
    · refine ⟨fun q => ?_, (hn a z).2⟩
      obtain ⟨o, e, _⟩ := R.mut q
      exact hN a o e z

/-- what a result looks like, in the layer -/
def Vw (K : PySem.W.Frag) (H : Hp) (ex : Addr → Prop) (u : U) (v : V) : Prop := match u with
  | .lst xs => ∃ a vs, v = .ref a ∧ SqL K H a vs ∧ RepUs K H ex xs vs
  | .dic ks ws => ∃ a kvs, v = .ref a ∧ Rd H a (.dK kvs) ∧ ks = kvs.map (fun p => kKey p.1) ∧ RepUs K H ex ws (kvs.map (·.2))
  | u => RepU K H ex u v
theorem sqL_of {a : Addr} {vs : List V} (t : LsAt K H ex a vs) : SqL K H a vs := by
  rcases t with ⟨t, _⟩ | t
  · exact .inl t
  · exact .inr t
theorem vw_ofRd {a : Addr} {o : HO} (hr : Rd H a o) (q : RepC K H ex u o) : Vw K H ex u (.ref a) := by
  cases u <;> simp only [RepC] at q
  · obtain ⟨vs, e, q⟩ := q
    subst e
    exact ⟨a, vs, rfl, .inl hr, q⟩
  · obtain ⟨kvs, e, e2, q⟩ := q
    subst e
    exact ⟨a, kvs, rfl, hr, e2, q⟩
theorem vw_ofC {a : Addr} {o : HO} (hr : H a = some o) (q : RepC K H ex u o) : Vw K H ex u (.ref a) := vw_ofRd (.inl hr) q
theorem vw_ofU (h : ∀ a, u ≠ .ref a) (q : RepU K H ex u v) : Vw K H ex u v := by
  cases u <;> simp only [Vw] <;> first | exact q | skip
  · simp only [RepU] at q
    obtain ⟨a, vs, e, r, q⟩ := q
    exact ⟨a, vs, e, sqL_of r, q⟩
  · simp only [RepU] at q
    obtain ⟨a, kvs, e, _, r, e2, q⟩ := q
    exact ⟨a, kvs, e, r, e2, q⟩
theorem vw_ok (R : Rep ca K L Z σ H ρ G) (q : Val K H (Or2 (fp σ ρ G) Z) σ r v) (e : vw r ρ G = some u) : Vw K H (Or2 (fp σ ρ G) Z) u v := by
  cases r with
  | u x =>
    cases x <;> simp only [vw] at e <;> try (cases e; exact vw_ofU (fun _ h => nomatch h) q)
    rename_i a
    cases hg : G a with
    | none => rw [hg] at e; cases e
    | some o =>
      rw [hg] at e
      cases o with
      | ins k fs => cases e
      | con c =>
        cases e
        obtain ⟨ho, e1, q1⟩ := R.heap a _ hg
        have e2 : v = .ref a := by simpa only [Val, RepU] using q
        rw [e2]
        exact vw_ofC e1 q1
  | tmp x =>
    cases e
    obtain ⟨p, o, e1, e2, q⟩ := q
    rw [e1]
    exact vw_ofC e2 q
  | lv i =>
    have q' : σ[i]? = some (some v) := q
    simp only [vw] at e
    cases hs : ρ[i]? with
    | none => rw [hs] at e; cases e
    | some os =>
      rw [hs] at e
      cases os with
      | none => cases e
      | some sv =>
        obtain ⟨w, e1, q1⟩ := R.slot i sv hs
        rw [q'] at e1
        cases e1
        cases sv with
        | u x => cases e
        | own x =>
          cases e
          obtain ⟨a, o, e2, e3, q2⟩ := q1
          rw [e2]
          exact vw_ofC e3 q2
        | fz t x =>
          cases e
          obtain ⟨e2, _, o, e3, q2⟩ := q1
          rw [e2]
          exact vw_ofRd e3 q2
        | exc k => cases e
  | exc k => cases e
end
end Mp

/-! Mp4: expressions, their readings. -/
namespace Mp
open PySem PySem.Spec PyProof.Rows L2

/-- what stays the same through a proof -/
structure Cx0 where
  P : Pg
  ca : Cs
  cur : Option (Addr × Option Addr × Nat × List U)
  /-- the exceptions that may be raised -/
  xs : Nat → Bool
/-- an exception of the layer, as a small one -/
def RepX (c : Cx0) (K : PySem.W.Frag) (H : Hp) (ex : Addr → Prop) (k : Nat) (as : List U) (cls : Value) (d : Option Addr) : Prop :=
  (cls = .ref (c.ca k) ∧ c.xs k = true) ∧ match as with
    | [] => d = none
    | [x] => ∃ dx v, d = some dx ∧ H dx = some (.xd [(c.P.xfs k, v)]) ∧ ¬ ex dx ∧ RepU K H ex x v
    | _ => False
/-- what is wanted of exceptions is taken by the context -/
def Tk (c : Cx0) (X : Cx) (L Z : Addr → Prop) (H : Hp) (f : Addr → Prop) (Xm : Xc) : Prop :=
  Takes X (fun cls d σ' H' => ∃ k as ρ' G', RepX c X.K H' (Or2 (fp σ' ρ' G') Z) k as cls d ∧ Rep c.ca X.K L Z σ' H' ρ' G' ∧ Ext H f H' (fp σ' ρ' G') ∧ Xm k as ρ' G')
theorem Tk.go {c : Cx0} {X : Cx} {L Z Z' : Addr → Prop} {H H' : Hp} {f f' : Addr → Prop} {Xm : Xc} (t : Tk c X L Z H f Xm) (h : Ext H f H' f') (hz : ∀ a, Z a → Z' a) : Tk c X L Z' H' f' Xm :=
  Takes.imp t fun cls d σ H2 ⟨k, as, ρ, G, h1, h2, h3, h4⟩ => ⟨k, as, ρ, G, by
    obtain ⟨e, q⟩ := h1
    refine ⟨e, ?_⟩
    match as, q with
    | [], q => exact q
    | [x], q =>
      obtain ⟨dx, v, e1, e2, nx, q⟩ := q
      exact ⟨dx, v, e1, e2, fun z => nx (z.elim .inl fun z => .inr (hz dx z)), RepU.ext (Ext.sub fun a z => z.elim .inl fun z => .inr (hz a z)) x q⟩, h2.less hz, h.trans h3, h4⟩

section
variable (c : Cx0) (Γ : Cal) (X : Cx)
/-- the end of an expression -/
def EndE (L Z : Addr → Prop) (σ : L2.St) (H : Hp) (f : Addr → Prop) (Qm : Kc) (Q : VK) : Prop :=
  ∀ r ρ' G' v H', Ext H f H' (fp σ ρ' G') → RepR c.ca X.K L Z σ H f H' ρ' G' r v → Qm r ρ' G' → Q v H'
def tE (m : E) : TE := fun σ H Q => ∃ L Z ρ G Xm Qm, Rep c.ca X.K L Z σ H ρ G ∧ (∀ a, L a → Z a) ∧ wpE c.P Γ m ρ G Xm Qm ∧ Tk c X L Z H (fp σ ρ G) Xm ∧ EndE c X L Z σ H (fp σ ρ G) Qm Q
end
theorem PE.imp {X : Cx} {e : Expr} {t t' : TE} (h : PE X e t) (i : ∀ σ H Q, t' σ H Q → t σ H Q) : PE X e t' := ⟨fun pins s σ H Q I q => h.run pins s σ H Q I (i σ H Q q)⟩
theorem PS.imp {X : Cx} {st : Stmt} {t t' : TS} (h : PS X st t) (i : ∀ D σ H, t' D σ H → t D σ H) : PS X st t' := ⟨fun pins s σ H D I q => h.run pins s σ H D I (i D σ H q)⟩
theorem PSs.imp {X : Cx} {st : List Stmt} {t t' : TS} (h : PSs X st t) (i : ∀ D σ H, t' D σ H → t D σ H) : PSs X st t' := ⟨fun pins s σ H D I q => h.run pins s σ H D I (i D σ H q)⟩
theorem PT.imp {X : Cx} {e : Expr} {t t' : TT} (h : PT X e t) (i : ∀ σ H Q, t' σ H Q → t σ H Q) : PT X e t' := ⟨fun pins s σ H Q I q => h.run pins s σ H Q I (i σ H Q q)⟩

section
variable {c : Cx0} {Γ : Cal} {X : Cx} {L Z Z' N : Addr → Prop} {σ : L2.St} {H H' H1 H2 : Hp} {ρ ρ' ρ1 ρ2 : Rho} {G G' G1 G2 : Hh} {f : Addr → Prop} {r q : R} {v w x y : V} {u : U} {Qm : Kc} {Q : VK} {K : PySem.W.Frag} {ca : Cs}

/-! ### steps -/
theorem or2_false : Or2 Z (fun _ => False) = Z := by
  funext a
  exact propext ⟨fun q => q.elim id False.elim, .inl⟩
theorem or2_assoc {A B C : Addr → Prop} : Or2 (Or2 A B) C = Or2 A (Or2 B C) := by
  funext a
  exact propext ⟨fun q => q.elim (fun q => q.elim .inl fun q => .inr (.inl q)) fun q => .inr (.inr q), fun q => q.elim (fun q => .inl (.inl q)) fun q => q.elim (fun q => .inl (.inr q)) .inr⟩
theorem hd_u {u : U} {v : V} : Hd (.u u) v = fun _ => False := by
  funext a
  rfl
theorem hd_lv {i : Nat} {v : V} : Hd (.lv i) v = fun _ => False := by
  funext a
  rfl
theorem hd_exc {i : Addr} {v : V} : Hd (.exc i) v = fun _ => False := by
  funext a
  rfl
theorem Ext.withZ {f' : Addr → Prop} (h : Ext H f H' f') (hn : ∀ p, N p → (H p = none ∨ f p)) : Ext H (Or2 f Z) H' (Or2 f' (Or2 Z N)) := fun a o e n => by
  obtain ⟨h1, h2⟩ := h a o e fun q => n (.inl q)
  refine ⟨h1, fun q => q.elim h2 fun q => q.elim (fun q => n (.inr q)) fun q => ?_⟩
  rcases hn a q with k | k
  · rw [e] at k; cases k
  · exact n (.inl k)
/-- an answer stays through what comes behind it -/
theorem Val.step {f' : Addr → Prop} (q : Val K H (Or2 f Z) σ r v) (hz : ∀ a, Hd r v a → Z a) (hd : ∀ a, Z a → ¬ f a) (h : Ext H f H' f') (hn : ∀ p, N p → (H p = none ∨ f p)) : Val K H' (Or2 f' (Or2 Z N)) σ r v := by
  have hx := h.withZ (Z := Z) hn
  cases r with
  | u x => exact RepU.ext hx x q
  | tmp x =>
    obtain ⟨p, o, e, e2, q⟩ := q
    exact ⟨p, o, e, (h p o e2 (hd p (hz p e))).1, q.ext hx⟩
  | lv i => exact q
  | exc k => exact q

theorem nHd (r : R) (v : V) : ∀ p, Hd r v p → ∃ u, r = .tmp u ∧ v = .ref p := fun p h => by
  cases r with
  | tmp u => exact ⟨u, rfl, h⟩
  | u x => exact h.elim
  | lv i => exact h.elim
  | exc k => exact h.elim

/-- the end with a value -/
theorem EndE.ofU (h : EndE c X L Z σ H f Qm Q) (R : Rep c.ca X.K L Z' σ H' ρ' G') (hz : ∀ a, Z a → Z' a) (hx : Ext H f H' (fp σ ρ' G')) (q : RepU X.K H' (Or2 (fp σ ρ' G') Z') u v) (k : Qm (.u u) ρ' G') : Q v H' := by
  refine h (.u u) ρ' G' v H' hx ⟨?_, ?_, fun p e => e.elim⟩ k
  · rw [hd_u, or2_false]; exact R.less hz
  · rw [hd_u, or2_false]
    exact RepU.ext (Ext.sub fun a q => q.elim .inl fun q => .inr (hz a q)) u q
/-- .. with a new list or dict -/
theorem EndE.new {p : Addr} {o : HO} (h : EndE c X L Z σ H f Qm Q) (R : Rep c.ca X.K L Z' σ H' ρ' G') (hz : ∀ a, Z a → Z' a) (hx : Ext H f H' (fp σ ρ' G')) (hp : H' p = none) (q : RepC X.K H' (Or2 (fp σ ρ' G') Z') u o) (k : Qm (.tmp u) ρ' G') : Q (.ref p) (upd H' p o) := by
  have hk : ∀ a w, H' a = some w → upd H' p o a = some w := fun a w e => by
    rw [upd_ne (ne_of_none e hp)]; exact e
  have R2 : Rep c.ca X.K L (Or2 Z' (One p)) σ (upd H' p o) ρ' G' := R.more hk fun a e => by
    have e' : a = p := e
    subst e'
    exact ⟨hp, o, upd_same⟩
  have hHd : Hd (.tmp u) (.ref p) = One p := by
    funext a
    exact propext ⟨fun e => (V.ref.inj e).symm, fun e => by rw [show a = p from e]; rfl⟩
  have hZp : ¬ Z p := fun z => by
    obtain ⟨_, w, e⟩ := R.zd p (hz p z)
    rw [hp] at e; cases e
  have hfp : ¬ fp σ ρ' G' p := fun z => by
    obtain ⟨w, e, _⟩ := R.mut z
    rw [hp] at e; cases e
  refine h (.tmp u) ρ' G' (.ref p) _ (fun a w e n => ?_) ⟨?_, ?_, fun a e => ?_⟩ k
  · exact ⟨hk a w (hx a w e n).1, (hx a w e n).2⟩
  · rw [hHd]
    exact R2.less fun a q => q.elim (fun q => .inl (hz a q)) .inr
  · rw [hHd]
    refine ⟨p, o, rfl, upd_same, q.ext fun a w e n => ⟨hk a w e, fun z => z.elim (fun z => n (.inl z)) fun z => z.elim (fun z => n (.inr (hz a z))) fun z => ?_⟩⟩
    rw [show a = p from z, hp] at e; cases e
  · have e' : a = p := (V.ref.inj e).symm
    subst e'
    refine ⟨?_, hZp⟩
    cases e1 : H a with
    | none => exact .inl rfl
    | some w =>
      by_cases ff : f a
      · exact .inr ff
      · have := (hx a w e1 ff).1
        rw [hp] at this; cases this
/-- two expressions in a row -/
theorem two {a b : E} {R : R → R → Rho → Hh → Prop} {Xm : Xc} {S : V → V → Hp → Prop} (Rp : Rep c.ca X.K L Z σ H ρ G) (hL : ∀ a, L a → Z a) (hw : wpE c.P Γ a ρ G Xm fun ra ρ1 G1 => wpE c.P Γ b ρ1 G1 Xm fun rb ρ2 G2 => R ra rb ρ2 G2) (tk : Tk c X L Z H (fp σ ρ G) Xm)
    (h : ∀ ra rb ρ2 G2 x y H2 Z', (∀ a, Z a → Z' a) → (∀ a, Hd ra x a → Z' a) → (∀ a, Hd rb y a → Z' a) → Ext H (fp σ ρ G) H2 (fp σ ρ2 G2) → Rep c.ca X.K L Z' σ H2 ρ2 G2 → Val X.K H2 (Or2 (fp σ ρ2 G2) Z') σ ra x → Val X.K H2 (Or2 (fp σ ρ2 G2) Z') σ rb y → R ra rb ρ2 G2 → S x y H2) :
    tE c Γ X a σ H fun x H1 => tE c Γ X b σ H1 fun y H2 => S x y H2 := by
  refine ⟨L, Z, ρ, G, Xm, _, Rp, hL, hw, tk, fun ra ρ1 G1 x H1 e1 R1 w1 => ?_⟩
  refine ⟨L, Or2 Z (Hd ra x), ρ1, G1, Xm, _, R1.rep, fun a z => .inl (hL a z), w1, tk.go e1 fun a => .inl, fun rb ρ2 G2 y H2 e2 R2 w2 => ?_⟩
  refine h ra rb ρ2 G2 x y H2 (Or2 (Or2 Z (Hd ra x)) (Hd rb y)) (fun a z => .inl (.inl z)) (fun a z => .inl (.inr z)) (fun a z => .inr z) (e1.trans e2) R2.rep ?_ R2.val w2
  exact R1.val.step (fun a z => .inr z) (fun a z => (R1.rep.zd a z).1) e2 fun p z => (R2.new p z).1

/-! ### the small rules -/
theorem or2_sub {A B C : Addr → Prop} (h : ∀ a, B a → C a) : ∀ a, Or2 A B a → Or2 A C a := fun a q => q.elim .inl fun q => .inr (h a q)
theorem vwK_out {K : U → Prop} (h : vwK r ρ G K) : ∃ u, vw r ρ G = some u ∧ K u := by
  unfold vwK at h
  cases e : vw r ρ G with
  | none => rw [e] at h; exact h.elim
  | some u => rw [e] at h; exact ⟨u, rfl, h⟩
theorem optK_out {α : Type} {o : Option α} {K : α → Prop} (h : optK o K) : ∃ u, o = some u ∧ K u := by
  cases o with
  | none => exact h.elim
  | some u => exact ⟨u, rfl, h⟩
theorem e_lit {e : Expr} {k : V} (h : PE X e (tC k)) {m : E} (hm : ∀ ρ G Xm Qm, wpE c.P Γ m ρ G Xm Qm → Qm (.u u) ρ G) (hr : ∀ H ex, RepU X.K H ex u k) : PE X e (tE c Γ X m) :=
  PE.imp h fun σ H Q ⟨L, Z, ρ, G, Xm, Qm, R, hL, w, tk, en⟩ => en.ofU R (fun _ z => z) (Ext.refl _ _) (hr _ _) (hm ρ G Xm Qm w)
theorem e_int {i : Int} {j : Nat} {pos : Pos} : PE X (.Constant (.int i) j pos) (tE c Γ X (.int i)) := e_lit pe_int (u := .int i) (fun _ _ _ _ w => by simpa only [wpE] using w) fun _ _ => by simp only [RepU]
theorem e_bl {i : Bool} {j : Nat} {pos : Pos} : PE X (.Constant (.bool i) j pos) (tE c Γ X (.bl i)) := e_lit pe_bl (u := .bl i) (fun _ _ _ _ w => by simpa only [wpE] using w) fun _ _ => by simp only [RepU]
theorem e_non {j : Nat} {pos : Pos} : PE X (.Constant .none j pos) (tE c Γ X .non) := e_lit pe_non (u := .non) (fun _ _ _ _ w => by simpa only [wpE] using w) fun _ _ => by simp only [RepU]
theorem e_str {s : List Nat} {j : Nat} {pos : Pos} (hl : GoodS s) : PE X (.Constant (.str ⟨s.toArray⟩) j pos) (tE c Γ X (.str s)) := e_lit pe_str (u := .str s) (fun _ _ _ _ w => by simpa only [wpE] using w) fun _ _ => by simp only [RepU]; exact ⟨trivial, hl⟩
theorem e_loc {i : Nat} {x : Str} {pos : Pos} (h : PE X (.Name x pos) (tVar i)) : PE X (.Name x pos) (tE c Γ X (.loc i)) := by
  refine PE.imp h fun σ H Q ⟨L, Z, ρ, G, Xm, Qm, R, hL, w, tk, en⟩ => ?_
  simp only [wpE] at w
  cases hs : ρ[i]? with
  | none => rw [hs] at w; exact w.elim
  | some os =>
    rw [hs] at w
    cases os with
    | none => exact w.elim
    | some sv =>
      obtain ⟨v, e1, q⟩ := R.slot i sv hs
      refine ⟨v, e1, ?_⟩
      cases sv with
      | u y => exact en.ofU R (fun _ z => z) (Ext.refl _ _) q w
      | exc k =>
        refine en (.exc k) ρ G v H (Ext.refl _ _) ⟨?_, q.1, fun p z => z.elim⟩ w
        rw [hd_exc, or2_false]; exact R
      | own y =>
        refine en (.lv i) ρ G v H (Ext.refl _ _) ⟨?_, e1, fun p z => z.elim⟩ w
        rw [hd_lv, or2_false]; exact R
      | fz t y =>
        refine en (.lv i) ρ G v H (Ext.refl _ _) ⟨?_, e1, fun p z => z.elim⟩ w
        rw [hd_lv, or2_false]; exact R

/-! ### truth -/
theorem tru_of {k : Bool} {ex : Addr → Prop} (h : Vw X.K H ex u v) (e : truth u = some k) : TruV X.K v H k := by
  cases u with
  | non =>
    cases e
    have h : v = .non := by simpa only [Vw, RepU] using h
    rw [h]; rfl
  | bl b =>
    cases e
    have h : v = .bl k := by simpa only [Vw, RepU] using h
    rw [h]; rfl
  | int i =>
    cases e
    have h : v = .int i := by simpa only [Vw, RepU] using h
    rw [h]
    show decide (i ≠ 0) = (i != 0)
    by_cases z : i = 0 <;> simp [z]
  | str s =>
    cases e
    have h : v = .str ⟨s.toArray⟩ ∧ GoodS s := by simpa only [Vw, RepU] using h
    rw [h.1]
    refine ⟨h.2.1, ?_⟩
    show (!s.isEmpty) = ((s.length : Int) != 0)
    cases s with
    | nil => rfl
    | cons a r =>
      rw [List.length_cons]
      simp
      omega
  | tup xs =>
    cases e
    simp only [Vw, RepU] at h
    obtain ⟨a, vs, e, t, q⟩ := h
    rw [e]
    refine .inr (.inl ⟨vs, ?_, ?_⟩)
    · rcases t with ⟨t, _⟩ | t
      · exact .inl t
      · exact .inr t
    · have := q.length
      cases xs <;> cases vs <;> simp at this <;> rfl
  | lst xs =>
    cases e
    obtain ⟨a, vs, e, t, q⟩ := h
    rw [e]
    refine .inl ⟨vs, t, ?_⟩
    have := q.length
    cases xs <;> cases vs <;> simp at this <;> rfl
  | dic ks ws => cases e
  | set xs => cases e
  | ref a => cases e
theorem tstK_out {K : Bool → Prop} (h : tstK r ρ G K) : ∃ u k, vw r ρ G = some u ∧ truth u = some k ∧ K k := by
  obtain ⟨u, e, h⟩ := vwK_out h
  obtain ⟨k, e2, h⟩ := optK_out h
  exact ⟨u, k, e, e2, h⟩
/-- a value's truth, from an answer -/
theorem tst_of {K : Bool → Prop} (R : Rep ca X.K L Z σ H ρ G) (q : Val X.K H (Or2 (fp σ ρ G) Z) σ r v) (h : tstK r ρ G K) : ∃ k, TruV X.K v H k ∧ K k := by
  obtain ⟨u, k, e, e2, h⟩ := tstK_out h
  exact ⟨k, tru_of (vw_ok R q e) e2, h⟩
theorem br_if {b : Bool} {A B : Prop} (h : Br b A B) : if b = true then A else B := by
  cases b with
  | true => rw [if_pos rfl]; exact h
  | false => rw [if_neg Bool.false_ne_true]; exact h
/-- one expression, then its truth -/
theorem one {a : E} {R : R → Rho → Hh → Prop} {Xm : Xc} {S : V → Hp → Prop} (Rp : Rep c.ca X.K L Z σ H ρ G) (hL : ∀ a, L a → Z a) (hw : wpE c.P Γ a ρ G Xm R) (tk : Tk c X L Z H (fp σ ρ G) Xm)
    (h : ∀ ra ρ2 G2 x H2 Z', (∀ a, Z a → Z' a) → (∀ a, Hd ra x a → Z' a) → Ext H (fp σ ρ G) H2 (fp σ ρ2 G2) → Rep c.ca X.K L Z' σ H2 ρ2 G2 → Val X.K H2 (Or2 (fp σ ρ2 G2) Z') σ ra x → R ra ρ2 G2 → S x H2) :
    tE c Γ X a σ H S :=
  ⟨L, Z, ρ, G, Xm, _, Rp, hL, hw, tk, fun ra ρ1 G1 x H1 e1 R1 w1 => h ra ρ1 G1 x H1 (Or2 Z (Hd ra x)) (fun a => .inl) (fun a => .inr) e1 R1.rep R1.val w1⟩
theorem e_not {a : E} {e : Expr} {pos : Pos} (ha : PE X e (tE c Γ X a)) : PE X (.UnaryOp .Not e pos) (tE c Γ X (.not_ a)) := by
  refine PE.imp (pe_notT ha) fun σ H Q ⟨L, Z, ρ, G, Xm, Qm, R, hL, w, tk, en⟩ => ?_
  simp only [wpE] at w
  refine one R hL w tk fun ra ρ2 G2 x H2 Z' hz _ e2 R2 q w2 => ?_
  obtain ⟨k, e, w2⟩ := tst_of R2 q w2
  exact ⟨k, e, en.ofU R2 hz e2 (by simp only [RepU]) w2⟩
theorem e_neg {a : E} {e : Expr} {pos : Pos} (ha : PE X e (tE c Γ X a)) : PE X (.UnaryOp .USub e pos) (tE c Γ X (.neg a)) := by
  refine PE.imp (pe_un un_neg ha) fun σ H Q ⟨L, Z, ρ, G, Xm, Qm, R, hL, w, tk, en⟩ => ?_
  simp only [wpE] at w
  refine one R hL w tk fun ra ρ2 G2 x H2 Z' hz _ e2 R2 q w2 => ?_
  obtain ⟨u, e, w2⟩ := vwK_out w2
  have hv := vw_ok R2 q e
  cases u <;> try exact w2.elim
  simp only [Vw, RepU] at hv
  exact ⟨_, hv, en.ofU R2 hz e2 (by simp only [RepU]) w2⟩
/-- a truth's own value, known -/
theorem bvl_ok {k : Bool} {u : U} {x : V} {ex : Addr → Prop} (q : Val X.K H ex σ r x) (e : vw r ρ G = some u) (e2 : truth u = some k) : bvl r k = r := by
  cases r with
  | u y =>
    cases y <;> try rfl
    cases e
    cases e2
    rfl
  | tmp y => rfl
  | lv i => rfl
  | exc k => rfl
theorem EndE.imp {Qm' : Kc} {H2 : Hp} {f2 : Addr → Prop} {Z2 : Addr → Prop} (h : EndE c X L Z σ H f Qm Q) (hx : Ext H f H2 f2) (hz : ∀ a, Z a → Z2 a) (hq : ∀ r ρ G, Qm' r ρ G → Qm r ρ G) : EndE c X L Z2 σ H2 f2 Qm' Q := by
  intro r ρ' G' v H' e R q
  have hHd : ∀ p, Hd r v p → ¬ Z p := fun p z z2 => (R.new p z).2 (hz p z2)
  refine h r ρ' G' v H' (hx.trans e) ⟨R.rep.less fun a z => z.elim (fun z => .inl (hz a z)) .inr, ?_, fun p z => ⟨?_, hHd p z⟩⟩ (hq _ _ _ q)
  · have hv := R.val
    have hs : Ext H' (Or2 (fp σ ρ' G') (Or2 Z2 (Hd r v))) H' (Or2 (fp σ ρ' G') (Or2 Z (Hd r v))) := Ext.sub fun a z => z.elim .inl fun z => .inr (z.elim (fun z => .inl (hz a z)) .inr)
    cases r with
    | u x => exact RepU.ext hs x hv
    | tmp x =>
      obtain ⟨p, o, e, e2, q⟩ := hv
      exact ⟨p, o, e, e2, q.ext hs⟩
    | lv i => exact hv
    | exc k => exact hv
  · cases e1 : H p with
    | none => exact .inl rfl
    | some w =>
      by_cases ff : f p
      · exact .inr ff
      · have h2 := hx p w e1 ff
        rcases (R.new p z).1 with k | k
        · rw [h2.1] at k; cases k
        · exact absurd k h2.2
end
end Mp

/-! Mp5: operators. -/
namespace Mp
open PySem PySem.Spec PyProof.Rows L2

theorem sizeLine_def : sizeLine = 16777216 := sizeLine_eq
section
variable {X : Cx}
theorem lstR {pins : List (Addr × Obj)} {σ : L2.St} {H : Hp} {s : Shared} {l : Addr} {xs : List V} (I : Inv X pins σ H s) (h : SqL X.K H l xs) :
    xs.length ≤ sizeLine ∧ ∃ (its : List Value) (n : Nat) (sl : Array (Option Value)), Vals xs its ∧ xs.length = its.length ∧ s.heap.get? l = some { cls := .type "list", data := .seq its.toArray n, slots := sl } := by
  obtain ⟨its, r, ⟨⟨cls, dd, data, sl⟩, n, e, h1, h2, h3⟩, z⟩ := I.list h
  simp only at h1 h2 h3
  subst h1 h2 h3
  exact ⟨z, its, n, sl, r, r.length, e⟩
theorem list_mulW (l : Addr) (items : Array Value) (n : Nat) (sl : Array (Option Value)) (x : Int) (u : Tok) (hc0 : ¬(!Builtin.List.listFitsIndex x) = true) (hc1 : ¬items.size * x.toNat > (2 ^ 63 - 1) / 8) (hc2 : ¬Builtin.List.listTooLong (items.size * x.toNat) = true) :
    Meets (Builtin.«list.__mul__» ⟨[.ref l, .int x u], []⟩) (fun _ R s => s.heap.get? l = some { cls := .type "list", dict := none, data := .seq items n, slots := sl } ∧ R (.ok (.ret (Value.ref s.heap.objs.size))) { s with heap := s.heap.push { cls := Value.type "list", data := Data.seq (List.foldl (fun x1 x2 => x1 ++ x2) #[] (List.replicate (if items.isEmpty = true then 0 else x.toNat) items)) }, toks := s.toks }) :=
  .of_wp fun prog w A R s h => by
    obtain ⟨hp, g, d, tk, os⟩ := s; obtain ⟨hl, h⟩ := h
    have hsz := PySem.AutoListH.joined_fits hc2
    wp_walk using wpAny_loadPart' hl; refine wpAny_ite_false (decide_eq_false (Nat.not_lt.mpr hsz)) ?_; wp_walk using wpAny_loadPart' hl; exact ⟨_, rfl, h⟩
theorem int_rmul_listW (a : Int) (t : Tok) (l : Addr) (items : Array Value) (n : Nat) (sl : Array (Option Value)) :
    Meets (Builtin.«int.__rmul__» ⟨[.int a t, .ref l], []⟩) (fun _ R s => s.heap.get? l = some { cls := .type "list", dict := none, data := .seq items n, slots := sl } ∧ R (.ok (.ret Value.notImplemented)) s) :=
  .of_wp fun prog w A R s h => by obtain ⟨hp, g, d, tk, os⟩ := s; obtain ⟨hl, h⟩ := h; wp_walk using wpAny_loadPart' hl; exact ⟨_, rfl, h⟩
/-- list + list, of whatever is read -/
def rCatR (K : PySem.W.Frag) : R2 := fun x y H Q => ∃ l b xs zs, x = .ref l ∧ y = .ref b ∧ SqL K H l xs ∧ SqL K H b zs ∧ xs.length + zs.length ≤ sizeLine ∧ ∀ p, H p = none → Q (.ref p) (upd H p (.lst (xs ++ zs)))
theorem op_catR : OpR X (binaryOp .Add) (rCatR X.K) := by
  intro pins s σ H x y v u Q I rx ry h
  obtain ⟨l, b, xs, zs, rfl, rfl, hH, hB, hz, q⟩ := h
  cases rx
  cases ry
  obtain ⟨z, its, n, sl, r, hl, e⟩ := lstR I hH
  obtain ⟨z2, its2, n2, sl2, r2, hl2, e2⟩ := lstR I hB
  refine concat_meets ⟨_, e, rfl⟩ ⟨_, e2, rfl⟩ noFill_list_add seq_list_add PySem.F.slot_list_add PySem.F.entry_list_add (PySem.F.args_list_add_2 _ _) (PyProof.Rows.list_addW l b its.toArray its2.toArray n n2 none none sl sl2 (by rw [List.size_toArray, List.size_toArray]; omega)) ⟨e, e2, ?_⟩
  have ea : its.toArray ++ its2.toArray = (its ++ its2).toArray := by simp
  rw [ea]
  exact ⟨.ref _, _, I.lnew (t' := s.toks) (r.append r2) (by rw [List.length_append]; omega), rfl, q _ I.fresh⟩
def rAddS : R2 := fun x y H Q => ∃ i j, x = .str i ∧ y = .str j ∧ i.length + j.length ≤ sizeLine ∧ Q (.str (i ++ j)) H
def rRepS : R2 := fun x y H Q => ∃ (s : List Nat) (k : Int), x = .str ⟨s.toArray⟩ ∧ y = .int k ∧ (k < 2 ^ 24 ∧ -(2 ^ 24) < k ∧ s.length * k.toNat ≤ sizeLine) ∧ Q (.str ⟨(rep s k).toArray⟩) H
theorem rep_len {α : Type} (xs : List α) (k : Int) : (rep xs k).length = xs.length * k.toNat := by
  unfold rep
  rw [PyProof.Rows.lm_len_rep_flat, Nat.mul_comm]
theorem foldl_app (s : List Nat) : ∀ (n : Nat) (acc : List Nat), (List.replicate n s.toArray).foldl (· ++ ·) acc.toArray = (acc ++ (List.replicate n s).flatten).toArray
  | 0, acc => by simp
  | n + 1, acc => by
    rw [List.replicate_succ, List.foldl_cons, List.replicate_succ, List.flatten_cons]
    have e : acc.toArray ++ s.toArray = (acc ++ s).toArray := by simp
    rw [e, foldl_app s n (acc ++ s), List.append_assoc]
theorem op_repS : OpR X (binaryOp .Mult) rRepS := by
  intro pins st σ H x y v u Q I rx ry h
  obtain ⟨s, k, rfl, rfl, ⟨h1, h2, h3⟩, q⟩ := h
  obtain ⟨t, rfl⟩ := rx
  obtain ⟨t2, rfl⟩ := ry
  have hs := sizeLine_def
  refine PySem.P.mul_str ?_ ?_ ?_ ?_
  · rw [decide_eq_false (by omega), decide_eq_false (by omega)]; rfl
  · intro hk hn hc
    have hl : (⟨s.toArray⟩ : Str).length = s.length := rfl
    rw [hl] at hc
    have hkn : k = (k.toNat : Int) := by omega
    have h3' : s.length * k.toNat ≤ 16777216 := by rw [← hs]; exact h3
    have h4 : ((s.length * k.toNat : Nat) : Int) = (s.length : Int) * k := by rw [Int.natCast_mul, ← hkn]
    have h5 : (s.length : Int) * k ≤ 16777216 := by omega
    have h6 : (s.length : Int) ≤ (s.length : Int) * k := by
      have := Int.mul_le_mul_of_nonneg_left (show (1 : Int) ≤ k by omega) (show (0 : Int) ≤ (s.length : Int) by omega)
      omega
    have h7 : (16777216 : Int) ≤ (2 ^ 63 - 1) / k := by
      rw [Int.le_ediv_iff_mul_le (by omega)]
      omega
    omega
  · intro hk hn
    unfold Builtin.Str.tooLong
    rw [show (⟨s.toArray⟩ : Str).length = s.length from rfl]
    exact decide_eq_false (by omega)
  · have fin : ∀ z : Str, z = ⟨(rep s k).toArray⟩ → ∀ t3 tk, EP X pins σ Q (.str z t3) { st with toks := tk } := fun z e t3 tk => ⟨.str z, H, I.tok _, ⟨t3, rfl⟩, by rw [e]; exact q⟩
    have hlen : (rep s k).length ≤ sizeLine := by
      rw [rep_len]; exact h3
    by_cases hk : k < 1
    · rw [if_pos hk]
      have e : (Str.empty : Str) = ⟨(rep s k).toArray⟩ := by
        unfold rep
        rw [show k.toNat = 0 by omega]
        rfl
      exact ⟨by decide, fin _ e _ _⟩
    · rw [if_neg hk]
      by_cases hn : (k == 1 || (⟨s.toArray⟩ : Str).length == 0) = true
      · rw [if_pos hn]
        have e : (⟨s.toArray⟩ : Str) = ⟨(rep s k).toArray⟩ := by
          congr 2
          unfold rep
          rcases Bool.or_eq_true_iff.mp hn with z | z
          · have : k = 1 := by simpa using z
            rw [this]
            simp
          · have : s = [] := by
              have z2 : s.length = 0 := by
                have z3 : (⟨s.toArray⟩ : Str).length = s.length := rfl
                rw [z3] at z
                exact eq_of_beq z
              exact List.eq_nil_of_length_eq_zero z2
            subst this
            simp
        have := fin _ e t st.toks
        exact this
      · rw [if_neg hn]
        have e : (⟨(List.replicate k.toNat (⟨s.toArray⟩ : Str).cps).foldl (· ++ ·) #[]⟩ : Str) = ⟨(rep s k).toArray⟩ := by
          congr 1
          have := foldl_app s k.toNat []
          simpa [rep] using this
        refine ⟨?_, fin _ e _ _⟩
        rw [e]
        show (rep s k).toArray.size ≤ sizeLine
        rw [List.size_toArray]
        exact hlen
def rRepR (K : PySem.W.Frag) : R2 := fun x y H Q => ∃ l k xs, x = .ref l ∧ y = .int k ∧ SqL K H l xs ∧ -(2 ^ 63) ≤ k ∧ k < 2 ^ 63 ∧ xs.length * k.toNat ≤ sizeLine ∧
  ∀ p, H p = none → Q (.ref p) (upd H p (.lst (rep xs k)))
theorem op_repR : OpR X (binaryOp .Mult) (rRepR X.K) := by
  intro pins s σ H x y v u Q I rx ry h
  obtain ⟨l, k, xs, rfl, rfl, hH, h1, h2, hz, q⟩ := h
  cases rx
  obtain ⟨t, rfl⟩ := ry
  obtain ⟨z, its, n, sl, r, hl, e⟩ := lstR I hH
  have hlen : its.toArray.size * k.toNat ≤ sizeLine := by rw [List.size_toArray, ← hl]; exact hz
  have hcap : ¬ its.toArray.size * k.toNat > (2 ^ 63 - 1) / 8 := by
    have : (sizeLine : Nat) ≤ (2 ^ 63 - 1) / 8 := by decide
    omega
  have hfit : ¬ (!Builtin.List.listFitsIndex k) = true := by
    rw [fitsIndex_both h1 h2]
    exact Bool.false_ne_true
  have hlong : ¬ Builtin.List.listTooLong (its.toArray.size * k.toNat) = true := by
    rw [notLongL hlen]
    exact Bool.false_ne_true
  have hnew : List.foldl (fun x1 x2 => x1 ++ x2) #[] (List.replicate (if its.toArray.isEmpty = true then 0 else k.toNat) its.toArray) = (List.replicate k.toNat its).flatten.toArray := by
    have f0 : ∀ m : Nat, List.foldl (fun x1 x2 => x1 ++ x2) #[] (List.replicate m its.toArray) = (List.replicate m its).flatten.toArray := fun m => by
      have := foldl_rep its m []
      rw [List.nil_append] at this
      exact this
    rw [f0]
    cases its with
    | nil => simp
    | cons a r' => rw [if_neg (by simp)]
  refine wpAny_binaryOp_repeat_ref (T := "list") (U := "int") (by decide) ⟨_, e, rfl⟩ (fun s' => typeIs_int s' k t) noFill_list_mul F.fills_int_mul F.slot_int_rmul repeat_list F.slot_int_index.lookup
    (call_meets F.slot_int_rmul (typeIs_int s k t) F.entry_int_rmul (F.args_int_rmul_2 _ _) (int_rmul_listW k t l its.toArray n sl)
      ⟨e, rfl, ⟨_, e, rfl⟩, call_meets F.slot_list_mul ⟨_, e, rfl⟩ F.entry_list_mul (F.args_list_mul_2 _ _) (list_mulW l its.toArray n sl k t hfit hcap hlong) ⟨e, ?_⟩⟩)
  rw [hnew]
  exact ⟨.ref _, _, I.lnew (t' := s.toks) (r.rep k.toNat) (by rw [PyProof.Rows.lm_len_rep_flat, Nat.mul_comm]; exact hz), rfl, q _ I.fresh⟩
theorem RepUs.rep {K : PySem.W.Frag} {H : Hp} {ex : Addr → Prop} {us : List U} {vs : List V} (r : RepUs K H ex us vs) (k : Int) : RepUs K H ex (Mp.rep us k) (Mp.rep vs k) := by
  unfold Mp.rep
  generalize k.toNat = n
  induction n with
  | zero => simp [RepUs]
  | succ n ih =>
    rw [List.replicate_succ, List.replicate_succ, List.flatten_cons, List.flatten_cons]
    exact r.append ih
def CMul2 (i j : Int) : Prop := MulOk i j
theorem op_mul2 : OpR X (binaryOp .Mult) (rI MulOk fun i j => .int (i * j)) := opI fun i j _ _ _ _ _ hc q => mul_int q (by
  rcases hc with (hc | hc) | hc
  · exact CMul.ok (.inl (by omega))
  · exact CMul.ok (.inr (by omega))
  · exact hc.ok)
theorem op_fdiv2 : OpR X (binaryOp .FloorDiv) (rI (fun _ j => DivOk j) fun i j => .int (i / j)) := by
  intro pins s σ H x y v u Q I rx ry h
  obtain ⟨i, j, e1, e2, hc, q⟩ := h
  exact op_fdivW pins s σ H x y v u Q I rx ry ⟨i, j, e1, e2, wide_div hc.1 hc.2 (by decide) (by decide), q⟩
def rBin (K : PySem.W.Frag) : BOp → R2
  | .add => fun x y H Q => rI0 (fun i j => .int (i + j)) x y H Q ∨ rAddS x y H Q ∨ rCatA K x y H Q ∨ rCatR K x y H Q
  | .sub => rI0 fun i j => .int (i - j)
  | .mul => fun x y H Q => rI MulOk (fun i j => .int (i * j)) x y H Q ∨ rRepS x y H Q ∨ rRepR K x y H Q ∨ rRepT K x y H Q
  | .fdiv => rI (fun _ j => DivOk j) fun i j => .int (i / j)
  | .mod => rI (fun _ j => 0 < j) fun i j => .int (i % j)
  | .pow => rI CPow fun i j => .int (i ^ j.toNat)
theorem op_bin : ∀ op : BOp, OpR X (binaryOp op.op) (rBin X.K op)
  | .add => OpR.or op_add (OpR.or op_add_str (OpR.or op_catA op_catR))
  | .sub => op_sub
  | .mul => OpR.or op_mul2 (OpR.or op_repS (OpR.or op_repR op_repT))
  | .fdiv => op_fdiv2
  | .mod => op_mod
  | .pow => op_pow
end

section
variable {c : Cx0} {Γ : Cal} {X : Cx} {L Z Z' : Addr → Prop} {σ : L2.St} {H H2 : Hp} {ρ ρ2 : Rho} {G G2 : Hh} {f : Addr → Prop} {x y : V} {u w : U} {Qm : Kc} {Q : VK} {a b : E} {e1 e2 : Expr} {pos : Pos}
theorem str_app (s t : List Nat) : (⟨s.toArray⟩ : Str) ++ ⟨t.toArray⟩ = ⟨(s ++ t).toArray⟩ := by
  show (⟨s.toArray ++ t.toArray⟩ : Str) = _
  simp
theorem sqT_of {K : PySem.W.Frag} {ex : Addr → Prop} {p : Addr} {vs : List V} (t : TpAt K H ex p vs) : SqT K H p vs := by
  rcases t with ⟨t, _⟩ | t
  · exact .inl t
  · exact .inr t
theorem bin_of {op : BOp} (R : Rep c.ca X.K L Z' σ H2 ρ2 G2) (hz : ∀ a, Z a → Z' a) (hx : Ext H f H2 (fp σ ρ2 G2)) (en : EndE c X L Z σ H f Qm Q)
    (hv : Vw X.K H2 (Or2 (fp σ ρ2 G2) Z') u x) (hw : Vw X.K H2 (Or2 (fp σ ρ2 G2) Z') w y) (h : binU op u w fun r => Qm r ρ2 G2) : rBin X.K op x y H2 Q := by
  have fin : ∀ {z : U} {v : V}, RepU X.K H2 (Or2 (fp σ ρ2 G2) Z') z v → Qm (.u z) ρ2 G2 → Q v H2 := fun q k => en.ofU R hz hx q k
  cases op with
  | add =>
    cases u <;> try exact h.elim
    · cases w <;> try exact h.elim
      simp only [Vw, RepU] at hv hw
      exact .inl ⟨_, _, hv, hw, fin (by simp only [RepU]) h⟩
    · cases w <;> try exact h.elim
      simp only [Vw, RepU] at hv hw
      refine .inr (.inl ⟨_, _, hv.1, hw.1, h.1, ?_⟩)
      rw [str_app]
      exact fin (by simp only [RepU]; exact ⟨trivial, hv.2.app hw.2 h.1⟩) h.2
    · cases w <;> try exact h.elim
      rename_i xs ys
      simp only [Vw, RepU] at hv hw
      obtain ⟨p, vs, e1, t1, q1⟩ := hv
      obtain ⟨p2, ws, e2, t2, q2⟩ := hw
      have hl : vs.length + ws.length ≤ sizeLine := by
        rw [← q1.length, ← q2.length]; exact h.1
      have qa := q1.append q2
      refine .inr (.inr (.inl ⟨p, p2, vs, ws, e1, e2, sqT_of t1, sqT_of t2, hl, fun z => ?_, fun _ z => ?_, fun _ _ p3 h3 => ?_⟩))
      · refine fin (z := .tup (xs ++ ys)) ?_ h.2
        simp only [RepU]
        refine ⟨p2, ws, rfl, t2, ?_⟩
        rw [z, List.nil_append] at qa
        exact qa
      · refine fin (z := .tup (xs ++ ys)) ?_ h.2
        simp only [RepU]
        refine ⟨p, vs, rfl, t1, ?_⟩
        rw [z, List.append_nil] at qa
        exact qa
      · have hk : ∀ a o, H2 a = some o → upd H2 p3 (.tup (vs ++ ws)) a = some o := fun a o e => by
          rw [upd_ne (ne_of_none e h3)]; exact e
        have np : ¬ Or2 (fp σ ρ2 G2) Z' p3 := fun z => by
          rcases z with z | z
          · obtain ⟨o, e, _⟩ := R.mut z
            rw [h3] at e; cases e
          · obtain ⟨_, o, e⟩ := R.zd _ z
            rw [h3] at e; cases e
        refine en.ofU (R.heapExt hk) hz (fun a o e n => ⟨hk a o (hx a o e n).1, (hx a o e n).2⟩) (u := .tup (xs ++ ys)) ?_ h.2
        simp only [RepU]
        exact ⟨p3, vs ++ ws, rfl, .inl ⟨.inl upd_same, np⟩, RepUs.ext (fun a o e n => ⟨hk a o e, n⟩) _ qa⟩
    · cases w <;> try exact h.elim
      rename_i xs ys
      obtain ⟨p, vs, e1, t1, q1⟩ := hv
      obtain ⟨p2, ws, e2, t2, q2⟩ := hw
      have hl : vs.length + ws.length ≤ sizeLine := by
        rw [← q1.length, ← q2.length]; exact h.1
      refine .inr (.inr (.inr ⟨p, p2, vs, ws, e1, e2, t1, t2, hl, fun p3 h3 => ?_⟩))
      exact en.new R hz hx h3 (u := .lst (xs ++ ys)) ⟨_, rfl, q1.append q2⟩ h.2
  | sub =>
    cases u <;> try exact h.elim
    cases w <;> try exact h.elim
    simp only [Vw, RepU] at hv hw
    exact ⟨_, _, hv, hw, fin (by simp only [RepU]) h⟩
  | mul =>
    cases u <;> try exact h.elim
    · cases w <;> try exact h.elim
      simp only [Vw, RepU] at hv hw
      exact .inl ⟨_, _, hv, hw, h.1, fin (by simp only [RepU]) h.2⟩
    · cases w <;> try exact h.elim
      rename_i s k
      simp only [Vw, RepU] at hv hw
      refine .inr (.inl ⟨s, k, hv.1, hw, h.1, fin (z := .str (rep s k)) ?_ h.2⟩)
      simp only [RepU]
      refine ⟨trivial, ?_, fun c hc => hv.2.2 c ?_⟩
      · rw [rep_len]; exact h.1.2.2
      · unfold rep at hc
        obtain ⟨l, hl, hc⟩ := List.mem_flatten.mp hc
        rw [(List.mem_replicate.mp hl).2] at hc
        exact hc
    · cases w <;> try exact h.elim
      rename_i xs k
      simp only [Vw, RepU] at hv hw
      obtain ⟨p, vs, e1, t1, q1⟩ := hv
      obtain ⟨h1, h2⟩ := h
      have hl := q1.length
      refine .inr (.inr (.inr ⟨p, k, vs, e1, hw, sqT_of t1, fun z => h1.1 (by rw [hl, z]; rfl), h1.2.1, h1.2.2.1, by rw [← hl]; exact h1.2.2.2, fun p3 h3 => ?_⟩))
      have hk : ∀ a o, H2 a = some o → upd H2 p3 (.tup (rep vs k)) a = some o := fun a o e => by
        rw [upd_ne (ne_of_none e h3)]; exact e
      have np : ¬ Or2 (fp σ ρ2 G2) Z' p3 := fun z => by
        rcases z with z | z
        · obtain ⟨o, e, _⟩ := R.mut z
          rw [h3] at e; cases e
        · obtain ⟨_, o, e⟩ := R.zd _ z
          rw [h3] at e; cases e
      refine en.ofU (R.heapExt hk) hz (fun a o e n => ⟨hk a o (hx a o e n).1, (hx a o e n).2⟩) (u := .tup (rep xs k)) ?_ h2
      simp only [RepU]
      exact ⟨p3, rep vs k, rfl, .inl ⟨.inl upd_same, np⟩, RepUs.ext (fun a o e n => ⟨hk a o e, n⟩) _ (q1.rep k)⟩
    · cases w <;> try exact h.elim
      rename_i xs k
      obtain ⟨p, vs, e1, t1, q1⟩ := hv
      simp only [Vw, RepU] at hw
      obtain ⟨h1, h2⟩ := h
      have hl : vs.length * k.toNat ≤ sizeLine := by
        rw [← q1.length]; exact h1.2.2
      refine .inr (.inr (.inl ⟨p, k, vs, e1, hw, t1, by omega, by omega, hl, fun p3 h3 => ?_⟩))
      exact en.new R hz hx h3 (u := .lst (rep xs k)) ⟨_, rfl, q1.rep k⟩ h2
  | fdiv =>
    cases u <;> try exact h.elim
    cases w <;> try exact h.elim
    simp only [Vw, RepU] at hv hw
    exact ⟨_, _, hv, hw, h.1, fin (by simp only [RepU]) h.2⟩
  | mod =>
    cases u <;> try exact h.elim
    cases w <;> try exact h.elim
    simp only [Vw, RepU] at hv hw
    exact ⟨_, _, hv, hw, h.1, fin (by simp only [RepU]) h.2⟩
  | pow =>
    cases u <;> try exact h.elim
    cases w <;> try exact h.elim
    simp only [Vw, RepU] at hv hw
    exact ⟨_, _, hv, hw, h.1, fin (by simp only [RepU]) h.2⟩
theorem e_bin {op : BOp} (ha : PE X e1 (tE c Γ X a)) (hb : PE X e2 (tE c Γ X b)) : PE X (.BinOp e1 op.op e2 pos) (tE c Γ X (.bin op a b)) := by
  refine PE.imp (pe_op (op_bin op) ha hb) fun σ H Q ⟨L, Z, ρ, G, Xm, Qm, R, hL, w, tk, en⟩ => ?_
  simp only [wpE] at w
  refine two R hL w tk fun ra rb ρ2 G2 x y H2 Z' hz ha hb hx R2 qa qb w2 => ?_
  obtain ⟨u, eu, w2⟩ := vwK_out w2
  obtain ⟨z, ez, w2⟩ := vwK_out w2
  exact bin_of R2 hz hx en (vw_ok R2 qa eu) (vw_ok R2 qb ez) w2
end
end Mp

/-! Mp6: comparisons. -/
namespace Mp
open PySem PySem.Spec PyProof.Rows L2

mutual
def pd : U → PyData
  | .non => .none
  | .bl b => .bool b
  | .int i => .int i
  | .str s => .str ⟨s.toArray⟩
  | .tup xs => .tuple (pds xs)
  | .lst xs => .list (pds xs)
  | .dic _ _ => .none
  | .set _ => .none
  | .ref _ => .none
def pds : List U → List PyData
  | [] => []
  | x :: xs => pd x :: pds xs
end
mutual
theorem ok_shape {K : PySem.W.Frag} {H : Hp} {ex : Addr → Prop} : ∀ (u : U) {n : Nat} {v : V}, okU n u = true → RepU K H ex u v → (pd u).canLay0 = true ∧ (pd u).depth ≤ n
  | .non, n, v, _, _ => ⟨by simp only [pd, PyData.canLay0], by simp only [pd, PyData.depth]; omega⟩
  | .bl _, n, v, _, _ => ⟨by simp only [pd, PyData.canLay0], by simp only [pd, PyData.depth]; omega⟩
  | .int _, n, v, _, _ => ⟨by simp only [pd, PyData.canLay0], by simp only [pd, PyData.depth]; omega⟩
  | .str s, n, v, _, r => by
    simp only [RepU] at r
    refine ⟨?_, by simp only [pd, PyData.depth]; omega⟩
    simp only [pd, PyData.canLay0]
    show (Array.all s.toArray (· < 0x110000)) = true
    simp
    exact fun x hx => r.2.2 x hx
  | .tup xs, 0, v, h, _ => by simp [okU] at h
  | .tup xs, n + 1, v, h, r => by
    simp only [okU] at h
    simp only [RepU] at r
    obtain ⟨a, vs, _, _, q⟩ := r
    obtain ⟨h1, h2⟩ := ok_shapes xs h q
    simp only [pd, PyData.canLay0, PyData.depth]
    exact ⟨h1, by omega⟩
  | .lst xs, 0, v, h, _ => by simp [okU] at h
  | .lst xs, n + 1, v, h, r => by
    simp only [okU] at h
    simp only [RepU] at r
    obtain ⟨a, vs, _, _, q⟩ := r
    obtain ⟨h1, h2⟩ := ok_shapes xs h q
    simp only [pd, PyData.canLay0, PyData.depth]
    exact ⟨h1, by omega⟩
  | .dic _ _, n, v, h, _ => by cases n <;> simp [okU] at h
  | .set _, n, v, h, _ => by cases n <;> simp [okU] at h
  | .ref _, n, v, h, _ => by cases n <;> simp [okU] at h
theorem ok_shapes {K : PySem.W.Frag} {H : Hp} {ex : Addr → Prop} : ∀ (us : List U) {n : Nat} {vs : List V}, okUs n us = true → RepUs K H ex us vs → PyData.canLayAll0 (pds us) = true ∧ PyData.depthAll (pds us) ≤ n
  | [], n, vs, _, _ => ⟨by simp only [pds, PyData.canLayAll0], by simp only [pds, PyData.depthAll]; omega⟩
  | u :: us, n, vs, h, r => by
    simp only [okUs, Bool.and_eq_true] at h
    simp only [RepUs] at r
    obtain ⟨v, q, _, r1, r2⟩ := r
    obtain ⟨a1, a2⟩ := ok_shape u h.1 r1
    obtain ⟨b1, b2⟩ := ok_shapes us h.2 r2
    simp only [pds, PyData.canLayAll0, PyData.depthAll, a1, b1, Bool.and_self]
    exact ⟨trivial, by omega⟩
end
theorem strEq (s t : List Nat) : ((⟨s.toArray⟩ : Str) == ⟨t.toArray⟩) = (s == t) := by
  by_cases e : s = t
  · subst e; simp
  · have : ¬ (⟨s.toArray⟩ : Str) = ⟨t.toArray⟩ := fun z => e (by simpa using congrArg (fun (q : Str) => q.cps.toList) z)
    rw [beq_eq_false_iff_ne.mpr this, beq_eq_false_iff_ne.mpr e]
mutual
theorem eqv_eqU : ∀ (u w : U) {n m : Nat}, okU n u = true → okU m w = true → PyData.eqv (pd u) (pd w) = eqU u w
  | .non, w, n, m, _, h => by cases w <;> cases m <;> simp [okU] at h <;> simp [pd, PyData.eqv, eqU]
  | .bl _, w, n, m, _, h => by cases w <;> cases m <;> simp [okU] at h <;> simp [pd, PyData.eqv, eqU]
  | .int _, w, n, m, _, h => by cases w <;> cases m <;> simp [okU] at h <;> simp [pd, PyData.eqv, eqU]
  | .str s, w, n, m, _, h => by
    cases w <;> cases m <;> simp [okU] at h <;> simp only [pd, PyData.eqv, eqU]
    all_goals exact strEq _ _
  | .tup xs, w, 0, m, h, _ => by simp [okU] at h
  | .tup xs, w, n + 1, m, h, k => by
    simp only [okU] at h
    cases w <;> cases m <;> simp only [okU] at k <;> first | (simp at k; done) | simp only [pd, PyData.eqv, eqU]
    exact eqv_eqUs xs _ h k
  | .lst xs, w, 0, m, h, _ => by simp [okU] at h
  | .lst xs, w, n + 1, m, h, k => by
    simp only [okU] at h
    cases w <;> cases m <;> simp only [okU] at k <;> first | (simp at k; done) | simp only [pd, PyData.eqv, eqU]
    exact eqv_eqUs xs _ h k
  | .dic _ _, w, n, m, h, _ => by cases n <;> simp [okU] at h
  | .set _, w, n, m, h, _ => by cases n <;> simp [okU] at h
  | .ref _, w, n, m, h, _ => by cases n <;> simp [okU] at h
theorem eqv_eqUs : ∀ (us ws : List U) {n m : Nat}, okUs n us = true → okUs m ws = true → PyData.eqvAll (pds us) (pds ws) = eqUs us ws
  | [], [], _, _, _, _ => by simp only [pds, PyData.eqvAll, eqUs]
  | [], _ :: _, _, _, _, _ => by simp only [pds, PyData.eqvAll, eqUs]
  | _ :: _, [], _, _, _, _ => by simp only [pds, PyData.eqvAll, eqUs]
  | u :: us, w :: ws, n, m, h, k => by
    simp only [okUs, Bool.and_eq_true] at h k
    simp only [pds, PyData.eqvAll, eqUs, eqv_eqU u w h.1 k.1, eqv_eqUs us ws h.2 k.2]
end
section
variable {X : Cx} {pins : List (Addr × Obj)} {σ : L2.St} {H : Hp} {s : Shared} {K : PySem.W.Frag} {ex : Addr → Prop}
mutual
theorem reads_of (I : Inv X pins σ H s) : ∀ (u : U) {n : Nat} {v : V} {x : Value}, okU n u = true → RepU X.K H ex u v → RelV v x → ∃ as, Reads s.heap x (pd u) as
  | .non, _, v, x, _, r, q => by
    simp only [RepU] at r
    subst r
    cases q
    exact ⟨_, .none⟩
  | .bl b, _, v, x, _, r, q => by
    simp only [RepU] at r
    subst r
    cases q
    exact ⟨_, .bool b⟩
  | .int i, _, v, x, _, r, q => by
    simp only [RepU] at r
    subst r
    obtain ⟨t, rfl⟩ := q
    exact ⟨_, .int i t⟩
  | .str z, _, v, x, _, r, q => by
    simp only [RepU] at r
    obtain ⟨rfl, _⟩ := r
    obtain ⟨t, rfl⟩ := q
    exact ⟨_, .str _ t⟩
  | .tup xs, 0, v, x, h, _, _ => by simp [okU] at h
  | .tup xs, n + 1, v, x, h, r, q => by
    simp only [okU] at h
    simp only [RepU] at r
    obtain ⟨a, vs, rfl, t, r⟩ := r
    cases q
    obtain ⟨its, rv, ht, _⟩ := I.tuple (sqT_of t)
    obtain ⟨as, ra⟩ := reads_all I xs h r rv
    obtain ⟨o, h1, h2, m, h3⟩ := ht
    exact ⟨as, .tuple h1 h2 h3 (by simpa using ra)⟩
  | .lst xs, 0, v, x, h, _, _ => by simp [okU] at h
  | .lst xs, n + 1, v, x, h, r, q => by
    simp only [okU] at h
    simp only [RepU] at r
    obtain ⟨a, vs, rfl, t, r⟩ := r
    cases q
    obtain ⟨_, its, m, sl, rv, _, e⟩ := lstR I (sqL_of t)
    obtain ⟨as, ra⟩ := reads_all I xs h r rv
    exact ⟨a :: as, .list e rfl rfl (by simpa using ra)⟩
  | .dic _ _, n, v, x, h, _, _ => by cases n <;> simp [okU] at h
  | .set _, n, v, x, h, _, _ => by cases n <;> simp [okU] at h
  | .ref _, n, v, x, h, _, _ => by cases n <;> simp [okU] at h
theorem reads_all (I : Inv X pins σ H s) : ∀ (us : List U) {n : Nat} {vs : List V} {xs : List Value}, okUs n us = true → RepUs X.K H ex us vs → Vals vs xs → ∃ as, ReadsAll s.heap xs (pds us) as
  | [], _, vs, xs, _, r, q => by
    simp only [RepUs] at r
    subst r
    cases q
    exact ⟨_, .nil⟩
  | u :: us, n, vs, xs, h, r, q => by
    simp only [okUs, Bool.and_eq_true] at h
    simp only [RepUs] at r
    obtain ⟨v, t, rfl, r1, r2⟩ := r
    cases q with
    | cons q1 q2 =>
      obtain ⟨as, h1⟩ := reads_of I u h.1 r1 q1
      obtain ⟨bs, h2⟩ := reads_all I us h.2 r2 q2
      exact ⟨_, .cons h1 h2⟩
end
/-- the same of a view -/
theorem reads_vw (I : Inv X pins σ H s) {u : U} {n : Nat} {v : V} {x : Value} (h : okU n u = true) (r : Vw X.K H ex u v) (q : RelV v x) : (∃ as, Reads s.heap x (pd u) as) ∧ (pd u).canLay0 = true ∧ (pd u).depth ≤ n := by
  cases u with
  | lst xs =>
    cases n with
    | zero => simp [okU] at h
    | succ n =>
      simp only [okU] at h
      obtain ⟨a, vs, rfl, t, r⟩ := r
      cases q
      obtain ⟨_, its, m, sl, rv, _, e⟩ := lstR I t
      obtain ⟨as, ra⟩ := reads_all I xs h r rv
      obtain ⟨h1, h2⟩ := ok_shapes xs h r
      refine ⟨⟨a :: as, .list e rfl rfl (by simpa using ra)⟩, ?_⟩
      simp only [pd, PyData.canLay0, PyData.depth]
      exact ⟨h1, by omega⟩
  | dic _ _ => cases n <;> simp [okU] at h
  | set _ => cases n <;> simp [okU] at h
  | ref _ => cases n <;> simp [okU] at h
  | _ => exact ⟨reads_of I _ h (show RepU X.K H ex _ v from r) q, ok_shape _ h (show RepU X.K H ex _ v from r)⟩
end

/-! ### the operators -/
def rEqU (K : PySem.W.Frag) (neg : Bool) : R2 := fun x y H Q => ∃ ex ex' u w, Vw K H ex u x ∧ Vw K H ex' w y ∧ okU deepU u = true ∧ okU deepU w = true ∧ Q (.bl (if neg then !eqU u w else eqU u w)) H
theorem op_eqU {X : Cx} (hu : X.A.units + 64 < cLine) : OpR X (compareOp .Eq) (rEqU X.K false) := by
  intro pins s σ H x y v u Q I rx ry h
  obtain ⟨ex, ex', a, b, h1, h2, h3, h4, q⟩ := h
  obtain ⟨⟨as, r1⟩, c1, d1⟩ := reads_vw I h3 h1 rx
  obtain ⟨⟨bs, r2⟩, c2, d2⟩ := reads_vw I h4 h2 ry
  refine SeqAt.compareEq_reads r1 r2 c1 c2 ?_ ?_
  · have : deepU = 40 := rfl
    have := Nat.min_le_left (pd a).depth (pd b).depth
    omega
  · rw [eqv_eqU a b h3 h4]
    exact ⟨.bl _, H, I, rfl, q⟩
theorem op_neU {X : Cx} (hu : X.A.units + 64 < cLine) : OpR X (compareOp .NotEq) (rEqU X.K true) := by
  intro pins s σ H x y v u Q I rx ry h
  obtain ⟨ex, ex', a, b, h1, h2, h3, h4, q⟩ := h
  obtain ⟨⟨as, r1⟩, c1, d1⟩ := reads_vw I h3 h1 rx
  obtain ⟨⟨bs, r2⟩, c2, d2⟩ := reads_vw I h4 h2 ry
  refine SeqAt.compareNe_reads r1 r2 c1 c2 ?_ ?_
  · have : deepU = 40 := rfl
    have := Nat.min_le_left (pd a).depth (pd b).depth
    omega
  · rw [eqv_eqU a b h3 h4]
    exact ⟨.bl _, H, I, rfl, q⟩
theorem any_pds {w : U} : ∀ (xs : List U) {n m : Nat}, okUs n xs = true → okU m w = true → ((pds xs).any fun y => PyData.eqv y (pd w)) = xs.any fun y => eqU y w
  | [], _, _, _, _ => rfl
  | x :: xs, n, m, h, k => by
    simp only [okUs, Bool.and_eq_true] at h
    simp only [pds, List.any_cons, any_pds xs h.2 k, eqv_eqU x w h.1 k]
def rInU (K : PySem.W.Frag) (neg : Bool) : R2 := fun x y H Q => ∃ ex ex' u xs, Vw K H ex u x ∧ (Vw K H ex' (.lst xs) y ∨ Vw K H ex' (.tup xs) y) ∧ okU deepU u = true ∧ okUs deepU xs = true ∧ Q (.bl (if neg then !(xs.any fun y => eqU y u) else xs.any fun y => eqU y u)) H
theorem op_inU {X : Cx} (hu : X.A.units + 64 < cLine) : OpR X (compareOp .In) (rInU X.K false) := by
  intro pins s σ H x y v u Q I rx ry h
  obtain ⟨ex, ex', a, xs, h1, h2, h3, h4, q⟩ := h
  obtain ⟨⟨as, r1⟩, c1, d1⟩ := reads_vw I h3 h1 rx
  have room : ∀ d, d ≤ deepU → X.A.units + 1 + min d (pd a).depth < cLine := fun d hd => by
    have : deepU = 40 := rfl
    have := Nat.min_le_left d (pd a).depth
    omega
  rcases h2 with h2 | h2
  · obtain ⟨⟨bs, r2⟩, c2, d2⟩ := reads_vw I (n := deepU + 1) (u := .lst xs) (by simpa only [okU] using h4) h2 ry
    simp only [pd, PyData.canLay0, PyData.depth] at r2 c2 d2
    refine SeqAt.in_list_reads r2 r1 c2 c1 (room _ (by omega)) ?_
    rw [any_pds xs h4 h3]
    exact ⟨.bl _, H, I, rfl, q⟩
  · obtain ⟨⟨bs, r2⟩, c2, d2⟩ := reads_vw I (n := deepU + 1) (u := .tup xs) (by simpa only [okU] using h4) h2 ry
    simp only [pd, PyData.canLay0, PyData.depth] at r2 c2 d2
    refine SeqAt.in_tuple_reads r2 r1 c2 c1 (room _ (by omega)) ?_
    rw [any_pds xs h4 h3]
    exact ⟨.bl _, H, I, rfl, q⟩
theorem op_ninU {X : Cx} (hu : X.A.units + 64 < cLine) : OpR X (compareOp .NotIn) (rInU X.K true) := by
  intro pins s σ H x y v u Q I rx ry h
  obtain ⟨ex, ex', a, xs, h1, h2, h3, h4, q⟩ := h
  obtain ⟨⟨as, r1⟩, c1, d1⟩ := reads_vw I h3 h1 rx
  have room : ∀ d, d ≤ deepU → X.A.units + 1 + min d (pd a).depth < cLine := fun d hd => by
    have : deepU = 40 := rfl
    have := Nat.min_le_left d (pd a).depth
    omega
  rcases h2 with h2 | h2
  · obtain ⟨⟨bs, r2⟩, c2, d2⟩ := reads_vw I (n := deepU + 1) (u := .lst xs) (by simpa only [okU] using h4) h2 ry
    simp only [pd, PyData.canLay0, PyData.depth] at r2 c2 d2
    refine SeqAt.notIn_list_reads r2 r1 c2 c1 (room _ (by omega)) ?_
    rw [any_pds xs h4 h3]
    exact ⟨.bl _, H, I, rfl, q⟩
  · obtain ⟨⟨bs, r2⟩, c2, d2⟩ := reads_vw I (n := deepU + 1) (u := .tup xs) (by simpa only [okU] using h4) h2 ry
    simp only [pd, PyData.canLay0, PyData.depth] at r2 c2 d2
    refine SeqAt.notIn_tuple_reads r2 r1 c2 c1 (room _ (by omega)) ?_
    rw [any_pds xs h4 h3]
    exact ⟨.bl _, H, I, rfl, q⟩

/-! ### dicts -/
section
variable {K : PySem.W.Frag} {H : Hp} {ex : Addr → Prop}
theorem key_out {y : U} {v : V} (h : key1 y = true) (q : RepU K H ex y v) : ∃ k : Key, y = kKey k ∧ v = kV k := by
  cases y <;> try (cases h; done)
  · rename_i i
    simp only [RepU] at q
    exact ⟨.inl i, rfl, q⟩
  · rename_i s
    simp only [RepU] at q
    exact ⟨.inr ⟨s.toArray⟩, by simp [kKey], q.1⟩
theorem kKey_eq (a b : Key) : eqU (kKey a) (kKey b) = decide (a = b) := by
  cases a with
  | inl i =>
    cases b with
    | inl j =>
      simp only [kKey, eqU]
      by_cases h : i = j <;> simp [h]
    | inr t => simp [kKey, eqU]
  | inr s =>
    cases b with
    | inl j => simp [kKey, eqU]
    | inr t =>
      simp only [kKey, eqU]
      obtain ⟨⟨s⟩⟩ := s
      obtain ⟨⟨t⟩⟩ := t
      by_cases h : s = t <;> simp [h]
theorem lookD_val (k : Key) : ∀ (kvs : List (Key × V)) {ws : List U}, RepUs K H ex ws (kvs.map (·.2)) →
    (∀ u, lookD (kvs.map fun p => kKey p.1) ws (kKey k) = some u → ∃ v, valV kvs k = some v ∧ RepU K H ex u v) ∧ (lookD (kvs.map fun p => kKey p.1) ws (kKey k) = none → valV kvs k = none)
  | [], ws, r => by
    simp only [List.map_nil]
    refine ⟨fun u h => ?_, fun _ => rfl⟩
    cases ws <;> simp [lookD] at h
  | p :: kvs, ws, r => by
    cases ws with
    | nil => simp [RepUs] at r
    | cons w ws =>
      simp only [List.map_cons, RepUs] at r
      obtain ⟨v, q, e, r1, r2⟩ := r
      cases e
      obtain ⟨ih1, ih2⟩ := lookD_val k kvs r2
      simp only [List.map_cons, lookD, kKey_eq]
      by_cases e : p.1 = k
      · simp only [e, decide_true, if_true]
        refine ⟨fun u h => ?_, fun h => by cases h⟩
        cases h
        exact ⟨_, valV_pos e, r1⟩
      · simp only [e, decide_false, Bool.false_eq_true, if_false]
        rw [valV_neg e]
        exact ⟨ih1, ih2⟩
theorem hasD_any (k : Key) : ∀ kvs : List (Key × V), hasD (kvs.map fun p => kKey p.1) (kKey k) = kvs.any fun kv => decide (kv.1 = k)
  | [] => rfl
  | p :: kvs => by simp only [List.map_cons, hasD, kKey_eq, List.any_cons, hasD_any k kvs]
theorem hasD_val (k : Key) (kvs : List (Key × V)) : hasD (kvs.map fun p => kKey p.1) (kKey k) = (valV kvs k).isSome := by rw [hasD_any, valV_any]
theorem updD_rep {u : U} {v : V} (k : Key) (hu : RepU K H ex u v) : ∀ (kvs : List (Key × V)) {ws : List U}, RepUs K H ex ws (kvs.map (·.2)) →
    RepUs K H ex (updD (kvs.map fun p => kKey p.1) ws (kKey k) u) ((kvs.map fun kv => if kv.1 = k then (kv.1, v) else kv).map (·.2))
  | [], ws, r => by
    simp only [List.map_nil]
    cases ws <;> simp [updD, RepUs]
  | p :: kvs, ws, r => by
    cases ws with
    | nil => simp [RepUs] at r
    | cons w ws =>
      simp only [List.map_cons, RepUs] at r
      obtain ⟨x, q, e, r1, r2⟩ := r
      cases e
      have ih := updD_rep k hu kvs r2
      simp only [List.map_cons, updD, kKey_eq, RepUs]
      refine ⟨_, _, rfl, ?_, ih⟩
      by_cases e : p.1 = k
      · simp only [e, decide_true, if_true]; exact hu
      · simp only [e, decide_false, Bool.false_eq_true, if_false]; exact r1
theorem putD_rep {u : U} {v : V} (k : Key) (hu : RepU K H ex u v) (kvs : List (Key × V)) {ws : List U} (r : RepUs K H ex ws (kvs.map (·.2))) :
    putDk (kvs.map fun p => kKey p.1) (kKey k) = (putK kvs k v).map (fun p => kKey p.1) ∧ RepUs K H ex (putDv (kvs.map fun p => kKey p.1) ws (kKey k) u) ((putK kvs k v).map (·.2)) := by
  unfold putDk putDv putK
  rw [hasD_any]
  by_cases h : (kvs.any fun kv => decide (kv.1 = k)) = true
  · simp only [h, if_true]
    refine ⟨?_, updD_rep k hu kvs r⟩
    rw [List.map_map]
    refine List.map_congr_left fun p _ => ?_
    by_cases e : p.1 = k <;> simp [e]
  · simp only [h, if_false, Bool.false_eq_true]
    refine ⟨by simp, ?_⟩
    rw [List.map_append]
    exact r.append (by simp only [List.map_cons, List.map_nil, RepUs]; exact ⟨v, [], rfl, hu, rfl⟩)
theorem delD_rep (k : Key) : ∀ (kvs : List (Key × V)) {ws : List U}, RepUs K H ex ws (kvs.map (·.2)) →
    delDk (kvs.map fun p => kKey p.1) (kKey k) = (dropK kvs k).map (fun p => kKey p.1) ∧ RepUs K H ex (delDv (kvs.map fun p => kKey p.1) ws (kKey k)) ((dropK kvs k).map (·.2))
  | [], ws, r => by
    simp only [List.map_nil]
    cases ws <;> simp [delDk, delDv, dropK, RepUs]
  | p :: kvs, ws, r => by
    cases ws with
    | nil => simp [RepUs] at r
    | cons w ws =>
      simp only [List.map_cons, RepUs] at r
      obtain ⟨x, q, e, r1, r2⟩ := r
      cases e
      obtain ⟨ih1, ih2⟩ := delD_rep k kvs r2
      unfold dropK at ih1 ih2 ⊢
      simp only [List.map_cons, delDk, delDv, kKey_eq]
      by_cases e : p.1 = k
      · simp only [e, decide_true, if_true]
        rw [List.filter_cons_of_neg (by simp [e])]
        exact ⟨ih1, ih2⟩
      · simp only [e, decide_false, Bool.false_eq_true, if_false]
        rw [List.filter_cons_of_pos (by simp [e])]
        simp only [List.map_cons, RepUs, ih1]
        exact ⟨trivial, _, _, rfl, r1, ih2⟩
end
/-- y in d, y not in d -/
def rInD (neg : Bool) : R2 := fun x y H Q => ∃ a o, y = .ref a ∧ DGet H a x o ∧ Q (.bl (if neg then !o.isSome else o.isSome)) H
theorem op_inD {X : Cx} (hu : X.A.units + 64 < cLine) : OpR X (compareOp .In) (rInD false) := by
  intro pins s σ H x y v u Q I rx ry h
  obtain ⟨a, o, e, g, q⟩ := h
  subst e
  cases (show u = Value.ref a from ry)
  exact d_in (by omega) I g rx fun s' I' => ⟨.bl o.isSome, H, I', rfl, q⟩
theorem op_ninD {X : Cx} (hu : X.A.units + 64 < cLine) : OpR X (compareOp .NotIn) (rInD true) := by
  intro pins s σ H x y v u Q I rx ry h
  obtain ⟨a, o, e, g, q⟩ := h
  subst e
  cases (show u = Value.ref a from ry)
  exact d_notIn (by omega) I g rx fun s' I' => ⟨.bl (!o.isSome), H, I', rfl, q⟩
/-- d[y] -/
def rIxDG : R2 := fun x y H Q => ∃ a v, x = .ref a ∧ DGet H a y (some v) ∧ Q v H
theorem ix_dictG {X : Cx} (hu : X.A.units + 64 < cLine) : IxR X rIxDG := by
  intro value slice pins s σ H x y v u Q I rx ry h hs
  obtain ⟨a, z, e, g, q⟩ := h
  subst e
  cases (show v = Value.ref a from rx)
  exact tail_any (dict_typeIs I g) PySem.F.slot_dict_getitem.lookup (d_getItem (by omega) I g ry fun w' s' I' r => ⟨z, H, I', r, q⟩) hs
theorem vw_dic {K : PySem.W.Frag} {H : Hp} {ex : Addr → Prop} {ks ws : List U} {x : V} {y : U} {v : V} (h : Vw K H ex (.dic ks ws) x) (hk : key1 y = true) (q : RepU K H ex y v) :
    ∃ a kvs k, x = .ref a ∧ Rd H a (.dK kvs) ∧ ks = kvs.map (fun p => kKey p.1) ∧ RepUs K H ex ws (kvs.map (·.2)) ∧ y = kKey k ∧ v = kV k ∧ DGet H a v (valV kvs k) := by
  obtain ⟨a, kvs, e, r, e2, q2⟩ := h
  obtain ⟨k, e3, e4⟩ := key_out hk q
  exact ⟨a, kvs, k, e, r, e2, q2, e3, e4, .inl ⟨kvs, k, r, e4, rfl⟩⟩
theorem key_vw {K : PySem.W.Frag} {H : Hp} {ex : Addr → Prop} {y : U} {v : V} (h : key1 y = true) (q : Vw K H ex y v) : RepU K H ex y v := by
  cases y <;> first | exact q | cases h
end Mp

/-! Mp7: comparisons, and, or, subscripts as expressions. -/
namespace Mp
open PySem PySem.Spec PyProof.Rows L2

def rCmp (K : PySem.W.Frag) : COp → R2
  | .eq => rEqU K false
  | .ne => rEqU K true
  | .lt => fun x y H Q => rI0 (fun i j => .bl (decide (i < j))) x y H Q ∨ ∃ i j : Str, x = .str i ∧ y = .str j ∧ Q (.bl (decide (i.cps.toList < j.cps.toList))) H
  | .le => rI0 fun i j => .bl (decide (i ≤ j))
  | .gt => rI0 fun i j => .bl (decide (j < i))
  | .ge => rI0 fun i j => .bl (decide (j ≤ i))
  | .inn => fun x y H Q => rInD false x y H Q ∨ rInU K false x y H Q ∨ ∃ (c : Nat) (z : Str), x = .str ⟨#[c]⟩ ∧ y = .str z ∧ Q (.bl (decide (c ∈ z.cps.toList))) H
  | .nin => fun x y H Q => rInD true x y H Q ∨ rInU K true x y H Q ∨ ∃ (c : Nat) (z : Str), x = .str ⟨#[c]⟩ ∧ y = .str z ∧ Q (.bl (!decide (c ∈ z.cps.toList))) H
theorem op_cmp {X : Cx} (hu : X.A.units + 64 < cLine) : ∀ op : COp, OpR X (compareOp op.op) (rCmp X.K op)
  | .eq => op_eqU hu
  | .ne => op_neU hu
  | .lt => OpR.or op_lt op_lt_str
  | .le => op_le
  | .gt => op_gt
  | .ge => op_ge
  | .inn => OpR.or (op_inD hu) (OpR.or (op_inU hu) op_in_sign)
  | .nin => OpR.or (op_ninD hu) (OpR.or (op_ninU hu) op_notIn_sign)
section
variable {c : Cx0} {Γ : Cal} {X : Cx} {L Z Z' : Addr → Prop} {σ : L2.St} {H H2 : Hp} {ρ ρ2 : Rho} {G G2 : Hh} {f ex : Addr → Prop} {x y : V} {u w : U} {Qm : Kc} {Q : VK} {a b d : E} {e1 e2 e3 : Expr} {pos : Pos} {r : R}
/-- a comparison's answer is a truth -/
theorem cmp_of {op : COp} {K : Bool → Prop} {Q : VK} (hv : Vw X.K H ex u x) (hw : Vw X.K H ex w y) (h : cmpU op u w K) (q : ∀ k, K k → Q (.bl k) H) : rCmp X.K op x y H Q := by
  cases op with
  | eq => exact ⟨ex, ex, u, w, hv, hw, h.1.1, h.1.2, q _ h.2⟩
  | ne => exact ⟨ex, ex, u, w, hv, hw, h.1.1, h.1.2, q _ h.2⟩
  | lt =>
    cases u <;> try exact h.elim
    · cases w <;> try exact h.elim
      simp only [Vw, RepU] at hv hw
      exact .inl ⟨_, _, hv, hw, q _ h⟩
    · cases w <;> try exact h.elim
      simp only [Vw, RepU] at hv hw
      exact .inr ⟨_, _, hv.1, hw.1, q _ h⟩
  | le =>
    cases u <;> try exact h.elim
    cases w <;> try exact h.elim
    simp only [Vw, RepU] at hv hw
    exact ⟨_, _, hv, hw, q _ h⟩
  | gt =>
    cases u <;> try exact h.elim
    cases w <;> try exact h.elim
    simp only [Vw, RepU] at hv hw
    exact ⟨_, _, hv, hw, q _ h⟩
  | ge =>
    cases u <;> try exact h.elim
    cases w <;> try exact h.elim
    simp only [Vw, RepU] at hv hw
    exact ⟨_, _, hv, hw, q _ h⟩
  | inn =>
    cases w <;> try exact h.elim
    · cases u <;> try exact h.elim
      rename_i t s
      match s, h with
      | [c], h =>
        simp only [Vw, RepU] at hv hw
        exact .inr (.inr ⟨c, _, hv.1, hw.1, q _ h⟩)
    · exact .inr (.inl ⟨ex, ex, u, _, hv, .inr hw, h.1.1, h.1.2, q _ h.2⟩)
    · exact .inr (.inl ⟨ex, ex, u, _, hv, .inl hw, h.1.1, h.1.2, q _ h.2⟩)
    · obtain ⟨h1, h2⟩ := h
      obtain ⟨a, kvs, k, e, r, e2, q2, e3, e4, g⟩ := vw_dic hw h1 (key_vw h1 hv)
      subst e2 e3
      rw [hasD_val] at h2
      exact .inl ⟨a, _, e, g, q _ h2⟩
  | nin =>
    cases w <;> try exact h.elim
    · cases u <;> try exact h.elim
      rename_i t s
      match s, h with
      | [c], h =>
        simp only [Vw, RepU] at hv hw
        exact .inr (.inr ⟨c, _, hv.1, hw.1, q _ h⟩)
    · exact .inr (.inl ⟨ex, ex, u, _, hv, .inr hw, h.1.1, h.1.2, q _ h.2⟩)
    · exact .inr (.inl ⟨ex, ex, u, _, hv, .inl hw, h.1.1, h.1.2, q _ h.2⟩)
    · obtain ⟨h1, h2⟩ := h
      obtain ⟨a, kvs, k, e, r, e2, q2, e3, e4, g⟩ := vw_dic hw h1 (key_vw h1 hv)
      subst e2 e3
      rw [hasD_val] at h2
      exact .inl ⟨a, _, e, g, q _ h2⟩
/-- the end of what is a truth -/
def EndB (c : Cx0) (X : Cx) (L Z : Addr → Prop) (σ : L2.St) (H : Hp) (f : Addr → Prop) (Qm : Kc) (Q : VK) : Prop :=
  ∀ k ρ' G' H' Z', (∀ a, Z a → Z' a) → Ext H f H' (fp σ ρ' G') → Rep c.ca X.K L Z' σ H' ρ' G' → Qm (.u (.bl k)) ρ' G' → Q (.bl k) H'
theorem EndE.toB (en : EndE c X L Z σ H f Qm Q) : EndB c X L Z σ H f Qm Q := fun k ρ' G' H' Z' hz hx R q => en.ofU R hz hx (by simp only [RepU]) q
theorem cmp_go {op : COp} {Xm : Xc} (R : Rep c.ca X.K L Z σ H ρ G) (hL : ∀ a, L a → Z a) (w : wpE c.P Γ (.cmp op a b) ρ G Xm Qm) (tk : Tk c X L Z H (fp σ ρ G) Xm) (en : EndB c X L Z σ H (fp σ ρ G) Qm Q) : tOp (rCmp X.K op) (tE c Γ X a) (tE c Γ X b) σ H Q := by
  simp only [wpE] at w
  refine two R hL w tk fun ra rb ρ2 G2 x y H2 Z' hz ha hb hx R2 qa qb w2 => ?_
  obtain ⟨u, eu, w2⟩ := vwK_out w2
  obtain ⟨z, ez, w2⟩ := vwK_out w2
  exact cmp_of (vw_ok R2 qa eu) (vw_ok R2 qb ez) w2 fun k hk => en k _ _ _ _ hz hx R2 hk
theorem e_cmp {op : COp} (hu : X.A.units + 64 < cLine) (ha : PE X e1 (tE c Γ X a)) (hb : PE X e2 (tE c Γ X b)) (hm : behindInMarks op.op e2 = false) : PE X (.Compare e1 [op.op] [e2] pos) (tE c Γ X (.cmp op a b)) :=
  PE.imp (pe_cmpR (op_cmp hu op) ha hb hm) fun σ H Q ⟨L, Z, ρ, G, Xm, Qm, R, hL, w, tk, en⟩ => cmp_go R hL w tk (EndE.toB en)
theorem chain_go {o1 o2 : COp} {Xm : Xc} (R : Rep c.ca X.K L Z σ H ρ G) (hL : ∀ a, L a → Z a) (w : wpE c.P Γ (.chain o1 o2 a b d) ρ G Xm Qm) (tk : Tk c X L Z H (fp σ ρ G) Xm) (en : EndB c X L Z σ H (fp σ ρ G) Qm Q) :
    tChain (rCmp X.K o1) (rCmp X.K o2) (tE c Γ X a) (tE c Γ X b) (tE c Γ X d) σ H Q := by
  simp only [wpE] at w
  refine two (S := fun x y H2 => rCmp X.K o1 x y H2 fun z H3 => ∃ k, z = .bl k ∧ (if k = true then tE c Γ X d σ H3 fun w' H4 => rCmp X.K o2 y w' H4 Q else Q (.bl false) H3)) R hL w tk fun ra rb ρ2 G2 x y H2 Z' hz ha hb hx R2 qa qb w2 => ?_
  obtain ⟨u, eu, w2⟩ := vwK_out w2
  obtain ⟨z, ez, w2⟩ := vwK_out w2
  refine cmp_of (vw_ok R2 qa eu) (vw_ok R2 qb ez) w2 fun k hk => ⟨k, rfl, ?_⟩
  cases k with
  | false =>
    rw [if_neg Bool.false_ne_true]
    exact en false _ _ _ _ hz hx R2 hk
  | true =>
    rw [if_pos rfl]
    refine ⟨L, Z', ρ2, G2, Xm, _, R2, fun a z => hz a (hL a z), hk, tk.go hx hz, fun rc ρ3 G3 z3 H3 e3 R3 w3 => ?_⟩
    obtain ⟨u3, eu3, w3⟩ := vwK_out w3
    obtain ⟨z4, ez4, w3⟩ := vwK_out w3
    have qb3 : Val X.K H3 (Or2 (fp σ ρ3 G3) (Or2 Z' (Hd rc z3))) σ rb y := by
      exact qb.step hb (fun a z => (R2.zd a z).1) e3 fun p z => (R3.new p z).1
    exact cmp_of (vw_ok R3.rep qb3 eu3) (vw_ok R3.rep R3.val ez4) w3 fun k hk => en k _ _ _ _ (fun a z => .inl (hz a z)) (hx.trans e3) R3.rep hk
theorem e_chain {o1 o2 : COp} (hu : X.A.units + 64 < cLine) (ga : PE X e1 (tE c Γ X a)) (gb : PE X e2 (tE c Γ X b)) (hd : PE X e3 (tE c Γ X d)) (hm : lastMarks [o1.op, o2.op] [e2, e3] = false) :
    PE X (.Compare e1 [o1.op, o2.op] [e2, e3] pos) (tE c Γ X (.chain o1 o2 a b d)) :=
  PE.imp (pe_chain (op_cmp hu o1) (op_cmp hu o2) ga gb hd hm) fun σ H Q ⟨L, Z, ρ, G, Xm, Qm, R, hL, w, tk, en⟩ => chain_go R hL w tk (EndE.toB en)

/-- is None, is not None -/
theorem op_isNn : ∀ neg : Bool, OpR X (compareOp (if neg then .IsNot else .Is)) (fun x y H Q => y = .non ∧ Q (.bl (if neg then !decide (x = .non) else decide (x = .non))) H)
  | true => op_notN
  | false => op_isN
theorem nonB_ref {neg : Bool} {p : Addr} (e : x = .ref p) : (if neg then !decide (x = V.non) else decide (x = V.non)) = neg := by
  rw [e]; cases neg <;> rfl
theorem nonB_of {neg : Bool} (q : RepU X.K H ex u x) : (if neg then !decide (x = V.non) else decide (x = V.non)) = nonB u neg := by
  cases u <;> simp only [RepU] at q
  · rw [q]; cases neg <;> rfl
  · rw [q]; cases neg <;> rfl
  · rw [q]; cases neg <;> rfl
  · rw [q.1]; cases neg <;> rfl
  · obtain ⟨a, vs, e, _⟩ := q; exact nonB_ref e
  · obtain ⟨a, vs, e, _⟩ := q; exact nonB_ref e
  · obtain ⟨a, vs, e, _⟩ := q; exact nonB_ref e
  · exact nonB_ref q
theorem isN_go {neg : Bool} {Xm : Xc} (R : Rep c.ca X.K L Z σ H ρ G) (hL : ∀ a, L a → Z a) (w : wpE c.P Γ (.isN a neg) ρ G Xm Qm) (tk : Tk c X L Z H (fp σ ρ G) Xm) (en : EndB c X L Z σ H (fp σ ρ G) Qm Q) :
    tE c Γ X a σ H fun x H1 => V.non = .non ∧ Q (.bl (if neg then !decide (x = .non) else decide (x = .non))) H1 := by
  simp only [wpE] at w
  refine one R hL w tk fun ra ρ2 G2 x H2 Z' hz ha hx R2 q w2 => ⟨rfl, ?_⟩
  have other : vwK ra ρ2 G2 (fun _ => Qm (.u (.bl neg)) ρ2 G2) → (∀ u, ra ≠ .u u) → Q (.bl (if neg then !decide (x = V.non) else decide (x = V.non))) H2 := fun w3 hr => by
    obtain ⟨u, eu, w3⟩ := vwK_out w3
    have hv := vw_ok R2 q eu
    have hp : ∃ p, x = .ref p := by
      cases ra with
      | u v => exact absurd rfl (hr v)
      | tmp v =>
        obtain ⟨p, o, e, _⟩ := q
        exact ⟨p, e⟩
      | exc k => exact ⟨k, q⟩
      | lv i =>
        have q' : σ[i]? = some (some x) := q
        cases hs : ρ2[i]? with
        | none => simp [vw, hs] at eu
        | some os =>
          cases os with
          | none => simp [vw, hs] at eu
          | some sv =>
            obtain ⟨v, e1, q1⟩ := R2.slot i sv hs
            rw [q'] at e1
            cases e1
            cases sv with
            | u y => simp [vw, hs] at eu
            | exc k => simp [vw, hs] at eu
            | own y =>
              obtain ⟨a, o, e, _⟩ := q1
              exact ⟨a, e⟩
            | fz t y => exact ⟨t, q1.1⟩
    obtain ⟨p, e⟩ := hp
    rw [nonB_ref e]
    exact en _ _ _ _ _ hz hx R2 w3
  cases ra with
  | u v =>
    rw [nonB_of q]
    exact en _ _ _ _ _ hz hx R2 w2
  | tmp v => exact other w2 fun _ h => nomatch h
  | lv i => exact other w2 fun _ h => nomatch h
  | exc k => exact other w2 fun _ h => nomatch h
theorem e_isN {neg : Bool} {j : Nat} {p2 : Pos} (ga : PE X e1 (tE c Γ X a)) : PE X (.Compare e1 [if neg then .IsNot else .Is] [.Constant .none j p2] pos) (tE c Γ X (.isN a neg)) :=
  PE.imp (pe_cmpR (op_isNn neg) ga pe_non rfl) fun σ H Q ⟨L, Z, ρ, G, Xm, Qm, R, hL, w, tk, en⟩ => isN_go R hL w tk (EndE.toB en)
theorem op_isBb : ∀ neg : Bool, OpR X (compareOp (if neg then .IsNot else .Is)) (fun x y H Q => ∃ a b : Bool, x = .bl a ∧ y = .bl b ∧ Q (.bl (if neg then !decide (a = b) else decide (a = b))) H)
  | true => op_notBl
  | false => op_isBl
theorem isB_go {k neg : Bool} {Xm : Xc} (R : Rep c.ca X.K L Z σ H ρ G) (hL : ∀ a, L a → Z a) (w : wpE c.P Γ (.isB a k neg) ρ G Xm Qm) (tk : Tk c X L Z H (fp σ ρ G) Xm) (en : EndB c X L Z σ H (fp σ ρ G) Qm Q) :
    tE c Γ X a σ H fun x H1 => ∃ a b : Bool, x = .bl a ∧ V.bl k = .bl b ∧ Q (.bl (if neg then !decide (a = b) else decide (a = b))) H1 := by
  simp only [wpE] at w
  refine one R hL w tk fun ra ρ2 G2 x H2 Z' hz ha hx R2 q w2 => ?_
  cases ra <;> try exact w2.elim
  rename_i v
  cases v <;> try exact w2.elim
  rename_i b
  simp only [Val, RepU] at q
  exact ⟨b, k, q, rfl, en _ _ _ _ _ hz hx R2 w2⟩
theorem e_isB {k neg : Bool} {j : Nat} {p2 : Pos} (ga : PE X e1 (tE c Γ X a)) : PE X (.Compare e1 [if neg then .IsNot else .Is] [.Constant (.bool k) j p2] pos) (tE c Γ X (.isB a k neg)) :=
  PE.imp (pe_cmpR (op_isBb neg) ga pe_bl rfl) fun σ H Q ⟨L, Z, ρ, G, Xm, Qm, R, hL, w, tk, en⟩ => isB_go R hL w tk (EndE.toB en)

/-! ### and, or -/
theorem e_and {es : Es} {rest : List Expr} (ga : PE X e1 (tE c Γ X a)) (gb : PE X (.BoolOp .And (e2 :: rest) pos) (fun σ H Q => ∃ L Z ρ G Xm Qm, Rep c.ca X.K L Z σ H ρ G ∧ (∀ a, L a → Z a) ∧ wpAnd c.P Γ es ρ G Xm Qm ∧ Tk c X L Z H (fp σ ρ G) Xm ∧ EndE c X L Z σ H (fp σ ρ G) Qm Q)) :
    PE X (.BoolOp .And (e1 :: e2 :: rest) pos) (tE c Γ X (.and_ a es)) := by
  refine PE.imp (pe_andT ga gb) fun σ H Q ⟨L, Z, ρ, G, Xm, Qm, R, hL, w, tk, en⟩ => ?_
  simp only [wpE] at w
  refine ⟨L, Z, ρ, G, Xm, _, R, hL, w, tk, fun ra ρ2 G2 x H2 hx R2 w2 => ?_⟩
  obtain ⟨u, k, e, ek, w2⟩ := tstK_out w2
  refine ⟨k, tru_of (vw_ok R2.rep R2.val e) ek, ?_⟩
  cases k with
  | true =>
    rw [if_pos rfl]
    exact ⟨L, Z, ρ2, G2, Xm, Qm, R2.rep.less fun a => .inl, hL, w2, tk.go hx fun _ z => z, en.imp hx (fun _ z => z) fun _ _ _ z => z⟩
  | false =>
    rw [if_neg Bool.false_ne_true]
    have w3 : Qm (bvl ra false) ρ2 G2 := w2
    rw [bvl_ok R2.val e ek] at w3
    exact en ra ρ2 G2 x H2 hx R2 w3
theorem e_or {es : Es} {rest : List Expr} (ga : PE X e1 (tE c Γ X a)) (gb : PE X (.BoolOp .Or (e2 :: rest) pos) (fun σ H Q => ∃ L Z ρ G Xm Qm, Rep c.ca X.K L Z σ H ρ G ∧ (∀ a, L a → Z a) ∧ wpOr c.P Γ es ρ G Xm Qm ∧ Tk c X L Z H (fp σ ρ G) Xm ∧ EndE c X L Z σ H (fp σ ρ G) Qm Q)) :
    PE X (.BoolOp .Or (e1 :: e2 :: rest) pos) (tE c Γ X (.or_ a es)) := by
  refine PE.imp (pe_orT ga gb) fun σ H Q ⟨L, Z, ρ, G, Xm, Qm, R, hL, w, tk, en⟩ => ?_
  simp only [wpE] at w
  refine ⟨L, Z, ρ, G, Xm, _, R, hL, w, tk, fun ra ρ2 G2 x H2 hx R2 w2 => ?_⟩
  obtain ⟨u, k, e, ek, w2⟩ := tstK_out w2
  refine ⟨k, tru_of (vw_ok R2.rep R2.val e) ek, ?_⟩
  cases k with
  | false =>
    rw [if_neg Bool.false_ne_true]
    exact ⟨L, Z, ρ2, G2, Xm, Qm, R2.rep.less fun a => .inl, hL, w2, tk.go hx fun _ z => z, en.imp hx (fun _ z => z) fun _ _ _ z => z⟩
  | true =>
    rw [if_pos rfl]
    have w3 : Qm (bvl ra true) ρ2 G2 := w2
    rw [bvl_ok R2.val e ek] at w3
    exact en ra ρ2 G2 x H2 hx R2 w3

/-! ### subscripts -/
theorem idx_of {K : U → Prop} {Q : VK} (hv : Vw X.K H ex u x) (hw : Vw X.K H ex w y) (h : idxU u w K) (hex : ∀ p o, H p = some o → (∃ vs, o = .lst vs) → True) (q : ∀ z v, K z → RepU X.K H ex z v → Q v H) : rIxDG x y H Q ∨ rIx X.K x y H Q := by
  have at_ : ∀ {xs : List U} {vs : List V} {i : Int}, RepUs X.K H ex xs vs → atK xs i K → ∃ v, atI vs i = some v ∧ Q v H := fun {xs vs i} r k => by
    obtain ⟨z, e, k⟩ := optK_out k
    obtain ⟨j, e1, e2, e3, e4⟩ := atI_get e
    obtain ⟨v, e5, e6⟩ := r.get e2
    refine ⟨v, ?_, q z v k e6⟩
    unfold atI at e ⊢
    rw [← r.length]
    cases hj : ixN xs.length i with
    | none => rw [hj] at e; cases e
    | some j' =>
      obtain ⟨s1, _⟩ := ixN_seq hj
      rw [e1] at s1
      cases s1
      exact e5
  cases u <;> try exact h.elim
  · cases w <;> try exact h.elim
    simp only [Vw, RepU] at hv hw
    obtain ⟨z, e, k⟩ := optK_out h
    exact .inr (.inr (.inr ⟨_, _, z, hv.1, hw, hv.2.1, e, q (.str [z]) _ k (by
      simp only [RepU]
      refine ⟨trivial, by rw [List.length_singleton, sizeLine_def]; omega, fun c hc => ?_⟩
      obtain ⟨j, _, e2, _⟩ := atI_get e
      rw [List.mem_singleton.mp hc]
      exact hv.2.2 z (List.mem_of_getElem? e2))⟩))
  · cases w <;> try exact h.elim
    simp only [Vw, RepU] at hv hw
    obtain ⟨p, vs, e, t, r⟩ := hv
    obtain ⟨v, e1, e2⟩ := at_ r h
    exact .inr (.inr (.inl ⟨p, vs, _, v, e, hw, sqT_of t, e1, e2⟩))
  · cases w <;> try exact h.elim
    simp only [Vw, RepU] at hw
    obtain ⟨p, vs, e, t, r⟩ := hv
    obtain ⟨v, e1, e2⟩ := at_ r h
    exact .inr (.inl ⟨p, vs, _, v, e, hw, t, e1, e2⟩)
  · obtain ⟨h1, h2⟩ := h
    obtain ⟨z, ez, hk⟩ := optK_out h2
    obtain ⟨a, kvs, k, e, r, e2, q2, e3, e4, g⟩ := vw_dic hv h1 (key_vw h1 hw)
    subst e2 e3
    obtain ⟨v, hv1, hv2⟩ := (lookD_val k kvs q2).1 z ez
    rw [hv1] at g
    exact .inl ⟨a, v, e, g, q z v hk hv2⟩
theorem e_idx (hu : X.A.units + 64 < cLine) (hs : PlainIx e2) (ga : PE X e1 (tE c Γ X a)) (gb : PE X e2 (tE c Γ X b)) : PE X (.Subscript e1 e2 pos) (tE c Γ X (.idx a b)) := by
  refine PE.imp (pe_ix ((ix_dictG hu).or ix_seq) ga gb hs) fun σ H Q ⟨L, Z, ρ, G, Xm, Qm, R, hL, w, tk, en⟩ => ?_
  simp only [wpE] at w
  refine two R hL w tk fun ra rb ρ2 G2 x y H2 Z' hz ha hb hx R2 qa qb w2 => ?_
  obtain ⟨u, eu, w2⟩ := vwK_out w2
  obtain ⟨z, ez, w2⟩ := vwK_out w2
  exact idx_of (vw_ok R2 qa eu) (vw_ok R2 qb ez) w2 (fun _ _ _ _ => trivial) fun z v k r => en.ofU R2 hz hx r k
end
end Mp

/-! Mp8: slices, displays, calls. -/
namespace Mp
open PySem PySem.Spec PyProof.Rows L2

section
variable (c : Cx0) (Γ : Cal) (X : Cx)
def tO : Oe → TO
  | .none => tNoPart
  | .some e => tPart (tE c Γ X e)
end
section
variable {c : Cx0} {Γ : Cal} {X : Cx} {L Z Z' : Addr → Prop} {σ : L2.St} {H H1 H2 : Hp} {ρ ρ1 ρ2 : Rho} {G G1 G2 : Hh} {f ex : Addr → Prop} {x y : V} {u w : U} {Qm : Kc} {Q : VK} {a b d : E} {e1 e2 e3 : Expr} {pos p2 : Pos} {r : R}
theorem part_go {o : Oe} {Xm : Xc} {K : Option Int → Rho → Hh → Prop} {S : Option Int → Hp → Prop} (R : Rep c.ca X.K L Z σ H ρ G) (hL : ∀ a, L a → Z a) (hw : wpO c.P Γ o ρ G Xm fun rl ρ2 G2 => partK rl fun l => K l ρ2 G2) (tk : Tk c X L Z H (fp σ ρ G) Xm)
    (h : ∀ l ρ2 G2 H2, Ext H (fp σ ρ G) H2 (fp σ ρ2 G2) → Rep c.ca X.K L Z σ H2 ρ2 G2 → K l ρ2 G2 → S l H2) : tO c Γ X o σ H S := by
  cases o with
  | none =>
    simp only [wpO] at hw
    exact h none ρ G H (Ext.refl _ _) R hw
  | some e =>
    simp only [wpO] at hw
    refine ⟨L, Z, ρ, G, Xm, _, R, hL, hw, tk, fun r ρ2 G2 v H2 hx R2 w2 => ?_⟩
    cases r <;> try exact w2.elim
    rename_i z
    cases z <;> try exact w2.elim
    rename_i i
    have q := R2.val
    simp only [Val, RepU] at q
    exact ⟨i, q, h (some i) ρ2 G2 H2 hx (R2.rep.less fun a => .inl) w2⟩
theorem RepUs.cut {K : PySem.W.Frag} {us : List U} {vs : List V} (r : RepUs K H ex us vs) (lo hi : Option Int) : RepUs K H ex (Mp.cut us lo hi) (cutV vs lo hi) := by
  unfold Mp.cut cutV
  rw [r.length]
  exact (r.drop _).take _
theorem cut_all {α : Type} (xs : List α) (lo hi : Option Int) (h : HT.sIx xs.length 0 lo = 0 ∧ HT.sIx xs.length xs.length hi = xs.length) : cut xs lo hi = xs := by
  unfold cut
  rw [h.1, h.2]
  simp
def rSlU (K : PySem.W.Frag) : V → Option Int → Option Int → Hp → VK → Prop := fun x lo hi H Q => rSlL K x lo hi H Q ∨ rSlA K x lo hi H Q ∨ rSlS x lo hi H Q
theorem cutS_cut (s : List Nat) (lo hi : Option Int) : cutS ⟨s.toArray⟩ lo hi = ⟨(cut s lo hi).toArray⟩ := by
  unfold cutS cut
  rfl
theorem cut_len {α : Type} (xs : List α) (lo hi : Option Int) : (cut xs lo hi).length ≤ xs.length := by
  unfold cut
  rw [List.length_take, List.length_drop]
  omega
theorem cut_mem {α : Type} {xs : List α} {lo hi : Option Int} {z : α} (h : z ∈ cut xs lo hi) : z ∈ xs := List.mem_of_mem_drop (List.mem_of_mem_take h)
theorem e_slc {lo hi : Oe} {l h : Option Expr} (ga : PE X e1 (tE c Γ X a)) (gl : PO X l (tO c Γ X lo)) (gh : PO X h (tO c Γ X hi)) : PE X (.Subscript e1 (.Slice l h none p2) pos) (tE c Γ X (.slc a lo hi)) := by
  refine PE.imp (pe_slice (r := rSlU X.K) (SlR.or sl_list (SlR.or sl_tupA sl_str)) ga gl gh) fun σ H Q ⟨L, Z, ρ, G, Xm, Qm, R, hL, w, tk, en⟩ => ?_
  simp only [wpE] at w
  refine ⟨L, Z, ρ, G, Xm, _, R, hL, w, tk, fun ra ρ1 G1 x H1 hx R1 w1 => ?_⟩
  refine part_go R1.rep (fun a z => .inl (hL a z)) w1 (tk.go hx fun a => .inl) fun lo ρ2 G2 H2 hx2 R2 w2 => ?_
  refine part_go R2 (fun a z => .inl (hL a z)) w2 (tk.go (hx.trans hx2) fun a => .inl) fun hi ρ3 G3 H3 hx3 R3 w3 => ?_
  have hz : ∀ a, Z a → Or2 Z (Hd ra x) a := fun a => .inl
  have hxx := hx.trans (hx2.trans hx3)
  have q3 : Val X.K H3 (Or2 (fp σ ρ3 G3) (Or2 Z (Hd ra x))) σ ra x := by
    have := R1.val.step (N := fun _ => False) (fun a z => .inr z) (fun a z => (R1.rep.zd a z).1) (hx2.trans hx3) fun p z => z.elim
    rw [or2_false] at this
    exact this
  obtain ⟨u, eu, w3⟩ := vwK_out w3
  have hv := vw_ok R3 q3 eu
  cases u <;> try exact w3.elim
  · rename_i s
    simp only [Vw, RepU] at hv
    refine .inr (.inr ⟨_, hv.1, hv.2.1, ?_⟩)
    rw [cutS_cut]
    refine en.ofU R3 hz hxx (u := .str (cut s lo hi)) ?_ w3
    simp only [RepU]
    exact ⟨trivial, hv.2.subl (cut_len _ _ _) fun z hz => cut_mem hz⟩
  · rename_i xs
    simp only [Vw, RepU] at hv
    obtain ⟨p, vs, e, t, q⟩ := hv
    refine .inr (.inl ⟨p, vs, e, sqT_of t, fun z => ?_, fun z p3 h3 => ?_⟩)
    · refine en.ofU R3 hz hxx (u := .tup (cut xs lo hi)) ?_ w3
      simp only [RepU]
      refine ⟨p, vs, rfl, t, ?_⟩
      rw [cut_all xs lo hi (by rw [q.length]; exact z)]
      exact q
    · have hk : ∀ a o, H3 a = some o → upd H3 p3 (.tup (cutV vs lo hi)) a = some o := fun a o e => by
        rw [upd_ne (ne_of_none e h3)]; exact e
      have np : ¬ Or2 (fp σ ρ3 G3) (Or2 Z (Hd ra x)) p3 := fun z => by
        rcases z with z | z
        · obtain ⟨o, e, _⟩ := R3.mut z
          rw [h3] at e; cases e
        · obtain ⟨_, o, e⟩ := R3.zd _ z
          rw [h3] at e; cases e
      refine en.ofU (R3.heapExt hk) hz (fun a o e n => ⟨hk a o (hxx a o e n).1, (hxx a o e n).2⟩) (u := .tup (cut xs lo hi)) ?_ w3
      simp only [RepU]
      exact ⟨p3, _, rfl, .inl ⟨.inl upd_same, np⟩, RepUs.ext (fun a o e n => ⟨hk a o e, n⟩) _ (q.cut lo hi)⟩
  · rename_i xs
    obtain ⟨p, vs, e, t, q⟩ := hv
    refine .inl ⟨p, vs, e, t, fun p3 h3 => ?_⟩
    exact en.new R3 hz hxx h3 (u := .lst (cut xs lo hi)) ⟨_, rfl, q.cut lo hi⟩ w3
theorem pe_neg1 {j : Nat} {p1 p2 : Pos} : PE X (.UnaryOp .USub (.Constant (.int 1) j p1) p2) (tC (.int (-1))) := PE.imp (pe_un un_neg pe_int) fun σ H Q h => ⟨1, rfl, h⟩
/-- xs[::-1] -/
theorem pe_sliceRev {e : Expr} {te : TE} {j1 : Nat} {p3 p4 : Pos} (he : PE X e te) : PE X (.Subscript e (.Slice none none (some (.UnaryOp .USub (.Constant (.int 1) j1 p3) p4)) p2) pos) (fun σ H Q => te σ H fun x H1 => ∃ a xs, x = .ref a ∧ SqL X.K H1 a xs ∧ ∀ p, H1 p = none → Q (.ref p) (upd H1 p (.lst xs.reverse))) := by
  refine ⟨fun pins s σ H Q I h => ?_⟩
  refine Subscript_ (thn (he.run pins s σ H _ I h) fun v s1 ⟨x, H1, I1, r1, a, xs, ex, hx, q1⟩ => ?_)
  subst ex
  cases r1
  refine wpAny_Slice (thn (po_none.run pins s1 σ H1 (fun l H2 => l = none ∧ H2 = H1) I1 ⟨rfl, rfl⟩) fun vl s2 ⟨l, H2, I2, pl, e1, e2⟩ => thn (po_none.run pins s2 σ H2 (fun l H3 => l = none ∧ H3 = H1) I2 ⟨rfl, e2⟩) fun vu s3 ⟨u, H3, I3, pu, e3, e4⟩ => ?_)
  subst e1 e2 e3 e4
  refine thn ((po_some pe_neg1).run pins s3 σ H3 (fun l H4 => l = some (-1) ∧ H4 = H3) I3 ?_) fun vk s4 ⟨k, H4, I4, pk, e5, e6⟩ => ?_
  · exact ⟨-1, rfl, rfl, rfl⟩
  subst e5 e6
  have I5 : Inv X pins σ H4 { s4 with heap := s4.heap.push { cls := .type "slice", data := .fields #[vl, vu, vk] } } := I4.kept (t' := s4.toks) fun b ob q => Heap.get?_push_of_some _ q
  obtain ⟨its, r, ht, hz⟩ := I5.list hx
  show wpAny (model X.prog X.w) X.A (subscriptTail e (.Slice none none (some (.UnaryOp .USub (.Constant (.int 1) j1 p3) p4)) p2) (.ref a) (.ref s4.heap.objs.size)) (EP X pins σ Q) X.xe { s4 with heap := s4.heap.push { cls := .type "slice", data := .fields #[vl, vu, vk] } }
  refine tail_any (ops := [.ref a, .ref s4.heap.objs.size]) (T := "list") ht.isList.typeIs slot_list_getitem.lookup ?_ (by with_unfolding_all rfl)
  refine wpAny_getItem_list_slice ht.isList (Heap.IsSliceOf.new ..) pl pu pk (by simp) ?_ (by rw [List.size_toArray, ← r.length] <;> omega)
  rw [PySem.W.krv_pick]
  refine ⟨.ref (s4.heap.push { cls := .type "slice", data := .fields #[vl, vu, vk] }).objs.size, _, I5.laid (t' := s4.toks) (o := .lst xs.reverse) (fun b ob q => Heap.get?_push_of_some _ q) (Nat.le_refl _) ?_, rfl, q1 _ (I5.hok.fresh (Nat.le_refl _))⟩
  exact ⟨by rw [List.length_reverse]; exact hz, _, 0, r.reverse, Heap.get?_push_size _ rfl⟩
theorem e_rev {j1 : Nat} {p3 p4 : Pos} (ga : PE X e1 (tE c Γ X a)) : PE X (.Subscript e1 (.Slice none none (some (.UnaryOp .USub (.Constant (.int 1) j1 p3) p4)) p2) pos) (tE c Γ X (.bcall .rev (.cons a .nil))) := by
  refine PE.imp (pe_sliceRev ga) fun σ H Q ⟨L, Z, ρ, G, Xm, Qm, R, hL, w, tk, en⟩ => ?_
  simp only [wpE, wpEs] at w
  refine ⟨L, Z, ρ, G, Xm, _, R, hL, w, tk, fun ra ρ1 G1 x H1 hx R1 w1 => ?_⟩
  obtain ⟨u, eu, w3⟩ := vwK_out w1
  have hv := vw_ok R1.rep R1.val eu
  cases u <;> try exact w3.elim
  rename_i xs
  obtain ⟨p, vs, e, t, q⟩ := hv
  refine ⟨p, vs, e, t, fun p3 h3 => ?_⟩
  exact en.new R1.rep (fun a z => .inl z) hx h3 (u := .lst xs.reverse) ⟨_, rfl, q.reverse⟩ w3

/-! ### lists of answers -/
def Hds : List R → List V → Addr → Prop
  | r :: rs, v :: vs => Or2 (Hd r v) (Hds rs vs)
  | _, _ => fun _ => False
def ValL (K : PySem.W.Frag) (H : Hp) (ex : Addr → Prop) (σ : L2.St) : List R → List V → Prop
  | [], vs => vs = []
  | r :: rs, vs => ∃ v t, vs = v :: t ∧ Val K H ex σ r v ∧ ValL K H ex σ rs t
/-- no two of the answers are one new object -/
def Apart : List R → List V → Prop
  | r :: rs, v :: vs => (∀ a, Hd r v a → ¬ Hds rs vs a) ∧ Apart rs vs
  | _, _ => True
def tA (c : Cx0) (Γ : Cal) (X : Cx) (es : Es) : TA := fun σ H Q => ∃ L Z ρ G Xm Qm, Rep c.ca X.K L Z σ H ρ G ∧ (∀ a, L a → Z a) ∧ wpEs c.P Γ es ρ G Xm Qm ∧ Tk c X L Z H (fp σ ρ G) Xm ∧
  ∀ rs ρ' G' vs H', Ext H (fp σ ρ G) H' (fp σ ρ' G') → Rep c.ca X.K L (Or2 Z (Hds rs vs)) σ H' ρ' G' → ValL X.K H' (Or2 (fp σ ρ' G') (Or2 Z (Hds rs vs))) σ rs vs → Apart rs vs → (∀ p, Hds rs vs p → (H p = none ∨ fp σ ρ G p) ∧ ¬ Z p) → Qm rs ρ' G' → Q vs H'
theorem PA.imp {es : List Expr} {t t' : TA} (h : PA X es t) (i : ∀ σ H Q, t' σ H Q → t σ H Q) : PA X es t' := ⟨fun pos pins s σ H Q I q => h.run pos pins s σ H Q I (i σ H Q q)⟩
theorem ValL.step {f f' N : Addr → Prop} : ∀ {rs : List R} {vs : List V}, ValL X.K H (Or2 f Z) σ rs vs → (∀ a, Hds rs vs a → Z a) → (∀ a, Z a → ¬ f a) → Ext H f H1 f' → (∀ p, N p → (H p = none ∨ f p)) → ValL X.K H1 (Or2 f' (Or2 Z N)) σ rs vs
  | [], vs, q, _, _, _, _ => q
  | r :: rs, vs, q, hz, hd, h, hn => by
    obtain ⟨v, t, e, q1, q2⟩ := q
    subst e
    exact ⟨v, t, rfl, q1.step (fun a z => hz a (.inl z)) hd h hn, ValL.step q2 (fun a z => hz a (.inr z)) hd h hn⟩
theorem a_nil : PA X [] (tA c Γ X .nil) := PA.imp pa_nil fun σ H Q ⟨L, Z, ρ, G, Xm, Qm, R, hL, w, tk, en⟩ => by
  simp only [wpEs] at w
  have e : Hds [] ([] : List V) = fun _ => False := rfl
  refine en [] ρ G [] H (Ext.refl _ _) ?_ rfl trivial (fun p z => z.elim) w
  rw [e, or2_false]; exact R
theorem a_cons {es : Es} {el : List Expr} (ga : PE X e1 (tE c Γ X a)) (gs : PA X el (tA c Γ X es)) (hs : starEach (e1 :: el) X.env = (false, eval e1 X.env) :: starEach el X.env) : PA X (e1 :: el) (tA c Γ X (.cons a es)) := by
  refine PA.imp (pa_cons ga gs hs) fun σ H Q ⟨L, Z, ρ, G, Xm, Qm, R, hL, w, tk, en⟩ => ?_
  simp only [wpEs] at w
  refine ⟨L, Z, ρ, G, Xm, _, R, hL, w, tk, fun ra ρ1 G1 x H1 hx R1 w1 => ?_⟩
  refine ⟨L, Or2 Z (Hd ra x), ρ1, G1, Xm, _, R1.rep, fun a z => .inl (hL a z), w1, tk.go hx fun a => .inl, fun rs ρ2 G2 vs H2 hx2 R2 q2 ap nw w2 => ?_⟩
  have e : Or2 (Or2 Z (Hd ra x)) (Hds rs vs) = Or2 Z (Hds (ra :: rs) (x :: vs)) := or2_assoc
  refine en (ra :: rs) ρ2 G2 (x :: vs) H2 (hx.trans hx2) (e ▸ R2) ⟨x, vs, rfl, ?_, e ▸ q2⟩ ⟨fun a h1 h2 => (nw a h2).2 (.inr h1), ap⟩ (fun p z => ?_) w2
  · rw [← e]
    exact R1.val.step (fun a z => .inr z) (fun a z => (R1.rep.zd a z).1) hx2 fun p z => (nw p z).1
  · rcases z with z | z
    · exact R1.new p z
    · obtain ⟨n1, n2⟩ := nw p z
      refine ⟨?_, fun k => n2 (.inl k)⟩
      cases e1 : H p with
      | none => exact .inl rfl
      | some o =>
        by_cases ff : fp σ ρ G p
        · exact .inr ff
        · have h2 := hx p o e1 ff
          rcases n1 with k | k
          · rw [h2.1] at k; cases k
          · exact absurd k h2.2
end
end Mp

/-! Mp9: displays; calls of own defs. -/
namespace Mp
open PySem PySem.Spec PyProof.Rows L2

section
variable {c : Cx0} {Γ : Cal} {X : Cx} {L Z Z' : Addr → Prop} {σ : L2.St} {H H1 H2 : Hp} {ρ ρ1 ρ2 : Rho} {G G1 G2 : Hh} {f ex : Addr → Prop} {x y v : V} {u w : U} {Qm : Kc} {Q : VK} {a b d : E} {e1 e2 e3 : Expr} {pos p2 : Pos} {r : R} {K : PySem.W.Frag} {ca : Cs}
theorem set_at {ρ : Rho} {i j : Nat} {o : Option SV} {s : SV} (h : (ρ.set i o)[j]? = some (some s)) : (j = i ∧ o = some s) ∨ (j ≠ i ∧ ρ[j]? = some (some s)) := by
  by_cases e : j = i
  · subst e
    have hl : j < ρ.length := by
      obtain ⟨h1, _⟩ := List.getElem?_eq_some_iff.mp h
      simpa using h1
    rw [List.getElem?_set_self hl] at h
    exact .inl ⟨rfl, Option.some.inj h⟩
  · rw [List.getElem?_set_ne (Ne.symm e)] at h
    exact .inr ⟨e, h⟩
theorem repU_ofC {p : Addr} {o : HO} (h : H p = some o) (n : ¬ ex p) (q : RepC K H ex u o) : RepU K H ex u (.ref p) := by
  cases u <;> simp only [RepC] at q <;> simp only [RepU]
  · obtain ⟨vs, e, q⟩ := q
    subst e
    exact ⟨p, vs, rfl, .inl ⟨.inl h, n⟩, q⟩
  · obtain ⟨kvs, e, e2, q⟩ := q
    subst e
    exact ⟨p, kvs, rfl, n, .inl h, e2, q⟩
/-- a slot's list is frozen -/
theorem Rep.freeze {i : Nat} (R : Rep ca K L Z σ H ρ G) (hs : ρ[i]? = some (some (.own u))) (hv : σ[i]? = some (some v)) :
    Rep ca K L Z σ H (ρ.set i (some (.u u))) G ∧ RepU K H (Or2 (fp σ (ρ.set i (some (.u u))) G) Z) u v ∧ ∀ a, fp σ (ρ.set i (some (.u u))) G a → fp σ ρ G a := by
  obtain ⟨w, e1, p, o, e2, e3, q⟩ := R.slot i _ hs
  rw [hv] at e1
  cases e1
  subst e2
  have sub : ∀ a, fp σ (ρ.set i (some (.u u))) G a → fp σ ρ G a := fun a h => by
    rcases h with h | ⟨j, x, h1, h2⟩
    · exact .inl h
    · rcases set_at h1 with ⟨_, h⟩ | ⟨_, h⟩
      · cases h
      · exact .inr ⟨j, x, h, h2⟩
  have np : ¬ Or2 (fp σ (ρ.set i (some (.u u))) G) Z p := fun h => by
    rcases h with h | h
    · rcases h with ⟨o, h⟩ | ⟨j, x, h1, h2⟩
      · rw [R.ownG i u p hs hv] at h; cases h
      · rcases set_at h1 with ⟨_, h⟩ | ⟨ne, h⟩
        · cases h
        · exact ne (R.own j i x u p h hs h2 hv)
    · exact (R.zd p h).1 (.inr ⟨i, u, hs, hv⟩)
  have hx : Ext H (Or2 (fp σ ρ G) Z) H (Or2 (fp σ (ρ.set i (some (.u u))) G) Z) := Ext.sub fun a q => q.elim (fun q => .inl (sub a q)) .inr
  have ru : RepU K H (Or2 (fp σ (ρ.set i (some (.u u))) G) Z) u (.ref p) := repU_ofC e3 np (q.ext hx)
  refine ⟨⟨by rw [List.length_set]; exact R.len, fun j sv e => ?_, fun j k x y a h1 h2 h3 h4 => ?_, fun j x a h1 h2 => ?_, fun a o e => ?_, fun a z => ?_⟩, ru, sub⟩
  · rcases set_at e with ⟨e4, e5⟩ | ⟨_, e⟩
    · cases e5
      subst e4
      exact ⟨.ref p, hv, ru⟩
    · obtain ⟨w, e4, q4⟩ := R.slot j sv e
      exact ⟨w, e4, q4.ext hx (fun a o h n => ⟨h, fun q => n (sub a q)⟩) fun _ _ _ _ _ e => e⟩
  · rcases set_at h1 with ⟨_, h⟩ | ⟨_, h1⟩
    · cases h
    · rcases set_at h2 with ⟨_, h⟩ | ⟨_, h2⟩
      · cases h
      · exact R.own j k x y a h1 h2 h3 h4
  · rcases set_at h1 with ⟨_, h⟩ | ⟨_, h1⟩
    · cases h
    · exact R.ownG j x a h1 h2
  · obtain ⟨ho, e4, q4⟩ := R.heap a o e
    exact ⟨ho, e4, q4.ext hx⟩
  · exact ⟨fun q => (R.zd a z).1 (sub a q), (R.zd a z).2⟩
theorem Val.ext {ex ex' : Addr → Prop} {r : Mp.R} {v : V} (h : Ext H ex H ex') (q : Val K H ex σ r v) : Val K H ex' σ r v := by
  cases r with
  | u x => exact RepU.ext h x q
  | tmp x =>
    obtain ⟨p, o, e, e2, q⟩ := q
    exact ⟨p, o, e, e2, q.ext h⟩
  | lv i => exact q
  | exc k => exact q
theorem ValL.ext {ex ex' : Addr → Prop} (h : Ext H ex H ex') : ∀ {rs : List Mp.R} {vs : List V}, ValL K H ex σ rs vs → ValL K H ex' σ rs vs
  | [], _, q => q
  | r :: rs, _, ⟨v, t, e, q1, q2⟩ => ⟨v, t, e, q1.ext h, ValL.ext h q2⟩
/-- answers to be kept in a container -/
theorem toUs_ok : ∀ {rs : List R} {vs : List V} {ρ : Rho}, Rep ca K L (Or2 Z (Hds rs vs)) σ H ρ G → ValL K H (Or2 (fp σ ρ G) (Or2 Z (Hds rs vs))) σ rs vs → Apart rs vs → (∀ p, Hds rs vs p → ¬ Z p) →
    ∀ {K0 : List U → Rho → Prop}, toUs rs ρ K0 → ∃ us ρ', K0 us ρ' ∧ Rep ca K L Z σ H ρ' G ∧ RepUs K H (Or2 (fp σ ρ' G) Z) us vs ∧ ∀ a, fp σ ρ' G a → fp σ ρ G a
  | [], vs, ρ, R, q, _, _, K0, h => by
    have q' : vs = [] := q
    subst q'
    exact ⟨[], ρ, h, R.less fun a => .inl, by simp [RepUs], fun _ z => z⟩
  | r :: rs, vs, ρ, R, q, ap, nz, K0, h => by
    obtain ⟨v, t, e, q1, q2⟩ := q
    subst e
    have step : ∀ (x : U) (ρ1 : Rho), toUs rs ρ1 (fun vs ρ2 => K0 (x :: vs) ρ2) → Rep ca K L (Or2 Z (Hds rs t)) σ H ρ1 G → RepU K H (Or2 (fp σ ρ1 G) (Or2 Z (Hds rs t))) x v → (∀ a, fp σ ρ1 G a → fp σ ρ G a) →
        ∃ us ρ', K0 us ρ' ∧ Rep ca K L Z σ H ρ' G ∧ RepUs K H (Or2 (fp σ ρ' G) Z) us (v :: t) ∧ ∀ a, fp σ ρ' G a → fp σ ρ G a := fun x ρ1 hk R1 qx sub => by
      have q2' : ValL K H (Or2 (fp σ ρ1 G) (Or2 Z (Hds rs t))) σ rs t := by
        have hx : Ext H (Or2 (fp σ ρ G) (Or2 Z (Or2 (Hd r v) (Hds rs t)))) H (Or2 (fp σ ρ1 G) (Or2 Z (Hds rs t))) := Ext.sub fun a z => z.elim (fun z => .inl (sub a z)) fun z => .inr (z.elim .inl fun z => .inr (.inr z))
        exact q2.ext hx
      obtain ⟨us, ρ', k, R', q', sub'⟩ := toUs_ok (K0 := fun vs ρ2 => K0 (x :: vs) ρ2) R1 q2' ap.2 (fun p z => nz p (.inr z)) hk
      refine ⟨x :: us, ρ', k, R', ?_, fun a z => sub a (sub' a z)⟩
      simp only [RepUs]
      exact ⟨v, t, rfl, RepU.ext (Ext.sub fun a z => z.elim (fun z => .inl (sub' a z)) fun z => .inr (.inl z)) x qx, q'⟩
    have less : ∀ a, Or2 Z (Hds rs t) a → Or2 Z (Hds (r :: rs) (v :: t)) a := fun a z => z.elim .inl fun z => .inr (.inr z)
    cases r with
    | u x => exact step x ρ h (R.less less) (RepU.ext (Ext.sub fun a z => z.elim .inl fun z => .inr (less a z)) x q1) fun _ z => z
    | tmp x =>
      obtain ⟨p, o, e, e2, q⟩ := q1
      subst e
      refine step x ρ h (R.less less) (repU_ofC e2 (fun z => ?_) (q.ext (Ext.sub fun a z => z.elim .inl fun z => .inr (less a z)))) fun _ z => z
      rcases z with z | z
      · exact (R.zd p (.inr (.inl rfl))).1 z
      · rcases z with z | z
        · exact nz p (.inl rfl) z
        · exact ap.1 p rfl z
    | lv i =>
      have h' : toU (.lv i) ρ fun v ρ1 => toUs rs ρ1 fun vs ρ2 => K0 (v :: vs) ρ2 := h
      unfold toU at h'
      simp only at h'
      cases hs : ρ[i]? with
      | none => rw [hs] at h'; exact h'.elim
      | some os =>
        rw [hs] at h'
        cases os with
        | none => exact h'.elim
        | some sv =>
          cases sv with
          | own x =>
            have h2 := (setK_iff.mp h').2
            obtain ⟨R1, q3, sub⟩ := (R.less less).freeze hs q1
            exact step x _ h2 R1 q3 sub
          | u x => exact h'.elim
          | fz t x => exact h'.elim
          | exc k => exact h'.elim
    | exc k => exact h.elim
theorem e_tup {es : Es} {el : List Expr} {k : Nat} (ga : PA X el (tA c Γ X es)) : PE X (.Tuple el k pos) (tE c Γ X (.tup es)) := by
  refine PE.imp (pe_tup ga) fun σ H Q ⟨L, Z, ρ, G, Xm, Qm, R, hL, w, tk, en⟩ => ?_
  simp only [wpE] at w
  refine ⟨L, Z, ρ, G, Xm, _, R, hL, w, tk, fun rs ρ1 G1 vs H1 hx R1 q1 ap nw w1 => ?_⟩
  obtain ⟨us, ρ2, ⟨hl, k2⟩, R2, q2, sub⟩ := toUs_ok (K0 := fun vs ρ2 => vs.length ≤ sizeLine ∧ Qm (.u (.tup vs)) ρ2 G1) R1 q1 ap (fun p z => (nw p z).2) w1
  have e := q2.length
  refine ⟨by omega, fun p hp => ?_⟩
  have hk : ∀ a o, H1 a = some o → upd H1 p (.tup vs) a = some o := fun a o e => by
    rw [upd_ne (ne_of_none e hp)]; exact e
  have np : ¬ Or2 (fp σ ρ2 G1) Z p := fun z => by
    rcases z with z | z
    · obtain ⟨o, e, _⟩ := R2.mut z
      rw [hp] at e; cases e
    · obtain ⟨_, o, e⟩ := R2.zd _ z
      rw [hp] at e; cases e
  refine en.ofU (R2.heapExt hk) (fun _ z => z) (fun a o e n => ⟨hk a o (hx a o e n).1, fun z => (hx a o e n).2 (sub a z)⟩) (u := .tup us) ?_ k2
  simp only [RepU]
  exact ⟨p, vs, rfl, .inl ⟨.inl upd_same, np⟩, RepUs.ext (fun a o e n => ⟨hk a o e, n⟩) _ q2⟩
theorem e_lst {es : Es} {el : List Expr} (ga : PA X el (tA c Γ X es)) : PE X (.List el pos) (tE c Γ X (.lst es)) := by
  refine PE.imp (pe_lst ga) fun σ H Q ⟨L, Z, ρ, G, Xm, Qm, R, hL, w, tk, en⟩ => ?_
  simp only [wpE] at w
  refine ⟨L, Z, ρ, G, Xm, _, R, hL, w, tk, fun rs ρ1 G1 vs H1 hx R1 q1 ap nw w1 => ?_⟩
  obtain ⟨us, ρ2, ⟨hl, k2⟩, R2, q2, sub⟩ := toUs_ok (K0 := fun vs ρ2 => vs.length ≤ sizeLine ∧ Qm (.tmp (.lst vs)) ρ2 G1) R1 q1 ap (fun p z => (nw p z).2) w1
  have e := q2.length
  refine ⟨by omega, fun p hp => ?_⟩
  exact en.new R2 (fun _ z => z) (fun a o e n => ⟨(hx a o e n).1, fun z => (hx a o e n).2 (sub a z)⟩) hp (u := .lst us) ⟨vs, rfl, q2⟩ k2

/-! ### calls of own defs -/
/-- a call's promise: any small call that the small program lets by -/
def spN (c : Cx0) (Γ : CalF) (X0 : PySem.W.Frag) (i : Nat) : Sp := fun vs H Q E => ∃ L Z svs G Xm Qm, Rep c.ca X0 L Z (vs.map some) H (svs.map some) G ∧ (∀ a, L a → Z a) ∧ Γ i svs G Xm Qm ∧
  (∀ r G' v H', Ext H (fp (vs.map some) (svs.map some) G) H' (fp [] [] G') → RepR c.ca X0 L Z [] H (fp (vs.map some) (svs.map some) G) H' [] G' r v → Qm r G' → Q v H') ∧
  (∀ k as G' cls d H', Ext H (fp (vs.map some) (svs.map some) G) H' (fp [] [] G') → RepX c X0 H' (Or2 (fp [] [] G') Z) k as cls d → Rep c.ca X0 L Z [] H' [] G' → Xm k as G' → E cls d H')
/-- the addresses that the slots alone have -/
def OW (σ : L2.St) (ρ : Rho) : Addr → Prop := fun a => ∃ (i : Nat) (u : U), ρ[i]? = some (some (.own u)) ∧ σ[i]? = some (some (.ref a))
theorem newback {H0 H : Hp} {f0 f : Addr → Prop} {p : Addr} (h : Ext H0 f0 H f) (n : H p = none ∨ f p) : H0 p = none ∨ f0 p := by
  cases e : H0 p with
  | none => exact .inl rfl
  | some o =>
    by_cases ff : f0 p
    · exact .inr ff
    · obtain ⟨h1, h2⟩ := h p o e ff
      rcases n with k | k
      · rw [h1] at k; cases k
      · exact absurd k h2
/-- how an answer is handed on -/
def SvR (ρ : Rho) (r : Mp.R) (v : V) (sv : SV) : Prop := match r with
  | .u x => sv = .u x
  | .tmp x => sv = .own x
  | .lv i => ∃ t c, v = .ref t ∧ sv = .fz t c ∧ (ρ[i]? = some (some (.own c)) ∨ ρ[i]? = some (some (.fz t c)))
  | .exc _ => False
theorem toSs_out (R : Rep ca K L Z σ H ρ G) : ∀ {rs : List Mp.R} {vs : List V}, ValL K H ex σ rs vs → ∀ {K0 : List SV → Prop}, toSs rs ρ K0 → ∃ svs, K0 svs ∧ svs.length = rs.length ∧ vs.length = rs.length ∧ ∀ (j : Nat) (r : Mp.R), rs[j]? = some r → ∃ v sv, vs[j]? = some v ∧ svs[j]? = some sv ∧ Val K H ex σ r v ∧ SvR ρ r v sv
  | [], vs, q, K0, h => by
    have q' : vs = [] := q
    subst q'
    exact ⟨[], h, rfl, rfl, fun j r e => by simp at e⟩
  | r :: rs, vs, q, K0, h => by
    obtain ⟨v, t, e, q1, q2⟩ := q
    subst e
    have step : ∀ sv, toSs rs ρ (fun vs => K0 (sv :: vs)) → SvR ρ r v sv → ∃ svs, K0 svs ∧ svs.length = (r :: rs).length ∧ (v :: t).length = (r :: rs).length ∧ ∀ (j : Nat) (r' : Mp.R), (r :: rs)[j]? = some r' → ∃ v' sv, (v :: t)[j]? = some v' ∧ svs[j]? = some sv ∧ Val K H ex σ r' v' ∧ SvR ρ r' v' sv := fun sv hk hr => by
      obtain ⟨svs, k, l1, l2, hj⟩ := toSs_out R q2 (K0 := fun vs => K0 (sv :: vs)) hk
      refine ⟨sv :: svs, k, by simp [l1], by simp [l2], fun j r' e => ?_⟩
      cases j with
      | zero =>
        simp at e
        subst e
        exact ⟨v, sv, by simp, by simp, q1, hr⟩
      | succ j =>
        obtain ⟨v', sv', e1, e2, e3, e4⟩ := hj j r' (by simpa using e)
        exact ⟨v', sv', by simpa using e1, by simpa using e2, e3, e4⟩
    cases r with
    | u x => exact step (.u x) h rfl
    | tmp x => exact step (.own x) h rfl
    | exc k => exact h.elim
    | lv i =>
      have h' : toS (.lv i) ρ fun v => toSs rs ρ fun vs => K0 (v :: vs) := h
      unfold toS at h'
      simp only at h'
      have q1' : σ[i]? = some (some v) := q1
      cases hs : ρ[i]? with
      | none => rw [hs] at h'; exact h'.elim
      | some os =>
        rw [hs] at h'
        cases os with
        | none => exact h'.elim
        | some sv =>
          obtain ⟨w, e1, q3⟩ := R.slot i sv hs
          rw [q1'] at e1
          cases e1
          cases sv with
          | own x =>
            obtain ⟨p, o, e2, _⟩ := q3
            exact step (.fz p x) (h' p) ⟨p, x, e2, rfl, .inl hs⟩
          | fz t' x => exact step (.fz t' x) h' ⟨t', x, q3.1, rfl, .inr hs⟩
          | u x => exact h'.elim
          | exc k => exact h'.elim
theorem hds_ix : ∀ {rs : List Mp.R} {vs : List V} {a : Addr}, Hds rs vs a → ∃ (j : Nat) (u : U), rs[j]? = some (.tmp u) ∧ vs[j]? = some (.ref a)
  | [], _, _, h => h.elim
  | _ :: _, [], _, h => h.elim
  | r :: rs, v :: vs, a, h => by
    rcases h with h | h
    · obtain ⟨u, e1, e2⟩ := nHd r v a h
      exact ⟨0, u, by simp [e1], by simp [e2]⟩
    · obtain ⟨j, u, e1, e2⟩ := hds_ix h
      exact ⟨j + 1, u, by simpa using e1, by simpa using e2⟩
theorem ix_hds : ∀ {rs : List Mp.R} {vs : List V} {a : Addr} {j : Nat} {u : U}, rs[j]? = some (.tmp u) → vs[j]? = some (.ref a) → Hds rs vs a
  | [], _, _, _, _, h, _ => by simp at h
  | _ :: _, [], _, _, _, _, h => by simp at h
  | r :: rs, v :: vs, a, 0, u, h1, h2 => by
    simp at h1 h2
    subst h1 h2
    exact .inl rfl
  | r :: rs, v :: vs, a, j + 1, u, h1, h2 => .inr (ix_hds (j := j) (u := u) (by simpa using h1) (by simpa using h2))
theorem apart_ix : ∀ {rs : List Mp.R} {vs : List V} {a : Addr} {i j : Nat} {u w : U}, Apart rs vs → rs[i]? = some (.tmp u) → rs[j]? = some (.tmp w) → vs[i]? = some (.ref a) → vs[j]? = some (.ref a) → i = j
  | [], _, _, _, _, _, _, _, h, _, _, _ => by simp at h
  | _ :: _, [], _, _, _, _, _, _, _, _, h, _ => by simp at h
  | r :: rs, v :: vs, a, 0, 0, u, w, _, _, _, _, _ => rfl
  | r :: rs, v :: vs, a, 0, j + 1, u, w, ap, h1, h2, h3, h4 => by
    simp at h1 h3
    subst h1 h3
    exact absurd (ix_hds (j := j) (by simpa using h2) (by simpa using h4)) (ap.1 a rfl)
  | r :: rs, v :: vs, a, i + 1, 0, u, w, ap, h1, h2, h3, h4 => by
    simp at h2 h4
    subst h2 h4
    exact absurd (ix_hds (j := i) (by simpa using h1) (by simpa using h3)) (ap.1 a rfl)
  | r :: rs, v :: vs, a, i + 1, j + 1, u, w, ap, h1, h2, h3, h4 => by
    rw [apart_ix (i := i) (j := j) ap.2 (by simpa using h1) (by simpa using h2) (by simpa using h3) (by simpa using h4)]
theorem mapSome {α : Type} {l : List α} {i : Nat} {x : α} (h : (l.map some)[i]? = some (some x)) : l[i]? = some x := by
  rw [List.getElem?_map] at h
  cases e : l[i]? with
  | none => rw [e] at h; simp at h
  | some y => rw [e] at h; simp at h; rw [h]
/-- the callee's state at a call -/
theorem callee {rs : List Mp.R} {vs : List V} {K0 : List SV → Prop} (R : Rep ca K L (Or2 Z (Hds rs vs)) σ H ρ G) (hL : ∀ a, L a → Z a) (q : ValL K H (Or2 (fp σ ρ G) (Or2 Z (Hds rs vs))) σ rs vs) (ap : Apart rs vs) (nz : ∀ p, Hds rs vs p → ¬ Z p)
    (h : toSs rs ρ K0) : ∃ svs, K0 svs ∧ Rep ca K (Or2 L (OW σ ρ)) (Or2 Z (OW σ ρ)) (vs.map some) H (svs.map some) G ∧ ∀ a, fp (vs.map some) (svs.map some) G a ↔ ((∃ o, G a = some o) ∨ Hds rs vs a) := by
  obtain ⟨svs, k, l1, l2, hj⟩ := toSs_out R q h
  have at_ : ∀ {j : Nat} {sv : SV}, svs[j]? = some sv → ∃ r v, rs[j]? = some r ∧ vs[j]? = some v ∧ Val K H (Or2 (fp σ ρ G) (Or2 Z (Hds rs vs))) σ r v ∧ SvR ρ r v sv := fun {j sv} e => by
    have hl : j < rs.length := by
      obtain ⟨h1, _⟩ := List.getElem?_eq_some_iff.mp e
      omega
    obtain ⟨v, sv', e1, e2, e3, e4⟩ := hj j _ (List.getElem?_eq_getElem hl)
    rw [e] at e2
    cases e2
    exact ⟨_, v, List.getElem?_eq_getElem hl, e1, e3, e4⟩
  have own_ix : ∀ {j : Nat} {u : U}, svs[j]? = some (.own u) → rs[j]? = some (.tmp u) := fun {j u} e => by
    obtain ⟨r, v, e1, e2, e3, e4⟩ := at_ e
    cases r with
    | u x => cases e4
    | tmp x => cases e4; exact e1
    | lv i =>
      obtain ⟨t, c, _, e5, _⟩ := e4
      cases e5
    | exc k => exact e4.elim
  have hfp : ∀ a, fp (vs.map some) (svs.map some) G a ↔ ((∃ o, G a = some o) ∨ Hds rs vs a) := fun a => by
    refine ⟨fun q => q.elim .inl fun ⟨i, u, e1, e2⟩ => .inr (ix_hds (own_ix (mapSome e1)) (mapSome e2)), fun q => q.elim .inl fun q => ?_⟩
    obtain ⟨j, u, e1, e2⟩ := hds_ix q
    obtain ⟨v, sv, e3, e4, _, e5⟩ := hj j _ e1
    rw [e2] at e3
    cases e3
    cases e5
    exact .inr ⟨j, u, by rw [List.getElem?_map, e4]; rfl, by rw [List.getElem?_map, e2]; rfl⟩
  have hG : ∀ a, (∃ o, G a = some o) → fp σ ρ G a := fun a => .inl
  have hO : ∀ a, OW σ ρ a → fp σ ρ G a := fun a => .inr
  have hH : ∀ a, Hds rs vs a → ¬ fp σ ρ G a := fun a z => (R.zd a (.inr z)).1
  have hx : Ext H (Or2 (fp σ ρ G) (Or2 Z (Hds rs vs))) H (Or2 (fp (vs.map some) (svs.map some) G) (Or2 Z (OW σ ρ))) := Ext.sub fun a z => by
    rcases z with z | z
    · rcases (hfp a).mp z with z | z
      · exact .inl (hG a z)
      · exact .inr (.inr z)
    · rcases z with z | z
      · exact .inr (.inl z)
      · exact .inl (hO a z)
  have owG : ∀ a, OW σ ρ a → G a = none := fun a ⟨i, u, e1, e2⟩ => R.ownG i u a e1 e2
  have no0 : ∀ a, OW σ ρ a → ¬ fp (vs.map some) (svs.map some) G a := fun a z q => by
    rcases (hfp a).mp q with ⟨o, e⟩ | q
    · rw [owG a z] at e; cases e
    · exact hH a q (hO a z)
  refine ⟨svs, k, ⟨by rw [List.length_map, List.length_map, l1, l2], fun j sv e => ?_, fun i j u w a h1 h2 h3 h4 => ?_, fun j u a h1 h2 => ?_, fun a o e => ?_, fun a z => ?_⟩, hfp⟩
  · obtain ⟨r, v, e1, e2, e3, e4⟩ := at_ (mapSome e)
    refine ⟨v, by rw [List.getElem?_map, e2]; rfl, ?_⟩
    cases r with
    | u x => cases e4; exact RepU.ext hx x e3
    | tmp x =>
      cases e4
      obtain ⟨p, o, e5, e6, q⟩ := e3
      exact ⟨p, o, e5, e6, q.ext hx⟩
    | exc k => exact e4.elim
    | lv i =>
      obtain ⟨t, x, e5, e6, e7⟩ := e4
      subst e5 e6
      have e3' : σ[i]? = some (some (.ref t)) := e3
      rcases e7 with e7 | e7
      · obtain ⟨w, e8, p, o, e9, e10, q⟩ := R.slot i _ e7
        rw [e3'] at e8
        cases e8
        cases e9
        have ow : OW σ ρ t := ⟨i, x, e7, e3'⟩
        exact ⟨rfl, ⟨no0 t ow, .inr ow⟩, o, .inl e10, q.ext hx⟩
      · obtain ⟨w, e8, e9, ⟨n, l⟩, o, e10, q⟩ := R.slot i _ e7
        rw [e3'] at e8
        cases e8
        refine ⟨rfl, ⟨fun z => ?_, .inl l⟩, o, e10, q.ext hx⟩
        rcases (hfp t).mp z with z | z
        · exact n (hG t z)
        · exact nz t z (hL t l)
  · exact apart_ix ap (own_ix (mapSome h1)) (own_ix (mapSome h2)) (mapSome h3) (mapSome h4)
  · have z := hH a (ix_hds (own_ix (mapSome h1)) (mapSome h2))
    cases e : G a with
    | none => rfl
    | some o => exact absurd (hG a ⟨o, e⟩) z
  · obtain ⟨ho, e1, q⟩ := R.heap a o e
    exact ⟨ho, e1, q.ext hx⟩
  · rcases z with z | z
    · obtain ⟨n, al⟩ := R.zd a (.inl z)
      refine ⟨fun q => ?_, al⟩
      rcases (hfp a).mp q with q | q
      · exact n (hG a q)
      · exact nz a q z
    · refine ⟨no0 a z, ?_⟩
      obtain ⟨i, u, e1, e2⟩ := z
      obtain ⟨w, e3, p, o, e4, e5, _⟩ := R.slot i _ e1
      rw [e2] at e3
      cases e3
      cases e4
      exact ⟨o, e5⟩
/-- the caller's state behind a call -/
theorem caller {rs : List Mp.R} {vs : List V} {svs : List SV} {N : Addr → Prop} (R : Rep ca K L (Or2 Z (Hds rs vs)) σ H ρ G) (hL : ∀ a, L a → Z a) (nz : ∀ p, Hds rs vs p → ¬ Z p) (hfp : ∀ a, fp (vs.map some) (svs.map some) G a ↔ ((∃ o, G a = some o) ∨ Hds rs vs a))
    (hx : Ext H (fp (vs.map some) (svs.map some) G) H1 (fp [] [] G1)) (R1 : Rep ca K (Or2 L (OW σ ρ)) (Or2 (Or2 Z (OW σ ρ)) N) [] H1 [] G1) (hN : ∀ p, N p → (H p = none ∨ fp (vs.map some) (svs.map some) G p) ∧ ¬ Or2 Z (OW σ ρ) p) :
    Rep ca K L (Or2 Z N) σ H1 ρ G1 ∧ (∀ a, Or2 (fp [] [] G1) (Or2 (Or2 Z (OW σ ρ)) N) a ↔ Or2 (fp σ ρ G1) (Or2 Z N) a) ∧ ∀ a, ¬ Hds rs vs a → ∀ o, H a = some o → ¬ fp σ ρ G a → H1 a = some o ∧ ¬ fp σ ρ G1 a := by
  have hG1 : ∀ a, fp [] [] G1 a ↔ ∃ o, G1 a = some o := fun a => ⟨fun q => q.elim id fun ⟨i, u, e, _⟩ => by simp at e, .inl⟩
  have hset : ∀ a, Or2 (fp [] [] G1) (Or2 (Or2 Z (OW σ ρ)) N) a ↔ Or2 (fp σ ρ G1) (Or2 Z N) a := fun a => by
    constructor
    · intro q
      rcases q with q | q
      · exact .inl (.inl ((hG1 a).mp q))
      · rcases q with q | q
        · rcases q with q | q
          · exact .inr (.inl q)
          · exact .inl (.inr q)
        · exact .inr (.inr q)
    · intro q
      rcases q with q | q
      · rcases q with q | q
        · exact .inl ((hG1 a).mpr q)
        · exact .inr (.inl (.inr q))
      · rcases q with q | q
        · exact .inr (.inl (.inl q))
        · exact .inr (.inr q)
  have hH : ∀ a, Hds rs vs a → ¬ fp σ ρ G a := fun a z => (R.zd a (.inr z)).1
  have keep : ∀ a, ¬ Hds rs vs a → ∀ o, H a = some o → ¬ (∃ o, G a = some o) → H1 a = some o ∧ ¬ ∃ o, G1 a = some o := fun a nh o e ng => by
    obtain ⟨h1, h2⟩ := hx a o e fun q => ((hfp a).mp q).elim ng nh
    exact ⟨h1, fun q => h2 ((hG1 a).mpr q)⟩
  have owG : ∀ a, OW σ ρ a → ¬ (∃ o, G a = some o) := fun a ⟨i, u, e1, e2⟩ ⟨o, e⟩ => by rw [R.ownG i u a e1 e2] at e; cases e
  have owH : ∀ a, OW σ ρ a → ¬ Hds rs vs a := fun a z q => hH a q (.inr z)
  have owA : ∀ a, OW σ ρ a → ∃ o, H a = some o := fun a ⟨i, u, e1, e2⟩ => by
    obtain ⟨w, e3, p, o, e4, e5, _⟩ := R.slot i _ e1
    rw [e2] at e3
    cases e3
    cases e4
    exact ⟨o, e5⟩
  have hxx : Ext H (Or2 (fp σ ρ G) (Or2 Z (Hds rs vs))) H1 (Or2 (fp σ ρ G1) (Or2 Z N)) := fun a o e n => by
    have nh : ¬ Hds rs vs a := fun q => n (.inr (.inr q))
    have ng : ¬ ∃ o, G a = some o := fun q => n (.inl (.inl q))
    obtain ⟨h1, h2⟩ := keep a nh o e ng
    refine ⟨h1, fun q => ?_⟩
    rcases q with q | q
    · rcases q with q | q
      · exact h2 q
      · exact n (.inl (.inr q))
    · rcases q with q | q
      · exact n (.inr (.inl q))
      · rcases (hN a q).1 with k | k
        · rw [e] at k; cases k
        · exact ((hfp a).mp k).elim ng nh
  refine ⟨⟨R.len, fun j sv e => ?_, R.own, fun j u a h1 h2 => ?_, fun a o e => ?_, fun a z => ?_⟩, hset, fun a nh o e n => ?_⟩
  · obtain ⟨v, e1, q⟩ := R.slot j sv e
    refine ⟨v, e1, ?_⟩
    cases sv with
    | u x => exact RepU.ext hxx x q
    | own x =>
      obtain ⟨p, o, e2, e3, q⟩ := q
      subst e2
      have ow : OW σ ρ p := ⟨j, x, e, e1⟩
      exact ⟨p, o, rfl, (keep p (owH p ow) o e3 (owG p ow)).1, q.ext hxx⟩
    | fz t x =>
      obtain ⟨e2, ⟨n, l⟩, o, e3, q⟩ := q
      have nh : ¬ Hds rs vs t := fun z => nz t z (hL t l)
      rcases e3 with e3 | ⟨od, e3⟩
      · obtain ⟨h1, h2⟩ := keep t nh o e3 fun z => n (.inl z)
        exact ⟨e2, ⟨fun z => z.elim h2 fun z => n (.inr z), l⟩, o, .inl h1, q.ext hxx⟩
      · obtain ⟨h1, h2⟩ := keep t nh _ e3 fun z => n (.inl z)
        exact ⟨e2, ⟨fun z => z.elim h2 fun z => n (.inr z), l⟩, o, .inr ⟨od, h1⟩, q.ext hxx⟩
    | exc k d => exact RepE.ext hxx q
  · have ow : OW σ ρ a := ⟨j, u, h1, h2⟩
    obtain ⟨o, e⟩ := owA a ow
    cases e1 : G1 a with
    | none => rfl
    | some o1 => exact absurd ⟨o1, e1⟩ (keep a (owH a ow) o e (owG a ow)).2
  · obtain ⟨ho, e1, q⟩ := R1.heap a o e
    exact ⟨ho, e1, q.ext (Ext.sub fun a z => (hset a).mpr z)⟩
  · rcases z with z | z
    · obtain ⟨n, o, e⟩ := R.zd a (.inl z)
      have nh : ¬ Hds rs vs a := fun q => nz a q z
      obtain ⟨h1, h2⟩ := keep a nh o e fun q => n (.inl q)
      exact ⟨fun q => q.elim h2 fun q => n (.inr q), o, h1⟩
    · obtain ⟨n, al⟩ := R1.zd a (.inr z)
      exact ⟨fun q => q.elim (fun q => n ((hG1 a).mpr q)) fun q => (hN a z).2 (.inr q), al⟩
  · obtain ⟨h1, h2⟩ := keep a nh o e fun q => n (.inl q)
    exact ⟨h1, fun q => q.elim h2 fun q => n (.inr q)⟩
end
end Mp

/-! Mp10: syntax facts; calls of own defs as expressions; writes. -/
namespace Mp
open PySem PySem.Spec PyProof.Rows L2

/-! ### syntax -/
theorem ck_plain {K : Ck} {m : E} {e : Expr} (h : ckE K m e = true) : plainX e = true := by
  rw [ckE.eq_def] at h
  exact (Bool.and_eq_true_iff.mp h).1
theorem star_cons {e : Expr} {es : List Expr} {env : Env} (h : plainX e = true) : starEach (e :: es) env = (false, eval e env) :: starEach es env := by
  cases e <;> first | rfl | cases h
theorem cks_nostar {K : Ck} {env : Env} {pos : Pos} : ∀ {ms : Es} {es : List Expr}, ckEs K ms es = true → (backTo pos (starEach es env)).any (·.1) = false ∧ (backTo pos (starEach es env)).all (fun x => !x.1) = true
  | .nil, [], _ => ⟨rfl, rfl⟩
  | .nil, _ :: _, h => by cases h
  | .cons _ _, [], h => by cases h
  | .cons m ms, e :: es, h => by
    simp only [ckEs, Bool.and_eq_true] at h
    rw [star_cons (ck_plain h.1)]
    obtain ⟨h1, h2⟩ := cks_nostar (env := env) (pos := pos) h.2
    exact ⟨by show (false || (backTo pos (starEach es env)).any (·.1)) = false; rw [h1]; rfl, by show (true && (backTo pos (starEach es env)).all (fun x => !x.1)) = true; rw [h2]; rfl⟩
theorem plainIx_of {e : Expr} (h : plainX e = true) : PlainIx e := by
  intro o i
  cases e <;> first | rfl | cases h
theorem nomarkX {op : CmpOp} {e : Expr} (h : plainX e = true) : behindInMarks op e = false := by
  cases e <;> first | rfl | cases h
theorem attrBase {o : Expr} {a : Str} {env : Env} {whole : Sem Value} (h : notSup o = true) : attributeBase o a env whole = whole := by
  unfold attributeBase
  split
  · rename_i id p1 p2
    have h' : id ≠ "super" := of_decide_eq_true h
    have h2 : (id != "super") = true := bne_iff_ne.mpr h'
    simp [h2]
  · rfl

/-! ### the context -/
/-- calls, and the exception that the suite holds -/
abbrev gN (c : Cx0) (n : Nat) : Cal := ⟨callN c.P n, c.cur⟩
def bltNames : List Str := ["len", "int", "str", "list", "tuple", "abs", "sum", "all", "any", "min", "max", "sorted", "range", "enumerate", "zip", "reversed", "isinstance", "bool", "dict", "set"]
/-- what an own exception class that is raised must say -/
structure XC (Kf : PySem.W.Frag) (C : Addr) : Prop where
  ex : PySem.W.excIn Kf C [.type "ValueError", .type "Exception", .type "BaseException", .type "object"] "ValueError.__new__" = true
  kp : PySem.W.keepIn Kf (.ref C) = true
  ty : PySem.W.typeIn Kf (.ref C) = some (.type "type")
  ec : ExcC Kf C
/-- an own exception class with one field -/
def X1 (K : PySem.W.Frag) (mg : Str → Option Value) (C : Addr) (x f : Str) : Prop := ∃ qn fI, (f = "number" ∧ PySem.LowX_number.LowTxt x qn K mg C fI) ∨ (f = "name" ∧ PySem.LowX_name.LowTxt x qn K mg C fI) ∨ (f = "path" ∧ PySem.LowX_path.LowTxt x qn K mg C fI)
structure Ctx (c : Cx0) (n : Nat) (X : Cx) (K : Ck) : Prop where
  nm : X.N = K.N
  nd : X.N.Nodup
  calm : K.hot = false → X.calm = true
  room : K.hot = false → Room (2 * n + 1) X.A
  unt : X.A.units + 64 < cLine
  cold : K.hot = false → c.cur = none
  frm : K.blk = none → X.stack = X.env :: X.outer ∧ X.env.frame = some X.env.locals
  scope : X.env.scope = K.sc
  sto : ∀ i x, K.sto i x = true → X.N[i]? = some x ∧ Loc X.env.scope x ∧ (X.fn x = true ∨ X.env.scope.names.lookup x = some .local)
  own : PassesOwn (model X.prog X.w) X.A X.env X.xe
  blt : ∀ x ∈ bltNames, X.mg x = none
  fns : ∀ f x, K.fnm.lookup f = some x → ∃ fa fd ps, X.mg x = some (.ref fa) ∧ PySem.W.keepIn X.K (.ref fa) = true ∧ Binds X.K fd ps [] ∧
    FnOk X.prog X.w X.K X.mg X.base (L2.CX X.prog X.w) (2 * n) fa fd ps (spN c (callN c.P n) X.K f)
  rai : ∀ k x, K.xnm.lookup k = some x → c.xs k = true ∧ X.mg x = some (.ref (c.ca k)) ∧ XC X.K (c.ca k)
  xcl : ∀ k, c.xs k = true → ExcC X.K (c.ca k)
  xts : ∀ j y, K.cnm.lookup j = some y → ∃ (cw : V) (cv : Value), (X.mg y = some cv ∨ (X.mg y = none ∧ bootBuiltins y = some cv)) ∧ RelV cw cv ∧ (∀ u, RelV cw u → u = cv) ∧ ∀ k, c.xs k = true → PySem.W.exmOne X.K (.ref (c.ca k)) cv = some (c.P.sup k j) ∧ PySem.W.kitOne X.K (.ref (c.ca k)) cv = some (c.P.sup k j)
  exn : ∀ a d k as, c.cur = some (a, d, k, as) → c.xs k = true ∧ ∃ (X0 : Cx) (oe : Obj) (pn : List (Addr × Obj)), X = X0.suite a ((a, oe) :: pn) ∧ Zc (.ref (c.ca k)) d oe ∧ ∃ vs, oe.data = .fields vs
  fdn : ∀ f x, K.fdn.lookup f = some x → c.ca.fn f = x
  fdc : c.P.fdc = c.ca.fd
  rai1 : ∀ k x, K.xn1.lookup k = some x → c.xs k = true ∧ X1 X.K X.mg (c.ca k) x (c.P.xfs k)
  mth : ∀ f k m, K.mth.lookup f = some (k, m) → Cls X.K (c.ca k) ∧ ∃ fa fd ps, Meth X.K (c.ca k) m fa ∧ Binds X.K fd ps [] ∧
    FnOk X.prog X.w X.K X.mg X.base (L2.CX X.prog X.w) (2 * n) fa fd ps (spN c (callN c.P n) X.K f)
  mks : ∀ f k x, K.mks.lookup f = some (k, x) → X.mg x = some (.ref (c.ca k)) ∧ FdOk c.ca.ca c.ca.fn c.ca.fd X.K k ∧ ∃ fa fd ps, Mk X.K (c.ca k) fa ∧ Binds X.K fd ps [] ∧
    FnOk X.prog X.w X.K X.mg X.base (L2.CX X.prog X.w) (2 * n) fa fd ps (spN c (callN c.P n) X.K f)
  xfd : ∀ k f, c.xs k = true → c.P.xfd k = some f → c.P.xfs k = c.ca.fn f ∧ XfC X.K (c.ca k) ∧ PySem.W.findIn X.K (.ref (c.ca k)) (c.ca.fn f) = some none
  cst : ∀ x v, (x, v) ∈ K.cst → ∃ w u, X.mg x = some u ∧ RelV w u ∧ ∀ H ex, RepU X.K H ex v w

section
variable {c : Cx0} {n : Nat} {X : Cx} {K : Ck} {L Z Z' : Addr → Prop} {σ : L2.St} {H H1 H2 : Hp} {ρ ρ1 ρ2 : Rho} {G G1 G2 : Hh} {f ex : Addr → Prop} {x y v : V} {u w : U} {Qm : Kc} {Q : VK} {a b d : E} {e1 e2 e3 : Expr} {pos p2 : Pos} {r : R} {ca : Cs}
theorem hot_no (h : (!K.hot) = true) : K.hot = false := by simpa using h
theorem hot_or {m : Mt} (h : (!K.hot || decide (m = .append)) = true) : K.hot = false ∨ m = .append := by simpa using h
theorem okNm_out {x : Str} (h : okNm x = true) : (x == ("__debug__" : Str)) = false ∧ (x == ("__classdict__" : Str)) = false ∧ x ≠ ("__name__" : Str) := by
  unfold okNm at h
  simp only [Bool.and_eq_true, decide_eq_true_eq] at h
  exact ⟨beq_eq_false_iff_ne.mpr h.1.1, beq_eq_false_iff_ne.mpr h.1.2, h.2⟩
theorem vis_of {sc : Scope} {x : Str} (h : visB sc x = true) : Vis sc x := by
  unfold visB at h
  unfold Vis
  split at h <;> simp_all
theorem gl_of (C : Ctx c n X K) {x : Str} (h : K.glob x = true) : Gl X x ∧ (x == ("__debug__" : Str)) = false ∧ x ≠ ("__name__" : Str) := by
  unfold Ck.glob at h
  simp only [Bool.and_eq_true] at h
  obtain ⟨h1, _, h2⟩ := okNm_out h.2
  refine ⟨?_, h1, h2⟩
  have h := h.1
  unfold glB at h
  show X.env.scope.names.lookup x = some .globalImplicit
  rw [C.scope]
  split at h
  · assumption
  · cases h
theorem c_loc (C : Ctx c n X K) {Γ : Cal} {i : Nat} {x : Str} {pos : Pos} (h : K.loc i x = true) : PE X (.Name x pos) (tE c Γ X (.loc i)) := by
  unfold Ck.loc at h
  simp only [Bool.and_eq_true, decide_eq_true_eq] at h
  obtain ⟨h1, h2, _⟩ := okNm_out h.2
  exact e_loc (pe_var (by rw [C.nm]; exact h.1.1) (by rw [C.scope]; exact vis_of h.1.2) h1 h2)
theorem c_frz (C : Ctx c n X K) {Γ : Cal} {i : Nat} {x : Str} {pos : Pos} (h : K.loc i x = true) : PE X (.Name x pos) (tE c Γ X (.frz i)) := by
  refine PE.imp (c_loc (Γ := Γ) C h) fun σ H Q ⟨L, Z, ρ, G, Xm, Qm, R, hL, w, tk, en⟩ => ?_
  refine ⟨L, Z, ρ, G, Xm, fun r ρ1 G1 => toU r ρ1 fun v ρ2 => Qm (.u v) ρ2 G1, R, hL, ?_, tk, fun r ρ1 G1 v H1 hx R1 w1 => ?_⟩
  · simp only [wpE] at w ⊢
    cases e : ρ[i]? with
    | none => rw [e] at w; exact w.elim
    | some o =>
      rw [e] at w
      cases o with
      | none => exact w.elim
      | some sv =>
        cases sv with
        | u v => exact w
        | own v =>
          simp only [toU, e]
          exact w
        | fz t v => exact w.elim
        | exc a d => exact w.elim
  · have e : Hds [r] [v] = Hd r v := or2_false
    obtain ⟨us, ρ2, k2, R2, q2, sub⟩ := toUs_ok (rs := [r]) (vs := [v]) (K0 := fun vs ρ2 => match vs with
      | [u] => Qm (.u u) ρ2 G1
      | _ => False) (by rw [e]; exact R1.rep) (by rw [e]; exact ⟨v, [], rfl, R1.val, rfl⟩) ⟨fun a _ z => z.elim, trivial⟩ (fun p z => (R1.new p (by rwa [e] at z)).2) w1
    match us, k2, q2 with
    | [u], k2, q2 =>
      simp only [RepUs] at q2
      obtain ⟨v', t, e2, q2, _⟩ := q2
      cases e2
      exact en.ofU R2 (fun _ z => z) (fun a o e n => ⟨(hx a o e n).1, fun z => (hx a o e n).2 (sub a z)⟩) q2 k2
theorem c_cst (C : Ctx c n X K) {Γ : Cal} {x : Str} {v : U} {pos : Pos} (h : K.glob x = true) (hc : (x, v) ∈ K.cst) : PE X (.Name x pos) (tE c Γ X (.cst v)) := by
  obtain ⟨w, u, h1, h2, h3⟩ := C.cst x v hc
  obtain ⟨g1, g2, _⟩ := gl_of C h
  exact e_lit (pe_glob g1 h1 h2 g2) (u := v) (fun _ _ _ _ w => by simpa only [wpE] using w) h3
/-- a call: what is asked of the def -/
theorem call_sp {fi : Nat} {rs : List Mp.R} {vs : List V} {Xm : Xc} {H0 : Hp} {f0 : Addr → Prop}
    (R : Rep c.ca X.K L (Or2 Z (Hds rs vs)) σ H ρ G) (hL : ∀ a, L a → Z a) (q : ValL X.K H (Or2 (fp σ ρ G) (Or2 Z (Hds rs vs))) σ rs vs) (ap : Apart rs vs)
    (nw : ∀ p, Hds rs vs p → (H0 p = none ∨ f0 p) ∧ ¬ Z p) (hx : Ext H0 f0 H (fp σ ρ G)) (en : EndE c X L Z σ H0 f0 Qm Q)
    (w : toSs rs ρ fun svs => callN c.P n fi svs G (fun k as G2 => Xm k as ρ G2) fun r G2 => Qm r ρ G2) :
    spN c (callN c.P n) X.K fi vs H Q (fun cls d H' => ∃ k as ρ' G', RepX c X.K H' (Or2 (fp σ ρ' G') Z) k as cls d ∧ Rep c.ca X.K L Z σ H' ρ' G' ∧ Ext H0 f0 H' (fp σ ρ' G') ∧ Xm k as ρ' G') := by
  obtain ⟨svs, k, Rc, hfp⟩ := callee R hL q ap (fun p z => (nw p z).2) w
  have nz : ∀ p, Hds rs vs p → ¬ Z p := fun p z => (nw p z).2
  have noH : ∀ a, ∀ o, H0 a = some o → ¬ f0 a → ¬ Hds rs vs a := fun a o e n z => by
    rcases (nw a z).1 with k | k
    · rw [e] at k; cases k
    · exact n k
  refine ⟨Or2 L (OW σ ρ), Or2 Z (OW σ ρ), svs, G, _, _, Rc, fun a z => z.elim (fun z => .inl (hL a z)) .inr, k, fun r G' v H' hx1 R1 k1 => ?_, fun ke as G' cls d H' hx1 rx R1 k1 => ?_⟩
  · obtain ⟨R2, hset, keep⟩ := caller R hL nz hfp hx1 R1.rep R1.new
    have hval : Val X.K H' (Or2 (fp σ ρ G') (Or2 Z (Hd r v))) σ r v := by
      have hs : Ext H' (Or2 (fp [] [] G') (Or2 (Or2 Z (OW σ ρ)) (Hd r v))) H' (Or2 (fp σ ρ G') (Or2 Z (Hd r v))) := Ext.sub fun a z => (hset a).mpr z
      have qv := R1.val
      cases r with
      | u x => exact RepU.ext hs x qv
      | tmp x =>
        obtain ⟨p, o, e, e2, q⟩ := qv
        exact ⟨p, o, e, e2, q.ext hs⟩
      | lv i =>
        have qv' : ([] : L2.St)[i]? = some (some v) := qv
        simp at qv'
      | exc k => exact qv
    refine en r ρ G' v H' (fun a o e n => ?_) ⟨R2, hval, fun p z => ?_⟩ k1
    · exact keep a (noH a o e n) o (hx a o e n).1 (hx a o e n).2
    · obtain ⟨n1, n2⟩ := R1.new p z
      refine ⟨?_, fun z => n2 (.inl z)⟩
      rcases n1 with n1 | n1
      · exact newback hx (.inl n1)
      · rcases (hfp p).mp n1 with g | g
        · exact newback hx (.inr (.inl g))
        · exact (nw p g).1
  · obtain ⟨R2, hset, keep⟩ := caller (N := fun _ => False) R hL nz hfp hx1 (by rw [or2_false]; exact R1) fun p z => z.elim
    rw [or2_false] at R2
    refine ⟨ke, as, ρ, G', ?_, R2, ?_, k1⟩
    · obtain ⟨e, rx⟩ := rx
      refine ⟨e, ?_⟩
      have hs : Ext H' (Or2 (fp [] [] G') (Or2 Z (OW σ ρ))) H' (Or2 (fp σ ρ G') Z) := Ext.sub fun a z => by
        have := (hset a).mpr (by rw [or2_false]; exact z)
        rw [or2_false] at this
        exact this
      match as, rx with
      | [], rx => exact rx
      | [x], rx =>
        obtain ⟨dx, v, e1, e2, nx, q⟩ := rx
        exact ⟨dx, v, e1, e2, (hs dx _ e2 nx).2, RepU.ext hs x q⟩
    · intro a o e n
      exact keep a (noH a o e n) o (hx a o e n).1 (hx a o e n).2

/-- the end of a call -/
theorem call_end (C : Ctx c n X K) (hh : K.hot = false) {fi : Nat} {fa : Addr} {fd : FuncData} {ps : List Str} {pins : List (Addr × Obj)} {s : Shared} {rs : List Mp.R} {vs : List V} {us : List Value} {Xm : Xc} {H0 : Hp} {f0 : Addr → Prop}
    (hb : Binds X.K fd ps []) (F : FnOk X.prog X.w X.K X.mg X.base (L2.CX X.prog X.w) (2 * n) fa fd ps (spN c (callN c.P n) X.K fi))
    (I : Inv X pins σ H s) (hu : Vals vs us) (R : Rep c.ca X.K L (Or2 Z (Hds rs vs)) σ H ρ G) (hL : ∀ a, L a → Z a) (q : ValL X.K H (Or2 (fp σ ρ G) (Or2 Z (Hds rs vs))) σ rs vs) (ap : Apart rs vs)
    (nw : ∀ p, Hds rs vs p → (H0 p = none ∨ f0 p) ∧ ¬ Z p) (hx : Ext H0 f0 H (fp σ ρ G)) (tk : Tk c X L Z H0 f0 Xm) (en : EndE c X L Z σ H0 f0 Qm Q)
    (w : toSs rs ρ fun svs => callN c.P n fi svs G (fun k as G2 => Xm k as ρ G2) fun r G2 => Qm r ρ G2) :
    wpAny (model X.prog X.w) X.A (call (.ref fa) us) (EP X pins σ Q) X.xe s := by
  refine run_fnSD (E := fun σ cls d H' => ∃ k as ρ' G', RepX c X.K H' (Or2 (fp σ ρ' G') Z) k as cls d ∧ Rep c.ca X.K L Z σ H' ρ' G' ∧ Ext H0 f0 H' (fp σ ρ' G') ∧ Xm k as ρ' G') (dvs := []) (ds := []) F ((C.room hh).mono (by omega)) hb .nil
    (fun pins H s e s' I cx => tk e s' (XE.of_call I (fun _ _ _ h => h) cx)) I hu ?_
  rw [List.append_nil]
  exact call_sp R hL q ap nw hx en w

theorem valL_len {ex : Addr → Prop} : ∀ {rs : List Mp.R} {vs : List V}, ValL X.K H ex σ rs vs → vs.length = rs.length
  | [], vs, q => by
    have q' : vs = [] := q
    rw [q']
    rfl
  | r :: rs, vs, q => by
    obtain ⟨v, t, e, _, q2⟩ := q
    rw [e, List.length_cons, List.length_cons, valL_len q2]
theorem c_call (C : Ctx c n X K) (hh : K.hot = false) {fi : Nat} {xn : Str} {es : Es} {el : List Expr} {p : Pos} (hg : K.glob xn = true) (hf : K.fnm.lookup fi = some xn) (hck : ckEs K es el = true) (ga : PA X el (tA c (gN c n) X es)) :
    PE X (.Call (.Name xn p) el [] pos) (tE c (gN c n) X (.call fi es)) := by
  obtain ⟨fa, fd, ps, hm, hk, hb, F⟩ := C.fns fi xn hf
  obtain ⟨g1, g2, _⟩ := gl_of C hg
  refine ⟨fun pins s σ H Q I h => ?_⟩
  obtain ⟨L, Z, ρ, G, Xm, Qm, R, hL, w, tk, en⟩ := h
  simp only [wpE] at w
  have args : tA c (gN c n) X es σ H fun vs H1 => ∀ (s1 : Shared) (us : List Value), Inv X pins σ H1 s1 → Vals vs us → wpAny (model X.prog X.w) X.A (call (.ref fa) us) (EP X pins σ Q) X.xe s1 :=
    ⟨L, Z, ρ, G, Xm, _, R, hL, w, tk, fun rs ρ1 G1 vs H1 hx R1 q1 ap nw w1 s1 us I1 hu => by
      exact call_end C hh hb F I1 hu R1 hL q1 ap nw hx tk en w1⟩
  refine wpAny_Call_Name_kw (ld_glob I g1 hm ?_ g2)
  cases el with
  | nil =>
    cases es with
    | cons m ms => cases hck
    | nil =>
      obtain ⟨L, Z, ρ, G, Xm, Qm, R, hL, w, tk, en⟩ := args
      simp only [wpEs] at w
      have e : Hds [] ([] : List V) = fun _ => False := rfl
      exact PySem.W.callWith_K0 I.kIn hk (en [] ρ G [] H (Ext.refl _ _) (by rw [e, or2_false]; exact R) rfl trivial (fun p z => z.elim) w s [] I .nil)
  | cons e el =>
    cases es with
    | nil => cases hck
    | cons m ms =>
      simp only [ckEs, Bool.and_eq_true] at hck
      exact PySem.W.callWith_K (h₀ := X.base) I.ok.mod.kin hk (thn (ga.run pos pins s σ H _ I args) fun us s1 ⟨vs, H1, I1, r, q⟩ => ⟨I1.kIn, q s1 us I1 r⟩) (star_cons (ck_plain hck.1)) (cks_nostar hck.2).1

/-! ### instances -/
theorem hds_u {u : U} {v : V} {rs : List Mp.R} {vs : List V} : Hds (.u u :: rs) (v :: vs) = Hds rs vs := by
  funext a
  exact propext ⟨fun z => z.elim False.elim id, .inr⟩
theorem lookF_rep {fn : Nat → Str} (inj : ∀ f g, fn f = fn g → f = g) {Kf : PySem.W.Frag} {f : Nat} {u : U} : ∀ {fs : List (Nat × U)} {gs : List (Str × V)}, RepFs Kf H ex fn fs gs → lookF fs f = some u → (∃ v, gs.lookup (fn f) = some v ∧ RepU Kf H ex u v) ∧ ∃ p ∈ fs, p.1 = f
  | [], gs, _, h => by cases h
  | (g, x) :: fs, gs, r, h => by
    obtain ⟨v, q, e, r1, r2⟩ := r
    subst e
    unfold lookF at h
    rw [List.lookup_cons]
    by_cases e : g = f
    · subst e
      rw [Nat.beq_refl] at h
      cases h
      rw [beq_self_eq_true]
      exact ⟨⟨v, rfl, r1⟩, (g, u), by simp, rfl⟩
    · have hb : Nat.beq g f = false := by
        cases hq : Nat.beq g f with
        | false => rfl
        | true => exact absurd (Nat.eq_of_beq_eq_true hq) e
      rw [hb] at h
      obtain ⟨h1, p, hp, h2⟩ := lookF_rep inj r2 h
      rw [show (fn f == fn g) = false from beq_eq_false_iff_ne.mpr fun z => e (inj _ _ z).symm]
      exact ⟨h1, p, List.mem_cons_of_mem _ hp, h2⟩
theorem putFd_rep {fn : Nat → Str} (inj : ∀ f g, fn f = fn g → f = g) {Kf : PySem.W.Frag} {f : Nat} {u : U} {v : V} (hu : RepU Kf H ex u v) : ∀ {fs : List (Nat × U)} {gs : List (Str × V)}, RepFs Kf H ex fn fs gs → RepFs Kf H ex fn (putFd f u fs) (L2.putF (fn f) v gs)
  | [], gs, r => by
    have r' : gs = [] := r
    subst r'
    exact ⟨v, [], rfl, hu, rfl⟩
  | (g, x) :: fs, gs, r => by
    obtain ⟨w, q, e, r1, r2⟩ := r
    subst e
    unfold putFd L2.putF
    by_cases e : g = f
    · subst e
      rw [Nat.beq_refl, if_pos rfl]
      exact ⟨v, q, rfl, hu, r2⟩
    · have hb : Nat.beq g f = false := by
        cases hq : Nat.beq g f with
        | false => rfl
        | true => exact absurd (Nat.eq_of_beq_eq_true hq) e
      rw [hb, if_neg fun z => e (inj _ _ z)]
      exact ⟨w, _, rfl, r1, putFd_rep inj hu r2⟩
theorem putFd_mem {f : Nat} {u : U} : ∀ {fs : List (Nat × U)} {p : Nat × U}, p ∈ putFd f u fs → p.1 = f ∨ ∃ q ∈ fs, q.1 = p.1
  | [], p, h => by
    simp [putFd] at h
    exact .inl (by rw [h])
  | (g, x) :: fs, p, h => by
    unfold putFd at h
    cases hq : Nat.beq g f with
    | true =>
      rw [hq] at h
      rcases List.mem_cons.mp h with e | h
      · exact .inl (by rw [e]; exact Nat.eq_of_beq_eq_true hq)
      · exact .inr ⟨p, List.mem_cons_of_mem _ h, rfl⟩
    | false =>
      rw [hq] at h
      rcases List.mem_cons.mp h with e | h
      · exact .inr ⟨(g, x), by simp, by rw [e]⟩
      · rcases putFd_mem h with e | ⟨q, hq, e⟩
        · exact .inl e
        · exact .inr ⟨q, List.mem_cons_of_mem _ hq, e⟩
theorem repFs_len {fn : Nat → Str} {Kf : PySem.W.Frag} : ∀ {fs : List (Nat × U)} {gs : List (Str × V)}, RepFs Kf H ex fn fs gs → fs.length = gs.length
  | [], gs, r => by
    have r' : gs = [] := r
    rw [r']; rfl
  | (g, x) :: fs, gs, r => by
    obtain ⟨w, q, e, r1, r2⟩ := r
    rw [e, List.length_cons, List.length_cons, repFs_len r2]
/-- an instance, seen -/
theorem ins_at {p : Addr} {k : Nat} {fs : List (Nat × U)} {Kf : PySem.W.Frag} (R : Rep ca Kf L Z σ H ρ G) (h : G p = some (.ins k fs)) :
    ∃ dx gs, H p = some (.ins (ca k) dx gs) ∧ FdOk ca.ca ca.fn ca.fd Kf k ∧ (∀ q ∈ fs, ca.fd k q.1 = true) ∧ RepFs Kf H (Or2 (fp σ ρ G) Z) ca.fn fs gs := by
  obtain ⟨ho, e, h1, h2, dx, gs, e2, q⟩ := R.heap p _ h
  subst e2
  exact ⟨dx, gs, e, h1, h2, q⟩
theorem c_fld (C : Ctx c n X K) {Γ : Cal} {fi : Nat} {nm : Str} (hf : K.fdn.lookup fi = some nm) (hns : notSup e1 = true) (ga : PE X e1 (tE c Γ X a)) : PE X (.Attribute e1 nm pos) (tE c Γ X (.fld a fi)) := by
  have hn := C.fdn _ _ hf
  subst hn
  refine PE.imp (pe_fld ga (attrBase hns)) fun σ H Q ⟨L, Z, ρ, G, Xm, Qm, R, hL, w, tk, en⟩ => ?_
  simp only [wpE] at w
  refine one R hL w tk fun ra ρ2 G2 x H2 Z' hz ha hx R2 q w2 => ?_
  cases ra <;> try exact w2.elim
  rename_i z
  cases z <;> try exact w2.elim
  rename_i p
  simp only at w2
  cases hg : G2 p with
  | none => rw [hg] at w2; exact w2.elim
  | some o =>
    rw [hg] at w2
    cases o with
    | con u => exact w2.elim
    | ins k fs =>
      obtain ⟨u, eu, w2⟩ := optK_out w2
      obtain ⟨dx, gs, e1, h1, h2, rf⟩ := ins_at R2 hg
      obtain ⟨⟨v, ev, rv⟩, p', hp', ep⟩ := lookF_rep c.ca.inj rf eu
      have q' : x = .ref p := by simpa only [Val, RepU] using q
      refine ⟨p, _, dx, gs, v, q', e1, h1.1, ?_, ev, en.ofU R2 hz hx rv w2⟩
      have := h1.2 _ (h2 p' hp')
      rwa [ep] at this
/-- a new instance is shared -/
theorem Rep.newIns {x dx : Addr} {k : Nat} {Kf : PySem.W.Frag} (R : Rep ca Kf L Z σ H ρ G) (hx : H x = none) (hd : H dx = none) (ne : dx ≠ x) (cl : FdOk ca.ca ca.fn ca.fd Kf k) :
    Rep ca Kf L Z σ (upd (upd H dx (.own x)) x (.ins (ca k) dx [])) ρ (put G x (.ins k [])) ∧ G x = none ∧ (∀ a, fp σ ρ (put G x (.ins k [])) a → fp σ ρ G a ∨ a = x) ∧ ∀ a o, H a = some o → upd (upd H dx (.own x)) x (.ins (ca k) dx []) a = some o := by
  have keep : ∀ a o, H a = some o → upd (upd H dx (.own x)) x (.ins (ca k) dx []) a = some o := fun a o e => by
    rw [upd_ne (ne_of_none e hx), upd_ne (ne_of_none e hd)]
    exact e
  have gx : G x = none := by
    cases e : G x with
    | none => rfl
    | some o =>
      obtain ⟨ho, h, _⟩ := R.heap x o e
      rw [hx] at h; cases h
  have pat : ∀ {a o}, put G x (.ins k []) a = some o → (a = x ∧ o = .ins k []) ∨ G a = some o := fun {a o} h => by
    unfold put at h
    by_cases e : a = x
    · rw [if_pos e] at h
      cases h
      exact .inl ⟨e, rfl⟩
    · rw [if_neg e] at h
      exact .inr h
  have sub : ∀ a, fp σ ρ (put G x (.ins k [])) a → fp σ ρ G a ∨ a = x := fun a h => by
    rcases h with ⟨o, h⟩ | h
    · rcases pat h with ⟨e, _⟩ | h
      · exact .inr e
      · exact .inl (.inl ⟨o, h⟩)
    · exact .inl (.inr h)
  have nx : ∀ a o, H a = some o → a ≠ x := fun a o e => ne_of_none e hx
  have hxt : Ext H (Or2 (fp σ ρ G) Z) (upd (upd H dx (.own x)) x (.ins (ca k) dx [])) (Or2 (fp σ ρ (put G x (.ins k []))) Z) := fun a o e m =>
    ⟨keep a o e, fun z => z.elim (fun z => (sub a z).elim (fun z => m (.inl z)) (nx a o e)) fun z => m (.inr z)⟩
  refine ⟨⟨R.len, fun i sv e => ?_, R.own, fun i u a e1 e2 => ?_, fun a o e => ?_, fun a z => ?_⟩, gx, sub, keep⟩
  · obtain ⟨v, e1, q⟩ := R.slot i sv e
    refine ⟨v, e1, q.ext hxt (fun a o e m => ⟨keep a o e, fun z => (sub a z).elim m (nx a o e)⟩) fun _ _ _ _ o e => keep _ o e⟩
  · have h1 := R.ownG i u a e1 e2
    unfold put
    by_cases e : a = x
    · subst e
      obtain ⟨v, e3, p, o, e4, e5, _⟩ := R.slot i _ e1
      rw [e2] at e3
      cases e3
      cases e4
      rw [hx] at e5; cases e5
    · rw [if_neg e]; exact h1
  · rcases pat e with ⟨e1, e2⟩ | e
    · subst e1 e2
      refine ⟨_, upd_same, cl, ?_, dx, [], rfl, rfl⟩
      intro p hp
      cases hp
    · obtain ⟨ho, h1, q⟩ := R.heap a o e
      exact ⟨ho, keep a ho h1, q.ext hxt⟩
  · obtain ⟨h1, o, h2⟩ := R.zd a z
    exact ⟨fun h => (sub a h).elim h1 (nx a o h2), o, keep a o h2⟩
theorem toSs_imp : ∀ {rs : List Mp.R} {K0 K1 : List SV → Prop}, (∀ l, K0 l → K1 l) → toSs rs ρ K0 → toSs rs ρ K1
  | [], K0, K1, h, q => h [] q
  | r :: rs, K0, K1, h, q => by
    have q' : toS r ρ fun v => toSs rs ρ fun vs => K0 (v :: vs) := q
    show toS r ρ fun v => toSs rs ρ fun vs => K1 (v :: vs)
    have step : ∀ v, (toSs rs ρ fun vs => K0 (v :: vs)) → toSs rs ρ fun vs => K1 (v :: vs) := fun v => toSs_imp fun l => h (v :: l)
    unfold toS at q' ⊢
    split at q'
    · exact step _ q'
    · exact step _ q'
    · split at q'
      · exact fun t => step _ (q' t)
      · exact step _ q'
      · exact q'.elim
    · exact q'.elim
theorem valL_keep {H' : Hp} {ex' : Addr → Prop} (hk : ∀ a o, H a = some o → H' a = some o) (h : Ext H ex H' ex') {Kf : PySem.W.Frag} : ∀ {rs : List Mp.R} {vs : List V}, ValL Kf H ex σ rs vs → ValL Kf H' ex' σ rs vs
  | [], vs, q => q
  | r :: rs, vs, q => by
    obtain ⟨v, t, e, q1, q2⟩ := q
    refine ⟨v, t, e, ?_, valL_keep hk h q2⟩
    cases r with
    | u x => exact RepU.ext h x q1
    | tmp x =>
      obtain ⟨p, o, e1, e2, q⟩ := q1
      exact ⟨p, o, e1, hk p o e2, q.ext h⟩
    | lv i => exact q1
    | exc k => exact q1
/-- C(..), the exceptions by the state -/
theorem make_run {CX : CXT} {kk : Nat} {Cl fI : Addr} {fd : FuncData} {ps : List Str} {sp : Sp} {E : L2.St → XK} {pins : List (Addr × Obj)} {s : Shared} {us : List Value} {vs : List V} (M : Mk X.K Cl fI) (F : FnOk X.prog X.w X.K X.mg X.base CX kk fI fd ps sp) (rm : Room (kk + 1) X.A) (bd : Binds X.K fd ps [])
    (px : PassesAt CX X σ (E σ)) (I : Inv X pins σ H s) (rv : Vals vs us) (hs : ∀ x dx, H x = none → H dx = none → dx ≠ x → sp (.ref x :: vs) (upd (upd H dx (.own x)) x (.ins Cl dx [])) (fun v H2 => v = .non ∧ Q (.ref x) H2) (E σ)) :
    wpAny (model X.prog X.w) X.A (call (.ref Cl) us) (EP X pins σ Q) X.xe s := by
  have w0 := hs (s.heap.objs.size + 1) s.heap.objs.size (I.hok.fresh (Nat.le_succ _)) (I.hok.fresh (Nat.le_refl _)) (Nat.ne_of_lt (Nat.lt_succ_self _))
  have IM := Inv.made (C := Cl) I
  have rr : Vals (V.ref (s.heap.objs.size + 1) :: vs) (Value.ref (s.heap.objs.size + 1) :: us ++ []) := by
    rw [List.append_nil]
    exact .cons rfl rv
  have ln : (Value.ref (s.heap.objs.size + 1) :: us ++ []).length = ps.length := by rw [← rr.length]; exact F.len _ _ _ _ w0
  have bb := bd _ (Value.ref (s.heap.objs.size + 1) :: us) IM.kIn ln
  refine wpAny_call (make_map (f := fI) I.kIn M.makes M.init (beq_iff_eq.mp M.fn) (codeAny_mono (F.run _ X.stack _ _ ⟨Value.ref (s.heap.objs.size + 1) :: us, []⟩ _ _ _ (E σ) (rm.make Cl us []) (IM.env0.make Cl us []) bb rr w0) fun rs s' hq => ?_))
  match rs, hq with
  | .error e, hq => exact px pins _ _ e s' IM hq
  | .ok (.ret u), hq =>
    obtain ⟨v, H', I3, r3, ev, q3⟩ := IM.after hq
    subst ev
    exact ⟨r3, V.ref (s.heap.objs.size + 1), H', I3, rfl, q3⟩
theorem make_end (C : Ctx c n X K) (hh : K.hot = false) {ki fi : Nat} {fa : Addr} {fd : FuncData} {ps : List Str} {pins : List (Addr × Obj)} {s : Shared} {rs : List Mp.R} {vs : List V} {us : List Value} {Xm : Xc} {H0 : Hp} {f0 : Addr → Prop}
    (M : Mk X.K (c.ca ki) fa) (cl : FdOk c.ca.ca c.ca.fn c.ca.fd X.K ki) (hb : Binds X.K fd ps []) (F : FnOk X.prog X.w X.K X.mg X.base (L2.CX X.prog X.w) (2 * n) fa fd ps (spN c (callN c.P n) X.K fi))
    (I : Inv X pins σ H s) (hu : Vals vs us) (R : Rep c.ca X.K L (Or2 Z (Hds rs vs)) σ H ρ G) (hL : ∀ a, L a → Z a) (q : ValL X.K H (Or2 (fp σ ρ G) (Or2 Z (Hds rs vs))) σ rs vs) (ap : Apart rs vs)
    (nw : ∀ p, Hds rs vs p → (H0 p = none ∨ f0 p) ∧ ¬ Z p) (hx : Ext H0 f0 H (fp σ ρ G)) (tk : Tk c X L Z H0 f0 Xm) (en : EndE c X L Z σ H0 f0 Qm Q)
    (w : toSs rs ρ fun svs => ∀ a, G a = none → callN c.P n fi (.u (.ref a) :: svs) (put G a (.ins ki [])) (fun k as G2 => Xm k as ρ G2) fun r G2 => nonR r ∧ Qm (.u (.ref a)) ρ G2) :
    wpAny (model X.prog X.w) X.A (call (.ref (c.ca ki)) us) (EP X pins σ Q) X.xe s := by
  refine make_run (E := fun σ cls d H' => ∃ k as ρ' G', RepX c X.K H' (Or2 (fp σ ρ' G') Z) k as cls d ∧ Rep c.ca X.K L Z σ H' ρ' G' ∧ Ext H0 f0 H' (fp σ ρ' G') ∧ Xm k as ρ' G') M F (C.room hh) hb
    (fun pins H s e s' I cx => tk e s' (XE.of_call I (fun _ _ _ h => h) cx)) I hu fun x dx h1 h2 h3 => ?_
  obtain ⟨R2, gx, sub, keep⟩ := R.newIns (k := ki) h1 h2 h3 cl
  have nx : ∀ a o, H a = some o → a ≠ x := fun a o e => ne_of_none e h1
  have hx2 : Ext H0 f0 (upd (upd H dx (.own x)) x (.ins (c.ca ki) dx [])) (fp σ ρ (put G x (.ins ki []))) := fun a o e m => by
    obtain ⟨k1, k2⟩ := hx a o e m
    exact ⟨keep a o k1, fun z => (sub a z).elim k2 (nx a o k1)⟩
  have hZ : Ext H (Or2 (fp σ ρ G) (Or2 Z (Hds rs vs))) (upd (upd H dx (.own x)) x (.ins (c.ca ki) dx [])) (Or2 (fp σ ρ (put G x (.ins ki []))) (Or2 Z (Hds rs vs))) := fun a o e m =>
    ⟨keep a o e, fun z => z.elim (fun z => (sub a z).elim (fun z => m (.inl z)) (nx a o e)) fun z => m (.inr z)⟩
  have w1 : toSs rs ρ fun svs => callN c.P n fi (.u (.ref x) :: svs) (put G x (.ins ki [])) (fun k as G2 => Xm k as ρ G2) fun r G2 => nonR r ∧ Qm (.u (.ref x)) ρ G2 :=
    toSs_imp (fun svs h => h x gx) w
  have w2 : toSs (.u (.ref x) :: rs) ρ fun svs => callN c.P n fi svs (put G x (.ins ki [])) (fun k as G2 => Xm k as ρ G2) fun r G2 => nonR r ∧ Qm (.u (.ref x)) ρ G2 := w1
  refine call_sp (rs := .u (.ref x) :: rs) (vs := .ref x :: vs) (Qm := fun r ρ G2 => nonR r ∧ Qm (.u (.ref x)) ρ G2) (by rw [hds_u]; exact R2) hL ?_ ⟨fun a z => z.elim, ap⟩ (by rw [hds_u]; exact nw) hx2 ?_ w2
  · refine ⟨_, _, rfl, ?_, ?_⟩
    · show RepU _ _ _ _ _
      simp only [RepU]
    · rw [hds_u]
      exact valL_keep keep hZ q
  · intro r ρ' G' v H' hxx R' k
    obtain ⟨k1, k2⟩ := k
    match r, k1, R' with
    | .u .non, _, R' =>
      have hv := R'.val
      refine ⟨by simpa only [Val, RepU] using hv, ?_⟩
      have R'' := R'.rep
      rw [hd_u, or2_false] at R''
      exact en.ofU R'' (fun _ z => z) hxx (u := .ref x) (by simp only [RepU]) k2
theorem c_make (C : Ctx c n X K) (hh : K.hot = false) {ki fi : Nat} {xn : Str} {es : Es} {el : List Expr} {p : Pos} (hg : K.glob xn = true) (hf : K.mks.lookup fi = some (ki, xn)) (hck : ckEs K es el = true) (ga : PA X el (tA c (gN c n) X es)) :
    PE X (.Call (.Name xn p) el [] pos) (tE c (gN c n) X (.make ki fi es)) := by
  obtain ⟨hm, cl, fa, fd, ps, M, hb, F⟩ := C.mks fi ki xn hf
  obtain ⟨g1, g2, _⟩ := gl_of C hg
  refine ⟨fun pins s σ H Q I h => ?_⟩
  obtain ⟨L, Z, ρ, G, Xm, Qm, R, hL, w, tk, en⟩ := h
  simp only [wpE] at w
  have args : tA c (gN c n) X es σ H fun vs H1 => ∀ (s1 : Shared) (us : List Value), Inv X pins σ H1 s1 → Vals vs us → wpAny (model X.prog X.w) X.A (call (.ref (c.ca ki)) us) (EP X pins σ Q) X.xe s1 :=
    ⟨L, Z, ρ, G, Xm, _, R, hL, w, tk, fun rs ρ1 G1 vs H1 hx R1 q1 ap nw w1 s1 us I1 hu => make_end C hh M cl hb F I1 hu R1 hL q1 ap nw hx tk en w1⟩
  refine wpAny_Call_Name_kw (ld_glob I g1 hm ?_ g2)
  cases el with
  | nil =>
    cases es with
    | cons m ms => cases hck
    | nil =>
      obtain ⟨L, Z, ρ, G, Xm, Qm, R, hL, w, tk, en⟩ := args
      simp only [wpEs] at w
      have e : Hds [] ([] : List V) = fun _ => False := rfl
      exact PySem.W.callWith_K0 I.kIn M.kp (en [] ρ G [] H (Ext.refl _ _) (by rw [e, or2_false]; exact R) rfl trivial (fun p z => z.elim) w s [] I .nil)
  | cons e el =>
    cases es with
    | nil => cases hck
    | cons m ms =>
      simp only [ckEs, Bool.and_eq_true] at hck
      exact PySem.W.callWith_K (h₀ := X.base) I.ok.mod.kin M.kp (thn (ga.run pos pins s σ H _ I args) fun us s1 ⟨vs, H1, I1, r, q⟩ => ⟨I1.kIn, q s1 us I1 r⟩) (star_cons (ck_plain hck.1)) (cks_nostar hck.2).1
theorem meth_ht {env : Env} {mn : Str} {oe : Expr} {es : Es} {el : List Expr} {ap cp : Pos} (hns : notSup oe = true) (hck : ckEs K es el = true) (hl : (ap.endLine == cp.line) = true) (few : el.length < 9) :
    eval (.Call (.Attribute oe mn ap) el [] cp) env = (do
      let ov ← eval oe env
      standAt ap.atName
      let (f, first) ← holding [ov] (getMethod ov mn (do return (← importBound oe env).getD true))
      callWith cp f first (backTo cp (starEach el env)) (backToKw cp (keywordEach [] env))) := by
  have e : eval (.Call (.Attribute oe mn ap) el [] cp) env = (do
      let ov ← attributeBase oe mn env (eval oe env)
      standAt ap.atName
      methodCall oe mn ap cp env ov (el.length + ([] : List Keyword).length) (backTo cp (starEach el env)) (backToKw cp (keywordEach [] env))) := rfl
  have hfew : methodCallForm (el.length + ([] : List Keyword).length) (backTo cp (starEach el env)) (backToKw cp (keywordEach [] env)) = true := by
    unfold methodCallForm
    rw [(cks_nostar hck).2]
    have z : backToKw cp (keywordEach [] env) = [] := rfl
    rw [z]
    simp
    omega
  rw [e, attrBase hns]
  unfold methodCall methodCallPos calleeOf
  rw [hfew, hl]
  simp only [Bool.not_true, Bool.or_true, if_true, pure_bind]
theorem c_meth (C : Ctx c n X K) (hh : K.hot = false) {ki fi : Nat} {mn : Str} {o : E} {oe : Expr} {es : Es} {el : List Expr} {ap cp : Pos} (hf : K.mth.lookup fi = some (ki, mn)) (hns : notSup oe = true) (hck : ckEs K es el = true) (go : PE X oe (tE c (gN c n) X o)) (ga : PA X el (tA c (gN c n) X es))
    {pl : Sem Bool} (ht : eval (.Call (.Attribute oe mn ap) el [] cp) X.env = (do
      let ov ← eval oe X.env
      standAt ap.atName
      let (f, first) ← holding [ov] (getMethod ov mn pl)
      callWith cp f first (backTo cp (starEach el X.env)) (backToKw cp (keywordEach [] X.env)))) :
    PE X (.Call (.Attribute oe mn ap) el [] cp) (tE c (gN c n) X (.meth ki fi o es)) := by
  obtain ⟨cl, fa, fd, ps, M, hb, F⟩ := C.mth fi ki mn hf
  refine ⟨fun pins s σ H Q I h => ?_⟩
  have key : tE c (gN c n) X o σ H fun x H1 => ∃ p dx gs, x = .ref p ∧ H1 p = some (.ins (c.ca ki) dx gs) ∧ gs.lookup mn = none ∧ tA c (gN c n) X es σ H1 fun vs H2 => ∀ (s1 : Shared) (us : List Value), Inv X pins σ H2 s1 → Vals (.ref p :: vs) us → wpAny (model X.prog X.w) X.A (call (.ref fa) us) (EP X pins σ Q) X.xe s1 := by
    obtain ⟨L, Z, ρ, G, Xm, Qm, R, hL, w, tk, en⟩ := h
    simp only [wpE] at w
    refine ⟨L, Z, ρ, G, Xm, _, R, hL, w, tk, fun ro ρ1 G1 x H1 hx R1 w1 => ?_⟩
    cases ro <;> try exact w1.elim
    rename_i z
    cases z <;> try exact w1.elim
    rename_i p
    simp only at w1
    cases hg : G1 p with
    | none => rw [hg] at w1; exact w1.elim
    | some ob =>
      rw [hg] at w1
      cases ob with
      | con u => exact w1.elim
      | ins k fs =>
        obtain ⟨ek, w1⟩ := w1
        subst ek
        have R1' := R1.rep
        rw [hd_u, or2_false] at R1'
        obtain ⟨dx, gs, e1, h1, h2, rf⟩ := ins_at R1' hg
        have qx : x = .ref p := by simpa only [Val, RepU] using R1.val
        refine ⟨p, dx, gs, qx, e1, ?_, L, Z, ρ1, G1, Xm, _, R1', hL, w1, tk.go hx fun _ z => z, fun rs ρ2 G2 vs H2 hx2 R2 q2 apt nw w2 s1 us I1 hu => ?_⟩
        · have no : ∀ {fs : List (Nat × U)} {gs : List (Str × V)}, RepFs X.K H1 (Or2 (fp σ ρ1 G1) Z) c.ca.fn fs gs → (∀ q ∈ fs, c.ca.fd k q.1 = true) → gs.lookup mn = none := by
            intro fs
            induction fs with
            | nil =>
              intro gs r _
              have r' : gs = [] := r
              rw [r']; rfl
            | cons q fs ih =>
              intro gs r hq
              obtain ⟨g, y⟩ := q
              obtain ⟨v, t, e, r1, r2⟩ := r
              subst e
              rw [List.lookup_cons]
              have hne : (mn == c.ca.fn g) = false := beq_eq_false_iff_ne.mpr fun z => by
                have h3 := h1.2 _ (hq (g, y) (by simp))
                have h4 := M.at_
                rw [z] at h4
                have h5 : PySem.W.findIn X.K (.ref (c.ca k)) (c.ca.fn g) = some none := h3
                rw [h5] at h4
                cases h4
              rw [hne]
              exact ih r2 fun q hq' => hq q (List.mem_cons_of_mem _ hq')
          exact no rf h2
        · refine call_end C hh (rs := .u (.ref p) :: rs) (vs := .ref p :: vs) hb F I1 hu (by rw [hds_u]; exact R2) hL ?_ ⟨fun a z => z.elim, apt⟩ (by rw [hds_u]; exact fun q z => ⟨newback hx (nw q z).1, (nw q z).2⟩) (hx.trans hx2) tk en w2
          refine ⟨_, _, rfl, ?_, by rw [hds_u]; exact q2⟩
          show RepU _ _ _ _ _
          simp only [RepU]
  refine PySem.W.methodCall_KW (pl := pl) (thn (go.run pins s σ H _ I key) fun u s1 ⟨x, H1, I1, rx, p, dx, gs, ex, ea, l, q⟩ => ?_) ht
  subst ex
  obtain rfl : u = Value.ref p := rx
  refine getmeth_ok I1 ea cl M l ?_
  cases el with
  | nil =>
    cases es with
    | cons m ms => cases hck
    | nil =>
      obtain ⟨L, Z, ρ, G, Xm, Qm, R, hL, w, tk, en⟩ := q
      simp only [wpEs] at w
      have e : Hds [] ([] : List V) = fun _ => False := rfl
      exact PySem.W.callWith_K0 (first := [.ref p]) I1.kIn M.kp (en [] ρ G [] H1 (Ext.refl _ _) (by rw [e, or2_false]; exact R) rfl trivial (fun p z => z.elim) w s1 [.ref p] I1 (.cons rfl .nil))
  | cons e el =>
    cases es with
    | nil => cases hck
    | cons m ms =>
      simp only [ckEs, Bool.and_eq_true] at hck
      exact PySem.W.callWith_K (first := [.ref p]) (h₀ := X.base) I1.ok.mod.kin M.kp (thn (ga.run cp pins s1 σ H1 _ I1 q) fun us s2 ⟨vs, H2, I2, r, q2⟩ => ⟨I2.kIn, q2 s2 (.ref p :: us) I2 (.cons rfl r)⟩) (star_cons (ck_plain hck.1)) (cks_nostar hck.2).1
end
end Mp

/-! Mp11: built-in functions, isinstance, methods of built-in types. -/
namespace SrtH
open PySem PySem.Spec PyProof.Rows L2 PySem.W
/-! ### sorted of tuples by their firsts, that are unlike -/
def hLt : Key → Key → Bool
  | .inl a, .inl b => decide (a < b)
  | .inr a, .inr b => decide (a.cps.toList < b.cps.toList)
  | .inl _, .inr _ => true
  | .inr _, .inl _ => false
theorem hLt_swo : SrtO.Swo hLt := by
  refine ⟨fun x y h => ?_, fun x y z h1 h2 => ?_⟩
  · rcases x with x | x <;> rcases y with y | y <;> simp only [hLt, decide_eq_true_eq, decide_eq_false_iff_not] at h ⊢
    · omega
    · cases h
    · exact fun z => List.lt_irrefl _ (List.lt_trans h z)
  · rcases x with x | x <;> rcases y with y | y <;> rcases z with z | z <;> simp only [hLt, decide_eq_false_iff_not] at h1 h2 ⊢
    all_goals first | omega | (cases h1; done) | (cases h2; done) | skip
    · exact fun q => List.not_lt.mpr (List.le_trans (List.not_lt.mp h1) (List.not_lt.mp h2)) q
/-- a tuple whose first is k -/
def IsHd (h : Heap) (v : Value) (k : Key) : Prop := ∃ a o u its n, v = .ref a ∧ h.get? a = some o ∧ o.cls = .type "tuple" ∧ o.data = .seq (u :: its : List Value).toArray n ∧ RelV (kV k) u
theorem IsHd.keeps {h h' : Heap} {v : Value} {k : Key} (p : IsHd h v k) (kk : ∀ b o, h.get? b = some o → o.cls = .type "tuple" → h'.get? b = some o) : IsHd h' v k := by
  obtain ⟨a, o, u, its, n, e, ho, hc, hd, r⟩ := p
  exact ⟨a, o, u, its, n, e, kk _ _ ho hc, hc, hd, r⟩
theorem firsts {h : Heap} {k : Value → Key} : ∀ vs : List Value, (∀ v ∈ vs, IsHd h v (k v)) → ∃ fs : List Value, KatTups h vs fs ∧ fs.length = vs.length ∧ ∀ f ∈ fs, ∃ v ∈ vs, RelV (kV (k v)) f
  | [], _ => ⟨[], KatTups.nil, rfl, fun f hf => by cases hf⟩
  | v :: vs, H => by
    obtain ⟨fs, h1, h2, h3⟩ := firsts vs fun u hu => H u (List.mem_cons_of_mem _ hu)
    obtain ⟨a, o, u, its, n, e, ho, hc, hd, r⟩ := H v (by simp)
    subst e
    refine ⟨u :: fs, KatTups.cons ho hc hd rfl h1, by simp [h2], fun f hf => ?_⟩
    rcases List.mem_cons.mp hf with rfl | hf
    · exact ⟨_, by simp, r⟩
    · obtain ⟨w, hw, r'⟩ := h3 f hf
      exact ⟨w, List.mem_cons_of_mem _ hw, r'⟩
section
variable {prog : Program} {w : World} {A : Around} {E : Value → Shared → Prop} {s : Shared}
theorem lex_same {b fin : Bool} {Q : Bool → Shared → Prop} (hq : Q fin s) : ∀ (l : List Value) (i : Nat), KatLex prog w A b fin Q (l.zip l) i s
  | [], i => kat_nil hq
  | v :: l, i => kat_cons (SeqAt.EqAt.same v prog w _ _ (kat_yes (lex_same hq l (i + 1))))
theorem hd_cmp {vs : List Value} {k : Value → Key} (hp : ∀ v ∈ vs, IsHd s.heap v (k v)) (one : (∀ v ∈ vs, ∃ i, k v = .inl i) ∨ ∀ v ∈ vs, ∃ t, k v = .inr t) (inj : ∀ v ∈ vs, ∀ u ∈ vs, k v = k u → v = u) : SrtO.Cmp prog w A s (tuples' true) (fun p => p.1 ∈ vs) (SrtO.lt2 fun v u => hLt (k v) (k u)) := by
  intro p q hm hm'
  show wpAny (model prog w) A (keyLt' (tuples' true) p.1 q.1) (fun r s' => s' = s ∧ r = hLt (k p.1) (k q.1)) (fun _ _ => False) s
  have hm : p.1 ∈ vs := hm
  have hm' : q.1 ∈ vs := hm'
  generalize p.1 = v at hm
  generalize q.1 = v' at hm'
  obtain ⟨a, o, u, its, n, e, ho, hc, hd, r⟩ := hp _ hm
  obtain ⟨a', o', u', its', n', e', ho', hc', hd', r'⟩ := hp _ hm'
  by_cases hk : k v = k v'
  · have hvv := inj _ hm _ hm' hk
    rw [← hvv] at e' ⊢
    rw [e] at e'
    cases e'
    rw [ho] at ho'
    cases ho'
    rw [hd] at hd'
    injection hd' with hd1 hd2
    rw [show hLt (k v) (k v) = false from hLt_swo.refl _, e]
    refine kat_lt ho hd ho hd (lex_same ⟨rfl, ?_⟩ _ _)
    simp
  · rw [e, e']
    refine kat_lt ho hd ho' hd' ?_
    show KatLex prog w A true _ _ ((u, u') :: its.zip its') 0 s
    rcases one with one | one
    · obtain ⟨i, hi⟩ := one _ hm
      obtain ⟨j, hj⟩ := one _ hm'
      rw [hi] at r hk
      rw [hj] at r' hk
      obtain ⟨t1, rfl⟩ := r
      obtain ⟨t2, rfl⟩ := r'
      refine kat_cons (SeqAt.EqAt.int_int i t1 j t2 prog w _ _ ?_)
      have hne : (i == j) = false := by
        simp only [beq_eq_false_iff_ne, ne_eq]
        exact fun z => hk (by rw [z])
      rw [hne]
      refine kat_no ?_
      refine oneLt_int ⟨rfl, ?_⟩
      rw [← e, ← e', hi, hj]
      rfl
    · obtain ⟨i, hi⟩ := one _ hm
      obtain ⟨j, hj⟩ := one _ hm'
      rw [hi] at r hk
      rw [hj] at r' hk
      obtain ⟨t1, rfl⟩ := r
      obtain ⟨t2, rfl⟩ := r'
      refine kat_cons (SeqAt.EqAt.str_str i t1 j t2 prog w _ _ ?_)
      have hne : (i == j) = false := by
        simp only [beq_eq_false_iff_ne, ne_eq]
        exact fun z => hk (by rw [z])
      rw [hne]
      refine kat_no ?_
      refine oneLt_str ⟨rfl, ?_⟩
      rw [← e, ← e', hi, hj]
      rfl
theorem hd_sortable {a : Addr} {vs : List Value} {k : Value → Key} (h0 : 0 < vs.length) (hp : ∀ v ∈ vs, IsHd s.heap v (k v)) (one : (∀ v ∈ vs, ∃ i, k v = .inl i) ∨ ∀ v ∈ vs, ∃ t, k v = .inr t) (inj : ∀ v ∈ vs, ∀ u ∈ vs, k v = k u → v = u)
    (ha : ∀ o, s.heap.get? a = some o → o.cls ≠ .type "tuple") : SrtO.SortableO prog w A s a vs fun v u => hLt (k v) (k u) := by
  intro h' keep
  have hp' : ∀ v ∈ vs, IsHd h' v (k v) := fun v hm => (hp v hm).keeps fun b o e c => keep b o (fun z => by subst z; exact ha o e c) e
  obtain ⟨fs, h1, h2, h3⟩ := firsts vs hp'
  refine ⟨tuples' true, fun Q E hq => ?_, hd_cmp (s := { s with heap := h' }) hp' one inj⟩
  rcases one with one | one
  · refine PySem.W.kat_kind (T := .type "int") h1 (by omega) (fun f hmf => ?_) (by rfl) ?_
    · obtain ⟨v, hv, r⟩ := h3 f (by assumption)
      obtain ⟨i, hi⟩ := one v hv
      rw [hi] at r
      obtain ⟨t, rfl⟩ := r
      exact PySem.W.Looks.now
    · have e : (Value.type "int" != Value.type "tuple") = true := by first | decide +kernel | rfl | decide
      rw [e]
      exact hq
  · refine PySem.W.kat_kind (T := .type "str") h1 (by omega) (fun f hmf => ?_) (by rfl) ?_
    · obtain ⟨v, hv, r⟩ := h3 f (by assumption)
      obtain ⟨i, hi⟩ := one v hv
      rw [hi] at r
      obtain ⟨t, rfl⟩ := r
      exact PySem.W.Looks.now
    · have e : (Value.type "str" != Value.type "tuple") = true := by first | decide +kernel | rfl | decide
      rw [e]
      exact hq
end
/-- sorted(xs) of tuples with unlike firsts -/
def rSortedH (K : PySem.W.Frag) : List V → Hp → VK → Prop := fun vs H Q => ∃ (a : Addr) (xs : List V) (hs : List Key), vs = [V.ref a] ∧ SqL K H a xs ∧ hs.length = xs.length ∧ (∀ p ∈ xs.zip hs, ∃ t r, p.1 = V.ref t ∧ SqT K H t (kV p.2 :: r)) ∧
  ((∀ k ∈ hs, ∃ i, k = .inl i) ∨ ∀ k ∈ hs, ∃ t, k = .inr t) ∧ hs.Nodup ∧
  ∀ (zs : List (V × Key)) p, zs.Perm (xs.zip hs) → zs.Pairwise (fun x y => hLt y.2 x.2 = false) → H p = none → Q (.ref p) (upd H p (.lst (zs.map (·.1))))
theorem zip_inj {α β : Type} : ∀ {xs : List α} {hs : List β}, hs.Nodup → ∀ {x y : α} {k : β}, (x, k) ∈ xs.zip hs → (y, k) ∈ xs.zip hs → x = y
  | [], _, _, _, _, _, h, _ => by simp at h
  | _ :: _, [], _, _, _, _, h, _ => by simp at h
  | a :: xs, b :: hs, nd, x, y, k, h1, h2 => by
    obtain ⟨n1, n2⟩ := List.nodup_cons.mp nd
    simp only [List.zip_cons_cons, List.mem_cons, Prod.mk.injEq] at h1 h2
    rcases h1 with ⟨rfl, rfl⟩ | h1 <;> rcases h2 with ⟨rfl, h2⟩ | h2
    · rfl
    · exact absurd (List.of_mem_zip h2).2 n1
    · subst h2; exact absurd (List.of_mem_zip h1).2 n1
    · exact zip_inj n2 h1 h2
section
variable {X : Cx}
theorem cr_sortedH : CallR X (.builtin "sorted") (rSortedH X.K) := by
  intro pins s σ H vs us Q I r h
  obtain ⟨a, xs, hs, rfl, hsq, hlen, hx, one, nd, q⟩ := h
  obtain ⟨its, rv, hl, hz⟩ := I.list hsq
  obtain ⟨u, rfl, ru⟩ := vals1 r
  obtain rfl : u = Value.ref a := ru
  have mem : ∀ x ∈ xs, ∃ k, (x, k) ∈ xs.zip hs := fun x hm => by
    obtain ⟨i, hi, e⟩ := List.mem_iff_getElem.mp hm
    refine ⟨hs[i]'(by omega), ?_⟩
    rw [← e]
    exact List.mem_iff_getElem.mpr ⟨i, by rw [List.length_zip]; omega, by rw [List.getElem_zip]⟩
  obtain ⟨k, hk⟩ : ∃ k : V → Key, ∀ x ∈ xs, (x, k x) ∈ xs.zip hs := by
    have hh : ∀ x, ∃ k, x ∈ xs → (x, k) ∈ xs.zip hs := fun x => (Classical.em (x ∈ xs)).elim (fun hm => (mem x hm).imp fun k h _ => h) fun hm => ⟨.inl 0, fun z => absurd z hm⟩
    exact ⟨fun x => Classical.choose (hh x), fun x hm => Classical.choose_spec (hh x) hm⟩
  have only : ∀ x k', (x, k') ∈ xs.zip hs → k' = k x := fun x k' h => by
    obtain ⟨t, r1, e, h1⟩ := hx _ h
    obtain ⟨t', r2, e', h2⟩ := hx _ (hk x (List.of_mem_zip h).1)
    have e : x = .ref t := e
    have e' : x = .ref t' := e'
    rw [e] at e'
    cases e'
    have := I.tuple_inj h1 h2
    have e3 := (List.cons.inj this).1
    have e3 : kV k' = kV (k x) := e3
    cases hk1 : k' <;> cases hk2 : k x <;> rw [hk1, hk2] at e3 <;> cases e3 <;> rfl
  have ezip : xs.zip hs = xs.map fun x => (x, k x) := by
    have e1 : (xs.zip hs).map (·.1) = xs := List.map_fst_zip (by omega)
    have e2 : (xs.zip hs).map (fun p => (p.1, k p.1)) = xs.zip hs := by
      conv => rhs; rw [← List.map_id (xs.zip hs)]
      refine List.map_congr_left fun p hp => ?_
      obtain ⟨x, k'⟩ := p
      show (x, k x) = (x, k')
      rw [only x k' hp]
    rw [← e2]
    conv => rhs; rw [← e1]
    rw [List.map_map]
    rfl
  have inj : ∀ x ∈ xs, ∀ y ∈ xs, k x = k y → x = y := fun x hm y hm' e => by
    have h1 := hk x hm
    have h2 := hk y hm'
    rw [← e] at h2
    exact zip_inj nd h1 h2
  have one : (∀ x ∈ xs, ∃ i, k x = .inl i) ∨ ∀ x ∈ xs, ∃ t, k x = .inr t := by
    rcases one with one | one
    · exact .inl fun x hm => one _ (List.of_mem_zip (hk x hm)).2
    · exact .inr fun x hm => one _ (List.of_mem_zip (hk x hm)).2
  obtain ⟨e1, e2⟩ := refs_back rv fun x m => by
    obtain ⟨t, _, e, _⟩ := hx _ (hk x m)
    exact ⟨t, e⟩
  have bm : ∀ v ∈ its, backV v ∈ xs := fun v hv => by rw [e1]; exact List.mem_map.mpr ⟨_, hv, rfl⟩
  have hd : ∀ v ∈ its, IsHd s.heap v (k (backV v)) := fun v hv => by
    obtain ⟨t, rfl⟩ := e2 v hv
    obtain ⟨t', r, e, ht⟩ := hx _ (hk _ (bm _ hv))
    cases e
    obtain ⟨its2, r2, ⟨o, ho, hc, n, hdd⟩, _⟩ := I.tuple ht
    obtain ⟨u1, us, rfl, r3, _⟩ : ∃ u1 us, its2 = u1 :: us ∧ RelV (kV (k (backV (.ref t)))) u1 ∧ Vals r us := by
      cases r2 with
      | cons h1 h2 => exact ⟨_, _, rfl, h1, h2⟩
    exact ⟨t, o, u1, us, n, rfl, ho, hc, hdd, r3⟩
  refine SrtO.sorted_ord (s := s) (ltv := fun v u => hLt (k (backV v)) (k (backV u))) ⟨fun x y => hLt_swo.asym _ _, fun x y z => hLt_swo.tr _ _ _⟩ hl.isList (by rw [← rv.length]; exact hz) (fun h2 h₁ b hb kk => ?_) fun out h1 h2 => ?_
  · refine hd_sortable (s := { s with heap := h₁ }) (by omega) (fun v hm => (hd v hm).keeps fun b o e _ => (kk b o e).2) ?_ ?_ fun o e => ?_
    · rcases one with one | one
      · exact .inl fun v hv => one _ (bm v hv)
      · exact .inr fun v hv => one _ (bm v hv)
    · intro v hv u hu e
      have := inj _ (bm v hv) _ (bm u hu) e
      obtain ⟨t, rfl⟩ := e2 v hv
      obtain ⟨t', rfl⟩ := e2 u hu
      cases this
      rfl
    · have e' := e.symm.trans hb
      cases e'
      intro c
      exact absurd (Value.type.inj c) (by decide)
  · have h3 : ∀ u ∈ out, ∃ a, u = Value.ref a := fun u hu => e2 u (h2.perm.mem_iff.mp hu)
    obtain ⟨n, hn⟩ := PyProof.Rows.sortedAll_at s.heap its out.toArray
    have hp : (out.map backV).Perm xs := by
      rw [e1]
      exact h2.perm.map backV
    have hq := q ((out.map backV).map fun x => (x, k x)) (s.heap.objs.size + 1) (by rw [ezip]; exact hp.map _) (List.pairwise_map.mpr (List.pairwise_map.mpr h1)) (I.hok.fresh (Nat.le_succ _))
    rw [List.map_map, show ((fun p : V × Key => p.1) ∘ fun x => (x, k x)) = id from rfl, List.map_id] at hq
    refine ⟨.ref (s.heap.objs.size + 1), upd H (s.heap.objs.size + 1) (.lst (out.map backV)), I.laid (t' := s.toks) (fun b o e => PyProof.Rows.sortedAll_old e) (Nat.le_succ _) ⟨?_, out, n, vals_back h3, hn⟩, rfl, hq⟩
    rw [hp.length_eq]
    exact hz
end
/-! the small side -/
theorem perm_map_ex {α β : Type} {f : α → β} {zs ys : List β} (h : zs.Perm ys) : ∀ {ws : List α}, ys = ws.map f → ∃ ws' : List α, ws'.Perm ws ∧ ws'.map f = zs := by
  induction h with
  | nil => intro ws e; cases ws with
    | nil => exact ⟨[], .refl _, rfl⟩
    | cons _ _ => cases e
  | cons x _ ih => intro ws e; cases ws with
    | nil => cases e
    | cons w ws =>
      simp only [List.map_cons, List.cons.injEq] at e
      obtain ⟨ws', h1, h2⟩ := ih e.2
      exact ⟨w :: ws', h1.cons w, by simp [h2, e.1]⟩
  | swap x y l => intro ws e; match ws, e with
    | a :: b :: ws, e =>
      simp only [List.map_cons, List.cons.injEq] at e
      exact ⟨b :: a :: ws, .swap _ _ _, by simp [e.1, e.2.1, e.2.2]⟩
  | trans _ _ ih1 ih2 =>
    intro ws e
    obtain ⟨w2, h1, h2⟩ := ih2 e
    obtain ⟨w3, h3, h4⟩ := ih1 h2.symm
    exact ⟨w3, h3.trans h1, h4⟩
end SrtH
namespace Mp
open PySem PySem.Spec PyProof.Rows L2

/-! ### the first place of a sign -/
section
open Builtin Builtin.Str StrLaws
theorem occ_done (s sub : Str) (hi : Nat) : ∀ (l : List Nat) (st : Array Nat × Nat), st.fst.size = 1 → (forIn l st (occBody s sub hi 1)).run.fst = st.fst
  | [], st, h => rfl
  | a :: l, st, h => by
    rw [List.forIn_cons]
    unfold occBody
    rw [if_neg (by intro z; have := z.1.1.1; omega)]
    exact occ_done s sub hi l (st.fst, st.snd) h
theorem occ_first (s sub : Str) (hi : Nat) : ∀ (l : List Nat) (free : Nat), (∀ i ∈ l, free ≤ i) →
    (forIn l ((#[] : Array Nat), free) (occBody s sub hi 1)).run.fst = match l.find? (fun i => decide (i + sub.length ≤ hi ∧ subAt s sub i = true)) with
      | some i => #[i]
      | none => #[]
  | [], _, _ => rfl
  | a :: l, free, hf => by
    rw [List.forIn_cons, List.find?_cons]
    have ha : free ≤ a := hf a (List.mem_cons_self ..)
    by_cases hc : a + sub.length ≤ hi ∧ subAt s sub a = true
    · rw [decide_eq_true hc]
      unfold occBody
      rw [if_pos ⟨⟨⟨by simp, ha⟩, hc.1⟩, hc.2⟩]
      exact occ_done s sub hi l _ rfl
    · rw [decide_eq_false hc]
      unfold occBody
      rw [if_neg (fun h => hc ⟨h.1.2, h.2⟩)]
      exact occ_first s sub hi l free (fun i hi' => hf i (List.mem_cons_of_mem _ hi'))
theorem find_range {p : Nat → Bool} {k : Nat} : ∀ (m a : Nat), a ≤ k → k < a + m → p k = true → (∀ j, a ≤ j → j < k → p j = false) → (List.range' a m).find? p = some k
  | 0, a, h1, h2, _, _ => by omega
  | m + 1, a, h1, h2, h3, h4 => by
    rw [List.range'_succ, List.find?_cons]
    by_cases e : a = k
    · subst e
      rw [h3]
    · rw [h4 a (Nat.le_refl _) (by omega)]
      exact find_range m (a + 1) (by omega) (by omega) h3 fun j hj => h4 j (by omega)
theorem idxOfS_get {c : Nat} : ∀ {s : List Nat} {n k : Nat}, idxOfS c s n = some k → n ≤ k ∧ s[k - n]? = some c ∧ ∀ j, n ≤ j → j < k → s[j - n]? ≠ some c
  | [], n, k, h => by simp [idxOfS] at h
  | x :: s, n, k, h => by
    unfold idxOfS at h
    split at h
    · rename_i e
      cases h
      exact ⟨Nat.le_refl _, by simp [e], fun j h1 h2 => by omega⟩
    · rename_i e
      obtain ⟨h1, h2, h3⟩ := idxOfS_get h
      refine ⟨by omega, ?_, fun j hj1 hj2 => ?_⟩
      · rw [show k - n = (k - (n + 1)) + 1 by omega, List.getElem?_cons_succ]
        exact h2
      · by_cases ej : j = n
        · subst ej
          simp
          exact e
        · rw [show j - n = (j - (n + 1)) + 1 by omega, List.getElem?_cons_succ]
          exact h3 j (by omega) hj2
theorem index0_one {s : List Nat} {c k : Nat} (h : idxOfS c s 0 = some k) : Txt.index0 ⟨s.toArray⟩ ⟨#[c]⟩ = some k := by
  obtain ⟨_, h1, h2⟩ := idxOfS_get h
  unfold Txt.index0
  rw [occ_eq, occ_first _ _ _ _ _ (fun _ _ => Nat.zero_le _)]
  obtain ⟨hl, _⟩ := List.getElem?_eq_some_iff.mp h1
  have hlen : (⟨s.toArray⟩ : Str).length = s.length := rfl
  rw [find_range (k := k) _ 0 (Nat.zero_le _) (by rw [hlen]; simp at hl; omega)]
  · rfl
  · exact decide_eq_true ((subAt_one ⟨s.toArray⟩ c k).mpr (by simpa using h1))
  · intro j _ hj
    refine decide_eq_false fun z => ?_
    have := (subAt_one ⟨s.toArray⟩ c j).mp z
    exact h2 j (Nat.zero_le _) hj (by simpa using this)
end

section
variable {c : Cx0} {n : Nat} {X : Cx} {K : Ck} {L Z Z' : Addr → Prop} {σ : L2.St} {H H1 H2 : Hp} {ρ ρ1 ρ2 : Rho} {G G1 G2 : Hh} {f ex : Addr → Prop} {x y v : V} {u w : U} {Qm : Kc} {Q : VK} {a b d : E} {e1 e2 e3 : Expr} {pos p2 : Pos} {r : R} {ca : Cs} {Γ : Cal}
/-- the end with a new tuple -/
theorem EndE.newTup {us : List U} {vs : List V} {p : Addr} (h : EndE c X L Z σ H f Qm Q) (R : Rep c.ca X.K L Z' σ H2 ρ2 G2) (hz : ∀ a, Z a → Z' a) (hx : Ext H f H2 (fp σ ρ2 G2)) (hp : H2 p = none) (q : RepUs X.K H2 (Or2 (fp σ ρ2 G2) Z') us vs) (k : Qm (.u (.tup us)) ρ2 G2) : Q (.ref p) (upd H2 p (.tup vs)) := by
  have hk : ∀ a o, H2 a = some o → upd H2 p (.tup vs) a = some o := fun a o e => by
    rw [upd_ne (ne_of_none e hp)]; exact e
  have np : ¬ Or2 (fp σ ρ2 G2) Z' p := fun z => by
    rcases z with z | z
    · obtain ⟨o, e, _⟩ := R.mut z
      rw [hp] at e; cases e
    · obtain ⟨_, o, e⟩ := R.zd _ z
      rw [hp] at e; cases e
  refine h.ofU (R.heapExt hk) hz (fun a o e n => ⟨hk a o (hx a o e n).1, (hx a o e n).2⟩) (u := .tup us) ?_ k
  simp only [RepU]
  exact ⟨p, vs, rfl, .inl ⟨.inl upd_same, np⟩, RepUs.ext (fun a o e n => ⟨hk a o e, n⟩) _ q⟩
theorem allInt_out {ex : Addr → Prop} : ∀ {xs : List U} {ns : List Int} {vs : List V}, allInt xs = some ns → RepUs X.K H ex xs vs → vs = ns.map V.int
  | [], ns, vs, e, q => by
    simp [allInt] at e
    simp only [RepUs] at q
    rw [e, q]; rfl
  | x :: xs, ns, vs, e, q => by
    cases x <;> simp only [allInt] at e <;> try (cases e)
    simp only [RepUs] at q
    obtain ⟨v, t, e1, q1, q2⟩ := q
    cases ei : allInt xs with
    | none => rw [ei] at e; cases e
    | some ms =>
      rw [ei] at e
      cases e
      simp only [RepU] at q1
      rw [e1, q1, allInt_out ei q2]
      rfl
theorem allBl_out {ex : Addr → Prop} : ∀ {xs : List U} {ns : List Bool} {vs : List V}, allBl xs = some ns → RepUs X.K H ex xs vs → vs = ns.map V.bl
  | [], ns, vs, e, q => by
    simp [allBl] at e
    simp only [RepUs] at q
    rw [e, q]; rfl
  | x :: xs, ns, vs, e, q => by
    cases x <;> simp only [allBl] at e <;> try (cases e)
    simp only [RepUs] at q
    obtain ⟨v, t, e1, q1, q2⟩ := q
    cases ei : allBl xs with
    | none => rw [ei] at e; cases e
    | some ms =>
      rw [ei] at e
      cases e
      simp only [RepU] at q1
      rw [e1, q1, allBl_out ei q2]
      rfl
theorem allStr_out {ex : Addr → Prop} : ∀ {xs : List U} {ns : List (List Nat)} {vs : List V}, allStr xs = some ns → RepUs X.K H ex xs vs → vs = (ns.map strS).map V.str ∧ ∀ s ∈ ns, GoodS s
  | [], ns, vs, e, q => by
    simp [allStr] at e
    simp only [RepUs] at q
    rw [e, q]; exact ⟨rfl, fun _ h => by simp at h⟩
  | x :: xs, ns, vs, e, q => by
    cases x <;> simp only [allStr] at e <;> try (cases e)
    simp only [RepUs] at q
    obtain ⟨v, t, e1, q1, q2⟩ := q
    cases ei : allStr xs with
    | none => rw [ei] at e; cases e
    | some ms =>
      rw [ei] at e
      cases e
      simp only [RepU] at q1
      obtain ⟨h1, h2⟩ := allStr_out ei q2
      rw [e1, q1.1, h1]
      exact ⟨rfl, fun s hs => (List.mem_cons.mp hs).elim (fun z => by rw [z]; exact q1.2) (h2 s)⟩

/-! ### sorting -/
theorem insI_perm (x : Int) : ∀ ys : List Int, (insertI x ys).Perm (x :: ys)
  | [] => .refl _
  | y :: ys => by
    unfold insertI
    split
    · exact .refl _
    · exact ((insI_perm x ys).cons y).trans (.swap x y ys)
theorem sortI_perm : ∀ xs : List Int, (sortI xs).Perm xs
  | [] => .refl _
  | x :: xs => (insI_perm x _).trans ((sortI_perm xs).cons x)
theorem insI_rises (x : Int) : ∀ ys : List Int, ys.Pairwise (· ≤ ·) → (insertI x ys).Pairwise (· ≤ ·)
  | [], _ => by simp [insertI]
  | y :: ys, h => by
    rw [List.pairwise_cons] at h
    unfold insertI
    split
    · rename_i hxy
      rw [List.pairwise_cons]
      exact ⟨fun z hz => (List.mem_cons.mp hz).elim (fun e => by rw [e]; exact hxy) fun hz => Int.le_trans hxy (h.1 z hz), by rw [List.pairwise_cons]; exact h⟩
    · rename_i hxy
      rw [List.pairwise_cons]
      refine ⟨fun z hz => ?_, insI_rises x ys h.2⟩
      rcases List.mem_cons.mp ((insI_perm x ys).mem_iff.mp hz) with e | hz
      · rw [e]; omega
      · exact h.1 z hz
theorem sortI_rises : ∀ xs : List Int, (sortI xs).Pairwise (· ≤ ·)
  | [] => .nil
  | x :: xs => insI_rises x _ (sortI_rises xs)
theorem sortI_only {ns ms : List Int} (hp : ns.Perm ms) (hs : ns.Pairwise (· ≤ ·)) : ns = sortI ms :=
  List.Perm.eq_of_pairwise (fun _ _ _ _ a b => Int.le_antisymm a b) hs (sortI_rises ms) (hp.trans (sortI_perm ms).symm)
theorem insS_perm (x : List Nat) : ∀ ys : List (List Nat), (insertS x ys).Perm (x :: ys)
  | [] => .refl _
  | y :: ys => by
    unfold insertS
    split
    · exact .refl _
    · exact ((insS_perm x ys).cons y).trans (.swap x y ys)
theorem sortS_perm : ∀ xs : List (List Nat), (sortS xs).Perm xs
  | [] => .refl _
  | x :: xs => (insS_perm x _).trans ((sortS_perm xs).cons x)
theorem insS_rises (x : List Nat) : ∀ ys : List (List Nat), ys.Pairwise (· ≤ ·) → (insertS x ys).Pairwise (· ≤ ·)
  | [], _ => by simp [insertS]
  | y :: ys, h => by
    rw [List.pairwise_cons] at h
    unfold insertS
    split
    · rename_i hxy
      rw [List.pairwise_cons]
      exact ⟨fun z hz => (List.mem_cons.mp hz).elim (fun e => by rw [e]; exact hxy) fun hz => List.le_trans hxy (h.1 z hz), by rw [List.pairwise_cons]; exact h⟩
    · rename_i hxy
      rw [List.pairwise_cons]
      refine ⟨fun z hz => ?_, insS_rises x ys h.2⟩
      rcases List.mem_cons.mp ((insS_perm x ys).mem_iff.mp hz) with e | hz
      · rw [e]; exact (List.le_total x y).resolve_left hxy
      · exact h.1 z hz
theorem sortS_rises : ∀ xs : List (List Nat), (sortS xs).Pairwise (· ≤ ·)
  | [] => .nil
  | x :: xs => insS_rises x _ (sortS_rises xs)
theorem risingS_pw : ∀ (ys : List Str) (p : Str), risingS p ys = true → (p :: ys).Pairwise fun a b => a.cps.toList ≤ b.cps.toList
  | [], p, _ => by simp
  | y :: ys, p, h => by
    simp only [risingS, Bool.and_eq_true, Bool.not_eq_true', ltCps_eq, decide_eq_false_iff_not] at h
    have ih := risingS_pw ys y h.2
    rw [List.pairwise_cons]
    refine ⟨fun z hz => ?_, ih⟩
    rcases List.mem_cons.mp hz with e | hz
    · rw [e]; exact h.1
    · exact List.le_trans (show p.cps.toList ≤ y.cps.toList from h.1) ((List.pairwise_cons.mp ih).1 z hz)
theorem sortedS_pw {ys : List Str} (h : sortedS ys = true) : ys.Pairwise fun a b => a.cps.toList ≤ b.cps.toList := by
  cases ys with
  | nil => exact .nil
  | cons y ys => exact risingS_pw ys y h
theorem strS_list (s : List Nat) : (strS s).cps.toList = s := by simp [strS]
theorem sortS_only {ss : List (List Nat)} {ys : List Str} (hp : ys.Perm (ss.map strS)) (hs : sortedS ys = true) : ys = (sortS ss).map strS := by
  have h1 : (ys.map fun y => y.cps.toList).Perm ss := by
    have := hp.map fun y : Str => y.cps.toList
    rw [List.map_map] at this
    rwa [show ((fun y : Str => y.cps.toList) ∘ strS) = id from funext fun s => strS_list s, List.map_id] at this
  have h2 : (ys.map fun y => y.cps.toList).Pairwise (· ≤ ·) := List.pairwise_map.mpr (sortedS_pw hs)
  have h3 : (ys.map fun y => y.cps.toList) = sortS ss := List.Perm.eq_of_pairwise (fun _ _ _ _ a b => List.le_antisymm a b) h2 (sortS_rises ss) (h1.trans (sortS_perm ss).symm)
  rw [← h3, List.map_map]
  conv => lhs; rw [← List.map_id ys]
  refine List.map_congr_left fun y _ => ?_
  obtain ⟨⟨y⟩⟩ := y
  rfl
theorem keys_ints : ∀ {kvs : List (Key × V)} {ns : List Int}, allInt (kvs.map fun p => kKey p.1) = some ns → kvs.map (·.1) = ns.map Sum.inl
  | [], ns, h => by cases h; rfl
  | (.inl i, v) :: kvs, ns, h => by
    have h : (allInt (kvs.map fun p => kKey p.1)).map (i :: ·) = some ns := h
    cases e : allInt (kvs.map fun p => kKey p.1) with
    | none => rw [e] at h; cases h
    | some ms => rw [e] at h; cases h; simp [keys_ints e]
  | (.inr s, v) :: kvs, ns, h => by simp [kKey, allInt] at h
theorem keys_strs : ∀ {kvs : List (Key × V)} {ss : List (List Nat)}, allStr (kvs.map fun p => kKey p.1) = some ss → kvs.map (·.1) = (ss.map strS).map Sum.inr
  | [], ns, h => by cases h; rfl
  | (.inr s, v) :: kvs, ns, h => by
    have h : (allStr (kvs.map fun p => kKey p.1)).map (s.cps.toList :: ·) = some ns := h
    cases e : allStr (kvs.map fun p => kKey p.1) with
    | none => rw [e] at h; cases h
    | some ms =>
      rw [e] at h
      cases h
      simp only [List.map_cons, keys_strs e]
      congr 1
  | (.inl i, v) :: kvs, ns, h => by simp [kKey, allStr] at h
theorem repUs_ints' {Hx : Hp} {ex : Addr → Prop} {Kf : PySem.W.Frag} : ∀ ns : List Int, RepUs Kf Hx ex (ns.map U.int) (ns.map V.int)
  | [] => by simp [RepUs]
  | k :: ns => by
    simp only [List.map_cons, RepUs]
    exact ⟨_, _, rfl, by simp only [RepU], repUs_ints' ns⟩
theorem repUs_strs' {Hx : Hp} {ex : Addr → Prop} {Kf : PySem.W.Frag} : ∀ ss : List (List Nat), (∀ s ∈ ss, GoodS s) → RepUs Kf Hx ex (ss.map U.str) ((ss.map strS).map V.str)
  | [], _ => by simp [RepUs]
  | s :: ss, h => by
    simp only [List.map_cons, RepUs]
    exact ⟨_, _, rfl, by simp only [RepU]; exact ⟨rfl, h s (by simp)⟩, repUs_strs' ss fun t ht => h t (by simp [ht])⟩
theorem repUs_keys {Hx : Hp} {ex : Addr → Prop} {Kf : PySem.W.Frag} : ∀ {kvs : List (Key × V)}, (∀ s, U.str s ∈ kvs.map (fun p => kKey p.1) → GoodS s) → RepUs Kf Hx ex (kvs.map fun p => kKey p.1) (kvs.map fun kv => kV kv.1)
  | [], _ => by simp [RepUs]
  | (.inl i, v) :: kvs, h => by
    simp only [List.map_cons, RepUs]
    exact ⟨_, _, rfl, by simp only [kKey, kV, RepU], repUs_keys fun s hs => h s (List.mem_cons_of_mem _ hs)⟩
  | (.inr s, v) :: kvs, h => by
    simp only [List.map_cons, RepUs]
    refine ⟨_, _, rfl, ?_, repUs_keys fun s hs => h s (List.mem_cons_of_mem _ hs)⟩
    simp only [kKey, kV, RepU]
    refine ⟨trivial, h _ ?_⟩
    simp [kKey]

/-! ### built-in functions -/
def Bf.val : Bf → Value
  | .rev => .type "reversed" | .lset => .type "set" | .int => .type "int" | .str => .type "str" | .list => .type "list" | .tuple => .type "tuple" | .dict => .type "dict"
  | b => .builtin b.name
def rBf (K : PySem.W.Frag) : Bf → List V → Hp → VK → Prop
  | .len => fun xs H Q => (∃ x n, xs = [x] ∧ LenV K x H n ∧ Q (.int n) H) ∨ ∃ a kvs, xs = [V.ref a] ∧ Rd H a (.dK kvs) ∧ Q (.int kvs.length) H
  | .int => fun xs H Q => (∃ i, xs = [.int i] ∧ Q (.int i) H) ∨ ∃ k, xs = [.bl k] ∧ Q (.int (if k then 1 else 0)) H
  | .list => fun xs H Q => (∃ p ys, xs = [.ref p] ∧ (SqL K H p ys ∨ SqT K H p ys) ∧ ∀ l, H l = none → Q (.ref l) (upd H l (.lst ys))) ∨
      ∃ (a : Addr) (kvs : List (Key × V)), xs = [.ref a] ∧ Rd H a (.dK kvs) ∧ ∀ p, H p = none → Q (.ref p) (upd H p (.lst (kvs.map fun kv => kV kv.1)))
  | .tuple => fun xs H Q => ∃ p ys, xs = [.ref p] ∧ ((SqL K H p ys ∧ ∀ l, H l = none → Q (.ref l) (upd H l (.tup ys))) ∨ (SqT K H p ys ∧ Q (.ref p) H))
  | .abs => fun xs H Q => ∃ i, xs = [.int i] ∧ Q (.int (if i < 0 then -i else i)) H
  | .sum => rSum K
  | .all => rAll K
  | .max => fun xs H Q => (∃ i j, xs = [.int i, .int j] ∧ Q (.int (if j > i then j else i)) H) ∨ rMax K xs H Q
  | .min => fun xs H Q => (∃ i j, xs = [.int i, .int j] ∧ Q (.int (if j < i then j else i)) H) ∨ rMin K xs H Q
  | .dict => fun xs H Q => ∃ (a : Addr) (kvs : List (Key × V)), xs = [.ref a] ∧ Rd H a (.dK kvs) ∧ ∀ p, H p = none → Q (.ref p) (upd H p (.dK kvs))
  | .str => fun xs H Q => ∃ i, xs = [.int i] ∧ i.natAbs.log2 < 1920 ∧ Q (.str (toString i)) H
  | .sorted => fun xs H Q => ((rSortedI K xs H Q ∨ rSortedS K xs H Q) ∨ (∃ (a : Addr) (kvs : List (Key × V)) (ks : List Int), xs = [.ref a] ∧ Rd H a (.dK kvs) ∧ kvs.map (·.1) = ks.map Sum.inl ∧ ks.length < 64 ∧
      ∀ (ys : List Int) (p : Addr), ys.Perm ks → ys.Pairwise (· ≤ ·) → H p = none → Q (.ref p) (upd H p (.lst (ys.map V.int)))) ∨
      ∃ (a : Addr) (kvs : List (Key × V)) (ks : List Str), xs = [.ref a] ∧ Rd H a (.dK kvs) ∧ kvs.map (·.1) = ks.map Sum.inr ∧ ks.length < 64 ∧
        ∀ ys p, ys.Perm ks → sortedS ys = true → H p = none → Q (.ref p) (upd H p (.lst (ys.map V.str)))) ∨ SrtH.rSortedH K xs H Q
  | _ => fun _ _ _ => False
theorem call_lenR : CallR X (.builtin "len") (fun xs H Q => ∃ a kvs, xs = [V.ref a] ∧ Rd H a (.dK kvs) ∧ Q (.int kvs.length) H) := by
  intro pins s σ H xs us Q I r h
  obtain ⟨a, kvs, rfl, ha, q⟩ := h
  obtain ⟨u, rfl, ru⟩ := vals1 r
  cases ru
  exact d_len I ha fun t s' I' => ⟨.int kvs.length, H, I', ⟨t, rfl⟩, q⟩
theorem cr_bf (hc : X.calm = true) : ∀ b : Bf, CallR X b.val (rBf X.K b)
  | .len => call_len.or call_lenR
  | .int => call_int1
  | .list => CallR.or call_list_of (call_listD hc)
  | .tuple => call_tuple_of
  | .abs => call_abs
  | .sum => cr_sum hc
  | .all => cr_all hc
  | .max => CallR.or (call_max2 hc) (cr_max hc)
  | .min => CallR.or (call_min2 hc) (cr_min hc)
  | .dict => call_dictD
  | .str => call_str_int
  | .rev => fun _ _ _ _ _ _ _ _ _ h => h.elim
  | .lset => fun _ _ _ _ _ _ _ _ _ h => h.elim
  | .any => fun _ _ _ _ _ _ _ _ _ h => h.elim
  | .sorted => CallR.or (CallR.or (CallR.or cr_sortedI cr_sortedS) (CallR.or (call_sortedDI hc) (call_sortedD hc))) SrtH.cr_sortedH
theorem boot_bf : ∀ b : Bf, bootBuiltins (Str.ofString b.name) = some b.val := by
  intro b
  cases b <;> decide +kernel
theorem goodU_out {s : List Nat} (h : goodU (.str s) = true) : GoodS s := by
  simp only [goodU, Bool.and_eq_true, decide_eq_true_eq, List.all_eq_true] at h
  exact h
theorem allStr_mem : ∀ {xs : List U} {ss : List (List Nat)} {s : List Nat}, allStr xs = some ss → s ∈ ss → U.str s ∈ xs
  | [], ss, s, e, h => by cases e; cases h
  | x :: xs, ss, s, e, h => by
    cases x <;> simp only [allStr] at e <;> try (cases e)
    cases ei : allStr xs with
    | none => rw [ei] at e; cases e
    | some ms =>
      rw [ei] at e
      cases e
      rcases List.mem_cons.mp h with z | z
      · rw [z]; simp
      · exact List.mem_cons_of_mem _ (allStr_mem ei z)
theorem sortU_out {xs : List U} {K : Mp.R → Prop} (h : sortU xs K) : (∃ ns, allInt xs = some ns ∧ K (.tmp (.lst ((sortI ns).map U.int)))) ∨ (∃ ss, allStr xs = some ss ∧ ss.length < 64 ∧ K (.tmp (.lst ((sortS ss).map U.str)))) ∨ allInt xs = none ∧ ((∃ hs, headsI xs = some hs ∧ hs.Nodup) ∨ ∃ hs, headsS xs = some hs ∧ hs.Nodup) ∧ K (.tmp (.lst (sortH xs))) := by
  unfold sortU at h
  split at h
  · rename_i ns e; exact .inl ⟨ns, e, h⟩
  · rename_i e0
    split at h
    · rename_i ss e; exact .inr (.inl ⟨ss, e, h.1, h.2⟩)
    · split at h
      · rename_i hs e; exact .inr (.inr ⟨e0, .inl ⟨hs, e, h.1⟩, h.2⟩)
      · split at h
        · rename_i hs e; exact .inr (.inr ⟨e0, .inr ⟨hs, e, h.1⟩, h.2⟩)
        · exact h.elim
/-! ### tuples by their firsts -/
theorem insH_perm (x : U) : ∀ ys : List U, (insertH x ys).Perm (x :: ys)
  | [] => .refl _
  | y :: ys => by
    unfold insertH
    split
    · exact .refl _
    · exact ((insH_perm x ys).cons y).trans (.swap x y ys)
theorem sortH_perm : ∀ xs : List U, (sortH xs).Perm xs
  | [] => .refl _
  | x :: xs => (insH_perm x _).trans ((sortH_perm xs).cons x)
/-- the first of a tuple -/
def hdK : U → Option Key
  | .tup (.int i :: _) => some (.inl i)
  | .tup (.str s :: _) => some (.inr (strS s))
  | _ => none
theorem strS_list' (s : List Nat) : (strS s).cps.toList = s := by simp [strS]
theorem hLe_hd {x y : U} {a b : Key} (hx : hdK x = some a) (hy : hdK y = some b) (one : (∃ i j, a = .inl i ∧ b = .inl j) ∨ ∃ s t, a = .inr s ∧ b = .inr t) : hLe x y = !SrtH.hLt b a := by
  unfold hdK at hx hy
  split at hx
  · cases hx
    split at hy
    · cases hy
      simp only [hLe, SrtH.hLt]
      rw [← decide_not]
      exact decide_eq_decide.mpr (by omega)
    · cases hy
      rcases one with ⟨i, j, _, e⟩ | ⟨s, t, e, _⟩ <;> cases e
    · cases hy
  · cases hx
    split at hy
    · cases hy
      rcases one with ⟨i, j, e, _⟩ | ⟨s, t, _, e⟩ <;> cases e
    · cases hy
      simp only [hLe, SrtH.hLt, strS_list']
      rw [← decide_not]
      exact decide_eq_decide.mpr (by rw [List.not_lt])
    · cases hy
  · cases hx
theorem hLt_tot (a b : Key) (h1 : SrtH.hLt a b = false) (h2 : SrtH.hLt b a = false) : a = b := by
  rcases a with a | a <;> rcases b with b | b <;> simp only [SrtH.hLt, decide_eq_false_iff_not] at h1 h2
  · congr 1; omega
  · cases h1
  · cases h2
  · have := List.le_antisymm (List.not_lt.mp h2) (List.not_lt.mp h1)
    obtain ⟨⟨a⟩⟩ := a
    obtain ⟨⟨b⟩⟩ := b
    simp only at this
    rw [this]
theorem insH_rises {P : U → Prop} (tot : ∀ x y, P x → P y → hLe x y = true ∨ hLe y x = true) (tr : ∀ x y z, P x → P y → P z → hLe x y = true → hLe y z = true → hLe x z = true) (x : U) (hx : P x) : ∀ ys : List U, (∀ y ∈ ys, P y) → ys.Pairwise (fun a b => hLe a b = true) → (insertH x ys).Pairwise fun a b => hLe a b = true
  | [], _, _ => by simp [insertH]
  | y :: ys, hp, h => by
    rw [List.pairwise_cons] at h
    have py := hp y (by simp)
    have pys : ∀ z ∈ ys, P z := fun z hz => hp z (List.mem_cons_of_mem _ hz)
    unfold insertH
    split
    · rename_i hxy
      rw [List.pairwise_cons]
      exact ⟨fun z hz => (List.mem_cons.mp hz).elim (fun e => by rw [e]; exact hxy) fun hz => tr x y z hx py (pys z hz) hxy (h.1 z hz), by rw [List.pairwise_cons]; exact h⟩
    · rename_i hxy
      rw [List.pairwise_cons]
      refine ⟨fun z hz => ?_, insH_rises tot tr x hx ys pys h.2⟩
      rcases List.mem_cons.mp ((insH_perm x ys).mem_iff.mp hz) with e | hz
      · rw [e]; exact (tot x y hx py).resolve_left hxy
      · exact h.1 z hz
theorem sortH_rises {P : U → Prop} (tot : ∀ x y, P x → P y → hLe x y = true ∨ hLe y x = true) (tr : ∀ x y z, P x → P y → P z → hLe x y = true → hLe y z = true → hLe x z = true) : ∀ xs : List U, (∀ x ∈ xs, P x) → (sortH xs).Pairwise fun a b => hLe a b = true
  | [], _ => List.Pairwise.nil
  | x :: xs, hp => insH_rises tot tr x (hp x (by simp)) _ (fun y hy => hp y (List.mem_cons_of_mem _ ((sortH_perm xs).mem_iff.mp hy))) (sortH_rises tot tr xs fun y hy => hp y (List.mem_cons_of_mem _ hy))
theorem headsI_hd : ∀ {xs : List U} {hs : List Int}, headsI xs = some hs → xs.map hdK = hs.map fun i => some (.inl i)
  | [], hs, h => by cases h; rfl
  | x :: xs, hs, h => by
    unfold headsI at h
    split at h
    · cases e : headsI xs with
      | none => rw [e] at h; cases h
      | some ms =>
        rw [e] at h
        cases h
        rw [List.map_cons, List.map_cons, headsI_hd e]
        rfl
    · cases h
theorem headsS_hd : ∀ {xs : List U} {hs : List (List Nat)}, headsS xs = some hs → xs.map hdK = hs.map fun i => some (.inr (strS i))
  | [], hs, h => by cases h; rfl
  | x :: xs, hs, h => by
    unfold headsS at h
    split at h
    · cases e : headsS xs with
      | none => rw [e] at h; cases h
      | some ms =>
        rw [e] at h
        cases h
        rw [List.map_cons, List.map_cons, headsS_hd e]
        rfl
    · cases h
/-- from the machine's order to the small one -/
theorem sortH_of {Kf : PySem.W.Frag} {Hx : Hp} {ex : Addr → Prop} {us : List U} {vs : List V} {ks : List Key} (q : RepUs Kf Hx ex us vs) (hk : us.map hdK = ks.map some) (nd : ks.Nodup) (one : (∀ k ∈ ks, ∃ i, k = .inl i) ∨ ∀ k ∈ ks, ∃ t, k = .inr t)
    {zs : List (V × Key)} (hp : zs.Perm (vs.zip ks)) (hs : zs.Pairwise fun x y => SrtH.hLt y.2 x.2 = false) : RepUs Kf Hx ex (sortH us) (zs.map (·.1)) := by
  have hl : us.length = ks.length := by have := congrArg List.length hk; simpa using this
  have hlv := q.length
  have ez : ((us.zip (vs.zip ks)).map (·.2)) = vs.zip ks := List.map_snd_zip (by rw [List.length_zip]; omega)
  obtain ⟨ws, hw, rfl⟩ := SrtH.perm_map_ex (ws := us.zip (vs.zip ks)) hp ez.symm
  have hel : ∀ w ∈ ws, RepU Kf Hx ex w.1 w.2.1 ∧ hdK w.1 = some w.2.2 ∧ w.2.2 ∈ ks := fun w hm => by
    obtain ⟨i, hi, e⟩ := List.mem_iff_getElem.mp (hw.mem_iff.mp hm)
    rw [List.getElem_zip, List.getElem_zip] at e
    have h1 : i < us.length := by rw [List.length_zip] at hi; omega
    have h2 : i < vs.length := by omega
    have h3 : i < ks.length := by omega
    obtain ⟨v, ev, r⟩ := q.get (List.getElem?_eq_getElem h1)
    rw [List.getElem?_eq_getElem h2] at ev
    cases ev
    have e4 : (us.map hdK)[i]'(by rw [List.length_map]; exact h1) = (ks.map some)[i]'(by rw [List.length_map]; exact h3) := by simp only [hk]
    rw [List.getElem_map, List.getElem_map] at e4
    rw [← e]
    exact ⟨r, e4, List.getElem_mem h3⟩
  have rp : ∀ l : List (U × V × Key), (∀ w ∈ l, RepU Kf Hx ex w.1 w.2.1) → RepUs Kf Hx ex (l.map (·.1)) ((l.map (·.2)).map (·.1)) := fun l => by
    induction l with
    | nil => intro _; rfl
    | cons w l ih => intro h; exact ⟨_, _, rfl, h w (by simp), ih fun z hz => h z (List.mem_cons_of_mem _ hz)⟩
  have e1 : ws.map (·.1) = sortH us := by
    have hpu : (ws.map (·.1)).Perm us := by
      have := hw.map (·.1)
      rwa [List.map_fst_zip (by rw [List.length_zip]; omega)] at this
    let P : U → Prop := fun u => ∃ k ∈ ks, hdK u = some k
    have o2 : ∀ {a b : Key}, a ∈ ks → b ∈ ks → (∃ i j, a = .inl i ∧ b = .inl j) ∨ ∃ s t, a = .inr s ∧ b = .inr t := fun {a b} ha hb => by
      rcases one with one | one
      · obtain ⟨i, hi⟩ := one a ha
        obtain ⟨j, hj⟩ := one b hb
        exact .inl ⟨i, j, hi, hj⟩
      · obtain ⟨i, hi⟩ := one a ha
        obtain ⟨j, hj⟩ := one b hb
        exact .inr ⟨i, j, hi, hj⟩
    have hP : ∀ u ∈ us, P u := fun u hu => by
      obtain ⟨w, hm, e⟩ := List.mem_map.mp (hpu.mem_iff.mpr hu)
      obtain ⟨_, h2, h3⟩ := hel w hm
      exact ⟨_, h3, by rw [← e]; exact h2⟩
    have tot : ∀ x y, P x → P y → hLe x y = true ∨ hLe y x = true := fun x y ⟨a, ha, ea⟩ ⟨b, hb, eb⟩ => by
      rw [hLe_hd ea eb (o2 ha hb), hLe_hd eb ea (o2 hb ha)]
      cases h : SrtH.hLt b a with
      | false => exact .inl rfl
      | true => exact .inr (by rw [SrtH.hLt_swo.asym _ _ h]; rfl)
    have tr : ∀ x y z, P x → P y → P z → hLe x y = true → hLe y z = true → hLe x z = true := fun x y z ⟨a, ha, ea⟩ ⟨b, hb, eb⟩ ⟨d, hd, ed⟩ h1 h2 => by
      rw [hLe_hd ea eb (o2 ha hb)] at h1
      rw [hLe_hd eb ed (o2 hb hd)] at h2
      rw [hLe_hd ea ed (o2 ha hd)]
      simp only [Bool.not_eq_true'] at h1 h2 ⊢
      exact SrtH.hLt_swo.tr _ _ _ h1 h2
    refine List.Perm.eq_of_pairwise (le := fun a b => hLe a b = true) (fun a b ha hb h1 h2 => ?_) ?_ (sortH_rises tot tr us hP) (hpu.trans (sortH_perm us).symm)
    · obtain ⟨x, hx, ex1⟩ := hP a (hpu.mem_iff.mp ha)
      obtain ⟨y, hy, ey1⟩ := hP b ((sortH_perm us).mem_iff.mp hb)
      rw [hLe_hd ex1 ey1 (o2 hx hy)] at h1
      rw [hLe_hd ey1 ex1 (o2 hy hx)] at h2
      simp only [Bool.not_eq_true'] at h1 h2
      have e : x = y := hLt_tot _ _ h2 h1
      subst e
      have hz : us.zip ks = us.zip ks := rfl
      have mz : ∀ u ∈ us, hdK u = some x → (u, x) ∈ us.zip ks := fun u hu he => by
        obtain ⟨i, hi, e⟩ := List.mem_iff_getElem.mp hu
        have h3 : i < ks.length := by omega
        have e4 : (us.map hdK)[i]'(by rw [List.length_map]; exact hi) = (ks.map some)[i]'(by rw [List.length_map]; exact h3) := by simp only [hk]
        rw [List.getElem_map, List.getElem_map, e, he] at e4
        refine List.mem_iff_getElem.mpr ⟨i, by rw [List.length_zip]; omega, ?_⟩
        rw [List.getElem_zip, e]
        cases e4
        rfl
      exact SrtH.zip_inj nd (mz a (hpu.mem_iff.mp ha) ex1) (mz b ((sortH_perm us).mem_iff.mp hb) ey1)
    · rw [List.pairwise_map]
      rw [List.pairwise_map] at hs
      refine List.Pairwise.imp_of_mem (fun {w w'} hw1 hw2 h => ?_) hs
      obtain ⟨_, h2, h3⟩ := hel w hw1
      obtain ⟨_, h4, h5⟩ := hel w' hw2
      rw [hLe_hd h2 h4 (o2 h3 h5), h]
      rfl
  rw [← e1]
  exact rp ws fun w hm => (hel w hm).1
theorem tup_hd {Kf : PySem.W.Frag} {Hx : Hp} {ex : Addr → Prop} {u : U} {v : V} {k : Key} (q : RepU Kf Hx ex u v) (h : hdK u = some k) : ∃ t r, v = .ref t ∧ SqT Kf Hx t (kV k :: r) := by
  unfold hdK at h
  split at h
  · cases h
    obtain ⟨t, vs, e, ht, w, r, e2, q1, _⟩ := q
    subst e2
    simp only [RepU] at q1
    subst q1
    exact ⟨t, r, e, sqT_of ht⟩
  · cases h
    obtain ⟨t, vs, e, ht, w, r, e2, q1, _⟩ := q
    subst e2
    simp only [RepU] at q1
    rw [q1.1] at ht
    exact ⟨t, r, e, sqT_of ht⟩
  · cases h
theorem keys_nohd {kvs : List (Key × V)} (h0 : allInt (kvs.map fun p => kKey p.1) = none) (h : (∃ hs, headsI (kvs.map fun p => kKey p.1) = some hs ∧ hs.Nodup) ∨ ∃ hs, headsS (kvs.map fun p => kKey p.1) = some hs ∧ hs.Nodup) : False := by
  cases kvs with
  | nil => cases h0
  | cons p kvs =>
    obtain ⟨k, v⟩ := p
    rcases k with i | s <;> rcases h with ⟨hs, e, _⟩ | ⟨hs, e, _⟩ <;> simp [kKey, headsI, headsS] at e
theorem minI_mem : ∀ {ns : List Int}, ns ≠ [] → minI ns ∈ ns ∧ ∀ y ∈ ns, minI ns ≤ y
  | [x], _ => by simp [minI]
  | x :: y :: ns, _ => by
    obtain ⟨h1, h2⟩ := minI_mem (ns := y :: ns) (by simp)
    have e : minI (x :: y :: ns) = min x (minI (y :: ns)) := rfl
    rw [e]
    refine ⟨?_, fun z hz => ?_⟩
    · rcases Int.le_total x (minI (y :: ns)) with q | q
      · rw [Int.min_eq_left q]; simp
      · rw [Int.min_eq_right q]; exact List.mem_cons_of_mem _ h1
    · rcases List.mem_cons.mp hz with q | q
      · rw [q]; exact Int.min_le_left ..
      · exact Int.le_trans (Int.min_le_right ..) (h2 z q)
theorem maxI_mem : ∀ {ns : List Int}, ns ≠ [] → maxI ns ∈ ns ∧ ∀ y ∈ ns, y ≤ maxI ns
  | [x], _ => by simp [maxI]
  | x :: y :: ns, _ => by
    obtain ⟨h1, h2⟩ := maxI_mem (ns := y :: ns) (by simp)
    have e : maxI (x :: y :: ns) = max x (maxI (y :: ns)) := rfl
    rw [e]
    refine ⟨?_, fun z hz => ?_⟩
    · rcases Int.le_total x (maxI (y :: ns)) with q | q
      · rw [Int.max_eq_right q]; exact List.mem_cons_of_mem _ h1
      · rw [Int.max_eq_left q]; simp
    · rcases List.mem_cons.mp hz with q | q
      · rw [q]; exact Int.le_max_left ..
      · exact Int.le_trans (h2 z q) (Int.le_max_right ..)
theorem minI_only {ns : List Int} {m : Int} (hm : m ∈ ns) (h : ∀ y, y ∈ ns → m ≤ y) : m = minI ns := by
  obtain ⟨h1, h2⟩ := minI_mem (ns := ns) (by intro z; rw [z] at hm; cases hm)
  exact Int.le_antisymm (h _ h1) (h2 _ hm)
theorem maxI_only {ns : List Int} {m : Int} (hm : m ∈ ns) (h : ∀ y, y ∈ ns → y ≤ m) : m = maxI ns := by
  obtain ⟨h1, h2⟩ := maxI_mem (ns := ns) (by intro z; rw [z] at hm; cases hm)
  exact Int.le_antisymm (h2 _ hm) (h _ h1)
theorem len_vw (h : Vw X.K H ex u x) (nd : ∀ ks vs, u ≠ .dic ks vs) {k : Nat} (e : bf1 .len u fun r => r = .u (.int k)) : LenV X.K x H k := by
  cases u <;> try exact e.elim
  · simp only [Vw, RepU] at h
    cases e
    rw [h.1]
    exact ⟨h.2.1, rfl⟩
  · simp only [Vw, RepU] at h
    obtain ⟨a, vs, e1, t, q⟩ := h
    cases e
    rw [e1]
    exact .inr ⟨vs, sqT_of t, q.length⟩
  · obtain ⟨a, vs, e1, t, q⟩ := h
    cases e
    rw [e1]
    exact .inl ⟨vs, t, q.length⟩
  · exact absurd rfl (nd _ _)
theorem bf1_of {bf : Bf} (nr : bf ≠ .rev ∧ bf ≠ .lset) (R : Rep c.ca X.K L Z' σ H2 ρ2 G2) (hz : ∀ a, Z a → Z' a) (hx : Ext H f H2 (fp σ ρ2 G2)) (en : EndE c X L Z σ H f Qm Q) (hv : Vw X.K H2 (Or2 (fp σ ρ2 G2) Z') u x) (h : bf1 bf u fun r => Qm r ρ2 G2) : rBf X.K bf [x] H2 Q := by
  have fin : ∀ {z : U} {v : V}, RepU X.K H2 (Or2 (fp σ ρ2 G2) Z') z v → Qm (.u z) ρ2 G2 → Q v H2 := fun q k => en.ofU R hz hx q k
  cases bf with
  | len =>
    cases u <;> try exact h.elim
    · exact .inl ⟨x, _, rfl, len_vw hv (fun _ _ z => by cases z) rfl, fin (by simp only [RepU]) h⟩
    · exact .inl ⟨x, _, rfl, len_vw hv (fun _ _ z => by cases z) rfl, fin (by simp only [RepU]) h⟩
    · exact .inl ⟨x, _, rfl, len_vw hv (fun _ _ z => by cases z) rfl, fin (by simp only [RepU]) h⟩
    · obtain ⟨a, kvs, e1, r, e2, q⟩ := hv
      subst e2
      refine .inr ⟨a, kvs, by rw [e1], r, fin (z := .int (kvs.length : Nat)) (by simp only [RepU]) ?_⟩
      have h' : Qm (.u (.int (((kvs.map fun p => kKey p.1).length : Nat) : Int))) ρ2 G2 := h
      rwa [List.length_map] at h'
  | int =>
    cases u <;> try exact h.elim
    · simp only [Vw, RepU] at hv
      exact .inr ⟨_, by rw [hv], fin (by simp only [RepU]) h⟩
    · simp only [Vw, RepU] at hv
      exact .inl ⟨_, by rw [hv], fin (by simp only [RepU]) h⟩
  | str =>
    cases u <;> try exact h.elim
    simp only [Vw, RepU] at hv
    rename_i i
    obtain ⟨⟨hb, hg⟩, h⟩ := h
    refine ⟨i, by rw [hv], ?_, fin (z := .str (decS i)) ?_ h⟩
    · rcases Nat.eq_zero_or_pos i.natAbs with z | z
      · rw [z]; decide
      · exact Nat.lt_trans ((Nat.log2_lt (by omega)).mpr hb) (by decide)
    · simp only [RepU]
      refine ⟨?_, goodU_out hg⟩
      simp only [decS, Array.toArray_toList]
  | rev => exact absurd rfl nr.1
  | lset => exact absurd rfl nr.2
  | list =>
    cases u <;> try exact h.elim
    · rename_i us
      simp only [Vw, RepU] at hv
      obtain ⟨a, vs, e1, t, q⟩ := hv
      exact .inl ⟨a, vs, by rw [e1], .inr (sqT_of t), fun l hl => en.new R hz hx hl (u := .lst us) ⟨vs, rfl, q⟩ h⟩
    · rename_i us
      obtain ⟨a, vs, e1, t, q⟩ := hv
      exact .inl ⟨a, vs, by rw [e1], .inl t, fun l hl => en.new R hz hx hl (u := .lst us) ⟨vs, rfl, q⟩ h⟩
    · obtain ⟨a, kvs, e1, r, e2, q⟩ := hv
      subst e2
      obtain ⟨hg, h⟩ := h
      exact .inr ⟨a, kvs, by rw [e1], r, fun l hl => en.new R hz hx hl (u := .lst (kvs.map fun p => kKey p.1)) ⟨_, rfl, repUs_keys fun s hs => by
        have := List.all_eq_true.mp hg _ hs
        exact goodU_out this⟩ h⟩
  | tuple =>
    cases u <;> try exact h.elim
    · simp only [Vw, RepU] at hv
      obtain ⟨a, vs, e1, t, q⟩ := hv
      rename_i us
      exact ⟨a, vs, by rw [e1], .inr ⟨sqT_of t, fin (z := .tup us) (by simp only [RepU]; exact ⟨a, vs, rfl, t, q⟩) h⟩⟩
    · obtain ⟨a, vs, e1, t, q⟩ := hv
      exact ⟨a, vs, by rw [e1], .inl ⟨t, fun l hl => en.newTup R hz hx hl q h⟩⟩
  | abs =>
    cases u <;> try exact h.elim
    rename_i i
    simp only [Vw, RepU] at hv
    refine ⟨i, by rw [hv], fin (z := .int i.natAbs) (by simp only [RepU]; congr 1; split <;> omega) h⟩
  | sum =>
    cases u <;> try exact h.elim
    obtain ⟨a, vs, e1, t, q⟩ := hv
    obtain ⟨ns, e2, h⟩ := optK_out h
    have := allInt_out e2 q
    subst this
    exact ⟨a, ns, by rw [e1], t, fin (by simp only [RepU]) h⟩
  | all =>
    cases u <;> try exact h.elim
    obtain ⟨a, vs, e1, t, q⟩ := hv
    obtain ⟨ns, e2, h⟩ := optK_out h
    have := allBl_out e2 q
    subst this
    exact ⟨a, ns, by rw [e1], t, fin (by simp only [RepU]) h⟩
  | any => exact h.elim
  | min =>
    cases u <;> try exact h.elim
    obtain ⟨a, vs, e1, t, q⟩ := hv
    obtain ⟨ns, e2, ne, h⟩ := optK_out h
    have := allInt_out e2 q
    subst this
    refine .inr ⟨a, ns, by rw [e1], t, List.length_pos_iff.mpr ne, fun m hm hle => fin (z := .int m) (by simp only [RepU]) ?_⟩
    rw [minI_only hm hle]
    exact h
  | max =>
    cases u <;> try exact h.elim
    obtain ⟨a, vs, e1, t, q⟩ := hv
    obtain ⟨ns, e2, ne, h⟩ := optK_out h
    have := allInt_out e2 q
    subst this
    refine .inr ⟨a, ns, by rw [e1], t, List.length_pos_iff.mpr ne, fun m hm hle => fin (z := .int m) (by simp only [RepU]) ?_⟩
    rw [maxI_only hm hle]
    exact h
  | dict =>
    cases u <;> try exact h.elim
    obtain ⟨a, kvs, e1, r, e2, q⟩ := hv
    subst e2
    exact ⟨a, kvs, by rw [e1], r, fun l hl => en.new R hz hx hl (u := .dic (kvs.map fun p => kKey p.1) _) ⟨kvs, rfl, rfl, q⟩ (by exact h)⟩
  | sorted =>
    cases u <;> try exact h.elim
    · rename_i us
      obtain ⟨a, vs, e1, t, q⟩ := hv
      rcases sortU_out (K := fun r => Qm r ρ2 G2) h with ⟨ns, e2, h⟩ | ⟨ss, e2, h1, h⟩ | ⟨h0, hh, h⟩
      · have := allInt_out e2 q
        subst this
        refine .inl (.inl (.inl ⟨a, ns, by rw [e1], t, fun ns' p hp hs hn => ?_⟩))
        rw [sortI_only hp hs]
        exact en.new R hz hx hn (u := .lst ((sortI ns).map U.int)) ⟨_, rfl, repUs_ints' _⟩ h
      · obtain ⟨e3, hg⟩ := allStr_out e2 q
        subst e3
        refine .inl (.inl (.inr ⟨a, ss.map strS, by rw [e1], t, by rw [List.length_map]; exact h1, fun ys p hp hs hn => ?_⟩))
        rw [sortS_only hp hs]
        exact en.new R hz hx hn (u := .lst ((sortS ss).map U.str)) ⟨_, rfl, repUs_strs' _ fun s hs => hg s ((sortS_perm ss).mem_iff.mp hs)⟩ h
      · have hl := q.length
        have go : ∀ ks : List Key, us.map hdK = ks.map some → ks.Nodup → ((∀ k ∈ ks, ∃ i, k = .inl i) ∨ ∀ k ∈ ks, ∃ t, k = .inr t) → rBf X.K .sorted [x] H2 Q := fun ks hk nd one => by
          have hlk : us.length = ks.length := by have := congrArg List.length hk; simpa using this
          refine .inr ⟨a, vs, ks, by rw [e1], t, by omega, fun p hp => ?_, one, nd, fun zs p hp hs hn => ?_⟩
          · obtain ⟨i, hi, e⟩ := List.mem_iff_getElem.mp hp
            have i1 : i < vs.length := by rw [List.length_zip] at hi; omega
            have i2 : i < us.length := by omega
            have i3 : i < ks.length := by omega
            obtain ⟨v, ev, r⟩ := q.get (List.getElem?_eq_getElem i2)
            rw [List.getElem?_eq_getElem i1] at ev
            cases ev
            have e4 : (us.map hdK)[i]'(by rw [List.length_map]; exact i2) = (ks.map some)[i]'(by rw [List.length_map]; exact i3) := by simp only [hk]
            rw [List.getElem_map, List.getElem_map] at e4
            rw [List.getElem_zip] at e
            rw [← e]
            exact tup_hd r e4
          · exact en.new R hz hx hn (u := .lst (sortH us)) ⟨_, rfl, sortH_of q hk nd one hp hs⟩ h
        rcases hh with ⟨hs, e, nd⟩ | ⟨hs, e, nd⟩
        · refine go (hs.map Sum.inl) (by rw [headsI_hd e, List.map_map]; rfl) (List.pairwise_map.mpr (nd.imp fun z w => z (Sum.inl.inj w))) (.inl fun k hk => ?_)
          obtain ⟨i, _, e⟩ := List.mem_map.mp hk
          exact ⟨i, e.symm⟩
        · have inj : ∀ a b : List Nat, strS a = strS b → a = b := fun a b w => by
            have := congrArg (fun s : Str => s.cps.toList) w
            simpa only [strS_list'] using this
          refine go (hs.map fun s => Sum.inr (strS s)) (by rw [headsS_hd e, List.map_map]; rfl) (List.pairwise_map.mpr (nd.imp fun z w => z (inj _ _ (Sum.inr.inj w)))) (.inr fun k hk => ?_)
          obtain ⟨i, _, e⟩ := List.mem_map.mp hk
          exact ⟨_, e.symm⟩
    · obtain ⟨a, kvs, e1, r, e2, q⟩ := hv
      subst e2
      have h : ((kvs.map fun p => kKey p.1).length < 64 ∧ (kvs.map fun p => kKey p.1).all goodU = true) ∧ sortU (kvs.map fun p => kKey p.1) fun r => Qm r ρ2 G2 := h
      obtain ⟨⟨hl, hg⟩, h⟩ := h
      rw [List.length_map] at hl
      rcases sortU_out (K := fun r => Qm r ρ2 G2) h with ⟨ns, e2, h⟩ | ⟨ss, e2, h1, h⟩ | ⟨h0, hh, _⟩
      · have e3 := keys_ints e2
        refine .inl (.inr (.inl ⟨a, kvs, ns, by rw [e1], r, e3, by have := congrArg List.length e3; simp at this; omega, fun ns' p hp hs hn => ?_⟩))
        rw [sortI_only hp hs]
        exact en.new R hz hx hn (u := .lst ((sortI ns).map U.int)) ⟨_, rfl, repUs_ints' _⟩ h
      · have e3 := keys_strs e2
        refine .inl (.inr (.inr ⟨a, kvs, ss.map strS, by rw [e1], r, e3, by have := congrArg List.length e3; simp at this; rw [List.length_map]; omega, fun ys p hp hs hn => ?_⟩))
        rw [sortS_only hp hs]
        refine en.new R hz hx hn (u := .lst ((sortS ss).map U.str)) ⟨_, rfl, repUs_strs' _ fun s hs => ?_⟩ h
        have hm := (sortS_perm ss).mem_iff.mp hs
        have := List.all_eq_true.mp hg (.str s) (allStr_mem e2 hm)
        exact goodU_out this
      · exact (keys_nohd h0 hh).elim
theorem bf2_of {bf : Bf} (R : Rep c.ca X.K L Z' σ H2 ρ2 G2) (hz : ∀ a, Z a → Z' a) (hx : Ext H f H2 (fp σ ρ2 G2)) (en : EndE c X L Z σ H f Qm Q) (hv : Vw X.K H2 (Or2 (fp σ ρ2 G2) Z') u x) (hw : Vw X.K H2 (Or2 (fp σ ρ2 G2) Z') w y) (h : bf2 bf u w fun r => Qm r ρ2 G2) : rBf X.K bf [x, y] H2 Q := by
  have fin : ∀ {z : U} {v : V}, RepU X.K H2 (Or2 (fp σ ρ2 G2) Z') z v → Qm (.u z) ρ2 G2 → Q v H2 := fun q k => en.ofU R hz hx q k
  cases bf with
  | max =>
    cases u <;> try exact h.elim
    cases w <;> try exact h.elim
    simp only [Vw, RepU] at hv hw
    exact .inl ⟨_, _, by rw [hv, hw], fin (by simp only [RepU]) h⟩
  | min =>
    cases u <;> try exact h.elim
    cases w <;> try exact h.elim
    simp only [Vw, RepU] at hv hw
    exact .inl ⟨_, _, by rw [hv, hw], fin (by simp only [RepU]) h⟩
  | _ => exact h.elim
theorem bltMem (b : Bf) : Str.ofString b.name ∈ bltNames := by
  cases b <;> decide +kernel
theorem isNm_out {nm : String} {e : Expr} (h : K.isNm nm e = true) : ∃ x p, e = .Name x p ∧ x = Str.ofString nm ∧ K.glob x = true := by
  unfold Ck.isNm at h
  split at h
  · simp only [Bool.and_eq_true, decide_eq_true_eq] at h
    exact ⟨_, _, rfl, h.1, h.2⟩
  · cases h
theorem val_bf (b : Bf) : (∃ id, b.val = .builtin id) ∨ ∃ T, b.val = .type T := by
  cases b <;> first | exact .inl ⟨_, rfl⟩ | exact .inr ⟨_, rfl⟩
theorem c_bcall (C : Ctx c n X K) (hh : K.hot = false) {bf : Bf} (nr : bf ≠ .rev ∧ bf ≠ .lset) {fe : Expr} {es : Es} {el : List Expr} (hf : K.isNm bf.name fe = true) (hck : ckEs K es el = true) (ga : PA X el (tA c Γ X es)) : PE X (.Call fe el [] pos) (tE c Γ X (.bcall bf es)) := by
  obtain ⟨xn, p, rfl, ex, hg⟩ := isNm_out hf
  subst ex
  obtain ⟨g1, g2, g3⟩ := gl_of C hg
  have rd : ∀ σ H Q, tE c Γ X (.bcall bf es) σ H Q → tCB (rBf X.K bf) (tA c Γ X es) σ H Q := fun σ H Q ⟨L, Z, ρ, G, Xm, Qm, R, hL, w, tk, en⟩ => by
    simp only [wpE] at w
    refine ⟨L, Z, ρ, G, Xm, _, R, hL, w, tk, fun rs ρ1 G1 vs H1 hx R1 q1 ap nw w1 => ?_⟩
    have hz : ∀ a, Z a → Or2 Z (Hds rs vs) a := fun a => .inl
    cases rs with
    | nil => exact w1.elim
    | cons r rs =>
      obtain ⟨v, t, e, q1, e2⟩ := q1
      subst e
      cases rs with
      | nil =>
        have e2' : t = [] := e2
        subst e2'
        obtain ⟨u, eu, w1⟩ := vwK_out w1
        exact bf1_of nr R1 hz hx en (vw_ok R1 q1 eu) w1
      | cons q rs =>
        obtain ⟨v2, t2, e2, q2, e3⟩ := e2
        subst e2
        cases rs with
        | nil =>
          have e3' : t2 = [] := e3
          subst e3'
          obtain ⟨u, eu, w1⟩ := vwK_out w1
          obtain ⟨z, ez, w1⟩ := vwK_out w1
          exact bf2_of R1 hz hx en (vw_ok R1 q1 eu) (vw_ok R1 q2 ez) w1
        | cons q rs => exact w1.elim
  cases el with
  | nil =>
    cases es with
    | cons m ms => cases hck
    | nil => exact ⟨fun pins s σ H Q I h => by
        obtain ⟨L, Z, ρ, G, Xm, Qm, R, hL, w, tk, en⟩ := h
        simp only [wpE, wpEs] at w
        exact w.elim⟩
  | cons e el =>
    cases es with
    | nil => cases hck
    | cons m ms =>
      simp only [ckEs, Bool.and_eq_true] at hck
      have hb := boot_bf bf
      have hm := C.blt _ (bltMem bf)
      have st := star_cons (es := el) (env := X.env) (ck_plain hck.1)
      have pl := (cks_nostar (env := X.env) (pos := pos) hck.2).1
      have cr := cr_bf (C.calm hh) bf
      rcases val_bf bf with ⟨id, e2⟩ | ⟨T, e2⟩
      · rw [e2] at hb cr
        exact PE.imp (pe_callB cr g1 hm hb ga g3 g2 st pl) rd
      · rw [e2] at hb cr
        exact PE.imp (pe_callTy cr g1 hm hb ga g3 g2 st pl) rd
/-- len(set(xs)) of unlike ints -/
theorem e_lset (C : Ctx c n X K) (hh : K.hot = false) {a : E} {e1 fe fs : Expr} {p1 p2 : Pos} (hf : K.isNm "len" fe = true) (hs : K.isNm "set" fs = true) (hp : plainX e1 = true) (ga : PE X e1 (tE c Γ X a)) : PE X (.Call fe [.Call fs [e1] [] p1] [] p2) (tE c Γ X (.bcall .lset (.cons a .nil))) := by
  obtain ⟨xn, p, rfl, ex, hg⟩ := isNm_out hf
  subst ex
  obtain ⟨xs, p', rfl, ex, hg'⟩ := isNm_out hs
  subst ex
  obtain ⟨g1, g2, g3⟩ := gl_of C hg
  obtain ⟨g1', _, _⟩ := gl_of C hg'
  have hm := C.blt _ (bltMem .len)
  have hm' := C.blt _ (bltMem .lset)
  refine PE.imp (pe_lenSetI (C.calm hh) g1 hm g1' hm' ga (star_cons (es := []) hp)) fun σ H Q ⟨L, Z, ρ, G, Xm, Qm, R, hL, w, tk, en⟩ => ?_
  simp only [wpE, wpEs] at w
  refine ⟨L, Z, ρ, G, Xm, _, R, hL, w, tk, fun ra ρ1 G1 x H1 hx R1 w1 => ?_⟩
  obtain ⟨u, eu, w3⟩ := vwK_out w1
  have hv := vw_ok R1.rep R1.val eu
  cases u <;> try exact w3.elim
  obtain ⟨l, vs, e, t, q⟩ := hv
  obtain ⟨ns, e2, ⟨h1, h2⟩, h⟩ := optK_out w3
  have := allInt_out e2 q
  subst this
  exact ⟨l, ns, e, t, h1, h2, en.ofU R1.rep (fun a z => .inl z) hx (u := .int ns.length) (by simp only [RepU]) h⟩
end
end Mp

/-! Mp12: isinstance, methods of built-in types. -/
namespace Mp
open PySem PySem.Spec PyProof.Rows L2

def tnU : U → String
  | .non => "NoneType" | .bl _ => "bool" | .int _ => "int" | .str _ => "str" | .tup _ => "tuple" | .lst _ => "list" | .dic _ _ => "dict" | .set _ => "set" | .ref _ => "object"
def tnT : Ty → String
  | .int => "int" | .bool => "bool" | .str => "str" | .list => "list" | .tuple => "tuple" | .dict => "dict" | .cls _ => ""
inductive Kd where | non | bl | int | str | tup | lst | dic
def Kd.nm : Kd → String
  | .non => "NoneType" | .bl => "bool" | .int => "int" | .str => "str" | .tup => "tuple" | .lst => "list" | .dic => "dict"
def Kd.is (t : Ty) : Kd → Bool
  | .non => false
  | .bl => decide (t = .bool) || decide (t = .int)
  | .int => decide (t = .int)
  | .str => decide (t = .str)
  | .tup => decide (t = .tuple)
  | .lst => decide (t = .list)
  | .dic => decide (t = .dict)
theorem kd_tab : ∀ (k : Kd) (t : Ty), (∀ j, t ≠ .cls j) → kitB k.nm (tnT t) = some (k.is t) := by
  intro k t ht
  cases t with
  | cls j => exact absurd rfl (ht j)
  | _ => cases k <;> decide +kernel
theorem kit_tab {Kf : PySem.W.Frag} {t : Ty} {u : U} (ht : ∀ k, t ≠ .cls k) (h1 : ∀ a, u ≠ .ref a) (h2 : ∀ a, u ≠ .set a) : PySem.W.kitOne Kf (.type (tnU u)) (.type (tnT t)) = some (tyU t u) := by
  cases u with
  | ref a => exact absurd rfl (h1 a)
  | set a => exact absurd rfl (h2 a)
  | non => exact kit_ty (kd_tab .non t ht)
  | bl b => exact kit_ty (kd_tab .bl t ht)
  | int b => exact kit_ty (kd_tab .int t ht)
  | str b => exact kit_ty (kd_tab .str t ht)
  | tup b => exact kit_ty (kd_tab .tup t ht)
  | lst b => exact kit_ty (kd_tab .lst t ht)
  | dic b d => exact kit_ty (kd_tab .dic t ht)
section
variable {c : Cx0} {n : Nat} {X : Cx} {K : Ck} {L Z Z' : Addr → Prop} {σ : L2.St} {H H1 H2 : Hp} {ρ ρ1 ρ2 : Rho} {G G1 G2 : Hh} {f ex : Addr → Prop} {x y v : V} {u w : U} {Qm : Kc} {Q : VK} {a b d : E} {e1 e2 e3 : Expr} {pos p2 : Pos} {r : R} {ca : Cs} {Γ : Cal} {Kf : PySem.W.Frag}
theorem tyx_of (h : Vw X.K H ex u x) (h1 : ∀ a, u ≠ .ref a) : TyX X.K H x (.type (tnU u)) := by
  cases u with
  | non => simp only [Vw, RepU] at h; rw [h]; exact .base .non
  | bl b => simp only [Vw, RepU] at h; rw [h]; exact .base (.bl b)
  | int b => simp only [Vw, RepU] at h; rw [h]; exact .base (.int b)
  | str b => simp only [Vw, RepU] at h; rw [h.1]; exact .base (.str _)
  | tup xs =>
    simp only [Vw, RepU] at h
    obtain ⟨a, vs, e, t, _⟩ := h
    rw [e]
    rcases t with ⟨t | ⟨o, t⟩, _⟩ | ⟨o, its, n, t, hc, _⟩
    · exact .base (.tup t)
    · exact .fTuple t
    · exact .kTuple t hc
  | lst xs =>
    obtain ⟨a, vs, e, t, _⟩ := h
    rw [e]
    rcases t with (t | ⟨o, t⟩) | ⟨o, its, n, t, hc, _⟩
    · exact .base (.lst t)
    · exact .base (.frz t)
    · exact .kList t hc
  | dic ks ws =>
    obtain ⟨a, kvs, e, t, _⟩ := h
    rw [e]
    rcases t with t | ⟨o, t⟩
    · exact .base (.dK t)
    · exact .fDict t
  | set xs => simp only [Vw, RepU] at h
  | ref a => exact absurd rfl (h1 a)
theorem vw_noref (h : vw r ρ G = some u) (R : Rep ca Kf L Z σ H ρ G) (q : Val Kf H (Or2 (fp σ ρ G) Z) σ r v) : ∀ a, u ≠ .ref a := fun a e => by
  subst e
  cases r with
  | u y =>
    cases y <;> simp only [vw] at h <;> try (cases h; done)
    rename_i p
    cases hg : G p with
    | none => rw [hg] at h; cases h
    | some o =>
      rw [hg] at h
      cases o with
      | ins k fs => cases h
      | con cc =>
        cases h
        obtain ⟨ho, _, q⟩ := R.heap p _ hg
        exact q
  | tmp y =>
    cases h
    obtain ⟨p, o, _, _, q⟩ := q
    exact q
  | exc k => cases h
  | lv i =>
    simp only [vw] at h
    cases hs : ρ[i]? with
    | none => rw [hs] at h; cases h
    | some os =>
      rw [hs] at h
      cases os with
      | none => cases h
      | some sv =>
        obtain ⟨w, e1, q1⟩ := R.slot i sv hs
        cases sv with
        | u y => cases h
        | exc k => cases h
        | own y =>
          cases h
          obtain ⟨p, o, _, _, q⟩ := q1
          exact q
        | fz t y =>
          cases h
          obtain ⟨_, _, o, _, q⟩ := q1
          exact q
theorem boot_ty : ∀ t : Ty, (∀ k, t ≠ .cls k) → bootBuiltins (Str.ofString (tnT t)) = some (.type (tnT t)) ∧ Str.ofString (tnT t) ∈ bltNames := by
  intro t ht
  cases t <;> first | (exact absurd rfl (ht _)) | (constructor <;> decide +kernel)
theorem c_isin (C : Ctx c n X K) {t : Ty} {fe : Expr} (ht : ∀ k, t ≠ .cls k) (hf : K.isNm "isinstance" fe = true) (hck : ckE K a e1 = true) (hty : K.isNm (tnT t) e2 = true) (ga : PE X e1 (tE c Γ X a)) : PE X (.Call fe [e1, e2] [] pos) (tE c Γ X (.isin a [t])) := by
  obtain ⟨xn, p, rfl, exx, hg⟩ := isNm_out hf
  subst exx
  obtain ⟨yn, p3, rfl, exy, hg2⟩ := isNm_out hty
  subst exy
  obtain ⟨g1, g2, g3⟩ := gl_of C hg
  obtain ⟨k1, k2, k3⟩ := gl_of C hg2
  obtain ⟨b1, b2⟩ := boot_ty t ht
  have gt : PE X (.Name (Str.ofString (tnT t)) p3) (tC (.ty (tnT t))) := pe_bltn k1 (C.blt _ b2) b1 rfl k3 k2
  have st : starEach [e1, .Name (Str.ofString (tnT t)) p3] X.env = (false, eval e1 X.env) :: starEach [.Name (Str.ofString (tnT t)) p3] X.env := star_cons (ck_plain hck)
  refine PE.imp (pe_callB call_isi g1 (C.blt _ (by decide +kernel)) (show bootBuiltins (Str.ofString "isinstance") = some (.builtin "isinstance") by decide +kernel) (pa_cons ga (pa_cons gt pa_nil rfl) st) g3 g2 st rfl) fun σ H Q ⟨L, Z, ρ, G, Xm, Qm, R, hL, w, tk, en⟩ => ?_
  simp only [wpE] at w
  refine one (S := fun x H1 => rIsi X.K [x, .ty (tnT t)] H1 Q) R hL w tk fun ra ρ2 G2 x H2 Z' hz ha hx R2 q w2 => ?_
  have w3 : vwK ra ρ2 G2 fun x => Qm (.u (.bl ([t].any fun t => tyU t x))) ρ2 G2 := w2
  obtain ⟨u, eu, w3⟩ := vwK_out w3
  have nr := vw_noref eu R2 q
  have hv := vw_ok R2 q eu
  have ns : ∀ z, u ≠ .set z := fun z e => by
    subst e
    simp only [Vw, RepU] at hv
  refine ⟨x, .ty (tnT t), _, _, _, rfl, .ty _, tyx_of hv nr, kit_tab ht nr ns, en.ofU R2 hz hx (u := .bl (tyU t u)) (by simp only [RepU]) ?_⟩
  simpa using w3

/-! ### what the suite holds -/
theorem dx_of {dv : Option (Addr × Str × U)} {e : Option Addr} (h : dvOk dv e) (hd : ∀ dd s x, dv = some (dd, s, x) → ∃ w, H dd = some (.xd [(s, w)]) ∧ RepU Kf H ex x w) : ∀ dd, e = some dd → ∃ fs, H dd = some (.xd fs) := fun dd ed => by
  subst ed
  match dv, h with
  | none, h => exact False.elim h
  | some (d2, s, x), h =>
    have h : d2 = dd := h
    subst h
    obtain ⟨w, q, _⟩ := hd d2 s x rfl
    exact ⟨_, q⟩
def OneV (x : V) (u : Value) : Prop := ∀ w, RelV x w → w = u
theorem oneV_all : ∀ {cs : List V} {us ws : List Value}, Paired OneV cs us → Vals cs ws → ws = us
  | _, _, _, .nil, .nil => rfl
  | _, _, _, .cons h k, .cons r t => by
    have e1 := h _ r
    have e2 := oneV_all k t
    rw [e1, e2]
/-- what the exception's own dict is, as far as it matters -/
def DxOk (H : Hp) (d : Option Addr) : Prop := ∀ dd, d = some dd → ∃ fs, H dd = some (.xd fs)
/-- isinstance(e, c), isinstance(e, (c, ..)) -/
def rIsG (K : PySem.W.Frag) (D a : Addr) (d : Option Addr) : List V → Hp → VK → Prop := fun xs H Q => DxOk H d ∧
  ((∃ (cc : V) (cv : Value) (b : Bool), xs = [.ref a, cc] ∧ OneV cc cv ∧ PySem.W.kitOne K (.ref D) cv = some b ∧ Q (.bl b) H) ∨
    ∃ (tp : Addr) (cs : List V) (us : List Value) (b : Bool), xs = [.ref a, .ref tp] ∧ H tp = some (.tup cs) ∧ Paired OneV cs us ∧ PySem.W.kitAny K (.ref D) us = some b ∧ Q (.bl b) H)
theorem isG_at {X : Cx} {a D : Addr} {d : Option Addr} {oe : Obj} {pn pins : List (Addr × Obj)} {s : Shared} {σ : L2.St} {H : Hp} (hz : Zc (.ref D) d oe) (hf : ∃ vs, oe.data = .fields vs) (I : Inv (X.suite a ((a, oe) :: pn)) pins σ H s) (hd : DxOk H d) :
    ∃ od, PySem.W.InstAt s.heap a oe D od := by
  obtain ⟨hget, _⟩ := I.pin (a, oe) (List.mem_append_left _ List.mem_cons_self)
  obtain ⟨vs, hv⟩ := hf
  have nc : PySem.W.notCls oe := by
    unfold PySem.W.notCls
    rw [hv] <;> rfl
  cases d with
  | none => exact ⟨none, hget, hz.1, nc, by rw [hz.2]; trivial⟩
  | some dd =>
    obtain ⟨fs, e⟩ := hd dd rfl
    obtain ⟨mA, hns, _⟩ := (show ObjOk X.prog X.w H s.heap dd (.xd fs) from I.hok dd _ e)
    obtain ⟨od, ho, _⟩ := lookIn_ns hns
    exact ⟨some od, hget, hz.1, nc, by rw [hz.2]; exact ho⟩
theorem call_isG {X : Cx} {a D : Addr} {d : Option Addr} {oe : Obj} {pn : List (Addr × Obj)} (EC : ExcC X.K D) (hz : Zc (.ref D) d oe) (hf : ∃ vs, oe.data = .fields vs) : CallR (X.suite a ((a, oe) :: pn)) (.builtin "isinstance") (rIsG X.K D a d) := by
  intro pins s σ H xs us Q I r h
  obtain ⟨hd, h⟩ := h
  obtain ⟨od, J⟩ := isG_at hz hf I hd
  have cl : (PySem.W.clsIn X.K D).isSome = true := by
    obtain ⟨cd, hc, _⟩ := PySem.W.any_some EC.hd
    rw [hc]; rfl
  have KX := PySem.W.kitx_exc (x := a) (ox := oe) (od := od) cl EC.hg EC.hk EC.hs EC.ha EC.hn EC.ht EC.hm
  rcases h with ⟨cc, cv, b, e1, ho, hk, q⟩ | ⟨tp, cs, ws, b, e1, ht, hp, hk, q⟩
  · subst e1
    obtain ⟨u1, u2, e2, r1, r2⟩ := vals2 r
    subst e2
    cases (show u1 = Value.ref a from r1)
    have e3 := ho _ r2
    subst e3
    exact PySem.W.kia_one KX I.kIn J hk (fun z => nomatch z) fun tk => ⟨.bl b, H, I.tok tk, rfl, q⟩
  · subst e1
    obtain ⟨u1, u2, e2, r1, r2⟩ := vals2 r
    subst e2
    cases (show u1 = Value.ref a from r1)
    cases (show u2 = Value.ref tp from r2)
    obtain ⟨_, its, rv, ob, k1, k2, m, k3⟩ := (show ObjOk X.prog X.w H s.heap tp (.tup cs) from I.hok tp _ ht)
    have e3 := oneV_all hp rv
    subst e3
    obtain ⟨oc, od', dt, sl⟩ := ob
    simp only at k2 k3
    subst k2 k3
    exact PySem.W.kia_tup KX I.kIn J k1 hk (fun z => nomatch z) fun tk => ⟨.bl b, H, I.tok tk, rfl, q⟩
/-- the slot of the exception that the suite holds -/
theorem exc_slot {i : Nat} {a : Addr} {dv : Option (Addr × Str × U)} (R : Rep ca Kf L Z σ H ρ G) (hs : ρ[i]? = some (some (.exc a dv))) : σ[i]? = some (some (.ref a)) ∧ ∀ dd s x, dv = some (dd, s, x) → ∃ w, H dd = some (.xd [(s, w)]) ∧ RepU Kf H (Or2 (fp σ ρ G) Z) x w := by
  obtain ⟨v, e1, q0⟩ := R.slot i _ hs
  have q1 : RepE Kf H (Or2 (fp σ ρ G) Z) a dv v := q0
  obtain ⟨e2, q2⟩ := q1
  subst e2
  refine ⟨e1, fun dd s x e => ?_⟩
  subst e
  obtain ⟨w, h1, _, h3⟩ := q2
  exact ⟨w, h1, h3⟩
theorem pe_slot (C : Ctx c n X K) {i : Nat} {xn : Str} {px : Pos} (hx : K.loc i xn = true) : PE X (.Name xn px) (tVar i) := by
  unfold Ck.loc at hx
  simp only [Bool.and_eq_true, decide_eq_true_eq] at hx
  obtain ⟨z1, z2, _⟩ := okNm_out hx.2
  exact pe_var (by rw [C.nm]; exact hx.1.1) (by rw [C.scope]; exact vis_of hx.1.2) z1 z2
theorem pe_clsN (C : Ctx c n X K) {j : Nat} {yn : Str} {py : Pos} (hy : K.glob yn = true) (hj : K.cnm.lookup j = some yn) : ∃ cw cv, PE X (.Name yn py) (tC cw) ∧ OneV cw cv ∧ ∀ k, c.xs k = true → PySem.W.kitOne X.K (.ref (c.ca k)) cv = some (c.P.sup k j) := by
  obtain ⟨cw, cv, hm, hr, hu, hc⟩ := C.xts j yn hj
  obtain ⟨k1, k2, k3⟩ := gl_of C hy
  refine ⟨cw, cv, ?_, hu, fun k xk => (hc k xk).2⟩
  rcases hm with hm | ⟨hm, hb⟩
  · exact pe_glob k1 hm hr k2
  · exact pe_bltn k1 hm hb hr k3 k2
/-- the classes of a tuple -/
theorem pa_cls (C : Ctx c n X K) : ∀ {js : List Nat} {ys : List Expr}, dclsB K js ys = true → ∃ cws cvs, PA X ys (fun _ H Q => Q cws H) ∧ Paired OneV cws cvs ∧ cws.length = ys.length ∧ ∀ k, c.xs k = true → PySem.W.kitAny X.K (.ref (c.ca k)) cvs = some (js.any fun j => c.P.sup k j)
  | [], [], _ => ⟨[], [], PA.imp pa_nil fun σ H Q h => h, .nil, rfl, fun k _ => rfl⟩
  | j :: js, .Name y py :: ys, h => by
    simp only [dclsB, Bool.and_eq_true, decide_eq_true_eq] at h
    obtain ⟨⟨h1, h2⟩, h3⟩ := h
    obtain ⟨cw, cv, g1, g2, g3⟩ := pe_clsN C (py := py) h1 h2
    obtain ⟨cws, cvs, k1, k2, k3, k4⟩ := pa_cls C h3
    refine ⟨cw :: cws, cv :: cvs, PA.imp (pa_cons g1 k1 rfl) fun σ H Q h => h, .cons g2 k2, by rw [List.length_cons, List.length_cons, k3], fun k xk => ?_⟩
    rw [List.any_cons]
    cases hb : c.P.sup k j with
    | true => exact kitAny_cons (g3 k xk) (fun z => by rw [hb] at z; cases z) fun _ => rfl
    | false => exact kitAny_cons (g3 k xk) (fun _ => by rw [k4 k xk]; rfl) fun z => by rw [hb] at z; cases z
theorem exc_in {i : Nat} {Qx : Addr → Option (Addr × Str × U) → Addr → Option Addr → Nat → List U → Prop} (h : match ρ[i]? with
    | some (some (.exc a dv)) => (match c.cur with
      | some (b, e, k, as) => Qx a dv b e k as
      | _ => False)
    | _ => False) : ∃ a dv b e k as, ρ[i]? = some (some (.exc a dv)) ∧ c.cur = some (b, e, k, as) ∧ Qx a dv b e k as := by
  split at h
  · split at h
    · exact ⟨_, _, _, _, _, _, by assumption, by assumption, h⟩
    · exact h.elim
  · exact h.elim
/-- isinstance(e, C), e what the suite holds -/
theorem c_isx (C : Ctx c n X K) {i j : Nat} {fe : Expr} {xn yn : Str} {px py : Pos} (hf : K.isNm "isinstance" fe = true) (hx : K.loc i xn = true) (hy : K.glob yn = true) (hj : K.cnm.lookup j = some yn) :
    PE X (.Call fe [.Name xn px, .Name yn py] [] pos) (tE c (gN c n) X (.isx i j)) := by
  obtain ⟨fn, p, rfl, exx, hg⟩ := isNm_out hf
  subst exx
  obtain ⟨g1, g2, g3⟩ := gl_of C hg
  obtain ⟨cw, cv, gy, ho, hk⟩ := pe_clsN C (py := py) hy hj
  refine ⟨fun pins s σ H Q I h => ?_⟩
  obtain ⟨L, Z, ρ, G, Xm, Qm, R, hL, w, tk, en⟩ := h
  simp only [wpE] at w
  obtain ⟨a, dv, b, e, k, as, hs, hcur, eab, hdx, w⟩ := exc_in (Qx := fun a dv b e k _ => a = b ∧ dvOk dv e ∧ Qm (.u (.bl (c.P.sup k j))) ρ G) w
  subst eab
  obtain ⟨xk, X0, oe, pn, eX, hz, hdat⟩ := C.exn _ _ _ _ hcur
  obtain ⟨e1, hdv⟩ := exc_slot R hs
  have st : starEach [.Name xn px, .Name yn py] X.env = (false, eval (.Name xn px) X.env) :: starEach [.Name yn py] X.env := rfl
  have cr : CallR X (.builtin "isinstance") (rIsG X.K (c.ca k) a e) := by
    rw [eX]
    exact call_isG (by have := C.xcl k xk; rw [eX] at this; exact this) hz hdat
  refine (pe_callB cr g1 (C.blt _ (by decide +kernel)) (show bootBuiltins (Str.ofString "isinstance") = some (.builtin "isinstance") by decide +kernel) (pa_cons (pe_slot C hx) (pa_cons gy pa_nil rfl) st) g3 g2 st rfl).run pins s σ H Q I ?_
  refine ⟨_, e1, dx_of hdx hdv, .inl ⟨cw, cv, _, rfl, ho, hk k xk, ?_⟩⟩
  exact en.ofU R (fun _ z => z) (Ext.refl _ _) (u := .bl (c.P.sup k j)) (by simp only [RepU]) w
/-- isinstance(e, (C, ..)) -/
theorem c_isxs (C : Ctx c n X K) {i : Nat} {js : List Nat} {fe : Expr} {xn : Str} {ys : List Expr} {kk : Nat} {px pt : Pos} (hf : K.isNm "isinstance" fe = true) (hx : K.loc i xn = true) (hy : dclsB K js ys = true) (hlen : ys.length ≤ 1000) :
    PE X (.Call fe [.Name xn px, .Tuple ys kk pt] [] pos) (tE c (gN c n) X (.isxs i js)) := by
  obtain ⟨fn, p, rfl, exx, hg⟩ := isNm_out hf
  subst exx
  obtain ⟨g1, g2, g3⟩ := gl_of C hg
  obtain ⟨cws, cvs, ga, hp, hl, hk⟩ := pa_cls C hy
  refine ⟨fun pins s σ H Q I h => ?_⟩
  obtain ⟨L, Z, ρ, G, Xm, Qm, R, hL, w, tk, en⟩ := h
  simp only [wpE] at w
  obtain ⟨a, dv, b, e, k, as, hs, hcur, eab, hdx, w⟩ := exc_in (Qx := fun a dv b e k _ => a = b ∧ dvOk dv e ∧ Qm (.u (.bl (js.any fun j => c.P.sup k j))) ρ G) w
  subst eab
  obtain ⟨xk, X0, oe, pn, eX, hz, hdat⟩ := C.exn _ _ _ _ hcur
  obtain ⟨e1, hdv⟩ := exc_slot R hs
  have st : starEach [.Name xn px, .Tuple ys kk pt] X.env = (false, eval (.Name xn px) X.env) :: starEach [.Tuple ys kk pt] X.env := rfl
  have cr : CallR X (.builtin "isinstance") (rIsG X.K (c.ca k) a e) := by
    rw [eX]
    exact call_isG (by have := C.xcl k xk; rw [eX] at this; exact this) hz hdat
  refine (pe_callB cr g1 (C.blt _ (by decide +kernel)) (show bootBuiltins (Str.ofString "isinstance") = some (.builtin "isinstance") by decide +kernel) (pa_cons (pe_slot C hx) (pa_cons (pe_tup ga) pa_nil rfl) st) g3 g2 st rfl).run pins s σ H Q I ?_
  refine ⟨_, e1, ?_⟩
  show cws.length ≤ sizeLine ∧ _
  refine ⟨by rw [hl, sizeLine_def]; omega, fun t ht => ?_⟩
  have hk2 : ∀ b o, H b = some o → upd H t (.tup cws) b = some o := fun b o e => by
    rw [upd_ne (ne_of_none e ht)]; exact e
  have R2 := R.heapExt hk2
  refine ⟨fun dd ed => ?_, .inr ⟨t, cws, cvs, _, rfl, upd_same, hp, hk k xk, ?_⟩⟩
  · obtain ⟨fs, e5⟩ := dx_of hdx hdv dd ed
    exact ⟨fs, hk2 _ _ e5⟩
  · exact en.ofU R2 (fun _ z => z) (fun b o e m => ⟨hk2 b o e, m⟩) (u := .bl (js.any fun j => c.P.sup k j)) (by simp only [RepU]) w
/-- e.f -/
theorem c_exf (C : Ctx c n X K) {i fi : Nat} {xn nm : Str} {px : Pos} (hx : K.loc i xn = true) (hf : K.fdn.lookup fi = some nm) (hns : xn ≠ "super") : PE X (.Attribute (.Name xn px) nm pos) (tE c (gN c n) X (.exf i fi)) := by
  have hn := C.fdn _ _ hf
  subst hn
  refine ⟨fun pins s σ H Q I h => ?_⟩
  obtain ⟨L, Z, ρ, G, Xm, Qm, R, hL, w, tk, en⟩ := h
  simp only [wpE] at w
  split at w
  · rename_i a d s0 x0 hs
    split at w
    · rename_i b e k as hcur
      obtain ⟨⟨e1, e2, e3, e4⟩, w⟩ := w
      subst e1 e2
      obtain ⟨xk, X0, oe, pn, eX, hz, hdat⟩ := C.exn _ _ _ _ hcur
      obtain ⟨q1, q2, q3⟩ := C.xfd k fi xk e3
      obtain ⟨e5, hdv⟩ := exc_slot R hs
      obtain ⟨v, h1, h2⟩ := hdv d s0 x0 rfl
      have hb : attributeBase (.Name xn px) (c.ca.fn fi) X.env (eval (.Name xn px) X.env) = eval (.Name xn px) X.env := attrBase rfl
      have gs := pe_slot C hx (px := px)
      have main : PE X (.Attribute (.Name xn px) (c.ca.fn fi) pos) (tXf a (.ref (c.ca k)) (some d) (c.ca k) (c.ca.fn fi) (tVar i)) := by
        subst eX
        exact pe_xf q2 q3 hz hdat gs hb
      refine main.run pins s σ H Q I ⟨.ref a, e5, rfl, rfl, d, _, v, rfl, h1, ?_, en.ofU R (fun _ z => z) (Ext.refl _ _) h2 w⟩
      rw [List.lookup_cons, e4, q1, beq_self_eq_true]
    · exact w.elim
  · exact w.elim

/-! ### writes -/
theorem set_own {i j : Nat} {u w r0 : U} (hs : ρ[i]? = some (some (.own u))) (h : (ρ.set i (some (.own w)))[j]? = some (some (.own r0))) : ∃ z, ρ[j]? = some (some (.own z)) := by
  rcases set_at h with ⟨e, _⟩ | ⟨_, h⟩
  · exact ⟨u, by rw [e]; exact hs⟩
  · exact ⟨r0, h⟩
/-- the list in a slot gets another content -/
theorem Rep.writeS {i : Nat} {p : Addr} {o' : HO} (R : Rep ca Kf L Z σ H ρ G) (hs : ρ[i]? = some (some (.own u))) (hv : σ[i]? = some (some (.ref p))) (q : RepC Kf H (Or2 (fp σ ρ G) Z) w o') :
    Rep ca Kf L Z σ (upd H p o') (ρ.set i (some (.own w))) G ∧ (∀ a, fp σ (ρ.set i (some (.own w))) G a ↔ fp σ ρ G a) ∧ fp σ ρ G p := by
  have hl : i < ρ.length := (List.getElem?_eq_some_iff.mp hs).1
  have hfp : ∀ a, fp σ (ρ.set i (some (.own w))) G a ↔ fp σ ρ G a := fun a => by
    constructor
    · rintro (h | ⟨j, z, h1, h2⟩)
      · exact .inl h
      · obtain ⟨z', h3⟩ := set_own hs h1
        exact .inr ⟨j, z', h3, h2⟩
    · rintro (h | ⟨j, z, h1, h2⟩)
      · exact .inl h
      · by_cases e : j = i
        · subst e
          exact .inr ⟨j, w, List.getElem?_set_self hl, h2⟩
        · exact .inr ⟨j, z, by rw [List.getElem?_set_ne (Ne.symm e)]; exact h1, h2⟩
  have fpp : fp σ ρ G p := .inr ⟨i, u, hs, hv⟩
  have keep : ∀ a o, a ≠ p → H a = some o → upd H p o' a = some o := fun a o n e => by rw [upd_ne n]; exact e
  have hx : Ext H (Or2 (fp σ ρ G) Z) (upd H p o') (Or2 (fp σ (ρ.set i (some (.own w))) G) Z) := fun a o e n =>
    ⟨keep a o (fun z => n (.inl (z ▸ fpp))) e, fun z => n (z.elim (fun z => .inl ((hfp a).mp z)) .inr)⟩
  refine ⟨⟨by rw [List.length_set]; exact R.len, fun j sv e => ?_, fun j k x y a h1 h2 h3 h4 => ?_, fun j x a h1 h2 => ?_, fun a o e => ?_, fun a z => ?_⟩, hfp, fpp⟩
  · rcases set_at e with ⟨e4, e5⟩ | ⟨ne, e⟩
    · cases e5
      subst e4
      exact ⟨.ref p, hv, p, o', rfl, upd_same, q.ext hx⟩
    · obtain ⟨v, e4, q4⟩ := R.slot j sv e
      refine ⟨v, e4, ?_⟩
      cases sv with
      | u x => exact RepU.ext hx x q4
      | own x =>
        obtain ⟨b, o, e5, e6, q5⟩ := q4
        subst e5
        refine ⟨b, o, rfl, keep b o (fun z => ?_) e6, q5.ext hx⟩
        subst z
        exact ne (R.own j i x u b e hs e4 hv)
      | fz t x =>
        obtain ⟨e5, ⟨n5, l⟩, o, e6, q5⟩ := q4
        exact ⟨e5, ⟨fun z => n5 ((hfp t).mp z), l⟩, o, e6.imp (fun e6 => keep t o (fun z => n5 (z ▸ fpp)) e6) (fun ⟨od, e6⟩ => ⟨od, keep t _ (fun z => n5 (z ▸ fpp)) e6⟩), q5.ext hx⟩
      | exc k d => exact RepE.ext hx q4
  · obtain ⟨z1, h5⟩ := set_own hs h1
    obtain ⟨z2, h6⟩ := set_own hs h2
    exact R.own j k z1 z2 a h5 h6 h3 h4
  · obtain ⟨z1, h5⟩ := set_own hs h1
    exact R.ownG j z1 a h5 h2
  · obtain ⟨ho, e4, q4⟩ := R.heap a o e
    refine ⟨ho, keep a ho (fun z => ?_) e4, q4.ext hx⟩
    subst z
    rw [R.ownG i u a hs hv] at e
    cases e
  · obtain ⟨n5, o, e⟩ := R.zd a z
    exact ⟨fun z2 => n5 ((hfp a).mp z2), o, keep a o (fun z2 => n5 (z2 ▸ fpp)) e⟩
/-- the list at a shared address gets another content -/
theorem Rep.writeG {p : Addr} {o o2 : O} {o' : HO} (R : Rep ca Kf L Z σ H ρ G) (hg : G p = some o) (q : RepO ca Kf H (Or2 (fp σ ρ G) Z) o2 o') :
    Rep ca Kf L Z σ (upd H p o') ρ (put G p o2) ∧ (∀ a, fp σ ρ (put G p o2) a ↔ fp σ ρ G a) ∧ fp σ ρ G p := by
  have hG : ∀ a, (∃ o, put G p o2 a = some o) ↔ ∃ o, G a = some o := fun a => by
    unfold put
    by_cases e : a = p
    · subst e
      rw [if_pos rfl]
      exact ⟨fun _ => ⟨o, hg⟩, fun _ => ⟨o2, rfl⟩⟩
    · rw [if_neg e]
  have hfp : ∀ a, fp σ ρ (put G p o2) a ↔ fp σ ρ G a := fun a => or_congr (hG a) Iff.rfl
  have fpp : fp σ ρ G p := .inl ⟨o, hg⟩
  have keep : ∀ a o, a ≠ p → H a = some o → upd H p o' a = some o := fun a o n e => by rw [upd_ne n]; exact e
  have hx : Ext H (Or2 (fp σ ρ G) Z) (upd H p o') (Or2 (fp σ ρ (put G p o2)) Z) := fun a o e n =>
    ⟨keep a o (fun z => n (.inl (z ▸ fpp))) e, fun z => n (z.elim (fun z => .inl ((hfp a).mp z)) .inr)⟩
  refine ⟨⟨R.len, fun j sv e => ?_, R.own, fun j x a h1 h2 => ?_, fun a ob e => ?_, fun a z => ?_⟩, hfp, fpp⟩
  · obtain ⟨v, e4, q4⟩ := R.slot j sv e
    refine ⟨v, e4, ?_⟩
    cases sv with
    | u x => exact RepU.ext hx x q4
    | own x =>
      obtain ⟨b, o, e5, e6, q5⟩ := q4
      subst e5
      refine ⟨b, o, rfl, keep b o (fun z => ?_) e6, q5.ext hx⟩
      subst z
      rw [R.ownG j x b e e4] at hg
      cases hg
    | fz t x =>
      obtain ⟨e5, ⟨n5, l⟩, o, e6, q5⟩ := q4
      exact ⟨e5, ⟨fun z => n5 ((hfp t).mp z), l⟩, o, e6.imp (fun e6 => keep t o (fun z => n5 (z ▸ fpp)) e6) (fun ⟨od, e6⟩ => ⟨od, keep t _ (fun z => n5 (z ▸ fpp)) e6⟩), q5.ext hx⟩
    | exc k d => exact RepE.ext hx q4
  · have := R.ownG j x a h1 h2
    cases e : put G p o2 a with
    | none => rfl
    | some ob =>
      obtain ⟨o3, h⟩ := (hG a).mp ⟨ob, e⟩
      rw [this] at h; cases h
  · unfold put at e
    by_cases ea : a = p
    · subst ea
      rw [if_pos rfl] at e
      cases e
      exact ⟨o', upd_same, q.ext hx⟩
    · rw [if_neg ea] at e
      obtain ⟨ho, e4, q4⟩ := R.heap a ob e
      exact ⟨ho, keep a ho ea e4, q4.ext hx⟩
  · obtain ⟨n5, o, e⟩ := R.zd a z
    exact ⟨fun z2 => n5 ((hfp a).mp z2), o, keep a o (fun z2 => n5 (z2 ▸ fpp)) e⟩
/-- a list or dict changed by its holder -/
theorem put_con {cx cy : U} {K0 : Rho → Hh → Prop} (R : Rep ca Kf L Z σ H ρ G) (q : Val Kf H (Or2 (fp σ ρ G) Z) σ r x) (ev : vw r ρ G = some cx) (h : putR r cy ρ G K0) :
    ∃ p o, x = .ref p ∧ H p = some o ∧ RepC Kf H (Or2 (fp σ ρ G) Z) cx o ∧ ∀ o', RepC Kf H (Or2 (fp σ ρ G) Z) cy o' → ∃ ρ' G', K0 ρ' G' ∧ Rep ca Kf L Z σ (upd H p o') ρ' G' ∧ (∀ a, fp σ ρ' G' a ↔ fp σ ρ G a) ∧ fp σ ρ G p := by
  cases r with
  | tmp y => exact h.elim
  | exc k => exact h.elim
  | u y =>
    cases y <;> try exact h.elim
    rename_i p
    simp only [vw] at ev
    cases hg : G p with
    | none => rw [hg] at ev; cases ev
    | some o =>
      rw [hg] at ev
      cases o with
      | ins k fs => cases ev
      | con cc =>
        cases ev
        obtain ⟨ho, e1, q1⟩ := R.heap p _ hg
        refine ⟨p, ho, by simpa only [Val, RepU] using q, e1, q1, fun o' qo => ?_⟩
        obtain ⟨R2, hf, hp⟩ := R.writeG hg (o2 := .con cy) (o' := o') qo
        exact ⟨ρ, _, h, R2, hf, hp⟩
  | lv i =>
    have q' : σ[i]? = some (some x) := q
    simp only [vw, putR] at ev h
    cases hs : ρ[i]? with
    | none => rw [hs] at h; exact h.elim
    | some os =>
      rw [hs] at h ev
      cases os with
      | none => exact h.elim
      | some sv =>
        cases sv with
        | u y => exact h.elim
        | fz t y => exact h.elim
        | exc k d => exact h.elim
        | own y =>
          cases ev
          obtain ⟨v, e1, q1⟩ := R.slot i _ hs
          obtain ⟨p, o, e2, e3, q2⟩ := q1
          rw [q'] at e1
          cases e1
          subst e2
          refine ⟨p, o, rfl, e3, q2, fun o' qo => ?_⟩
          obtain ⟨R2, hf, hp⟩ := R.writeS hs q' (w := cy) (o' := o') qo
          exact ⟨_, G, (setK_iff.mp h).2, R2, hf, hp⟩
/-- a list changed by its holder -/
theorem put_list {xs ys : List U} {K0 : Rho → Hh → Prop} (R : Rep ca Kf L Z σ H ρ G) (q : Val Kf H (Or2 (fp σ ρ G) Z) σ r x) (ev : vw r ρ G = some (.lst xs)) (h : putR r (.lst ys) ρ G K0) :
    ∃ p vs, x = .ref p ∧ H p = some (.lst vs) ∧ RepUs Kf H (Or2 (fp σ ρ G) Z) xs vs ∧ ∀ ws, RepUs Kf H (Or2 (fp σ ρ G) Z) ys ws → ∃ ρ' G', K0 ρ' G' ∧ Rep ca Kf L Z σ (upd H p (.lst ws)) ρ' G' ∧ (∀ a, fp σ ρ' G' a ↔ fp σ ρ G a) ∧ fp σ ρ G p := by
  obtain ⟨p, o, h1, h2, ⟨vs, e, h3⟩, go⟩ := put_con R q ev h
  subst e
  exact ⟨p, vs, h1, h2, h3, fun ws qw => go _ ⟨ws, rfl, qw⟩⟩
/-- a dict -/
theorem put_dic {ks ws : List U} {cy : U} {K0 : Rho → Hh → Prop} (R : Rep ca Kf L Z σ H ρ G) (q : Val Kf H (Or2 (fp σ ρ G) Z) σ r x) (ev : vw r ρ G = some (.dic ks ws)) (h : putR r cy ρ G K0) :
    ∃ p kvs, x = .ref p ∧ H p = some (.dK kvs) ∧ ks = kvs.map (fun p => kKey p.1) ∧ RepUs Kf H (Or2 (fp σ ρ G) Z) ws (kvs.map (·.2)) ∧ ∀ o', RepC Kf H (Or2 (fp σ ρ G) Z) cy o' → ∃ ρ' G', K0 ρ' G' ∧ Rep ca Kf L Z σ (upd H p o') ρ' G' ∧ (∀ a, fp σ ρ' G' a ↔ fp σ ρ G a) ∧ fp σ ρ G p := by
  obtain ⟨p, o, h1, h2, ⟨kvs, e, h3, h4⟩, go⟩ := put_con R q ev h
  subst e
  exact ⟨p, kvs, h1, h2, h3, h4, go⟩
end
end Mp

/-! Mp13: methods of built-in types. -/
namespace Mp
open PySem PySem.Spec PyProof.Rows L2

section
variable {X : Cx}
theorem list_extendW (l : Addr) (items : Array Value) (n : Nat) (b : Addr) (items2 : Array Value) (n2 : Nat) (sl2 : Array (Option Value)) (hc0 : ¬(!items.isEmpty && Builtin.List.listTooLong (items.size + items2.size)) = true) (hc1 : items.size ≤ sizeLine) (hs2 : items.size + items2.size ≤ sizeLine + 1) :
    Meets (Builtin.«list.extend» ⟨[.ref l, .ref b], []⟩) (fun _ R s => s.heap.get? l = some { cls := .type "list", dict := none, data := .seq items n, slots := #[] } ∧ s.heap.get? b = some { cls := .type "list", dict := none, data := .seq items2 n2, slots := sl2 } ∧ R (.ok (.ret Value.none)) { s with heap := s.heap.update l (Obj.mapSeq fun x => x ++ items2), toks := s.toks }) :=
  .of_wp fun prog w A R s h => by
    obtain ⟨hp, g, d, tk, os⟩ := s; obtain ⟨hl, hb, h⟩ := h; have f1 := AutoSeq1.idx_int; have f2 := AutoSeq1.sub_tuple_tuple; have f3 := AutoSeq1.sub_list_list; have f4 := AutoSeq1.sub_tuple_list; have f5 := AutoSeq1.sub_list_tuple
    have hz' : (items ++ items2).size ≤ sizeLine + 1 := by rw [Array.size_append]; exact hs2
    wp_walk using (wpAny_updateSeq hl rfl (hz := hc1) (_hz' := hz')), wpAny_loadPart' hl, wpAny_loadPart' hb; exact ⟨_, rfl, h⟩
def rExtendR (K : PySem.W.Frag) : V → List V → Hp → VK → Prop := fun x vs H Q => ∃ l b xs zs, x = .ref l ∧ vs = [.ref b] ∧ H l = some (.lst xs) ∧ SqL K H b zs ∧ xs.length + zs.length ≤ sizeLine ∧ Q .non (upd H l (.lst (xs ++ zs)))
theorem mt_extendR : MtM X "list.extend" (rExtendR X.K) := by
  intro pins s σ H x vs v us Q I rx rv h
  obtain ⟨l, b, xs, zs, rfl, rfl, hH, hB, hz, q⟩ := h
  cases rx
  obtain ⟨u, rfl, ru⟩ := rv.one
  cases ru
  obtain ⟨z, its, n, r, hl, e⟩ := I.lstM hH
  obtain ⟨z2, its2, n2, sl2, r2, hl2, e2⟩ := lstR I hB
  have hsz : its.toArray.size + its2.toArray.size ≤ sizeLine := by rw [List.size_toArray, List.size_toArray]; omega
  have hlong : ¬ (!its.toArray.isEmpty && Builtin.List.listTooLong (its.toArray.size + its2.toArray.size)) = true := by
    rw [notLongL hsz, Bool.and_false]
    exact Bool.false_ne_true
  refine call_meets F.slot_list_extend ⟨_, e, rfl⟩ F.entry_list_extend (F.args_list_extend_2 _ _)
    (list_extendW l its.toArray n b its2.toArray n2 sl2 hlong (by rw [List.size_toArray]; omega) (by omega)) ⟨e, e2, ?_⟩
  refine ⟨.non, _, I.lset (its' := its ++ its2) hH e (by simp) (r.append r2) ?_, rfl, q⟩
  rw [List.length_append]
  omega
end
def Mt.T : Mt → String
  | .append => "list" | .extend => "list" | .pop => "list" | .lindex => "list" | .get => "dict" | .dpop => "dict" | _ => "str"
section
variable {c : Cx0} {n : Nat} {X : Cx} {K : Ck} {L Z Z' : Addr → Prop} {σ : L2.St} {H H1 H2 : Hp} {ρ ρ1 ρ2 : Rho} {G G1 G2 : Hh} {f ex : Addr → Prop} {x y v : V} {u w : U} {Qm : Kc} {Q : VK} {a b d : E} {e1 e2 e3 : Expr} {pos p2 : Pos} {r : R} {ca : Cs} {Γ : Cal} {Kf : PySem.W.Frag}
theorem recv_ty {m : Mt} (nd : m.isD = false) (h : Vw X.K H ex u x) (hr : recM m u = true) : tyV X.K m.T x H := by
  cases u <;> try (cases hr; done)
  · cases m <;> try (cases hr; done)
    all_goals
      simp only [Vw, RepU] at h
      rw [h.1]
      rfl
  · cases m <;> try (cases hr; done)
    all_goals
      obtain ⟨a, vs, e, t, q⟩ := h
      rw [e]
      exact .inl ⟨rfl, vs, t⟩
  · cases m <;> first | (cases hr; done) | (cases nd; done)
theorem br_out {b : Bool} {A : Prop} (h : Br b A False) : b = true ∧ A := by
  cases b with
  | true => exact ⟨rfl, h⟩
  | false => exact h.elim
/-- a write set that is the same -/
theorem Ext.upd' {H0 : Hp} {f0 f1 f2 : Addr → Prop} {p : Addr} {o : HO} (h : Ext H0 f0 H f1) (hp : f1 p) (hf : ∀ a, f2 a ↔ f1 a) : Ext H0 f0 (upd H p o) f2 := fun a w e n => by
  obtain ⟨h1, h2⟩ := h a w e n
  have np : a ≠ p := fun z => h2 (by rw [z]; exact hp)
  exact ⟨by rw [upd_ne np]; exact h1, fun z => h2 ((hf a).mp z)⟩
theorem repUs_one {Hx : Hp} {us : List U} (h : RepUs Kf Hx ex us [y]) : ∃ u, us = [u] ∧ RepU Kf Hx ex u y := by
  cases us with
  | nil => simp [RepUs] at h
  | cons u us =>
    simp only [RepUs] at h
    obtain ⟨v, t, e, q1, q2⟩ := h
    cases e
    cases us with
    | nil => exact ⟨u, rfl, q1⟩
    | cons w ws => simp [RepUs] at q2
theorem joinS_join (s : List Nat) : ∀ ys : List (List Nat), joinS s ys = TL.joinL s ys
  | [] => rfl
  | [_] => rfl
  | x :: y :: r => by
    show x ++ (s ++ joinS s (y :: r)) = x ++ (s ++ TL.joinL s (y :: r))
    rw [joinS_join s (y :: r)]
theorem join_str (s : List Nat) (ys : List (List Nat)) : Txt.join ⟨s.toArray⟩ (ys.map strS) = ⟨(joinS s ys).toArray⟩ := by
  rw [TL.join_eq, joinS_join]
  have h := TL.tl_join ⟨s.toArray⟩ (ys.map strS)
  have e : (ys.map strS).map TL.tl = ys := by
    rw [List.map_map]
    conv => rhs; rw [← List.map_id ys]
    congr 1
  rw [e] at h
  have e2 : TL.tl ⟨s.toArray⟩ = s := rfl
  rw [e2] at h
  generalize hz : Str.join ⟨s.toArray⟩ (ys.map strS) = z at h
  cases z
  rename_i cps
  have h' : cps.toList = TL.joinL s ys := h
  rw [← h']
theorem joinS_mem {s : List Nat} {c : Nat} : ∀ {ys : List (List Nat)}, c ∈ joinS s ys → c ∈ s ∨ ∃ y ∈ ys, c ∈ y
  | [], h => by simp [joinS] at h
  | [x], h => .inr ⟨x, by simp, h⟩
  | x :: y :: r, h => by
    have h' : c ∈ x ++ (s ++ joinS s (y :: r)) := h
    rw [List.mem_append, List.mem_append] at h'
    rcases h' with h' | h' | h'
    · exact .inr ⟨x, by simp, h'⟩
    · exact .inl h'
    · rcases joinS_mem h' with z | ⟨q, hq, z⟩
      · exact .inl z
      · exact .inr ⟨q, List.mem_cons_of_mem _ hq, z⟩
theorem joinS_len (s : List Nat) : ∀ ys : List (List Nat), (joinS s ys).length ≤ (ys.map List.length).sum + ys.length * s.length
  | [] => by simp [joinS]
  | [x] => by simp [joinS]
  | x :: y :: r => by
    have := joinS_len s (y :: r)
    show (x ++ (s ++ joinS s (y :: r))).length ≤ _
    rw [List.length_append, List.length_append]
    simp only [List.map_cons, List.sum_cons, List.length_cons] at this ⊢
    have e : (r.length + 1 + 1) * s.length = (r.length + 1) * s.length + s.length := by rw [Nat.succ_mul]
    omega
/-- one answer as an argument -/
theorem valL_one {rs : List Mp.R} {vs : List V} {q : Mp.R} (h : ValL X.K H ex σ [q] vs) : ∃ y, vs = [y] ∧ Val X.K H ex σ q y := by
  obtain ⟨v, t, e, q1, q2⟩ := h
  have q2' : t = [] := q2
  subst q2'
  exact ⟨v, e, q1⟩
/-- what a method's rule asks -/
def rMt (m : Mt) (K : PySem.W.Frag) : L2.St → V → List V → Hp → VK → Prop := match m with
  | .append => fun _ => rAppend
  | .extend => fun _ => rExtendR K
  | .pop => fun _ => rPop
  | .sindex => rIndexX fun _ _ _ _ => False
  | .lindex => fun _ => rIndex K
  | .join => fun _ x xs H Q => ∃ a p, ∃ ys : List Str, x = .str a ∧ xs = [.ref p] ∧ (SqL K H p (ys.map V.str) ∨ SqT K H p (ys.map V.str)) ∧ (ys.map (·.length)).sum + ys.length * a.length ≤ 16777216 ∧ Q (.str (Txt.join a ys)) H
  | _ => fun _ _ _ _ _ => False
theorem takesF : Takes X fun _ _ _ _ => False := fun u s' ⟨_, _, _, _, _, _, _, _, _, _, _, _, _, _, _, _, h⟩ => h.elim
/-- what is reserved may change -/
theorem Rep.reserved {p : Addr} {o : HO} (R : Rep ca Kf L Z σ H ρ G) (hz : Z p) (hl : ¬ L p) : Rep ca Kf L Z σ (upd H p o) ρ G := by
  have nf := (R.zd p hz).1
  have hx : Ext H (Or2 (fp σ ρ G) Z) (upd H p o) (Or2 (fp σ ρ G) Z) := fun a w e n => by
    have hne : a ≠ p := fun z => by subst z; exact n (.inr hz)
    exact ⟨by rw [upd_ne hne]; exact e, n⟩
  refine ⟨R.len, fun i sv e => ?_, R.own, R.ownG, fun a ob e => ?_, fun a z => ⟨(R.zd a z).1, ?_⟩⟩
  · obtain ⟨v, e1, q⟩ := R.slot i sv e
    refine ⟨v, e1, ?_⟩
    cases sv with
    | u x => exact RepU.ext hx x q
    | own x =>
      obtain ⟨b, w, e2, e3, q⟩ := q
      subst e2
      have hne : b ≠ p := fun z => by subst z; exact nf (.inr ⟨i, x, e, e1⟩)
      exact ⟨b, w, rfl, by rw [upd_ne hne]; exact e3, q.ext hx⟩
    | fz t x =>
      obtain ⟨e2, ⟨n, l⟩, w, e3, q⟩ := q
      have ht : t ≠ p := fun z => by subst z; exact hl l
      exact ⟨e2, ⟨n, l⟩, w, e3.imp (fun e3 => by rw [upd_ne ht]; exact e3) (fun ⟨od, e3⟩ => ⟨od, by rw [upd_ne ht]; exact e3⟩), q.ext hx⟩
    | exc k d => exact RepE.ext hx q
  · obtain ⟨ho, e1, q⟩ := R.heap a ob e
    have hne : a ≠ p := fun z => by subst z; exact nf (.inl ⟨ob, e⟩)
    exact ⟨ho, by rw [upd_ne hne]; exact e1, q.ext hx⟩
  · obtain ⟨_, w, e⟩ := R.zd a z
    by_cases q : a = p
    · subst q; exact ⟨_, upd_same⟩
    · exact ⟨w, by rw [upd_ne q]; exact e⟩
theorem idxOfL_spec {s : List Nat} : ∀ {ss : List (List Nat)} {k j : Nat}, idxOfL s ss k = some j → ∃ i, j = k + i ∧ ss[i]? = some s ∧ ∀ m, m < i → ∀ t, ss[m]? = some t → t ≠ s
  | [], _, _, h => by cases h
  | x :: xs, k, j, h => by
    unfold idxOfL at h
    split at h
    · rename_i e
      cases h
      exact ⟨0, rfl, by rw [e]; rfl, fun m hm => absurd hm (Nat.not_lt_zero _)⟩
    · rename_i ne
      obtain ⟨i, e, h1, h2⟩ := idxOfL_spec h
      refine ⟨i + 1, by omega, by simpa using h1, fun m hm t ht => ?_⟩
      cases m with
      | zero => simp at ht; exact fun z => ne (by rw [ht, z])
      | succ m => exact h2 m (by omega) t (by simpa using ht)
/-- the heart: from the small method to the rule's wish -/
theorem mt_of {m : Mt} (nd : m.isD = false) {ro : Mp.R} {rs : List Mp.R} {vs : List V} (R : Rep c.ca X.K L (Or2 (Or2 Z (Hd ro x)) (Hds rs vs)) σ H ρ G) (hx : Ext H1 f H (fp σ ρ G)) (en : EndE c X L Z σ H1 f Qm Q)
    (qo : Val X.K H (Or2 (fp σ ρ G) (Or2 (Or2 Z (Hd ro x)) (Hds rs vs))) σ ro x) (qs : ValL X.K H (Or2 (fp σ ρ G) (Or2 (Or2 Z (Hd ro x)) (Hds rs vs))) σ rs vs) (ap : Apart rs vs) (nw : ∀ p, Hds rs vs p → ¬ Or2 Z (Hd ro x) p) (hL : ∀ a, L a → Z a) (hw : ∀ p, Hd ro x p → (H1 p = none ∨ f p) ∧ ¬ Z p)
    (h : mtK m ro rs ρ G Qm) : rMt m X.K σ x vs H Q := by
  have hz : ∀ a, Z a → Or2 (Or2 Z (Hd ro x)) (Hds rs vs) a := fun a z => .inl (.inl z)
  cases m with
  | append =>
    cases rs with
    | nil => exact h.elim
    | cons q rs =>
      cases rs with
      | cons _ _ => exact h.elim
      | nil =>
        obtain ⟨us, ρ', k, R', q', sub⟩ := toUs_ok (K0 := fun vs ρ1 => match vs with
          | [v] => vwK ro ρ1 G fun x => match x with
            | .lst xs => xs.length < sizeLine ∧ putT ro (.lst (xs ++ [v])) ρ1 G fun ρ2 G2 => Qm (.u .non) ρ2 G2
            | _ => False
          | _ => False) R qs ap nw h
        obtain ⟨y, e, _⟩ := valL_one (rs := [q]) qs
        subst e
        obtain ⟨v, e, qv⟩ := repUs_one q'
        subst e
        have qo' : Val X.K H (Or2 (fp σ ρ' G) (Or2 Z (Hd ro x))) σ ro x := qo.ext (Ext.sub fun a z => z.elim (fun z => .inl (sub a z)) fun z => .inr (.inl z))
        obtain ⟨u, eu, k⟩ := vwK_out k
        cases u <;> try exact k.elim
        rename_i xs
        have hx2 : Ext H1 f H (fp σ ρ' G) := fun a o e n => ⟨(hx a o e n).1, fun z => (hx a o e n).2 (sub a z)⟩
        by_cases ht : ∃ y, ro = .tmp y
        · obtain ⟨y0, ht⟩ := ht
          subst ht
          cases eu
          obtain ⟨p, o, e1, e2, vs, e3, q1⟩ := qo'
          subst e1 e3
          have hp : Hd (.tmp (.lst xs)) (.ref p) p := rfl
          have R3 : Rep c.ca X.K L (Or2 Z (Hd (.tmp (.lst xs)) (.ref p))) σ (upd H p (.lst (vs ++ [y]))) ρ' G := R'.reserved (.inr hp) fun z => (hw p hp).2 (hL p z)
          refine ⟨p, vs, y, rfl, rfl, e2, by rw [← q1.length]; exact k.1, ?_⟩
          refine en.ofU R3 (fun a z => .inl z) (fun a o e n => ⟨?_, (hx2 a o e n).2⟩) (u := .non) (by simp only [RepU]) k.2
          rw [upd_ne (fun z => ?_)]
          · exact (hx2 a o e n).1
          · subst z
            rcases (hw _ hp).1 with q | q
            · rw [q] at e; cases e
            · exact n q
        have k2 : putR ro (.lst (xs ++ [v])) ρ' G fun ρ2 G2 => Qm (.u .non) ρ2 G2 := by
          have := k.2
          cases ro with
          | tmp y0 => exact absurd ⟨y0, rfl⟩ ht
          | u z => exact this
          | lv z => exact this
          | exc z => exact this
        obtain ⟨p, vs, e1, e2, q1, go⟩ := put_list (K0 := fun ρ2 G2 => Qm (.u .non) ρ2 G2) R' qo' eu k2
        have qn : RepUs X.K H (Or2 (fp σ ρ' G) (Or2 Z (Hd ro x))) (xs ++ [v]) (vs ++ [y]) := q1.append (by simp only [RepUs]; exact ⟨y, [], rfl, qv, rfl⟩)
        obtain ⟨ρ3, G3, kk, R3, hf, hp⟩ := go (vs ++ [y]) qn
        refine ⟨p, vs, y, e1, rfl, e2, by rw [← q1.length]; exact k.1, ?_⟩
        exact en.ofU R3 (fun a z => .inl z) (hx2.upd' hp hf) (u := .non) (by simp only [RepU]) kk
  | extend =>
    cases rs with
    | nil => exact h.elim
    | cons q rs =>
      cases rs with
      | cons _ _ => exact h.elim
      | nil =>
        obtain ⟨y, e, qy⟩ := valL_one (rs := [q]) qs
        subst e
        obtain ⟨w, ew, h⟩ := vwK_out h
        obtain ⟨u, eu, h⟩ := vwK_out h
        have hw := vw_ok R qy ew
        cases u <;> try exact h.elim
        cases w <;> try exact h.elim
        rename_i xs ys
        obtain ⟨b, zs, e3, e4, q4⟩ := hw
        obtain ⟨p, vs, e1, e2, q1, go⟩ := put_list (K0 := fun ρ2 G2 => Qm (.u .non) ρ2 G2) R qo eu h.2
        obtain ⟨ρ3, G3, kk, R3, hf, hp⟩ := go (vs ++ zs) (q1.append q4)
        refine ⟨p, b, vs, zs, e1, by rw [e3], e2, e4, by rw [← q1.length, ← q4.length]; exact h.1, ?_⟩
        exact en.ofU R3 hz (hx.upd' hp hf) (u := .non) (by simp only [RepU]) kk
  | pop =>
    cases rs with
    | cons _ _ => exact h.elim
    | nil =>
      have e : vs = [] := qs
      subst e
      obtain ⟨u, eu, h⟩ := vwK_out h
      cases u <;> try exact h.elim
      rename_i xs
      obtain ⟨v, ev, h⟩ := optK_out h
      obtain ⟨p, vs, e1, e2, q1, go⟩ := put_list (K0 := fun ρ2 G2 => Qm (.u v) ρ2 G2) R qo eu h
      obtain ⟨ρ3, G3, kk, R3, hf, hp⟩ := go vs.dropLast q1.dropLast
      rw [List.getLast?_eq_getElem?] at ev
      obtain ⟨y, e4, q4⟩ := q1.get ev
      rw [q1.length] at e4
      refine ⟨p, vs, y, e1, rfl, e2, e4, ?_⟩
      have hxx : Ext H (Or2 (fp σ ρ G) (Or2 (Or2 Z (Hd ro x)) (Hds [] []))) (upd H p (.lst vs.dropLast)) (Or2 (fp σ ρ3 G3) (Or2 (Or2 Z (Hd ro x)) (Hds [] []))) := fun a o e n =>
        ⟨by rw [upd_ne (fun z : a = p => n (.inl (by rw [z]; exact hp)))]; exact e, fun z => n (z.elim (fun z => .inl ((hf a).mp z)) .inr)⟩
      exact en.ofU R3 hz (hx.upd' hp hf) (RepU.ext hxx v q4) kk
  | sindex =>
    cases rs with
    | nil => exact h.elim
    | cons q rs =>
      cases rs with
      | cons _ _ => exact h.elim
      | nil =>
        obtain ⟨y, e, qy⟩ := valL_one (rs := [q]) qs
        subst e
        obtain ⟨u, eu, h⟩ := vwK_out h
        cases u <;> try exact h.elim
        rename_i s
        obtain ⟨w, ew, h⟩ := vwK_out h
        have hv := vw_ok R qo eu
        have hw := vw_ok R qy ew
        cases w <;> try exact h.elim
        rename_i t
        cases t with
        | nil => exact h.elim
        | cons c0 t =>
          cases t with
          | cons _ _ => exact h.elim
          | nil =>
            obtain ⟨k, ek, h⟩ := optK_out h
            simp only [Vw, RepU] at hv hw
            have hi := index0_one ek
            refine ⟨_, _, hv.1, by rw [hw.1], fun k' e => ?_, fun e => ?_⟩
            · have e' : Txt.index0 ⟨s.toArray⟩ ⟨#[c0]⟩ = some k' := e
              rw [hi] at e'
              cases e'
              exact en.ofU R hz hx (u := .int k) (by simp only [RepU]) h
            · have e' : Txt.index0 ⟨s.toArray⟩ ⟨#[c0]⟩ = none := e
              rw [hi] at e'
              cases e'
  | lindex =>
    cases rs with
    | nil => exact h.elim
    | cons q rs =>
      cases rs with
      | cons _ _ => exact h.elim
      | nil =>
        obtain ⟨y, e, qy⟩ := valL_one (rs := [q]) qs
        subst e
        obtain ⟨u, eu, h⟩ := vwK_out h
        cases u <;> try exact h.elim
        obtain ⟨w, ew, h⟩ := vwK_out h
        have hv := vw_ok R qo eu
        have hw := vw_ok R qy ew
        cases w <;> try exact h.elim
        rename_i s
        obtain ⟨ss, e2, h⟩ := optK_out h
        obtain ⟨k, ek, h⟩ := optK_out h
        obtain ⟨a, vs, e1, t, q1⟩ := hv
        obtain ⟨e3, hg⟩ := allStr_out e2 q1
        subst e3
        obtain ⟨i, e4, h1, h2⟩ := idxOfL_spec ek
        have hw : y = .str (strS s) ∧ GoodS s := by simpa only [Vw, RepU, strS] using hw
        refine ⟨a, (ss.map strS).map V.str, y, i, .str (strS s), e1, rfl, t, by rw [hw.1]; rfl, ?_, by rw [List.getElem?_map, List.getElem?_map, h1]; rfl, by rw [hw.1]; simp [eqV], fun m z hm hz => ?_, ?_⟩
        · rw [List.all_eq_true]
          intro z hz
          obtain ⟨z', _, rfl⟩ := List.mem_map.mp hz
          rfl
        · rw [List.getElem?_map, List.getElem?_map] at hz
          cases hm2 : ss[m]? with
          | none => rw [hm2] at hz; cases hz
          | some t0 =>
            rw [hm2] at hz
            cases hz
            have hne := h2 m hm t0 hm2
            rw [hw.1]
            show (strS t0 == strS s) = false
            simp only [beq_eq_false_iff_ne, ne_eq]
            intro z
            have := congrArg (fun s : Str => s.cps.toList) z
            exact hne (by simpa only [strS_list'] using this)
        · have e5 : k = i := by omega
          subst e5
          exact en.ofU R hz hx (u := .int k) (by simp only [RepU]) h
  | join =>
    cases rs with
    | nil => exact h.elim
    | cons q rs =>
      cases rs with
      | cons _ _ => exact h.elim
      | nil =>
        obtain ⟨y, e, qy⟩ := valL_one (rs := [q]) qs
        subst e
        obtain ⟨u, eu, h⟩ := vwK_out h
        cases u <;> try exact h.elim
        rename_i s
        obtain ⟨w, ew, h⟩ := vwK_out h
        have hv := vw_ok R qo eu
        have hw := vw_ok R qy ew
        cases w <;> try exact h.elim
        obtain ⟨ys, ey, h⟩ := optK_out h
        simp only [Vw, RepU] at hv
        obtain ⟨p, vs, e1, t, q1⟩ := hw
        obtain ⟨e2, gs⟩ := allStr_out ey q1
        subst e2
        refine ⟨_, p, ys.map strS, hv.1, by rw [e1], .inl t, ?_, ?_⟩
        · have h1 := h.1
          rw [sizeLine_def] at h1
          rw [List.map_map, List.length_map]
          exact h1
        · rw [join_str]
          refine en.ofU R hz hx (u := .str (joinS s ys)) ?_ h.2
          simp only [RepU]
          refine ⟨trivial, Nat.le_trans (joinS_len s ys) h.1, fun z hz => ?_⟩
          rcases joinS_mem hz with m | ⟨q, hq, m⟩
          · exact hv.2.2 z m
          · exact (gs q hq).2 z m
  | startswith => exact h.elim
  | split => exact h.elim
  | get => cases nd
  | dpop => cases nd

def Mt.id : Mt → String
  | .lindex => "list.index" | .append => "list.append" | .extend => "list.extend" | .pop => "list.pop" | .sindex => "str.index" | .join => "str.join" | .startswith => "str.startswith" | .split => "str.split" | .get => "dict.get" | .dpop => "dict.pop"
theorem mts_of {id : String} {r : V → List V → Hp → VK → Prop} (h : MtR X id r) : MtS X id fun _ => r := fun pins s σ H x xs v us Q I r1 r2 q => h pins s σ H x xs v us Q I r1 r2 q
theorem mt_rule0 (hc : X.calm = true) : ∀ m : Mt, MtS X m.id (rMt m X.K)
  | .append => mts_of mt_append
  | .extend => mts_of mt_extendR
  | .pop => mts_of mt_pop
  | .sindex => mt_indexX hc takesF
  | .lindex => mts_of mt_index
  | .join => mts_of mt_join
  | .startswith => fun _ _ _ _ _ _ _ _ _ _ _ _ h => h.elim
  | .split => fun _ _ _ _ _ _ _ _ _ _ _ _ h => h.elim
  | .get => fun _ _ _ _ _ _ _ _ _ _ _ _ h => h.elim
  | .dpop => fun _ _ _ _ _ _ _ _ _ _ _ _ h => h.elim
theorem mt_rule {m : Mt} (h : X.calm = true ∨ m = .append) : MtS X m.id (rMt m X.K) := by
  rcases h with h | h
  · exact mt_rule0 h m
  · subst h
    exact mts_of mt_append
theorem mt_facts : ∀ m : Mt, PlainAttrs m.T ∧ Slot m.T (Str.ofString m.name) m.id ∧ typeOf (.builtin m.id) = pure (.type "method_descriptor")
  | .append => ⟨PySem.F.plainAttrs_list, PySem.F.slot_list_append, PySem.F.type_list_append⟩
  | .extend => ⟨PySem.F.plainAttrs_list, PySem.F.slot_list_extend, PySem.F.type_list_extend⟩
  | .pop => ⟨PySem.F.plainAttrs_list, PySem.F.slot_list_pop, PySem.F.type_list_pop⟩
  | .sindex => ⟨PySem.F.plainAttrs_str, PySem.F.slot_str_index, PySem.F.type_str_index⟩
  | .lindex => ⟨PySem.F.plainAttrs_list, PySem.F.slot_list_index, PySem.F.type_list_index⟩
  | .join => ⟨PySem.F.plainAttrs_str, PySem.F.slot_str_join, PySem.F.type_str_join⟩
  | .startswith => ⟨PySem.F.plainAttrs_str, PySem.F.slot_str_startswith, PySem.F.type_str_startswith⟩
  | .split => ⟨PySem.F.plainAttrs_str, PySem.F.slot_str_split, PySem.F.type_str_split⟩
  | .get => ⟨PySem.F.plainAttrs_dict, PySem.F.slot_dict_get, PySem.F.type_dict_get⟩
  | .dpop => ⟨PySem.F.plainAttrs_dict, PySem.F.slot_dict_pop, PySem.F.type_dict_pop⟩
def rZero : Mt → V → List V → Hp → VK → Prop
  | .pop => rPop
  | _ => fun _ _ _ _ => False
theorem mt_zero : ∀ m : Mt, MtR X m.id (rZero m)
  | .pop => mt_pop
  | .append => fun _ _ _ _ _ _ _ _ _ _ _ _ h => h.elim
  | .extend => fun _ _ _ _ _ _ _ _ _ _ _ _ h => h.elim
  | .sindex => fun _ _ _ _ _ _ _ _ _ _ _ _ h => h.elim
  | .lindex => fun _ _ _ _ _ _ _ _ _ _ _ _ h => h.elim
  | .join => fun _ _ _ _ _ _ _ _ _ _ _ _ h => h.elim
  | .startswith => fun _ _ _ _ _ _ _ _ _ _ _ _ h => h.elim
  | .split => fun _ _ _ _ _ _ _ _ _ _ _ _ h => h.elim
  | .get => fun _ _ _ _ _ _ _ _ _ _ _ _ h => h.elim
  | .dpop => fun _ _ _ _ _ _ _ _ _ _ _ _ h => h.elim
theorem zero_of {m : Mt} {vs : List V} (e : vs = []) (h : rMt m X.K σ x vs H Q) : rZero m x vs H Q := by
  subst e
  cases m with
  | pop => exact h
  | append => obtain ⟨_, _, _, _, h, _⟩ := h; cases h
  | extend => obtain ⟨_, _, _, _, _, h, _⟩ := h; cases h
  | sindex => obtain ⟨_, _, _, h, _⟩ := h; cases h
  | lindex => obtain ⟨_, _, _, _, _, _, h, _⟩ := h; cases h
  | join => obtain ⟨_, _, _, _, h, _⟩ := h; cases h
  | startswith => exact h
  | split => exact h
  | get => exact h
  | dpop => exact h
theorem c_bmeth (C : Ctx c n X K) {m : Mt} (hh : K.hot = false ∨ m = .append) (nd : m.isD = false) {o : E} {oe : Expr} {es : Es} {el : List Expr} {ap cp : Pos} (hns : notSup oe = true) (hln : (ap.endLine == cp.line) = true) (hfew : el.length < 9) (hck : ckEs K es el = true) (go : PE X oe (tE c Γ X o)) (ga : PA X el (tA c Γ X es)) :
    PE X (.Call (.Attribute oe (Str.ofString m.name) ap) el [] cp) (tE c Γ X (.bmeth m o es)) := by
  obtain ⟨f1, f2, f3⟩ := mt_facts m
  have main : ∀ {σ : L2.St} {H : Hp} {Q : VK} (S : V → List V → Hp → Prop), (∀ x vs H2, rMt m X.K σ x vs H2 Q → S x vs H2) → tE c Γ X (.bmeth m o es) σ H Q → tE c Γ X o σ H fun x H1 => tyV X.K m.T x H1 ∧ tA c Γ X es σ H1 fun vs H2 => S x vs H2 := fun {σ H Q} S hS ⟨L, Z, ρ, G, Xm, Qm, R, hL, w, tk, en⟩ => by
    simp only [wpE] at w
    refine ⟨L, Z, ρ, G, Xm, _, R, hL, w, tk, fun ro ρ1 G1 x H1 hx R1 w1 => ?_⟩
    obtain ⟨u, eu, w1⟩ := vwK_out w1
    obtain ⟨hr, w1⟩ := br_out w1
    refine ⟨recv_ty nd (vw_ok R1.rep R1.val eu) hr, L, Or2 Z (Hd ro x), ρ1, G1, Xm, _, R1.rep, fun a z => .inl (hL a z), w1, tk.go hx fun a => .inl, fun rs ρ2 G2 vs H2 hx2 R2 q2 apt nw w2 => hS _ _ _ ?_⟩
    exact mt_of nd R2 (hx.trans hx2) en (R1.val.step (fun a z => .inr z) (fun a z => (R1.rep.zd a z).1) hx2 fun p z => (nw p z).1) q2 apt (fun p z => (nw p z).2) hL R1.new w2
  have hb : attributeBase oe (Str.ofString m.name) X.env (eval oe X.env) = eval oe X.env := attrBase hns
  cases el with
  | nil =>
    cases es with
    | cons _ _ => cases hck
    | nil =>
      refine PE.imp (pe_bm0 f1 f2 f3 (mt_zero m) go hb hln) fun σ H Q h => ?_
      have h2 := main (fun x vs H2 => vs = [] → rZero m x vs H2 Q) (fun x vs H2 q e => zero_of e q) h
      obtain ⟨L, Z, ρ, G, Xm, Qm, R, hL, w, tk, en⟩ := h2
      refine ⟨L, Z, ρ, G, Xm, Qm, R, hL, w, tk, fun ro ρ1 G1 x H1 hx R1 w1 => ?_⟩
      obtain ⟨h3, L2, Z2, ρ2, G2, Xm2, Qm2, R2, hL2, w2, tk2, en2⟩ := en ro ρ1 G1 x H1 hx R1 w1
      refine ⟨h3, ?_⟩
      simp only [wpEs] at w2
      have e : Hds [] ([] : List V) = fun _ => False := rfl
      exact en2 [] ρ2 G2 [] H1 (Ext.refl _ _) (by rw [e, or2_false]; exact R2) rfl trivial (fun p z => z.elim) w2 rfl
  | cons e el =>
    cases es with
    | nil => cases hck
    | cons mm ms =>
      have hck' := hck
      simp only [ckEs, Bool.and_eq_true] at hck
      obtain ⟨n1, n2⟩ := cks_nostar (env := X.env) (pos := cp) hck'
      obtain ⟨n3, n4⟩ := cks_nostar (env := X.env) (pos := cp) hck.2
      refine PE.imp (pe_bmS f1 f2 f3 (mt_rule (hh.imp C.calm id)) go ga hb ?_ hln (star_cons (ck_plain hck.1)) n3) fun σ H Q h => main (fun x vs H2 => rMt m X.K σ x vs H2 Q) (fun _ _ _ q => q) h
      rw [n2]
      show (true && true && decide _) = true
      simp only [Bool.and_self, Bool.true_and, decide_eq_true_eq, List.length_nil, List.isEmpty_nil, if_true]
      omega

/-! ### methods of dicts -/
theorem m1_of (C : Ctx c n X K) {oe e1 : Expr} {ap cp : Pos} {nm : Str} (hns : notSup oe = true) (hln : (ap.endLine == cp.line) = true) (hp : plainX e1 = true) : M1 X oe nm ap e1 cp where
  base := attrBase hns
  few := by
    rw [star_cons (es := []) hp]
    rfl
  line := hln
  trees := by
    rw [star_cons (es := []) hp]
    rfl
theorem m2_of (C : Ctx c n X K) {oe e1 e2 : Expr} {ap cp : Pos} {nm : Str} (hns : notSup oe = true) (hln : (ap.endLine == cp.line) = true) (hp : plainX e1 = true) (hp2 : plainX e2 = true) : M2 X oe nm ap e1 e2 cp where
  base := attrBase hns
  few := by
    rw [star_cons (es := [e2]) hp, star_cons (es := []) hp2]
    rfl
  line := hln
  trees := by
    rw [star_cons (es := [e2]) hp, star_cons (es := []) hp2]
    rfl
theorem recM_dic {m : Mt} (hm : m.isD = true) {u : U} (h : recM m u = true) : ∃ ks ws, u = .dic ks ws := by
  cases u <;> first | exact ⟨_, _, rfl⟩ | (cases m <;> first | (cases hm; done) | (cases h; done))
/-- the receiver of a dict's method, then the rest -/
theorem dict_recv {m : Mt} (hm : m.isD = true) {S : Addr → Hp → Prop} {T : Mp.R → Rho → Hh → Prop} {Xm : Xc} (R : Rep c.ca X.K L Z σ H ρ G) (hL : ∀ a, L a → Z a) (tk : Tk c X L Z H (fp σ ρ G) Xm)
    (w : wpE c.P Γ a ρ G Xm fun ro ρ1 G1 => vwK ro ρ1 G1 fun x => Br (recM m x) (T ro ρ1 G1) False)
    (h : ∀ ro ρ1 G1 p H1, Ext H (fp σ ρ G) H1 (fp σ ρ1 G1) → RepR c.ca X.K L Z σ H (fp σ ρ G) H1 ρ1 G1 ro (.ref p) → T ro ρ1 G1 → S p H1) :
    tE c Γ X a σ H fun x H1 => ∃ p, x = .ref p ∧ IsD H1 p ∧ S p H1 := by
  refine ⟨L, Z, ρ, G, Xm, _, R, hL, w, tk, fun ro ρ1 G1 x H1 hx R1 w1 => ?_⟩
  obtain ⟨u, eu, w1⟩ := vwK_out w1
  obtain ⟨hr, w2⟩ := br_out w1
  obtain ⟨ks, ws, e⟩ := recM_dic hm hr
  subst e
  obtain ⟨p, kvs, e, r0, _⟩ := vw_ok R1.rep R1.val eu
  subst e
  exact ⟨p, rfl, .inl ⟨kvs, r0⟩, h ro ρ1 G1 p H1 hx R1 w2⟩
theorem e_dget1 (C : Ctx c n X K) {oe : Expr} {o : E} {ap cp : Pos} (hns : notSup oe = true) (hln : (ap.endLine == cp.line) = true) (hp : plainX e1 = true) (go : PE X oe (tE c Γ X o)) (ga : PE X e1 (tE c Γ X a)) :
    PE X (.Call (.Attribute oe (Str.ofString "get") ap) [e1] [] cp) (tE c Γ X (.bmeth .get o (.cons a .nil))) := by
  refine PE.imp (pe_dget1 (by have := C.unt; omega) go ga (m1_of C hns hln hp)) fun σ H Q ⟨L, Z, ρ, G, Xm, Qm, R, hL, w, tk, en⟩ => ?_
  simp only [wpE, wpEs] at w
  refine dict_recv (m := .get) rfl R hL tk w fun ro ρ1 G1 p H1 hx R1 w1 => ?_
  refine ⟨L, Or2 Z (Hd ro (.ref p)), ρ1, G1, Xm, _, R1.rep, fun a z => .inl (hL a z), w1, tk.go hx fun a => .inl, fun rq ρ2 G2 y H2 hx2 R2 w2 => ?_⟩
  have qo := R1.val.step (fun a z => .inr z) (fun a z => (R1.rep.zd a z).1) hx2 fun p z => (R2.new p z).1
  obtain ⟨uo, eo, w2⟩ := vwK_out w2
  cases uo <;> try exact w2.elim
  obtain ⟨uq, eq, hk, w2⟩ := vwK_out w2
  obtain ⟨a0, kvs, k, x1, r, x2, q2, x3, x4, g⟩ := vw_dic (vw_ok R2.rep qo eo) hk (key_vw hk (vw_ok R2.rep R2.val eq))
  cases x1
  subst x2 x3
  refine ⟨valV kvs k, g, ?_⟩
  obtain ⟨l1, l2⟩ := lookD_val k kvs q2
  have hz : ∀ a, Z a → Or2 (Or2 Z (Hd ro (.ref p))) (Hd rq y) a := fun a z => .inl (.inl z)
  cases el : lookD (kvs.map fun p => kKey p.1) _ (kKey k) with
  | none =>
    rw [el] at w2
    rw [l2 el]
    exact en.ofU R2.rep hz (hx.trans hx2) (u := .non) (by simp only [RepU]; rfl) w2
  | some z =>
    rw [el] at w2
    obtain ⟨v, h1, h2⟩ := l1 z el
    rw [h1]
    exact en.ofU R2.rep hz (hx.trans hx2) h2 w2
theorem e_dget2 (C : Ctx c n X K) {oe : Expr} {o : E} {ap cp : Pos} (hns : notSup oe = true) (hln : (ap.endLine == cp.line) = true) (hp : plainX e1 = true) (hp2 : plainX e2 = true) (go : PE X oe (tE c Γ X o)) (ga : PE X e1 (tE c Γ X a)) (gb : PE X e2 (tE c Γ X b)) :
    PE X (.Call (.Attribute oe (Str.ofString "get") ap) [e1, e2] [] cp) (tE c Γ X (.bmeth .get o (.cons a (.cons b .nil)))) := by
  refine PE.imp (pe_dget2 (by have := C.unt; omega) go ga gb (m2_of C hns hln hp hp2)) fun σ H Q ⟨L, Z, ρ, G, Xm, Qm, R, hL, w, tk, en⟩ => ?_
  simp only [wpE, wpEs] at w
  refine dict_recv (m := .get) rfl R hL tk w fun ro ρ1 G1 p H1 hx R1 w1 => ?_
  refine ⟨L, Or2 Z (Hd ro (.ref p)), ρ1, G1, Xm, _, R1.rep, fun a z => .inl (hL a z), w1, tk.go hx fun a => .inl, fun rq ρ2 G2 y H2 hx2 R2 w2 => ?_⟩
  refine ⟨L, Or2 (Or2 Z (Hd ro (.ref p))) (Hd rq y), ρ2, G2, Xm, _, R2.rep, fun a z => .inl (.inl (hL a z)), w2, tk.go (hx.trans hx2) fun a z => .inl (.inl z), fun rd ρ3 G3 zz H3 hx3 R3 w3 => ?_⟩
  have qo := (R1.val.step (fun a z => .inr z) (fun a z => (R1.rep.zd a z).1) hx2 fun p z => (R2.new p z).1).step (fun a z => .inl (.inr z)) (fun a z => (R2.rep.zd a z).1) hx3 fun p z => (R3.new p z).1
  have qq := R2.val.step (fun a z => .inr z) (fun a z => (R2.rep.zd a z).1) hx3 fun p z => (R3.new p z).1
  obtain ⟨uo, eo, w3⟩ := vwK_out w3
  cases uo <;> try exact w3.elim
  obtain ⟨uq, eq, hk, w3⟩ := vwK_out w3
  obtain ⟨a0, kvs, k, x1, r, x2, q2, x3, x4, g⟩ := vw_dic (vw_ok R3.rep qo eo) hk (key_vw hk (vw_ok R3.rep qq eq))
  cases x1
  subst x2 x3
  refine ⟨valV kvs k, g, ?_⟩
  obtain ⟨l1, l2⟩ := lookD_val k kvs q2
  have hxx := (hx.trans hx2).trans hx3
  cases el : lookD (kvs.map fun p => kKey p.1) _ (kKey k) with
  | none =>
    rw [el] at w3
    rw [l2 el]
    have sub : ∀ a, Or2 Z (Hd rd zz) a → Or2 (Or2 (Or2 Z (Hd ro (.ref p))) (Hd rq y)) (Hd rd zz) a := fun a z => z.elim (fun z => .inl (.inl (.inl z))) .inr
    refine en rd ρ3 G3 zz H3 hxx ⟨R3.rep.less sub, ?_, fun q z => ?_⟩ w3
    · have := R3.val
      cases rd with
      | u x => exact RepU.ext (Ext.sub fun a z => z.elim .inl fun z => .inr (sub a z)) x this
      | tmp x =>
        obtain ⟨q, o, h1, h2, h3⟩ := this
        exact ⟨q, o, h1, h2, h3.ext (Ext.sub fun a z => z.elim .inl fun z => .inr (sub a z))⟩
      | lv i => exact this
      | exc k => exact this
    · obtain ⟨n1, n2⟩ := R3.new q z
      exact ⟨newback (hx.trans hx2) n1, fun z => n2 (.inl (.inl z))⟩
  | some z =>
    rw [el] at w3
    obtain ⟨v, h1, h2⟩ := l1 z el
    rw [h1]
    exact en.ofU R3.rep (fun a z => .inl (.inl (.inl z))) hxx h2 w3
theorem e_dpop1 (C : Ctx c n X K) {oe : Expr} {o : E} {ap cp : Pos} (hns : notSup oe = true) (hln : (ap.endLine == cp.line) = true) (hp : plainX e1 = true) (go : PE X oe (tE c Γ X o)) (ga : PE X e1 (tE c Γ X a)) :
    PE X (.Call (.Attribute oe (Str.ofString "pop") ap) [e1] [] cp) (tE c Γ X (.bmeth .dpop o (.cons a .nil))) := by
  refine PE.imp (pe_dpop1 go ga (m1_of C hns hln hp)) fun σ H Q ⟨L, Z, ρ, G, Xm, Qm, R, hL, w, tk, en⟩ => ?_
  simp only [wpE, wpEs] at w
  refine dict_recv (m := .dpop) rfl R hL tk w fun ro ρ1 G1 p H1 hx R1 w1 => ?_
  refine ⟨L, Or2 Z (Hd ro (.ref p)), ρ1, G1, Xm, _, R1.rep, fun a z => .inl (hL a z), w1, tk.go hx fun a => .inl, fun rq ρ2 G2 y H2 hx2 R2 w2 => ?_⟩
  have qo := R1.val.step (fun a z => .inr z) (fun a z => (R1.rep.zd a z).1) hx2 fun p z => (R2.new p z).1
  obtain ⟨uo, eo, w2⟩ := vwK_out w2
  cases uo <;> try exact w2.elim
  obtain ⟨uq, eq, hk, w2⟩ := vwK_out w2
  obtain ⟨v0, el, w2⟩ := optK_out w2
  obtain ⟨k, x3, x4⟩ := key_out hk (key_vw hk (vw_ok R2.rep R2.val eq))
  subst x3 x4
  obtain ⟨a0, kvs, x1, hH, x2, q2, go2⟩ := put_dic R2.rep qo eo w2
  cases x1
  subst x2
  obtain ⟨l1, _⟩ := lookD_val k kvs q2
  obtain ⟨v, h1, h2⟩ := l1 v0 el
  obtain ⟨d1, d2⟩ := delD_rep k kvs q2
  obtain ⟨ρ4, G4, k4, R4, hf, pf⟩ := go2 (.dK (dropK kvs k)) ⟨_, rfl, d1, d2⟩
  refine ⟨kvs, k, v, hH, rfl, h1, ?_⟩
  refine en.ofU R4 (fun a z => .inl (.inl z)) ((hx.trans hx2).upd' pf hf) ?_ k4
  exact RepU.ext (fun a o e m => ⟨by rw [upd_ne (fun z : a = p => m (.inl (by rw [z]; exact pf)))]; exact e, fun z => m (z.elim (fun z => .inl ((hf a).mp z)) .inr)⟩) v0 h2
theorem e_dpop2 (C : Ctx c n X K) {oe : Expr} {o : E} {ap cp : Pos} (hns : notSup oe = true) (hln : (ap.endLine == cp.line) = true) (hp : plainX e1 = true) (hp2 : plainX e2 = true) (go : PE X oe (tE c Γ X o)) (ga : PE X e1 (tE c Γ X a)) (gb : PE X e2 (tE c Γ X b)) :
    PE X (.Call (.Attribute oe (Str.ofString "pop") ap) [e1, e2] [] cp) (tE c Γ X (.bmeth .dpop o (.cons a (.cons b .nil)))) := by
  refine PE.imp (pe_dpop2 go ga gb (m2_of C hns hln hp hp2)) fun σ H Q ⟨L, Z, ρ, G, Xm, Qm, R, hL, w, tk, en⟩ => ?_
  simp only [wpE, wpEs] at w
  refine dict_recv (m := .dpop) rfl R hL tk w fun ro ρ1 G1 p H1 hx R1 w1 => ?_
  refine ⟨L, Or2 Z (Hd ro (.ref p)), ρ1, G1, Xm, _, R1.rep, fun a z => .inl (hL a z), w1, tk.go hx fun a => .inl, fun rq ρ2 G2 y H2 hx2 R2 w2 => ?_⟩
  refine ⟨L, Or2 (Or2 Z (Hd ro (.ref p))) (Hd rq y), ρ2, G2, Xm, _, R2.rep, fun a z => .inl (.inl (hL a z)), w2, tk.go (hx.trans hx2) fun a z => .inl (.inl z), fun rd ρ3 G3 zz H3 hx3 R3 w3 => ?_⟩
  have qo := (R1.val.step (fun a z => .inr z) (fun a z => (R1.rep.zd a z).1) hx2 fun p z => (R2.new p z).1).step (fun a z => .inl (.inr z)) (fun a z => (R2.rep.zd a z).1) hx3 fun p z => (R3.new p z).1
  have qq := R2.val.step (fun a z => .inr z) (fun a z => (R2.rep.zd a z).1) hx3 fun p z => (R3.new p z).1
  obtain ⟨uo, eo, w3⟩ := vwK_out w3
  cases uo <;> try exact w3.elim
  rename_i ks0 ws0
  obtain ⟨uq, eq, hk, w3⟩ := vwK_out w3
  obtain ⟨k, x3, x4⟩ := key_out hk (key_vw hk (vw_ok R3.rep qq eq))
  subst x3 x4
  have hxx := (hx.trans hx2).trans hx3
  cases el : lookD ks0 ws0 (kKey k) with
  | none =>
    rw [el] at w3
    obtain ⟨a0, kvs, x1, hH, x2, q2, go2⟩ := put_dic (K0 := fun ρ2 G2 => Qm rd ρ2 G2) R3.rep qo eo w3
    cases x1
    subst x2
    refine ⟨kvs, k, hH, rfl, fun v hv => ?_, fun _ => ?_⟩
    · rw [(lookD_val k kvs q2).2 el] at hv; cases hv
    · obtain ⟨ρ4, G4, k4, R4, hf, pf⟩ := go2 (.dK kvs) ⟨_, rfl, rfl, q2⟩
      have eH : upd H3 p (.dK kvs) = H3 := by
        funext b
        by_cases e : b = p
        · rw [e, upd_same, hH]
        · rw [upd_ne e]
      rw [eH] at R4
      have sub : ∀ a, Or2 Z (Hd rd zz) a → Or2 (Or2 (Or2 Z (Hd ro (.ref p))) (Hd rq (kV k))) (Hd rd zz) a := fun a z => z.elim (fun z => .inl (.inl (.inl z))) .inr
      have hs : Ext H3 (Or2 (fp σ ρ3 G3) (Or2 (Or2 (Or2 Z (Hd ro (.ref p))) (Hd rq (kV k))) (Hd rd zz))) H3 (Or2 (fp σ ρ4 G4) (Or2 Z (Hd rd zz))) := Ext.sub fun a z => z.elim (fun z => .inl ((hf a).mp z)) fun z => .inr (sub a z)
      refine en rd ρ4 G4 zz H3 (fun a o e m => ⟨(hxx a o e m).1, fun z => (hxx a o e m).2 ((hf a).mp z)⟩) ⟨R4.less sub, ?_, fun q z => ?_⟩ k4
      · have := R3.val
        cases rd with
        | u x => exact RepU.ext hs x this
        | tmp x =>
          obtain ⟨q, o, h1, h2, h3⟩ := this
          exact ⟨q, o, h1, h2, h3.ext hs⟩
        | lv i => exact this
        | exc k => exact this
      · obtain ⟨n1, n2⟩ := R3.new q z
        exact ⟨newback (hx.trans hx2) n1, fun z => n2 (.inl (.inl z))⟩
  | some v0 =>
    rw [el] at w3
    obtain ⟨a0, kvs, x1, hH, x2, q2, go2⟩ := put_dic R3.rep qo eo w3
    cases x1
    subst x2
    obtain ⟨v, h1, h2⟩ := (lookD_val k kvs q2).1 v0 el
    obtain ⟨d1, d2⟩ := delD_rep k kvs q2
    obtain ⟨ρ4, G4, k4, R4, hf, pf⟩ := go2 (.dK (dropK kvs k)) ⟨_, rfl, d1, d2⟩
    refine ⟨kvs, k, hH, rfl, fun v' hv => ?_, fun hn => by rw [h1] at hn; cases hn⟩
    rw [h1] at hv
    cases hv
    refine en.ofU R4 (fun a z => .inl (.inl (.inl z))) (hxx.upd' pf hf) ?_ k4
    exact RepU.ext (fun a o e m => ⟨by rw [upd_ne (fun z : a = p => m (.inl (by rw [z]; exact pf)))]; exact e, fun z => m (z.elim (fun z => .inl ((hf a).mp z)) .inr)⟩) v0 h2
end
end Mp

/-! enumerate of a tuple -/
namespace RE
open PySem PySem.Spec PyProof.Rows L2
set_option maxHeartbeats 1000000 in
theorem meets_new1 {v : Value} {o : Obj} {H : Heap → Prop} (B : Begins v o H) :
    Meets (Builtin.«enumerate.__new__» ⟨[.type "enumerate", v], []⟩) (fun _ R s => H s.heap ∧
      R (.ok (.ret (.ref (s.heap.push o).objs.size))) { s with heap := (s.heap.push o).push { cls := .type "enumerate", data := .fields #[.none, .bool false, .ref s.heap.objs.size, rawInt 0, .none, .none] } }) :=
  .of_wp fun prog w A R s h => by
    obtain ⟨hp, g, d, tk, os⟩ := s; obtain ⟨h1, h⟩ := h
    have hsub := sub_enumerate
    have q1 : ∀ {A' : Around} {E : Value → Shared → Prop} {Q : Value → Shared → Prop}, Q (.ref hp.objs.size) ⟨hp.push o, g, d, tk, os⟩ → wpAny (model prog w) A' (pyIter v) Q E ⟨hp, g, d, tk, os⟩ :=
      fun q => B.iter prog w _ _ ⟨hp, g, d, tk, os⟩ _ h1 q
    wp_walk using q1
    refine wpAny_stack_any fun st => wpAny_pure ?_
    split
    · rename_i c _ _ _ _ _
      cases (c == Value.type "enumerate")
      · wp_walk using q1
        exact ⟨_, rfl, h⟩
      · wp_walk using q1
        exact ⟨_, rfl, h⟩
    · wp_walk using q1
      exact ⟨_, rfl, h⟩
section
variable {prog : Program} {w : World} {A : Around} {E : Value → Shared → Prop} {s : Shared}
theorem call_tup {l : Addr} {items : Array Value} {Q : Value → Shared → Prop} (hL : s.heap.IsTuple l items)
    (h : ∀ h', IsEnum h' (s.heap.objs.size + 1) s.heap.objs.size 0 .none → h'.IsTupleIter s.heap.objs.size l 0 → h'.objs.size = s.heap.objs.size + 2 →
      (∀ b o, s.heap.get? b = some o → h'.get? b = some o) → Q (.ref (s.heap.objs.size + 1)) { s with heap := h' }) :
    wpAny (model prog w) A (call (.type "enumerate") [.ref l]) Q E s := by
  refine callType_new F.called_enumerate (by decide) (F.typeCall_enumerate_1 _) (F.newCall_enumerate_1 _) (fun obj => F.args_object_init_2 obj _) F.entry_enumerate_new
    (meets_new1 (begins_tuple l items)) ⟨hL, ?_⟩
  have hz : (s.heap.push { cls := .type "tuple_iterator", data := .fields #[.ref l, .int 0 0] }).objs.size = s.heap.objs.size + 1 := Heap.size_push ..
  show _ ∧ _
  rw [hz]
  have he : IsEnum ((s.heap.push { cls := .type "tuple_iterator", data := .fields #[.ref l, .int 0 0] }).push
      { cls := .type "enumerate", data := .fields #[.none, .bool false, .ref s.heap.objs.size, rawInt 0, .none, .none] }) (s.heap.objs.size + 1) s.heap.objs.size 0 .none := by
    have := Heap.get?_push_size (s.heap.push { cls := .type "tuple_iterator", data := .fields #[.ref l, .int 0 0] })
      (o := { cls := .type "enumerate", data := .fields #[.none, .bool false, .ref s.heap.objs.size, rawInt 0, .none, .none] }) rfl
    rw [hz] at this; exact this
  refine ⟨⟨_, he, rfl⟩, h _ he ⟨_, Heap.get?_push_of_some _ (Heap.get?_push_size _ rfl), rfl, rfl⟩ (by rw [Heap.size_push, hz]) fun b o x => Heap.get?_push_of_some _ (Heap.get?_push_of_some _ x)⟩
end
def IteT (K : PySem.W.Frag) (a : Addr) : It :=
  ⟨fun i H => ∃ (xs : List V) (x : V), SqT K H a xs ∧ xs[i]? = some x, fun i H v H' => ∃ T x, v = .ref T ∧ H T = none ∧ H' = upd H T (.tup [.int (i : Nat), x]) ∧ ∀ xs, SqT K H a xs → xs[i]? = some x, fun i H => ∃ xs : List V, SqT K H a xs ∧ xs.length ≤ i⟩
theorem turn_enumT {P : Program} {w : World} {K : PySem.W.Frag} {elts : List Expr} {kk : Nat} {tpos : Pos} (a e it : Addr) :
    Turn P w K (.Tuple elts kk tpos) (IteT K a) [e, it] e (fun i h => (∃ old, IsEnum h e it ((i : Nat) : Int) old) ∧ h.IsTupleIter it a i ∧ e ≠ it) where
  mem := by simp
  obj := fun i h st b hb => by
    obtain ⟨⟨old, he⟩, ⟨o, ho, hc, hd⟩, _⟩ := st
    have e' : b = e ∨ b = it := by simpa using hb
    rcases e' with z | z
    · rw [z]; exact ⟨_, he, fun v q => nomatch q⟩
    · rw [z]; exact ⟨o, ho, fun v q => by rw [hd] at q; cases q⟩
  keep := fun i h h' st k => let ⟨⟨old, he⟩, hi, hne⟩ := st; ⟨⟨old, k e (by simp) _ he⟩, hi.at fun o q => k it (by simp) o q, hne⟩
  item := by
    intro X hP hw hK hc i pins s σ H E I hf st hg
    subst hP hw hK
    obtain ⟨⟨old, he⟩, hit, hne⟩ := st
    obtain ⟨xs, x, hq, hx⟩ := hg
    obtain ⟨its, rv, p, hz⟩ := I.tuple hq
    obtain ⟨u, hu, ru⟩ := rv.get hx
    have p' : s.heap.IsTuple a its.toArray := p
    have hel : e < s.heap.objs.size := Heap.lt_size he
    have hil : it < s.heap.objs.size := by obtain ⟨_, q, _⟩ := hit; exact Heap.lt_size q
    have hea : e ≠ a := fun z => by
      obtain ⟨o, ho, hc2, _⟩ := id p'
      have he2 : s.heap.get? e = some _ := he
      rw [z, ho] at he2
      cases he2
      exact absurd (Value.type.inj hc2) (by decide)
    have hai : a ≠ it := fun z => by
      obtain ⟨o, ho, hc2, _⟩ := id p'
      obtain ⟨o2, ho2, hc3, _⟩ := id hit
      rw [z, ho2] at ho
      cases ho
      rw [hc3] at hc2
      exact absurd (Value.type.inj hc2) (by decide)
    have hlt : i < its.toArray.size := by
      have := (List.getElem?_eq_some_iff.mp hu).1
      simpa using this
    refine wpAny_pyNext_enum_itemD (Draws.tuple (show X.A.in1.handled = none from I.ok.hd hc) it a hai its.toArray) he ⟨hit, p'⟩ hlt hne (by simp [hne, hea]) fun u' h' tk hu' ho st' hT hsz hk => ?_
    have eu : u' = u := by
      have hu' : its.toArray[i]? = some u' := hu'
      simp at hu'
      rw [hu] at hu'
      cases hu'
      rfl
    subst eu
    obtain ⟨hit', _⟩ := st'
    refine ⟨_, rfl, wpAny_letOwnedTupleGo_enum (s := { s with heap := h', toks := tk + 1 }) ho fun h'' he' sb => ?_⟩
    have hT2 : h''.get? s.heap.objs.size = some { cls := .type "tuple", data := .seq #[.int i tk, u'] } := (sb.2 _ (Nat.ne_of_gt hel)).trans hT
    have new : ObjOk X.prog X.w (upd H s.heap.objs.size (.tup [.int (i : Nat), x])) h'' s.heap.objs.size (.tup [.int (i : Nat), x]) :=
      ⟨by show 2 ≤ sizeLine; decide, [.int i tk, u'], .cons ⟨_, rfl⟩ (.cons ru .nil), ⟨_, hT2, rfl, _, rfl⟩⟩
    have I1 : Inv X pins σ (upd H s.heap.objs.size (.tup [.int (i : Nat), x])) { s with heap := h'', toks := tk + 1 } :=
      I.turnedNew (t' := tk + 1) (ch := [e, it]) (fun b ob hb q => (sb.2 b (fun z => hb (by simp [z]))).trans (hk b ob (fun z => hb (by simp [z])) (fun z => hb (by simp [z])) q)) hf (Nat.le_refl _) new
    refine ⟨.ref s.heap.objs.size, _, I1, rfl, ⟨_, x, rfl, I.hok.fresh (Nat.le_refl _), rfl, fun ys hy => by rw [I.tuple_inj hy hq]; exact hx⟩, ⟨⟨u', ?_⟩, hit'.at fun o q => (sb.2 it (Ne.symm hne)).trans q, hne⟩, fun b hb => ?_⟩
    · have e1 : ((i + 1 : Nat) : Int) = (i : Int) + 1 := by omega
      rw [e1]; exact he'
    · have hb' : b < s.heap.objs.size := by
        have e' : b = e ∨ b = it := by simpa using hb
        rcases e' with z | z
        · rw [z]; exact hel
        · rw [z]; exact hil
      rw [upd_ne (Nat.ne_of_lt hb')]
      exact (hf b hb).1
  done := by
    intro X hP hw hK hc i pins s σ H E I hf st hg
    subst hP hw hK
    obtain ⟨⟨old, he⟩, hit, hne⟩ := st
    obtain ⟨xs, hq, hx⟩ := hg
    obtain ⟨its, rv, p, hz⟩ := I.tuple hq
    have p' : s.heap.IsTuple a its.toArray := p
    obtain ⟨f0, f1, f2, f3, f4, f5⟩ := hf it (by simp)
    have hl := rv.length
    unfold pyNext
    have hTy : s.TypeIs (.ref e) "enumerate" := ⟨_, he, rfl⟩
    refine wpAny_bind (wpAny_attempt (wpAny_callSpecial?_slot (name := Str.ofString "__next__") hTy F.slot_enumerate_next
      (wpAny_call_entry F.slot_enumerate_next hTy F.entry_enumerate_next ?_ (F.args_enumerate_next_1 _))))
    show wpAny _ _ (field (.ref e) 2 >>= _) _ _ _
    refine wpAny_bind (wpAny_field he rfl (x := .ref it) rfl ?_)
    refine wpAny_bind (wpAny_nextOf_tuple_end (show X.A.in1.handled = none from I.ok.hd hc) hit p' (List.getElem?_toArray .. ▸ List.getElem?_eq_none (by omega)) fun h' x eb hx' => ?_)
    obtain ⟨o, ho, hcx⟩ := hx'
    refine wpAny_bind (wpAny_isInstance (T := "StopIteration") (b := true) ⟨o, ho, hcx⟩ isSubtype_stop ?_)
    exact wpAny_pure ⟨rfl, I.turned (t' := s.toks) (fun b o hb q => eb b o hb q) f0 f1 f3 f4 f5⟩
  self := fun A i s Q E st h => let ⟨⟨_, he⟩, _⟩ := st; wpAny_pyIter_enum he h
def iEnumA (K : PySem.W.Frag) (ta : TA) : TI := fun σ H R => ta σ H fun vs H1 => ∃ a xs, vs = [.ref a] ∧ ((SqL K H1 a xs ∧ R (Ite K a) H1) ∨ (SqT K H1 a xs ∧ R (IteT K a) H1))
theorem pi_enumA {X : Cx} {e : Expr} {ta : TA} {p pos tpos : Pos} {elts : List Expr} {kk : Nat} (hg : Gl X "enumerate") (hm : X.mg "enumerate" = none) (ha : PA X [e] ta) (hs : starEach [e] X.env = [(false, eval e X.env)] := by rfl) :
    PI X (.Tuple elts kk tpos) (.Call (.Name "enumerate" p) [e] [] pos) (iEnumA X.K ta) := by
  refine ⟨fun pins s σ H R I h => ?_⟩
  refine Call_ (ld_blt I hg hm boot_enumerate (PyProof.Rows.callWith_type1 (thn (ha.run pos pins s σ H _ I h) fun us s1 ⟨vs, H1, I1, r1, q1⟩ => ?_) hs rfl))
  obtain ⟨a, xs, ex, q1⟩ := q1
  subst ex
  cases r1 with
  | cons r rr =>
    cases rr
    cases r
    have fresh2 : ∀ b, b ∈ [s1.heap.objs.size + 1, s1.heap.objs.size] → FpOk X pins H1 b := fun b hb => by
      have e' : b = s1.heap.objs.size + 1 ∨ b = s1.heap.objs.size := by simpa using hb
      have hle : s1.heap.objs.size ≤ b := by
        rcases e' with z | z
        · rw [z]; exact Nat.le_add_right _ _
        · rw [z]; exact Nat.le_refl _
      exact I1.fpOk hle (I1.hok.fresh hle)
    rcases q1 with ⟨hq, q⟩ | ⟨hq, q⟩
    · obtain ⟨its, rv, p', hz⟩ := I1.list hq
      refine call_enumerate_list p'.isList fun h' he hit hsz hk => wpAny_pyIter_enum he ?_
      have I2 : Inv X pins σ H1 { s1 with heap := h' } := I1.kept (t' := s1.toks) hk
      exact ⟨s1.heap.objs.size + 1, [s1.heap.objs.size + 1, s1.heap.objs.size], _, _, H1, rfl, I2, turn_enum a (s1.heap.objs.size + 1) s1.heap.objs.size, ⟨⟨.none, he⟩, hit, Nat.succ_ne_self _⟩, fresh2, q⟩
    · obtain ⟨its, rv, p', hz⟩ := I1.tuple hq
      refine call_tup (show s1.heap.IsTuple a its.toArray from p') fun h' he hit hsz hk => wpAny_pyIter_enum he ?_
      have I2 : Inv X pins σ H1 { s1 with heap := h' } := I1.kept (t' := s1.toks) hk
      exact ⟨s1.heap.objs.size + 1, [s1.heap.objs.size + 1, s1.heap.objs.size], _, _, H1, rfl, I2, turn_enumT a (s1.heap.objs.size + 1) s1.heap.objs.size, ⟨⟨.none, he⟩, hit, Nat.succ_ne_self _⟩, fresh2, q⟩
end RE
/-! Mp14: what is walked. -/
namespace Mp
open PySem PySem.Spec PyProof.Rows L2

/-- a walk of the items us, as long as S stands -/
structure Wk (Kf : PySem.W.Frag) (J : L2.It) (us : List U) (S : Hp → (Addr → Prop) → Prop) : Prop where
  goes : ∀ {i H ex}, i < us.length → S H ex → J.go i H
  stops : ∀ {H ex}, S H ex → J.stop us.length H
  yields : ∀ {i H ex x H' u}, us[i]? = some u → S H ex → (∀ a, ex a → ∃ o, H a = some o) → J.yld i H x H' → (∀ a o, H a = some o → H' a = some o) ∧ RepU Kf H' ex u x
theorem Wk.mono {Kf : PySem.W.Frag} {J : L2.It} {us : List U} {S S' : Hp → (Addr → Prop) → Prop} (w : Wk Kf J us S) (h : ∀ H ex, S' H ex → S H ex) : Wk Kf J us S' :=
  ⟨fun hi s => w.goes hi (h _ _ s), fun s => w.stops (h _ _ s), fun hu s => w.yields hu (h _ _ s)⟩
section
variable {Kf : PySem.W.Frag} {H H' : Hp} {ex : Addr → Prop} {a : Addr} {xs ys us : List U} {J : L2.It}
def SL (Kf : PySem.W.Frag) (a : Addr) (xs : List U) : Hp → (Addr → Prop) → Prop := fun H ex => ∃ vs, SqL Kf H a vs ∧ RepUs Kf H ex xs vs
def ST (Kf : PySem.W.Frag) (a : Addr) (xs : List U) : Hp → (Addr → Prop) → Prop := fun H ex => ∃ vs, TpAt Kf H ex a vs ∧ RepUs Kf H ex xs vs
theorem wk_list : Wk Kf (Itl Kf a) xs (SL Kf a xs) := by
  refine ⟨fun {i H ex} hi ⟨vs, t, q⟩ => ?_, fun {H ex} ⟨vs, t, q⟩ => ?_, fun {i H ex x H' u} hu ⟨vs, t, q⟩ _ y => ?_⟩
  · obtain ⟨v, e, _⟩ := q.get (List.getElem?_eq_getElem hi)
    exact ⟨vs, v, t, e⟩
  · exact ⟨vs, t, by rw [q.length]; exact Nat.le_refl _⟩
  · obtain ⟨v, e, r⟩ := q.get hu
    obtain ⟨e2, y⟩ := y
    subst e2
    rw [y vs t] at e
    cases e
    exact ⟨fun _ _ e => e, r⟩
theorem wk_tup : Wk Kf (Itt Kf a) xs (ST Kf a xs) := by
  refine ⟨fun {i H ex} hi ⟨vs, t, q⟩ => ?_, fun {H ex} ⟨vs, t, q⟩ => ?_, fun {i H ex x H' u} hu ⟨vs, t, q⟩ _ y => ?_⟩
  · obtain ⟨v, e, _⟩ := q.get (List.getElem?_eq_getElem hi)
    exact ⟨vs, v, sqT_of t, e⟩
  · exact ⟨vs, sqT_of t, by rw [q.length]; exact Nat.le_refl _⟩
  · obtain ⟨v, e, r⟩ := q.get hu
    obtain ⟨e2, y⟩ := y
    subst e2
    rw [y vs (sqT_of t)] at e
    cases e
    exact ⟨fun _ _ e => e, r⟩
theorem wk_str {s : List Nat} (g : GoodS s) : Wk Kf (Its ⟨s.toArray⟩) (s.map fun c => .str [c]) (fun _ _ => True) := by
  refine ⟨fun {i H ex} hi _ => ?_, fun {H ex} _ => ?_, fun {i H ex x H' u} hu _ _ y => ?_⟩
  · show i < s.toArray.size
    simpa using hi
  · show s.toArray.size ≤ _
    simp
  · obtain ⟨e2, c, ec, ex'⟩ := y
    subst e2
    subst ex'
    refine ⟨fun _ _ e => e, ?_⟩
    have ec : s[i]? = some c := by simpa using ec
    rw [List.getElem?_map, ec] at hu
    cases hu
    simp only [RepU]
    refine ⟨trivial, by simp [sizeLine], fun d hd => ?_⟩
    obtain ⟨h1, h2⟩ := List.getElem?_eq_some_iff.mp ec
    have : d = c := by simpa using hd
    rw [this, ← h2]
    exact g.2 _ (List.getElem_mem _)
theorem wk_rng {lo hi : Int} : Wk Kf (Itr lo (hi - lo).toNat) (rangeI lo hi) (fun _ _ => True) := by
  refine ⟨fun {i H ex} hi _ => ?_, fun {H ex} _ => ?_, fun {i H ex x H' u} hu _ _ y => ?_⟩
  · show i < _
    simpa [rangeI] using hi
  · show _ ≤ _
    simp [rangeI]
  · obtain ⟨e2, e3⟩ := y
    subst e2
    subst e3
    refine ⟨fun _ _ e => e, ?_⟩
    unfold rangeI at hu
    rw [List.getElem?_map] at hu
    cases e : (List.range (hi - lo).toNat)[i]? with
    | none => rw [e] at hu; cases hu
    | some k =>
      rw [e] at hu
      cases hu
      obtain ⟨h1, h2⟩ := List.getElem?_eq_some_iff.mp e
      have : k = i := by rw [← h2]; simp
      subst this
      simp only [RepU]
theorem enumI_get : ∀ {xs : List U} {k i : Nat} {u : U}, (enumI k xs)[i]? = some u → ∃ y, xs[i]? = some y ∧ u = .tup [.int ((k + i : Nat) : Int), y]
  | [], k, i, u, h => by simp [enumI] at h
  | x :: xs, k, 0, u, h => by
    simp [enumI] at h
    exact ⟨x, by simp, by rw [← h]; simp⟩
  | x :: xs, k, i + 1, u, h => by
    simp only [enumI, List.getElem?_cons_succ] at h
    obtain ⟨y, h1, h2⟩ := enumI_get h
    exact ⟨y, by simpa using h1, by rw [h2]; congr 3; omega⟩
theorem enumI_len : ∀ {xs : List U} {k : Nat}, (enumI k xs).length = xs.length
  | [], _ => rfl
  | x :: xs, k => by rw [enumI, List.length_cons, List.length_cons, enumI_len]
theorem rep_pair {T : Addr} {u w : U} {x y : V} (hT : H T = none) (hex : ∀ a, ex a → ∃ o, H a = some o) (q1 : RepU Kf H ex u x) (q2 : RepU Kf H ex w y) :
    (∀ a o, H a = some o → upd H T (.tup [x, y]) a = some o) ∧ RepU Kf (upd H T (.tup [x, y])) ex (.tup [u, w]) (.ref T) := by
  have hk : ∀ a o, H a = some o → upd H T (.tup [x, y]) a = some o := fun a o e => by
    rw [upd_ne (ne_of_none e hT)]; exact e
  have hx : Ext H ex (upd H T (.tup [x, y])) ex := fun a o e n => ⟨hk a o e, n⟩
  refine ⟨hk, ?_⟩
  simp only [RepU]
  refine ⟨T, [x, y], rfl, .inl ⟨.inl upd_same, fun z => ?_⟩, ?_⟩
  · obtain ⟨o, e⟩ := hex T z
    rw [hT] at e; cases e
  · simp only [RepUs]
    exact ⟨x, _, rfl, RepU.ext hx _ q1, y, _, rfl, RepU.ext hx _ q2, rfl⟩
theorem wk_enum : Wk Kf (Ite Kf a) (enumI 0 xs) (SL Kf a xs) := by
  refine ⟨fun {i H ex} hi ⟨vs, t, q⟩ => ?_, fun {H ex} ⟨vs, t, q⟩ => ?_, fun {i H ex x H' u} hu ⟨vs, t, q⟩ hex y => ?_⟩
  · rw [enumI_len] at hi
    obtain ⟨v, e, _⟩ := q.get (List.getElem?_eq_getElem hi)
    exact ⟨vs, v, t, e⟩
  · exact ⟨vs, t, by rw [enumI_len, q.length]; exact Nat.le_refl _⟩
  · obtain ⟨w, e1, e2⟩ := enumI_get hu
    obtain ⟨v, e, r⟩ := q.get e1
    obtain ⟨T, z, h1, h2, h3, h4⟩ := y
    rw [h4 vs t] at e
    cases e
    subst h1
    subst h3
    rw [e2, show ((0 + i : Nat) : Int) = (i : Nat) by simp]
    exact rep_pair h2 hex (by simp only [RepU]) r
theorem wk_enumT : Wk Kf (RE.IteT Kf a) (enumI 0 xs) (ST Kf a xs) := by
  refine ⟨fun {i H ex} hi ⟨vs, t, q⟩ => ?_, fun {H ex} ⟨vs, t, q⟩ => ?_, fun {i H ex x H' u} hu ⟨vs, t, q⟩ hex y => ?_⟩
  · rw [enumI_len] at hi
    obtain ⟨v, e, _⟩ := q.get (List.getElem?_eq_getElem hi)
    exact ⟨vs, v, sqT_of t, e⟩
  · exact ⟨vs, sqT_of t, by rw [enumI_len, q.length]; exact Nat.le_refl _⟩
  · obtain ⟨w, e1, e2⟩ := enumI_get hu
    obtain ⟨v, e, r⟩ := q.get e1
    obtain ⟨T, z, h1, h2, h3, h4⟩ := y
    rw [h4 vs (sqT_of t)] at e
    cases e
    subst h1
    subst h3
    rw [e2, show ((0 + i : Nat) : Int) = (i : Nat) by simp]
    exact rep_pair h2 hex (by simp only [RepU]) r
theorem zipI_get : ∀ {xs ys : List U} {i : Nat} {u : U}, (zipI xs ys)[i]? = some u → ∃ y z, xs[i]? = some y ∧ ys[i]? = some z ∧ u = .tup [y, z]
  | [], _, i, u, h => by simp [zipI] at h
  | _ :: _, [], i, u, h => by simp [zipI] at h
  | x :: xs, y :: ys, 0, u, h => by
    simp [zipI] at h
    exact ⟨x, y, by simp, by simp, h.symm⟩
  | x :: xs, y :: ys, i + 1, u, h => by
    simp only [zipI, List.getElem?_cons_succ] at h
    obtain ⟨y, z, h1, h2, h3⟩ := zipI_get h
    exact ⟨y, z, by simpa using h1, by simpa using h2, h3⟩
theorem zipI_len : ∀ {xs ys : List U}, (zipI xs ys).length = min xs.length ys.length
  | [], ys => by simp [zipI]
  | x :: xs, [] => by simp [zipI]
  | x :: xs, y :: ys => by
    rw [zipI, List.length_cons, List.length_cons, List.length_cons, zipI_len]
    omega
theorem wk_zip {b : Addr} : Wk Kf (Itz Kf a b) (zipI xs ys) (fun H ex => SL Kf a xs H ex ∧ SL Kf b ys H ex) := by
  refine ⟨fun {i H ex} hi ⟨⟨vs, t, q⟩, ws, t2, q2⟩ => ?_, fun {H ex} ⟨⟨vs, t, q⟩, ws, t2, q2⟩ => ?_, fun {i H ex x H' u} hu ⟨⟨vs, t, q⟩, ws, t2, q2⟩ hex y => ?_⟩
  · rw [zipI_len] at hi
    obtain ⟨v, e, _⟩ := q.get (List.getElem?_eq_getElem (show i < xs.length by omega))
    obtain ⟨w, e2, _⟩ := q2.get (List.getElem?_eq_getElem (show i < ys.length by omega))
    exact ⟨vs, ws, v, w, t, t2, e, e2⟩
  · refine ⟨vs, ws, t, t2, ?_⟩
    have h1 := q.length
    have h2 := q2.length
    rw [zipI_len]
    omega
  · obtain ⟨u1, u2, e1, e2, eu⟩ := zipI_get hu
    obtain ⟨v, e3, r⟩ := q.get e1
    obtain ⟨w, e4, r2⟩ := q2.get e2
    obtain ⟨T, z1, z2, h1, h2, h3, h4, h5⟩ := y
    rw [h4 vs t] at e3
    rw [h5 ws t2] at e4
    cases e3
    cases e4
    subst h1
    subst h3
    rw [eu]
    exact rep_pair h2 hex r r2
theorem wk_zipT {b : Addr} : Wk Kf (RZ.ItzT Kf a b) (zipI xs ys) (fun H ex => ST Kf a xs H ex ∧ ST Kf b ys H ex) := by
  refine ⟨fun {i H ex} hi ⟨⟨vs, t, q⟩, ws, t2, q2⟩ => ?_, fun {H ex} ⟨⟨vs, t, q⟩, ws, t2, q2⟩ => ?_, fun {i H ex x H' u} hu ⟨⟨vs, t, q⟩, ws, t2, q2⟩ hex y => ?_⟩
  · rw [zipI_len] at hi
    obtain ⟨v, e, _⟩ := q.get (List.getElem?_eq_getElem (show i < xs.length by omega))
    obtain ⟨w, e2, _⟩ := q2.get (List.getElem?_eq_getElem (show i < ys.length by omega))
    exact ⟨vs, ws, v, w, sqT_of t, sqT_of t2, e, e2⟩
  · refine ⟨vs, ws, sqT_of t, sqT_of t2, ?_⟩
    have h1 := q.length
    have h2 := q2.length
    rw [zipI_len]
    omega
  · obtain ⟨u1, u2, e1, e2, eu⟩ := zipI_get hu
    obtain ⟨v, e3, r⟩ := q.get e1
    obtain ⟨w, e4, r2⟩ := q2.get e2
    obtain ⟨T, z1, z2, h1, h2, h3, h4, h5⟩ := y
    rw [h4 vs (sqT_of t)] at e3
    rw [h5 ws (sqT_of t2)] at e4
    cases e3
    cases e4
    subst h1
    subst h3
    rw [eu]
    exact rep_pair h2 hex r r2
theorem get_rev {α : Type} {xs : List α} {i : Nat} {u : α} (h : xs.reverse[i]? = some u) : i < xs.length ∧ xs[xs.length - 1 - i]? = some u := by
  have hl : i < xs.length := by
    obtain ⟨h1, _⟩ := List.getElem?_eq_some_iff.mp h
    simpa using h1
  refine ⟨hl, ?_⟩
  rw [List.getElem?_reverse hl] at h
  exact h
theorem wk_rev {n : Nat} (hn : n = xs.length) : Wk Kf (Itv Kf a n) xs.reverse (SL Kf a xs) := by
  subst hn
  refine ⟨fun {i H ex} hi ⟨vs, t, q⟩ => ?_, fun {H ex} _ => ?_, fun {i H ex x H' u} hu ⟨vs, t, q⟩ _ y => ?_⟩
  · rw [List.length_reverse] at hi
    obtain ⟨v, e, _⟩ := q.get (List.getElem?_eq_getElem (show xs.length - 1 - i < xs.length by omega))
    exact ⟨hi, vs, v, t, e⟩
  · show xs.length ≤ _
    rw [List.length_reverse]
    exact Nat.le_refl _
  · obtain ⟨hl, hu⟩ := get_rev hu
    obtain ⟨v, e, r⟩ := q.get hu
    obtain ⟨e2, y⟩ := y
    subst e2
    rw [y vs t] at e
    cases e
    exact ⟨fun _ _ e => e, r⟩
theorem wk_revT {n : Nat} (hn : n = xs.length) : Wk Kf (RT.ItvT Kf a n) xs.reverse (ST Kf a xs) := by
  subst hn
  refine ⟨fun {i H ex} hi ⟨vs, t, q⟩ => ?_, fun {H ex} _ => ?_, fun {i H ex x H' u} hu ⟨vs, t, q⟩ _ y => ?_⟩
  · rw [List.length_reverse] at hi
    obtain ⟨v, e, _⟩ := q.get (List.getElem?_eq_getElem (show xs.length - 1 - i < xs.length by omega))
    exact ⟨hi, vs, v, sqT_of t, e⟩
  · show xs.length ≤ _
    rw [List.length_reverse]
    exact Nat.le_refl _
  · obtain ⟨hl, hu⟩ := get_rev hu
    obtain ⟨v, e, r⟩ := q.get hu
    obtain ⟨e2, y⟩ := y
    subst e2
    rw [y vs (sqT_of t)] at e
    cases e
    exact ⟨fun _ _ e => e, r⟩
end

/-! ### sources -/
def SrcOk (Kf : PySem.W.Frag) (src : Src) (J : L2.It) (H : Hp) (f Z : Addr → Prop) (σ : L2.St) (ρ : Rho) (G : Hh) : Prop :=
  match src with
  | .fix us => ∃ S, Wk Kf J us S ∧ ∀ H2 f2, Ext H f H2 f2 → S H2 (Or2 f2 Z)
  | .slot i c us => ∃ t, ρ[i]? = some (some (.own c)) ∧ σ[i]? = some (some (.ref t)) ∧ Wk Kf J us (fun H ex => Vw Kf H ex c (.ref t))
  | .heap a c us => G a = some (.con c) ∧ Wk Kf J us (fun H ex => Vw Kf H ex c (.ref a))
section
variable {c : Cx0} {n : Nat} {X : Cx} {K : Ck} {L Z Z' : Addr → Prop} {σ : L2.St} {H H1 H2 : Hp} {ρ ρ1 ρ2 : Rho} {G G1 G2 : Hh} {f ex : Addr → Prop} {x y v : V} {u w : U} {Qm : Kc} {Q : VK} {a b d : E} {e1 e2 e3 tg : Expr} {pos p2 : Pos} {r : R} {ca : Cs} {Γ : Cal} {Kf : PySem.W.Frag} {xs ys us : List U} {J : L2.It}
theorem Ext.keepZ {f' : Addr → Prop} (h : Ext H f H1 f') : Ext H (Or2 f Z) H1 (Or2 f' Z) := by
  have := h.withZ (Z := Z) (N := fun _ => False) fun p z => z.elim
  rwa [or2_false] at this
theorem vw_lst {t : Addr} (h : Vw Kf H ex (.lst xs) (.ref t)) : SL Kf t xs H ex := by
  obtain ⟨a, vs, e, h, q⟩ := h
  cases e
  exact ⟨vs, h, q⟩
theorem src_list {Kc' : Src → Prop} (R : Rep ca Kf L Z σ H ρ G) (q : Val Kf H (Or2 (fp σ ρ G) Z) σ r v) (ha : ∀ p, Hd r v p → Z p) (ev : vw r ρ G = some (.lst xs)) (hJ : ∀ p, v = .ref p → Wk Kf J us (SL Kf p xs)) (h : srcR r ρ (.lst xs) us Kc') :
    ∃ src, Kc' src ∧ SrcOk Kf src J H (fp σ ρ G) Z σ ρ G := by
  have hv := vw_ok R q ev
  obtain ⟨p, vs, e, t, qs⟩ := hv
  have hW := hJ p e
  have st : ¬ fp σ ρ G p → ∀ H2 f2, Ext H (fp σ ρ G) H2 f2 → SL Kf p xs H2 (Or2 f2 Z) := fun n H2 f2 hx => ⟨vs, t.imp (fun t => (Rd.ext hx n t).1) id, RepUs.ext hx.keepZ _ qs⟩
  cases r with
  | exc k => cases ev
  | tmp y =>
    refine ⟨_, h, _, hW, st ?_⟩
    exact (R.zd p (ha p e)).1
  | lv i =>
    have q' : σ[i]? = some (some v) := q
    simp only [vw] at ev
    simp only [srcR] at h
    cases hs : ρ[i]? with
    | none => rw [hs] at ev; cases ev
    | some os =>
      rw [hs] at ev h
      cases os with
      | none => cases ev
      | some sv =>
        obtain ⟨w, e1, q1⟩ := R.slot i sv hs
        rw [q'] at e1
        cases e1
        cases sv with
        | u y => cases ev
        | exc k => cases ev
        | own y =>
          cases ev
          refine ⟨_, h, p, hs, by rw [← e]; exact q', hW.mono fun H ex h => vw_lst h⟩
        | fz t2 y =>
          cases ev
          refine ⟨_, h, _, hW, st ?_⟩
          obtain ⟨e3, ⟨n1, _⟩, _⟩ := q1
          rw [e] at e3
          cases e3
          exact n1
  | u y =>
    cases y <;> simp only [vw] at ev <;> try (cases ev; done)
    · cases ev
      refine ⟨_, h, _, hW, fun H2 f2 hx => ?_⟩
      have q' := RepU.ext hx.keepZ _ (show RepU Kf H (Or2 (fp σ ρ G) Z) (.lst xs) v from q)
      simp only [RepU] at q'
      obtain ⟨p2, ws, e4, t4, q4⟩ := q'
      rw [e] at e4
      cases e4
      exact ⟨ws, sqL_of t4, q4⟩
    · rename_i a
      cases hg : G a with
      | none => rw [hg] at ev; cases ev
      | some o =>
        rw [hg] at ev
        cases o with
        | ins k fs => cases ev
        | con cc =>
          cases ev
          simp only [Val, RepU] at q
          rw [e] at q
          cases q
          exact ⟨_, h, hg, hW.mono fun H ex h => vw_lst h⟩
def conU : U → Bool
  | .lst _ => true | .dic _ _ => true | _ => false
theorem repC_con {o : HO} (q : RepC Kf H ex u o) : conU u = true := by
  cases u <;> first | rfl | exact q.elim
/-- what is no list or dict is a value -/
theorem vw_u (R : Rep ca Kf L Z σ H ρ G) (q : Val Kf H (Or2 (fp σ ρ G) Z) σ r v) (ev : vw r ρ G = some u) (hu : conU u = false) : r = .u u := by
  cases r with
  | exc k => cases ev
  | tmp y =>
    cases ev
    obtain ⟨p, o, _, _, q⟩ := q
    rw [repC_con q] at hu; cases hu
  | lv i =>
    simp only [vw] at ev
    cases hs : ρ[i]? with
    | none => rw [hs] at ev; cases ev
    | some os =>
      rw [hs] at ev
      cases os with
      | none => cases ev
      | some sv =>
        obtain ⟨w, e1, q1⟩ := R.slot i sv hs
        cases sv with
        | u y => cases ev
        | exc k => cases ev
        | own y =>
          cases ev
          obtain ⟨p, o, _, _, q⟩ := q1
          rw [repC_con q] at hu; cases hu
        | fz t2 y =>
          cases ev
          obtain ⟨_, _, o, _, q⟩ := q1
          rw [repC_con q] at hu; cases hu
  | u y =>
    cases y <;> simp only [vw] at ev <;> try (cases ev; rfl)
    rename_i a
    cases hg : G a with
    | none => rw [hg] at ev; cases ev
    | some o =>
      rw [hg] at ev
      cases o with
      | ins k fs => cases ev
      | con cc =>
        cases ev
        obtain ⟨ho, _, q⟩ := R.heap a _ hg
        have hq := repC_con (show RepC Kf H (Or2 (fp σ ρ G) Z) _ ho from q)
        rw [hq] at hu; cases hu
theorem src_tup {Kc' : Src → Prop} (R : Rep ca Kf L Z σ H ρ G) (q : Val Kf H (Or2 (fp σ ρ G) Z) σ r v) (ev : vw r ρ G = some (.tup xs)) (hJ : ∀ p, v = .ref p → Wk Kf J us (ST Kf p xs)) (h : srcR r ρ (.tup xs) us Kc') :
    ∃ src, Kc' src ∧ SrcOk Kf src J H (fp σ ρ G) Z σ ρ G := by
  have := vw_u R q ev rfl
  subst this
  have q' : RepU Kf H (Or2 (fp σ ρ G) Z) (.tup xs) v := q
  obtain ⟨p, vs, e, t, qs⟩ := id (by simpa only [RepU] using q')
  refine ⟨_, h, _, hJ p e, fun H2 f2 hx => ?_⟩
  have := RepU.ext hx.keepZ _ q'
  simp only [RepU] at this
  obtain ⟨p2, ws, e2, t2, q2⟩ := this
  rw [e] at e2
  cases e2
  exact ⟨ws, t2, q2⟩

def tI (c : Cx0) (Γ : Cal) (X : Cx) (it : It) : TI := fun σ H Rj => ∃ L Z ρ G Xm Qm, Rep c.ca X.K L Z σ H ρ G ∧ (∀ a, L a → Z a) ∧ wpIt c.P Γ it ρ G Xm Qm ∧ Tk c X L Z H (fp σ ρ G) Xm ∧
  ∀ src ρ' G' J H' Z', (∀ a, Z a → Z' a) → Ext H (fp σ ρ G) H' (fp σ ρ' G') → Rep c.ca X.K L Z' σ H' ρ' G' → SrcOk X.K src J H' (fp σ ρ' G') Z' σ ρ' G' → Qm src ρ' G' → Rj J H'
theorem PI.imp {X : Cx} {tg e : Expr} {t t' : TI} (h : PI X tg e t) (i : ∀ σ H Q, t' σ H Q → t σ H Q) : PI X tg e t' := ⟨fun pins s σ H Q I q => h.run pins s σ H Q I (i σ H Q q)⟩
/-- a list, a tuple or a text, by value -/
def iSeq (K : PySem.W.Frag) (te : TE) : TI := fun σ H R => te σ H fun v H1 => (∃ a xs, v = .ref a ∧ SqL K H1 a xs ∧ R (Itl K a) H1) ∨ (∃ a xs, v = .ref a ∧ SqT K H1 a xs ∧ R (Itt K a) H1) ∨ ∃ x, v = .str x ∧ R (Its x) H1
theorem pi_seq {e : Expr} {te : TE} (he : PE X e te) : PI X tg e (iSeq X.K te) := by
  refine ⟨fun pins s σ H R I h => ?_⟩
  refine thn (he.run pins s σ H _ I h) fun v s1 ⟨x, H1, I1, r1, q1⟩ => ?_
  rcases q1 with ⟨a, xs, e, hq, q⟩ | ⟨a, xs, e, hq, q⟩ | ⟨x, ex, q⟩
  · subst e
    cases r1
    obtain ⟨its, rv, p, hz⟩ := I1.list hq
    refine wpAny_pyIter_list p.isList ?_
    refine ⟨s1.heap.objs.size, [s1.heap.objs.size], _, _, H1, rfl, I1.kept (t' := s1.toks) fun b o e => Heap.get?_push_of_some _ e, turn_list a _, ⟨_, Heap.get?_push_size _ rfl, rfl, rfl⟩, fun b hb => ?_, q⟩
    have e : b = s1.heap.objs.size := by simpa using hb
    subst e
    exact I1.fpOk (Nat.le_refl _) (I1.hok.fresh (Nat.le_refl _))
  · subst e
    cases r1
    obtain ⟨its, rv, p, hz⟩ := I1.tuple hq
    refine wpAny_pyIter_tuple (show s1.heap.IsTuple a its.toArray from p) ?_
    refine ⟨s1.heap.objs.size, [s1.heap.objs.size], _, _, H1, rfl, I1.kept (t' := s1.toks) fun b o e => Heap.get?_push_of_some _ e, turn_tuple a _, ⟨_, Heap.get?_push_size _ rfl, rfl, rfl⟩, fun b hb => ?_, q⟩
    have e : b = s1.heap.objs.size := by simpa using hb
    subst e
    exact I1.fpOk (Nat.le_refl _) (I1.hok.fresh (Nat.le_refl _))
  · subst ex
    obtain ⟨t, rfl⟩ := r1
    cases ha : x.cps.all (· < 128)
    · exact wpAny_pyIter_wide ha (pi_one (tk := s1.toks) I1 _ (turn_str _ x t "str_iterator" (.inr rfl)) ⟨_, Heap.get?_push_size _ rfl, rfl, rfl⟩ q)
    · exact wpAny_pyIter_ascii ha (pi_one (tk := s1.toks) I1 _ (turn_str _ x t "str_ascii_iterator" (.inl rfl)) ⟨_, Heap.get?_push_size _ rfl, rfl, rfl⟩ q)
theorem srcK_out {p : U → Bool} {fu : List U → List U} {Kc' : Src → Prop} (h : srcK r ρ G p fu Kc') : ∃ u xs, vw r ρ G = some u ∧ p u = true ∧ itemsU u = some xs ∧ srcR r ρ u (fu xs) Kc' := by
  obtain ⟨u, e, h⟩ := vwK_out h
  obtain ⟨xs, e2, h⟩ := optK_out h
  cases hp : p u with
  | false => rw [hp] at e2; simp at e2
  | true =>
    rw [hp] at e2
    exact ⟨u, xs, e, hp, by simpa using e2, h⟩
theorem i_seq (ga : PE X e1 (tE c Γ X a)) : PI X tg e1 (tI c Γ X (.seq a)) := by
  refine PI.imp (pi_seq ga) fun σ H Rj ⟨L, Z, ρ, G, Xm, Qm, R, hL, w, tk, en⟩ => ?_
  simp only [wpIt] at w
  refine one (S := fun v H1 => (∃ a xs, v = .ref a ∧ SqL X.K H1 a xs ∧ Rj (Itl X.K a) H1) ∨ (∃ a xs, v = .ref a ∧ SqT X.K H1 a xs ∧ Rj (Itt X.K a) H1) ∨ ∃ x, v = .str x ∧ Rj (Its x) H1) R hL w tk fun ra ρ2 G2 x H2 Z' hz ha hx R2 q w2 => ?_
  obtain ⟨u, xs, ev, _, ei, w2⟩ := srcK_out w2
  have hv := vw_ok R2 q ev
  cases u <;> simp only [itemsU] at ei <;> try (cases ei; done)
  · rename_i s
    cases ei
    simp only [Vw, RepU] at hv
    have := vw_u R2 q ev rfl
    subst this
    refine .inr (.inr ⟨_, hv.1, en (.fix _) ρ2 G2 _ H2 Z' hz hx R2 ⟨_, wk_str hv.2, fun _ _ _ => trivial⟩ w2⟩)
  · rename_i ts
    cases ei
    obtain ⟨src, w3, ok⟩ := src_tup (J := Itt X.K (match x with | .ref p => p | _ => 0)) R2 q ev (fun p e => by subst e; exact wk_tup) w2
    simp only [Vw, RepU] at hv
    obtain ⟨p, vs, e, t, _⟩ := hv
    subst e
    exact .inr (.inl ⟨p, vs, rfl, sqT_of t, en src ρ2 G2 _ H2 Z' hz hx R2 ok w3⟩)
  · rename_i ts
    cases ei
    obtain ⟨src, w3, ok⟩ := src_list (J := Itl X.K (match x with | .ref p => p | _ => 0)) R2 q ha ev (fun p e => by subst e; exact wk_list) w2
    obtain ⟨p, vs, e, t, _⟩ := hv
    subst e
    exact .inl ⟨p, vs, rfl, t, en src ρ2 G2 _ H2 Z' hz hx R2 ok w3⟩
theorem i_rng (C : Ctx c n X K) {fe : Expr} (hf : K.isNm "range" fe = true) (hck : plainX e1 = true) (ga : PE X e1 (tE c Γ X a)) : PI X tg (.Call fe [e1] [] pos) (tI c Γ X (.rng a)) := by
  obtain ⟨xn, p, rfl, exx, hg⟩ := isNm_out hf
  subst exx
  obtain ⟨g1, g2, g3⟩ := gl_of C hg
  refine PI.imp (pi_range1 g1 (C.blt _ (by decide +kernel)) (pa_cons ga pa_nil (star_cons hck)) (star_cons hck)) fun σ H Rj ⟨L, Z, ρ, G, Xm, Qm, R, hL, w, tk, en⟩ => ?_
  simp only [wpIt] at w
  refine one (S := fun x H1 => ∃ j : Int, [x] = [V.int j] ∧ -(2 ^ 62) ≤ j ∧ j < 2 ^ 62 ∧ Rj (Itr 0 j.toNat) H1) R hL w tk fun ra ρ2 G2 x H2 Z' hz ha hx R2 q w2 => ?_
  cases ra <;> try exact w2.elim
  rename_i z
  cases z <;> try exact w2.elim
  rename_i j
  obtain ⟨hb, w2⟩ := w2
  simp only [Val, RepU] at q
  refine ⟨j, by rw [q], hb.2, hb.1, ?_⟩
  have := en (.fix _) ρ2 G2 (Itr 0 (j - 0).toNat) H2 Z' hz hx R2 ⟨_, wk_rng, fun _ _ _ => trivial⟩ w2
  rwa [Int.sub_zero] at this
theorem i_rng2 (C : Ctx c n X K) {fe : Expr} (hf : K.isNm "range" fe = true) (hck : plainX e1 = true) (hck2 : plainX e2 = true) (ga : PE X e1 (tE c Γ X a)) (gb : PE X e2 (tE c Γ X b)) : PI X tg (.Call fe [e1, e2] [] pos) (tI c Γ X (.rng2 a b)) := by
  obtain ⟨xn, p, rfl, exx, hg⟩ := isNm_out hf
  subst exx
  obtain ⟨g1, g2, g3⟩ := gl_of C hg
  refine PI.imp (pi_range2 g1 (C.blt _ (by decide +kernel)) (pa_cons ga (pa_cons gb pa_nil (star_cons hck2)) (star_cons hck)) (by rw [star_cons hck, star_cons hck2]; rfl) (star_cons hck2)) fun σ H Rj ⟨L, Z, ρ, G, Xm, Qm, R, hL, w, tk, en⟩ => ?_
  simp only [wpIt] at w
  refine two (S := fun x y H1 => ∃ i j : Int, [x, y] = [V.int i, V.int j] ∧ (-(2 ^ 62) ≤ i ∧ i < 2 ^ 62 ∧ -(2 ^ 62) ≤ j ∧ j < 2 ^ 62) ∧ Rj (Itr i (j - i).toNat) H1) R hL w tk fun ra rb ρ2 G2 x y H2 Z' hz ha hb hx R2 q q2 w2 => ?_
  cases ra <;> try exact w2.elim
  rename_i z
  cases z <;> try exact w2.elim
  rename_i i
  cases rb <;> try exact w2.elim
  rename_i z
  cases z <;> try exact w2.elim
  rename_i j
  obtain ⟨hbd, w2⟩ := w2
  simp only [Val, RepU] at q q2
  exact ⟨i, j, by rw [q, q2], ⟨hbd.2.2.2, hbd.2.2.1, hbd.2.1, hbd.1⟩, en (.fix _) ρ2 G2 _ H2 Z' hz hx R2 ⟨_, wk_rng, fun _ _ _ => trivial⟩ w2⟩
theorem i_enm (C : Ctx c n X K) {fe : Expr} {elts : List Expr} {kk : Nat} {tpos : Pos} (hf : K.isNm "enumerate" fe = true) (hck : plainX e1 = true) (ga : PE X e1 (tE c Γ X a)) : PI X (.Tuple elts kk tpos) (.Call fe [e1] [] pos) (tI c Γ X (.enm a)) := by
  obtain ⟨xn, p, rfl, exx, hg⟩ := isNm_out hf
  subst exx
  obtain ⟨g1, g2, g3⟩ := gl_of C hg
  refine PI.imp (RE.pi_enumA g1 (C.blt _ (by decide +kernel)) (pa_cons ga pa_nil (star_cons hck)) (star_cons hck)) fun σ H Rj ⟨L, Z, ρ, G, Xm, Qm, R, hL, w, tk, en⟩ => ?_
  simp only [wpIt] at w
  refine one (S := fun x H1 => ∃ a xs, [x] = [V.ref a] ∧ ((SqL X.K H1 a xs ∧ Rj (Ite X.K a) H1) ∨ (SqT X.K H1 a xs ∧ Rj (RE.IteT X.K a) H1))) R hL w tk fun ra ρ2 G2 x H2 Z' hz ha hx R2 q w2 => ?_
  obtain ⟨u, xs, ev, hp, ei, w2⟩ := srcK_out w2
  have hv := vw_ok R2 q ev
  cases u <;> simp only [isLT] at hp <;> try (cases hp; done)
  · cases ei
    simp only [Vw, RepU] at hv
    obtain ⟨p, vs, e, t, qs⟩ := hv
    obtain ⟨src, w3, ok⟩ := src_tup (J := RE.IteT X.K p) R2 q ev (fun p2 e2 => by rw [e] at e2; cases e2; exact wk_enumT) w2
    exact ⟨p, vs, by rw [e], .inr ⟨sqT_of t, en src ρ2 G2 _ H2 Z' hz hx R2 ok w3⟩⟩
  · cases ei
    obtain ⟨p, vs, e, t, qs⟩ := hv
    obtain ⟨src, w3, ok⟩ := src_list (J := Ite X.K p) R2 q ha ev (fun p2 e2 => by rw [e] at e2; cases e2; exact wk_enum) w2
    exact ⟨p, vs, by rw [e], .inl ⟨t, en src ρ2 G2 _ H2 Z' hz hx R2 ok w3⟩⟩
theorem sl_u {Kf : PySem.W.Frag} {Z : Addr → Prop} {H : Hp} {f : Addr → Prop} {xs : List U} {p : Addr} (q : RepU Kf H (Or2 f Z) (.lst xs) (.ref p)) : ∀ H2 f2, Ext H f H2 f2 → SL Kf p xs H2 (Or2 f2 Z) := fun H2 f2 hx => by
  have := RepU.ext hx.keepZ _ q
  simp only [RepU] at this
  obtain ⟨p2, ws, e2, t2, q2⟩ := this
  cases e2
  exact ⟨ws, sqL_of t2, q2⟩
theorem st_u {Kf : PySem.W.Frag} {Z : Addr → Prop} {H : Hp} {f : Addr → Prop} {xs : List U} {p : Addr} (q : RepU Kf H (Or2 f Z) (.tup xs) (.ref p)) : ∀ H2 f2, Ext H f H2 f2 → ST Kf p xs H2 (Or2 f2 Z) := fun H2 f2 hx => by
  have := RepU.ext hx.keepZ _ q
  simp only [RepU] at this
  obtain ⟨p2, ws, e2, t2, q2⟩ := this
  cases e2
  exact ⟨ws, t2, q2⟩
theorem i_zip (C : Ctx c n X K) {fe : Expr} {elts : List Expr} {kk : Nat} {tpos : Pos} (hf : K.isNm "zip" fe = true) (hck : plainX e1 = true) (hck2 : plainX e2 = true) (ga : PE X e1 (tE c Γ X a)) (gb : PE X e2 (tE c Γ X b)) : PI X (.Tuple elts kk tpos) (.Call fe [e1, e2] [] pos) (tI c Γ X (.zip a b)) := by
  obtain ⟨xn, p, rfl, exx, hg⟩ := isNm_out hf
  subst exx
  obtain ⟨g1, g2, g3⟩ := gl_of C hg
  refine PI.imp (RZ.pi_zipA g1 (C.blt _ (by decide +kernel)) (pa_cons ga (pa_cons gb pa_nil (star_cons hck2)) (star_cons hck)) (star_cons hck) (by rw [star_cons hck2]; rfl)) fun σ H Rj ⟨L, Z, ρ, G, Xm, Qm, R, hL, w, tk, en⟩ => ?_
  simp only [wpIt] at w
  refine two (S := fun x y H1 => ∃ a b xs ys, [x, y] = [V.ref a, V.ref b] ∧ ((SqL X.K H1 a xs ∧ SqL X.K H1 b ys ∧ Rj (Itz X.K a b) H1) ∨ (SqT X.K H1 a xs ∧ SqT X.K H1 b ys ∧ Rj (RZ.ItzT X.K a b) H1))) R hL w tk fun ra rb ρ2 G2 x y H2 Z' hz ha hb hx R2 q q2 w2 => ?_
  cases ra <;> try exact w2.elim
  rename_i z
  cases rb <;> try exact w2.elim
  rename_i z2
  simp only [Val] at q q2
  cases z <;> simp only [zipK] at w2 <;> try exact w2.elim
  · cases z2 <;> simp only at w2 <;> try exact w2.elim
    obtain ⟨p1, vs, e, t, _⟩ := id (by simpa only [RepU] using q)
    obtain ⟨p2, ws, e2, t2, _⟩ := id (by simpa only [RepU] using q2)
    subst e
    subst e2
    exact ⟨p1, p2, vs, ws, rfl, .inr ⟨sqT_of t, sqT_of t2, en (.fix _) ρ2 G2 _ H2 Z' hz hx R2 ⟨_, wk_zipT, fun H3 f3 hx3 => ⟨st_u q H3 f3 hx3, st_u q2 H3 f3 hx3⟩⟩ w2⟩⟩
  · cases z2 <;> simp only at w2 <;> try exact w2.elim
    obtain ⟨p1, vs, e, t, _⟩ := id (by simpa only [RepU] using q)
    obtain ⟨p2, ws, e2, t2, _⟩ := id (by simpa only [RepU] using q2)
    subst e
    subst e2
    exact ⟨p1, p2, vs, ws, rfl, .inl ⟨sqL_of t, sqL_of t2, en (.fix _) ρ2 G2 _ H2 Z' hz hx R2 ⟨_, wk_zip, fun H3 f3 hx3 => ⟨sl_u q H3 f3 hx3, sl_u q2 H3 f3 hx3⟩⟩ w2⟩⟩
theorem i_rev (C : Ctx c n X K) {fe : Expr} (hf : K.isNm "reversed" fe = true) (hck : plainX e1 = true) (ga : PE X e1 (tE c Γ X a)) : PI X tg (.Call fe [e1] [] pos) (tI c Γ X (.rev a)) := by
  obtain ⟨xn, p, rfl, exx, hg⟩ := isNm_out hf
  subst exx
  obtain ⟨g1, g2, g3⟩ := gl_of C hg
  refine PI.imp (RT.pi_revA g1 (C.blt _ (by decide +kernel)) ga (star_cons hck)) fun σ H Rj ⟨L, Z, ρ, G, Xm, Qm, R, hL, w, tk, en⟩ => ?_
  simp only [wpIt] at w
  refine one (S := fun v H1 => ∃ (a : Addr) (xs : List V), v = .ref a ∧ ((SqL X.K H1 a xs ∧ Rj (Itv X.K a xs.length) H1) ∨ (SqT X.K H1 a xs ∧ Rj (RT.ItvT X.K a xs.length) H1))) R hL w tk fun ra ρ2 G2 x H2 Z' hz ha hx R2 q w2 => ?_
  obtain ⟨u, xs, ev, hp, ei, w2⟩ := srcK_out w2
  have hv := vw_ok R2 q ev
  cases u <;> simp only [isLT] at hp <;> try (cases hp; done)
  · cases ei
    simp only [Vw, RepU] at hv
    obtain ⟨p, vs, e, t, qs⟩ := hv
    obtain ⟨src, w3, ok⟩ := src_tup (J := RT.ItvT X.K p vs.length) R2 q ev (fun p2 e2 => by rw [e] at e2; cases e2; exact wk_revT qs.length.symm) w2
    exact ⟨p, vs, e, .inr ⟨sqT_of t, en src ρ2 G2 _ H2 Z' hz hx R2 ok w3⟩⟩
  · cases ei
    obtain ⟨p, vs, e, t, qs⟩ := hv
    obtain ⟨src, w3, ok⟩ := src_list (J := Itv X.K p vs.length) R2 q ha ev (fun p2 e2 => by rw [e] at e2; cases e2; exact wk_rev qs.length.symm) w2
    exact ⟨p, vs, e, .inl ⟨t, en src ρ2 G2 _ H2 Z' hz hx R2 ok w3⟩⟩
end
end Mp

/-! Mp15: targets. -/
namespace Mp
open PySem PySem.Spec PyProof.Rows L2

section
variable {c : Cx0} {n : Nat} {X : Cx} {K : Ck} {L Z Z' : Addr → Prop} {σ : L2.St} {H H1 H2 : Hp} {ρ ρ1 ρ2 : Rho} {G G1 G2 : Hh} {f ex : Addr → Prop} {x y v : V} {u w : U} {Qm : Kc} {Q : VK} {a b d : E} {e1 e2 e3 tg : Expr} {pos p2 : Pos} {r : R} {ca : Cs} {Γ : Cal} {Kf : PySem.W.Frag}
/-- a slot gets another content; N: the new list's address, reserved so far -/
theorem Rep.store {N : Addr → Prop} {i : Nat} {sv : SV} (R : Rep ca Kf L (Or2 Z N) σ H ρ G) (hL : ∀ a, L a → Z a) (hi : i < ρ.length) (hN : ∀ a, N a → (∃ x, sv = .own x) ∧ v = .ref a) (hN2 : ∀ x a, sv = .own x → v = .ref a → N a) (hZN : ∀ a, N a → ¬ Z a)
    (q : RepS Kf L H (Or2 (fp σ ρ G) (Or2 Z N)) (fp σ ρ G) sv v) : Rep ca Kf L Z (σ.set i (some v)) H (ρ.set i (some sv)) G ∧ ∀ a, fp (σ.set i (some v)) (ρ.set i (some sv)) G a → fp σ ρ G a ∨ N a := by
  have hσ : i < σ.length := by rw [R.len]; exact hi
  have inv : ∀ {j : Nat} {s : SV}, (ρ.set i (some sv))[j]? = some (some s) → (j = i ∧ s = sv) ∨ (j ≠ i ∧ ρ[j]? = some (some s)) := fun {j s} h => by
    rcases set_at h with ⟨e1, e2⟩ | h
    · cases e2; exact .inl ⟨e1, rfl⟩
    · exact .inr h
  have sI : (σ.set i (some v))[i]? = some (some v) := List.getElem?_set_self hσ
  have sN : ∀ {j : Nat}, j ≠ i → (σ.set i (some v))[j]? = σ[j]? := fun {j} h => List.getElem?_set_ne (Ne.symm h)
  have sub : ∀ a, fp (σ.set i (some v)) (ρ.set i (some sv)) G a → fp σ ρ G a ∨ N a := fun a h => by
    rcases h with h | ⟨j, x, h1, h2⟩
    · exact .inl (.inl h)
    · rcases inv h1 with ⟨e1, e2⟩ | ⟨ne, h1⟩
      · subst e1
        rw [sI] at h2
        exact .inr (hN2 x a e2.symm (by cases h2; rfl))
      · rw [sN ne] at h2
        exact .inl (.inr ⟨j, x, h1, h2⟩)
  have hx : Ext H (Or2 (fp σ ρ G) (Or2 Z N)) H (Or2 (fp (σ.set i (some v)) (ρ.set i (some sv)) G) Z) := Ext.sub fun a z => z.elim (fun z => (sub a z).elim .inl fun z => .inr (.inr z)) fun z => .inr (.inl z)
  have nN : ∀ a, N a → ¬ fp σ ρ G a := fun a z => (R.zd a (.inr z)).1
  refine ⟨⟨by rw [List.length_set, List.length_set]; exact R.len, fun j s e => ?_, fun j k u w a h1 h2 h3 h4 => ?_, fun j u a h1 h2 => ?_, fun a o e => ?_, fun a z => ?_⟩, sub⟩
  · rcases inv e with ⟨e1, e2⟩ | ⟨ne, e⟩
    · subst e1 e2
      refine ⟨v, sI, ?_⟩
      cases s with
      | u x => exact RepU.ext hx x q
      | own x =>
        obtain ⟨a, o, h1, h2, q⟩ := q
        exact ⟨a, o, h1, h2, q.ext hx⟩
      | fz t x =>
        obtain ⟨h1, ⟨h2, h3⟩, o, h4, q⟩ := q
        exact ⟨h1, ⟨fun z => (sub t z).elim h2 fun z => hZN t z (hL t h3), h3⟩, o, h4, q.ext hx⟩
      | exc k d => exact RepE.ext hx q
    · obtain ⟨w, h1, q⟩ := R.slot j s e
      refine ⟨w, by rw [sN ne]; exact h1, ?_⟩
      cases s with
      | u x => exact RepU.ext hx x q
      | own x =>
        obtain ⟨a, o, h1, h2, q⟩ := q
        exact ⟨a, o, h1, h2, q.ext hx⟩
      | fz t x =>
        obtain ⟨h1, ⟨h2, h3⟩, o, h4, q⟩ := q
        exact ⟨h1, ⟨fun z => (sub t z).elim h2 fun z => hZN t z (hL t h3), h3⟩, o, h4, q.ext hx⟩
      | exc k d => exact RepE.ext hx q
  · rcases inv h1 with ⟨e1, e2⟩ | ⟨ne, h6⟩
    · rcases inv h2 with ⟨e3, e4⟩ | ⟨ne2, h5⟩
      · rw [e1, e3]
      · subst e1
        rw [sI] at h3
        rw [sN ne2] at h4
        exact absurd (.inr ⟨k, w, h5, h4⟩) (nN a (hN2 u a e2.symm (by cases h3; rfl)))
    · rcases inv h2 with ⟨e3, e4⟩ | ⟨ne2, h5⟩
      · subst e3
        rw [sI] at h4
        rw [sN ne] at h3
        exact absurd (.inr ⟨j, u, h6, h3⟩) (nN a (hN2 w a e4.symm (by cases h4; rfl)))
      · rw [sN ne] at h3
        rw [sN ne2] at h4
        exact R.own j k u w a h6 h5 h3 h4
  · rcases inv h1 with ⟨e1, e2⟩ | ⟨ne, h1⟩
    · subst e1
      rw [sI] at h2
      have := nN a (hN2 u a e2.symm (by cases h2; rfl))
      cases e : G a with
      | none => rfl
      | some o => exact absurd (.inl ⟨o, e⟩) this
    · rw [sN ne] at h2
      exact R.ownG j u a h1 h2
  · obtain ⟨ho, h1, q⟩ := R.heap a o e
    exact ⟨ho, h1, q.ext hx⟩
  · obtain ⟨h1, h2⟩ := R.zd a (.inl z)
    exact ⟨fun h => (sub a h).elim h1 fun h => hZN a h z, h2⟩
theorem setK_lt {i : Nat} {o : Option SV} {K0 : Rho → Prop} (h : setK ρ i o K0) : i < ρ.length ∧ K0 (ρ.set i o) := setK_iff.mp h
/-- an answer stored under a name -/
theorem asgN_ok {i : Nat} {K0 : Rho → Prop} (R : Rep ca Kf L (Or2 Z (Hd r v)) σ H ρ G) (hL : ∀ a, L a → Z a) (q : Val Kf H (Or2 (fp σ ρ G) (Or2 Z (Hd r v))) σ r v) (nz : ∀ p, Hd r v p → ¬ Z p) (h : asgN i r ρ K0) :
    ∃ ρ', K0 ρ' ∧ Rep ca Kf L Z (σ.set i (some v)) H ρ' G ∧ ∀ a, fp (σ.set i (some v)) ρ' G a → fp σ ρ G a ∨ Hd r v a := by
  cases r with
  | u x =>
    obtain ⟨hi, k⟩ := setK_lt h
    obtain ⟨R2, sub⟩ := R.store (v := v) (sv := .u x) hL hi (fun a z => z.elim) (fun x a e => by cases e) nz q
    exact ⟨_, k, R2, sub⟩
  | tmp x =>
    obtain ⟨hi, k⟩ := setK_lt h
    obtain ⟨R2, sub⟩ := R.store (v := v) (sv := .own x) hL hi (fun a z => ⟨⟨x, rfl⟩, z⟩) (fun x a _ e => e) nz q
    exact ⟨_, k, R2, sub⟩
  | exc k => exact h.elim
  | lv j =>
    have q' : σ[j]? = some (some v) := q
    have h' : asgN i (.lv j) ρ K0 := h
    unfold asgN at h'
    simp only at h'
    cases hs : ρ[j]? with
    | none => rw [hs] at h'; exact h'.elim
    | some os =>
      rw [hs] at h'
      cases os with
      | none => exact h'.elim
      | some sv =>
        cases sv with
        | u x => exact h'.elim
        | exc k => exact h'.elim
        | own x =>
          obtain ⟨hj, h'⟩ := setK_lt h'
          obtain ⟨hi, k⟩ := setK_lt h'
          obtain ⟨R1, q1, sub1⟩ := R.freeze hs q'
          obtain ⟨R2, sub⟩ := R1.store (v := v) (sv := .u x) hL hi (fun a z => z.elim) (fun x a e => by cases e) (fun a z => z.elim) q1
          exact ⟨_, k, R2, fun a z => (sub a z).imp (sub1 a) id⟩
        | fz t x =>
          obtain ⟨hi, k⟩ := setK_lt h'
          obtain ⟨w, e1, q1⟩ := R.slot j _ hs
          rw [q'] at e1
          cases e1
          obtain ⟨R2, sub⟩ := R.store (v := v) (sv := .fz t x) hL hi (fun a z => z.elim) (fun x a e => by cases e) nz q1
          exact ⟨_, k, R2, sub⟩

/-! ### targets -/
theorem wipe_in {σ : L2.St} {i : Nat} : ∀ {vs : List Nat}, i ∈ vs → i < σ.length → (wipe σ vs)[i]? = some none
  | v :: vs, h, hl => by
    unfold wipe
    by_cases e : v = i
    · subst e
      exact List.getElem?_set_self (by rw [wipe_length]; exact hl)
    · rw [List.getElem?_set_ne e]
      refine wipe_in ((List.mem_cons.mp h).resolve_left fun q => e q.symm) hl
theorem wipe_set {σ : L2.St} {i : Nat} {o : Option V} {vs : List Nat} (h : i ∈ vs) : wipe (σ.set i o) vs = wipe σ vs := by
  refine List.ext_getElem? fun j => ?_
  by_cases hj : j ∈ vs
  · by_cases hl : j < σ.length
    · rw [wipe_in hj hl, wipe_in hj (by rw [List.length_set]; exact hl)]
    · rw [List.getElem?_eq_none (by rw [wipe_length, List.length_set]; omega), List.getElem?_eq_none (by rw [wipe_length]; omega)]
  · rw [wipe_out hj, wipe_out hj, List.getElem?_set_ne (fun e => hj (by rw [← e]; exact h))]
theorem wipe_wipe {σ : L2.St} {vs : List Nat} : wipe (wipe σ vs) vs = wipe σ vs := by
  refine List.ext_getElem? fun j => ?_
  by_cases hj : j ∈ vs
  · by_cases hl : j < σ.length
    · rw [wipe_in hj hl, wipe_in hj (by rw [wipe_length]; exact hl)]
    · rw [List.getElem?_eq_none (by rw [wipe_length, wipe_length]; omega), List.getElem?_eq_none (by rw [wipe_length]; omega)]
  · rw [wipe_out hj]
/-- the end of a store -/
def EndG (c : Cx0) (X : Cx) (L Z : Addr → Prop) (H0 : Hp) (f0 : Addr → Prop) (fr : L2.St → Prop) (Qm : Nx) (Q : L2.St → Hp → Prop) : Prop :=
  ∀ σ' ρ' G' H', fr σ' → Ext H0 f0 H' (fp σ' ρ' G') → Rep c.ca X.K L Z σ' H' ρ' G' → Qm ρ' G' → Q σ' H'
def tT (c : Cx0) (Γ : Cal) (X : Cx) (t : T) : TG := fun v σ H Q => ∃ L Z H0 f0 ρ G r Xm Qm, RepR c.ca X.K L Z σ H0 f0 H ρ G r v ∧ (∀ a, L a → Z a) ∧ Ext H0 f0 H (fp σ ρ G) ∧ asgT c.P Γ t r ρ G Xm Qm ∧ Tk c X L Z H0 f0 Xm ∧ EndG c X L Z H0 f0 (fun σ' => ∀ vs, tgB vs t = true → wipe σ' vs = wipe σ vs) Qm Q
def tTs (c : Cx0) (Γ : Cal) (X : Cx) (ts : Ts) : TGs := fun vs σ H Q => ∃ L Z H0 f0 ρ G us Xm Qm, Rep c.ca X.K L Z σ H ρ G ∧ RepUs X.K H (Or2 (fp σ ρ G) Z) us vs ∧ (∀ a, L a → Z a) ∧ Ext H0 f0 H (fp σ ρ G) ∧ asgTs c.P Γ ts us ρ G Xm Qm ∧ Tk c X L Z H0 f0 Xm ∧ EndG c X L Z H0 f0 (fun σ' => ∀ vs, tgBs vs ts = true → wipe σ' vs = wipe σ vs) Qm Q
theorem PG.imp {t t' : TG} (h : PG X tg t) (i : ∀ v σ H Q, t' v σ H Q → t v σ H Q) : PG X tg t' := ⟨fun pins s σ H v u Q I r q => h.run pins s σ H v u Q I r (i v σ H Q q)⟩
theorem PGs.imp {tgs : List Expr} {t t' : TGs} (h : PGs X tgs t) (i : ∀ v σ H Q, t' v σ H Q → t v σ H Q) : PGs X tgs t' := ⟨fun pins s σ H v u Q I r q => h.run pins s σ H v u Q I r (i v σ H Q q)⟩
theorem Ext.store {H0 : Hp} {f0 f1 f2 : Addr → Prop} {N : Addr → Prop} (h : Ext H0 f0 H f1) (hs : ∀ a, f2 a → f1 a ∨ N a) (hn : ∀ p, N p → H0 p = none ∨ f0 p) : Ext H0 f0 H f2 := fun a o e k => by
  refine ⟨(h a o e k).1, fun z => (hs a z).elim (h a o e k).2 fun z => ?_⟩
  rcases hn a z with m | m
  · rw [e] at m; cases m
  · exact k m
theorem nm_go {i : Nat} {Q : L2.St → Hp → Prop} (h : tT c Γ X (.nm i) v σ H Q) : gName i v σ H Q := by
  obtain ⟨L, Z, H0, f0, ρ, G, r, Xm, Qm, R, hL, hx, w, tk, en⟩ := h
  simp only [asgT] at w
  obtain ⟨ρ', k, R2, sub⟩ := asgN_ok R.rep hL R.val (fun p z => (R.new p z).2) w
  exact en _ ρ' G H (fun vs hv => wipe_set (by simpa [tgB] using hv)) (hx.store sub fun p z => (R.new p z).1) R2 k
theorem g_nm (C : Ctx c n X K) {i : Nat} {xn : Str} (hs : K.sto i xn = true) : PG X (.Name xn pos) (tT c Γ X (.nm i)) := by
  obtain ⟨h1, h2, h3⟩ := C.sto i xn hs
  exact PG.imp (pg_name C.nd h1 h2 h3) fun v σ H Q h => nm_go h
theorem gs_nil : PGs X [] (tTs c Γ X .nil) := by
  refine PGs.imp pgs_nil fun vs σ H Q ⟨L, Z, H0, f0, ρ, G, us, Xm, Qm, R, q, hL, hx, w, tk, en⟩ => ?_
  simp only [asgTs] at w
  obtain ⟨e, w⟩ := w
  subst e
  simp only [RepUs] at q
  exact ⟨q, en σ ρ G H (fun _ _ => rfl) hx R w⟩
theorem gs_cons {t : T} {ts : Ts} {el : List Expr} (g1 : PG X e1 (tT c Γ X t)) (g2 : PGs X el (tTs c Γ X ts)) (hs : (assignEach (e1 :: el) X.env).map (·.2) = assign e1 X.env :: (assignEach el X.env).map (·.2)) : PGs X (e1 :: el) (tTs c Γ X (.cons t ts)) := by
  refine PGs.imp (pgs_cons g1 g2 hs) fun vs σ H Q ⟨L, Z, H0, f0, ρ, G, us, Xm, Qm, R, q, hL, hx, w, tk, en⟩ => ?_
  simp only [asgTs] at w
  cases us with
  | nil => exact w.elim
  | cons u us =>
    simp only [RepUs] at q
    obtain ⟨v, t', e, q1, q2⟩ := q
    refine ⟨v, t', e, L, Z, H, fp σ ρ G, ρ, G, .u u, Xm, _, ⟨?_, ?_, fun p z => z.elim⟩, hL, Ext.refl _ _, w, tk.go hx fun a z => z, fun σ1 ρ1 G1 H1 fr1 hx1 R1 w1 => ?_⟩
    · rw [hd_u, or2_false]; exact R
    · rw [hd_u, or2_false]; exact q1
    · exact ⟨L, Z, H0, f0, ρ1, G1, us, Xm, Qm, R1, RepUs.ext hx1.keepZ _ q2, hL, hx.trans hx1, w1, tk, fun σ' ρ' G' H' fr => en σ' ρ' G' H' fun vs hv => by
        simp only [tgBs, Bool.and_eq_true] at hv
        rw [fr vs hv.2, fr1 vs hv.1]⟩
theorem g_tup {ts : Ts} {el : List Expr} {k : Nat} (hc : X.calm = true) (g : PGs X el (tTs c Γ X ts)) (hn : (assignEach el X.env).length = tsLen ts) (hst : (assignEach el X.env).findIdx? (·.1) = none) : PG X (.Tuple el k pos) (tT c Γ X (.tp ts)) := by
  refine PG.imp (pg_tup hc g rfl hst) fun v σ H Q ⟨L, Z, H0, f0, ρ, G, r, Xm, Qm, R, hL, hx, w, tk, en⟩ => ?_
  simp only [asgT] at w
  cases r <;> try exact w.elim
  rename_i x
  cases x <;> try exact w.elim
  rename_i us
  obtain ⟨hlen, w⟩ := w
  have qv := R.val
  rw [hd_u, or2_false] at qv
  have R1 := R.rep
  rw [hd_u, or2_false] at R1
  have qv' : RepU X.K H (Or2 (fp σ ρ G) Z) (.tup us) v := qv
  simp only [RepU] at qv'
  obtain ⟨p, vs, e, t, q⟩ := qv'
  exact ⟨p, vs, e, sqT_of t, by rw [hn, ← hlen]; exact q.length.symm, L, Z, H0, f0, ρ, G, us, Xm, Qm, R1, q, hL, hx, w, tk, fun σ' ρ' G' H' fr => en σ' ρ' G' H' fun vs hv => fr vs (by simpa only [tgB] using hv)⟩
/-- d[k] = v -/
theorem PSet.or' {t1 t2 : TSet} (h1 : PSet X t1) (h2 : PSet X t2) : PSet X (fun o i v H Q => t1 o i v H Q ∨ t2 o i v H Q) := fun pins s σ H o i v ov iv u Q I r1 r2 r3 q =>
  q.elim (h1 pins s σ H o i v ov iv u Q I r1 r2 r3) (h2 pins s σ H o i v ov iv u Q I r1 r2 r3)
theorem g_ix (hu : X.A.units + 64 < cLine) {a b : E} (ga : PE X e1 (tE c Γ X a)) (gb : PE X e2 (tE c Γ X b))
    (ha : ∀ v, assign (.Subscript e1 e2 pos) X.env v = (do
      let ov ← holding [v] (eval e1 X.env)
      let iv ← holding [v, ov] (eval e2 X.env)
      standAt pos
      holding [v, ov, iv] (setItem ov iv v)
      release [v, ov, iv] [])) : PG X (.Subscript e1 e2 pos) (tT c Γ X (.ix a b)) := by
  refine PG.imp (pg_sub ga gb (PSet.or' set_list (set_dict (by omega))) ha) fun v σ H Q ⟨L, Z, H0, f0, ρ, G, r, Xm, Qm, R, hL, hx, w, tk, en⟩ => ?_
  simp only [asgT] at w
  refine ⟨L, Or2 Z (Hd r v), ρ, G, Xm, _, R.rep, fun a z => .inl (hL a z), w, tk.go hx fun a => .inl, fun ro ρ1 G1 x H1 hx1 R1 w1 => ?_⟩
  refine ⟨L, Or2 (Or2 Z (Hd r v)) (Hd ro x), ρ1, G1, Xm, _, R1.rep, fun a z => .inl (.inl (hL a z)), w1, tk.go (hx.trans hx1) fun a z => .inl (.inl z), fun ri ρ2 G2 y H2 hx2 R2 w2 => ?_⟩
  have qr := (R.val.step (fun a z => .inr z) (fun a z => (R.rep.zd a z).1) hx1 fun p z => (R1.new p z).1).step (fun a z => .inl (.inr z)) (fun a z => (R1.rep.zd a z).1) hx2 fun p z => (R2.new p z).1
  have qo := R1.val.step (fun a z => .inr z) (fun a z => (R1.rep.zd a z).1) hx2 fun p z => (R2.new p z).1
  have hds : Hds [r] [v] = Hd r v := or2_false
  have less : ∀ a, Or2 Z (Hds [r] [v]) a → Or2 (Or2 (Or2 Z (Hd r v)) (Hd ro x)) (Hd ri y) a := fun a z => by rw [hds] at z; exact .inl (.inl z)
  obtain ⟨us, ρ3, k3, R3, q3, sub3⟩ := toUs_ok (rs := [r]) (vs := [v]) (K0 := fun us ρ3 => match us with
    | [u] => ixK ri fun i => vwK ro ρ3 G2 fun o => setU o i u fun o' => putR ro o' ρ3 G2 Qm
    | _ => False) (R2.rep.less less) ⟨v, [], rfl, qr.ext (Ext.sub fun a z => z.elim .inl fun z => .inr (less a z)), rfl⟩ ⟨fun a _ z => z, trivial⟩ (fun p z => by rw [hds] at z; exact (R.new p z).2) w2
  obtain ⟨u, eu, qu⟩ := repUs_one q3
  subst eu
  cases ri <;> try exact k3.elim
  rename_i ui
  obtain ⟨uo, eo, k3⟩ := vwK_out k3
  cases uo <;> try exact k3.elim
  · rename_i xs
    cases ui <;> try exact k3.elim
    rename_i kk _
    obtain ⟨j, ej, k3⟩ := optK_out k3
    have qi := R2.val
    simp only [Val, RepU] at qi
    have sub4 : ∀ a, Or2 (fp σ ρ3 G2) Z a → Or2 (fp σ ρ2 G2) (Or2 (Or2 (Or2 Z (Hd r v)) (Hd ro x)) (Hd (.u (.int kk)) y)) a := fun a z => z.elim (fun z => .inl (sub3 a z)) fun z => .inr (.inl (.inl (.inl z)))
    obtain ⟨p, vs, ep, hp, qs, fin⟩ := put_list R3 (qo.ext (Ext.sub sub4)) eo k3
    obtain ⟨ρ4, G4, k4, R4, hf, pf⟩ := fin (vs.set j v) (qs.set j qu)
    refine .inl ⟨p, vs, kk, j, ep, qi, hp, by rw [← qs.length]; exact ej, ?_⟩
    have hxx : Ext H0 f0 H2 (fp σ ρ3 G2) := fun a o e n => ⟨((hx.trans (hx1.trans hx2)) a o e n).1, fun z => ((hx.trans (hx1.trans hx2)) a o e n).2 (sub3 a z)⟩
    exact en σ ρ4 G4 _ (fun _ _ => rfl) (hxx.upd' pf hf) R4 k4
  · rename_i ks ws
    obtain ⟨⟨hk, hl⟩, k3⟩ := k3
    have qi := R2.val
    obtain ⟨k, x3, x4⟩ := key_out hk qi
    subst x3 x4
    have sub4 : ∀ a, Or2 (fp σ ρ3 G2) Z a → Or2 (fp σ ρ2 G2) (Or2 (Or2 (Or2 Z (Hd r v)) (Hd ro x)) (Hd (.u (kKey k)) (kV k))) a := fun a z => z.elim (fun z => .inl (sub3 a z)) fun z => .inr (.inl (.inl (.inl z)))
    obtain ⟨p, kvs, ep, hp, e2, qs, fin⟩ := put_dic R3 (qo.ext (Ext.sub sub4)) eo k3
    subst e2
    obtain ⟨d1, d2⟩ := putD_rep k qu kvs qs
    obtain ⟨ρ4, G4, k4, R4, hf, pf⟩ := fin (.dK (putK kvs k v)) ⟨_, rfl, d1, d2⟩
    rw [List.length_map] at hl
    refine .inr ⟨p, _, ep, DPut.k hp hl, ?_⟩
    have hxx : Ext H0 f0 H2 (fp σ ρ3 G2) := fun a o e n => ⟨((hx.trans (hx1.trans hx2)) a o e n).1, fun z => ((hx.trans (hx1.trans hx2)) a o e n).2 (sub3 a z)⟩
    exact en σ ρ4 G4 _ (fun _ _ => rfl) (hxx.upd' pf hf) R4 k4
/-- o.f = v -/
theorem g_fd (C : Ctx c n X K) {a : E} {fi : Nat} {nm : Str} (hf : K.fdn.lookup fi = some nm) (ga : PE X e1 (tE c Γ X a)) : PG X (.Attribute e1 nm pos) (tT c Γ X (.fd a fi)) := by
  have hn := C.fdn _ _ hf
  subst hn
  refine ⟨fun pins s σ H v u Q I rv h => ?_⟩
  obtain ⟨L, Z, H0, f0, ρ, G, r, Xm, Qm, R, hL, hx, w, tk, en⟩ := h
  simp only [asgT] at w
  have key : tE c Γ X a σ H fun x H1 => ∃ p C0 dx gs, x = .ref p ∧ H1 p = some (.ins C0 dx gs) ∧ Cls X.K C0 ∧ NoAttr X.K C0 (c.ca.fn fi) ∧ gs.length < 1000 ∧ Q σ (upd H1 p (.ins C0 dx (L2.putF (c.ca.fn fi) v gs))) := by
    refine ⟨L, Or2 Z (Hd r v), ρ, G, Xm, _, R.rep, fun a z => .inl (hL a z), w, tk.go hx fun a => .inl, fun ro ρ1 G1 x H1 hx1 R1 w1 => ?_⟩
    have qr := R.val.step (fun a z => .inr z) (fun a z => (R.rep.zd a z).1) hx1 fun p z => (R1.new p z).1
    have hds : Hds [r] [v] = Hd r v := or2_false
    have less : ∀ a, Or2 Z (Hds [r] [v]) a → Or2 (Or2 Z (Hd r v)) (Hd ro x) a := fun a z => by rw [hds] at z; exact .inl z
    obtain ⟨us, ρ3, k3, R3, q3, sub3⟩ := toUs_ok (rs := [r]) (vs := [v]) (K0 := fun us ρ3 => match us with
      | [u] => putA c.P ro fi u G1 fun G2 => Qm ρ3 G2
      | _ => False) (R1.rep.less less) ⟨v, [], rfl, qr.ext (Ext.sub fun a z => z.elim .inl fun z => .inr (less a z)), rfl⟩ ⟨fun a _ z => z, trivial⟩ (fun p z => by rw [hds] at z; exact (R.new p z).2) w1
    obtain ⟨u0, eu, qu⟩ := repUs_one q3
    subst eu
    cases ro <;> try exact k3.elim
    rename_i z
    cases z <;> try exact k3.elim
    rename_i p
    have k3 : putA c.P (.u (.ref p)) fi u0 G1 fun G2 => Qm ρ3 G2 := k3
    simp only [putA] at k3
    cases hg : G1 p with
    | none => rw [hg] at k3; exact k3.elim
    | some o =>
      rw [hg] at k3
      cases o with
      | con u => exact k3.elim
      | ins k fs =>
        obtain ⟨⟨hl, hfd⟩, k3⟩ := k3
        obtain ⟨dx, gs, e1, h1, h2, rf⟩ := ins_at R3 hg
        have qx : x = .ref p := by simpa only [Val, RepU] using R1.val
        have lg : gs.length < 1000 := by rw [← repFs_len rf]; omega
        obtain ⟨R4, hf, pf⟩ := R3.writeG hg (o2 := .ins k (putFd fi u0 fs)) (o' := .ins (c.ca k) dx (L2.putF (c.ca.fn fi) v gs)) ⟨h1, fun q hq => by
          rcases putFd_mem hq with e | ⟨q', hq', e⟩
          · rw [e, ← C.fdc]; exact hfd
          · rw [← e]; exact h2 q' hq', dx, _, rfl, putFd_rep c.ca.inj qu rf⟩
        refine ⟨p, _, dx, gs, qx, e1, h1.1, h1.2 _ (by rw [← C.fdc]; exact hfd), lg, ?_⟩
        have hxx : Ext H0 f0 H1 (fp σ ρ3 G1) := fun a o e n => ⟨((hx.trans hx1) a o e n).1, fun z => ((hx.trans hx1) a o e n).2 (sub3 a z)⟩
        exact en σ ρ3 _ _ (fun _ _ => rfl) (hxx.upd' pf hf) R4 k3
  rw [show assign (.Attribute e1 (c.ca.fn fi) pos) X.env u = (do
    let ov ← holding [u] (eval e1 X.env)
    standAt pos.atName
    holding [u, ov] (setAttr ov (c.ca.fn fi) u)
    release [u, ov] []) from rfl]
  refine wpAny_bind (wpAny_holding (thn (ga.run pins s σ H _ I key) fun ov s1 ⟨x, H1, I1, r1, p, C0, dx, gs, ex, ea, c1, c2, c3, q⟩ => ?_))
  subst ex
  cases (show ov = Value.ref p from r1)
  exact wpAny_bind (wpAny_standAt (wpAny_bind (wpAny_holding (setattr_ok I1 ea c1 c2 c3 rv fun s3 I3 => wpAny_release ⟨σ, _, I3, q⟩))))
end
end Mp

/-! Mp16: tests; statements. -/
namespace Mp
open PySem PySem.Spec PyProof.Rows L2

section
variable (c : Cx0) (Γ : Cal) (X : Cx)
/-- the end of a test -/
def EndT (L Z : Addr → Prop) (σ : L2.St) (H : Hp) (f : Addr → Prop) (K : R → Bool → Rho → Hh → Prop) (Q : Bool → Hp → Prop) : Prop :=
  ∀ r u k ρ' G' H' Z', (∀ a, Z a → Z' a) → Ext H f H' (fp σ ρ' G') → Rep c.ca X.K L Z' σ H' ρ' G' → vw r ρ' G' = some u → truth u = some k → K r k ρ' G' → Q k H'
def tB' (m : E) : TT := fun σ H Q => ∃ L Z ρ G Xm K, Rep c.ca X.K L Z σ H ρ G ∧ (∀ a, L a → Z a) ∧ wpE c.P Γ m ρ G Xm (fun r ρ1 G1 => tstK r ρ1 G1 fun k => K r k ρ1 G1) ∧ Tk c X L Z H (fp σ ρ G) Xm ∧ EndT c X L Z σ H (fp σ ρ G) K Q
def tBA (es : Es) : TT := fun σ H Q => ∃ L Z ρ G Xm K, Rep c.ca X.K L Z σ H ρ G ∧ (∀ a, L a → Z a) ∧ wpAnd c.P Γ es ρ G Xm (fun r ρ1 G1 => tstK r ρ1 G1 fun k => K r k ρ1 G1) ∧ Tk c X L Z H (fp σ ρ G) Xm ∧ EndT c X L Z σ H (fp σ ρ G) K Q
def tBO (es : Es) : TT := fun σ H Q => ∃ L Z ρ G Xm K, Rep c.ca X.K L Z σ H ρ G ∧ (∀ a, L a → Z a) ∧ wpOr c.P Γ es ρ G Xm (fun r ρ1 G1 => tstK r ρ1 G1 fun k => K r k ρ1 G1) ∧ Tk c X L Z H (fp σ ρ G) Xm ∧ EndT c X L Z σ H (fp σ ρ G) K Q
def tAE (es : Es) : TE := fun σ H Q => ∃ L Z ρ G Xm Qm, Rep c.ca X.K L Z σ H ρ G ∧ (∀ a, L a → Z a) ∧ wpAnd c.P Γ es ρ G Xm Qm ∧ Tk c X L Z H (fp σ ρ G) Xm ∧ EndE c X L Z σ H (fp σ ρ G) Qm Q
def tOE (es : Es) : TE := fun σ H Q => ∃ L Z ρ G Xm Qm, Rep c.ca X.K L Z σ H ρ G ∧ (∀ a, L a → Z a) ∧ wpOr c.P Γ es ρ G Xm Qm ∧ Tk c X L Z H (fp σ ρ G) Xm ∧ EndE c X L Z σ H (fp σ ρ G) Qm Q
end
theorem iteT {A B : Prop} (h : A) : if true = true then A else B := by rw [if_pos rfl]; exact h
theorem iteF {A B : Prop} (h : B) : if false = true then A else B := by rw [if_neg Bool.false_ne_true]; exact h
theorem PW.imp {X : Cx} {e : Expr} {t t' : TT} (h : PW X e t) (i : ∀ σ H Q, t' σ H Q → t σ H Q) : PW X e t' := ⟨fun wh pins s σ H Q I q => h.run wh pins s σ H Q I (i σ H Q q)⟩
section
variable {c : Cx0} {n : Nat} {Γ : Cal} {X : Cx} {K : Ck} {L Z Z' : Addr → Prop} {σ : L2.St} {H H1 H2 : Hp} {ρ ρ1 ρ2 : Rho} {G G1 G2 : Hh} {f ex : Addr → Prop} {x y v : V} {u w : U} {Qm : Kc} {a b d : E} {e1 e2 e3 tg : Expr} {pos p2 : Pos} {r : R} {Kt : R → Bool → Rho → Hh → Prop} {Q : Bool → Hp → Prop}
theorem EndT.toB (en : EndT c X L Z σ H f Kt Q) : EndB c X L Z σ H f (fun r ρ1 G1 => tstK r ρ1 G1 fun k => Kt r k ρ1 G1) (fun x H' => ∃ k, x = .bl k ∧ Q k H') := fun k ρ' G' H' Z' hz hx R q => by
  obtain ⟨u, k2, e1, e2, q⟩ := tstK_out q
  cases e1
  cases e2
  exact ⟨k, rfl, en (.u (.bl k)) (.bl k) k ρ' G' H' Z' hz hx R rfl rfl q⟩
theorem EndT.imp {K2 : R → Bool → Rho → Hh → Prop} {H2 : Hp} {f2 Z2 : Addr → Prop} (h : EndT c X L Z σ H f Kt Q) (hx : Ext H f H2 f2) (hz : ∀ a, Z a → Z2 a) (hq : ∀ r k ρ G, K2 r k ρ G → Kt r k ρ G) : EndT c X L Z2 σ H2 f2 K2 Q :=
  fun r u k ρ' G' H' Z' z e R e1 e2 q => h r u k ρ' G' H' Z' (fun a y => z a (hz a y)) (hx.trans e) R e1 e2 (hq _ _ _ _ q)
theorem t_cmp {op : COp} (hu : X.A.units + 64 < cLine) (ha : PE X e1 (tE c Γ X a)) (hb : PE X e2 (tE c Γ X b)) (hm : behindInMarks op.op e2 = false) : PT X (.Compare e1 [op.op] [e2] pos) (tB' c Γ X (.cmp op a b)) :=
  PT.imp (pt_cmpR (op_cmp hu op) ha hb hm) fun σ H Q ⟨L, Z, ρ, G, Xm, Kt, R, hL, w, tk, en⟩ => cmp_go R hL w tk (EndT.toB en)
theorem t_chain {o1 o2 : COp} (hu : X.A.units + 64 < cLine) (ga : PE X e1 (tE c Γ X a)) (gb : PE X e2 (tE c Γ X b)) (hd : PE X e3 (tE c Γ X d)) (hm : lastMarks [o1.op, o2.op] [e2, e3] = false) :
    PT X (.Compare e1 [o1.op, o2.op] [e2, e3] pos) (tB' c Γ X (.chain o1 o2 a b d)) :=
  PT.imp (pt_chain (op_cmp hu o1) (op_cmp hu o2) ga gb hd hm) fun σ H Q ⟨L, Z, ρ, G, Xm, Kt, R, hL, w, tk, en⟩ => chain_go R hL w tk (EndT.toB en)
theorem t_isN {neg : Bool} {j : Nat} {p2 : Pos} (ga : PE X e1 (tE c Γ X a)) : PT X (.Compare e1 [if neg then .IsNot else .Is] [.Constant .none j p2] pos) (tB' c Γ X (.isN a neg)) :=
  PT.imp (pt_cmpR (op_isNn neg) ga pe_non rfl) fun σ H Q ⟨L, Z, ρ, G, Xm, Kt, R, hL, w, tk, en⟩ => isN_go R hL w tk (EndT.toB en)
theorem t_isB {k neg : Bool} {j : Nat} {p2 : Pos} (ga : PE X e1 (tE c Γ X a)) : PT X (.Compare e1 [if neg then .IsNot else .Is] [.Constant (.bool k) j p2] pos) (tB' c Γ X (.isB a k neg)) :=
  PT.imp (pt_cmpR (op_isBb neg) ga pe_bl rfl) fun σ H Q ⟨L, Z, ρ, G, Xm, Kt, R, hL, w, tk, en⟩ => isB_go R hL w tk (EndT.toB en)
theorem t_gen {m : E} (ga : PE X e1 (tE c Γ X m)) (he : ∀ whole, isTrue e1 X.env whole = (do let v ← whole; standAt e1.pos; holding [v] (truthy v))) : PT X e1 (tB' c Γ X m) := by
  refine PT.imp (pt_truth ga he) fun σ H Q ⟨L, Z, ρ, G, Xm, Kt, R, hL, w, tk, en⟩ => ?_
  refine ⟨L, Z, ρ, G, Xm, _, R, hL, w, tk, fun r ρ1 G1 x H1 hx R1 w1 => ?_⟩
  obtain ⟨u, k, e1, e2, w1⟩ := tstK_out w1
  exact ⟨k, tru_of (vw_ok R1.rep R1.val e1) e2, en r u k ρ1 G1 H1 _ (fun a => .inl) hx R1.rep e1 e2 w1⟩
theorem t_not (ha : PT X e1 (tB' c Γ X a)) : PT X (.UnaryOp .Not e1 pos) (tB' c Γ X (.not_ a)) := by
  refine PT.imp (pt_not ha) fun σ H Q ⟨L, Z, ρ, G, Xm, Kt, R, hL, w, tk, en⟩ => ?_
  simp only [wpE] at w
  refine ⟨L, Z, ρ, G, Xm, fun ra b ρ1 G1 => Kt (.u (.bl (!b))) (!b) ρ1 G1, R, hL, w, tk, fun r u k ρ1 G1 H1 Z1 hz hx R1 e1 e2 q => ?_⟩
  exact en (.u (.bl (!k))) (.bl (!k)) (!k) ρ1 G1 H1 Z1 hz hx R1 rfl rfl q
theorem vw_bvl {k : Bool} (e : vw r ρ G = some u) (e2 : truth u = some k) : bvl r k = r := by
  cases r with
  | u y =>
    cases y <;> try rfl
    cases e
    cases e2
    rfl
  | tmp y => rfl
  | lv i => rfl
  | exc k => rfl
theorem tst_bvl {k : Bool} {K0 : Bool → Prop} (e : vw r ρ G = some u) (e2 : truth u = some k) (h : tstK (bvl r k) ρ G K0) : K0 k := by
  rw [vw_bvl e e2] at h
  obtain ⟨u2, k2, e3, e4, h⟩ := tstK_out h
  rw [e] at e3
  cases e3
  rw [e2] at e4
  cases e4
  exact h
theorem t_and {es : Es} {rest : List Expr} (ga : PT X e1 (tB' c Γ X a)) (gb : PW X (.BoolOp .And (e2 :: rest) pos) (tBA c Γ X es)) : PW X (.BoolOp .And (e1 :: e2 :: rest) pos) (tB' c Γ X (.and_ a es)) := by
  refine PW.imp (pw_and ga gb) fun σ H Q ⟨L, Z, ρ, G, Xm, Kt, R, hL, w, tk, en⟩ => ?_
  simp only [wpE] at w
  refine ⟨L, Z, ρ, G, Xm, fun ra b ρ1 G1 => Br b (wpAnd c.P Γ es ρ1 G1 Xm fun r ρ1 G1 => tstK r ρ1 G1 fun k => Kt r k ρ1 G1) (tstK (bvl ra false) ρ1 G1 fun k => Kt (bvl ra false) k ρ1 G1), R, hL, w, tk, fun r u k ρ1 G1 H1 Z1 hz hx R1 e1 e2 q => ?_⟩
  cases k with
  | true =>
    refine iteT ?_
    exact ⟨L, Z1, ρ1, G1, Xm, Kt, R1, fun a z => hz a (hL a z), q, tk.go hx hz, en.imp hx hz fun _ _ _ _ z => z⟩
  | false =>
    refine iteF ?_
    have q2 := tst_bvl e1 e2 q
    rw [vw_bvl e1 e2] at q2
    exact en r u false ρ1 G1 H1 Z1 hz hx R1 e1 e2 q2
theorem t_or {es : Es} {rest : List Expr} (ga : PT X e1 (tB' c Γ X a)) (gb : PW X (.BoolOp .Or (e2 :: rest) pos) (tBO c Γ X es)) : PW X (.BoolOp .Or (e1 :: e2 :: rest) pos) (tB' c Γ X (.or_ a es)) := by
  refine PW.imp (pw_or ga gb) fun σ H Q ⟨L, Z, ρ, G, Xm, Kt, R, hL, w, tk, en⟩ => ?_
  simp only [wpE] at w
  refine ⟨L, Z, ρ, G, Xm, fun ra b ρ1 G1 => Br b (tstK (bvl ra true) ρ1 G1 fun k => Kt (bvl ra true) k ρ1 G1) (wpOr c.P Γ es ρ1 G1 Xm fun r ρ1 G1 => tstK r ρ1 G1 fun k => Kt r k ρ1 G1), R, hL, w, tk, fun r u k ρ1 G1 H1 Z1 hz hx R1 e1 e2 q => ?_⟩
  cases k with
  | false =>
    refine iteF ?_
    exact ⟨L, Z1, ρ1, G1, Xm, Kt, R1, fun a z => hz a (hL a z), q, tk.go hx hz, en.imp hx hz fun _ _ _ _ z => z⟩
  | true =>
    refine iteT ?_
    have q2 := tst_bvl e1 e2 q
    rw [vw_bvl e1 e2] at q2
    exact en r u true ρ1 G1 H1 Z1 hz hx R1 e1 e2 q2
theorem ta_one (ga : PT X e1 (tB' c Γ X a)) : PW X (.BoolOp .And [e1] pos) (tBA c Γ X (.cons a .nil)) := PW.imp (pw_and1 ga) fun σ H Q ⟨L, Z, ρ, G, Xm, Kt, R, hL, w, tk, en⟩ => ⟨L, Z, ρ, G, Xm, Kt, R, hL, w, tk, en⟩
theorem to_one (ga : PT X e1 (tB' c Γ X a)) : PW X (.BoolOp .Or [e1] pos) (tBO c Γ X (.cons a .nil)) := PW.imp (pw_or1 ga) fun σ H Q ⟨L, Z, ρ, G, Xm, Kt, R, hL, w, tk, en⟩ => ⟨L, Z, ρ, G, Xm, Kt, R, hL, w, tk, en⟩
theorem ta_more {es : Es} {rest : List Expr} (ga : PT X e1 (tB' c Γ X a)) (gb : PW X (.BoolOp .And (e2 :: rest) pos) (tBA c Γ X (.cons b es))) : PW X (.BoolOp .And (e1 :: e2 :: rest) pos) (tBA c Γ X (.cons a (.cons b es))) :=
  PW.imp (t_and ga gb) fun σ H Q ⟨L, Z, ρ, G, Xm, Kt, R, hL, w, tk, en⟩ => ⟨L, Z, ρ, G, Xm, Kt, R, hL, by simp only [wpE]; exact w, tk, en⟩
theorem to_more {es : Es} {rest : List Expr} (ga : PT X e1 (tB' c Γ X a)) (gb : PW X (.BoolOp .Or (e2 :: rest) pos) (tBO c Γ X (.cons b es))) : PW X (.BoolOp .Or (e1 :: e2 :: rest) pos) (tBO c Γ X (.cons a (.cons b es))) :=
  PW.imp (t_or ga gb) fun σ H Q ⟨L, Z, ρ, G, Xm, Kt, R, hL, w, tk, en⟩ => ⟨L, Z, ρ, G, Xm, Kt, R, hL, by simp only [wpE]; exact w, tk, en⟩
theorem ea_one (ga : PE X e1 (tE c Γ X a)) : PE X (.BoolOp .And [e1] pos) (tAE c Γ X (.cons a .nil)) := PE.imp (pe_one ga) fun σ H Q ⟨L, Z, ρ, G, Xm, Kt, R, hL, w, tk, en⟩ => ⟨L, Z, ρ, G, Xm, Kt, R, hL, w, tk, en⟩
theorem eo_one (ga : PE X e1 (tE c Γ X a)) : PE X (.BoolOp .Or [e1] pos) (tOE c Γ X (.cons a .nil)) := PE.imp (pe_one ga) fun σ H Q ⟨L, Z, ρ, G, Xm, Kt, R, hL, w, tk, en⟩ => ⟨L, Z, ρ, G, Xm, Kt, R, hL, w, tk, en⟩
theorem ea_more {es : Es} {rest : List Expr} (ga : PE X e1 (tE c Γ X a)) (gb : PE X (.BoolOp .And (e2 :: rest) pos) (tAE c Γ X (.cons b es))) : PE X (.BoolOp .And (e1 :: e2 :: rest) pos) (tAE c Γ X (.cons a (.cons b es))) :=
  PE.imp (e_and ga gb) fun σ H Q ⟨L, Z, ρ, G, Xm, Kt, R, hL, w, tk, en⟩ => ⟨L, Z, ρ, G, Xm, Kt, R, hL, by simp only [wpE]; exact w, tk, en⟩
theorem eo_more {es : Es} {rest : List Expr} (ga : PE X e1 (tE c Γ X a)) (gb : PE X (.BoolOp .Or (e2 :: rest) pos) (tOE c Γ X (.cons b es))) : PE X (.BoolOp .Or (e1 :: e2 :: rest) pos) (tOE c Γ X (.cons a (.cons b es))) :=
  PE.imp (e_or ga gb) fun σ H Q ⟨L, Z, ρ, G, Xm, Kt, R, hL, w, tk, en⟩ => ⟨L, Z, ρ, G, Xm, Kt, R, hL, by simp only [wpE]; exact w, tk, en⟩
end

/-! ### statements -/
section
variable (c : Cx0) (Γ : Cal) (X : Cx)
structure EndS (L Z : Addr → Prop) (H : Hp) (f : Addr → Prop) (nx : Nx) (rt : Kc) (ct : Nx) (D : Ends) : Prop where
  nx : ∀ σ' H' ρ' G', Ext H f H' (fp σ' ρ' G') → Rep c.ca X.K L Z σ' H' ρ' G' → nx ρ' G' → D.nx σ' H'
  rt : ∀ σ' r ρ' G' v H', Ext H f H' (fp σ' ρ' G') → RepR c.ca X.K L Z σ' H f H' ρ' G' r v → rt r ρ' G' → D.rt v H'
  ct : ∀ σ' H' ρ' G', Ext H f H' (fp σ' ρ' G') → Rep c.ca X.K L Z σ' H' ρ' G' → ct ρ' G' → D.ct σ' H'
def tS (m : S) : TS := fun D σ H => ∃ L Z ρ G nx rt ct Xm, Rep c.ca X.K L Z σ H ρ G ∧ (∀ a, L a → Z a) ∧ wpS c.P Γ m ρ G nx rt ct Xm ∧ Tk c X L Z H (fp σ ρ G) Xm ∧ EndS c X L Z H (fp σ ρ G) nx rt ct D
def tSs (m : Ss) : TS := fun D σ H => ∃ L Z ρ G nx rt ct Xm, Rep c.ca X.K L Z σ H ρ G ∧ (∀ a, L a → Z a) ∧ wpSs c.P Γ m ρ G nx rt ct Xm ∧ Tk c X L Z H (fp σ ρ G) Xm ∧ EndS c X L Z H (fp σ ρ G) nx rt ct D
end
section
variable {c : Cx0} {n : Nat} {Γ : Cal} {X : Cx} {K : Ck} {L Z Z' : Addr → Prop} {σ : L2.St} {H H1 H2 : Hp} {ρ ρ1 ρ2 : Rho} {G G1 G2 : Hh} {f f2 ex : Addr → Prop} {x y v : V} {u w : U} {a b d : E} {e1 e2 e3 tg : Expr} {pos p2 : Pos} {r : R} {nx ct : Nx} {rt : Kc} {D : Ends} {st : Stmt} {sts st2 : List Stmt} {m : S} {ms ms2 : Ss}
theorem EndS.go (h : EndS c X L Z H f nx rt ct D) (hx : Ext H f H2 f2) : EndS c X L Z H2 f2 nx rt ct D :=
  ⟨fun σ' H' ρ' G' e R k => h.nx σ' H' ρ' G' (hx.trans e) R k, fun σ' r ρ' G' v H' e R k => h.rt σ' r ρ' G' v H' (hx.trans e) ⟨R.rep, R.val, fun p z => ⟨newback hx (R.new p z).1, (R.new p z).2⟩⟩ k, fun σ' H' ρ' G' e R k => h.ct σ' H' ρ' G' (hx.trans e) R k⟩
theorem ss_nil : PSs X [] (tSs c Γ X .nil) := by
  refine PSs.imp pss_nil fun D σ H ⟨L, Z, ρ, G, nx, rt, ct, Xm, R, hL, w, tk, en⟩ => ?_
  simp only [wpSs] at w
  exact en.nx σ H ρ G (Ext.refl _ _) R w
theorem ss_cons (g1 : PS X st (tS c Γ X m)) (g2 : PSs X sts (tSs c Γ X ms)) : PSs X (st :: sts) (tSs c Γ X (.cons m ms)) := by
  refine PSs.imp (pss_cons g1 g2) fun D σ H ⟨L, Z, ρ, G, nx, rt, ct, Xm, R, hL, w, tk, en⟩ => ?_
  simp only [wpSs] at w
  exact ⟨L, Z, ρ, G, _, rt, ct, Xm, R, hL, w, tk, fun σ' H' ρ' G' e R2 k => ⟨L, Z, ρ', G', nx, rt, ct, Xm, R2, hL, k, tk.go e fun _ z => z, en.go e⟩, en.rt, en.ct⟩
theorem s_ex (ga : PE X e1 (tE c Γ X a)) (hs : swapsWith e1 none pos.line X.env = pure false) : PS X (.Expr e1 pos) (tS c Γ X (.ex a)) := by
  refine PS.imp (ps_expr ga hs) fun D σ H ⟨L, Z, ρ, G, nx, rt, ct, Xm, R, hL, w, tk, en⟩ => ?_
  simp only [wpS] at w
  exact ⟨L, Z, ρ, G, Xm, _, R, hL, w, tk, fun r ρ1 G1 v H1 hx R1 w1 => en.nx σ H1 ρ1 G1 hx (R1.rep.less fun a => .inl) w1⟩
theorem asg_go {te : TE} {t : T} {g : TG} (R : Rep c.ca X.K L Z σ H ρ G) (hL : ∀ a, L a → Z a) {Xm : Xc} (w : wpS c.P Γ (.asg t a) ρ G nx rt ct Xm) (tk : Tk c X L Z H (fp σ ρ G) Xm) (en : EndS c X L Z H (fp σ ρ G) nx rt ct D)
    (hi : ∀ Q, tE c Γ X a σ H Q → te σ H Q) (hg : ∀ v H1, tT c Γ X t v σ H1 D.nx → g v σ H1 D.nx) : tAsg te g D σ H := by
  simp only [wpS] at w
  refine hi _ ⟨L, Z, ρ, G, Xm, _, R, hL, w, tk, fun r ρ1 G1 v H1 hx R1 w1 => hg v H1 ?_⟩
  exact ⟨L, Z, H, fp σ ρ G, ρ1, G1, r, Xm, nx, R1, hL, hx, w1, tk, fun σ' ρ' G' H' _ e R2 k => en.nx σ' H' ρ' G' e R2 k⟩
theorem s_asg {t : T} (ga : PE X e1 (tE c Γ X a)) (gt : PG X tg (tT c Γ X t)) (hs : swapsWithSole [tg] e1 pos.line X.env = pure false) (hw : swappedStores [tg] e1 X.env = pure none) (h1 : (assignEach [tg] X.env).map (·.2) = [assign tg X.env]) : PS X (.Assign [tg] e1 pos) (tS c Γ X (.asg t a)) :=
  PS.imp (ps_asg ga gt hs hw h1) fun D σ H ⟨L, Z, ρ, G, nx, rt, ct, Xm, R, hL, w, tk, en⟩ => asg_go R hL w tk en (fun _ h => h) fun _ _ h => h
theorem s_ret (ga : PE X e1 (tE c Γ X a)) : PS X (.Return (some e1) pos) (tS c Γ X (.ret a)) := by
  refine PS.imp (ps_ret ga) fun D σ H ⟨L, Z, ρ, G, nx, rt, ct, Xm, R, hL, w, tk, en⟩ => ?_
  simp only [wpS] at w
  exact ⟨L, Z, ρ, G, Xm, _, R, hL, w, tk, fun r ρ1 G1 v H1 hx R1 w1 => en.rt σ r ρ1 G1 v H1 hx R1 w1⟩
theorem s_retn : PS X (.Return none pos) (tS c Γ X .retn) := by
  refine PS.imp ps_retN fun D σ H ⟨L, Z, ρ, G, nx, rt, ct, Xm, R, hL, w, tk, en⟩ => ?_
  simp only [wpS] at w
  refine en.rt σ (.u .non) ρ G .non H (Ext.refl _ _) ⟨?_, ?_, fun p z => z.elim⟩ w
  · rw [hd_u, or2_false]; exact R
  · show RepU _ _ _ _ _
    simp only [RepU]
theorem s_pass : PS X (.Pass pos) (tS c Γ X .pass) := by
  refine PS.imp ps_pass fun D σ H ⟨L, Z, ρ, G, nx, rt, ct, Xm, R, hL, w, tk, en⟩ => ?_
  simp only [wpS] at w
  exact en.nx σ H ρ G (Ext.refl _ _) R w
theorem s_cont : PS X (.Continue pos) (tS c Γ X .cont) := by
  refine PS.imp ps_continue fun D σ H ⟨L, Z, ρ, G, nx, rt, ct, Xm, R, hL, w, tk, en⟩ => ?_
  simp only [wpS] at w
  exact en.ct σ H ρ G (Ext.refl _ _) R w
theorem s_ite (gc : PT X e1 (tB' c Γ X a)) (g1 : PSs X sts (tSs c Γ X ms)) (g2 : PSs X st2 (tSs c Γ X ms2)) : PS X (.If e1 sts st2 pos) (tS c Γ X (.ite a ms ms2)) := by
  refine PS.imp (ps_if gc g1 g2) fun D σ H ⟨L, Z, ρ, G, nx, rt, ct, Xm, R, hL, w, tk, en⟩ => ?_
  simp only [wpS] at w
  refine ⟨L, Z, ρ, G, Xm, fun r k ρ1 G1 => Br k (wpSs c.P Γ ms ρ1 G1 nx rt ct Xm) (wpSs c.P Γ ms2 ρ1 G1 nx rt ct Xm), R, hL, w, tk, fun r u k ρ1 G1 H1 Z1 hz hx R1 e1 e2 q => ?_⟩
  cases k with
  | true =>
    refine iteT ?_
    exact ⟨L, Z, ρ1, G1, nx, rt, ct, Xm, R1.less hz, hL, q, tk.go hx fun _ z => z, en.go hx⟩
  | false =>
    refine iteF ?_
    exact ⟨L, Z, ρ1, G1, nx, rt, ct, Xm, R1.less hz, hL, q, tk.go hx fun _ z => z, en.go hx⟩
/-- what is known shrinks -/
theorem fp_sub {G' : Hh} (h : Sub G' G) : ∀ a, fp σ ρ G' a → fp σ ρ G a := fun a z => z.imp (fun ⟨o, e⟩ => ⟨o, h a o e⟩) id
theorem Rep.sub {ca : Cs} {Kf : PySem.W.Frag} {G' : Hh} (R : Rep ca Kf L Z σ H ρ G) (h : Sub G' G) : Rep ca Kf L Z σ H ρ G' := by
  have hx : Ext H (Or2 (fp σ ρ G) Z) H (Or2 (fp σ ρ G') Z) := Ext.sub fun a z => z.elim (fun z => .inl (fp_sub h a z)) .inr
  refine ⟨R.len, fun i sv e => ?_, R.own, fun i u a e1 e2 => ?_, fun a o e => ?_, fun a z => ⟨fun q => (R.zd a z).1 (fp_sub h a q), (R.zd a z).2⟩⟩
  · obtain ⟨v, e1, q⟩ := R.slot i sv e
    exact ⟨v, e1, q.ext hx (fun a o x n => ⟨x, fun z => n (fp_sub h a z)⟩) fun _ _ _ _ _ e => e⟩
  · have := R.ownG i u a e1 e2
    cases e : G' a with
    | none => rfl
    | some o => rw [h a o e] at this; cases this
  · obtain ⟨ho, e1, q⟩ := R.heap a o (h a o e)
    exact ⟨ho, e1, q.ext hx⟩
theorem Ext.subG {G' : Hh} (hx : Ext H f H2 (fp σ ρ G)) (h : Sub G' G) : Ext H f H2 (fp σ ρ G') := fun a o e n => ⟨(hx a o e n).1, fun z => (hx a o e n).2 (fp_sub h a z)⟩
theorem s_whl (hp : PassesOwn (model X.prog X.w) X.A X.env X.xe) (gc : PT X e1 (tB' c Γ X a)) (g1 : PSs X sts (tSs c Γ X ms)) : PS X (.While e1 sts [] pos) (tS c Γ X (.whl a ms)) := by
  refine PS.imp (ps_while hp gc g1) fun D σ H ⟨L, Z, ρ, G, nx, rt, ct, Xm, R, hL, w, tk, en⟩ => ?_
  simp only [wpS] at w
  obtain ⟨n0, w⟩ := w
  refine ⟨fun n σ' H' => ∃ ρ' G', Ext H (fp σ ρ G) H' (fp σ' ρ' G') ∧ Rep c.ca X.K L Z σ' H' ρ' G' ∧ whlN (fun ρ1 G1 K => wpE c.P Γ a ρ1 G1 Xm fun r ρ2 G2 => tstK r ρ2 G2 fun k => K k ρ2 G2) (fun ρ1 G1 K => wpSs c.P Γ ms ρ1 G1 K rt K Xm) n ρ' G' nx, ⟨n0, ρ, G, Ext.refl _ _, R, w⟩, ?_⟩
  rintro n σ1 H1 ⟨ρ1, G1, hx1, R1, w1⟩
  cases n with
  | zero => exact w1.elim
  | succ n =>
    simp only [whlN] at w1
    refine ⟨L, Z, ρ1, G1, Xm, fun r k ρ2 G2 => Br k (wpSs c.P Γ ms ρ2 G2 (fun ρ2 G2 => ∃ G3, Sub G3 G2 ∧ whlN _ _ n ρ2 G3 nx) rt (fun ρ2 G2 => ∃ G3, Sub G3 G2 ∧ whlN _ _ n ρ2 G3 nx) Xm) (nx ρ2 G2), R1, hL, w1, tk.go hx1 fun _ z => z, fun r u k ρ2 G2 H2 Z2 hz hx2 R2 e1 e2 q => ?_⟩
    have hxx := hx1.trans hx2
    cases k with
    | false =>
      refine iteF ?_
      exact en.nx σ1 H2 ρ2 G2 hxx (R2.less hz) q
    | true =>
      refine iteT ?_
      have turn : ∀ σ' H' ρ' G', Ext H2 (fp σ1 ρ2 G2) H' (fp σ' ρ' G') → Rep c.ca X.K L Z σ' H' ρ' G' → (∃ G3, Sub G3 G' ∧ whlN (fun ρ1 G1 K => wpE c.P Γ a ρ1 G1 Xm fun r ρ2 G2 => tstK r ρ2 G2 fun k => K k ρ2 G2) (fun ρ1 G1 K => wpSs c.P Γ ms ρ1 G1 K rt K Xm) n ρ' G3 nx) →
          ∃ m', m' < n + 1 ∧ ∃ ρ' G', Ext H (fp σ ρ G) H' (fp σ' ρ' G') ∧ Rep c.ca X.K L Z σ' H' ρ' G' ∧ whlN (fun ρ1 G1 K => wpE c.P Γ a ρ1 G1 Xm fun r ρ2 G2 => tstK r ρ2 G2 fun k => K k ρ2 G2) (fun ρ1 G1 K => wpSs c.P Γ ms ρ1 G1 K rt K Xm) m' ρ' G' nx := fun σ' H' ρ' G' hx3 R3 ⟨G3, hs, w3⟩ =>
        ⟨n, Nat.lt_succ_self _, ρ', G3, (hxx.trans hx3).subG hs, R3.sub hs, w3⟩
      refine ⟨_, fun σ' H' h => h, L, Z, ρ2, G2, _, rt, _, Xm, R2.less hz, hL, q, tk.go hxx fun _ z => z, ⟨turn, ?_, turn⟩⟩
      exact (en.go hxx).rt
theorem s_for {t : T} {it : It} (hp : PassesOwn (model X.prog X.w) X.A X.env X.xe) (hc : X.calm = true) (gi : PI X tg e1 (tI c Γ X it)) (gt : PG X tg (tT c Γ X t)) (g1 : PSs X sts (tSs c Γ X ms)) (hs : ∀ x, foldedSetIterable e1 X.env x = pure x) : PS X (.For tg e1 sts [] pos) (tS c Γ X (.for_ t it ms)) := by
  refine PS.imp (ps_for hp hc gi gt g1 hs) fun D σ H ⟨L, Z, ρ, G, nx, rt, ct, Xm, R, hL, w, tk, en⟩ => ?_
  simp only [wpS] at w
  refine ⟨L, Z, ρ, G, Xm, _, R, hL, w, tk, fun src ρ1 G1 J H1 Z1 hz hx1 R1 ok w1 => ?_⟩
  -- the loop, for items us that stand as long as S
  have core : ∀ (us : List U) (S : Hp → (Addr → Prop) → Prop) (ck : Rho → Hh → Prop) (ρ0 : Rho), Wk X.K J us S → Ext H (fp σ ρ G) H1 (fp σ ρ0 G1) → Rep c.ca X.K L Z1 σ H1 ρ0 G1 →
      (∀ σ2 H2 ρ2 G2, Ext H1 (fp σ ρ0 G1) H2 (fp σ2 ρ2 G2) → Rep c.ca X.K L Z1 σ2 H2 ρ2 G2 → ck ρ2 G2 → S H2 (Or2 (fp σ2 ρ2 G2) Z1)) → ck ρ0 G1 →
      forI ck (fun x ρ2 G2 K => asgT c.P Γ t (.u x) ρ2 G2 Xm fun ρ3 G3 => wpSs c.P Γ ms ρ3 G3 K rt K Xm) us ρ0 G1 nx →
      ∃ W : Nat → Nat → L2.St → Hp → Prop, (∃ m, W 0 m σ H1) ∧ ∀ i m σ H, W i m σ H →
        (J.stop i H ∧ D.nx σ H) ∨ (J.go i H ∧ ∃ N : L2.St → Hp → Prop, (∀ σ' H', N σ' H' → ∃ m', m' < m ∧ W (i + 1) m' σ' H') ∧ ∀ x H', J.yld i H x H' → tT c Γ X t x σ H' fun σ2 H2 => tSs c Γ X ms { D with nx := N, ct := N, bk := D.nx } σ2 H2) := fun us S ck ρ0 wk hx0 R0 hS hck w2 => by
    refine ⟨fun i m σ2 H2 => m = us.length - i ∧ i ≤ us.length ∧ ∃ ρ2 G2, Ext H1 (fp σ ρ0 G1) H2 (fp σ2 ρ2 G2) ∧ Rep c.ca X.K L Z1 σ2 H2 ρ2 G2 ∧ ck ρ2 G2 ∧ forI ck (fun x ρ2 G2 K => asgT c.P Γ t (.u x) ρ2 G2 Xm fun ρ3 G3 => wpSs c.P Γ ms ρ3 G3 K rt K Xm) (us.drop i) ρ2 G2 nx,
      ⟨us.length, by simp, Nat.zero_le _, ρ0, G1, Ext.refl _ _, R0, hck, w2⟩, ?_⟩
    rintro i m σ2 H2 ⟨rfl, hi, ρ2, G2, hx2, R2, hck2, w3⟩
    have s2 := hS σ2 H2 ρ2 G2 hx2 R2 hck2
    by_cases hlt : i < us.length
    · refine .inr ⟨wk.goes hlt s2, _, fun σ' H' h => h, fun x H3 yl => ?_⟩
      rw [List.drop_eq_getElem_cons hlt] at w3
      simp only [forI_nil, forI_cons] at w3
      obtain ⟨hk, qx⟩ := wk.yields (List.getElem?_eq_getElem hlt) s2 (fun a z => z.elim (fun z => by obtain ⟨o, e, _⟩ := R2.mut z; exact ⟨o, e⟩) fun z => (R2.zd a z).2) yl
      have hx3 : Ext H2 (fp σ2 ρ2 G2) H3 (fp σ2 ρ2 G2) := fun a o e n => ⟨hk a o e, n⟩
      have hx03 := (hx0.trans hx2).trans hx3
      refine ⟨L, Z1, H3, fp σ2 ρ2 G2, ρ2, G2, .u us[i], Xm, _, ⟨?_, ?_, fun p z => z.elim⟩, fun a z => hz a (hL a z), Ext.refl _ _, w3, tk.go hx03 hz, fun σ4 ρ4 G4 H4 _ hx4 R4 w4 => ?_⟩
      · rw [hd_u, or2_false]; exact R2.heapExt hk
      · rw [hd_u, or2_false]; exact qx
      · have hx04 := hx03.trans hx4
        have turn : ∀ σ' H' ρ' G', Ext H4 (fp σ4 ρ4 G4) H' (fp σ' ρ' G') → Rep c.ca X.K L Z1 σ' H' ρ' G' → (∃ G'', Sub G'' G' ∧ ck ρ' G'' ∧ forI ck (fun x ρ2 G2 K => asgT c.P Γ t (.u x) ρ2 G2 Xm fun ρ3 G3 => wpSs c.P Γ ms ρ3 G3 K rt K Xm) (us.drop (i + 1)) ρ' G'' nx) →
            ∃ m', m' < us.length - i ∧ m' = us.length - (i + 1) ∧ i + 1 ≤ us.length ∧ ∃ ρ2 G2, Ext H1 (fp σ ρ0 G1) H' (fp σ' ρ2 G2) ∧ Rep c.ca X.K L Z1 σ' H' ρ2 G2 ∧ ck ρ2 G2 ∧ forI ck (fun x ρ2 G2 K => asgT c.P Γ t (.u x) ρ2 G2 Xm fun ρ3 G3 => wpSs c.P Γ ms ρ3 G3 K rt K Xm) (us.drop (i + 1)) ρ2 G2 nx := fun σ' H' ρ' G' hx5 R5 ⟨G6, hs6, hck6, w6⟩ =>
          ⟨us.length - (i + 1), by omega, rfl, hlt, ρ', G6, (((hx2.trans hx3).trans hx4).trans hx5).subG hs6, R5.sub hs6, hck6, w6⟩
        refine ⟨L, Z1, ρ4, G4, _, rt, _, Xm, R4, fun a z => hz a (hL a z), w4, tk.go hx04 hz, ⟨turn, ?_, turn⟩⟩
        intro σ' r ρ' G' v H' hx5 R5 k
        exact (en.go hx04).rt σ' r ρ' G' v H' hx5 ⟨R5.rep.less (fun a z => z.elim (fun z => .inl (hz a z)) .inr), R5.val.ext (Ext.sub fun a z => z.elim .inl fun z => .inr (z.elim (fun z => .inl (hz a z)) .inr)), fun p z => ⟨(R5.new p z).1, fun q => (R5.new p z).2 (hz p q)⟩⟩ k
    · have e : i = us.length := by omega
      subst e
      rw [List.drop_length] at w3
      simp only [forI_nil, forI_cons] at w3
      exact .inl ⟨wk.stops s2, en.nx σ2 H2 ρ2 G2 (hx0.trans hx2) (R2.less hz) w3⟩
  cases src with
  | fix us =>
    obtain ⟨S, wk, st⟩ := ok
    exact core us S (fun _ _ => True) ρ1 wk hx1 R1 (fun σ2 H2 ρ2 G2 hx2 R2 _ => st H2 _ hx2) trivial w1
  | heap p cc us =>
    obtain ⟨hg, wk⟩ := ok
    refine core us _ (fun _ G' => G' p = some (.con cc)) ρ1 wk hx1 R1 (fun σ2 H2 ρ2 G2 hx2 R2 hck => ?_) hg w1
    obtain ⟨ho, e1, q⟩ := R2.heap p _ hck
    exact vw_ofC e1 q
  | slot i cc us =>
    obtain ⟨p, hs1, hs2, wk⟩ := ok
    obtain ⟨hi, w2⟩ := setK_lt w1
    obtain ⟨R2, qf, sub⟩ := R1.freeze hs1 hs2
    refine core us _ (fun _ _ => True) (ρ1.set i (some (.u cc))) wk (fun a o e n => ⟨(hx1 a o e n).1, fun z => (hx1 a o e n).2 (sub a z)⟩) R2 (fun σ3 H3 ρ3 G3 hx3 R3 _ => ?_) trivial w2
    exact vw_ofU (fun a e => by
      subst e
      obtain ⟨v, e1, p2, o, _, _, q⟩ := R1.slot i _ hs1
      exact q) (RepU.ext hx3.keepZ _ qf)
end
/-! ### a loop over the keys of a dict -/
/-- what is read stays -/
def RdK (H H' : Hp) : Prop := ∀ b w, (∀ o x, w ≠ .frz o x) → Rd H b w → Rd H' b w
mutual
theorem RepU.rd {Kf : PySem.W.Frag} {H H' : Hp} {ex : Addr → Prop} (hr : RdK H H') : ∀ (u : U) {v : V}, RepU Kf H ex u v → RepU Kf H' ex u v
  | .non, v, r => by simpa only [RepU] using r
  | .bl _, v, r => by simpa only [RepU] using r
  | .int _, v, r => by simpa only [RepU] using r
  | .str _, v, r => by simpa only [RepU] using r
  | .ref _, v, r => by simpa only [RepU] using r
  | .set _, v, r => by simp only [RepU] at r
  | .tup xs, v, r => by
    simp only [RepU] at r ⊢
    obtain ⟨a, vs, e, t, q⟩ := r
    refine ⟨a, vs, e, ?_, RepUs.rd hr xs q⟩
    rcases t with ⟨t, n⟩ | t
    · exact .inl ⟨hr _ _ (fun _ _ z => nomatch z) t, n⟩
    · exact .inr t
  | .lst xs, v, r => by
    simp only [RepU] at r ⊢
    obtain ⟨a, vs, e, t, q⟩ := r
    refine ⟨a, vs, e, ?_, RepUs.rd hr xs q⟩
    rcases t with ⟨t, n⟩ | t
    · exact .inl ⟨hr _ _ (fun _ _ z => nomatch z) t, n⟩
    · exact .inr t
  | .dic ks ws, v, r => by
    simp only [RepU] at r ⊢
    obtain ⟨a, kvs, e, n, t, e2, q⟩ := r
    exact ⟨a, kvs, e, n, hr _ _ (fun _ _ z => nomatch z) t, e2, RepUs.rd hr ws q⟩
theorem RepUs.rd {Kf : PySem.W.Frag} {H H' : Hp} {ex : Addr → Prop} (hr : RdK H H') : ∀ (us : List U) {vs : List V}, RepUs Kf H ex us vs → RepUs Kf H' ex us vs
  | [], vs, r => by simpa only [RepUs] using r
  | u :: us, vs, r => by
    simp only [RepUs] at r ⊢
    obtain ⟨v, q, e, r1, r2⟩ := r
    exact ⟨v, q, e, RepU.rd hr u r1, RepUs.rd hr us r2⟩
end
section
variable {c : Cx0} {n : Nat} {Γ : Cal} {X : Cx} {K : Ck} {L Z Z' : Addr → Prop} {σ : L2.St} {H H' H1 H2 : Hp} {ρ ρ1 ρ2 : Rho} {G G1 G2 : Hh} {f f2 ex : Addr → Prop} {x y v : V} {u w : U} {a b d : E} {e1 e2 e3 tg : Expr} {pos p2 : Pos} {r : R} {nx ct : Nx} {rt : Kc} {D : Ends} {st : Stmt} {sts st2 : List Stmt} {m : S} {ms ms2 : Ss} {ca : Cs} {Kf : PySem.W.Frag} {J : L2.It}
theorem RepC.rd (hr : RdK H H') {o : HO} (r : RepC Kf H ex u o) : RepC Kf H' ex u o := by
  cases u <;> simp only [RepC] at r ⊢
  · obtain ⟨vs, e, q⟩ := r
    exact ⟨vs, e, RepUs.rd hr _ q⟩
  · obtain ⟨kvs, e, e2, q⟩ := r
    exact ⟨kvs, e, e2, RepUs.rd hr _ q⟩
theorem RepC.nf {o : HO} (r : RepC Kf H ex u o) : ∀ od x, o ≠ .frz od x := fun od x z => by
  subst z
  cases u <;> simp only [RepC] at r
  · obtain ⟨vs, e, q⟩ := r
    cases e
  · obtain ⟨kvs, e, e2, q⟩ := r
    cases e
theorem RepFs.rd {fn : Nat → Str} (hr : RdK H H') : ∀ {fs : List (Nat × U)} {gs : List (Str × V)}, RepFs Kf H ex fn fs gs → RepFs Kf H' ex fn fs gs
  | [], _, r => r
  | (f, x) :: fs, gs, r => by
    obtain ⟨v, q, e, r1, r2⟩ := r
    exact ⟨v, q, e, RepU.rd hr x r1, RepFs.rd hr r2⟩
theorem RepE.rd (hr : RdK H H') {a : Addr} {d : Option (Addr × Str × U)} (hk : ∀ b fs, H b = some (.xd fs) → H' b = some (.xd fs)) (r : RepE Kf H ex a d v) : RepE Kf H' ex a d v := by
  obtain ⟨e, r⟩ := r
  refine ⟨e, ?_⟩
  match d, r with
  | none, _ => trivial
  | some (dd, s, x), ⟨w, h1, h2, h3⟩ => exact ⟨w, hk dd _ h1, h2, RepU.rd hr x h3⟩
theorem RepO.rd (hr : RdK H H') {o : O} {ho : HO} (r : RepO ca Kf H ex o ho) : RepO ca Kf H' ex o ho := by
  cases o with
  | con u => exact RepC.rd hr (show RepC Kf H ex u ho from r)
  | ins k fs =>
    obtain ⟨h1, h2, dx, gs, e, q⟩ := r
    exact ⟨h1, h2, dx, gs, e, q.rd hr⟩
/-- something is locked, or unlocked -/
theorem Rep.rd (R : Rep ca Kf L Z σ H ρ G) (hr : RdK H H') (hk : ∀ b o, H b = some o → (fp σ ρ G b ∨ ∃ fs, o = .xd fs) → H' b = some o) (hd : ∀ b o, H b = some o → ∃ o', H' b = some o') : Rep ca Kf L Z σ H' ρ G := by
  refine ⟨R.len, fun i sv e => ?_, R.own, R.ownG, fun a o e => ?_, fun a z => ⟨(R.zd a z).1, ?_⟩⟩
  · obtain ⟨v, e1, q⟩ := R.slot i sv e
    refine ⟨v, e1, ?_⟩
    cases sv with
    | u x => exact RepU.rd hr x q
    | own x =>
      obtain ⟨a, o, e2, e3, q⟩ := q
      subst e2
      exact ⟨a, o, rfl, hk a o e3 (.inl (.inr ⟨i, x, e, e1⟩)), q.rd hr⟩
    | fz t x =>
      obtain ⟨e2, n, o, e3, q⟩ := q
      exact ⟨e2, n, o, hr _ _ q.nf e3, q.rd hr⟩
    | exc k d => exact RepE.rd hr (fun b fs e => hk b _ e (.inr ⟨fs, rfl⟩)) q
  · obtain ⟨ho, e1, q⟩ := R.heap a o e
    exact ⟨ho, hk a ho e1 (.inl (.inl ⟨o, e⟩)), q.rd hr⟩
  · obtain ⟨_, o, e⟩ := R.zd a z
    exact hd a o e
theorem rdk_lock {p : Addr} {od : Obj} {w : HO} (h : H p = some w) (hw : ∀ o x, w ≠ .frz o x) : RdK H (upd H p (.frz od w)) := fun b z hz r => by
  by_cases e : b = p
  · subst e
    refine .inr ⟨od, ?_⟩
    rcases r with r | ⟨o, r⟩
    · rw [h] at r; cases r; exact upd_same
    · rw [h] at r; cases r; exact absurd rfl (hw _ _)
  · rcases r with r | ⟨o, r⟩
    · exact .inl (by rw [upd_ne e]; exact r)
    · exact .inr ⟨o, by rw [upd_ne e]; exact r⟩
theorem rdk_unlock {p : Addr} {od : Obj} {w : HO} (h : H p = some (.frz od w)) : RdK H (upd H p w) := fun b z hz r => by
  by_cases e : b = p
  · subst e
    refine .inl ?_
    rcases r with r | ⟨o, r⟩
    · rw [h] at r; cases r; exact absurd rfl (hz _ _)
    · rw [h] at r; cases r; exact upd_same
  · rcases r with r | ⟨o, r⟩
    · exact .inl (by rw [upd_ne e]; exact r)
    · exact .inr ⟨o, by rw [upd_ne e]; exact r⟩
theorem upd_there {p : Addr} {w : HO} : ∀ b o, H b = some o → ∃ o', upd H p w b = some o' := fun b o e => by
  by_cases z : b = p
  · subst z; exact ⟨_, upd_same⟩
  · exact ⟨o, by rw [upd_ne z]; exact e⟩
theorem Rep.lock {p : Addr} {od : Obj} {kvs : List (Key × V)} (R : Rep ca Kf L Z σ H ρ G) (h : H p = some (.dK kvs)) (nf : ¬ fp σ ρ G p) : Rep ca Kf L Z σ (upd H p (.frz od (.dK kvs))) ρ G :=
  R.rd (rdk_lock h fun _ _ z => nomatch z) (fun b o e q => by
    by_cases z : b = p
    · subst z
      rcases q with q | ⟨fs, q⟩
      · exact absurd q nf
      · subst q; rw [h] at e; cases e
    · rw [upd_ne z]; exact e) upd_there
theorem Rep.nofrz {p : Addr} {od : Obj} {w : HO} (R : Rep ca Kf L Z σ H ρ G) (h : H p = some (.frz od w)) : ¬ fp σ ρ G p := fun z => by
  obtain ⟨o, e, q⟩ := R.mut z
  rw [h] at e
  cases e
  rcases q with ⟨u, q⟩ | ⟨C, dx, gs, q⟩
  · exact q.nf _ _ rfl
  · cases q
theorem Rep.unlock {p : Addr} {od : Obj} {w : HO} (R : Rep ca Kf L Z σ H ρ G) (h : H p = some (.frz od w)) : Rep ca Kf L Z σ (upd H p w) ρ G :=
  R.rd (rdk_unlock h) (fun b o e q => by
    by_cases z : b = p
    · subst z
      rcases q with q | ⟨fs, q⟩
      · exact absurd q (R.nofrz h)
      · subst q; rw [h] at e; cases e
    · rw [upd_ne z]; exact e) upd_there
theorem RepR.unlock {p : Addr} {od : Obj} {H0 : Hp} {kvs : List (Key × V)} (h0 : H0 p = some (.dK kvs)) (R : RepR ca Kf L Z σ (upd H0 p (.frz od (.dK kvs))) f H ρ G r v) (h : H p = some (.frz od (.dK kvs))) : RepR ca Kf L Z σ H0 f (upd H p (.dK kvs)) ρ G r v := by
  refine ⟨R.rep.unlock h, ?_, fun q z => ⟨?_, (R.new q z).2⟩⟩
  · have hv := R.val
    cases r with
    | u x => exact RepU.rd (rdk_unlock h) x hv
    | tmp x =>
      obtain ⟨q, o, e, e2, c⟩ := hv
      refine ⟨q, o, e, ?_, c.rd (rdk_unlock h)⟩
      rw [upd_ne (fun z => by rw [z, h] at e2; cases e2; exact c.nf _ _ rfl)]
      exact e2
    | lv i => exact hv
    | exc k => exact hv
  · rcases (R.new q z).1 with e | e
    · by_cases z2 : q = p
      · subst z2; rw [upd_same] at e; cases e
      · rw [upd_ne z2] at e; exact .inl e
    · exact .inr e
theorem EndS.lock {p : Addr} {od : Obj} {kvs : List (Key × V)} (en : EndS c X L Z H f nx rt ct D) (hp : H p = some (.dK kvs)) (nf : ¬ f p) :
    EndS c X L Z (upd H p (.frz od (.dK kvs))) f nx rt ct ⟨fun σ' H' => H' p = some (.frz od (.dK kvs)) ∧ D.nx σ' (upd H' p (.dK kvs)), fun v H' => H' p = some (.frz od (.dK kvs)) ∧ D.rt v (upd H' p (.dK kvs)), fun σ' H' => H' p = some (.frz od (.dK kvs)) ∧ D.bk σ' (upd H' p (.dK kvs)), fun σ' H' => H' p = some (.frz od (.dK kvs)) ∧ D.ct σ' (upd H' p (.dK kvs))⟩ := by
  have back : ∀ {H' : Hp} {f' : Addr → Prop}, Ext (upd H p (.frz od (.dK kvs))) f H' f' → H' p = some (.frz od (.dK kvs)) ∧ Ext H f (upd H' p (.dK kvs)) f' := fun {H' f'} hx => by
    obtain ⟨h1, h2⟩ := hx p _ upd_same nf
    refine ⟨h1, fun a o e n => ?_⟩
    by_cases z : a = p
    · subst z
      rw [hp] at e; cases e
      exact ⟨upd_same, h2⟩
    · obtain ⟨h3, h4⟩ := hx a o (by rw [upd_ne z]; exact e) n
      exact ⟨by rw [upd_ne z]; exact h3, h4⟩
  refine ⟨fun σ' H' ρ' G' hx R k => ?_, fun σ' r ρ' G' v H' hx R k => ?_, fun σ' H' ρ' G' hx R k => ?_⟩
  · obtain ⟨h1, h2⟩ := back hx
    exact ⟨h1, en.nx σ' _ ρ' G' h2 (R.unlock h1) k⟩
  · obtain ⟨h1, h2⟩ := back hx
    exact ⟨h1, en.rt σ' r ρ' G' v _ h2 (R.unlock hp h1) k⟩
  · obtain ⟨h1, h2⟩ := back hx
    exact ⟨h1, en.ct σ' _ ρ' G' h2 (R.unlock h1) k⟩
/-- the turns of a loop -/
theorem for_core {t : T} {us : List U} {S : Hp → (Addr → Prop) → Prop} {ck : Rho → Hh → Prop} {Xm : Xc} (hL : ∀ a, L a → Z a) (wk : Wk X.K J us S) (R0 : Rep c.ca X.K L Z σ H ρ G) (tk : Tk c X L Z H (fp σ ρ G) Xm) (en : EndS c X L Z H (fp σ ρ G) nx rt ct D)
    (hS : ∀ σ2 H2 ρ2 G2, Ext H (fp σ ρ G) H2 (fp σ2 ρ2 G2) → Rep c.ca X.K L Z σ2 H2 ρ2 G2 → ck ρ2 G2 → S H2 (Or2 (fp σ2 ρ2 G2) Z)) (hck : ck ρ G)
    (w2 : forI ck (fun x ρ2 G2 K => asgT c.P Γ t (.u x) ρ2 G2 Xm fun ρ3 G3 => wpSs c.P Γ ms ρ3 G3 K rt K Xm) us ρ G nx) :
    ∃ W : Nat → Nat → L2.St → Hp → Prop, (∃ m, W 0 m σ H) ∧ ∀ i m σ H, W i m σ H →
      (J.stop i H ∧ D.nx σ H) ∨ (J.go i H ∧ ∃ N : L2.St → Hp → Prop, (∀ σ' H', N σ' H' → ∃ m', m' < m ∧ W (i + 1) m' σ' H') ∧ ∀ x H', J.yld i H x H' → tT c Γ X t x σ H' fun σ2 H2 => tSs c Γ X ms { D with nx := N, ct := N, bk := D.nx } σ2 H2) := by
  refine ⟨fun i m σ2 H2 => m = us.length - i ∧ i ≤ us.length ∧ ∃ ρ2 G2, Ext H (fp σ ρ G) H2 (fp σ2 ρ2 G2) ∧ Rep c.ca X.K L Z σ2 H2 ρ2 G2 ∧ ck ρ2 G2 ∧ forI ck (fun x ρ2 G2 K => asgT c.P Γ t (.u x) ρ2 G2 Xm fun ρ3 G3 => wpSs c.P Γ ms ρ3 G3 K rt K Xm) (us.drop i) ρ2 G2 nx,
    ⟨us.length, by simp, Nat.zero_le _, ρ, G, Ext.refl _ _, R0, hck, w2⟩, ?_⟩
  rintro i m σ2 H2 ⟨rfl, hi, ρ2, G2, hx2, R2, hck2, w3⟩
  have s2 := hS σ2 H2 ρ2 G2 hx2 R2 hck2
  by_cases hlt : i < us.length
  · refine .inr ⟨wk.goes hlt s2, _, fun σ' H' h => h, fun x H3 yl => ?_⟩
    rw [List.drop_eq_getElem_cons hlt] at w3
    simp only [forI_nil, forI_cons] at w3
    obtain ⟨hk, qx⟩ := wk.yields (List.getElem?_eq_getElem hlt) s2 (fun a z => z.elim (fun z => by obtain ⟨o, e, _⟩ := R2.mut z; exact ⟨o, e⟩) fun z => (R2.zd a z).2) yl
    have hx3 : Ext H2 (fp σ2 ρ2 G2) H3 (fp σ2 ρ2 G2) := fun a o e n => ⟨hk a o e, n⟩
    have hx03 := hx2.trans hx3
    refine ⟨L, Z, H3, fp σ2 ρ2 G2, ρ2, G2, .u us[i], Xm, _, ⟨?_, ?_, fun p z => z.elim⟩, hL, Ext.refl _ _, w3, tk.go hx03 fun _ z => z, fun σ4 ρ4 G4 H4 _ hx4 R4 w4 => ?_⟩
    · rw [hd_u, or2_false]; exact R2.heapExt hk
    · rw [hd_u, or2_false]; exact qx
    · have hx04 := hx03.trans hx4
      have turn : ∀ σ' H' ρ' G', Ext H4 (fp σ4 ρ4 G4) H' (fp σ' ρ' G') → Rep c.ca X.K L Z σ' H' ρ' G' → (∃ G'', Sub G'' G' ∧ ck ρ' G'' ∧ forI ck (fun x ρ2 G2 K => asgT c.P Γ t (.u x) ρ2 G2 Xm fun ρ3 G3 => wpSs c.P Γ ms ρ3 G3 K rt K Xm) (us.drop (i + 1)) ρ' G'' nx) →
          ∃ m', m' < us.length - i ∧ m' = us.length - (i + 1) ∧ i + 1 ≤ us.length ∧ ∃ ρ2 G2, Ext H (fp σ ρ G) H' (fp σ' ρ2 G2) ∧ Rep c.ca X.K L Z σ' H' ρ2 G2 ∧ ck ρ2 G2 ∧ forI ck (fun x ρ2 G2 K => asgT c.P Γ t (.u x) ρ2 G2 Xm fun ρ3 G3 => wpSs c.P Γ ms ρ3 G3 K rt K Xm) (us.drop (i + 1)) ρ2 G2 nx := fun σ' H' ρ' G' hx5 R5 ⟨G6, hs6, hck6, w6⟩ =>
        ⟨us.length - (i + 1), by omega, rfl, hlt, ρ', G6, (((hx2.trans hx3).trans hx4).trans hx5).subG hs6, R5.sub hs6, hck6, w6⟩
      refine ⟨L, Z, ρ4, G4, _, rt, _, Xm, R4, hL, w4, tk.go hx04 fun _ z => z, ⟨turn, ?_, turn⟩⟩
      exact (en.go hx04).rt
  · have e : i = us.length := by omega
    subst e
    rw [List.drop_length] at w3
    simp only [forI_nil, forI_cons] at w3
    exact .inl ⟨wk.stops s2, en.nx σ2 H2 ρ2 G2 hx2 R2 w3⟩
theorem PS.or {t1 t2 : TS} (h1 : PS X st t1) (h2 : PS X st t2) : PS X st (fun D σ H => t1 D σ H ∨ t2 D σ H) := ⟨fun pins s σ H D I q => q.elim (h1.run pins s σ H D I) (h2.run pins s σ H D I)⟩
theorem wk_keys {p : Addr} {o : Obj} {kvs : List (Key × V)} (hg : (kvs.map fun q => kKey q.1).all goodU = true) : Wk Kf (Itk p o kvs) (kvs.map fun q => kKey q.1) (fun H _ => H p = some (.frz o (.dK kvs))) := by
  refine ⟨fun {i H ex} hi s => ?_, fun {H ex} s => ?_, fun {i H ex x H' u} hu s _ y => ?_⟩
  · rw [List.length_map] at hi
    exact ⟨s, hi⟩
  · rw [List.length_map]
    exact ⟨s, Nat.le_refl _⟩
  · obtain ⟨e, k, v, h1, h2⟩ := y
    subst e
    subst h2
    refine ⟨fun _ _ e => e, ?_⟩
    rw [List.getElem?_map, h1] at hu
    cases hu
    have hg1 := List.all_eq_true.mp hg (kKey k) (List.mem_map.mpr ⟨(k, v), List.mem_of_getElem? h1, rfl⟩)
    cases k with
    | inl j => simp only [kKey, kV, RepU]
    | inr s =>
      simp only [kKey, kV, RepU]
      simp only [kKey, goodU, Bool.and_eq_true, decide_eq_true_eq] at hg1
      exact ⟨by simp, hg1.1, fun c hc => of_decide_eq_true (List.all_eq_true.mp hg1.2 c hc)⟩
theorem noFz_out : ∀ {ρ : Rho} {i k : Nat}, noFz i ρ k = true → ∀ j t u, ρ[j]? = some (some (.fz t u)) → k + j = i
  | [], _, _, _, j, t, u, e => by simp at e
  | s :: ρ, i, k, h, j, t, u, e => by
    cases j with
    | zero =>
      simp at e
      subst e
      simp only [noFz, Bool.and_eq_true, decide_eq_true_eq] at h
      exact h.1
    | succ j =>
      have h' : noFz i ρ (k + 1) = true := by
        match s, h with
        | none, h => exact h
        | some (.u _), h => exact h
        | some (.own _), h => exact h
        | some (.exc _ _), h => exact h
        | some (.fz _ _), h =>
          simp only [noFz, Bool.and_eq_true] at h
          exact h.2
      have := noFz_out h' j t u (by simpa using e)
      omega
theorem Rep.lend {i : Nat} {p : Addr} {ks ws : List U} {o : HO} (R : Rep ca Kf L Z σ H ρ G) (hs : ρ[i]? = some (some (.u (.ref p)))) (hG : G p = some (.con (.dic ks ws))) (hH : H p = some o) :
    Rep ca Kf (Or2 L (One p)) (Or2 Z (One p)) σ H (ρ.set i (some (.fz p (.dic ks ws)))) (delG G p) ∧ ∀ a, fp σ (ρ.set i (some (.fz p (.dic ks ws)))) (delG G p) a ↔ fp σ ρ G a ∧ a ≠ p := by
  have fpp : fp σ ρ G p := .inl ⟨_, hG⟩
  have hfp : ∀ a, fp σ (ρ.set i (some (.fz p (.dic ks ws)))) (delG G p) a ↔ fp σ ρ G a ∧ a ≠ p := fun a => by
    constructor
    · rintro (⟨o, e⟩ | ⟨j, u, h1, h2⟩)
      · unfold delG at e
        by_cases z : a = p
        · rw [if_pos z] at e; cases e
        · rw [if_neg z] at e
          exact ⟨.inl ⟨o, e⟩, z⟩
      · rcases set_at h1 with ⟨_, h5⟩ | ⟨_, h5⟩
        · cases h5
        refine ⟨.inr ⟨j, u, h5, h2⟩, fun z => ?_⟩
        subst z
        rw [R.ownG j u a h5 h2] at hG
        cases hG
    · rintro ⟨⟨o, e⟩ | ⟨j, u, h1, h2⟩, z⟩
      · exact .inl ⟨o, by unfold delG; rw [if_neg z]; exact e⟩
      · refine .inr ⟨j, u, ?_, h2⟩
        by_cases z2 : j = i
        · subst z2; rw [hs] at h1; cases h1
        · rw [List.getElem?_set_ne (Ne.symm z2)]; exact h1
  have hex : Or2 (fp σ (ρ.set i (some (.fz p (.dic ks ws)))) (delG G p)) (Or2 Z (One p)) = Or2 (fp σ ρ G) Z := by
    funext a
    refine propext ⟨fun q => ?_, fun q => ?_⟩
    · rcases q with q | q | q
      · exact .inl ((hfp a).mp q).1
      · exact .inr q
      · have q' : a = p := q
        subst q'
        exact .inl fpp
    · rcases q with q | q
      · by_cases z : a = p
        · exact .inr (.inr z)
        · exact .inl ((hfp a).mpr ⟨q, z⟩)
      · exact .inr (.inl q)
  refine ⟨⟨by rw [List.length_set]; exact R.len, fun j sv e => ?_, fun j k u w a h1 h2 h3 h4 => ?_, fun j u a h1 h2 => ?_, fun a o e => ?_, fun a z => ?_⟩, hfp⟩
  · rw [hex]
    rcases set_at e with ⟨e1, e2⟩ | ⟨e1, e2⟩
    · subst e1
      cases e2
      obtain ⟨v, e3, q⟩ := R.slot _ _ hs
      have q' : RepU Kf H (Or2 (fp σ ρ G) Z) (.ref p) v := q
      simp only [RepU] at q'
      subst q'
      obtain ⟨ho, e4, q⟩ := R.heap p _ hG
      exact ⟨_, e3, rfl, ⟨fun z => ((hfp p).mp z).2 rfl, .inr rfl⟩, ho, .inl e4, q⟩
    · obtain ⟨v, e3, q⟩ := R.slot _ _ e2
      refine ⟨v, e3, ?_⟩
      cases sv with
      | u x => exact q
      | own x => exact q
      | fz t x =>
        obtain ⟨e5, ⟨n5, l⟩, q⟩ := q
        exact ⟨e5, ⟨fun z => n5 ((hfp t).mp z).1, .inl l⟩, q⟩
      | exc k d => exact q
  · rcases set_at h1 with ⟨_, h5⟩ | ⟨_, h5⟩
    · cases h5
    rcases set_at h2 with ⟨_, h6⟩ | ⟨_, h6⟩
    · cases h6
    exact R.own j k u w a h5 h6 h3 h4
  · rcases set_at h1 with ⟨_, h5⟩ | ⟨_, h5⟩
    · cases h5
    have := R.ownG j u a h5 h2
    unfold delG
    by_cases z : a = p
    · rw [if_pos z]
    · rw [if_neg z]; exact this
  · rw [hex]
    unfold delG at e
    by_cases z : a = p
    · rw [if_pos z] at e; cases e
    · rw [if_neg z] at e
      exact R.heap a o e
  · rcases z with z | z
    · exact ⟨fun q => (R.zd a z).1 ((hfp a).mp q).1, (R.zd a z).2⟩
    · have z' : a = p := z
      subst z'
      exact ⟨fun q => ((hfp a).mp q).2 rfl, _, hH⟩
theorem Rep.unlend {i : Nat} {p : Addr} {ks ws : List U} {kvs : List (Key × V)} (R : Rep ca Kf (Or2 L (One p)) (Or2 Z (One p)) σ H ρ G) (hL : ∀ a, L a → Z a) (nZ : ¬ Z p) (hs : ρ[i]? = some (some (.fz p (.dic ks ws)))) (hz : noFz i ρ 0 = true) (hH : H p = some (.dK kvs)) :
    Rep ca Kf L Z σ H (ρ.set i (some (.u (.ref p)))) (put G p (.con (.dic ks ws))) ∧ ∀ a, fp σ (ρ.set i (some (.u (.ref p)))) (put G p (.con (.dic ks ws))) a ↔ fp σ ρ G a ∨ a = p := by
  obtain ⟨v, e3, e4, ⟨nfp, _⟩, o, hrd, qc⟩ := R.slot _ _ hs
  subst e4
  have eo : o = .dK kvs := by
    rcases hrd with h | ⟨od, h⟩
    · rw [hH] at h; cases h; rfl
    · rw [hH] at h; cases h
  subst eo
  have hfp : ∀ a, fp σ (ρ.set i (some (.u (.ref p)))) (put G p (.con (.dic ks ws))) a ↔ fp σ ρ G a ∨ a = p := fun a => by
    constructor
    · rintro (⟨o, e⟩ | ⟨j, u, h1, h2⟩)
      · unfold put at e
        by_cases z : a = p
        · exact .inr z
        · rw [if_neg z] at e
          exact .inl (.inl ⟨o, e⟩)
      · rcases set_at h1 with ⟨_, h5⟩ | ⟨_, h5⟩
        · cases h5
        exact .inl (.inr ⟨j, u, h5, h2⟩)
    · rintro ((⟨o, e⟩ | ⟨j, u, h1, h2⟩) | z)
      · by_cases z : a = p
        · exact .inl ⟨_, by unfold put; rw [if_pos z]⟩
        · exact .inl ⟨o, by unfold put; rw [if_neg z]; exact e⟩
      · refine .inr ⟨j, u, ?_, h2⟩
        by_cases z2 : j = i
        · subst z2; rw [hs] at h1; cases h1
        · rw [List.getElem?_set_ne (Ne.symm z2)]; exact h1
      · exact .inl ⟨_, by unfold put; rw [if_pos z]⟩
  have hex : Or2 (fp σ (ρ.set i (some (.u (.ref p)))) (put G p (.con (.dic ks ws)))) Z = Or2 (fp σ ρ G) (Or2 Z (One p)) := by
    funext a
    refine propext ⟨fun q => ?_, fun q => ?_⟩
    · rcases q with q | q
      · rcases (hfp a).mp q with q | q
        · exact .inl q
        · exact .inr (.inr q)
      · exact .inr (.inl q)
    · rcases q with q | q | q
      · exact .inl ((hfp a).mpr (.inl q))
      · exact .inr q
      · exact .inl ((hfp a).mpr (.inr q))
  refine ⟨⟨by rw [List.length_set]; exact R.len, fun j sv e => ?_, fun j k u w a h1 h2 h3 h4 => ?_, fun j u a h1 h2 => ?_, fun a o e => ?_, fun a z => ?_⟩, hfp⟩
  · rw [hex]
    rcases set_at e with ⟨e1, e2⟩ | ⟨e1, e2⟩
    · subst e1
      cases e2
      refine ⟨_, e3, ?_⟩
      show RepU _ _ _ _ _
      simp only [RepU]
    · obtain ⟨v, e5, q⟩ := R.slot _ _ e2
      refine ⟨v, e5, ?_⟩
      cases sv with
      | u x => exact q
      | own x => exact q
      | fz t x =>
        have := noFz_out hz _ _ _ e2
        omega
      | exc k d => exact q
  · rcases set_at h1 with ⟨_, h5⟩ | ⟨_, h5⟩
    · cases h5
    rcases set_at h2 with ⟨_, h6⟩ | ⟨_, h6⟩
    · cases h6
    exact R.own j k u w a h5 h6 h3 h4
  · rcases set_at h1 with ⟨_, h5⟩ | ⟨_, h5⟩
    · cases h5
    have := R.ownG j u a h5 h2
    unfold put
    by_cases z : a = p
    · subst z
      exact absurd (.inr ⟨j, u, h5, h2⟩) nfp
    · rw [if_neg z]; exact this
  · rw [hex]
    unfold put at e
    by_cases z : a = p
    · rw [if_pos z] at e
      cases e
      subst z
      exact ⟨_, hH, qc⟩
    · rw [if_neg z] at e
      exact R.heap a o e
  · exact ⟨fun q => ((hfp a).mp q).elim (R.zd a (.inl z)).1 fun e => nZ (e ▸ z), (R.zd a (.inl z)).2⟩
/-- the loop, the dict locked -/
theorem fork_at {i : Nat} {t : T} {p : Addr} {od : Obj} {kvs : List (Key × V)} {Xm : Xc} (hL : ∀ a, L a → Z a) (R : Rep c.ca X.K L Z σ H ρ G) (tk : Tk c X L Z H (fp σ ρ G) Xm) (en : EndS c X L Z H (fp σ ρ G) nx rt ct D) (hp : H p = some (.frz od (.dK kvs))) (hs : σ[i]? = some (some (.ref p)))
    (hg : (kvs.map fun q => kKey q.1).all goodU = true)
    (w : forI (fun _ _ => True) (fun x ρ2 G2 K => asgT c.P Γ t (.u x) ρ2 G2 (fun _ _ _ _ => False) fun ρ3 G3 => wpSs c.P Γ ms ρ3 G3 K rt K fun _ _ _ _ => False) (kvs.map fun q => kKey q.1) ρ G nx) :
    tFor (iKeys (tVar i)) (tT c Γ X t) (tSs c Γ X ms) D σ H := by
  have nf := R.nofrz hp
  have tk0 : Tk c X L Z H (fp σ ρ G) (fun _ _ _ _ => False) := Takes.imp tk fun cls d σ2 H2 ⟨k, as, ρ3, G3, h1, h2, h3, h4⟩ => h4.elim
  refine ⟨.ref p, hs, p, od, rfl, .inl ⟨kvs, hp, ?_⟩⟩
  exact for_core hL (wk_keys hg) R tk0 en (fun σ2 H2 ρ2 G2 hx _ _ => (hx p _ hp nf).1) trivial w
theorem s_fork {i : Nat} {t : T} {x : Str} {px : Pos} (hp : PassesOwn (model X.prog X.w) X.A X.env X.xe) (hc : X.calm = true) (gi : PE X (.Name x px) (tVar i)) (gt : PG X tg (tT c Γ X t)) (g1 : PSs X sts (tSs c Γ X ms)) : PS X (.For tg (.Name x px) sts [] pos) (tS c Γ X (.fork i t ms)) := by
  have base := ps_for (pos := pos) hp hc (pi_keys gi) gt g1 (fun _ => rfl)
  refine PS.imp (PS.or base (ps_lock base)) fun D σ H ⟨L, Z, ρ, G, nx, rt, ct, Xm, R, hL, w, tk, en⟩ => ?_
  simp only [wpS] at w
  have tk0 : ∀ {L Z H f}, Tk c X L Z H f (fun _ _ _ _ => False) := fun {L Z H f} => Takes.imp tk fun cls d σ2 H2 ⟨k, as, ρ3, G3, h1, h2, h3, h4⟩ => h4.elim
  -- a dict that nobody writes
  have dic : ∀ {ρ : Rho} {kvs : List (Key × V)} {p : Addr}, Rep c.ca X.K L Z σ H ρ G → EndS c X L Z H (fp σ ρ G) nx rt ct D → ¬ fp σ ρ G p → Rd H p (.dK kvs) → σ[i]? = some (some (.ref p)) → (kvs.map fun q => kKey q.1).all goodU = true →
      forI (fun _ _ => True) (fun x ρ2 G2 K => asgT c.P Γ t (.u x) ρ2 G2 (fun _ _ _ _ => False) fun ρ3 G3 => wpSs c.P Γ ms ρ3 G3 K rt K fun _ _ _ _ => False) (kvs.map fun q => kKey q.1) ρ G nx →
      tFor (iKeys (tVar i)) (tT c Γ X t) (tSs c Γ X ms) D σ H ∨ tLock (tFor (iKeys (tVar i)) (tT c Γ X t) (tSs c Γ X ms)) D σ H := fun {ρ kvs p} R en nf hrd hs hg w => by
    rcases hrd with h | ⟨od, h⟩
    · exact .inr ⟨p, _, h, trivial, fun od => fork_at hL (R.lock h nf) tk0 (en.lock h nf) upd_same hs hg w⟩
    · exact .inl (fork_at hL R tk0 en h hs hg w)
  cases hs : ρ[i]? with
  | none => rw [hs] at w; exact w.elim
  | some os =>
    rw [hs] at w
    cases os with
    | none => exact w.elim
    | some sv =>
      obtain ⟨v, hv, q⟩ := R.slot i sv hs
      cases sv with
      | exc a d => exact w.elim
      | fz t2 y =>
        obtain ⟨e, ⟨nf, _⟩, o, hrd, q⟩ := q
        cases y <;> try exact w.elim
        obtain ⟨kvs, e2, e3, _⟩ := q
        subst e e2 e3
        exact dic R en nf hrd hv w.1 w.2
      | own y =>
        cases y <;> try exact w.elim
        obtain ⟨hg, w⟩ := w
        obtain ⟨hi, w⟩ := setK_lt w
        obtain ⟨R2, qf, sub⟩ := R.freeze hs hv
        simp only [RepU] at qf
        obtain ⟨p, kvs, e, nf, hrd, e2, _⟩ := qf
        subst e e2
        exact dic R2 (en.go (Ext.sub sub)) (fun z => nf (.inl z)) hrd hv hg w
      | u y =>
        cases y <;> try exact w.elim
        · have q' : RepU X.K H (Or2 (fp σ ρ G) Z) (.dic _ _) v := q
          simp only [RepU] at q'
          obtain ⟨p, kvs, e, nf, hrd, e2, _⟩ := q'
          subst e e2
          exact dic R en (fun z => nf (.inl z)) hrd hv w.1 w.2
        · rename_i p
          have q' : RepU X.K H (Or2 (fp σ ρ G) Z) (.ref p) v := q
          simp only [RepU] at q'
          subst q'
          simp only [forkK] at w
          cases hG : G p with
          | none => rw [hG] at w; exact w.elim
          | some o =>
            rw [hG] at w
            cases o with
            | ins k fs => exact w.elim
            | con cc =>
              cases cc <;> try exact w.elim
              rename_i ks ws
              obtain ⟨hg, w⟩ := w
              obtain ⟨hi, w⟩ := setK_lt w
              obtain ⟨ho, hH, kvs, e1, e2, qv⟩ := R.heap p _ hG
              subst e1 e2
              refine .inr ⟨p, _, hH, trivial, fun od => ?_⟩
              have fpp : fp σ ρ G p := .inl ⟨_, hG⟩
              have nZ : ¬ Z p := fun z => (R.zd p z).1 fpp
              obtain ⟨R0, hfp⟩ := R.lend hs hG hH
              have nf0 : ¬ fp σ (ρ.set i (some (.fz p (.dic (kvs.map fun q => kKey q.1) ws)))) (delG G p) p := fun z => ((hfp p).mp z).2 rfl
              have hL0 : ∀ a, Or2 L (One p) a → Or2 Z (One p) a := fun a z => z.imp (hL a) id
              refine fork_at (rt := fun _ _ _ => False) (ct := fun _ _ => False) hL0 (R0.lock hH nf0) tk0 ⟨fun σ' H' ρ' G' hx R' k => ?_, fun _ _ _ _ _ _ _ _ k => k.elim, fun _ _ _ _ _ _ k => k.elim⟩ upd_same hv hg w
              obtain ⟨⟨h3, h4⟩, k⟩ := k
              obtain ⟨_, k⟩ := setK_lt k
              obtain ⟨h1, h2⟩ := hx p _ upd_same nf0
              obtain ⟨R5, hf5⟩ := (R'.unlock h1).unlend hL nZ h3 h4 upd_same
              refine ⟨h1, en.nx σ' _ _ _ (fun a o e na => ?_) R5 k⟩
              have z : a ≠ p := fun z => by subst z; exact na fpp
              obtain ⟨h6, h7⟩ := hx a o (by rw [upd_ne z]; exact e) fun q => na ((hfp a).mp q).1
              exact ⟨by rw [upd_ne z]; exact h6, fun q => ((hf5 a).mp q).elim h7 z⟩
end
end Mp

/-! Mp17: comprehensions. -/
namespace Mp
open PySem PySem.Spec PyProof.Rows L2

/-! ### slots wiped and back -/
def wipeL (ρ : Rho) : List Nat → Rho
  | [] => ρ
  | v :: vs => (wipeL ρ vs).set v none
def backL (ρ0 ρ : Rho) : List Nat → Rho
  | [] => ρ
  | v :: vs => match ρ0[v]? with
    | some o => (backL ρ0 ρ vs).set v o
    | none => backL ρ0 ρ vs
theorem wipeK_out : ∀ {vs : List Nat} {ρ : Rho} {K0 : Rho → Prop}, wipeK ρ vs K0 → K0 (wipeL ρ vs)
  | [], _, _, h => h
  | v :: vs, ρ, K0, h => by
    have h' : wipeK ρ vs fun ρ' => setK ρ' v none K0 := h
    exact (setK_lt (wipeK_out h')).2
theorem backK_out : ∀ {vs : List Nat} {ρ0 ρ : Rho} {K0 : Rho → Prop}, backK ρ0 ρ vs K0 → K0 (backL ρ0 ρ vs)
  | [], _, _, _, h => h
  | v :: vs, ρ0, ρ, K0, h => by
    have h' : backK ρ0 ρ vs fun ρ' => optK (ρ0[v]?) fun o => setK ρ' v o K0 := h
    obtain ⟨o, e, h2⟩ := optK_out (backK_out h')
    unfold backL
    rw [e]
    exact (setK_lt h2).2
theorem wipeL_length {ρ : Rho} : ∀ {vs : List Nat}, (wipeL ρ vs).length = ρ.length
  | [] => rfl
  | v :: vs => by unfold wipeL; rw [List.length_set, wipeL_length]
theorem wipeL_some {ρ : Rho} {i : Nat} {x : SV} : ∀ {vs : List Nat}, (wipeL ρ vs)[i]? = some (some x) → ρ[i]? = some (some x) ∧ i ∉ vs
  | [], h => ⟨h, by simp⟩
  | v :: vs, h => by
    unfold wipeL at h
    rcases set_at h with ⟨_, e⟩ | ⟨ne, h⟩
    · cases e
    · obtain ⟨h1, h2⟩ := wipeL_some h
      exact ⟨h1, by simp only [List.mem_cons, not_or]; exact ⟨ne, h2⟩⟩
theorem wipeL_out {ρ : Rho} {i : Nat} : ∀ {vs : List Nat}, i ∉ vs → (wipeL ρ vs)[i]? = ρ[i]?
  | [], _ => rfl
  | v :: vs, h => by
    unfold wipeL
    rw [List.getElem?_set_ne (fun e => h (by rw [e]; exact List.mem_cons_self))]
    exact wipeL_out fun m => h (List.mem_cons_of_mem _ m)
theorem backL_length {ρ0 ρ : Rho} : ∀ {vs : List Nat}, (backL ρ0 ρ vs).length = ρ.length
  | [] => rfl
  | v :: vs => by
    unfold backL
    split
    · rw [List.length_set, backL_length]
    · exact backL_length
theorem backL_some {ρ0 ρ : Rho} {i : Nat} {x : SV} (hl : ρ0.length = ρ.length) : ∀ {vs : List Nat}, (backL ρ0 ρ vs)[i]? = some (some x) → (i ∈ vs ∧ ρ0[i]? = some (some x)) ∨ (i ∉ vs ∧ ρ[i]? = some (some x))
  | [], h => .inr ⟨by simp, h⟩
  | v :: vs, h => by
    unfold backL at h
    cases e : ρ0[v]? with
    | none =>
      rw [e] at h
      have hv : ρ0.length ≤ v := List.getElem?_eq_none_iff.mp e
      rcases backL_some hl h with ⟨h1, h2⟩ | ⟨h1, h2⟩
      · exact .inl ⟨List.mem_cons_of_mem _ h1, h2⟩
      · refine .inr ⟨fun z => (List.mem_cons.mp z).elim (fun z => ?_) h1, h2⟩
        subst z
        obtain ⟨h3, _⟩ := List.getElem?_eq_some_iff.mp h2
        omega
    | some o =>
      rw [e] at h
      rcases set_at h with ⟨e1, e2⟩ | ⟨ne, h⟩
      · subst e1
        rw [e2] at e
        exact .inl ⟨List.mem_cons_self, e⟩
      · rcases backL_some hl h with ⟨h1, h2⟩ | ⟨h1, h2⟩
        · exact .inl ⟨List.mem_cons_of_mem _ h1, h2⟩
        · exact .inr ⟨fun z => (List.mem_cons.mp z).elim ne h1, h2⟩
section
variable {c : Cx0} {n : Nat} {Γ : Cal} {X : Cx} {K : Ck} {L Z Z' N : Addr → Prop} {σ : L2.St} {H H1 H2 : Hp} {ρ ρ0 ρ1 ρ2 : Rho} {G G1 G2 : Hh} {f ex : Addr → Prop} {x y v : V} {u w : U} {Qm : Kc} {a b d : E} {e1 e2 e3 tg : Expr} {pos p2 : Pos} {r : R} {Q : VK} {ca : Cs} {Kf : PySem.W.Frag} {vs own : List Nat} {D : Addr}
/-- a state with fewer slots known -/
theorem Rep.wiped (R : Rep ca Kf L Z σ H ρ G) : Rep ca Kf L Z (wipe σ vs) H (wipeL ρ vs) G ∧ ∀ a, fp (wipe σ vs) (wipeL ρ vs) G a → fp σ ρ G a := by
  have sg : ∀ {i : Nat} {x : SV}, (wipeL ρ vs)[i]? = some (some x) → ρ[i]? = some (some x) ∧ (L2.wipe σ vs)[i]? = σ[i]? := fun {i x} h => by
    obtain ⟨h1, h2⟩ := wipeL_some h
    exact ⟨h1, wipe_out h2⟩
  have sub : ∀ a, fp (L2.wipe σ vs) (wipeL ρ vs) G a → fp σ ρ G a := fun a h => by
    rcases h with h | ⟨i, x, h1, h2⟩
    · exact .inl h
    · obtain ⟨h3, h4⟩ := sg h1
      exact .inr ⟨i, x, h3, by rw [← h4]; exact h2⟩
  have hx : Ext H (Or2 (fp σ ρ G) Z) H (Or2 (fp (L2.wipe σ vs) (wipeL ρ vs) G) Z) := Ext.sub fun a z => z.elim (fun z => .inl (sub a z)) .inr
  refine ⟨⟨by rw [wipe_length, wipeL_length]; exact R.len, fun i sv e => ?_, fun i j u w a h1 h2 h3 h4 => ?_, fun i u a h1 h2 => ?_, fun a o e => ?_, fun a z => ⟨fun q => (R.zd a z).1 (sub a q), (R.zd a z).2⟩⟩, sub⟩
  · obtain ⟨h1, h2⟩ := sg e
    obtain ⟨v, e1, q⟩ := R.slot i sv h1
    exact ⟨v, by rw [h2]; exact e1, q.ext hx (fun a o x n => ⟨x, fun z => n (sub a z)⟩) fun _ _ _ _ _ e => e⟩
  · obtain ⟨k1, k2⟩ := sg h1
    obtain ⟨k3, k4⟩ := sg h2
    exact R.own i j u w a k1 k3 (by rw [← k2]; exact h3) (by rw [← k4]; exact h4)
  · obtain ⟨k1, k2⟩ := sg h1
    exact R.ownG i u a k1 (by rw [← k2]; exact h2)
  · obtain ⟨ho, e1, q⟩ := R.heap a o e
    exact ⟨ho, e1, q.ext hx⟩
/-- the slots as they were -/
theorem Rep.back (R : Rep ca Kf L Z (wipe σ vs) H ρ G) (hl : ρ0.length = ρ.length) (hv : ∀ i ∈ vs, ∀ sv, ρ0[i]? = some (some sv) → ∃ x w, sv = .u x ∧ σ[i]? = some (some w) ∧ RepU Kf H (Or2 (fp (wipe σ vs) ρ G) Z) x w) :
    Rep ca Kf L Z σ H (backL ρ0 ρ vs) G ∧ ∀ a, fp σ (backL ρ0 ρ vs) G a → fp (wipe σ vs) ρ G a := by
  have sub : ∀ a, fp σ (backL ρ0 ρ vs) G a → fp (L2.wipe σ vs) ρ G a := fun a h => by
    rcases h with h | ⟨i, x, h1, h2⟩
    · exact .inl h
    · rcases backL_some hl h1 with ⟨k1, k2⟩ | ⟨k1, k2⟩
      · obtain ⟨y, _, e, _⟩ := hv i k1 _ k2
        cases e
      · exact .inr ⟨i, x, k2, by rw [wipe_out k1]; exact h2⟩
  have ownI : ∀ {i : Nat} {u : U}, (backL ρ0 ρ vs)[i]? = some (some (.own u)) → ρ[i]? = some (some (.own u)) ∧ (L2.wipe σ vs)[i]? = σ[i]? := fun {i u} h => by
    rcases backL_some hl h with ⟨k1, k2⟩ | ⟨k1, k2⟩
    · obtain ⟨y, _, e, _⟩ := hv i k1 _ k2
      cases e
    · exact ⟨k2, wipe_out k1⟩
  have hx : Ext H (Or2 (fp (L2.wipe σ vs) ρ G) Z) H (Or2 (fp σ (backL ρ0 ρ vs) G) Z) := Ext.sub fun a z => z.elim (fun z => .inl (sub a z)) .inr
  refine ⟨⟨by rw [backL_length, ← R.len, wipe_length], fun i sv e => ?_, fun i j u w a h1 h2 h3 h4 => ?_, fun i u a h1 h2 => ?_, fun a o e => ?_, fun a z => ⟨fun q => (R.zd a z).1 (sub a q), (R.zd a z).2⟩⟩, sub⟩
  · rcases backL_some hl e with ⟨k1, k2⟩ | ⟨k1, k2⟩
    · obtain ⟨y, w, e1, e2, q⟩ := hv i k1 _ k2
      subst e1
      exact ⟨w, e2, RepU.ext hx y q⟩
    · obtain ⟨v, e1, q⟩ := R.slot i sv k2
      exact ⟨v, by rw [← wipe_out k1]; exact e1, q.ext hx (fun a o x n => ⟨x, fun z => n (sub a z)⟩) fun _ _ _ _ _ e => e⟩
  · obtain ⟨k1, k2⟩ := ownI h1
    obtain ⟨k3, k4⟩ := ownI h2
    exact R.own i j u w a k1 k3 (by rw [k2]; exact h3) (by rw [k4]; exact h4)
  · obtain ⟨k1, k2⟩ := ownI h1
    exact R.ownG i u a k1 (by rw [k2]; exact h2)
  · obtain ⟨ho, e1, q⟩ := R.heap a o e
    exact ⟨ho, e1, q.ext hx⟩
/-- a reserved address is written -/
theorem Rep.updZ {o : HO} (R : Rep ca Kf L Z σ H ρ G) (hz : Z D) (hl : ¬ L D) : Rep ca Kf L Z σ (upd H D o) ρ G ∧ Ext H (Or2 (fp σ ρ G) Z) (upd H D o) (Or2 (fp σ ρ G) Z) := by
  have nf := (R.zd D hz).1
  have keep : ∀ a w, a ≠ D → H a = some w → upd H D o a = some w := fun a w n e => by rw [upd_ne n]; exact e
  have hx : Ext H (Or2 (fp σ ρ G) Z) (upd H D o) (Or2 (fp σ ρ G) Z) := fun a w e n => ⟨keep a w (fun z => n (.inr (z ▸ hz))) e, n⟩
  refine ⟨⟨R.len, fun i sv e => ?_, R.own, R.ownG, fun a ob e => ?_, fun a z => ⟨(R.zd a z).1, ?_⟩⟩, hx⟩
  · obtain ⟨v, e1, q⟩ := R.slot i sv e
    refine ⟨v, e1, ?_⟩
    cases sv with
    | u x => exact RepU.ext hx x q
    | own x =>
      obtain ⟨p, w, h1, h2, q⟩ := q
      exact ⟨p, w, h1, keep p w (fun z => nf (.inr ⟨i, x, e, by rw [e1, h1, z]⟩)) h2, q.ext hx⟩
    | fz t x =>
      obtain ⟨h1, ⟨h2, h3⟩, w, h4, q⟩ := q
      exact ⟨h1, ⟨h2, h3⟩, w, h4.imp (fun h4 => keep t w (fun z => hl (z ▸ h3)) h4) (fun ⟨od, h4⟩ => ⟨od, keep t _ (fun z => hl (z ▸ h3)) h4⟩), q.ext hx⟩
    | exc k d => exact RepE.ext hx q
  · obtain ⟨ho, e1, q⟩ := R.heap a ob e
    exact ⟨ho, keep a ho (fun z => nf (.inl ⟨ob, by rw [← z]; exact e⟩)) e1, q.ext hx⟩
  · by_cases ea : a = D
    · exact ⟨o, by rw [ea, upd_same]⟩
    · obtain ⟨w, e⟩ := (R.zd a z).2
      exact ⟨w, keep a w ea e⟩
theorem plains_out : ∀ {own : List Nat}, plainsS ρ own = true → ∀ i ∈ own, ∀ sv, ρ[i]? = some (some sv) → ∃ x, sv = .u x
  | v :: vs, h, i, hi, sv, e => by
    simp only [plainsS, Bool.and_eq_true] at h
    rcases List.mem_cons.mp hi with z | z
    · subst z
      have h1 := h.1
      rw [e] at h1
      cases sv <;> simp only [plainS] at h1 <;> first | exact ⟨_, rfl⟩ | cases h1
    · exact plains_out h.2 i z sv e

/-! ### in the block nothing is raised -/
def Xf : Xc := fun _ _ _ _ => False
theorem tkF {H0 : Hp} {f0 : Addr → Prop} : Tk c X L Z H0 f0 Xf := Takes.imp takesF fun cls d σ H ⟨k, as, ρ, G, _, _, _, h⟩ => h
def tE0 (c : Cx0) (Γ : Cal) (X : Cx) (m : E) : TE := fun σ H Q => ∃ L Z ρ G Qm, Rep c.ca X.K L Z σ H ρ G ∧ (∀ a, L a → Z a) ∧ wpE c.P Γ m ρ G Xf Qm ∧ EndE c X L Z σ H (fp σ ρ G) Qm Q
def tT0 (c : Cx0) (Γ : Cal) (X : Cx) (t : T) : TG := fun v σ H Q => ∃ L Z H0 f0 ρ G r Qm, RepR c.ca X.K L Z σ H0 f0 H ρ G r v ∧ (∀ a, L a → Z a) ∧ Ext H0 f0 H (fp σ ρ G) ∧ asgT c.P Γ t r ρ G Xf Qm ∧ EndG c X L Z H0 f0 (fun σ' => ∀ vs, tgB vs t = true → wipe σ' vs = wipe σ vs) Qm Q
def tB0 (c : Cx0) (Γ : Cal) (X : Cx) : Oe → TT
  | .none => tYes
  | .some m => fun σ H Q => ∃ L Z ρ G K, Rep c.ca X.K L Z σ H ρ G ∧ (∀ a, L a → Z a) ∧ wpE c.P Γ m ρ G Xf (fun r ρ1 G1 => tstK r ρ1 G1 fun k => K r k ρ1 G1) ∧ EndT c X L Z σ H (fp σ ρ G) K Q
/-- the same readings at a block's context -/
theorem e_blk {X' : Cx} (hK : X'.K = X.K) (g : PE X' e1 (tE c Γ X' a)) : PE X' e1 (tE0 c Γ X a) := PE.imp g fun σ H Q ⟨L, Z, ρ, G, Qm, R, hL, w, en⟩ => ⟨L, Z, ρ, G, Xf, Qm, by rw [hK]; exact R, hL, w, tkF, by unfold EndE at en ⊢; rw [hK]; exact en⟩
theorem g_blk {X' : Cx} {t : T} (hK : X'.K = X.K) (g : PG X' tg (tT c Γ X' t)) : PG X' tg (tT0 c Γ X t) := PG.imp g fun v σ H Q ⟨L, Z, H0, f0, ρ, G, r, Qm, R, hL, hx, w, en⟩ => ⟨L, Z, H0, f0, ρ, G, r, Xf, Qm, by rw [hK]; exact R, hL, hx, w, tkF, by unfold EndG at en ⊢; rw [hK]; exact en⟩
theorem t_blk {X' : Cx} (hK : X'.K = X.K) (g : PT X' e1 (tB' c Γ X' a)) : PT X' e1 (tB0 c Γ X (.some a)) := PT.imp g fun σ H Q ⟨L, Z, ρ, G, K, R, hL, w, en⟩ => ⟨L, Z, ρ, G, Xf, K, by rw [hK]; exact R, hL, w, tkF, by unfold EndT at en ⊢; rw [hK]; exact en⟩

def lcTurn (P : Pg) (Γ : Cal) (elt : E) (t : T) (cc : Oe) : U → Rho → Hh → (Option U → Rho → Hh → Prop) → Prop := fun x ρ2 G2 K => asgT P Γ t (.u x) ρ2 G2 Xf fun ρ3 G3 =>
  wpO P Γ cc ρ3 G3 Xf fun rc ρ4 G4 => cndK rc ρ4 G4 (wpE P Γ elt ρ4 G4 Xf fun ry ρ5 G5 => toU ry ρ5 fun y ρ6 => K (some y) ρ6 G5) (K none ρ4 G4)
/-- a comprehension by its turns -/
theorem lc_go {elt : E} {t : T} {it : It} {cc : Oe} (ht : tgB own t = true) (h : tE c Γ X (.lc elt t it cc own) σ H Q) : tLc (tI c Γ X it) (tT0 c Γ X t) (tB0 c Γ X cc) (tE0 c Γ X elt) own σ H Q := by
  obtain ⟨L, Z, ρ, G, Xm, Qm, R, hL, w, tk, en⟩ := h
  simp only [wpE] at w
  refine ⟨L, Z, ρ, G, Xm, _, R, hL, w, tk, fun src ρ1 G1 J H1 Z1 hz hx1 R1 ok w1 => fun D hD => ?_⟩
  have hL1 : ∀ a, L a → Z1 a := fun a z => hz a (hL a z)
  have nZ1 : ¬ Z1 D := fun z => by
    obtain ⟨_, o, e⟩ := R1.zd D z
    rw [hD] at e; cases e
  have nL : ¬ L D := fun z => nZ1 (hL1 D z)
  obtain ⟨hp, w1⟩ := w1
  have hpl := plains_out hp
  have keepD : ∀ a o, H1 a = some o → a ≠ D := fun a o e z => by rw [z, hD] at e; cases e
  -- the loop, for items us that stand as long as S
  have core : ∀ (us : List U) (S : Hp → (Addr → Prop) → Prop) (ck : Rho → Hh → Prop), Wk X.K J us S → us.length ≤ sizeLine →
      (∀ H2 ρ2 G2, Ext H1 (fp σ ρ1 G1) H2 (fp (wipe σ own) ρ2 G2) → Rep c.ca X.K L (Or2 Z1 (One D)) (wipe σ own) H2 ρ2 G2 → ck ρ2 G2 → S H2 (Or2 (fp (wipe σ own) ρ2 G2) (Or2 Z1 (One D)))) → ck (wipeL ρ1 own) G1 →
      lcI own ck (lcTurn c.P Γ elt t cc) us [] (wipeL ρ1 own) G1 (fun acc ρ' G' => backK ρ1 ρ' own fun ρ2 => Qm (.tmp (.lst acc)) ρ2 G') →
      ∃ W : Nat → Nat → Hp → Prop, (∃ m, W 0 m (upd H1 D (.lst []))) ∧ ∀ i m H, W i m H →
        (J.stop i H ∧ Q (.ref D) H) ∨ (J.go i H ∧ ∃ Nx : Hp → Prop, (∀ H', Nx H' → ∃ m', m' < m ∧ W (i + 1) m' H') ∧ ∀ x H', J.yld i H x H' → tT0 c Γ X t x (wipe σ own) H' fun σ2 H2 => wipe σ2 own = wipe σ own ∧ tB0 c Γ X cc σ2 H2 fun b H3 =>
          if b = true then tE0 c Γ X elt σ2 H3 fun y H4 => ∃ acc, H4 D = some (.lst acc) ∧ acc.length < sizeLine ∧ Nx (upd H4 D (.lst (acc ++ [y]))) else Nx H3) := fun us S ck wk hsz hS hck w2 => by
    obtain ⟨Rw, subw⟩ := R1.wiped (vs := own)
    have hup : ∀ a o, H1 a = some o → upd H1 D (.lst []) a = some o := fun a o e => by rw [upd_ne (keepD a o e)]; exact e
    have Rw1 : Rep c.ca X.K L (Or2 Z1 (One D)) (wipe σ own) (upd H1 D (.lst [])) (wipeL ρ1 own) G1 := Rw.more hup fun a e => by
      have e' : a = D := e
      subst e'
      exact ⟨hD, _, upd_same⟩
    refine ⟨fun i m H2 => m = us.length - i ∧ i ≤ us.length ∧ ∃ ρ2 G2 acc vs, Ext H1 (fp σ ρ1 G1) H2 (fp (wipe σ own) ρ2 G2) ∧ Rep c.ca X.K L (Or2 Z1 (One D)) (wipe σ own) H2 ρ2 G2 ∧ ck ρ2 G2 ∧ acc.length ≤ i ∧ H2 D = some (.lst vs) ∧ RepUs X.K H2 (Or2 (fp (wipe σ own) ρ2 G2) (Or2 Z1 (One D))) acc vs ∧
        ρ2.length = ρ1.length ∧ lcI own ck (lcTurn c.P Γ elt t cc) (us.drop i) acc ρ2 G2 (fun acc ρ' G' => backK ρ1 ρ' own fun ρ2 => Qm (.tmp (.lst acc)) ρ2 G'),
      ⟨us.length, by simp, Nat.zero_le _, wipeL ρ1 own, G1, [], [], fun a o e n => ⟨hup a o e, fun z => n (subw a z)⟩, Rw1, hck, Nat.zero_le _, upd_same, by simp [RepUs], wipeL_length, w2⟩, ?_⟩
    rintro i m H2 ⟨rfl, hi, ρ2, G2, acc, vs, hx2, R2, hck2, hacc, hHD, qacc, hlen, w3⟩
    have s2 := hS H2 ρ2 G2 hx2 R2 hck2
    by_cases hlt : i < us.length
    · refine .inr ⟨wk.goes hlt s2, _, fun H' h => h, fun x H3 yl => ?_⟩
      rw [List.drop_eq_getElem_cons hlt] at w3
      simp only [lcI_nil, lcI_cons] at w3
      obtain ⟨hk, qx⟩ := wk.yields (List.getElem?_eq_getElem hlt) s2 (fun a z => z.elim (fun z => by obtain ⟨o, e, _⟩ := R2.mut z; exact ⟨o, e⟩) fun z => (R2.zd a z).2) yl
      have hx3 : Ext H2 (fp (wipe σ own) ρ2 G2) H3 (fp (wipe σ own) ρ2 G2) := fun a o e n => ⟨hk a o e, n⟩
      refine ⟨L, Or2 Z1 (One D), H3, fp (wipe σ own) ρ2 G2, ρ2, G2, .u us[i], _, ⟨?_, ?_, fun p z => z.elim⟩, fun a z => .inl (hL1 a z), Ext.refl _ _, w3, fun σ4 ρ4 G4 H4 fr4 hx4 R4 w4 => ?_⟩
      · rw [hd_u, or2_false]; exact R2.heapExt hk
      · rw [hd_u, or2_false]; exact qx
      have hw4 : wipe σ4 own = wipe σ own := by rw [fr4 own ht, wipe_wipe]
      refine ⟨hw4, ?_⟩
      have hx34 := hx3.trans hx4
      have hx24 : Ext H1 (fp σ ρ1 G1) H4 (fp σ4 ρ4 G4) := hx2.trans hx34
      have q4 : RepUs X.K H4 (Or2 (fp σ4 ρ4 G4) (Or2 Z1 (One D))) acc vs := RepUs.ext hx34.keepZ _ qacc
      have D4 : H4 D = some (.lst vs) := (hx34 D _ hHD (R2.zd D (.inr rfl)).1).1
      -- a turn's end
      have fin : ∀ (o : Option U) (ρ5 : Rho) (G5 : Hh) (H5 : Hp) (acc5 : List U) (vs5 : List V), Ext H1 (fp σ ρ1 G1) H5 (fp σ4 ρ5 G5) → Rep c.ca X.K L (Or2 Z1 (One D)) σ4 H5 ρ5 G5 → H5 D = some (.lst vs5) → RepUs X.K H5 (Or2 (fp σ4 ρ5 G5) (Or2 Z1 (One D))) acc5 vs5 → acc5.length ≤ i + 1 →
          (wipeK ρ5 own fun ρ2 => ck ρ2 G5 ∧ lcI own ck (lcTurn c.P Γ elt t cc) (us.drop (i + 1)) acc5 ρ2 G5 (fun acc ρ' G' => backK ρ1 ρ' own fun ρ2 => Qm (.tmp (.lst acc)) ρ2 G')) →
          ∃ m', m' < us.length - i ∧ m' = us.length - (i + 1) ∧ i + 1 ≤ us.length ∧ ∃ ρ2 G2 acc vs, Ext H1 (fp σ ρ1 G1) H5 (fp (wipe σ own) ρ2 G2) ∧ Rep c.ca X.K L (Or2 Z1 (One D)) (wipe σ own) H5 ρ2 G2 ∧ ck ρ2 G2 ∧ acc.length ≤ i + 1 ∧ H5 D = some (.lst vs) ∧ RepUs X.K H5 (Or2 (fp (wipe σ own) ρ2 G2) (Or2 Z1 (One D))) acc vs ∧
            ρ2.length = ρ1.length ∧ lcI own ck (lcTurn c.P Γ elt t cc) (us.drop (i + 1)) acc ρ2 G2 (fun acc ρ' G' => backK ρ1 ρ' own fun ρ2 => Qm (.tmp (.lst acc)) ρ2 G') := fun o ρ5 G5 H5 acc5 vs5 hx5 R5 D5 q5 ha5 w5 => by
        obtain ⟨hck5, w6⟩ := wipeK_out w5
        obtain ⟨R6, sub6⟩ := R5.wiped (vs := own)
        rw [hw4] at R6 sub6
        refine ⟨us.length - (i + 1), by omega, rfl, hlt, wipeL ρ5 own, G5, acc5, vs5, fun a o e n => ⟨(hx5 a o e n).1, fun z => (hx5 a o e n).2 (sub6 a z)⟩, R6, hck5, ha5, D5, RepUs.ext (Ext.sub fun a z => z.elim (fun z => .inl (sub6 a z)) .inr) _ q5, ?_, w6⟩
        have l1 := R1.len
        have l2 := R6.len
        rw [wipe_length] at l2
        omega
      -- the item
      have item : ∀ (ρ5 : Rho) (G5 : Hh) (H5 : Hp) (Z5 : Addr → Prop), (∀ a, Or2 Z1 (One D) a → Z5 a) → Ext H4 (fp σ4 ρ4 G4) H5 (fp σ4 ρ5 G5) → Rep c.ca X.K L Z5 σ4 H5 ρ5 G5 →
          (wpE c.P Γ elt ρ5 G5 Xf fun ry ρ5 G5 => toU ry ρ5 fun y ρ6 => wipeK ρ6 own fun ρ2 => ck ρ2 G5 ∧ lcI own ck (lcTurn c.P Γ elt t cc) (us.drop (i + 1)) (acc ++ [y]) ρ2 G5 (fun acc ρ' G' => backK ρ1 ρ' own fun ρ2 => Qm (.tmp (.lst acc)) ρ2 G')) →
          tE0 c Γ X elt σ4 H5 fun y H4 => ∃ acc, H4 D = some (.lst acc) ∧ acc.length < sizeLine ∧ ∃ m', m' < us.length - i ∧ m' = us.length - (i + 1) ∧ i + 1 ≤ us.length ∧ ∃ ρ2 G2 acc' vs, Ext H1 (fp σ ρ1 G1) (upd H4 D (.lst (acc ++ [y]))) (fp (wipe σ own) ρ2 G2) ∧ Rep c.ca X.K L (Or2 Z1 (One D)) (wipe σ own) (upd H4 D (.lst (acc ++ [y]))) ρ2 G2 ∧ ck ρ2 G2 ∧ acc'.length ≤ i + 1 ∧ (upd H4 D (.lst (acc ++ [y]))) D = some (.lst vs) ∧ RepUs X.K (upd H4 D (.lst (acc ++ [y]))) (Or2 (fp (wipe σ own) ρ2 G2) (Or2 Z1 (One D))) acc' vs ∧
            ρ2.length = ρ1.length ∧ lcI own ck (lcTurn c.P Γ elt t cc) (us.drop (i + 1)) acc' ρ2 G2 (fun acc ρ' G' => backK ρ1 ρ' own fun ρ2 => Qm (.tmp (.lst acc)) ρ2 G') := fun ρ5 G5 H5 Z5 hz5 hx5 R5 w5 => by
        refine ⟨L, Or2 Z1 (One D), ρ5, G5, _, R5.less hz5, fun a z => .inl (hL1 a z), w5, fun ry ρ6 G6 y H6 hx6 R6 w6 => ?_⟩
        have hx46 := hx5.trans hx6
        have D6 : H6 D = some (.lst vs) := (hx46 D _ D4 (R4.zd D (.inr rfl)).1).1
        have q6 : RepUs X.K H6 (Or2 (fp σ4 ρ6 G6) (Or2 Z1 (One D))) acc vs := RepUs.ext hx46.keepZ _ q4
        have hds : Hds [ry] [y] = Hd ry y := or2_false
        obtain ⟨us7, ρ7, k7, R7, q7, sub7⟩ := toUs_ok (rs := [ry]) (vs := [y]) (K0 := fun us7 ρ7 => match us7 with
          | [u] => wipeK ρ7 own fun ρ2 => ck ρ2 G6 ∧ lcI own ck (lcTurn c.P Γ elt t cc) (us.drop (i + 1)) (acc ++ [u]) ρ2 G6 (fun acc ρ' G' => backK ρ1 ρ' own fun ρ2 => Qm (.tmp (.lst acc)) ρ2 G')
          | _ => False) (by rw [hds]; exact R6.rep) ⟨y, [], rfl, by rw [hds]; exact R6.val, rfl⟩ ⟨fun a _ z => z, trivial⟩ (fun p z => by rw [hds] at z; exact (R6.new p z).2) w6
        obtain ⟨u, eu, qu⟩ := repUs_one q7
        subst eu
        have hl := qacc.length
        refine ⟨vs, D6, by omega, ?_⟩
        obtain ⟨R8, hx8⟩ := R7.updZ (D := D) (o := .lst (vs ++ [y])) (.inr rfl) nL
        have q8 : RepUs X.K H6 (Or2 (fp σ4 ρ7 G6) (Or2 Z1 (One D))) (acc ++ [u]) (vs ++ [y]) := (RepUs.ext (Ext.sub fun a z => z.elim (fun z => .inl (sub7 a z)) .inr) _ q6).append q7
        refine fin (some u) ρ7 G6 _ (acc ++ [u]) (vs ++ [y]) (fun a o e n => ?_) R8 upd_same (RepUs.ext hx8 _ q8) (by rw [List.length_append]; simp; omega) k7
        obtain ⟨h1, h2⟩ := (hx24.trans hx46) a o e n
        exact ⟨by rw [upd_ne (keepD a o e)]; exact h1, fun z => h2 (sub7 a z)⟩
      cases cc with
      | none =>
        simp only [wpO] at w4
        unfold tB0 tYes
        refine iteT ?_
        exact item ρ4 G4 H4 _ (fun _ z => z) (Ext.refl _ _) R4 w4
      | some m =>
        simp only [wpO] at w4
        refine ⟨L, Or2 Z1 (One D), ρ4, G4, fun r b ρ4 G4 => Br b (wpE c.P Γ elt ρ4 G4 Xf fun ry ρ5 G5 => toU ry ρ5 fun y ρ6 => wipeK ρ6 own fun ρ2 => ck ρ2 G5 ∧ lcI own ck (lcTurn c.P Γ elt t (.some m)) (us.drop (i + 1)) (acc ++ [y]) ρ2 G5 (fun acc ρ' G' => backK ρ1 ρ' own fun ρ2 => Qm (.tmp (.lst acc)) ρ2 G'))
          (wipeK ρ4 own fun ρ2 => ck ρ2 G4 ∧ lcI own ck (lcTurn c.P Γ elt t (.some m)) (us.drop (i + 1)) acc ρ2 G4 (fun acc ρ' G' => backK ρ1 ρ' own fun ρ2 => Qm (.tmp (.lst acc)) ρ2 G')), R4, fun a z => .inl (hL1 a z), ?_, fun r u k ρ5 G5 H5 Z5 hz5 hx5 R5 e1 e2 q => ?_⟩
        · exact w4
        · cases k with
          | true =>
            refine iteT ?_
            exact item ρ5 G5 H5 Z5 hz5 hx5 R5 q
          | false =>
            refine iteF ?_
            have R5' := R5.less hz5
            exact fin none ρ5 G5 H5 acc vs (hx24.trans hx5) R5' ((hx5 D _ D4 (R4.zd D (.inr rfl)).1).1) (RepUs.ext hx5.keepZ _ q4) (by omega) q
    · have e : i = us.length := by omega
      subst e
      rw [List.drop_length] at w3
      simp only [lcI_nil, lcI_cons] at w3
      have k4 := backK_out w3
      obtain ⟨R4, sub4⟩ := R2.back (ρ0 := ρ1) hlen.symm fun j hj sv e => by
        obtain ⟨x, ex⟩ := hpl j hj sv e
        subst ex
        obtain ⟨w, e1, q⟩ := R1.slot j _ e
        refine ⟨x, w, rfl, e1, RepU.ext ?_ x q⟩
        exact hx2.withZ fun p z => .inl (by rw [show p = D from z]; exact hD)
      refine .inl ⟨wk.stops s2, en (.tmp (.lst acc)) (backL ρ1 ρ2 own) G2 (.ref D) H2 (fun a o e n => ?_) ⟨?_, ?_, fun p z => ?_⟩ k4⟩
      · have h := (hx1.trans hx2) a o e n
        exact ⟨h.1, fun z => h.2 (sub4 a z)⟩
      · have hHd : Hd (.tmp (.lst acc)) (.ref D) = One D := by
          funext a
          exact propext ⟨fun e => (V.ref.inj e).symm, fun e => by rw [show a = D from e]; rfl⟩
        rw [hHd]
        exact R4.less fun a z => z.elim (fun z => .inl (hz a z)) .inr
      · have hHd : Hd (.tmp (.lst acc)) (.ref D) = One D := by
          funext a
          exact propext ⟨fun e => (V.ref.inj e).symm, fun e => by rw [show a = D from e]; rfl⟩
        rw [hHd]
        refine ⟨D, .lst vs, rfl, hHD, vs, rfl, RepUs.ext (Ext.sub fun a z => z.elim (fun z => .inl (sub4 a z)) fun z => .inr (z.elim (fun z => .inl (hz a z)) .inr)) _ qacc⟩
      · have e : p = D := (V.ref.inj z).symm
        subst e
        exact ⟨newback hx1 (.inl hD), fun z => nZ1 (hz p z)⟩
  cases src with
  | fix us =>
    obtain ⟨S, wk, st⟩ := ok
    obtain ⟨hsz, w2⟩ := w1
    refine core us S (fun _ _ => True) wk hsz (fun H2 ρ2 G2 hx2 R2 _ => ?_) trivial (wipeK_out w2)
    have := st H2 (Or2 (fp (wipe σ own) ρ2 G2) (One D)) fun a o e n => ⟨(hx2 a o e n).1, fun z => z.elim (hx2 a o e n).2 fun z => keepD a o e z⟩
    have e : Or2 (Or2 (fp (wipe σ own) ρ2 G2) (One D)) Z1 = Or2 (fp (wipe σ own) ρ2 G2) (Or2 Z1 (One D)) := by
      funext a
      exact propext ⟨fun z => z.elim (fun z => z.elim .inl fun z => .inr (.inr z)) fun z => .inr (.inl z), fun z => z.elim (fun z => .inl (.inl z)) fun z => z.elim .inr fun z => .inl (.inr z)⟩
    rwa [e] at this
  | heap p uu us =>
    obtain ⟨hg, wk⟩ := ok
    obtain ⟨hsz, w2⟩ := w1
    refine core us _ (fun _ G' => G' p = some (.con uu)) wk hsz (fun H2 ρ2 G2 hx2 R2 hck => ?_) hg (wipeK_out w2)
    obtain ⟨ho, e1, q⟩ := R2.heap p _ hck
    exact vw_ofC e1 q
  | slot i uu us =>
    obtain ⟨p, hs1, hs2, wk⟩ := ok
    obtain ⟨hsz, w2⟩ := w1
    have hi : i ∉ own := fun z => by
      obtain ⟨x, e⟩ := hpl i z _ hs1
      cases e
    refine core us _ (fun ρ' _ => ρ'[i]? = some (some (.own uu))) wk hsz (fun H2 ρ2 G2 hx2 R2 hck => ?_) ?_ (wipeK_out w2)
    · obtain ⟨v, e1, p2, o, e2, e3, q⟩ := R2.slot i _ hck
      rw [wipe_out hi, hs2] at e1
      cases e1
      cases e2
      exact vw_ofC e3 q
    · rw [wipeL_out hi]; exact hs1
end
end Mp

/-! Mp18: what the check lets by is sound. -/
namespace Mp
open PySem PySem.Spec PyProof.Rows L2

section
variable {c : Cx0} {n : Nat} {Γ : Cal} {X : Cx} {K : Ck} {L Z Z' N : Addr → Prop} {σ : L2.St} {H H1 H2 : Hp} {ρ ρ0 ρ1 ρ2 : Rho} {G G1 G2 : Hh} {f ex : Addr → Prop} {x y v : V} {u w : U} {Qm : Kc} {a b d : E} {e e1 e2 e3 tg : Expr} {pos p2 : Pos} {r : R} {Q : VK} {ca : Cs} {Kf : PySem.W.Frag} {vs own : List Nat} {D : Addr}
/-- a new list or dict is shared from now on -/
theorem Rep.share {p : Addr} {o : HO} (R : Rep ca Kf L (Or2 Z (One p)) σ H ρ G) (hL : ∀ a, L a → Z a) (nz : ¬ Z p) (hp : H p = some o) (q : RepC Kf H (Or2 (fp σ ρ G) (Or2 Z (One p))) u o) :
    Rep ca Kf L Z σ H ρ (put G p (.con u)) ∧ G p = none ∧ ∀ a, fp σ ρ (put G p (.con u)) a → fp σ ρ G a ∨ One p a := by
  have np := (R.zd p (.inr rfl)).1
  have gp : G p = none := by
    cases e : G p with
    | none => rfl
    | some o => exact absurd (.inl ⟨o, e⟩) np
  have pat : ∀ {a o}, put G p (.con u) a = some o → (a = p ∧ o = .con u) ∨ G a = some o := fun {a o} h => by
    unfold put at h
    by_cases e : a = p
    · rw [if_pos e] at h
      cases h
      exact .inl ⟨e, rfl⟩
    · rw [if_neg e] at h
      exact .inr h
  have sub : ∀ a, fp σ ρ (put G p (.con u)) a → fp σ ρ G a ∨ One p a := fun a h => by
    rcases h with ⟨o, h⟩ | h
    · rcases pat h with ⟨e, _⟩ | h
      · exact .inr e
      · exact .inl (.inl ⟨o, h⟩)
    · exact .inl (.inr h)
  have hx : Ext H (Or2 (fp σ ρ G) (Or2 Z (One p))) H (Or2 (fp σ ρ (put G p (.con u))) Z) := Ext.sub fun a z => z.elim (fun z => (sub a z).elim .inl fun z => .inr (.inr z)) fun z => .inr (.inl z)
  refine ⟨⟨R.len, fun i sv e => ?_, R.own, fun i u' a e1 e2 => ?_, fun a o' e => ?_, fun a z => ⟨fun h => (sub a h).elim (R.zd a (.inl z)).1 fun h => nz (by rw [← show a = p from h]; exact z), (R.zd a (.inl z)).2⟩⟩, gp, sub⟩
  · obtain ⟨v, e1, q⟩ := R.slot i sv e
    refine ⟨v, e1, ?_⟩
    cases sv with
    | u x => exact RepU.ext hx x q
    | own x =>
      obtain ⟨a, o, h1, h2, q⟩ := q
      exact ⟨a, o, h1, h2, q.ext hx⟩
    | fz t x =>
      obtain ⟨h1, ⟨h2, h3⟩, o, h4, q⟩ := q
      exact ⟨h1, ⟨fun z => (sub t z).elim h2 fun z => nz (by rw [← show t = p from z]; exact hL t h3), h3⟩, o, h4, q.ext hx⟩
    | exc k d => exact RepE.ext hx q
  · have h1 := R.ownG i u' a e1 e2
    unfold put
    by_cases e : a = p
    · subst e
      exact absurd (.inr ⟨i, u', e1, e2⟩) np
    · rw [if_neg e]; exact h1
  · rcases pat e with ⟨e1, e2⟩ | e
    · subst e1 e2
      exact ⟨o, hp, q.ext hx⟩
    · obtain ⟨ho, h1, q⟩ := R.heap a o' e
      exact ⟨ho, h1, q.ext hx⟩
theorem e_new (ga : PE X e1 (tE c Γ X a)) : PE X e1 (tE c Γ X (.new a)) := by
  refine PE.imp ga fun σ H Q ⟨L, Z, ρ, G, Xm, Qm, R, hL, w, tk, en⟩ => ?_
  simp only [wpE] at w
  refine ⟨L, Z, ρ, G, Xm, _, R, hL, w, tk, fun r ρ1 G1 v H1 hx R1 w1 => ?_⟩
  cases r <;> try exact w1.elim
  rename_i cc
  obtain ⟨p, o, e, hp, q⟩ := R1.val
  subst e
  have hHd : Hd (.tmp cc) (.ref p) = One p := by
    funext a
    exact propext ⟨fun e => (V.ref.inj e).symm, fun e => by rw [show a = p from e]; rfl⟩
  have R1' := R1.rep
  rw [hHd] at R1' q
  obtain ⟨n1, n2⟩ := R1.new p rfl
  obtain ⟨R2, gp, sub⟩ := R1'.share hL n2 hp q
  refine en (.u (.ref p)) ρ1 _ (.ref p) H1 (hx.store sub fun a z => by rw [show a = p from z]; exact n1) ⟨?_, ?_, fun p z => z.elim⟩ (w1 p gp)
  · rw [hd_u, or2_false]; exact R2
  · show RepU _ _ _ _ _
    simp only [RepU]
theorem prg_it (C : Ctx c n X K) (hh : K.hot = false) {it : It} {fe : Expr} (hf : K.isNm "list" fe = true) (hp : plainX e1 = true) {te : L2.St → Hp → (Int → Int → Hp → Prop) → Prop} (g : PRg X e1 te)
    (hi : ∀ σ H (Q : VK), tE c Γ X (.itl it) σ H Q → tLstRg te σ H Q) : PE X (.Call fe [e1] [] pos) (tE c Γ X (.itl it)) := by
  obtain ⟨xn, p, rfl, exx, hg⟩ := isNm_out hf
  subst exx
  obtain ⟨g1, g2, g3⟩ := gl_of C hg
  exact PE.imp (pe_listRg (C.calm hh) g1 (C.blt _ (by decide +kernel)) g (star_cons hp)) hi
theorem rgV_rep {ex : Addr → Prop} {lo hi : Int} : RepUs Kf H ex (rangeI lo hi) (rgV lo hi) := by
  unfold rangeI rgV
  generalize List.range (hi - lo).toNat = l
  induction l with
  | nil => simp [RepUs]
  | cons k l ih =>
    simp only [List.map_cons, RepUs]
    exact ⟨_, _, rfl, by simp only [RepU], ih⟩
theorem e_itl (C : Ctx c n X K) (hh : K.hot = false) {fe fr : Expr} {rpos : Pos} (hf : K.isNm "list" fe = true) (hr : K.isNm "range" fr = true) (hp : plainX e1 = true) (ga : PE X e1 (tE c Γ X a)) : PE X (.Call fe [.Call fr [e1] [] rpos] [] pos) (tE c Γ X (.itl (.rng a))) := by
  obtain ⟨xn, p, rfl, exx, hg⟩ := isNm_out hr
  subst exx
  obtain ⟨g1, g2, g3⟩ := gl_of C hg
  refine prg_it C hh hf rfl (prg_1 g1 (C.blt _ (by decide +kernel)) ga (star_cons hp)) fun σ H Q ⟨L, Z, ρ, G, Xm, Qm, R, hL, w, tk, en⟩ => ?_
  simp only [wpE, wpIt] at w
  refine one (S := fun x H1 => ∃ n, x = .int n ∧ RgOk 0 n ∧ ∀ q, H1 q = none → Q (.ref q) (upd H1 q (.lst (rgV 0 n)))) R hL w tk fun ra ρ2 G2 x H2 Z' hz ha hx R2 q w2 => ?_
  cases ra <;> try exact w2.elim
  rename_i z
  cases z <;> try exact w2.elim
  rename_i j
  obtain ⟨hb, hl, w2⟩ := w2
  simp only [Val, RepU] at q
  have hl' : (rangeI 0 j).length = (j - 0).toNat := by simp [rangeI]
  refine ⟨j, q, ⟨by omega, by omega, hb.2, hb.1, by rw [← hl']; exact Nat.le_trans hl (by rw [sizeLine_eq]; decide)⟩, fun p3 h3 => ?_⟩
  exact en.new R2 hz hx h3 (u := .lst (rangeI 0 j)) ⟨_, rfl, rgV_rep⟩ w2
theorem e_itl2 (C : Ctx c n X K) (hh : K.hot = false) {fe fr : Expr} {rpos : Pos} (hf : K.isNm "list" fe = true) (hr : K.isNm "range" fr = true) (hp : plainX e1 = true) (hp2 : plainX e2 = true) (ga : PE X e1 (tE c Γ X a)) (gb : PE X e2 (tE c Γ X b)) : PE X (.Call fe [.Call fr [e1, e2] [] rpos] [] pos) (tE c Γ X (.itl (.rng2 a b))) := by
  obtain ⟨xn, p, rfl, exx, hg⟩ := isNm_out hr
  subst exx
  obtain ⟨g1, g2, g3⟩ := gl_of C hg
  refine prg_it C hh hf rfl (prg_2 g1 (C.blt _ (by decide +kernel)) ga gb (star_cons hp) (star_cons hp2) (by rw [star_cons hp2]; rfl)) fun σ H Q ⟨L, Z, ρ, G, Xm, Qm, R, hL, w, tk, en⟩ => ?_
  simp only [wpE, wpIt] at w
  refine two (S := fun x y H1 => ∃ i j, x = .int i ∧ y = .int j ∧ RgOk i j ∧ ∀ q, H1 q = none → Q (.ref q) (upd H1 q (.lst (rgV i j)))) R hL w tk fun ra rb ρ2 G2 x y H2 Z' hz ha hb hx R2 q q2 w2 => ?_
  cases ra <;> try exact w2.elim
  rename_i z
  cases z <;> try exact w2.elim
  rename_i i
  cases rb <;> try exact w2.elim
  rename_i z
  cases z <;> try exact w2.elim
  rename_i j
  obtain ⟨hbd, hl, w2⟩ := w2
  simp only [Val, RepU] at q q2
  have hl' : (rangeI i j).length = (j - i).toNat := by simp [rangeI]
  refine ⟨i, j, q, q2, ⟨hbd.2.2.2, hbd.2.2.1, hbd.2.1, hbd.1, by rw [← hl']; exact Nat.le_trans hl (by rw [sizeLine_eq]; decide)⟩, fun p3 h3 => ?_⟩
  exact en.new R2 hz hx h3 (u := .lst (rangeI i j)) ⟨_, rfl, rgV_rep⟩ w2

/-! ### small facts -/
theorem plainT_he {env : Env} (h : plainT e = true) : ∀ whole, isTrue e env whole = (do let v ← whole; standAt e.pos; holding [v] (truthy v)) := by
  intro whole
  cases e <;> first | rfl | (cases h; done) | skip
  rename_i op _ _
  cases op <;> first | rfl | (cases h; done)
theorem folded_of {env : Env} (h : plainX e = true) : ∀ x, foldedSetIterable e env x = pure x := by
  intro x
  cases e <;> first | rfl | cases h
theorem lastMarks_of {o1 o2 : CmpOp} (h : plainX e2 = true) : lastMarks [o1, o2] [e1, e2] = false := nomarkX h
theorem goodB_out {s : List Nat} (h : goodB s = true) : GoodS s := by
  unfold goodB at h
  simp only [Bool.and_eq_true, decide_eq_true_eq, List.all_eq_true] at h
  exact ⟨Nat.le_trans h.1 (by simp [sizeLine]), h.2⟩
theorem units_of (C : Ctx c n X K) : X.A.units + 64 < cLine := C.unt
theorem own_ix {Nn : List Str} : ∀ {own : List Nat}, (ownOf Nn own).map (·.2) = own
  | [] => rfl
  | i :: own => by
    show i :: (ownOf Nn own).map (·.2) = i :: own
    rw [own_ix]
theorem okI_plain {K : Ck} {e : Expr} : ∀ (it : It), ckIt K it e = true → plainX e = true
  | .seq a, h => by simp only [ckIt] at h; exact ck_plain h
  | .rng a, h => by
    simp only [ckIt] at h
    split at h
    · rfl
    · cases h
  | .rng2 a b, h => by
    simp only [ckIt] at h
    split at h
    · rfl
    · cases h
  | .enm a, h => by
    simp only [ckIt] at h
    split at h
    · rfl
    · cases h
  | .zip a b, h => by
    simp only [ckIt] at h
    split at h
    · rfl
    · cases h
  | .rev a, h => by
    simp only [ckIt] at h
    split at h
    · rfl
    · cases h
/-- the context within a comprehension -/
theorem Ctx.inner (C : Ctx c n X K) (hh : K.hot = false) {scope : Scope} {s : Shared} {H : Hp} {Cl : Addr} {cl : List (Str × Addr)} {fpl : List Addr} : Ctx c n (X.blk s H scope (compEnvC scope cl Cl X.env) fpl) (K.inner scope) where
  nm := C.nm
  nd := C.nd
  calm := C.calm
  room := C.room
  cold := C.cold
  unt := C.unt
  frm := fun h => by cases h
  rai := C.rai
  xcl := C.xcl
  xts := C.xts
  exn := fun a d k as e => by rw [C.cold hh] at e; cases e
  scope := by
    show relS scope X.env.scope = relS scope K.sc
    rw [C.scope]
  sto := fun i x h => by
    unfold Ck.sto at h
    simp only [Ck.inner, Bool.and_eq_true, decide_eq_true_eq] at h
    refine ⟨by show X.N[i]? = some x; rw [C.nm]; exact of_decide_eq_true h.1.1, ?_⟩
    have hl := h.2
    unfold locB at hl
    show Loc (relS scope X.env.scope) x ∧ ((scope.names.lookup x == some NameKind.cell) = true ∨ (relS scope X.env.scope).names.lookup x = some .local)
    split at hl
    · rename_i h1
      have := lookup_relS_keep (sc := X.env.scope) (by decide) h1
      exact ⟨.inl this, .inr this⟩
    · rename_i h1
      have := lookup_relS_keep (sc := X.env.scope) (by decide) h1
      exact ⟨.inr this, .inl (by rw [h1]; rfl)⟩
    · cases hl
  own := PassesOwn.never
  blt := C.blt
  fns := C.fns
  fdn := C.fdn
  fdc := C.fdc
  rai1 := C.rai1
  mth := C.mth
  mks := C.mks
  xfd := C.xfd
  cst := C.cst
end

theorem e_dic0 {c : Cx0} {Γ : Cal} {X : Cx} {pos : Pos} : PE X (.Dict [] [] pos) (tE c Γ X (.dic .nil .nil)) :=
  PE.imp pe_dnewK fun σ H Q ⟨L, Z, ρ, G, Xm, Qm, R, hL, w, tk, en⟩ p hp => by
    simp only [wpE] at w
    exact en.new R (fun _ z => z) (Ext.refl _ _) hp (u := .dic [] []) ⟨[], rfl, rfl, by simp [RepUs]⟩ w
theorem tA_nil {c : Cx0} {Γ : Cal} {X : Cx} {σ : L2.St} {H : Hp} {Q : List V → Hp → Prop} (h : tA c Γ X .nil σ H Q) : Q [] H := by
  obtain ⟨L, Z, ρ, G, Xm, Qm, R, hL, w, tk, en⟩ := h
  simp only [wpEs] at w
  have e : Hds [] ([] : List V) = fun _ => False := rfl
  refine en [] ρ G [] H (Ext.refl _ _) ?_ rfl trivial (fun p z => z.elim) w
  rw [e, or2_false]; exact R
theorem tA_cons {c : Cx0} {Γ : Cal} {X : Cx} {σ : L2.St} {H : Hp} {Q : List V → Hp → Prop} {a : E} {es : Es} (h : tA c Γ X (.cons a es) σ H Q) : tE c Γ X a σ H fun x H1 => tA c Γ X es σ H1 fun xs H2 => Q (x :: xs) H2 := by
  obtain ⟨L, Z, ρ, G, Xm, Qm, R, hL, w, tk, en⟩ := h
  simp only [wpEs] at w
  refine ⟨L, Z, ρ, G, Xm, _, R, hL, w, tk, fun ra ρ1 G1 x H1 hx R1 w1 => ?_⟩
  refine ⟨L, Or2 Z (Hd ra x), ρ1, G1, Xm, _, R1.rep, fun a z => .inl (hL a z), w1, tk.go hx fun a => .inl, fun rs ρ2 G2 vs H2 hx2 R2 q2 ap nw w2 => ?_⟩
  have e : Or2 (Or2 Z (Hd ra x)) (Hds rs vs) = Or2 Z (Hds (ra :: rs) (x :: vs)) := or2_assoc
  refine en (ra :: rs) ρ2 G2 (x :: vs) H2 (hx.trans hx2) (e ▸ R2) ⟨x, vs, rfl, ?_, e ▸ q2⟩ ⟨fun a h1 h2 => (nw a h2).2 (.inr h1), ap⟩ (fun p z => ?_) w2
  · rw [← e]
    exact R1.val.step (fun a z => .inr z) (fun a z => (R1.rep.zd a z).1) hx2 fun p z => (nw p z).1
  · rcases z with z | z
    · exact R1.new p z
    · obtain ⟨n1, n2⟩ := nw p z
      refine ⟨?_, fun k => n2 (.inl k)⟩
      cases e1 : H p with
      | none => exact .inl rfl
      | some o =>
        by_cases ff : fp σ ρ G p
        · exact .inr ff
        · have h2 := hx p o e1 ff
          rcases n1 with k | k
          · rw [h2.1] at k; cases k
          · exact absurd k h2.2
/-- a display's pairs -/
def trsD (c : Cx0) (Γ : Cal) (X : Cx) : List (List Nat) → Es → List (TE × TE)
  | s :: ss, .cons a es => (tC (.str (strS s)), tE c Γ X a) :: trsD c Γ X ss es
  | _, _ => []
def esLen : Es → Nat
  | .nil => 0
  | .cons _ es => esLen es + 1
theorem pairs_of {c : Cx0} {Γ : Cal} {X : Cx} {σ : L2.St} : ∀ {ss : List (List Nat)} {es : Es} {H : Hp} {Q : List (V × V) → Hp → Prop}, esLen es = ss.length → tA c Γ X es σ H (fun vs H' => vs.length = ss.length ∧ Q ((ss.map fun s => V.str (strS s)).zip vs) H') → tPairs (trsD c Γ X ss es) σ H Q
  | [], .nil, H, Q, _, h => (tA_nil h).2
  | [], .cons a es, H, Q, hl, h => by simp [esLen] at hl
  | s :: ss, .nil, H, Q, hl, h => by simp [esLen] at hl
  | s :: ss, .cons a es, H, Q, hl, h => by
    have h2 := tA_cons h
    obtain ⟨L, Z, ρ, G, Xm, Qm, R, hL, w, tk, en⟩ := h2
    refine ⟨L, Z, ρ, G, Xm, Qm, R, hL, w, tk, fun r ρ1 G1 x H1 hx R1 w1 => ?_⟩
    have h3 := en r ρ1 G1 x H1 hx R1 w1
    refine pairs_of (ss := ss) (es := es) (by simpa [esLen] using hl) ?_
    obtain ⟨L, Z, ρ, G, Xm, Qm, R, hL, w, tk, en⟩ := h3
    refine ⟨L, Z, ρ, G, Xm, Qm, R, hL, w, tk, fun rs ρ2 G2 vs H2 hx2 R2 q2 ap nw w2 => ?_⟩
    obtain ⟨e, q⟩ := en rs ρ2 G2 vs H2 hx2 R2 q2 ap nw w2
    exact ⟨by simpa using e, q⟩
theorem merge_new : ∀ {more acc : List (Key × V)}, ((acc ++ more).map (·.1)).Nodup → mergeK acc more = acc ++ more
  | [], acc, _ => by simp [mergeK]
  | p :: more, acc, h => by
    have hp : putK acc p.1 p.2 = acc ++ [p] := by
      unfold putK
      rw [if_neg]
      intro z
      obtain ⟨q, hq, e⟩ := List.any_eq_true.mp z
      have e : q.1 = p.1 := of_decide_eq_true e
      rw [List.map_append, List.nodup_append] at h
      exact h.2.2 q.1 (List.mem_map.mpr ⟨q, hq, rfl⟩) p.1 (by simp) e
    show mergeK (putK acc p.1 p.2) more = _
    rw [hp, merge_new (by simpa using h)]
    simp
/-- a display's keys, and the values so far -/
def DisOk (c : Cx0) (Γ : Cal) (X : Cx) (ms : Es) (es : List Expr) : Prop := ∀ (pos : Pos) (ks : Es) (keys : List (Option Expr)), ckKs ks keys = true → keys.length = es.length → ∃ ss, litS ks = some ss ∧ esLen ms = ss.length ∧ PPs X pos keys es (trsD c Γ X ss ms) ∧ keys.all (·.isSome) = true
theorem dis_nil {c : Cx0} {Γ : Cal} {X : Cx} : DisOk c Γ X .nil [] := fun pos ks keys h1 h3 => by
  cases keys with
  | cons _ _ => simp at h3
  | nil =>
    cases ks with
    | cons _ _ => simp [ckKs] at h1
    | nil => exact ⟨[], rfl, rfl, pps_nil, rfl⟩
theorem dis_cons {c : Cx0} {Γ : Cal} {X : Cx} {m : E} {e : Expr} {ms : Es} {es : List Expr} (pe : PE X e (tE c Γ X m)) (d : DisOk c Γ X ms es) : DisOk c Γ X (.cons m ms) (e :: es) := fun pos ks keys h1 h3 => by
  cases keys with
  | nil => simp at h3
  | cons oe keys =>
    cases ks with
    | nil => simp [ckKs] at h1
    | cons k ks =>
      simp only [ckKs, Bool.and_eq_true] at h1
      obtain ⟨ss, e1, e2, e3, e4⟩ := d pos ks keys h1.2 (by simpa using h3)
      have h1 := h1.1
      split at h1
      · rename_i s t j p q
        simp only [Bool.and_eq_true, decide_eq_true_eq] at h1
        refine ⟨s :: ss, by simp [litS, e1], by simp [esLen, e2], ?_, by simpa using e4⟩
        rw [← h1.1]
        exact pps_cons pe_str pe e3
      · cases h1
theorem zip_keys : ∀ (ss : List (List Nat)) (vs : List V), vs.length = ss.length → (ss.map fun s => V.str (strS s)).zip vs = ((ss.map fun s => (Sum.inr (strS s) : Key)).zip vs).map (fun kv => (kV kv.1, kv.2))
  | [], vs, _ => by simp
  | s :: ss, [], h => by simp at h
  | s :: ss, v :: vs, h => by
    simp only [List.map_cons, List.zip_cons_cons]
    rw [zip_keys ss vs (by simpa using h)]
    rfl
theorem e_dic {c : Cx0} {Γ : Cal} {X : Cx} {pos : Pos} {k : E} {ks vs : Es} {ss : List (List Nat)} {keys : List (Option Expr)} {vals : List Expr} (hs : litS (.cons k ks) = some ss) (hnd : ss.Nodup) (hl : esLen vs = ss.length) (h15 : keys.length ≤ 15) (h0 : keys ≠ []) (hkl : keys.length = ss.length)
    (hl2 : keys.length = vals.length) (hall : keys.all (·.isSome) = true) (pp : PPs X pos keys vals (trsD c Γ X ss vs)) : PE X (.Dict keys vals pos) (tE c Γ X (.dic (.cons k ks) vs)) := by
  refine PE.imp (pe_disp pp hall hl2 h0 h15) fun σ H Q ⟨L, Z, ρ, G, Xm, Qm, R, hL, w, tk, en⟩ p hp => ?_
  simp only [wpE, hs, optK] at w
  have hk : ∀ a o, H a = some o → upd H p (.dK []) a = some o := fun a o e => by rw [upd_ne (ne_of_none e hp)]; exact e
  have R1 : Rep c.ca X.K L (Or2 Z (One p)) σ (upd H p (.dK [])) ρ G := R.more hk fun a e => by
    have e' : a = p := e
    subst e'
    exact ⟨hp, _, upd_same⟩
  have hx0 : Ext H (fp σ ρ G) (upd H p (.dK [])) (fp σ ρ G) := fun a o e n => ⟨hk a o e, n⟩
  have nfp : ¬ fp σ ρ G p := fun z => by
    obtain ⟨o, e, _⟩ := R.mut z
    rw [hp] at e; cases e
  have nZ : ¬ Z p := fun z => by
    obtain ⟨_, o, e⟩ := R.zd p z
    rw [hp] at e; cases e
  refine pairs_of hl ⟨L, Or2 Z (One p), ρ, G, Xm, _, R1, fun a z => .inl (hL a z), w, tk.go hx0 fun _ => .inl, fun rs ρ1 G1 us H1 hx R2 q2 ap nw w1 => ?_⟩
  obtain ⟨ws, ρ2, ⟨hwl, k2⟩, R3, q3, sub⟩ := toUs_ok (K0 := fun us ρ2 => us.length = ss.length ∧ Qm (.tmp (.dic (ss.map U.str) us)) ρ2 G1) R2 q2 ap (fun p z => (nw p z).2) w1
  have hvl : us.length = ss.length := by rw [← q3.length]; exact hwl
  have nL : ¬ L p := fun z => nZ (hL p z)
  have hHd : ∀ u : U, Hd (.tmp u) (.ref p) = One p := fun u => by
    funext a
    exact propext ⟨fun e => (V.ref.inj e).symm, fun e => by rw [show a = p from e]; rfl⟩
  refine ⟨hvl, (hx p _ upd_same nfp).1, (ss.map fun s => (Sum.inr (strS s) : Key)).zip us, zip_keys ss us hvl, ?_, ?_⟩
  · rw [List.length_zip, List.length_map]
    omega
  · have hkm : ((ss.map fun s => (Sum.inr (strS s) : Key)).zip us).map (·.1) = ss.map fun s => (Sum.inr (strS s) : Key) := by
      rw [List.map_fst_zip]
      rw [List.length_map]; omega
    have hvm : ((ss.map fun s => (Sum.inr (strS s) : Key)).zip us).map (·.2) = us := by
      rw [List.map_snd_zip]
      rw [List.length_map]; omega
    rw [merge_new (acc := []) (by
      rw [List.nil_append, hkm]
      exact hnd.map (fun s : List Nat => (Sum.inr (strS s) : Key)) (fun a b hne e => hne (by
        have := Sum.inr.inj e
        unfold strS at this
        simpa using this))), List.nil_append]
    have R4 := R3.reserved (p := p) (o := .dK ((ss.map fun s => (Sum.inr (strS s) : Key)).zip us)) (.inr rfl) nL
    refine en (.tmp (.dic (ss.map U.str) ws)) ρ2 G1 (.ref p) _ (fun a o e n => ?_) ⟨by rw [hHd]; exact R4, ⟨p, _, rfl, upd_same, _, rfl, ?_, ?_⟩, fun q z => ?_⟩ k2
    · have hne := ne_of_none e hp
      obtain ⟨h1, h2⟩ := hx a o (hk a o e) n
      exact ⟨by rw [upd_ne hne]; exact h1, fun z => h2 (sub a z)⟩
    · have e1 : ((ss.map fun s => (Sum.inr (strS s) : Key)).zip us).map (fun q => kKey q.1) = (((ss.map fun s => (Sum.inr (strS s) : Key)).zip us).map (·.1)).map kKey := by rw [List.map_map]; rfl
      rw [e1, hkm, List.map_map]
      refine List.map_congr_left fun s _ => ?_
      show U.str s = U.str (strS s).cps.toList
      unfold strS
      simp
    · rw [hvm, hHd]
      refine RepUs.ext (fun a o e n => ⟨?_, n⟩) _ q3
      rw [upd_ne (fun z => n (.inr (.inr z)))]
      exact e
    · rw [hHd] at z
      have z' : q = p := z
      subst z'
      exact ⟨.inl hp, nZ⟩
/-! ### expressions -/
structure OkE (c : Cx0) (n : Nat) (X : Cx) (m : E) (e : Expr) : Prop where
  pe : PE X e (tE c (gN c n) X m)
  pt : PT X e (tB' c (gN c n) X m)
structure OkEs (c : Cx0) (n : Nat) (X : Cx) (ms : Es) (es : List Expr) : Prop where
  pa : PA X es (tA c (gN c n) X ms)
  ea : ∀ pos, ms ≠ .nil → PE X (.BoolOp .And es pos) (tAE c (gN c n) X ms)
  eo : ∀ pos, ms ≠ .nil → PE X (.BoolOp .Or es pos) (tOE c (gN c n) X ms)
  ta : ∀ pos, ms ≠ .nil → PW X (.BoolOp .And es pos) (tBA c (gN c n) X ms)
  to : ∀ pos, ms ≠ .nil → PW X (.BoolOp .Or es pos) (tBO c (gN c n) X ms)
  dis : DisOk c (gN c n) X ms es
theorem OkE.of {c : Cx0} {n : Nat} {X : Cx} {m : E} {e : Expr} (pe : PE X e (tE c (gN c n) X m)) (h : plainT e = true) : OkE c n X m e := ⟨pe, t_gen pe (plainT_he h)⟩
theorem ckEs_len {K : Ck} : ∀ {ms : Es} {es : List Expr}, ckEs K ms es = true → esLen ms = es.length
  | .nil, [], _ => rfl
  | .nil, _ :: _, h => by simp [ckEs] at h
  | .cons _ _, [], h => by simp [ckEs] at h
  | .cons m ms, e :: es, h => by
    simp only [ckEs, Bool.and_eq_true] at h
    simp [esLen, ckEs_len h.2]
mutual
theorem okE {c : Cx0} {n : Nat} {X : Cx} {K : Ck} (C : Ctx c n X K) : ∀ (m : E) (e : Expr), ckE K m e = true → OkE c n X m e
  | .loc i, e, h => by
    simp only [ckE, Bool.and_eq_true] at h
    obtain ⟨_, h⟩ := h
    split at h
    · exact .of (c_loc C h) rfl
    · cases h
  | .int i, e, h => by
    simp only [ckE, Bool.and_eq_true] at h
    obtain ⟨_, h⟩ := h
    split at h
    · have := of_decide_eq_true h
      subst this
      exact .of e_int rfl
    · cases h
  | .str s, e, h => by
    simp only [ckE, Bool.and_eq_true] at h
    obtain ⟨_, h⟩ := h
    split at h
    · simp only [Bool.and_eq_true, decide_eq_true_eq] at h
      obtain ⟨h1, h2⟩ := h
      subst h1
      exact .of (e_str (goodB_out h2)) rfl
    · cases h
  | .bl b, e, h => by
    simp only [ckE, Bool.and_eq_true] at h
    obtain ⟨_, h⟩ := h
    split at h
    · have := of_decide_eq_true h
      subst this
      exact .of e_bl rfl
    · cases h
  | .non, e, h => by
    simp only [ckE, Bool.and_eq_true] at h
    obtain ⟨_, h⟩ := h
    split at h
    · exact .of e_non rfl
    · cases h
  | .cst v, e, h => by
    simp only [ckE, Bool.and_eq_true] at h
    obtain ⟨_, h⟩ := h
    split at h
    · rename_i x pos
      simp only [Bool.and_eq_true, decide_eq_true_eq, List.any_eq_true] at h
      obtain ⟨h2, ⟨q1, q2⟩, h3, h4, h5⟩ := h
      simp only at h4 h5
      subst h4
      refine .of (c_cst C h2 ?_) rfl
      split at h5
      · have := of_decide_eq_true h5
        subst this
        exact h3
      · simp only [Bool.and_eq_true, decide_eq_true_eq] at h5
        obtain ⟨e, _⟩ := h5
        subst e
        exact h3
      · cases h5
    · cases h
  | .bin op a b, e, h => by
    simp only [ckE, Bool.and_eq_true] at h
    obtain ⟨_, h⟩ := h
    split at h
    · simp only [Bool.and_eq_true, decide_eq_true_eq] at h
      obtain ⟨⟨h1, h2⟩, h3⟩ := h
      subst h1
      exact .of (e_bin (okE C a _ h2).pe (okE C b _ h3).pe) rfl
    · cases h
  | .neg a, e, h => by
    simp only [ckE, Bool.and_eq_true] at h
    obtain ⟨_, h⟩ := h
    split at h
    · exact .of (e_neg (okE C a _ h).pe) rfl
    · cases h
  | .not_ a, e, h => by
    simp only [ckE, Bool.and_eq_true] at h
    obtain ⟨_, h⟩ := h
    split at h
    · exact ⟨e_not (okE C a _ h).pe, t_not (okE C a _ h).pt⟩
    · cases h
  | .and_ a es, e, h => by
    simp only [ckE, Bool.and_eq_true] at h
    obtain ⟨_, h⟩ := h
    split at h
    · simp only [Bool.and_eq_true] at h
      obtain ⟨h1, h2⟩ := h
      have o := okEs C es _ h2
      have ne : es ≠ .nil := fun z => by rw [z] at h2; simp [ckEs] at h2
      exact ⟨e_and (okE C a _ h1).pe (o.ea _ ne), (t_and (okE C a _ h1).pt (o.ta _ ne)).pt⟩
    · cases h
  | .or_ a es, e, h => by
    simp only [ckE, Bool.and_eq_true] at h
    obtain ⟨_, h⟩ := h
    split at h
    · simp only [Bool.and_eq_true] at h
      obtain ⟨h1, h2⟩ := h
      have o := okEs C es _ h2
      have ne : es ≠ .nil := fun z => by rw [z] at h2; simp [ckEs] at h2
      exact ⟨e_or (okE C a _ h1).pe (o.eo _ ne), (t_or (okE C a _ h1).pt (o.to _ ne)).pt⟩
    · cases h
  | .cmp op a b, e, h => by
    simp only [ckE, Bool.and_eq_true] at h
    obtain ⟨_, h⟩ := h
    split at h
    · simp only [Bool.and_eq_true, decide_eq_true_eq] at h
      obtain ⟨⟨h1, h2⟩, h3⟩ := h
      subst h1
      exact ⟨e_cmp (units_of C) (okE C a _ h2).pe (okE C b _ h3).pe (nomarkX (ck_plain h3)), t_cmp (units_of C) (okE C a _ h2).pe (okE C b _ h3).pe (nomarkX (ck_plain h3))⟩
    · cases h
  | .chain o1 o2 a b d, e, h => by
    simp only [ckE, Bool.and_eq_true] at h
    obtain ⟨_, h⟩ := h
    split at h
    · simp only [Bool.and_eq_true, decide_eq_true_eq] at h
      obtain ⟨⟨⟨⟨h1, h2⟩, h3⟩, h4⟩, h5⟩ := h
      subst h1 h2
      exact ⟨e_chain (units_of C) (okE C a _ h3).pe (okE C b _ h4).pe (okE C d _ h5).pe (lastMarks_of (ck_plain h5)), t_chain (units_of C) (okE C a _ h3).pe (okE C b _ h4).pe (okE C d _ h5).pe (lastMarks_of (ck_plain h5))⟩
    · cases h
  | .isN a neg, e, h => by
    simp only [ckE, Bool.and_eq_true] at h
    obtain ⟨_, h⟩ := h
    split at h
    · simp only [Bool.and_eq_true, decide_eq_true_eq] at h
      obtain ⟨h1, h2⟩ := h
      subst h1
      exact ⟨e_isN (okE C a _ h2).pe, t_isN (okE C a _ h2).pe⟩
    · cases h
  | .isB a v neg, e, h => by
    simp only [ckE, Bool.and_eq_true] at h
    obtain ⟨_, h⟩ := h
    split at h
    · simp only [Bool.and_eq_true, decide_eq_true_eq] at h
      obtain ⟨⟨h1, h3⟩, h2⟩ := h
      subst h1 h3
      exact ⟨e_isB (okE C a _ h2).pe, t_isB (okE C a _ h2).pe⟩
    · cases h
  | .idx a b, e, h => by
    simp only [ckE, Bool.and_eq_true] at h
    obtain ⟨_, h⟩ := h
    split at h
    · simp only [Bool.and_eq_true] at h
      exact .of (e_idx (units_of C) (plainIx_of (ck_plain h.2)) (okE C a _ h.1).pe (okE C b _ h.2).pe) rfl
    · cases h
  | .slc a lo hi, e, h => by
    simp only [ckE, Bool.and_eq_true] at h
    obtain ⟨_, h⟩ := h
    split at h
    · simp only [Bool.and_eq_true] at h
      exact .of (e_slc (okE C a _ h.1.1).pe (okO C lo _ h.1.2).1 (okO C hi _ h.2).1) rfl
    · cases h
  | .fld a f, e, h => by
    simp only [ckE, Bool.and_eq_true] at h
    obtain ⟨_, h⟩ := h
    split at h
    · simp only [Bool.and_eq_true, decide_eq_true_eq] at h
      exact .of (c_fld C h.1.1 h.2 (okE C a _ h.1.2).pe) rfl
    · cases h
  | .frz i, e, h => by
    simp only [ckE, Bool.and_eq_true] at h
    obtain ⟨_, h⟩ := h
    split at h
    · exact .of (c_frz C h) rfl
    · cases h
  | .exf i f, e, h => by
    simp only [ckE, Bool.and_eq_true] at h
    obtain ⟨_, h⟩ := h
    split at h
    · simp only [Bool.and_eq_true, decide_eq_true_eq] at h
      exact .of (c_exf C h.1.1 h.1.2 h.2) rfl
    · cases h
  | .call f args, e, h => by
    simp only [ckE, Bool.and_eq_true] at h
    obtain ⟨_, h⟩ := h
    split at h
    · simp only [Bool.and_eq_true, decide_eq_true_eq] at h
      exact .of (c_call C (hot_no h.1.1.1) h.1.1.2 h.1.2 h.2 (okEs C args _ h.2).pa) rfl
    · cases h
  | .make k f args, e, h => by
    simp only [ckE, Bool.and_eq_true] at h
    obtain ⟨_, h⟩ := h
    split at h
    · simp only [Bool.and_eq_true, decide_eq_true_eq] at h
      exact .of (c_make C (hot_no h.1.1.1) h.1.1.2 h.1.2 h.2 (okEs C args _ h.2).pa) rfl
    · cases h
  | .meth k f o args, e, h => by
    simp only [ckE, Bool.and_eq_true] at h
    obtain ⟨_, h⟩ := h
    split at h
    · simp only [Bool.and_eq_true, decide_eq_true_eq] at h
      obtain ⟨⟨⟨⟨⟨⟨hh, h1⟩, h2⟩, h3⟩, h4⟩, h5⟩, h6⟩ := h
      exact .of (c_meth C (hot_no hh) h1 h4 h3 (okE C o _ h2).pe (okEs C args _ h3).pa (meth_ht h4 h3 h5 h6)) rfl
    · cases h
  | .bcall b args, e, h => by
    simp only [ckE, Bool.and_eq_true] at h
    obtain ⟨_, h⟩ := h
    split at h
    · simp only [Bool.and_eq_true] at h
      obtain ⟨hh, h⟩ := h
      split at h
      · cases h
      · split at h
        · simp only [Bool.and_eq_true] at h
          obtain ⟨⟨h1, h2⟩, h3⟩ := h
          cases args with
          | nil => cases h3
          | cons a as =>
            simp only [ckEs, Bool.and_eq_true] at h3
            cases as with
            | cons _ _ => cases h3.2
            | nil => exact .of (e_lset C (hot_no hh) h1 h2 (ck_plain h3.1) (okE C a _ h3.1).pe) rfl
        · cases h
      · rename_i n1 n2
        simp only [Bool.and_eq_true] at h
        exact .of (c_bcall C (hot_no hh) ⟨n1, n2⟩ h.1 h.2 (okEs C args _ h.2).pa) rfl
    · simp only [Bool.and_eq_true, decide_eq_true_eq] at h
      obtain ⟨⟨h1, h2⟩, h3⟩ := h
      subst h1 h2
      cases args with
      | nil => cases h3
      | cons a as =>
        simp only [ckEs, Bool.and_eq_true] at h3
        cases as with
        | cons _ _ => cases h3.2
        | nil => exact .of (e_rev (okE C a _ h3.1).pe) rfl
    · cases h
  | .bmeth m o args, e, h => by
    simp only [ckE, Bool.and_eq_true] at h
    obtain ⟨_, h⟩ := h
    split at h
    · simp only [Bool.and_eq_true, decide_eq_true_eq] at h
      obtain ⟨⟨⟨⟨⟨⟨⟨hh, h1⟩, h2⟩, h3⟩, h4⟩, h5⟩, h6⟩, h7⟩ := h
      subst h1
      have go := (okE C o _ h2).pe
      cases hd : m.isD with
      | false => exact .of (c_bmeth C (hot_or hh) hd h4 h5 h6 h3 go (okEs C args _ h3).pa) rfl
      | true => exact .of (okD C hd h4 h5 go args _ h3 (by rw [hd] at h7; simpa using h7)) rfl
    · cases h
  | .isx i j, e, h => by
    simp only [ckE, Bool.and_eq_true] at h
    obtain ⟨_, h⟩ := h
    split at h
    · simp only [Bool.and_eq_true, decide_eq_true_eq] at h
      exact .of (c_isx C h.1.1.1 h.1.1.2 h.1.2 h.2) rfl
    · cases h
  | .isxs i js, e, h => by
    simp only [ckE, Bool.and_eq_true] at h
    obtain ⟨_, h⟩ := h
    split at h
    · simp only [Bool.and_eq_true, decide_eq_true_eq] at h
      exact .of (c_isxs C h.1.1.1 h.1.1.2 h.1.2 h.2) rfl
    · cases h
  | .isin a ts, e, h => by
    simp only [ckE, Bool.and_eq_true] at h
    obtain ⟨_, h⟩ := h
    split at h
    · simp only [Bool.and_eq_true] at h
      obtain ⟨⟨h1, h2⟩, h3⟩ := h
      split at h3
      · rename_i ty
        have ht : ∀ k, ty ≠ .cls k := fun k z => by rw [z] at h3; simp [Ck.ty] at h3
        exact .of (c_isin C ht h1 h2 (by cases ty <;> first | exact h3 | exact absurd rfl (ht _)) (okE C a _ h2).pe) rfl
      · cases h3
    · cases h
  | .tup es, e, h => by
    simp only [ckE, Bool.and_eq_true] at h
    obtain ⟨_, h⟩ := h
    split at h
    · simp only [Bool.and_eq_true] at h
      exact .of (e_tup (okEs C es _ h.1).pa) rfl
    · cases h
  | .lst es, e, h => by
    simp only [ckE, Bool.and_eq_true] at h
    obtain ⟨_, h⟩ := h
    split at h
    · simp only [Bool.and_eq_true] at h
      exact .of (e_lst (okEs C es _ h.1).pa) rfl
    · cases h
  | .dic ks vs, e, h => by
    simp only [ckE, Bool.and_eq_true] at h
    obtain ⟨_, h⟩ := h
    split at h
    · rename_i keys vals pos _
      split at h
      · simp only [Bool.and_eq_true] at h
        obtain ⟨⟨h1, h2⟩, h3⟩ := h
        cases vals with
        | cons _ _ => cases h3
        | nil =>
          match ks, vs, h1, h2 with
          | .nil, .nil, _, _ => exact .of e_dic0 rfl
          | .cons _ _, _, h, _ => cases h
          | .nil, .cons _ _, _, h => cases h
      · rename_i k0 keys
        simp only [Bool.and_eq_true, decide_eq_true_eq] at h
        obtain ⟨⟨⟨⟨h1, h2⟩, h3⟩, h4⟩, h5⟩ := h
        obtain ⟨ss, e1, e2, e3, e4⟩ := (okEs C vs vals h2).dis pos ks _ h1 h3
        rw [e1] at h5
        have h5 := of_decide_eq_true h5
        cases ks with
        | nil => simp [ckKs] at h1
        | cons k ks => exact .of (e_dic e1 h5 e2 h4 (by simp) (by rw [h3, ← e2]; exact (ckEs_len h2).symm) h3 e4 e3) rfl
    · cases h
  | .lc elt t it cc own, e, h => by
    simp only [ckE, Bool.and_eq_true] at h
    obtain ⟨_, h⟩ := h
    split at h
    · rename_i x tg iter ifs scope pos _
      simp only [Bool.and_eq_true] at h
      obtain ⟨⟨⟨⟨⟨⟨⟨hh, h1⟩, h2⟩, h3⟩, h4⟩, h5⟩, h6⟩, h7⟩ := h
      have HH := hot_no hh
      have ok : BlkOk X.N X.env.scope scope (ownOf K.N own) := by
        rw [C.nm, C.scope]
        exact blkOk_by h3
      have hfo : ∀ x, foldedSetIterable iter X.env x = pure x := folded_of (okI_plain it h1)
      have key : tB0 c (gN c n) X cc = tB0 c (gN c n) X cc := rfl
      refine .of (PE.imp (pe_lc (C.calm HH) C.nd (okI C it iter tg h1 h2) ok (fun s H Cl cl fp => g_blk rfl (okT (C.inner HH) t tg h5)) (tt := tB0 c (gN c n) X cc) (fun s H Cl cl fp => ?_) (fun s H Cl cl fp => e_blk rfl (okE (C.inner HH) elt x h6).pe) hfo) fun σ H Q q => ?_) rfl
      · split at h7
        · cases cc with
          | none => exact pts_nil
          | some m => cases h7
        · rename_i y _
          cases cc with
          | none => simp [ckO] at h7
          | some m =>
            exact pts_one (t_blk rfl ((okO (C.inner HH) (.some m) (some y) h7).2 m y rfl rfl))
        · cases h7
      · rw [own_ix]
        exact lc_go h4 q
    · cases h
  | .new a, e, h => by
    simp only [ckE, Bool.and_eq_true] at h
    exact .of (e_new (okE C a _ h.2.1).pe) h.2.2
  | .itl it, e, h => by
    simp only [ckE, Bool.and_eq_true] at h
    obtain ⟨_, h⟩ := h
    split at h
    · rename_i fe x pos _
      simp only [Bool.and_eq_true] at h
      obtain ⟨⟨⟨⟨hh, h1⟩, h2⟩, h3⟩, h4⟩ := h
      have HH := hot_no hh
      match it, h2, h4 with
      | .rng a, h2, _ =>
        simp only [ckIt] at h2
        split at h2
        · simp only [Bool.and_eq_true] at h2
          exact .of (e_itl C HH h1 h2.1 (ck_plain h2.2) (okE C a _ h2.2).pe) rfl
        · cases h2
      | .rng2 a b, h2, _ =>
        simp only [ckIt] at h2
        split at h2
        · simp only [Bool.and_eq_true] at h2
          exact .of (e_itl2 C HH h1 h2.1.1 (ck_plain h2.1.2) (ck_plain h2.2) (okE C a _ h2.1.2).pe (okE C b _ h2.2).pe) rfl
        · cases h2
      | .seq a, _, h4 => cases h4
      | .enm a, _, h4 => cases h4
      | .zip a b, _, h4 => cases h4
      | .rev a, _, h4 => cases h4
    · cases h
theorem okD {c : Cx0} {n : Nat} {X : Cx} {K : Ck} (C : Ctx c n X K) {m : Mt} (hd : m.isD = true) {oe : Expr} {o : E} {ap cp : Pos} (hns : notSup oe = true) (hln : (ap.endLine == cp.line) = true) (go : PE X oe (tE c (gN c n) X o)) : ∀ (args : Es) (es : List Expr), ckEs K args es = true → fewD args = true →
    PE X (.Call (.Attribute oe (Str.ofString m.name) ap) es [] cp) (tE c (gN c n) X (.bmeth m o args))
  | .nil, es, h, h2 => by cases h2
  | .cons a .nil, es, h, h2 => by
    match es, h with
    | [e1], h =>
      simp only [ckEs, Bool.and_eq_true] at h
      have ga := (okE C a e1 h.1).pe
      have hp := ck_plain h.1
      cases m <;> first | (cases hd; done) | skip
      · exact e_dget1 C hns hln hp go ga
      · exact e_dpop1 C hns hln hp go ga
    | [], h => simp [ckEs] at h
    | _ :: _ :: _, h => simp [ckEs] at h
  | .cons a (.cons b .nil), es, h, h2 => by
    match es, h with
    | [e1, e2], h =>
      simp only [ckEs, Bool.and_eq_true] at h
      have ga := (okE C a e1 h.1).pe
      have gb := (okE C b e2 h.2.1).pe
      have hp := ck_plain h.1
      have hp2 := ck_plain h.2.1
      cases m <;> first | (cases hd; done) | skip
      · exact e_dget2 C hns hln hp hp2 go ga gb
      · exact e_dpop2 C hns hln hp hp2 go ga gb
    | [], h => simp [ckEs] at h
    | [_], h => simp [ckEs] at h
    | _ :: _ :: _ :: _, h => simp [ckEs] at h
  | .cons a (.cons b (.cons d es')), es, h, h2 => by cases h2
theorem okEs {c : Cx0} {n : Nat} {X : Cx} {K : Ck} (C : Ctx c n X K) : ∀ (ms : Es) (es : List Expr), ckEs K ms es = true → OkEs c n X ms es
  | .nil, es, h => by
    cases es with
    | nil => exact ⟨a_nil, fun _ z => absurd rfl z, fun _ z => absurd rfl z, fun _ z => absurd rfl z, fun _ z => absurd rfl z, dis_nil⟩
    | cons _ _ => simp [ckEs] at h
  | .cons m ms, es, h => by
    cases es with
    | nil => simp [ckEs] at h
    | cons e es =>
      simp only [ckEs, Bool.and_eq_true] at h
      have o := okE C m e h.1
      have os := okEs C ms es h.2
      refine ⟨a_cons o.pe os.pa (star_cons (ck_plain h.1)), fun pos _ => ?_, fun pos _ => ?_, fun pos _ => ?_, fun pos _ => ?_, dis_cons o.pe os.dis⟩
      all_goals
        cases ms with
        | nil =>
          cases es with
          | cons _ _ => simp [ckEs] at h
          | nil => first | exact ea_one o.pe | exact eo_one o.pe | exact ta_one o.pt | exact to_one o.pt
        | cons m2 ms2 =>
          cases es with
          | nil => simp [ckEs] at h
          | cons e2 es2 => first | exact ea_more o.pe (os.ea pos nofun) | exact eo_more o.pe (os.eo pos nofun) | exact ta_more o.pt (os.ta pos nofun) | exact to_more o.pt (os.to pos nofun)
theorem okO {c : Cx0} {n : Nat} {X : Cx} {K : Ck} (C : Ctx c n X K) : ∀ (m : Oe) (o : Option Expr), ckO K m o = true → PO X o (tO c (gN c n) X m) ∧ ∀ m' e, m = .some m' → o = some e → PT X e (tB' c (gN c n) X m')
  | .none, o, h => by
    cases o with
    | none => exact ⟨po_none, fun m' e z => by cases z⟩
    | some _ => simp [ckO] at h
  | .some m, o, h => by
    cases o with
    | none => simp [ckO] at h
    | some e =>
      simp only [ckO] at h
      have o := okE C m e h
      exact ⟨po_some o.pe, fun m' e z z2 => by cases z; cases z2; exact o.pt⟩
theorem okT {c : Cx0} {n : Nat} {X : Cx} {K : Ck} (C : Ctx c n X K) : ∀ (t : T) (e : Expr), ckT K t e = true → PG X e (tT c (gN c n) X t)
  | .nm i, e, h => by
    simp only [ckT] at h
    split at h
    · exact g_nm C h
    · cases h
  | .tp ts, e, h => by
    simp only [ckT] at h
    split at h
    · simp only [Bool.and_eq_true] at h
      obtain ⟨g, h1, h2⟩ := okTs C ts _ h.2
      exact g_tup (C.calm (hot_no h.1)) g h1 h2
    · cases h
  | .ix a b, e, h => by
    simp only [ckT] at h
    split at h
    · simp only [Bool.and_eq_true] at h
      have hp := ck_plain h.2
      refine g_ix (units_of C) (okE C a _ h.1).pe (okE C b _ h.2).pe fun v => ?_
      rename_i y _ 
      cases y <;> first | rfl | cases hp
    · cases h
  | .fd a f, e, h => by
    simp only [ckT] at h
    split at h
    · simp only [Bool.and_eq_true, decide_eq_true_eq] at h
      exact g_fd C h.1 (okE C a _ h.2).pe
    · cases h
theorem okTs {c : Cx0} {n : Nat} {X : Cx} {K : Ck} (C : Ctx c n X K) : ∀ (ts : Ts) (es : List Expr), ckTs K ts es = true → PGs X es (tTs c (gN c n) X ts) ∧ (assignEach es X.env).length = tsLen ts ∧ (assignEach es X.env).findIdx? (·.1) = none
  | .nil, es, h => by
    cases es with
    | nil => exact ⟨gs_nil, rfl, rfl⟩
    | cons _ _ => simp [ckTs] at h
  | .cons t ts, es, h => by
    cases es with
    | nil => simp [ckTs] at h
    | cons e es =>
      simp only [ckTs, Bool.and_eq_true] at h
      obtain ⟨g, h1, h2⟩ := okTs C ts es h.2
      have hs : assignEach (e :: es) X.env = (false, assign e X.env) :: assignEach es X.env := by
        have := h.1
        cases t <;> simp only [ckT] at this <;> first | (cases this; done) | (split at this <;> first | rfl | cases this)
      refine ⟨gs_cons (okT C t e h.1) g (by rw [hs]; rfl), by rw [hs, List.length_cons, h1]; rfl, ?_⟩
      rw [hs, List.findIdx?_cons]
      simp [h2]
theorem okI {c : Cx0} {n : Nat} {X : Cx} {K : Ck} (C : Ctx c n X K) : ∀ (it : It) (e tg : Expr), ckIt K it e = true → itT it tg = true → PI X tg e (tI c (gN c n) X it)
  | .seq a, e, tg, h, _ => by
    simp only [ckIt] at h
    exact i_seq (okE C a e h).pe
  | .rng a, e, tg, h, _ => by
    simp only [ckIt] at h
    split at h
    · simp only [Bool.and_eq_true] at h
      exact i_rng C h.1 (ck_plain h.2) (okE C a _ h.2).pe
    · cases h
  | .rng2 a b, e, tg, h, _ => by
    simp only [ckIt] at h
    split at h
    · simp only [Bool.and_eq_true] at h
      exact i_rng2 C h.1.1 (ck_plain h.1.2) (ck_plain h.2) (okE C a _ h.1.2).pe (okE C b _ h.2).pe
    · cases h
  | .enm a, e, tg, h, ht => by
    simp only [ckIt] at h
    split at h
    · simp only [Bool.and_eq_true] at h
      cases tg <;> simp only [itT, isTup] at ht <;> try (cases ht; done)
      exact i_enm C h.1 (ck_plain h.2) (okE C a _ h.2).pe
    · cases h
  | .zip a b, e, tg, h, ht => by
    simp only [ckIt] at h
    split at h
    · simp only [Bool.and_eq_true] at h
      cases tg <;> simp only [itT, isTup] at ht <;> try (cases ht; done)
      exact i_zip C h.1.1.2 (ck_plain h.1.2) (ck_plain h.2) (okE C a _ h.1.2).pe (okE C b _ h.2).pe
    · cases h
  | .rev a, e, tg, h, _ => by
    simp only [ckIt] at h
    split at h
    · simp only [Bool.and_eq_true] at h
      exact i_rev C h.1 (ck_plain h.2) (okE C a _ h.2).pe
    · cases h
end
end Mp

/-! Mp19: statements that the check lets by are sound. -/
namespace Mp
open PySem PySem.Spec PyProof.Rows L2

section
variable {c : Cx0} {n : Nat} {X : Cx} {K : Ck} {e e1 e2 tg : Expr} {pos p2 : Pos} {env : Env}
theorem noswap {o : Option Expr} {l : Nat} (h : isLc e = false) : swapsWith e o l env = pure false := by
  cases e <;> first | rfl | cases h
theorem noswapS (h : isLc e = false) (l : Nat) : swapsWithSole [tg] e l env = pure false := noswap h
theorem noswap2 {l : Nat} (h : ∀ x p, tg ≠ .Name x p) : swapsWithSole [tg] e l env = pure false := by
  show swapsWith e (some tg) l env = pure false
  unfold swapsWith
  cases e <;> first | rfl | (cases tg <;> first | rfl | exact absurd rfl (h _ _))
theorem noswap3 {l : Nat} {y : Str} {p : Pos} (h : env.scope.names.lookup y = some .cell) : swapsWithSole [.Name y p] e l env = pure false := by
  show swapsWith e (some (.Name y p)) l env = pure false
  have hk : (env.kindOf y == some NameKind.local) = false := by
    have : env.kindOf y = some .cell := h
    rw [this]
    rfl
  unfold swapsWith
  cases e <;> first | rfl | (simp only [hk, Bool.and_false, Bool.false_and]; done) | (simp only [hk, Bool.and_false, Bool.false_and]; rfl)
theorem celNm_out (h : celNm K tg = true) : ∃ y p, tg = .Name y p ∧ K.sc.names.lookup y = some .cell := by
  unfold celNm at h
  split at h
  · split at h
    · rename_i e
      exact ⟨_, _, rfl, e⟩
    · cases h
  · cases h
theorem isTup_out {a b : Bool} (h : (!(a && b)) = true) : a = true → b = false := by cases a <;> cases b <;> simp_all
theorem stores_of {t : T} (ht : ckT K t tg = true) (h : isTup tg = true → isTup e = false) : swappedStores [tg] e env = pure none ∧ (assignEach [tg] env).map (·.2) = [assign tg env] := by
  cases t <;> simp only [ckT] at ht <;> first | (cases ht; done) | (split at ht <;> first | (cases ht; done) | skip)
  · exact ⟨rfl, rfl⟩
  · have := h rfl
    refine ⟨?_, rfl⟩
    cases e <;> first | rfl | cases this
  · exact ⟨rfl, rfl⟩
  · exact ⟨rfl, rfl⟩
theorem lcNm_out (h : lcNm K tg e = true) : ∃ y py x gs scope pos, tg = .Name y py ∧ e = .ListComp x gs scope pos ∧ (py.line == pos.line) = true ∧ K.sc.names.lookup y = some .local ∧ (scope.names.any fun (n, k) => n == y && (k == .local || k == .cell)) = false := by
  unfold lcNm at h
  split at h
  · simp only [Bool.and_eq_true, Bool.not_eq_true'] at h
    obtain ⟨⟨q1, q2⟩, q3⟩ := h
    refine ⟨_, _, _, _, _, _, rfl, rfl, q1, ?_, q3⟩
    split at q2
    · assumption
    · cases q2
  · cases h
theorem lc_out {elt : E} {t : T} {it : It} {cc : Oe} {own : List Nat} (h : ckE K (.lc elt t it cc own) e = true) : ∃ x tg iter ifs scope pos, e = .ListComp x [⟨tg, iter, ifs, 0⟩] scope pos ∧ ckIt K it iter = true ∧ itT it tg = true ∧ L2.blkC K.N K.sc scope (ownOf K.N own) = true ∧ tgB own t = true ∧ ckT (K.inner scope) t tg = true ∧ ckE (K.inner scope) elt x = true ∧
    ((ifs = [] ∧ cc = .none) ∨ ∃ y m, ifs = [y] ∧ cc = .some m ∧ ckO (K.inner scope) (.some m) (some y) = true) := by
  simp only [ckE, Bool.and_eq_true] at h
  obtain ⟨_, h⟩ := h
  split at h
  · simp only [Bool.and_eq_true] at h
    obtain ⟨⟨⟨⟨⟨⟨⟨_, h1⟩, h2⟩, h3⟩, h4⟩, h5⟩, h6⟩, h7⟩ := h
    refine ⟨_, _, _, _, _, _, rfl, h1, h2, h3, h4, h5, h6, ?_⟩
    split at h7
    · cases cc with
      | none => exact .inl ⟨rfl, rfl⟩
      | some m => cases h7
    · cases cc with
      | none => simp [ckO] at h7
      | some m => exact .inr ⟨_, m, rfl, rfl, h7⟩
    · cases h7
  · cases h
end
theorem swapped_par {x y : Str} {px py pt pt2 : Pos} {kt k2 : Nat} {env : Env} {a b : Expr} (hb : env.blockKind = .function) (hx : env.scope.names.lookup x = some .local) (hy : env.scope.names.lookup y = some .local) (hl : (px.line == py.line) = true) (hxy : x ≠ y) (pa : plainX a = true) (pb : plainX b = true)
    (hf : (foldedForSure 8 a && foldedForSure 8 b) = false) (hc : (constantsAlone 8 a && constantsAlone 8 b) = false) : swappedStores [.Tuple [.Name x px, .Name y py] kt pt] (.Tuple [a, b] k2 pt2) env = pure (some [x, y]) := by
  have kx : env.kindOf x = some .local := hx
  have ky : env.kindOf y = some .local := hy
  have hl' : py.line = px.line := (eq_of_beq hl).symm
  have yx : (y == x) = false := beq_eq_false_iff_ne.mpr fun h => hxy h.symm
  have hd : List.eraseDups [x, y] = [x, y] := by
    simp [List.eraseDups, List.eraseDupsBy, List.eraseDupsBy.loop, yx]
  unfold swappedStores
  simp only [hb, List.length_cons, List.length_nil, List.any_cons, List.any_nil, List.filterMap_cons, List.filterMap_nil, kx, ky, hl', List.head?_cons, Option.map_some, Option.getD_some, Expr.pos, List.all_cons, List.all_nil, Bool.and_true, hf, hc, hd, beq_self_eq_true, if_true, Bool.or_false]
  rw [if_neg (by decide)]
  rw [if_neg (by
    intro h
    rcases Bool.or_eq_true_iff.mp h with h | h
    · split at h
      · cases pa
      · cases h
    · split at h
      · cases pb
      · cases h)]
  simp
theorem s_par {c : Cx0} {n : Nat} {X : Cx} {K : Ck} (C : Ctx c n X K) (HH : K.hot = false) {i j : Nat} {x y : Str} {px py pt pos pt2 : Pos} {kt k2 : Nat} {a b : E} {e1 e2 : Expr} (hk : X.env.scope.kind = .function) (hi : K.sto i x = true) (hj : K.sto j y = true) (hij : i ≠ j) (hxy : x ≠ y) (hx : lclB K.sc x = true) (hy : lclB K.sc y = true) (hl : (px.line == py.line) = true)
    (ga : PA X [e1, e2] (tA c (gN c n) X (.cons a (.cons b .nil)))) (pa : plainX e1 = true) (pb : plainX e2 = true) (hf : (foldedForSure 8 e1 && foldedForSure 8 e2) = false) (hcc : (constantsAlone 8 e1 && constantsAlone 8 e2) = false) :
    PS X (.Assign [.Tuple [.Name x px, .Name y py] kt pt] (.Tuple [e1, e2] k2 pt2) pos) (tS c (gN c n) X (.par i j a b)) := by
  have lc : ∀ z, lclB K.sc z = true → X.env.scope.names.lookup z = some .local := fun z h => by
    unfold lclB at h
    rw [C.scope]
    split at h
    · assumption
    · cases h
  have hbk : X.env.blockKind = .function := by
    unfold Env.blockKind
    rw [hk]
    rfl
  refine PS.imp (ps_par (C.calm HH) C.nd (C.sto i x hi).1 (C.sto j y hj).1 hij (lc x hx) (lc y hy) ga (swapped_par hbk (lc x hx) (lc y hy) hl hxy pa pb hf hcc) rfl) fun D σ H ⟨L, Z, ρ, G, nx, rt, ct, Xm, R, hL, w, tk, en⟩ => ?_
  simp only [wpS] at w
  refine ⟨L, Z, ρ, G, Xm, _, R, hL, w, tk, fun rs ρ1 G1 vs H1 hx1 R1 q1 ap nw w1 => ?_⟩
  unfold parK at w1
  split at w1
  · rename_i u w0
    obtain ⟨v, t, e, q1, q2⟩ := q1
    subst e
    obtain ⟨w', t, e, q2, q3⟩ := q2
    subst e
    have q3 : t = [] := q3
    subst q3
    refine ⟨v, w', rfl, ?_⟩
    obtain ⟨h1, w2⟩ := setK_lt w1
    obtain ⟨h2, w3⟩ := setK_lt w2
    have hn : Or2 Z (Hds [Mp.R.u u, Mp.R.u w0] [v, w']) = Or2 Z (fun _ => False) := by
      congr 1
      funext a
      exact propext ⟨fun z => by rcases z with z | z | z <;> exact z, fun z => z.elim⟩
    rw [hn] at R1 q1 q2
    have R1' : Rep c.ca X.K L (Or2 Z (Hd (.u u) v)) σ H1 ρ1 G1 := by rw [hd_u]; exact R1
    obtain ⟨R2, s2⟩ := Rep.store (v := v) (sv := .u u) R1 hL h1 (fun a z => z.elim) (fun x a e => by cases e) (fun a z => z.elim) q1
    have q2' : RepU X.K H1 (Or2 (fp (σ.set i (some v)) (ρ1.set i (some (.u u))) G1) (Or2 Z fun _ => False)) w0 w' := RepU.ext (Ext.sub fun a z => z.elim (fun z => (s2 a z).elim .inl fun z => z.elim) .inr) w0 q2
    obtain ⟨R3, s3⟩ := Rep.store (v := w') (sv := .u w0) (N := fun _ => False) (by rw [or2_false]; exact R2) hL h2 (fun a z => z.elim) (fun x a e => by cases e) (fun a z => z.elim) q2'
    exact en.nx _ _ _ _ (fun a o e k => ⟨(hx1 a o e k).1, fun z => (hx1 a o e k).2 ((s3 a z).elim (fun z => (s2 a z).elim id fun z => z.elim) fun z => z.elim)⟩) R3 w3
  · exact w1.elim
/-! ### exceptions -/
section
variable {c : Cx0} {n : Nat} {Γ : Cal} {X : Cx} {K : Ck} {L Z : Addr → Prop} {σ : L2.St} {H : Hp} {ρ : Rho} {G : Hh}
/-- X() -/
theorem pmk_own0 {X : Cx} {C : Addr} {bmB : List Value} {B newId initId : String} {x : Str} {p pos : Pos} (F : ExcBaseFacts B newId initId bmB) (q : PySem.W.excIn X.K C bmB newId = true) (gC : X.mg x = some (.ref C)) (kC : PySem.W.keepIn X.K (.ref C) = true) (r : Raises X (.ref C)) (hg : Gl X x)
    (hdb : (x == ("__debug__" : Str)) = false) : PMk X (.Call (.Name x p) [] [] pos) (fun _ H Q => Q (.ref C) none H) := by
  intro pins s σ H Q I h
  refine wpAny_Call_Name_kw (ld_glob I hg gC ?_ hdb)
  refine PySem.W.callWith_K0 I.kIn kC ?_
  obtain ⟨bm, N, nm, qn, bs, hdct, sn, sub, ab, col, dd, k0, k1, k2, k3, k5, mN, hC, hN, hni, T⟩ := exc_obj I.kIn q
  refine wpAny_call_exc_subT F T hC hN hni (fun h' e hm => ?_) (Nat.zero_le _)
  exact mk_of I hm r h (I.hok.gone hm.new)
theorem s_rais (C : Ctx c n X K) (hh : K.hot = false) {k : Nat} {x : Str} {p pos pos2 : Pos} (hg : K.glob x = true) (hx : K.xnm.lookup k = some x) : PS X (.Raise (some (.Call (.Name x p) [] [] pos)) none pos2) (tS c Γ X (.rais k .nil)) := by
  refine ⟨fun pins s σ H D I ⟨L, Z, ρ, G, nx, rt, ct, Xm, R, hL, w, tk, en⟩ => ?_⟩
  obtain ⟨xk, gC, xc⟩ := C.rai k x hx
  obtain ⟨g1, g2, _⟩ := gl_of C hg
  simp only [wpS, wpEs, toUs] at w
  exact (ps_raise (C.calm hh) tk (pmk_own0 PySem.F.excBase_ValueError xc.ex gC xc.kp (raises_own xc.ec.hs xc.ty) g1 g2)).run pins s σ H D I ⟨k, [], ρ, G, ⟨⟨rfl, xk⟩, rfl⟩, R, Ext.refl _ _, w⟩
/-- X(e) -/
theorem pmk_x1 (hc : X.calm = true) {m : Nat} (hr : Room m X.A) {C : Addr} {x f : Str} {a : Expr} {ta : TA} {p pos : Pos} (T : X1 X.K X.mg C x f) (ha : PA X [a] ta) (hp : plainX a = true) (hg : Gl X x) (hdb : (x == ("__debug__" : Str)) = false) :
    PMk X (.Call (.Name x p) [a] [] pos) (fun σ H Q => ta σ H fun vs H1 => ∃ v, vs = [v] ∧ ∀ d, H1 d = none → Q (.ref C) (some d) (upd H1 d (.xd [(f, v)]))) := by
  obtain ⟨qn, fI, ⟨e, T⟩ | ⟨e, T⟩ | ⟨e, T⟩⟩ := T
  · subst e
    exact pmk_number T hr ha hg hdb (star_cons hp) rfl
  · subst e
    exact pmk_name T hr ha hg hdb (star_cons hp) rfl
  · subst e
    exact pmk_path T hr ha hg hdb (star_cons hp) rfl
theorem s_rais1 (C : Ctx c n X K) (hh : K.hot = false) {k : Nat} {x : Str} {a : E} {p pos pos2 : Pos} (hg : K.glob x = true) (hx : K.xn1.lookup k = some x) (hck : ckE K a e = true) (ga : PA X [e] (tA c Γ X (.cons a .nil))) : PS X (.Raise (some (.Call (.Name x p) [e] [] pos)) none pos2) (tS c Γ X (.rais k (.cons a .nil))) := by
  refine ⟨fun pins s σ H D I ⟨L, Z, ρ, G, nx, rt, ct, Xm, R, hL, w, tk, en⟩ => ?_⟩
  obtain ⟨xk, T⟩ := C.rai1 k x hx
  obtain ⟨g1, g2, _⟩ := gl_of C hg
  simp only [wpS] at w
  refine (ps_raise (C.calm hh) tk (pmk_x1 (C.calm hh) (C.room hh) T ga (ck_plain hck) g1 g2)).run pins s σ H D I ?_
  refine ⟨L, Z, ρ, G, Xm, fun rs ρ1 G1 => match rs with
    | [r] => toUs [r] ρ1 fun vs ρ2 => Xm k vs ρ2 G1
    | _ => False, R, hL, (by simp only [wpEs] at w ⊢; exact w), tk, fun rs ρ1 G1 vs H1 hx1 R1 q1 ap nw w1 => ?_⟩
  match rs, q1, w1, R1, ap, nw with
  | [r], q1, w1, R1, ap, nw =>
    obtain ⟨us, ρ2, k2, R2, q2, sub⟩ := toUs_ok (K0 := fun vs ρ2 => Xm k vs ρ2 G1) R1 q1 ap (fun p z => (nw p z).2) w1
    obtain ⟨v, t, e, _, et⟩ := q1
    have et : t = [] := et
    subst et e
    obtain ⟨u, eu, qu⟩ := repUs_one q2
    subst eu
    refine ⟨v, rfl, fun d hd => ?_⟩
    have hk : ∀ b o, H1 b = some o → upd H1 d (.xd [(c.P.xfs k, v)]) b = some o := fun b o e => by
      rw [upd_ne (ne_of_none e hd)]; exact e
    have nd : ¬ Or2 (fp σ ρ2 G1) Z d := fun z => by
      rcases z with z | z
      · obtain ⟨o, e, _⟩ := R2.mut z
        rw [hd] at e; cases e
      · obtain ⟨_, o, e⟩ := R2.zd _ z
        rw [hd] at e; cases e
    refine ⟨k, [u], ρ2, G1, ⟨⟨rfl, xk⟩, d, v, rfl, upd_same, nd, RepU.ext (fun b o e m => ⟨hk b o e, m⟩) u qu⟩, R2.heapExt hk, fun b o e m => ?_, k2⟩
    obtain ⟨h1, h2⟩ := hx1 b o e m
    exact ⟨hk b o h1, fun z => h2 (sub b z)⟩
theorem takes_no {X : Cx} {W : WX} (h : ∀ cls d σ H, ¬ W cls d σ H) : Takes X W := fun _ _ ⟨_, _, _, _, _, _, _, _, _, _, _, _, _, _, _, _, w⟩ => (h _ _ _ _ w).elim
/-- within a try -/
theorem Ctx.tr (C : Ctx c n X K) (hh : K.hot = false) {pn : List (Addr × Obj)} {xe : Value → Shared → Prop} (po : PassesOwn (model X.prog X.w) X.A X.env xe) : Ctx c n (X.tr pn xe) K where
  nm := C.nm
  nd := C.nd
  calm := C.calm
  room := C.room
  unt := C.unt
  cold := C.cold
  frm := C.frm
  scope := C.scope
  sto := C.sto
  own := po
  blt := C.blt
  fns := C.fns
  rai := C.rai
  xcl := C.xcl
  xts := C.xts
  exn := fun a d k as e => by rw [C.cold hh] at e; cases e
  fdn := C.fdn
  fdc := C.fdc
  rai1 := C.rai1
  mth := C.mth
  mks := C.mks
  xfd := C.xfd
  cst := C.cst
/-- within an except suite -/
theorem Ctx.sui (C : Ctx c n X K) (cu : Option (Addr × Option Addr × Nat × List U)) {a : Addr} {oe : Obj} {pn : List (Addr × Obj)} (h : ∀ b d k as, cu = some (b, d, k, as) → c.xs k = true ∧ b = a ∧ Zc (.ref (c.ca k)) d oe) (hd : ∃ vs, oe.data = .fields vs) :
    Ctx { c with cur := cu } n (X.suite a ((a, oe) :: pn)) { K with hot := true } where
  nm := C.nm
  nd := C.nd
  calm := fun h => by cases h
  room := fun h => by cases h
  unt := C.unt
  cold := fun h => by cases h
  frm := C.frm
  scope := C.scope
  sto := C.sto
  own := PassesOwn.never
  blt := C.blt
  fns := C.fns
  rai := C.rai
  xcl := C.xcl
  xts := C.xts
  exn := fun b d k as e => by
    obtain ⟨xk, eb, hz⟩ := h b d k as e
    subst eb
    exact ⟨xk, X, oe, pn, rfl, hz, hd⟩
  fdn := C.fdn
  fdc := C.fdc
  rai1 := C.rai1
  mth := C.mth
  mks := C.mks
  xfd := C.xfd
  cst := C.cst
/-- a body, with what is wished of its exceptions -/
def tBd (c : Cx0) (Γ : Cal) (X : Cx) (b : Ss) (W : WX) : TS := fun D σ H => ∃ L Z ρ G nx rt ct Xb, Rep c.ca X.K L Z σ H ρ G ∧ (∀ a, L a → Z a) ∧ wpSs c.P Γ b ρ G nx rt ct Xb ∧
  (∀ cls d σ' H', (∃ k as ρ' G', RepX c X.K H' (Or2 (fp σ' ρ' G') Z) k as cls d ∧ Rep c.ca X.K L Z σ' H' ρ' G' ∧ Ext H (fp σ ρ G) H' (fp σ' ρ' G') ∧ Xb k as ρ' G') → W cls d σ' H') ∧ EndS c X L Z H (fp σ ρ G) nx rt ct D
theorem bd_ok {b : Ss} {sts : List Stmt} {W : WX} {pn : List (Addr × Obj)} {xe : Value → Shared → Prop} (tk : Takes (X.tr pn xe) W) (h : PSs (X.tr pn xe) sts (tSs c Γ (X.tr pn xe) b)) : PSs (X.tr pn xe) sts (tBd c Γ X b W) :=
  PSs.imp h fun D σ H ⟨L, Z, ρ, G, nx, rt, ct, Xb, R, hL, w, hw, en⟩ => ⟨L, Z, ρ, G, nx, rt, ct, Xb, R, hL, w, Takes.imp tk hw, ⟨en.nx, en.rt, en.ct⟩⟩
/-- a clause's suite -/
def tSu (c : Cx0) (n : Nat) (X : Cx) (b : Ss) (nm : Bool) (a : Addr) (cls : Value) (d : Option Addr) : TS := fun D σ H => ∃ k as L Z ρ G nx rt ct, (cls = .ref (c.ca k) ∧ c.xs k = true) ∧ Rep c.ca X.K L Z σ H ρ G ∧ (∀ a, L a → Z a) ∧
  wpSs c.P ⟨callN c.P n, if nm then some (a, d, k, as) else none⟩ b ρ G nx rt ct (fun _ _ _ _ => False) ∧ EndS c X L Z H (fp σ ρ G) nx rt ct D
/-- what is to be shown of a suite -/
def SuOk (c : Cx0) (n : Nat) (X : Cx) (b : Ss) (nm : Bool) (sts : List Stmt) : Prop := ∀ (cu : Option (Addr × Option Addr × Nat × List U)) (a : Addr) (oe : Obj) (pn : List (Addr × Obj)), (nm = false → cu = none) → (∀ b d k as, cu = some (b, d, k, as) → c.xs k = true ∧ b = a ∧ Zc (.ref (c.ca k)) d oe) → (∃ vs, oe.data = .fields vs) →
  PSs (X.suite a ((a, oe) :: pn)) sts (tSs { c with cur := cu } ⟨callN c.P n, cu⟩ (X.suite a ((a, oe) :: pn)) b)
theorem su_ok {b : Ss} {nm : Bool} {sts : List Stmt} (h : SuOk c n X b nm sts) (a : Addr) (oe : Obj) (cls : Value) (d : Option Addr) (pn : List (Addr × Obj)) (hz : Zc cls d oe) (hd : ∃ vs, oe.data = .fields vs) : PSs (X.suite a ((a, oe) :: pn)) sts (tSu c n X b nm a cls d) := by
  refine ⟨fun pins s σ H D I ⟨k, as, L, Z, ρ, G, nx, rt, ct, ⟨e, xk⟩, R, hL, w, en⟩ => ?_⟩
  subst e
  refine (h (if nm then some (a, d, k, as) else none) a oe pn (fun e => by rw [e]; rfl) (fun b' d' k' as' e => ?_) hd).run pins s σ H D I ⟨L, Z, ρ, G, nx, rt, ct, _, R, hL, w, takes_no fun cls d σ' H' ⟨_, _, _, _, _, _, _, z⟩ => z, ⟨en.nx, en.rt, en.ct⟩⟩
  cases nm with
  | false => cases e
  | true =>
    cases e
    exact ⟨xk, rfl, hz⟩
/-- the clauses, without names -/
def HlOk (c : Cx0) (n : Nat) (X : Cx) (K : Ck) : Hs → List ExceptHandler → List (Value × (Addr → Value → Option Addr → TS)) → Prop
  | .nil, [], [] => True
  | .cons ks none b hs, .ExceptHandler (some (.Name x _)) none (y :: ys) _ :: hl, (v, ts) :: l => (∃ j, ks = [j] ∧ Names X x v ∧ ∀ k, c.xs k = true → PySem.W.exmOne X.K (.ref (c.ca k)) v = some (c.P.sup k j)) ∧ ts = tSu c n X b false ∧ SuOk c n X b false (y :: ys) ∧ HlOk c n X K hs hl l
  | _, _, _ => False
theorem hl_hds : ∀ {hs : Hs} {hl : List ExceptHandler} {l : List (Value × (Addr → Value → Option Addr → TS))}, HlOk c n X K hs hl l → HdsOk X hl l
  | .nil, [], [], _ => .nil
  | .cons ks none b hs, .ExceptHandler (some (.Name x _)) none (y :: ys) _ :: hl, (v, ts) :: l, h => by
    obtain ⟨⟨j, _, hn, _⟩, e, su, r⟩ := h
    subst e
    exact .cons hn (fun a oe cls d pn hz hd => su_ok su a oe cls d pn hz hd) (hl_hds r)
theorem rx0 {Hh : Hp} {ex : Addr → Prop} {k : Nat} {as : List U} {cls : Value} {d : Option Addr} (h : RepX c X.K Hh ex k as cls d) : cls = .ref (c.ca k) ∧ c.xs k = true ∧ (as = [] → d = none) := by
  obtain ⟨⟨h1, h2⟩, h3⟩ := h
  refine ⟨h1, h2, fun e => ?_⟩
  subst e
  exact h3
theorem hl_many (hcur : c.cur = none) {D : Ends} {W0 : WX} {f0 : Addr → Prop} {H0 : Hp} {nx ct : Nx} {rt : Kc} {Xm : Xc} (en : EndS c X L Z H0 f0 nx rt ct D) (hL : ∀ a, L a → Z a)
    (hW : ∀ cls d σ' H', (∃ k as ρ' G', RepX c X.K H' (Or2 (fp σ' ρ' G') Z) k as cls d ∧ Rep c.ca X.K L Z σ' H' ρ' G' ∧ Ext H0 f0 H' (fp σ' ρ' G') ∧ Xm k as ρ' G') → W0 cls d σ' H') {k : Nat} {as : List U} {cls : Value} {d : Option Addr}
    (rx : RepX c X.K H (Or2 (fp σ ρ G) Z) k as cls d) (R : Rep c.ca X.K L Z σ H ρ G) (hx : Ext H0 f0 H (fp σ ρ G)) :
    ∀ {hs : Hs} {hl : List ExceptHandler} {l : List (Value × (Addr → Value → Option Addr → TS))}, HlOk c n X K hs hl l → wpHs c.P (gN c n) hs k as ρ G nx rt ct Xm → wMany X.K W0 D l cls d σ H
  | .nil, [], [], _, w => by
    simp only [wpHs] at w
    exact hW _ _ _ _ ⟨k, as, ρ, G, rx, R, hx, w⟩
  | .cons ks none b hs, .ExceptHandler (some (.Name x _)) none (y :: ys) _ :: hl, (v, ts) :: l, h, w => by
    obtain ⟨⟨j, e1, _, hm⟩, e2, _, r⟩ := h
    subst e1
    subst e2
    obtain ⟨q1, q2, q3⟩ := rx0 rx
    simp only [wpHs, List.any_cons, List.any_nil, Bool.or_false] at w
    obtain ⟨w1, w2⟩ := Br.out w
    refine ⟨_, by rw [q1]; exact hm k q2, fun e a na => ?_, fun e => hl_many hcur en hL hW rx R hx r (w2 e)⟩
    refine ⟨k, as, L, Z, ρ, G, nx, rt, ct, ⟨q1, q2⟩, R, hL, ?_, en.go hx⟩
    have := w1 e
    rw [gN, hcur] at this
    exact this
theorem s_tri_many (C : Ctx c n X K) (hh : K.hot = false) (hb : K.blk = none) {b : Ss} {hs : Hs} {sts : List Stmt} {h0 : ExceptHandler} {hl : List ExceptHandler} {l : List (Value × (Addr → Value → Option Addr → TS))} {pos : Pos} (gb : ∀ pn xe, PassesOwn (model X.prog X.w) X.A X.env xe → PSs (X.tr pn xe) sts (tSs c (gN c n) (X.tr pn xe) b))
    (gh : HlOk c n X K hs (h0 :: hl) l) : PS X (.Try sts (h0 :: hl) [] [] pos) (tS c (gN c n) X (.tri b hs)) := by
  refine ⟨fun pins s σ H D I ⟨L, Z, ρ, G, nx, rt, ct, Xm, R, hL, w, tk, en⟩ => ?_⟩
  obtain ⟨f1, f2⟩ := C.frm hb
  simp only [wpS] at w
  refine (ps_try_many f1 f2 tk (tb := tBd c (gN c n) X b) (fun W pn xe tkW po => bd_ok tkW (gb pn xe po)) (hl_hds gh)).run pins s σ H D I ⟨L, Z, ρ, G, nx, rt, ct, _, R, hL, w, fun cls d σ' H' ⟨k, as, ρ', G', rx, R', hx, w'⟩ => ?_, en⟩
  exact hl_many (C.cold hh) en hL (fun _ _ _ _ z => z) rx R' hx gh w'
theorem s_tri_as (C : Ctx c n X K) (hh : K.hot = false) (hb : K.blk = none) {b b2 : Ss} {i j : Nat} {sts : List Stmt} {y : Stmt} {ys : List Stmt} {x z : Str} {v : Value} {np pos pos' : Pos} (gb : ∀ pn xe, PassesOwn (model X.prog X.w) X.A X.env xe → PSs (X.tr pn xe) sts (tSs c (gN c n) (X.tr pn xe) b))
    (hx : Names X x v) (hm : ∀ k, c.xs k = true → PySem.W.exmOne X.K (.ref (c.ca k)) v = some (c.P.sup k j)) (hi : K.sto i z = true) (hz : lclB K.sc z = true) (su : SuOk c n X b2 true (y :: ys)) :
    PS X (.Try sts [.ExceptHandler (some (.Name x np)) (some z) (y :: ys) pos'] [] [] pos) (tS c (gN c n) X (.tri b (.cons [j] (some i) b2 .nil))) := by
  refine ⟨fun pins s σ H D I ⟨L, Z, ρ, G, nx, rt, ct, Xm, R, hL, w, tk, en⟩ => ?_⟩
  obtain ⟨f1, f2⟩ := C.frm hb
  have lc : X.env.scope.names.lookup z = some .local := by
    unfold lclB at hz
    rw [C.scope]
    split at hz
    · assumption
    · cases hz
  simp only [wpS] at w
  refine (ps_try_as (i := i) f1 f2 C.nd (C.sto i z hi).1 lc hx tk (tb := tBd c (gN c n) X b) (ts := tSu c n X b2 true) (fun W pn xe tkW po => bd_ok tkW (gb pn xe po)) (fun a oe cls d pn hz hd => su_ok su a oe cls d pn hz hd)).run pins s σ H D I ⟨L, Z, ρ, G, nx, rt, ct, _, R, hL, w, fun cls d σ' H' ⟨k, as, ρ', G', rx, R', hx', w'⟩ => ?_, en⟩
  obtain ⟨q1, q2, q3⟩ := rx0 rx
  simp only [wpHs, List.any_cons, List.any_nil, Bool.or_false] at w'
  obtain ⟨w1, w2⟩ := Br.out w'
  refine ⟨_, by rw [q1]; exact hm k q2, fun e a na => ?_, fun e => ⟨k, as, ρ', G', rx, R', hx', w2 e⟩⟩
  -- the dict that it has
  have hdx : ∃ dd, xcD dd as = d ∧ ∀ s x, xcV dd (c.P.xfs k) as = some (dd, s, x) → ∃ w, H' dd = some (.xd [(s, w)]) ∧ ¬ Or2 (fp σ' ρ' G') Z dd ∧ RepU X.K H' (Or2 (fp σ' ρ' G') Z) x w := by
    obtain ⟨_, rx⟩ := rx
    match as, rx with
    | [], rx =>
      have rx : d = none := rx
      exact ⟨a, by rw [rx]; rfl, fun s x e => by cases e⟩
    | [x], rx =>
      obtain ⟨dx, v, e1, e2, e3, q⟩ := rx
      exact ⟨dx, by rw [e1]; rfl, fun s y e => by cases e; exact ⟨v, e2, e3, q⟩⟩
  obtain ⟨dd, ed, hdv⟩ := hdx
  have w3 := w1 e a dd
  rw [ed] at w3
  obtain ⟨hi2, w3⟩ := setK_lt w3
  have R2 : Rep c.ca X.K L (Or2 Z fun _ => False) σ' H' ρ' G' := by rw [or2_false]; exact R'
  have qE : RepE X.K H' (Or2 (fp σ' ρ' G') Z) a (xcV dd (c.P.xfs k) as) (.ref a) := by
    refine ⟨rfl, ?_⟩
    match as, hdv with
    | [], _ => trivial
    | [x], hdv => exact hdv _ x rfl
    | _ :: _ :: _, _ => trivial
  obtain ⟨R3, s3⟩ := Rep.store (v := .ref a) (sv := .exc a (xcV dd (c.P.xfs k) as)) R2 hL hi2 (fun a z => z.elim) (fun x a e => by cases e) (fun a z => z.elim) (by rw [or2_false]; exact qE)
  have en2 := en.go hx'
  have hx3 : Ext H' (fp σ' ρ' G') H' (fp (σ'.set i (some (.ref a))) (ρ'.set i (some (.exc a (xcV dd (c.P.xfs k) as)))) G') := Ext.sub fun b q => (s3 b q).elim id fun z => z.elim
  have en3 := en2.go hx3
  refine ⟨k, as, L, Z, _, G', _, rt, _, ⟨q1, q2⟩, R3, hL, w3, ⟨fun σ6 H6 ρ6 G6 hx6 R6 k6 => ?_, fun σ6 r ρ6 G6 v6 H6 hx6 R6 k6 => en3.rt σ6 r ρ6 G6 v6 H6 hx6 R6 k6, fun σ6 H6 ρ6 G6 hx6 R6 k6 => ?_⟩⟩
  · obtain ⟨_, k6⟩ := setK_lt k6
    obtain ⟨R7, s7⟩ := R6.wiped (vs := [i])
    exact en3.nx (σ6.set i none) H6 (ρ6.set i none) G6 (hx6.trans (Ext.sub s7)) R7 k6
  · obtain ⟨_, k6⟩ := setK_lt k6
    obtain ⟨R7, s7⟩ := R6.wiped (vs := [i])
    exact en3.ct (σ6.set i none) H6 (ρ6.set i none) G6 (hx6.trans (Ext.sub s7)) R7 k6
end
/-- the clauses, as the check lets them by -/
def HkOk (c : Cx0) (n : Nat) (X : Cx) (K : Ck) : Hs → List ExceptHandler → Prop
  | .nil, [] => True
  | .cons ks sl b hs, .ExceptHandler (some (.Name x _)) nm (y :: ys) _ :: hl => (∃ j v, ks = [j] ∧ Names X x v ∧ ∀ k, c.xs k = true → PySem.W.exmOne X.K (.ref (c.ca k)) v = some (c.P.sup k j)) ∧ (match sl, nm with
      | some i, some z => K.sto i z = true ∧ lclB K.sc z = true
      | none, none => True
      | _, _ => False) ∧
    (∀ (cu : Option (Addr × Option Addr × Nat × List U)) (a : Addr) (oe : Obj) (pn : List (Addr × Obj)), True → (∀ b d k as, cu = some (b, d, k, as) → c.xs k = true ∧ b = a ∧ Zc (.ref (c.ca k)) d oe) → (∃ vs, oe.data = .fields vs) →
      PSs (X.suite a ((a, oe) :: pn)) (y :: ys) (tSs { c with cur := cu } ⟨callN c.P n, cu⟩ (X.suite a ((a, oe) :: pn)) b)) ∧ HkOk c n X K hs hl
  | _, _ => False
theorem hk_hl {c : Cx0} {n : Nat} {X : Cx} {K : Ck} : ∀ {hs : Hs} {hl : List ExceptHandler}, HkOk c n X K hs hl → noAs hs = true → ∃ l, HlOk c n X K hs hl l
  | .nil, [], _, _ => ⟨[], trivial⟩
  | .cons ks none b hs, .ExceptHandler (some (.Name x _)) nm (y :: ys) _ :: hl, h, ha => by
    obtain ⟨⟨j, v, e, hn, hm⟩, h2, su, r⟩ := h
    obtain ⟨l, hl⟩ := hk_hl r ha
    cases nm with
    | some z => exact h2.elim
    | none => exact ⟨(v, _) :: l, ⟨j, e, hn, hm⟩, rfl, fun cu a oe pn hcu h hd => su cu a oe pn trivial h hd, hl⟩
  | .cons ks (some i) b hs, hl, _, ha => by cases ha
mutual
theorem okS {c : Cx0} {n : Nat} {X : Cx} {K : Ck} (C : Ctx c n X K) (hb : K.blk = none) (hk : X.env.scope.kind = .function) : ∀ (m : S) (s : Stmt), ckS K m s = true → PS X s (tS c (gN c n) X m)
  | .ex a, s, h => by
    simp only [ckS] at h
    split at h
    · simp only [Bool.and_eq_true, Bool.not_eq_true'] at h
      exact s_ex (okE C a _ h.1).pe (noswap h.2)
    · cases h
  | .asg t a, s, h => by
    simp only [ckS] at h
    split at h
    · rename_i tg e pos
      simp only [Bool.and_eq_true] at h
      obtain ⟨⟨⟨h1, h2⟩, h3⟩, h4⟩ := h
      obtain ⟨k1, k2⟩ := stores_of (env := X.env) h1 (isTup_out h3)
      cases hl : isLc e with
      | false => exact s_asg (okE C a _ h2).pe (okT C t _ h1) (noswapS hl _) k1 k2
      | true =>
        rw [hl] at h4
        simp only [Bool.not_true, Bool.false_or] at h4
        rcases Bool.or_eq_true_iff.mp h4 with h4 | h4
        · rcases Bool.or_eq_true_iff.mp h4 with h4 | h4
          · exact s_asg (okE C a _ h2).pe (okT C t _ h1) (noswap2 (fun x p z => by rw [z] at h4; cases h4)) k1 k2
          · obtain ⟨y, p, e1, e2⟩ := celNm_out h4
            subst e1
            exact s_asg (okE C a _ h2).pe (okT C t _ h1) (noswap3 (by rw [C.scope]; exact e2)) k1 k2
        simp only [Bool.and_eq_true] at h4
        obtain ⟨⟨⟨hh, h5⟩, h6⟩, h7⟩ := h4
        have HH := hot_no hh
        match t, a, h1, h2, h6, h7 with
        | .nm i, .lc elt t it cc own, h1, h2, _, _ =>
          obtain ⟨y, py, x0, gs, scope, lpos, et, ee, q1, q2, q3⟩ := lcNm_out h5
          obtain ⟨x, tg2, iter, ifs, scope2, lpos2, e2, r1, r2, r3, r4, r5, r6, r7⟩ := lc_out h2
          rw [e2] at ee
          cases ee
          subst et
          subst e2
          have hyl : X.env.scope.names.lookup y = some .local := by rw [C.scope]; exact q2
          have ok : BlkOk X.N X.env.scope scope (ownOf K.N own) := by
            rw [C.nm, C.scope]
            exact blkOk_by r3
          have hfo : ∀ x, foldedSetIterable iter X.env x = pure x := folded_of (okI_plain it r1)
          simp only [ckT] at h1
          obtain ⟨g1, g2, g3⟩ := C.sto _ _ h1
          refine PS.imp (ps_setLc (C.calm HH) C.nd g1 hyl (sw_true hk hyl q1 q3) (okI C it iter tg2 r1 r2) ok (fun s H Cl cl fp => g_blk rfl (okT (C.inner HH) t tg2 r5)) (tt := tB0 c (gN c n) X cc) (fun s H Cl cl fp => ?_) (fun s H Cl cl fp => e_blk rfl (okE (C.inner HH) elt x0 r6).pe) hfo) fun D σ H ⟨L, Z, ρ, G, nx, rt, ct, Xm, R, hL, w, tk, en⟩ => ?_
          · rcases r7 with ⟨z1, z2⟩ | ⟨y', m, z1, z2, r7⟩
            · subst z1 z2
              exact pts_nil
            · subst z1 z2
              exact pts_one (t_blk rfl ((okO (C.inner HH) (.some m) (some y') r7).2 m y' rfl rfl))
          · rw [own_ix]
            exact asg_go R hL w tk en (fun Q q => lc_go r4 q) fun v H1 h => nm_go h
    · cases h
  | .ret a, s, h => by
    simp only [ckS] at h
    split at h
    · exact s_ret (okE C a _ h).pe
    · cases h
  | .retn, s, h => by
    simp only [ckS] at h
    split at h
    · exact s_retn
    · cases h
  | .ite cd a b, s, h => by
    simp only [ckS] at h
    split at h
    · simp only [Bool.and_eq_true] at h
      exact s_ite (okE C cd _ h.1.1).pt (okSs C hb hk a _ h.1.2) (okSs C hb hk b _ h.2)
    · cases h
  | .for_ t it b, s, h => by
    simp only [ckS] at h
    split at h
    · simp only [Bool.and_eq_true] at h
      obtain ⟨⟨⟨⟨hh, h1⟩, h2⟩, h3⟩, h4⟩ := h
      exact s_for C.own (C.calm (hot_no hh)) (okI C it _ _ h2 h3) (okT C t _ h1) (okSs C hb hk b _ h4) (folded_of (okI_plain it h2))
    · cases h
  | .fork i t b, s, h => by
    simp only [ckS] at h
    split at h
    · simp only [Bool.and_eq_true] at h
      obtain ⟨⟨⟨hh, h1⟩, h2⟩, h3⟩ := h
      have h1' := h1
      unfold Ck.loc at h1'
      simp only [Bool.and_eq_true, decide_eq_true_eq] at h1'
      obtain ⟨k1, k2, _⟩ := okNm_out h1'.2
      exact s_fork C.own (C.calm (hot_no hh)) (pe_var (by rw [C.nm]; exact h1'.1.1) (by rw [C.scope]; exact vis_of h1'.1.2) k1 k2) (okT C t _ h2) (okSs C hb hk b _ h3)
    · cases h
  | .whl cd b, s, h => by
    simp only [ckS] at h
    split at h
    · simp only [Bool.and_eq_true] at h
      exact s_whl C.own (okE C cd _ h.1).pt (okSs C hb hk b _ h.2)
    · cases h
  | .rais k args, s, h => by
    simp only [ckS] at h
    split at h
    · simp only [Bool.and_eq_true, decide_eq_true_eq] at h
      obtain ⟨⟨h1, h2⟩, h3⟩ := h
      split at h3
      · exact s_rais C (hot_no h1) h2 (of_decide_eq_true h3)
      · simp only [Bool.and_eq_true, decide_eq_true_eq] at h3
        exact s_rais1 C (hot_no h1) h2 h3.1 h3.2 (okEs C (.cons _ .nil) [_] (by simp only [ckEs, Bool.and_eq_true]; exact ⟨h3.2, trivial⟩)).pa
      · cases h3
    · cases h
  | .tri b hs, s, h => by
    simp only [ckS] at h
    split at h
    · rename_i x hd hl pos
      simp only [Bool.and_eq_true] at h
      obtain ⟨⟨⟨h1, h2⟩, h3⟩, h4⟩ := h
      have hh := hot_no h1
      have gb : ∀ pn xe, PassesOwn (model X.prog X.w) X.A X.env xe → PSs (X.tr pn xe) x (tSs c (gN c n) (X.tr pn xe) b) := fun pn xe po => okSs (C.tr hh po) hb hk b x h2
      have hq := okHs C hb hk hs (hd :: hl) h3
      have many : noAs hs = true → PS X (.Try x (hd :: hl) [] [] pos) (tS c (gN c n) X (.tri b hs)) := fun ha => by
        obtain ⟨l, hl⟩ := hk_hl hq ha
        exact s_tri_many C hh hb gb hl
      match hs, hd, hl, hq, h4, many with
      | .cons ks (some i) b2 .nil, .ExceptHandler (some (.Name x _)) (some z) (y :: ys) _, [], ⟨⟨j, v, e, hn, hm⟩, ⟨h5, h6⟩, su, _⟩, _, _ =>
        subst e
        exact s_tri_as C hh hb gb hn hm h5 h6 fun cu a oe pn _ h hd => su cu a oe pn trivial h hd
      | .cons ks (some i) b2 .nil, .ExceptHandler (some (.Name x _)) none (y :: ys) _, _, hq, _, _ => exact hq.2.1.elim
      | .nil, _, _, _, h4, many => exact many rfl
      | .cons ks none b2 hs, _, _, _, h4, many => exact many h4
    · cases h
  | .pass, s, h => by
    simp only [ckS] at h
    split at h
    · exact s_pass
    · cases h
  | .cont, s, h => by
    simp only [ckS] at h
    split at h
    · exact s_cont
    · cases h
  | .par i j a b, s, h => by
    simp only [ckS] at h
    split at h
    · simp only [Bool.and_eq_true, decide_eq_true_eq, Bool.not_eq_true'] at h
      obtain ⟨⟨⟨⟨⟨⟨⟨⟨⟨⟨⟨hh, h1⟩, h2⟩, h3⟩, h4⟩, h5⟩, h6⟩, h7⟩, h8⟩, h9⟩, h10⟩, h11⟩ := h
      refine s_par C hh hk h1 h2 h3 h4 h5 h6 h7 (okEs C _ _ ?_).pa (ck_plain h8) (ck_plain h9) h10 h11
      simp only [ckEs, Bool.and_eq_true]
      exact ⟨h8, h9, trivial⟩
    · cases h
theorem okHs {c : Cx0} {n : Nat} {X : Cx} {K : Ck} (C : Ctx c n X K) (hb : K.blk = none) (hk : X.env.scope.kind = .function) : ∀ (hs : Hs) (hl : List ExceptHandler), ckHs K hs hl = true → HkOk c n X K hs hl
  | .nil, hl, h => by
    simp only [ckHs] at h
    split at h
    · exact trivial
    · cases h
  | .cons ks sl b hs, hl, h => by
    simp only [ckHs] at h
    split at h
    · rename_i x np nm y ys pos hl
      simp only [Bool.and_eq_true] at h
      obtain ⟨⟨⟨⟨h1, h2⟩, h3⟩, h4⟩, h5⟩ := h
      split at h2
      · rename_i j
        have h2 := of_decide_eq_true h2
        obtain ⟨cw, cv, hm, _, _, hc⟩ := C.xts j x h2
        obtain ⟨g1, g2, g3⟩ := gl_of C h1
        refine ⟨⟨j, cv, rfl, ⟨g1, g2, hm.imp id fun z => ⟨z.1, z.2, g3⟩⟩, fun k xk => (hc k xk).1⟩, ?_, fun cu a oe pn _ hcu hd => okSs (C.sui cu hcu hd) hb hk b (y :: ys) h4, okHs C hb hk hs hl h5⟩
        split at h3
        · simp only [Bool.and_eq_true] at h3
          exact ⟨h3.1, h3.2⟩
        · trivial
        · cases h3
      · cases h2
    · cases h
theorem okSs {c : Cx0} {n : Nat} {X : Cx} {K : Ck} (C : Ctx c n X K) (hb : K.blk = none) (hk : X.env.scope.kind = .function) : ∀ (ms : Ss) (ss : List Stmt), ckSs K ms ss = true → PSs X ss (tSs c (gN c n) X ms)
  | .nil, ss, h => by
    cases ss with
    | nil => exact ss_nil
    | cons _ _ => simp [ckSs] at h
  | .cons m ms, ss, h => by
    cases ss with
    | nil => simp [ckSs] at h
    | cons s ss =>
      simp only [ckSs, Bool.and_eq_true] at h
      exact ss_cons (okS C hb hk m s h.1) (okSs C hb hk ms ss h.2)
end
end Mp

/-! Mp20: defs, level by level; the law's own end. -/
namespace Mp
open PySem PySem.Spec PyProof.Rows L2

section
variable {c : Cx0} {n : Nat} {Γ : Cal} {X : Cx} {K : Ck} {L Z Z' N : Addr → Prop} {σ : L2.St} {H H1 H2 : Hp} {ρ ρ0 ρ1 ρ2 : Rho} {G G1 G2 G' : Hh} {f ex : Addr → Prop} {x y v : V} {u w : U} {Qm : Kc} {r : R} {ca : Cs} {Kf : PySem.W.Frag} {D : Addr}
theorem pad_some {α : Type} {l : List (Option α)} {n i : Nat} {x : α} (h : (l ++ List.replicate n none)[i]? = some (some x)) : l[i]? = some (some x) := by
  by_cases hi : i < l.length
  · rwa [List.getElem?_append_left hi] at h
  · rw [List.getElem?_append_right (by omega)] at h
    have := List.mem_of_getElem? h
    rw [List.mem_replicate] at this
    cases this.2
theorem pad_keep {α : Type} {l : List (Option α)} {n i : Nat} {x : α} (h : l[i]? = some (some x)) : (l ++ List.replicate n none)[i]? = some (some x) := by
  obtain ⟨hi, _⟩ := List.getElem?_eq_some_iff.mp h
  rw [List.getElem?_append_left hi]
  exact h
/-- slots that hold nothing yet -/
theorem Rep.pad {m k : Nat} (R : Rep ca Kf L Z σ H ρ G) (e : m = k) : Rep ca Kf L Z (σ ++ List.replicate m none) H (ρ ++ List.replicate k none) G ∧ ∀ a, fp (σ ++ List.replicate m none) (ρ ++ List.replicate k none) G a ↔ fp σ ρ G a := by
  subst e
  have hfp : ∀ a, fp (σ ++ List.replicate m none) (ρ ++ List.replicate m none) G a ↔ fp σ ρ G a := fun a =>
    ⟨fun h => h.imp id fun ⟨i, u, h1, h2⟩ => ⟨i, u, pad_some h1, pad_some h2⟩, fun h => h.imp id fun ⟨i, u, h1, h2⟩ => ⟨i, u, pad_keep h1, pad_keep h2⟩⟩
  have hx : Ext H (Or2 (fp σ ρ G) Z) H (Or2 (fp (σ ++ List.replicate m none) (ρ ++ List.replicate m none) G) Z) := Ext.sub fun a z => z.elim (fun z => .inl ((hfp a).mp z)) .inr
  refine ⟨⟨by rw [List.length_append, List.length_append, R.len, List.length_replicate, List.length_replicate], fun i sv e => ?_, fun i j u w a h1 h2 h3 h4 => R.own i j u w a (pad_some h1) (pad_some h2) (pad_some h3) (pad_some h4), fun i u a h1 h2 => R.ownG i u a (pad_some h1) (pad_some h2), fun a o e => ?_, fun a z => ⟨fun q => (R.zd a z).1 ((hfp a).mp q), (R.zd a z).2⟩⟩, hfp⟩
  · obtain ⟨v, e1, q⟩ := R.slot i sv (pad_some e)
    exact ⟨v, pad_keep e1, q.ext hx (fun a o x n => ⟨x, fun z => n ((hfp a).mp z)⟩) fun _ _ _ _ _ e => e⟩
  · obtain ⟨ho, e1, q⟩ := R.heap a o e
    exact ⟨ho, e1, q.ext hx⟩
theorem fp_drop : ∀ a, fp [] [] G a → fp σ ρ G a := fun a h => h.imp id fun ⟨i, u, h1, _⟩ => by simp at h1
/-- the slots are left -/
theorem Rep.drop (R : Rep ca Kf L Z σ H ρ G) : Rep ca Kf L Z [] H [] G := by
  have hx : Ext H (Or2 (fp σ ρ G) Z) H (Or2 (fp [] [] G) Z) := Ext.sub fun a z => z.elim (fun z => .inl (fp_drop a z)) .inr
  refine ⟨rfl, fun i sv e => by simp at e, fun i j u w a h1 => by simp at h1, fun i u a h1 => by simp at h1, fun a o e => ?_, fun a z => ⟨fun q => (R.zd a z).1 (fp_drop a q), (R.zd a z).2⟩⟩
  obtain ⟨ho, e1, q⟩ := R.heap a o e
  exact ⟨ho, e1, q.ext hx⟩
theorem Ext.drop (h : Ext H f H1 (fp σ ρ G)) : Ext H f H1 (fp [] [] G) := fun a o e n => ⟨(h a o e n).1, fun z => (h a o e n).2 (fp_drop a z)⟩
/-- what a def hands back -/
theorem fin_ok {Q : R → Hh → Prop} (R : RepR ca Kf L Z σ H f H1 ρ G r v) (hx : Ext H f H1 (fp σ ρ G)) (h : fin r ρ G Q) : ∃ r' G', Q r' G' ∧ RepR ca Kf L Z [] H f H1 [] G' r' v ∧ Ext H f H1 (fp [] [] G') := by
  have same : ∀ {r : Mp.R}, RepR ca Kf L Z σ H f H1 ρ G r v → (∀ i, r ≠ .lv i) → (∃ G', Sub G' G ∧ Q r G') → ∃ r' G', Q r' G' ∧ RepR ca Kf L Z [] H f H1 [] G' r' v ∧ Ext H f H1 (fp [] [] G') := fun {r} R nl ⟨G', hs, q⟩ => by
    refine ⟨r, G', q, ⟨(R.rep.sub hs).drop, ?_, R.new⟩, (hx.subG hs).drop⟩
    have hs2 : Ext H1 (Or2 (fp σ ρ G) (Or2 Z (Hd r v))) H1 (Or2 (fp [] [] G') (Or2 Z (Hd r v))) := Ext.sub fun a z => z.elim (fun z => .inl (fp_sub hs a (fp_drop a z))) .inr
    have hv := R.val
    cases r with
    | u x => exact RepU.ext hs2 x hv
    | tmp x =>
      obtain ⟨p, o, e, e2, q⟩ := hv
      exact ⟨p, o, e, e2, q.ext hs2⟩
    | lv i => exact absurd rfl (nl i)
    | exc k => exact hv
  cases r with
  | u x => exact same R (fun i e => by cases e) h
  | tmp x => exact same R (fun i e => by cases e) h
  | exc k => exact (show False from h).elim
  | lv i =>
    have h' : finR (.lv i) ρ fun r' => ∃ G', Sub G' G ∧ Q r' G' := h
    unfold finR at h'
    simp only at h'
    have q' : σ[i]? = some (some v) := R.val
    cases hs : ρ[i]? with
    | none => rw [hs] at h'; exact h'.elim
    | some os =>
      rw [hs] at h'
      cases os with
      | none => exact h'.elim
      | some sv =>
        cases sv with
        | u x => exact h'.elim
        | fz t x => exact h'.elim
        | exc k => exact h'.elim
        | own x =>
          obtain ⟨G', hsub, q⟩ := h'
          have R0 := R.rep
          rw [hd_lv, or2_false] at R0
          obtain ⟨w, e1, p, o, e2, e3, qc⟩ := R0.slot i _ hs
          rw [q'] at e1
          cases e1
          subst e2
          have hHd : Hd (.tmp x) (.ref p) = One p := by
            funext a
            exact propext ⟨fun e => (V.ref.inj e).symm, fun e => by rw [show a = p from e]; rfl⟩
          have fpp : fp σ ρ G p := .inr ⟨i, x, hs, q'⟩
          have gp : G' p = none := by
            cases e : G' p with
            | none => rfl
            | some o => have := hsub p o e; rw [R0.ownG i x p hs q'] at this; cases this
          have np : ¬ fp [] [] G' p := fun z => by
            rcases z with ⟨o, z⟩ | ⟨j, u, z, _⟩
            · rw [gp] at z; cases z
            · simp at z
          have RD := (R0.sub hsub).drop
          have hx2 : Ext H1 (Or2 (fp σ ρ G) Z) H1 (Or2 (fp [] [] G') (Or2 Z (One p))) := Ext.sub fun a z => z.elim (fun z => .inl (fp_sub hsub a (fp_drop a z))) fun z => z.elim .inr fun z => by rw [show a = p from z]; exact .inl fpp
          refine ⟨.tmp x, G', q, ⟨?_, ?_, fun a z => ?_⟩, (hx.subG hsub).drop⟩
          · rw [hHd]
            refine ⟨rfl, fun i sv e => by simp at e, fun i j u w a h1 => by simp at h1, fun i u a h1 => by simp at h1, fun a ob e => ?_, fun a z => ?_⟩
            · obtain ⟨ho, h1, q⟩ := R0.heap a ob (hsub a ob e)
              exact ⟨ho, h1, q.ext hx2⟩
            · rcases z with z | z
              · exact RD.zd a z
              · rw [show a = p from z]
                exact ⟨np, o, e3⟩
          · rw [hHd]
            exact ⟨p, o, rfl, e3, qc.ext hx2⟩
          · have e : a = p := (V.ref.inj z).symm
            subst e
            exact ⟨newback hx (.inr fpp), fun z => (R0.zd a z).1 fpp⟩
end

/-! ### levels -/
/-- the tables that a check uses -/
structure Tb where
  fnm : List (Nat × Str)
  cnm : List (Nat × Str)
  cst : List (Str × U)
  xnm : List (Nat × Str) := []
  fdn : List (Nat × Str) := []
  mth : List (Nat × Nat × Str) := []
  mks : List (Nat × Nat × Str) := []
  xn1 : List (Nat × Str) := []
def Tb.ck (T : Tb) (N : List Str) (sc : Scope) : Ck := ⟨N, sc, none, T.fnm, T.cnm, T.cst, T.xnm, T.fdn, T.mth, T.mks, T.xn1, false⟩
/-- a def's text -/
structure FnTxt (T : Tb) (Kf : PySem.W.Frag) (d : Fn) (fa : Addr) (fd : FuncData) (ps : List Str) : Prop where
  ex : ∃ (x qual : Str) (st : Stmt) (N : List Str), Fun Kf x qual st fa fd ∧ Binds Kf fd ps [] ∧ FnScope N ps (defScope st) ∧ d.np = ps.length ∧ ps.length + d.nl = N.length ∧ ckSs (T.ck N (defScope st)) d.body (defBody st) = true
/-- the f-th def, in the program's text and behind the top -/
structure FnDat (T : Tb) (Kf : PySem.W.Frag) (mg : Str → Option Value) (f : Nat) (d : Fn) (fa : Addr) (fd : FuncData) (ps : List Str) : Prop where
  ex : ∃ (x qual : Str) (st : Stmt) (N : List Str), T.fnm.lookup f = some x ∧ mg x = some (.ref fa) ∧ Fun Kf x qual st fa fd ∧ Binds Kf fd ps [] ∧ FnScope N ps (defScope st) ∧ d.np = ps.length ∧ ps.length + d.nl = N.length ∧ ckSs (T.ck N (defScope st)) d.body (defBody st) = true
structure Env1 (c : Cx0) (T : Tb) (Kf : PySem.W.Frag) (mg : Str → Option Value) : Prop where
  fns : ∀ f x, T.fnm.lookup f = some x → ∃ d fa fd ps, c.P.fns f = some d ∧ FnDat T Kf mg f d fa fd ps
  blt : ∀ x ∈ bltNames, mg x = none
  cst : ∀ x v, (x, v) ∈ T.cst → ∃ w u, mg x = some u ∧ RelV w u ∧ ∀ H ex, RepU Kf H ex v w
  fdn : ∀ f x, T.fdn.lookup f = some x → c.ca.fn f = x
  fdc : c.P.fdc = c.ca.fd
  rai1 : ∀ k x, T.xn1.lookup k = some x → c.xs k = true ∧ X1 Kf mg (c.ca k) x (c.P.xfs k)
  mth : ∀ f k m, T.mth.lookup f = some (k, m) → Cls Kf (c.ca k) ∧ ∃ d fa fd ps, c.P.fns f = some d ∧ Meth Kf (c.ca k) m fa ∧ FnTxt T Kf d fa fd ps
  mks : ∀ f k x, T.mks.lookup f = some (k, x) → mg x = some (.ref (c.ca k)) ∧ FdOk c.ca.ca c.ca.fn c.ca.fd Kf k ∧ ∃ d fa fd ps, c.P.fns f = some d ∧ Mk Kf (c.ca k) fa ∧ FnTxt T Kf d fa fd ps
  xfd : ∀ k f, c.xs k = true → c.P.xfd k = some f → c.P.xfs k = c.ca.fn f ∧ XfC Kf (c.ca k) ∧ PySem.W.findIn Kf (.ref (c.ca k)) (c.ca.fn f) = some none
  cur : c.cur = none
  rai : ∀ k x, T.xnm.lookup k = some x → c.xs k = true ∧ mg x = some (.ref (c.ca k)) ∧ XC Kf (c.ca k)
  xcl : ∀ k, c.xs k = true → ExcC Kf (c.ca k)
  xts : ∀ j y, T.cnm.lookup j = some y → ∃ (cw : V) (cv : Value), (mg y = some cv ∨ (mg y = none ∧ bootBuiltins y = some cv)) ∧ RelV cw cv ∧ (∀ u, RelV cw u → u = cv) ∧ ∀ k, c.xs k = true → PySem.W.exmOne Kf (.ref (c.ca k)) cv = some (c.P.sup k j) ∧ PySem.W.kitOne Kf (.ref (c.ca k)) cv = some (c.P.sup k j)
section
variable {P : Program} {w : World} {Kf : PySem.W.Frag} {mg : Str → Option Value} {base : Heap} {c : Cx0} {T : Tb}
theorem sp_len {f : Nat} {d : Fn} {n : Nat} (hd : c.P.fns f = some d) {vs : List V} {H : Hp} {Q : VK} {E : XK} (h : spN c (callN c.P n) Kf f vs H Q E) : vs.length = d.np := by
  obtain ⟨L, Z, svs, G, Xm, Qm, R, hL, w, _, _⟩ := h
  cases n with
  | zero => exact w.elim
  | succ n =>
    have hl : vs.length = svs.length := by
      have := R.len
      rwa [List.length_map, List.length_map] at this
    simp only [callN] at w
    obtain ⟨d', e, w⟩ := optK_out w
    rw [hd] at e
    cases e
    rw [hl]
    exact (startK_iff.mp w).1
theorem FnDat.txt {f : Nat} {d : Fn} {fa : Addr} {fd : FuncData} {ps : List Str} (F : FnDat T Kf mg f d fa fd ps) : FnTxt T Kf d fa fd ps := by
  obtain ⟨x, qual, st, N, _, _, h⟩ := F.ex
  exact ⟨x, qual, st, N, h⟩
theorem level (En : Env1 c T Kf mg) : ∀ (n f : Nat) (d : Fn) (fa : Addr) (fd : FuncData) (ps : List Str), c.P.fns f = some d → FnTxt T Kf d fa fd ps → FnOk P w Kf mg base (L2.CX P w) (2 * n) fa fd ps (spN c (callN c.P n) Kf f)
  | 0, f, d, fa, fd, ps, hd, F => by
    have no : ∀ vs H Q E, ¬ spN c (callN c.P 0) Kf f vs H Q E := fun vs H Q E ⟨L, Z, svs, G, Xm, Qm, R, hL, w, _, _⟩ => w
    exact ⟨fun vs H Q E h => (no _ _ _ _ h).elim, fun A outer s H args us vs Q E hr he hb hv hs => (no _ _ _ _ hs).elim⟩
  | n + 1, f, d, fa, fd, ps, hd, F => by
    obtain ⟨x, qual, st, N, F1, hb, S, l1, l2, hck⟩ := F.ex
    refine (Fun.okX (k := 2 * n + 1) F1 S (fun vs H Q E h => by rw [sp_len hd h, l1]) fun cdv A outer s H vs Q E hr h => ?_ : FnOk P w Kf mg base (L2.CX P w) (2 * n + 1 + 1) fa fd ps (spN c (callN c.P (n + 1)) Kf f))
    have hlen := sp_len hd h
    obtain ⟨L, Z, svs, G, Xm, Qm, R, hL, w1, en, ee⟩ := h
    have hl : vs.length = svs.length := by
      have := R.len
      rwa [List.length_map, List.length_map] at this
    generalize hX : cxOf (L2.CX P w) P w Kf mg base N qual (defScope st) fa cdv A outer s H E = X
    have C : Ctx c n X (T.ck N (defScope st)) := by
      subst hX
      refine ⟨rfl, S.nd, fun _ => rfl, fun _ => hr, Nat.lt_of_le_of_lt (Nat.add_le_add (Nat.le_add_right _ _) (by decide)) hr.un, fun _ => En.cur, fun _ => ⟨rfl, rfl⟩, rfl, fun i y hs => ?_, passes_of rfl, En.blt, fun g y hg => ?_, En.rai, En.xcl, En.xts, fun a d k as e => (by rw [En.cur] at e; cases e), En.fdn, En.fdc, En.rai1, fun g k m hg => ?_, fun g k m hg => ?_, En.xfd, En.cst⟩
      · unfold Ck.sto at hs
        simp only [Tb.ck, Bool.and_eq_true, decide_eq_true_eq] at hs
        refine ⟨of_decide_eq_true hs.1.1, ?_, .inl rfl⟩
        have hs := hs.2
        unfold locB at hs
        show Loc (defScope st) y
        split at hs
        · rename_i h; exact .inl h
        · rename_i h; exact .inr h
        · cases hs
      · obtain ⟨d2, fa2, fd2, ps2, hd2, F2⟩ := En.fns g y hg
        obtain ⟨y2, q2, st2, N2, k1, k2, F3, b3, _⟩ := F2.ex
        have hg' : T.fnm.lookup g = some y := hg
        rw [hg'] at k1
        cases k1
        exact ⟨fa2, fd2, ps2, k2, F3.kp, b3, level En n g d2 fa2 fd2 ps2 hd2 F2.txt⟩
      · obtain ⟨cl, d2, fa2, fd2, ps2, hd2, M, F2⟩ := En.mth g k m hg
        obtain ⟨_, _, _, _, _, b3, _⟩ := F2.ex
        exact ⟨cl, fa2, fd2, ps2, M, b3, level En n g d2 fa2 fd2 ps2 hd2 F2⟩
      · obtain ⟨hm, cl, d2, fa2, fd2, ps2, hd2, M, F2⟩ := En.mks g k m hg
        obtain ⟨_, _, _, _, _, b3, _⟩ := F2.ex
        exact ⟨hm, cl, fa2, fd2, ps2, M, b3, level En n g d2 fa2 fd2 ps2 hd2 F2⟩
    have hkind : X.env.scope.kind = .function := by subst hX; exact S.kind
    have hg : gN c n = ⟨callN c.P n, none⟩ := by rw [gN, En.cur]
    refine ⟨tSs c (gN c n) X d.body, okSs C rfl hkind d.body _ hck, ?_⟩
    rw [hg]
    simp only [callN] at w1
    obtain ⟨d', ed, w1⟩ := optK_out w1
    rw [hd] at ed
    cases ed
    obtain ⟨_, w1⟩ := startK_iff.mp w1
    have hpad : N.length - vs.length = d.nl := by rw [← l2, hlen, l1]; omega
    obtain ⟨Rp, hfp⟩ := R.pad (m := N.length - vs.length) (k := d.nl) hpad
    have hXK : X.K = Kf := by subst hX; rfl
    have hx0 : ∀ {H2 : Hp} {f2 : Addr → Prop}, Ext H (fp (start N vs) (svs.map some ++ List.replicate d.nl none) G) H2 f2 → Ext H (fp (vs.map some) (svs.map some) G) H2 f2 := fun {H2 f2} h a o e k => h a o e fun z => k ((hfp a).mp z)
    have hnew : ∀ {p : Addr}, (H p = none ∨ fp (start N vs) (svs.map some ++ List.replicate d.nl none) G p) → (H p = none ∨ fp (vs.map some) (svs.map some) G p) := fun {p} h => h.imp id fun z => (hfp p).mp z
    refine ⟨L, Z, _, G, _, _, _, _, by rw [hXK]; exact Rp, hL, w1, ?_, ⟨fun σ' H' ρ' G' hx R' k => ?_, fun σ' r ρ' G' v H' hx R' k => ?_, fun σ' H' ρ' G' hx R' k => k.elim⟩⟩
    · have tk0 : Takes X (fun cls d _ H => E cls d H) := by subst hX; exact takes_of rfl rfl rfl rfl
      refine Takes.imp tk0 fun cls dd σ' H' ⟨k, as, ρ', G', rx, R', hx, G2, hs, hk⟩ => ?_
      rw [hXK] at rx R'
      refine ee k as G2 cls dd H' ((hx0 hx).subG hs).drop ?_ (R'.sub hs).drop hk
      obtain ⟨e, rx⟩ := rx
      refine ⟨e, ?_⟩
      have hs2 : Ext H' (Or2 (fp σ' ρ' G') Z) H' (Or2 (fp [] [] G2) Z) := Ext.sub fun a z => z.elim (fun z => .inl (fp_sub hs a (fp_drop a z))) .inr
      match as, rx with
      | [], rx => exact rx
      | [x], rx =>
        obtain ⟨dx, v, e1, e2, nx, q⟩ := rx
        exact ⟨dx, v, e1, e2, (hs2 dx _ e2 nx).2, RepU.ext hs2 x q⟩
    · rw [hXK] at R'
      have RR : RepR c.ca Kf L Z σ' H (fp (vs.map some) (svs.map some) G) H' ρ' G' (.u .non) .non := ⟨by rw [hd_u, or2_false]; exact R', by show RepU _ _ _ _ _; simp only [RepU], fun p z => z.elim⟩
      obtain ⟨r', G2, q, R2, hx2⟩ := fin_ok RR (hx0 hx) k
      exact en r' G2 .non H' hx2 R2 q
    · rw [hXK] at R'
      have RR : RepR c.ca Kf L Z σ' H (fp (vs.map some) (svs.map some) G) H' ρ' G' r v := ⟨R'.rep, R'.val, fun p z => ⟨hnew (R'.new p z).1, (R'.new p z).2⟩⟩
      obtain ⟨r', G2, q, R2, hx2⟩ := fin_ok RR (hx0 hx) k
      exact en r' G2 v H' hx2 R2 q
end

theorem xt_own {K : PySem.W.Frag} {C D : Addr} {b : Bool} (hr : PySem.W.subIn K (.ref C) (.ref C) = some true) (h1 : PySem.W.subIn K (.ref D) (.type "BaseException") = some true) (hd : PySem.W.hasDictIn K D = true) (ht : PySem.W.typeIn K (.ref D) = some (.type "type")) (h4 : PySem.W.subIn K (.ref C) (.ref D) = some b) :
    PySem.W.exmOne K (.ref C) (.ref D) = some b ∧ PySem.W.kitOne K (.ref C) (.ref D) = some b := by
  have e := PySem.W.exm_ref h1 hd ht h4
  refine ⟨e, ?_⟩
  unfold PySem.W.kitOne
  by_cases z : C = D
  · subst z
    rw [hr] at h4
    cases h4
    rw [if_pos (by simp)]
  · rw [if_neg (by simp [z])]
    unfold PySem.W.exmOne at e
    rw [if_pos (by rw [h1] <;> rfl)] at e
    exact e
theorem xt_blt {K : PySem.W.Frag} {C : Addr} {T : String} {b : Bool} (hT : PySem.W.kitMeta T = true) (h1 : PySem.W.subIn K (.type T) (.type "BaseException") = some true) (h4 : PySem.W.subIn K (.ref C) (.type T) = some b) :
    PySem.W.exmOne K (.ref C) (.type T) = some b ∧ PySem.W.kitOne K (.ref C) (.type T) = some b := by
  have e : PySem.W.kitCls K (.ref C) (.type T) = some b := by
    unfold PySem.W.kitCls
    simp only
    rw [if_pos hT]
    exact h4
  refine ⟨?_, ?_⟩
  · unfold PySem.W.exmOne
    rw [if_pos (by rw [h1] <;> rfl)]
    exact e
  · unfold PySem.W.kitOne
    rw [if_neg (by simp)]
    exact e

/-! ### the law -/
/-- what is to be shown of a law: its def hands back True for each script -/
def lawOk (P : Pg) (n f : Nat) (ns : List Int) : Prop := callN P n f [.u (.lst (ns.map U.int))] (fun _ => none) (fun _ _ _ => False) fun r _ => r = .u (.bl true)
theorem repUs_ints {Kf : PySem.W.Frag} {H : Hp} {ex : Addr → Prop} : ∀ ns : List Int, RepUs Kf H ex (ns.map U.int) (ns.map V.int)
  | [] => by simp [RepUs]
  | k :: ns => by
    simp only [List.map_cons, RepUs]
    exact ⟨_, _, rfl, by simp only [RepU], repUs_ints ns⟩
theorem law_sp {c : Cx0} {Kf : PySem.W.Frag} {n f : Nat} {ns : List Int} {H : Hp} {a : Addr} (h : lawOk c.P n f ns) (hS : SqL Kf H a (ns.map V.int)) : spN c (callN c.P n) Kf f [.ref a] H (fun v _ => v = .bl true) fun _ _ _ => False := by
  refine ⟨fun _ => False, fun _ => False, [.u (.lst (ns.map U.int))], fun _ => none, _, _, ⟨rfl, fun i sv e => ?_, fun i j u w b h1 => ?_, fun i u b h1 => ?_, fun b o e => (by cases e), fun b z => False.elim z⟩, fun _ z => False.elim z, h, fun r G' v H' hx R q => ?_, fun k as G' cls d H' _ _ _ q => q⟩
  · match i, e with
    | 0, e =>
      have e' : sv = .u (.lst (ns.map U.int)) := by simpa using e.symm
      subst e'
      refine ⟨.ref a, rfl, ?_⟩
      show RepU _ _ _ _ _
      simp only [RepU]
      refine ⟨a, ns.map V.int, rfl, ?_, repUs_ints ns⟩
      rcases hS with hS | hS
      · refine .inl ⟨hS, fun z => ?_⟩
        rcases z with (⟨o, z⟩ | ⟨i, u, z, _⟩) | z
        · cases z
        · match i, z with
          | 0, z => simp at z
          | i + 1, z => simp at z
        · exact z
      · exact .inr hS
    | i + 1, e => simp at e
  · match i, h1 with
    | 0, h1 => simp at h1
    | i + 1, h1 => simp at h1
  · match i, h1 with
    | 0, h1 => simp at h1
    | i + 1, h1 => simp at h1
  · subst q
    have := R.val
    simpa only [Val, RepU] using this
end Mp

/-! Mp21: lemmas for walking a small program. -/
namespace Mp
open PySem (Str)
theorem lookup_mem {α β : Type} [DecidableEq α] {l : List (α × β)} {k : α} {v : β} (h : l.lookup k = some v) : (k, v) ∈ l := by
  induction l with
  | nil => cases h
  | cons p l ih =>
    obtain ⟨a, b⟩ := p
    rw [List.lookup_cons] at h
    by_cases e : k = a
    · subst e
      simp at h
      subst h
      exact List.mem_cons_self ..
    · have : (k == a) = false := by simp [e]
      rw [this] at h
      exact List.mem_cons_of_mem _ (ih h)
theorem fa_nil {α : Type} {Q : α → Prop} : ∀ p ∈ ([] : List α), Q p := fun _ h => by cases h
theorem fa_cons {α : Type} {Q : α → Prop} {a : α} {l : List α} (h : Q a) (t : ∀ p ∈ l, Q p) : ∀ p ∈ a :: l, Q p := fun p hp => by
  rcases List.mem_cons.mp hp with e | e
  · rw [e]; exact h
  · exact t p e
theorem optK_in {α : Type} {o : Option α} {x : α} {K : α → Prop} (e : o = some x) (h : K x) : optK o K := by
  rw [e]
  exact h
theorem atI_nat {α : Type} {xs : List α} {j : Nat} {x : α} (h : xs[j]? = some x) : L2.atI xs (j : Int) = some x := by
  first | exact L2.atI_nat h | skip
theorem cut_from {α : Type} (xs : List α) (j : Nat) : cut xs (some (j : Int)) none = xs.drop j := by
  unfold cut
  rw [HT.sIx_nat, HT.sIx_none]
  by_cases h : j ≤ xs.length
  · rw [Nat.min_eq_left h, List.take_of_length_le (by rw [List.length_drop]; omega)]
  · rw [Nat.min_eq_right (by omega), List.drop_of_length_le (Nat.le_refl _), List.drop_of_length_le (show xs.length ≤ j by omega), List.take_nil]
theorem cut_to {α : Type} (xs : List α) (j : Nat) : cut xs none (some (j : Int)) = xs.take j := by
  unfold cut
  rw [HT.sIx_nat, HT.sIx_none, List.drop_zero, Nat.sub_zero]
  by_cases h : j ≤ xs.length
  · rw [Nat.min_eq_left h]
  · rw [Nat.min_eq_right (by omega), List.take_of_length_le (Nat.le_refl _), List.take_of_length_le (show xs.length ≤ j by omega)]
theorem cut_map {α β : Type} (f : α → β) (xs : List α) (lo hi : Option Int) : cut (xs.map f) lo hi = (cut xs lo hi).map f := by
  unfold cut
  rw [List.length_map, List.map_take, List.map_drop]
theorem atI_0 {α : Type} {x : α} {xs : List α} : L2.atI (x :: xs) 0 = some x := atI_nat (j := 0) rfl
theorem allInt_map : ∀ xs : List Int, allInt (xs.map U.int) = some xs
  | [] => rfl
  | x :: xs => by simp only [List.map_cons, allInt, allInt_map xs, Option.map_some]
theorem allBl_map : ∀ xs : List Bool, allBl (xs.map U.bl) = some xs
  | [] => rfl
  | x :: xs => by simp only [List.map_cons, allBl, allBl_map xs, Option.map_some]
theorem Br.tt {b : Bool} {A B : Prop} (h : b = true) (a : A) : Br b A B := by
  subst h
  exact a
theorem Br.ff {b : Bool} {A B : Prop} (h : b = false) (a : B) : Br b A B := by
  subst h
  exact a
theorem range_at {n i : Nat} {ys zs : List Nat} (e : ys ++ i :: zs = List.range n) : i = ys.length ∧ i < n := by
  have h : (List.range n)[ys.length]? = some i := by rw [← e]; simp
  obtain ⟨h1, h2⟩ := List.getElem?_eq_some_iff.mp h
  simp at h1 h2
  omega
theorem divOk {j : Int} (h : 0 < j) (h2 : j.natAbs < 2 ^ 64) : DivOk j := ⟨h, Nat.lt_trans h2 (Nat.pow_lt_pow_right (by decide) (by decide))⟩
theorem mulOk_l {i j : Int} (h : i.natAbs < 2 ^ 64) : MulOk i j := .inl (.inl h)
theorem mulOk_r {i j : Int} (h : j.natAbs < 2 ^ 64) : MulOk i j := .inl (.inr h)
theorem nat_of {p n : Int} (h0 : 0 ≤ p) (h1 : p < n) : ∃ j : Nat, (j : Int) < n ∧ p = (j : Int) := ⟨p.toNat, by omega, by omega⟩
theorem eq_str (s t : List Nat) : eqU (.str s) (.str t) = decide (s = t) := by
  simp only [eqU]
  by_cases h : s = t <;> simp [h]
theorem eq_int (s t : Int) : eqU (.int s) (.int t) = decide (s = t) := by
  simp only [eqU]
  by_cases h : s = t <;> simp [h]
theorem eqs_map {α : Type} [DecidableEq α] {f : α → U} (hf : ∀ a b, eqU (f a) (f b) = decide (a = b)) : ∀ xs ys : List α, eqUs (xs.map f) (ys.map f) = decide (xs = ys)
  | [], [] => by simp [eqUs]
  | [], _ :: _ => by simp [eqUs]
  | _ :: _, [] => by simp [eqUs]
  | x :: xs, y :: ys => by
    simp only [List.map_cons, eqUs, hf, eqs_map hf xs ys]
    by_cases h : x = y <;> by_cases h2 : xs = ys <;> simp [h, h2]
theorem eq_ints (xs ys : List Int) : eqU (.lst (xs.map U.int)) (.lst (ys.map U.int)) = decide (xs = ys) := by
  simp only [eqU]
  exact eqs_map eq_int xs ys
theorem eq_strs (xs ys : List (List Nat)) : eqU (.lst (xs.map U.str)) (.lst (ys.map U.str)) = decide (xs = ys) := by
  simp only [eqU]
  exact eqs_map eq_str xs ys
theorem ok_map {α : Type} {f : α → U} {n : Nat} (hf : ∀ a, okU n (f a) = true) : ∀ xs : List α, okUs n (xs.map f) = true
  | [] => by simp [okUs]
  | x :: xs => by simp only [List.map_cons, okUs, hf, ok_map hf xs, Bool.and_self]
theorem ok_ints (xs : List Int) : okU deepU (.lst (xs.map U.int)) = true := by
  show okUs 39 (xs.map U.int) = true
  exact ok_map (fun a => by simp only [okU]) xs
theorem ok_strs (xs : List (List Nat)) : okU deepU (.lst (xs.map U.str)) = true := by
  show okUs 39 (xs.map U.str) = true
  exact ok_map (fun a => by simp only [okU]) xs
/-- a loop whose turns keep I, the items in turn -/
theorem forI_pre {ck : Rho → Hh → Prop} {turn : U → Rho → Hh → (Rho → Hh → Prop) → Prop} {Q : Rho → Hh → Prop} {us : List U} (I : List U → Rho → Hh → Prop) : ∀ (ys xs : List U) {ρ : Rho} {G : Hh}, I ys ρ G →
    (∀ ys x zs ρ G, ∀ K : Rho → Hh → Prop, ys ++ x :: zs = us → I ys ρ G → (∀ ρ' G', I (ys ++ [x]) ρ' G' → K ρ' G') → turn x ρ G (fun ρ' G' => ∃ G'', Sub G'' G' ∧ ck ρ' G'' ∧ K ρ' G'')) →
    (∀ ρ G, I us ρ G → Q ρ G) → ys ++ xs = us → forI ck turn xs ρ G Q
  | ys, [], ρ, G, h0, _, hd, e => by
    rw [forI_nil]
    exact hd ρ G (by rw [← e]; simpa using h0)
  | ys, x :: xs, ρ, G, h0, hs, hd, e => by
    rw [forI_cons]
    refine hs ys x xs ρ G _ e h0 fun ρ' G' hI => ?_
    exact forI_pre I (ys ++ [x]) xs hI hs hd (by simpa using e)
theorem for_pre {ck : Rho → Hh → Prop} {turn : U → Rho → Hh → (Rho → Hh → Prop) → Prop} {Q : Rho → Hh → Prop} {us : List U} {ρ : Rho} {G : Hh} (I : List U → Rho → Hh → Prop) (h0 : I [] ρ G)
    (hs : ∀ ys x zs ρ G, ∀ K : Rho → Hh → Prop, ys ++ x :: zs = us → I ys ρ G → (∀ ρ' G', I (ys ++ [x]) ρ' G' → K ρ' G') → turn x ρ G (fun ρ' G' => ∃ G'', Sub G'' G' ∧ ck ρ' G'' ∧ K ρ' G''))
    (hd : ∀ ρ G, I us ρ G → Q ρ G) : forI ck turn us ρ G Q := forI_pre I [] us h0 hs hd rfl
/-- .. I does not count the items -/
theorem for_mem {ck : Rho → Hh → Prop} {turn : U → Rho → Hh → (Rho → Hh → Prop) → Prop} {Q : Rho → Hh → Prop} {us : List U} {ρ : Rho} {G : Hh} (I : Rho → Hh → Prop) (h0 : I ρ G)
    (hs : ∀ x ∈ us, ∀ ρ G, ∀ K : Rho → Hh → Prop, I ρ G → (∀ ρ' G', I ρ' G' → K ρ' G') → turn x ρ G (fun ρ' G' => ∃ G'', Sub G'' G' ∧ ck ρ' G'' ∧ K ρ' G''))
    (hd : ∀ ρ G, I ρ G → Q ρ G) : forI ck turn us ρ G Q :=
  for_pre (fun _ => I) h0 (fun ys x zs ρ G K e => hs x (by rw [← e]; simp) ρ G K) hd
/-- .. by places -/
theorem for_map {α : Type} {ck : Rho → Hh → Prop} {turn : U → Rho → Hh → (Rho → Hh → Prop) → Prop} {Q : Rho → Hh → Prop} {f : α → U} {xs : List α} {ρ : Rho} {G : Hh} (I : List α → Rho → Hh → Prop) (h0 : I [] ρ G)
    (hs : ∀ ys x zs ρ G, ∀ K : Rho → Hh → Prop, ys ++ x :: zs = xs → I ys ρ G → (∀ ρ' G', I (ys ++ [x]) ρ' G' → K ρ' G') → turn (f x) ρ G (fun ρ' G' => ∃ G'', Sub G'' G' ∧ ck ρ' G'' ∧ K ρ' G''))
    (hd : ∀ ρ G, I xs ρ G → Q ρ G) : forI ck turn (xs.map f) ρ G Q := by
  suffices key : ∀ (ys zs : List α) {ρ : Rho} {G : Hh}, I ys ρ G → ys ++ zs = xs → forI ck turn (zs.map f) ρ G Q from key [] xs h0 rfl
  intro ys zs
  induction zs generalizing ys with
  | nil =>
    intro ρ G h e
    rw [List.map_nil, forI_nil]
    exact hd ρ G (by rw [← e]; simpa using h)
  | cons x zs ih =>
    intro ρ G h e
    rw [List.map_cons, forI_cons]
    exact hs ys x zs ρ G _ e h fun ρ' G' hI => ih (ys ++ [x]) hI (by simpa using e)
/-- a comprehension whose turns leave the state as it was: g tells each item's answer -/
theorem lc_map {α : Type} {own : List Nat} {ck : Rho → Hh → Prop} {turn : U → Rho → Hh → (Option U → Rho → Hh → Prop) → Prop} {Q : List U → Rho → Hh → Prop} {f : α → U} {ρ : Rho} {G : Hh} (g : α → Option U) : ∀ {xs : List α} {acc : List U},
    (∀ x ∈ xs, ∀ N : Option U → Rho → Hh → Prop, N (g x) ρ G → turn (f x) ρ G (fun o ρ' G' => wipeK ρ' own fun ρ2 => ck ρ2 G' ∧ N o ρ2 G')) → Q (acc ++ xs.filterMap g) ρ G → lcI own ck turn (xs.map f) acc ρ G Q
  | [], acc, _, h => by
    rw [List.map_nil, lcI_nil]
    simpa using h
  | x :: xs, acc, hs, h => by
    rw [List.map_cons, lcI_cons]
    refine hs x (by simp) _ (lc_map g (fun y hy => hs y (by simp [hy])) ?_)
    rw [List.filterMap_cons] at h
    cases e : g x with
    | none => rw [e] at h; exact h
    | some y =>
      rw [e] at h
      show Q ((acc ++ [y]) ++ xs.filterMap g) ρ G
      rw [List.append_assoc]
      exact h
theorem filterMap_some {α β : Type} (g : α → β) : ∀ xs : List α, xs.filterMap (fun x => some (g x)) = xs.map g
  | [] => rfl
  | x :: xs => by rw [List.filterMap_cons, List.map_cons, filterMap_some g xs]
/-! ### names of fields -/
def fnAt (l : List Str) (f : Nat) : Str := l.getD f ⟨#[f]⟩
def okNs (l : List Str) : Bool := decide l.Nodup && l.all fun s => decide (2 ≤ s.cps.size)
theorem fnAt_inj {l : List Str} (h : okNs l = true) : ∀ f g, fnAt l f = fnAt l g → f = g := by
  simp only [okNs, Bool.and_eq_true, decide_eq_true_eq, List.all_eq_true] at h
  obtain ⟨h1, h2⟩ := h
  intro f g e
  unfold fnAt at e
  rw [List.getD_eq_getElem?_getD, List.getD_eq_getElem?_getD] at e
  by_cases hf : f < l.length
  · rw [List.getElem?_eq_getElem hf] at e
    by_cases hg : g < l.length
    · rw [List.getElem?_eq_getElem hg] at e
      have e' : l[f] = l[g] := e
      exact (List.getElem?_inj hf h1).mp (by rw [List.getElem?_eq_getElem hf, List.getElem?_eq_getElem hg, e'])
    · rw [List.getElem?_eq_none (by omega)] at e
      have := h2 _ (List.getElem_mem hf)
      have e' : l[f] = ⟨#[g]⟩ := e
      rw [e'] at this
      simp at this
  · rw [List.getElem?_eq_none (by omega)] at e
    by_cases hg : g < l.length
    · rw [List.getElem?_eq_getElem hg] at e
      have := h2 _ (List.getElem_mem hg)
      have e' : ⟨#[f]⟩ = l[g] := e
      rw [← e'] at this
      simp at this
    · rw [List.getElem?_eq_none (by omega)] at e
      have e' : (⟨#[f]⟩ : Str) = ⟨#[g]⟩ := e
      simpa using e'
/-- a class's fields, one by one -/
theorem fdIn_ok {K : PySem.W.Frag} {C : PySem.Addr} {fn : Nat → Str} {fd : Nat → Bool} {l : List Nat} (h : ∀ f, fd f = true → f ∈ l) (k : ∀ f ∈ l, PySem.W.findIn K (.ref C) (fn f) = some none) (f : Nat) (hf : fd f = true) : L2.NoAttr K C (fn f) := k f (h f hf)
/-- the exceptions that may be raised -/
theorem xs_of {α : Type} [DecidableEq α] {β : Type} {l m : List (α × β)} {p : α → Prop} {k : α} (h : ((l.lookup k).isSome || (m.lookup k).isSome) = true) (h1 : ∀ q ∈ l, p q.1) (h2 : ∀ q ∈ m, p q.1) : p k := by
  rcases Bool.or_eq_true_iff.mp h with h | h
  · obtain ⟨x, hx⟩ := Option.isSome_iff_exists.mp h
    exact h1 (k, x) (lookup_mem hx)
  · obtain ⟨x, hx⟩ := Option.isSome_iff_exists.mp h
    exact h2 (k, x) (lookup_mem hx)
/-! facts of the shared heap -/
theorem ins_in {o : Option O} {k : Nat} {fs : List (Nat × U)} {K : Nat → List (Nat × U) → Prop} (e : o = some (.ins k fs)) (h : K k fs) : (match (generalizing := false) o with
    | some (.ins k fs) => K k fs
    | _ => False) := by
  rw [e]
  exact h
theorem vw_con {G : Hh} {a : PySem.Addr} {c : U} {ρ : Rho} {K : U → Prop} (e : G a = some (.con c)) (h : K c) : vwK (.u (.ref a)) ρ G K := by
  simp only [vwK, vw, e]
  exact h
theorem put_self {G : Hh} {a : PySem.Addr} {o : O} : put G a o a = some o := if_pos rfl
theorem put_ne {G : Hh} {a b : PySem.Addr} {o : O} (h : b ≠ a) : put G a o b = G b := if_neg h
theorem put_at {G : Hh} {a b : PySem.Addr} {o : O} {v : Option O} (h : b ≠ a) (k : G b = v) : put G a o b = v := (put_ne h).trans k
end Mp

/-! the shared defs -/
namespace Gp
open PySem Mp
def k_blocks_NAMED : U := .str [97, 98, 99, 100, 101, 102, 103, 104, 105, 106, 107, 108, 109, 110, 111, 112, 113, 114, 115, 116, 117, 118, 119, 120, 121, 122, 48, 49, 50, 51, 52, 53, 54, 55, 56, 57]
def k_signs_SIGNS : U := .str [32, 33, 34, 35, 36, 38, 39, 40, 41, 42, 43, 44, 45, 46, 47, 48, 49, 50, 51, 52, 53, 54, 55, 56, 57, 58, 59, 60, 61, 62, 63, 64, 65, 66, 67, 68, 69, 70, 71, 72, 73, 74, 75, 76, 77, 78, 79, 80, 81, 82, 83, 84, 85, 86, 87, 88, 89, 90, 91, 92, 93, 94, 95, 96, 97, 98, 99, 100, 101, 102, 103, 104, 105, 106, 107, 108, 109, 110, 111, 112, 113, 114, 115, 116, 117, 118, 119, 120, 121, 122, 123, 124, 125, 126]
/-! ### 0 signs.number_of -/
def signs_number_of_body : Ss := (.cons (.ret (.bmeth .sindex (.cst (k_signs_SIGNS)) (.cons (.loc 0) .nil))) .nil)
/- 0 sign -/
def signs_number_of_fn : Fn := ⟨1, 0, signs_number_of_body⟩
abbrev F_signs_number_of : Nat := 0
/-! ### 1 signs.sign_of -/
def signs_sign_of_body : Ss := (.cons (.ret (.idx (.cst (k_signs_SIGNS)) (.loc 0))) .nil)
/- 0 number -/
def signs_sign_of_fn : Fn := ⟨1, 0, signs_sign_of_body⟩
abbrev F_signs_sign_of : Nat := 1
/-! ### 2 signs.is_text -/
def signs_is_text_body : Ss := (.cons (.ret (.and_ (.isin (.loc 0) [.str]) (.cons (.cmp .le (.bcall .len (.cons (.loc 0) .nil)) (.loc 1)) (.cons (.bcall .all (.cons (.lc (.cmp .inn (.loc 2) (.cst (k_signs_SIGNS))) (.nm 2) (.seq (.loc 0)) .none [2]) .nil)) .nil)))) .nil)
/- 0 thing, 1 most, 2 sign -/
def signs_is_text_fn : Fn := ⟨2, 1, signs_is_text_body⟩
abbrev F_signs_is_text : Nat := 2
/-! ### 3 signs.numbers_of -/
def signs_numbers_of_body : Ss := (.cons (.ret (.lc (.call 0 (.cons (.loc 1) .nil)) (.nm 1) (.seq (.loc 0)) .none [1])) .nil)
/- 0 text, 1 sign -/
def signs_numbers_of_fn : Fn := ⟨1, 1, signs_numbers_of_body⟩
abbrev F_signs_numbers_of : Nat := 3
/-! ### 4 things.is_number -/
def things_is_number_body : Ss := (.cons (.ret (.and_ (.isin (.loc 0) [.int]) (.cons (.not_ (.isin (.loc 0) [.bool])) (.cons (.chain .le .le (.int 0) (.loc 0) (.cst (.int 999999999))) .nil)))) .nil)
/- 0 thing -/
def things_is_number_fn : Fn := ⟨1, 0, things_is_number_body⟩
abbrev F_things_is_number : Nat := 4
/-! ### 5 things.is_within -/
def things_is_within_r1 : Ss := (.cons (.ret (.bcall .all (.cons (.lc (.call 5 (.cons (.loc 2) (.cons (.bin .sub (.loc 1) (.int 1)) .nil))) (.nm 2) (.seq (.loc 0)) .none [2]) .nil))) .nil)
def things_is_within_r2 : Ss := (.cons (.ite (.or_ (.not_ (.isin (.loc 0) [.tuple])) (.cons (.cmp .gt (.bcall .len (.cons (.loc 0) .nil)) (.cst (.int 100))) (.cons (.cmp .lt (.loc 1) (.int 1)) .nil))) (.cons (.ret (.bl false)) .nil) .nil) things_is_within_r1)
def things_is_within_body : Ss := (.cons (.ite (.or_ (.call 4 (.cons (.loc 0) .nil)) (.cons (.call 2 (.cons (.loc 0) (.cons (.cst (.int 400)) .nil))) .nil)) (.cons (.ret (.cmp .gt (.loc 1) (.int 0))) .nil) .nil) things_is_within_r2)
/- 0 thing, 1 deep, 2 part -/
def things_is_within_fn : Fn := ⟨2, 1, things_is_within_body⟩
abbrev F_things_is_within : Nat := 5
/-! ### 6 things.is_thing -/
def things_is_thing_body : Ss := (.cons (.ret (.call 5 (.cons (.loc 0) (.cons (.cst (.int 8)) .nil)))) .nil)
/- 0 thing -/
def things_is_thing_fn : Fn := ⟨1, 0, things_is_thing_body⟩
abbrev F_things_is_thing : Nat := 6
/-! ### 7 things.words_of -/
def things_words_of_f1 : Ss := (.cons (.ex (.bmeth .extend (.loc 1) (.cons (.call 7 (.cons (.loc 2) .nil)) .nil))) .nil)
def things_words_of_r2 : Ss := (.cons (.ret (.loc 1)) .nil)
def things_words_of_r3 : Ss := (.cons (.asg (.nm 1) (.lst (.cons (.int 2) (.cons (.bcall .len (.cons (.loc 0) .nil)) .nil)))) (.cons (.for_ (.nm 2) (.seq (.loc 0)) things_words_of_f1) things_words_of_r2))
def things_words_of_r4 : Ss := (.cons (.ite (.isin (.loc 0) [.str]) (.cons (.ret (.bin .add (.lst (.cons (.int 1) (.cons (.bcall .len (.cons (.loc 0) .nil)) .nil))) (.call 3 (.cons (.loc 0) .nil)))) .nil) .nil) things_words_of_r3)
def things_words_of_body : Ss := (.cons (.ite (.isin (.loc 0) [.int]) (.cons (.ret (.lst (.cons (.int 0) (.cons (.loc 0) .nil)))) .nil) .nil) things_words_of_r4)
/- 0 thing, 1 words, 2 part -/
def things_words_of_fn : Fn := ⟨1, 2, things_words_of_body⟩
abbrev F_things_words_of : Nat := 7
/-! ### 8 things.text_at -/
def things_text_at_r1 : Ss := (.cons (.asg (.nm 3) (.bin .add (.loc 3) (.call 1 (.cons (.loc 4) .nil)))) .nil)
def things_text_at_f2 : Ss := (.cons (.ite (.not_ (.chain .le .lt (.int 0) (.loc 4) (.bcall .len (.cons (.cst (k_signs_SIGNS)) .nil)))) (.cons (.rais 1 .nil) .nil) .nil) things_text_at_r1)
def things_text_at_r3 : Ss := (.cons (.ret (.loc 3)) .nil)
def things_text_at_body : Ss := (.cons (.asg (.nm 3) (.str [])) (.cons (.for_ (.nm 4) (.seq (.slc (.loc 0) (.some (.loc 1)) (.some (.bin .add (.loc 1) (.loc 2))))) things_text_at_f2) things_text_at_r3))
/- 0 words, 1 at, 2 many, 3 text, 4 word -/
def things_text_at_fn : Fn := ⟨3, 2, things_text_at_body⟩
abbrev F_things_text_at : Nat := 8
/-! ### 9 things.thing_at -/
def things_thing_at_f1 : Ss := (.cons (.asg (.tp (.cons (.nm 6) (.cons (.nm 1) .nil))) (.call 9 (.cons (.loc 0) (.cons (.loc 1) (.cons (.bin .sub (.loc 2) (.int 1)) .nil))))) (.cons (.ex (.bmeth .append (.loc 4) (.cons (.loc 6) .nil))) .nil))
def things_thing_at_r2 : Ss := (.cons (.ret (.tup (.cons (.bcall .tuple (.cons (.loc 4) .nil)) (.cons (.loc 1) .nil)))) .nil)
def things_thing_at_r3 : Ss := (.cons (.asg (.nm 4) (.lst .nil)) (.cons (.asg (.nm 1) (.bin .add (.loc 1) (.int 2))) (.cons (.for_ (.nm 5) (.rng (.loc 3)) things_thing_at_f1) things_thing_at_r2)))
def things_thing_at_r4 : Ss := (.cons (.ite (.or_ (.cmp .ne (.idx (.loc 0) (.loc 1)) (.int 2)) (.cons (.not_ (.chain .le .le (.int 0) (.loc 3) (.cst (.int 100)))) .nil)) (.cons (.rais 1 .nil) .nil) .nil) things_thing_at_r3)
def things_thing_at_r5 : Ss := (.cons (.ite (.and_ (.cmp .eq (.idx (.loc 0) (.loc 1)) (.int 1)) (.cons (.chain .le .le (.int 0) (.loc 3) (.cst (.int 400))) (.cons (.cmp .le (.bin .add (.bin .add (.loc 1) (.int 2)) (.loc 3)) (.bcall .len (.cons (.loc 0) .nil))) .nil))) (.cons (.ret (.tup (.cons (.call 8 (.cons (.loc 0) (.cons (.bin .add (.loc 1) (.int 2)) (.cons (.loc 3) .nil)))) (.cons (.bin .add (.bin .add (.loc 1) (.int 2)) (.loc 3)) .nil)))) .nil) .nil) things_thing_at_r4)
def things_thing_at_r6 : Ss := (.cons (.asg (.nm 3) (.idx (.loc 0) (.bin .add (.loc 1) (.int 1)))) (.cons (.ite (.and_ (.cmp .eq (.idx (.loc 0) (.loc 1)) (.int 0)) (.cons (.chain .le .le (.int 0) (.loc 3) (.cst (.int 999999999))) .nil)) (.cons (.ret (.tup (.cons (.loc 3) (.cons (.bin .add (.loc 1) (.int 2)) .nil)))) .nil) .nil) things_thing_at_r5))
def things_thing_at_body : Ss := (.cons (.ite (.or_ (.cmp .lt (.loc 2) (.int 1)) (.cons (.cmp .gt (.bin .add (.loc 1) (.int 2)) (.bcall .len (.cons (.loc 0) .nil))) .nil)) (.cons (.rais 1 .nil) .nil) .nil) things_thing_at_r6)
/- 0 words, 1 at, 2 deep, 3 many, 4 parts, 5 k, 6 part -/
def things_thing_at_fn : Fn := ⟨3, 4, things_thing_at_body⟩
abbrev F_things_thing_at : Nat := 9
/-! ### 10 things.thing_of -/
def things_thing_of_r1 : Ss := (.cons (.ret (.loc 1)) .nil)
def things_thing_of_body : Ss := (.cons (.asg (.tp (.cons (.nm 1) (.cons (.nm 2) .nil))) (.call 9 (.cons (.loc 0) (.cons (.int 0) (.cons (.cst (.int 8)) .nil))))) (.cons (.ite (.cmp .ne (.loc 2) (.bcall .len (.cons (.loc 0) .nil))) (.cons (.rais 1 .nil) .nil) .nil) things_thing_of_r1))
/- 0 words, 1 thing, 2 end -/
def things_thing_of_fn : Fn := ⟨1, 2, things_thing_of_body⟩
abbrev F_things_thing_of : Nat := 10
/-! ### 17 blocks.is_name -/
def blocks_is_name_r1 : Ss := (.cons (.ret (.bcall .all (.cons (.lc (.cmp .inn (.loc 1) (.cst (k_blocks_NAMED))) (.nm 1) (.seq (.loc 0)) .none [1]) .nil))) .nil)
def blocks_is_name_body : Ss := (.cons (.ite (.or_ (.not_ (.isin (.loc 0) [.str])) (.cons (.not_ (.chain .le .le (.int 1) (.bcall .len (.cons (.loc 0) .nil)) (.cst (.int 8)))) .nil)) (.cons (.ret (.bl false)) .nil) .nil) blocks_is_name_r1)
/- 0 thing, 1 sign -/
def blocks_is_name_fn : Fn := ⟨1, 1, blocks_is_name_body⟩
abbrev F_blocks_is_name : Nat := 17
/-! ### 18 blocks.is_tag -/
def blocks_is_tag_r1 : Ss := (.cons (.ret (.and_ (.chain .le .le (.int 1) (.idx (.loc 0) (.int 0)) (.cst (.int 999999))) (.cons (.cmp .lt (.idx (.loc 0) (.int 2)) (.cst (.int 997))) .nil))) .nil)
def blocks_is_tag_body : Ss := (.cons (.ite (.or_ (.not_ (.isin (.loc 0) [.tuple])) (.cons (.cmp .ne (.bcall .len (.cons (.loc 0) .nil)) (.int 3)) (.cons (.not_ (.bcall .all (.cons (.lc (.call 4 (.cons (.loc 1) .nil)) (.nm 1) (.seq (.loc 0)) .none [1]) .nil))) .nil))) (.cons (.ret (.bl false)) .nil) .nil) blocks_is_tag_r1)
/- 0 thing, 1 part -/
def blocks_is_tag_fn : Fn := ⟨1, 1, blocks_is_tag_body⟩
abbrev F_blocks_is_tag : Nat := 18
/-! ### 19 blocks.is_row -/
def blocks_is_row_r1 : Ss := (.cons (.ret (.bcall .all (.cons (.lc (.call 18 (.cons (.loc 3) .nil)) (.nm 3) (.seq (.loc 2)) .none [3]) .nil))) .nil)
def blocks_is_row_r2 : Ss := (.cons (.ite (.or_ (.cmp .gt (.bcall .len (.cons (.loc 2) .nil)) (.cst (.int 8))) (.cons (.and_ (.cmp .eq (.bcall .len (.cons (.loc 2) .nil)) (.int 0)) (.cons (.cmp .gt (.loc 1) (.int 1)) .nil)) .nil)) (.cons (.ret (.bl false)) .nil) .nil) blocks_is_row_r1)
def blocks_is_row_body : Ss := (.cons (.asg (.tp (.cons (.nm 1) (.cons (.nm 2) .nil))) (.slc (.loc 0) (.some (.int 1)) .none)) (.cons (.ite (.or_ (.not_ (.call 4 (.cons (.loc 1) .nil))) (.cons (.not_ (.chain .le .le (.int 1) (.loc 1) (.cst (.int 9)))) (.cons (.not_ (.isin (.loc 2) [.tuple])) .nil))) (.cons (.ret (.bl false)) .nil) .nil) blocks_is_row_r2))
/- 0 thing, 1 level, 2 tags, 3 tag -/
def blocks_is_row_fn : Fn := ⟨1, 3, blocks_is_row_body⟩
abbrev F_blocks_is_row : Nat := 19
/-! ### 20 blocks.is_entry -/
def blocks_is_entry_r1 : Ss := (.cons (.ret (.and_ (.call 4 (.cons (.idx (.loc 0) (.int 1)) .nil)) (.cons (.chain .le .le (.int 1) (.idx (.loc 0) (.int 1)) (.int 2)) (.cons (.call 18 (.cons (.idx (.loc 0) (.int 2)) .nil)) .nil)))) .nil)
def blocks_is_entry_body : Ss := (.cons (.ite (.or_ (.not_ (.isin (.loc 0) [.tuple])) (.cons (.cmp .ne (.bcall .len (.cons (.loc 0) .nil)) (.int 3)) (.cons (.not_ (.call 17 (.cons (.idx (.loc 0) (.int 0)) .nil))) .nil))) (.cons (.ret (.bl false)) .nil) .nil) blocks_is_entry_r1)
/- 0 thing -/
def blocks_is_entry_fn : Fn := ⟨1, 0, blocks_is_entry_body⟩
abbrev F_blocks_is_entry : Nat := 20
/-! ### 21 blocks.is_folder -/
def blocks_is_folder_r1 : Ss := (.cons (.ret (.bcall .all (.cons (.lc (.cmp .lt (.idx (.idx (.loc 0) (.loc 2)) (.int 0)) (.idx (.idx (.loc 0) (.bin .add (.loc 2) (.int 1))) (.int 0))) (.nm 2) (.rng (.bin .sub (.bcall .len (.cons (.loc 0) .nil)) (.int 1))) .none [2]) .nil))) .nil)
def blocks_is_folder_r2 : Ss := (.cons (.ite (.not_ (.bcall .all (.cons (.lc (.call 20 (.cons (.loc 1) .nil)) (.nm 1) (.seq (.loc 0)) .none [1]) .nil))) (.cons (.ret (.bl false)) .nil) .nil) blocks_is_folder_r1)
def blocks_is_folder_body : Ss := (.cons (.ite (.or_ (.not_ (.isin (.loc 0) [.tuple])) (.cons (.cmp .gt (.bcall .len (.cons (.loc 0) .nil)) (.cst (.int 16))) .nil)) (.cons (.ret (.bl false)) .nil) .nil) blocks_is_folder_r2)
/- 0 entries, 1 entry, 2 k -/
def blocks_is_folder_fn : Fn := ⟨1, 2, blocks_is_folder_body⟩
abbrev F_blocks_is_folder : Nat := 21
/-! ### 22 blocks.is_block -/
def blocks_is_block_r1 : Ss := (.cons (.ret (.and_ (.cmp .eq (.idx (.loc 0) (.int 0)) (.int 2)) (.cons (.call 21 (.cons (.idx (.loc 0) (.int 1)) .nil)) .nil))) .nil)
def blocks_is_block_r2 : Ss := (.cons (.ite (.cmp .eq (.idx (.loc 0) (.int 0)) (.int 0)) (.cons (.ret (.and_ (.call 2 (.cons (.idx (.loc 0) (.int 1)) (.cons (.cst (.int 8)) .nil))) (.cons (.cmp .ne (.idx (.loc 0) (.int 1)) (.str [])) .nil))) .nil) .nil) blocks_is_block_r1)
def blocks_is_block_r3 : Ss := (.cons (.ite (.cmp .ne (.bcall .len (.cons (.loc 0) .nil)) (.int 2)) (.cons (.ret (.bl false)) .nil) .nil) blocks_is_block_r2)
def blocks_is_block_r4 : Ss := (.cons (.ite (.cmp .eq (.idx (.loc 0) (.int 0)) (.int 1)) (.cons (.ret (.and_ (.cmp .eq (.bcall .len (.cons (.loc 0) .nil)) (.int 3)) (.cons (.call 19 (.cons (.loc 0) .nil)) .nil))) .nil) .nil) blocks_is_block_r3)
def blocks_is_block_body : Ss := (.cons (.ite (.or_ (.not_ (.isin (.loc 0) [.tuple])) (.cons (.cmp .lt (.bcall .len (.cons (.loc 0) .nil)) (.int 2)) (.cons (.not_ (.call 4 (.cons (.idx (.loc 0) (.int 0)) .nil))) .nil))) (.cons (.ret (.bl false)) .nil) .nil) blocks_is_block_r4)
/- 0 thing -/
def blocks_is_block_fn : Fn := ⟨1, 0, blocks_is_block_body⟩
abbrev F_blocks_is_block : Nat := 22
/-! ### 23 blocks.told_of -/
def blocks_told_of_f1 : Ss := (.cons (.ex (.bmeth .extend (.loc 1) (.cons (.bin .add (.call 3 (.cons (.loc 2) .nil)) (.lst (.cons (.loc 3) (.cons (.idx (.loc 4) (.int 2)) .nil)))) .nil))) .nil)
def blocks_told_of_r2 : Ss := (.cons (.ret (.loc 1)) .nil)
def blocks_told_of_r3 : Ss := (.cons (.asg (.nm 1) (.lst .nil)) (.cons (.for_ (.tp (.cons (.nm 2) (.cons (.nm 3) (.cons (.nm 4) .nil)))) (.seq (.idx (.loc 0) (.int 1))) blocks_told_of_f1) blocks_told_of_r2))
def blocks_told_of_r4 : Ss := (.cons (.ite (.cmp .eq (.idx (.loc 0) (.int 0)) (.int 1)) (.cons (.ret (.bin .add (.lst (.cons (.idx (.loc 0) (.int 1)) .nil)) (.lc (.idx (.loc 4) (.int 2)) (.nm 4) (.seq (.idx (.loc 0) (.int 2))) .none [4]))) .nil) .nil) blocks_told_of_r3)
def blocks_told_of_body : Ss := (.cons (.ite (.cmp .eq (.idx (.loc 0) (.int 0)) (.int 0)) (.cons (.ret (.call 3 (.cons (.idx (.loc 0) (.int 1)) .nil))) .nil) .nil) blocks_told_of_r4)
/- 0 block, 1 told, 2 name, 3 kind, 4 tag -/
def blocks_told_of_fn : Fn := ⟨1, 4, blocks_told_of_body⟩
abbrev F_blocks_told_of : Nat := 23
/-! ### 24 blocks.sum_of -/
def blocks_sum_of_f1 : Ss := (.cons (.asg (.nm 1) (.bin .mod (.bin .add (.bin .add (.bin .mul (.cst (.int 31)) (.loc 1)) (.loc 2)) (.int 1)) (.cst (.int 997)))) .nil)
def blocks_sum_of_r2 : Ss := (.cons (.ret (.loc 1)) .nil)
def blocks_sum_of_body : Ss := (.cons (.asg (.nm 1) (.bin .add (.idx (.loc 0) (.int 0)) (.int 1))) (.cons (.for_ (.nm 2) (.seq (.call 23 (.cons (.loc 0) .nil))) blocks_sum_of_f1) blocks_sum_of_r2))
/- 0 block, 1 found, 2 number -/
def blocks_sum_of_fn : Fn := ⟨1, 2, blocks_sum_of_body⟩
abbrev F_blocks_sum_of : Nat := 24
/-! ### 25 blocks.size_of -/
def blocks_size_of_body : Ss := (.cons (.ret (.bcall .len (.cons (.call 7 (.cons (.loc 0) .nil)) .nil))) .nil)
/- 0 block -/
def blocks_size_of_fn : Fn := ⟨1, 0, blocks_size_of_body⟩
abbrev F_blocks_size_of : Nat := 25
/-! ### 26 blocks.tags_in -/
def blocks_tags_in_r1 : Ss := (.cons (.ret (.lc (.idx (.loc 1) (.int 2)) (.nm 1) (.seq (.idx (.loc 0) (.int 1))) .none [1])) .nil)
def blocks_tags_in_r2 : Ss := (.cons (.ite (.cmp .eq (.idx (.loc 0) (.int 0)) (.int 1)) (.cons (.ret (.bcall .list (.cons (.idx (.loc 0) (.int 2)) .nil))) .nil) .nil) blocks_tags_in_r1)
def blocks_tags_in_body : Ss := (.cons (.ite (.cmp .eq (.idx (.loc 0) (.int 0)) (.int 0)) (.cons (.ret (.lst .nil)) .nil) .nil) blocks_tags_in_r2)
/- 0 block, 1 entry -/
def blocks_tags_in_fn : Fn := ⟨1, 1, blocks_tags_in_body⟩
abbrev F_blocks_tags_in : Nat := 26
/-! ### 76 heads.is_count -/
def heads_is_count_body : Ss := (.cons (.ret (.and_ (.isin (.loc 0) [.int]) (.cons (.not_ (.isin (.loc 0) [.bool])) (.cons (.chain .le .le (.int 0) (.loc 0) (.cst (.int 999999999))) .nil)))) .nil)
/- 0 thing -/
def heads_is_count_fn : Fn := ⟨1, 0, heads_is_count_body⟩
abbrev F_heads_is_count : Nat := 76
/-! ### 77 heads.is_rising -/
def heads_is_rising_body : Ss := (.cons (.ret (.bcall .all (.cons (.lc (.cmp .lt (.idx (.idx (.loc 0) (.loc 1)) (.int 0)) (.idx (.idx (.loc 0) (.bin .add (.loc 1) (.int 1))) (.int 0))) (.nm 1) (.rng (.bin .sub (.bcall .len (.cons (.loc 0) .nil)) (.int 1))) .none [1]) .nil))) .nil)
/- 0 rows, 1 k -/
def heads_is_rising_fn : Fn := ⟨1, 1, heads_is_rising_body⟩
abbrev F_heads_is_rising : Nat := 77
/-! ### 78 heads.is_keeper -/
def heads_is_keeper_body : Ss := (.cons (.ret (.and_ (.isin (.loc 0) [.tuple]) (.cons (.cmp .eq (.bcall .len (.cons (.loc 0) .nil)) (.int 2)) (.cons (.call 17 (.cons (.idx (.loc 0) (.int 0)) .nil)) (.cons (.call 76 (.cons (.idx (.loc 0) (.int 1)) .nil)) .nil))))) .nil)
/- 0 thing -/
def heads_is_keeper_fn : Fn := ⟨1, 0, heads_is_keeper_body⟩
abbrev F_heads_is_keeper : Nat := 78
/-! ### 79 heads.is_entry -/
def heads_is_entry_r1 : Ss := (.cons (.ret (.and_ (.cmp .eq (.idx (.loc 0) (.int 1)) (.int 2)) (.cons (.call 76 (.cons (.idx (.loc 0) (.int 3)) .nil)) (.cons (.cmp .gt (.idx (.loc 0) (.int 3)) (.int 0)) .nil)))) .nil)
def heads_is_entry_r2 : Ss := (.cons (.ite (.cmp .eq (.idx (.loc 0) (.int 1)) (.int 1)) (.cons (.ret (.or_ (.cmp .eq (.idx (.loc 0) (.int 3)) (.str [])) (.cons (.call 17 (.cons (.idx (.loc 0) (.int 3)) .nil)) .nil))) .nil) .nil) heads_is_entry_r1)
def heads_is_entry_r3 : Ss := (.cons (.ite (.or_ (.not_ (.call 76 (.cons (.idx (.loc 0) (.int 1)) .nil))) (.cons (.not_ (.call 17 (.cons (.idx (.loc 0) (.int 2)) .nil))) .nil)) (.cons (.ret (.bl false)) .nil) .nil) heads_is_entry_r2)
def heads_is_entry_body : Ss := (.cons (.ite (.or_ (.not_ (.isin (.loc 0) [.tuple])) (.cons (.cmp .ne (.bcall .len (.cons (.loc 0) .nil)) (.int 5)) (.cons (.not_ (.call 17 (.cons (.idx (.loc 0) (.int 0)) .nil))) (.cons (.not_ (.call 18 (.cons (.idx (.loc 0) (.int 4)) .nil))) .nil)))) (.cons (.ret (.bl false)) .nil) .nil) heads_is_entry_r3)
/- 0 thing -/
def heads_is_entry_fn : Fn := ⟨1, 0, heads_is_entry_body⟩
abbrev F_heads_is_entry : Nat := 79
/-! ### 80 heads.called -/
def heads_called_f1 : Ss := (.cons (.ite (.cmp .eq (.idx (.loc 2) (.int 0)) (.loc 1)) (.cons (.ret (.loc 2)) .nil) .nil) .nil)
def heads_called_r2 : Ss := (.cons (.ret .non) .nil)
def heads_called_body : Ss := (.cons (.for_ (.nm 2) (.seq (.loc 0)) heads_called_f1) heads_called_r2)
/- 0 names, 1 name, 2 entry -/
def heads_called_fn : Fn := ⟨2, 1, heads_called_body⟩
abbrev F_heads_called : Nat := 80
/-! ### 81 heads.turns_fit -/
def heads_turns_fit_f1 : Ss := (.cons (.ite (.cmp .eq (.idx (.loc 2) (.int 1)) (.int 2)) (.cons (.asg (.nm 3) (.call 80 (.cons (.loc 0) (.cons (.idx (.call 80 (.cons (.loc 0) (.cons (.idx (.loc 2) (.int 2)) .nil))) (.int 3)) .nil)))) (.cons (.ite (.and_ (.isN (.loc 3) true) (.cons (.cmp .ge (.idx (.loc 3) (.int 3)) (.idx (.loc 2) (.int 3))) .nil)) (.cons (.ret (.bl false)) .nil) .nil) .nil)) .nil) .nil)
def heads_turns_fit_r2 : Ss := (.cons (.ret (.bl true)) .nil)
def heads_turns_fit_r3 : Ss := (.cons (.for_ (.nm 2) (.seq (.loc 0)) heads_turns_fit_f1) heads_turns_fit_r2)
def heads_turns_fit_body : Ss := (.cons (.asg (.nm 1) (.lc (.idx (.loc 2) (.int 3)) (.nm 2) (.seq (.loc 0)) (.some (.cmp .eq (.idx (.loc 2) (.int 1)) (.int 2))) [2])) (.cons (.ite (.cmp .ne (.bcall .lset (.cons (.loc 1) .nil)) (.bcall .len (.cons (.loc 1) .nil))) (.cons (.ret (.bl false)) .nil) .nil) heads_turns_fit_r3))
/- 0 names, 1 turns, 2 entry, 3 origin -/
def heads_turns_fit_fn : Fn := ⟨1, 3, heads_turns_fit_body⟩
abbrev F_heads_turns_fit : Nat := 81
/-! ### 82 heads.leads_right -/
def heads_leads_right_r1 : Ss := (.cons (.asg (.nm 4) (.call 80 (.cons (.loc 1) (.cons (.idx (.loc 2) (.int 3)) .nil)))) (.cons (.ret (.or_ (.cmp .eq (.idx (.loc 2) (.int 3)) (.str [])) (.cons (.and_ (.isN (.loc 4) true) (.cons (.cmp .eq (.idx (.loc 4) (.int 1)) (.int 2)) .nil)) .nil))) .nil))
def heads_leads_right_r2 : Ss := (.cons (.ite (.cmp .nin (.idx (.loc 2) (.int 2)) (.lc (.idx (.loc 5) (.int 0)) (.nm 5) (.seq (.loc 0)) .none [5])) (.cons (.ret (.bl false)) .nil) .nil) heads_leads_right_r1)
def heads_leads_right_body : Ss := (.cons (.ite (.cmp .eq (.idx (.loc 2) (.int 1)) (.int 2)) (.cons (.asg (.nm 3) (.call 80 (.cons (.loc 1) (.cons (.idx (.loc 2) (.int 2)) .nil)))) (.cons (.ret (.and_ (.isN (.loc 3) true) (.cons (.cmp .eq (.idx (.loc 3) (.int 1)) (.int 1)) .nil))) .nil)) .nil) heads_leads_right_r2)
/- 0 keepers, 1 names, 2 entry, 3 stem, 4 origin, 5 keeper -/
def heads_leads_right_fn : Fn := ⟨3, 3, heads_leads_right_body⟩
abbrev F_heads_leads_right : Nat := 82
/-! ### 83 heads.is_head -/
def heads_is_head_r1 : Ss := (.cons (.ret (.and_ (.bcall .all (.cons (.lc (.call 82 (.cons (.loc 2) (.cons (.loc 3) (.cons (.loc 5) .nil)))) (.nm 5) (.seq (.loc 3)) .none [5]) .nil)) (.cons (.call 81 (.cons (.loc 3) .nil)) .nil))) .nil)
def heads_is_head_r2 : Ss := (.cons (.ite (.or_ (.not_ (.call 77 (.cons (.loc 2) .nil))) (.cons (.not_ (.call 77 (.cons (.loc 3) .nil))) .nil)) (.cons (.ret (.bl false)) .nil) .nil) heads_is_head_r1)
def heads_is_head_r3 : Ss := (.cons (.ite (.or_ (.not_ (.bcall .all (.cons (.lc (.call 78 (.cons (.loc 4) .nil)) (.nm 4) (.seq (.loc 2)) .none [4]) .nil))) (.cons (.not_ (.bcall .all (.cons (.lc (.call 79 (.cons (.loc 5) .nil)) (.nm 5) (.seq (.loc 3)) .none [5]) .nil))) .nil)) (.cons (.ret (.bl false)) .nil) .nil) heads_is_head_r2)
def heads_is_head_r4 : Ss := (.cons (.ite (.or_ (.cmp .gt (.bcall .len (.cons (.loc 2) .nil)) (.cst (.int 8))) (.cons (.cmp .gt (.bcall .len (.cons (.loc 3) .nil)) (.cst (.int 24))) .nil)) (.cons (.ret (.bl false)) .nil) .nil) heads_is_head_r3)
def heads_is_head_r5 : Ss := (.cons (.asg (.tp (.cons (.nm 1) (.cons (.nm 2) (.cons (.nm 3) .nil)))) (.loc 0)) (.cons (.ite (.or_ (.not_ (.isin (.loc 2) [.tuple])) (.cons (.not_ (.isin (.loc 3) [.tuple])) .nil)) (.cons (.ret (.bl false)) .nil) .nil) heads_is_head_r4))
def heads_is_head_body : Ss := (.cons (.ite (.or_ (.not_ (.isin (.loc 0) [.tuple])) (.cons (.cmp .ne (.bcall .len (.cons (.loc 0) .nil)) (.int 3)) (.cons (.not_ (.call 76 (.cons (.idx (.loc 0) (.int 0)) .nil))) .nil))) (.cons (.ret (.bl false)) .nil) .nil) heads_is_head_r5)
/- 0 thing, 1 age, 2 keepers, 3 names, 4 keeper, 5 entry -/
def heads_is_head_fn : Fn := ⟨1, 5, heads_is_head_body⟩
abbrev F_heads_is_head : Nat := 83
/-! ### 105 fractions.common -/
def fractions_common_w1 : Ss := (.cons (.par 0 1 (.loc 1) (.bin .mod (.loc 0) (.loc 1))) .nil)
def fractions_common_r2 : Ss := (.cons (.ret (.loc 0)) .nil)
def fractions_common_body : Ss := (.cons (.whl (.cmp .ne (.loc 1) (.int 0)) fractions_common_w1) fractions_common_r2)
/- 0 one, 1 other -/
def fractions_common_fn : Fn := ⟨2, 0, fractions_common_body⟩
abbrev F_fractions_common : Nat := 105
/-! ### 106 fractions.fraction -/
def fractions_fraction_body : Ss := (.cons (.asg (.nm 2) (.call 105 (.cons (.bcall .abs (.cons (.loc 0) .nil)) (.cons (.loc 1) .nil)))) (.cons (.ret (.tup (.cons (.bin .fdiv (.loc 0) (.loc 2)) (.cons (.bin .fdiv (.loc 1) (.loc 2)) .nil)))) .nil))
/- 0 top, 1 bottom, 2 by -/
def fractions_fraction_fn : Fn := ⟨2, 1, fractions_fraction_body⟩
abbrev F_fractions_fraction : Nat := 106
/-! ### 107 fractions.summed -/
def fractions_summed_f1 : Ss := (.cons (.asg (.nm 1) (.call 106 (.cons (.bin .add (.bin .mul (.idx (.loc 1) (.int 0)) (.loc 3)) (.bin .mul (.loc 2) (.idx (.loc 1) (.int 1)))) (.cons (.bin .mul (.idx (.loc 1) (.int 1)) (.loc 3)) .nil)))) .nil)
def fractions_summed_r2 : Ss := (.cons (.ret (.loc 1)) .nil)
def fractions_summed_body : Ss := (.cons (.asg (.nm 1) (.tup (.cons (.int 0) (.cons (.int 1) .nil)))) (.cons (.for_ (.tp (.cons (.nm 2) (.cons (.nm 3) .nil))) (.seq (.loc 0)) fractions_summed_f1) fractions_summed_r2))
/- 0 some, 1 total, 2 top, 3 bottom -/
def fractions_summed_fn : Fn := ⟨1, 3, fractions_summed_body⟩
abbrev F_fractions_summed : Nat := 107
/-! ### 108 fractions.is_above -/
def fractions_is_above_body : Ss := (.cons (.ret (.cmp .gt (.bin .mul (.idx (.loc 0) (.int 0)) (.idx (.loc 1) (.int 1))) (.bin .mul (.idx (.loc 1) (.int 0)) (.idx (.loc 0) (.int 1))))) .nil)
/- 0 one, 1 other -/
def fractions_is_above_fn : Fn := ⟨2, 0, fractions_is_above_body⟩
abbrev F_fractions_is_above : Nat := 108
/-! ### 148 names.seals_of -/
def names_seals_of_body : Ss := (.cons (.asg (.nm 2) (.lc (.tup (.cons (.idx (.loc 3) (.int 3)) (.cons (.loc 3) .nil))) (.nm 3) (.seq (.idx (.loc 0) (.int 2))) (.some (.and_ (.cmp .eq (.idx (.loc 3) (.int 1)) (.int 2)) (.cons (.cmp .eq (.idx (.loc 3) (.int 2)) (.loc 1)) .nil))) [3])) (.cons (.ret (.lc (.loc 3) (.tp (.cons (.nm 4) (.cons (.nm 3) .nil))) (.seq (.bcall .sorted (.cons (.loc 2) .nil))) .none [4, 3])) .nil))
/- 0 head, 1 stem, 2 rows, 3 entry, 4 turn -/
def names_seals_of_fn : Fn := ⟨2, 3, names_seals_of_body⟩
abbrev F_names_seals_of : Nat := 148
/-! ### 152 histories.grafted -/
def histories_grafted_f1 : Ss := (.cons (.ite (.and_ (.cmp .eq (.loc 7) (.int 2)) (.cons (.cmp .eq (.loc 8) (.loc 4)) (.cons (.cmp .le (.loc 9) (.idx (.loc 3) (.int 3))) .nil))) (.cons (.ex (.bmeth .append (.loc 5) (.cons (.tup (.cons (.loc 6) (.cons (.int 2) (.cons (.loc 1) (.cons (.loc 9) (.cons (.loc 10) .nil)))))) .nil))) .nil) (.cons (.ite (.cmp .eq (.loc 6) (.loc 1)) (.cons (.ex (.bmeth .append (.loc 5) (.cons (.tup (.cons (.loc 6) (.cons (.int 1) (.cons (.loc 8) (.cons (.idx (.call 80 (.cons (.loc 2) (.cons (.loc 4) .nil))) (.int 3)) (.cons (.loc 10) .nil)))))) .nil))) .nil) (.cons (.ite (.cmp .eq (.loc 6) (.loc 4)) (.cons (.ex (.bmeth .append (.loc 5) (.cons (.tup (.cons (.loc 6) (.cons (.int 1) (.cons (.loc 8) (.cons (.idx (.loc 3) (.int 0)) (.cons (.loc 10) .nil)))))) .nil))) .nil) (.cons (.ex (.bmeth .append (.loc 5) (.cons (.tup (.cons (.loc 6) (.cons (.loc 7) (.cons (.loc 8) (.cons (.loc 9) (.cons (.loc 10) .nil)))))) .nil))) .nil)) .nil)) .nil)) .nil)
def histories_grafted_r2 : Ss := (.cons (.ret (.tup (.cons (.idx (.loc 0) (.int 0)) (.cons (.idx (.loc 0) (.int 1)) (.cons (.bcall .tuple (.cons (.loc 5) .nil)) .nil))))) .nil)
def histories_grafted_body : Ss := (.cons (.asg (.nm 2) (.idx (.loc 0) (.int 2))) (.cons (.asg (.nm 3) (.call 80 (.cons (.loc 2) (.cons (.idx (.call 80 (.cons (.loc 2) (.cons (.loc 1) .nil))) (.int 3)) .nil)))) (.cons (.asg (.nm 4) (.idx (.loc 3) (.int 2))) (.cons (.asg (.nm 5) (.lst .nil)) (.cons (.for_ (.tp (.cons (.nm 6) (.cons (.nm 7) (.cons (.nm 8) (.cons (.nm 9) (.cons (.nm 10) .nil)))))) (.seq (.loc 2)) histories_grafted_f1) histories_grafted_r2)))))
/- 0 head, 1 stem, 2 names, 3 origin, 4 other, 5 rows, 6 name, 7 kind, 8 first, 9 second, 10 tag -/
def histories_grafted_fn : Fn := ⟨2, 9, histories_grafted_body⟩
abbrev F_histories_grafted : Nat := 152
/-! ### 160 histories.history_in -/
def histories_history_in_w1 : Ss := (.cons (.asg (.nm 3) (.bin .add (.lc (.idx (.loc 5) (.int 0)) (.nm 5) (.seq (.call 148 (.cons (.loc 0) (.cons (.idx (.loc 4) (.int 2)) .nil)))) (.some (.cmp .le (.idx (.loc 5) (.int 3)) (.idx (.loc 4) (.int 3)))) [5]) (.loc 3))) (.cons (.asg (.nm 4) (.call 80 (.cons (.loc 2) (.cons (.idx (.call 80 (.cons (.loc 2) (.cons (.idx (.loc 4) (.int 2)) .nil))) (.int 3)) .nil)))) .nil))
def histories_history_in_r2 : Ss := (.cons (.ret (.loc 3)) .nil)
def histories_history_in_body : Ss := (.cons (.asg (.nm 2) (.idx (.loc 0) (.int 2))) (.cons (.asg (.nm 3) (.lc (.idx (.loc 5) (.int 0)) (.nm 5) (.seq (.call 148 (.cons (.loc 0) (.cons (.loc 1) .nil)))) .none [5])) (.cons (.asg (.nm 4) (.call 80 (.cons (.loc 2) (.cons (.idx (.call 80 (.cons (.loc 2) (.cons (.loc 1) .nil))) (.int 3)) .nil)))) (.cons (.whl (.isN (.loc 4) true) histories_history_in_w1) histories_history_in_r2))))
/- 0 head, 1 stem, 2 names, 3 found, 4 origin, 5 entry -/
def histories_history_in_fn : Fn := ⟨2, 4, histories_history_in_body⟩
abbrev F_histories_history_in : Nat := 160
/-! ### 1000 law.law_signs:9b9433ff -/
def l_signs_body : Ss := (.cons (.asg (.nm 0) (.str [32, 33, 34, 35, 36, 38, 39, 40, 41, 42, 43, 44, 45, 46, 47, 48, 49, 50, 51, 52, 53, 54, 55, 56, 57, 58, 59, 60, 61, 62, 63, 64, 65, 66, 67, 68, 69, 70, 71, 72, 73, 74, 75, 76, 77, 78, 79, 80, 81, 82, 83, 84, 85, 86, 87, 88, 89, 90, 91, 92, 93, 94, 95, 96])) (.cons (.ret (.bin .add (.loc 0) (.str [97, 98, 99, 100, 101, 102, 103, 104, 105, 106, 107, 108, 109, 110, 111, 112, 113, 114, 115, 116, 117, 118, 119, 120, 121, 122, 123, 124, 125, 126]))) .nil))
/- 0 law_some -/
def l_signs_fn : Fn := ⟨0, 1, l_signs_body⟩
abbrev F_l_signs : Nat := 1000
/-! ### 1001 law.law_cell_at:a865d6cb -/
def l_cell_at_r1 : Ss := (.cons (.ret (.int 0)) .nil)
def l_cell_at_body : Ss := (.cons (.ite (.cmp .lt (.loc 1) (.bcall .len (.cons (.loc 0) .nil))) (.cons (.ret (.idx (.loc 0) (.loc 1))) .nil) .nil) l_cell_at_r1)
/- 0 law_script, 1 law_k -/
def l_cell_at_fn : Fn := ⟨2, 0, l_cell_at_body⟩
abbrev F_l_cell_at : Nat := 1001
/-! ### 1002 law.law_numbers:caddd493 -/
def l_numbers_f1 : Ss := (.cons (.ex (.bmeth .append (.loc 2) (.cons (.bin .mod (.loc 3) (.int 5040)) .nil))) (.cons (.asg (.nm 3) (.bin .fdiv (.loc 3) (.int 5040))) .nil))
def l_numbers_r2 : Ss := (.cons (.ret (.loc 2)) .nil)
def l_numbers_f3 : Ss := (.cons (.asg (.nm 3) (.bin .mod (.bin .mul (.bin .add (.bin .add (.loc 3) (.loc 4)) (.int 1)) (.int 48271)) (.int 2147483647))) (.cons (.ex (.bmeth .append (.loc 2) (.cons (.bin .mod (.bin .mul (.loc 3) (.int 69621)) (.int 2147483629)) .nil))) .nil))
def l_numbers_r4 : Ss := (.cons (.ret (.slc (.loc 2) (.some (.int 1)) .none)) .nil)
def l_numbers_r5 : Ss := (.cons (.asg (.nm 3) (.bin .mod (.loc 0) (.int 2147483647))) (.cons (.for_ (.nm 4) (.rng (.bin .add (.loc 1) (.int 1))) l_numbers_f3) l_numbers_r4))
def l_numbers_body : Ss := (.cons (.asg (.nm 2) (.lst .nil)) (.cons (.asg (.nm 3) (.bin .sub (.loc 0) (.bin .pow (.int 10) (.int 18)))) (.cons (.ite (.cmp .ge (.loc 3) (.int 0)) (.cons (.for_ (.nm 4) (.rng (.loc 1)) l_numbers_f1) l_numbers_r2) .nil) l_numbers_r5)))
/- 0 law_cell, 1 law_many, 2 law_found, 3 law_number, 4 law_k -/
def l_numbers_fn : Fn := ⟨2, 3, l_numbers_body⟩
abbrev F_l_numbers : Nat := 1002
/-! ### 1003 law.law_whole:b90a2676 -/
def l_whole_body : Ss := (.cons (.ret (.and_ (.isin (.loc 0) [.int]) (.cons (.not_ (.isin (.loc 0) [.bool])) .nil))) .nil)
/- 0 law_found -/
def l_whole_fn : Fn := ⟨1, 0, l_whole_body⟩
abbrev F_l_whole : Nat := 1003
/-! ### 1004 law.law_thing:c07436ac -/
def l_thing_f1 : Ss := (.cons (.asg (.tp (.cons (.nm 9) (.cons (.nm 1) .nil))) (.call 1004 (.cons (.loc 0) (.cons (.loc 1) (.cons (.bin .sub (.loc 2) (.int 1)) .nil))))) (.cons (.ex (.bmeth .append (.loc 7) (.cons (.loc 9) .nil))) .nil))
def l_thing_r2 : Ss := (.cons (.ret (.tup (.cons (.bcall .tuple (.cons (.loc 7) .nil)) (.cons (.loc 1) .nil)))) .nil)
def l_thing_r3 : Ss := (.cons (.asg (.nm 7) (.lst .nil)) (.cons (.asg (.nm 1) (.bin .add (.loc 1) (.int 1))) (.cons (.for_ (.nm 8) (.rng (.bin .mod (.loc 3) (.int 4))) l_thing_f1) l_thing_r2)))
def l_thing_r4 : Ss := (.cons (.ite (.cmp .eq (.bin .mod (.loc 3) (.int 31)) (.int 7)) (.cons (.ret (.tup (.cons (.bcall .tuple (.cons (.lc (.bin .mod (.bin .mul (.loc 8) (.loc 3)) (.bin .pow (.int 10) (.int 9))) (.nm 8) (.rng (.int 100)) .none [8]) .nil)) (.cons (.bin .add (.loc 1) (.int 1)) .nil)))) .nil) .nil) l_thing_r3)
def l_thing_r5 : Ss := (.cons (.ite (.cmp .eq (.loc 4) (.int 1)) (.cons (.asg (.nm 5) (.idx (.lst (.cons (.bin .mod (.bin .fdiv (.loc 3) (.int 4)) (.int 12)) (.cons (.int 400) .nil))) (.bcall .int (.cons (.cmp .eq (.bin .mod (.loc 3) (.int 29)) (.int 5)) .nil)))) (.cons (.asg (.nm 6) (.lc (.idx (.call 1000 .nil) (.bin .mod (.bin .add (.bin .fdiv (.loc 3) (.int 7)) (.bin .mul (.loc 8) (.bin .add (.int 1) (.bin .mod (.bin .fdiv (.loc 3) (.int 3)) (.int 93))))) (.int 94))) (.nm 8) (.rng (.loc 5)) .none [8])) (.cons (.ret (.tup (.cons (.bmeth .join (.str []) (.cons (.loc 6) .nil)) (.cons (.bin .add (.loc 1) (.int 1)) .nil)))) .nil))) .nil) l_thing_r4)
def l_thing_r6 : Ss := (.cons (.asg (.nm 3) (.bin .fdiv (.loc 3) (.int 3))) (.cons (.ite (.cmp .eq (.loc 4) (.int 0)) (.cons (.ret (.tup (.cons (.idx (.lst (.cons (.bin .mod (.loc 3) (.int 10)) (.cons (.bin .mod (.bin .mul (.loc 3) (.int 7919)) (.bin .pow (.int 10) (.int 9))) (.cons (.int 999999999) .nil)))) (.bin .mod (.loc 3) (.int 3))) (.cons (.bin .add (.loc 1) (.int 1)) .nil)))) .nil) .nil) l_thing_r5))
def l_thing_body : Ss := (.cons (.asg (.nm 3) (.idx (.loc 0) (.bin .mod (.loc 1) (.bcall .len (.cons (.loc 0) .nil))))) (.cons (.asg (.nm 4) (.bin .mod (.loc 3) (.int 3))) (.cons (.ite (.or_ (.cmp .lt (.loc 2) (.int 2)) (.cons (.cmp .ge (.bin .add (.loc 1) (.int 1)) (.bcall .len (.cons (.loc 0) .nil))) .nil)) (.cons (.asg (.nm 4) (.bin .mod (.loc 3) (.int 2))) .nil) .nil) l_thing_r6)))
/- 0 law_numbers_here, 1 law_at, 2 law_deep, 3 law_number, 4 law_kind, 5 law_many, 6 law_signs_here, 7 law_parts, 8 law_k, 9 law_part -/
def l_thing_fn : Fn := ⟨3, 7, l_thing_body⟩
abbrev F_l_thing : Nat := 1004
/-! ### 1005 law.law_words:d0510520 -/
def l_words_f1 : Ss := (.cons (.asg (.nm 1) (.bin .add (.loc 1) (.call 1005 (.cons (.loc 2) .nil)))) .nil)
def l_words_r2 : Ss := (.cons (.ret (.loc 1)) .nil)
def l_words_r3 : Ss := (.cons (.ret (.lst (.cons (.int 0) (.cons (.loc 0) .nil)))) .nil)
def l_words_r4 : Ss := (.cons (.ite (.isin (.loc 0) [.str]) (.cons (.ret (.bin .add (.lst (.cons (.int 1) (.cons (.bcall .len (.cons (.loc 0) .nil)) .nil))) (.lc (.bmeth .sindex (.call 1000 .nil) (.cons (.loc 3) .nil)) (.nm 3) (.seq (.loc 0)) .none [3]))) .nil) .nil) l_words_r3)
def l_words_body : Ss := (.cons (.ite (.isin (.loc 0) [.tuple]) (.cons (.asg (.nm 1) (.lst (.cons (.int 2) (.cons (.bcall .len (.cons (.loc 0) .nil)) .nil)))) (.cons (.for_ (.nm 2) (.seq (.loc 0)) l_words_f1) l_words_r2)) .nil) l_words_r4)
/- 0 law_thing_here, 1 law_words_here, 2 law_part, 3 law_sign -/
def l_words_fn : Fn := ⟨1, 3, l_words_body⟩
abbrev F_l_words : Nat := 1005
/-! ### 1006 law.law_same:db58eb0c -/
def l_same_r1 : Ss := (.cons (.ret (.bcall .all (.cons (.lc (.call 1006 (.cons (.loc 2) (.cons (.loc 3) .nil))) (.tp (.cons (.nm 2) (.cons (.nm 3) .nil))) (.zip (.loc 0) (.loc 1)) .none [2, 3]) .nil))) .nil)
def l_same_r2 : Ss := (.cons (.ret (.and_ (.call 1003 (.cons (.loc 0) .nil)) (.cons (.cmp .eq (.loc 0) (.loc 1)) .nil))) .nil)
def l_same_r3 : Ss := (.cons (.ite (.isin (.loc 1) [.str]) (.cons (.ret (.and_ (.isin (.loc 0) [.str]) (.cons (.cmp .eq (.loc 0) (.loc 1)) .nil))) .nil) .nil) l_same_r2)
def l_same_body : Ss := (.cons (.ite (.isin (.loc 1) [.tuple]) (.cons (.ite (.or_ (.not_ (.isin (.loc 0) [.tuple])) (.cons (.cmp .ne (.bcall .len (.cons (.loc 0) .nil)) (.bcall .len (.cons (.loc 1) .nil))) .nil)) (.cons (.ret (.bl false)) .nil) .nil) l_same_r1) .nil) l_same_r3)
/- 0 law_found, 1 law_due, 2 law_one, 3 law_other -/
def l_same_fn : Fn := ⟨2, 2, l_same_body⟩
abbrev F_l_same : Nat := 1006
/-! ### 1007 law.law_copied:7bbc7884 -/
def l_copied_r1 : Ss := (.cons (.ret (.loc 0)) .nil)
def l_copied_r2 : Ss := (.cons (.ite (.isin (.loc 0) [.tuple]) (.cons (.ret (.bcall .tuple (.cons (.lc (.call 1007 (.cons (.loc 1) .nil)) (.nm 1) (.seq (.loc 0)) .none [1]) .nil))) .nil) .nil) l_copied_r1)
def l_copied_body : Ss := (.cons (.ite (.isin (.loc 0) [.list]) (.cons (.ret (.lc (.call 1007 (.cons (.loc 1) .nil)) (.nm 1) (.seq (.loc 0)) .none [1])) .nil) .nil) l_copied_r2)
/- 0 law_thing, 1 law_part -/
def l_copied_fn : Fn := ⟨1, 1, l_copied_body⟩
abbrev F_l_copied : Nat := 1007
/-! ### 1010 law.law_whole_from:ee89c0b8 -/
def l_whole_from_body : Ss := (.cons (.ret (.and_ (.isin (.loc 0) [.int]) (.cons (.not_ (.isin (.loc 0) [.bool])) (.cons (.cmp .le (.loc 1) (.loc 0)) (.cons (.cmp .le (.loc 0) (.loc 2)) .nil))))) .nil)
/- 0 law_thing, 1 law_least, 2 law_most -/
def l_whole_from_fn : Fn := ⟨3, 0, l_whole_from_body⟩
abbrev F_l_whole_from : Nat := 1010
/-! ### 1011 law.law_is_name:8c9ac435 -/
def l_is_name_r1 : Ss := (.cons (.ret (.cmp .eq (.lc (.loc 1) (.nm 1) (.seq (.loc 0)) (.some (.cmp .nin (.loc 1) (.str [97, 98, 99, 100, 101, 102, 103, 104, 105, 106, 107, 108, 109, 110, 111, 112, 113, 114, 115, 116, 117, 118, 119, 120, 121, 122, 48, 49, 50, 51, 52, 53, 54, 55, 56, 57]))) [1]) (.lst .nil))) .nil)
def l_is_name_body : Ss := (.cons (.ite (.or_ (.not_ (.isin (.loc 0) [.str])) (.cons (.cmp .lt (.bcall .len (.cons (.loc 0) .nil)) (.int 1)) (.cons (.cmp .gt (.bcall .len (.cons (.loc 0) .nil)) (.int 8)) .nil))) (.cons (.ret (.bl false)) .nil) .nil) l_is_name_r1)
/- 0 law_thing, 1 law_sign -/
def l_is_name_fn : Fn := ⟨1, 1, l_is_name_body⟩
abbrev F_l_is_name : Nat := 1011
/-! ### 1012 law.law_tag:52808bab -/
def l_tag_r1 : Ss := (.cons (.ret (.loc 1)) .nil)
def l_tag_r2 : Ss := (.cons (.ite (.cmp .eq (.bin .mod (.loc 0) (.int 7)) (.int 5)) (.cons (.asg (.nm 1) (.tup (.cons (.bin .add (.int 1) (.bin .mod (.loc 0) (.int 9))) (.cons (.bin .mod (.bin .fdiv (.loc 0) (.int 9)) (.int 2)) (.cons (.bin .mod (.bin .fdiv (.loc 0) (.int 18)) (.int 997)) .nil))))) .nil) .nil) l_tag_r1)
def l_tag_body : Ss := (.cons (.asg (.nm 1) (.tup (.cons (.bin .add (.int 1) (.bin .mod (.loc 0) (.int 999999))) (.cons (.bin .mod (.bin .mul (.loc 0) (.int 48271)) (.bin .pow (.int 10) (.int 9))) (.cons (.bin .mod (.bin .fdiv (.loc 0) (.int 5)) (.int 997)) .nil))))) (.cons (.ite (.cmp .eq (.bin .mod (.loc 0) (.int 7)) (.int 3)) (.cons (.asg (.nm 1) (.tup (.cons (.int 999999) (.cons (.int 999999999) (.cons (.idx (.lst (.cons (.int 996) (.cons (.int 0) .nil))) (.bin .mod (.bin .fdiv (.loc 0) (.int 7)) (.int 2))) .nil))))) .nil) .nil) l_tag_r2))
/- 0 law_number, 1 law_found -/
def l_tag_fn : Fn := ⟨1, 1, l_tag_body⟩
abbrev F_l_tag : Nat := 1012
/-! ### 1013 law.law_name:5219d320 -/
def l_name_body : Ss := (.cons (.asg (.nm 1) (.bin .add (.int 1) (.bin .mod (.loc 0) (.int 8)))) (.cons (.asg (.nm 2) (.str [97, 98, 99, 100, 101, 102, 103, 104, 105, 106, 107, 108, 109, 110, 111, 112, 113, 114, 115, 116, 117, 118, 119, 120, 121, 122, 48, 49, 50, 51, 52, 53, 54, 55, 56, 57])) (.cons (.ret (.bmeth .join (.str []) (.cons (.lc (.idx (.loc 2) (.bin .mod (.bin .add (.bin .fdiv (.loc 0) (.int 8)) (.bin .mul (.loc 3) (.bin .mod (.bin .fdiv (.loc 0) (.int 288)) (.int 36)))) (.int 36))) (.nm 3) (.rng (.loc 1)) .none [3]) .nil))) .nil)))
/- 0 law_number, 1 law_size, 2 law_signs_here, 3 law_k -/
def l_name_fn : Fn := ⟨1, 3, l_name_body⟩
abbrev F_l_name : Nat := 1013
/-! ### 1014 law.law_block:f2192e17 -/
def l_block_f1 : Ss := (.cons (.asg (.ix (.loc 3) (.call 1013 (.cons (.loc 4) .nil))) (.tup (.cons (.bin .add (.int 1) (.bin .mod (.bin .fdiv (.loc 4) (.int 7)) (.int 2))) (.cons (.call 1012 (.cons (.bin .mod (.bin .mul (.loc 4) (.int 31)) (.int 2147483647)) .nil)) .nil)))) .nil)
def l_block_r2 : Ss := (.cons (.ret (.tup (.cons (.int 2) (.cons (.bcall .tuple (.cons (.lc (.bin .add (.tup (.cons (.loc 5) .nil)) (.idx (.loc 3) (.loc 5))) (.nm 5) (.seq (.bcall .sorted (.cons (.loc 3) .nil))) .none [5]) .nil)) .nil)))) .nil)
def l_block_r3 : Ss := (.cons (.asg (.nm 3) (.dic .nil .nil)) (.cons (.for_ (.nm 4) (.seq (.slc (.loc 0) (.some (.int 2)) (.some (.bin .add (.int 2) (.bin .mod (.idx (.loc 0) (.int 1)) (.int 17)))))) l_block_f1) l_block_r2))
def l_block_r4 : Ss := (.cons (.ite (.cmp .eq (.bin .mod (.idx (.loc 0) (.int 0)) (.int 3)) (.int 1)) (.cons (.asg (.nm 1) (.bin .add (.int 1) (.bin .mod (.idx (.loc 0) (.int 1)) (.int 9)))) (.cons (.asg (.nm 2) (.bcall .max (.cons (.bcall .int (.cons (.cmp .gt (.loc 1) (.int 1)) .nil)) (.cons (.bin .mod (.idx (.loc 0) (.int 2)) (.int 9)) .nil)))) (.cons (.ret (.tup (.cons (.int 1) (.cons (.loc 1) (.cons (.bcall .tuple (.cons (.lc (.call 1012 (.cons (.loc 4) .nil)) (.nm 4) (.seq (.slc (.loc 0) (.some (.int 3)) (.some (.bin .add (.int 3) (.loc 2))))) .none [4]) .nil)) .nil))))) .nil))) .nil) l_block_r3)
def l_block_body : Ss := (.cons (.ite (.cmp .eq (.bin .mod (.idx (.loc 0) (.int 0)) (.int 3)) (.int 0)) (.cons (.ret (.tup (.cons (.int 0) (.cons (.bmeth .join (.str []) (.cons (.lc (.idx (.call 1000 .nil) (.bin .mod (.loc 4) (.int 94))) (.nm 4) (.seq (.slc (.loc 0) (.some (.int 2)) (.some (.bin .add (.int 3) (.bin .mod (.idx (.loc 0) (.int 1)) (.int 8)))))) .none [4]) .nil)) .nil)))) .nil) .nil) l_block_r4)
/- 0 law_some, 1 law_level, 2 law_many, 3 law_entries, 4 law_number, 5 law_name_here -/
def l_block_fn : Fn := ⟨1, 5, l_block_body⟩
abbrev F_l_block : Nat := 1014
/-! ### 1015 law.law_told:e568b895 -/
def l_told_f1 : Ss := (.cons (.asg (.nm 1) (.bin .add (.bin .add (.loc 1) (.lc (.bmeth .sindex (.call 1000 .nil) (.cons (.loc 5) .nil)) (.nm 5) (.seq (.loc 2)) .none [5])) (.lst (.cons (.loc 3) (.cons (.idx (.loc 4) (.int 2)) .nil))))) .nil)
def l_told_r2 : Ss := (.cons (.ret (.loc 1)) .nil)
def l_told_r3 : Ss := (.cons (.asg (.nm 1) (.lst .nil)) (.cons (.for_ (.tp (.cons (.nm 2) (.cons (.nm 3) (.cons (.nm 4) .nil)))) (.seq (.idx (.loc 0) (.int 1))) l_told_f1) l_told_r2))
def l_told_r4 : Ss := (.cons (.ite (.cmp .eq (.idx (.loc 0) (.int 0)) (.int 1)) (.cons (.ret (.bin .add (.lst (.cons (.idx (.loc 0) (.int 1)) .nil)) (.lc (.idx (.loc 4) (.int 2)) (.nm 4) (.seq (.idx (.loc 0) (.int 2))) .none [4]))) .nil) .nil) l_told_r3)
def l_told_body : Ss := (.cons (.ite (.cmp .eq (.idx (.loc 0) (.int 0)) (.int 0)) (.cons (.ret (.lc (.bmeth .sindex (.call 1000 .nil) (.cons (.loc 5) .nil)) (.nm 5) (.seq (.idx (.loc 0) (.int 1))) .none [5])) .nil) .nil) l_told_r4)
/- 0 law_block_here, 1 law_told_here, 2 law_name_here, 3 law_kind, 4 law_tag_here, 5 law_sign -/
def l_told_fn : Fn := ⟨1, 5, l_told_body⟩
abbrev F_l_told : Nat := 1015
/-! ### 1016 law.law_sum:cf803932 -/
def l_sum_f1 : Ss := (.cons (.asg (.nm 1) (.bin .mod (.bin .add (.bin .add (.bin .mul (.int 31) (.loc 1)) (.loc 2)) (.int 1)) (.int 997))) .nil)
def l_sum_r2 : Ss := (.cons (.ret (.loc 1)) .nil)
def l_sum_body : Ss := (.cons (.asg (.nm 1) (.bin .add (.int 1) (.idx (.loc 0) (.int 0)))) (.cons (.for_ (.nm 2) (.seq (.call 1015 (.cons (.loc 0) .nil))) l_sum_f1) l_sum_r2))
/- 0 law_block_here, 1 law_found, 2 law_number -/
def l_sum_fn : Fn := ⟨1, 2, l_sum_body⟩
abbrev F_l_sum : Nat := 1016
/-! ### 1053 law.law_row:3e4f298f -/
def l_row_2_f1 : Ss := (.cons (.ite (.chain .le .lt (.int 0) (.loc 0) (.bin .pow (.int 10) (.int 18))) (.cons (.asg (.nm 4) (.bin .mod (.bin .add (.bin .add (.bin .mul (.bin .mod (.loc 0) (.int 2147483629)) (.int 48271)) (.bin .mul (.bin .mul (.loc 3) (.loc 3)) (.int 69621))) (.int 7)) (.int 2147483647))) (.cons (.ex (.bmeth .append (.loc 2) (.cons (.bin .mod (.bin .fdiv (.bin .mod (.bin .mul (.loc 4) (.bin .add (.bin .mod (.loc 4) (.int 65521)) (.int 3))) (.int 2147483629)) (.int 5)) (.int 60)) .nil))) .nil)) (.cons (.ex (.bmeth .append (.loc 2) (.cons (.bin .mod (.loc 0) (.int 60)) .nil))) (.cons (.asg (.nm 0) (.bin .fdiv (.loc 0) (.int 60))) .nil))) .nil)
def l_row_2_r2 : Ss := (.cons (.ret (.loc 2)) .nil)
def l_row_2_body : Ss := (.cons (.asg (.nm 2) (.lst .nil)) (.cons (.for_ (.nm 3) (.rng (.loc 1)) l_row_2_f1) l_row_2_r2))
/- 0 law_cell, 1 law_many, 2 law_found, 3 law_k, 4 law_number -/
def l_row_2_fn : Fn := ⟨2, 3, l_row_2_body⟩
abbrev F_l_row_2 : Nat := 1053
/-! ### 1054 law.law_common:c7dc3ee7 -/
def l_common_w1 : Ss := (.cons (.par 0 1 (.loc 1) (.bin .mod (.loc 0) (.loc 1))) .nil)
def l_common_r2 : Ss := (.cons (.ret (.loc 0)) .nil)
def l_common_body : Ss := (.cons (.whl (.cmp .ne (.loc 1) (.int 0)) l_common_w1) l_common_r2)
/- 0 law_one, 1 law_other -/
def l_common_fn : Fn := ⟨2, 0, l_common_body⟩
abbrev F_l_common : Nat := 1054
/-! ### 1055 law.law_names:943b2b7d -/
def l_names_f1 : Ss := (.cons (.asg (.nm 7) (.bin .add (.slc (.loc 3) .none (.some (.loc 4))) (.idx (.loc 2) (.bin .mod (.bin .add (.idx (.loc 0) (.int 8)) (.loc 6)) (.int 36))))) (.cons (.asg (.nm 7) (.bin .add (.loc 7) (.slc (.loc 3) (.some (.bin .add (.loc 4) (.int 1))) .none))) (.cons (.ex (.bmeth .append (.loc 5) (.cons (.idx (.lst (.cons (.loc 7) (.cons (.slc (.loc 7) .none (.some (.bin .add (.loc 4) (.int 1)))) (.cons (.bin .add (.loc 7) (.idx (.loc 2) (.loc 6))) .nil)))) (.bin .mod (.bin .add (.idx (.loc 0) (.int 9)) (.loc 6)) (.int 3))) .nil))) .nil)))
def l_names_r2 : Ss := (.cons (.ret (.loc 5)) .nil)
def l_names_body : Ss := (.cons (.asg (.nm 2) (.str [97, 98, 99, 100, 101, 102, 103, 104, 105, 106, 107, 108, 109, 110, 111, 112, 113, 114, 115, 116, 117, 118, 119, 120, 121, 122, 48, 49, 50, 51, 52, 53, 54, 55, 56, 57])) (.cons (.asg (.nm 3) (.bmeth .join (.str []) (.cons (.lc (.idx (.loc 2) (.bin .mod (.idx (.loc 0) (.loc 6)) (.int 36))) (.nm 6) (.rng (.int 7)) .none [6]) .nil))) (.cons (.asg (.nm 4) (.bin .mod (.idx (.loc 0) (.int 7)) (.int 7))) (.cons (.asg (.nm 5) (.lst .nil)) (.cons (.for_ (.nm 6) (.rng (.loc 1)) l_names_f1) l_names_r2)))))
/- 0 law_row_here, 1 law_many, 2 law_signs, 3 law_word, 4 law_at, 5 law_found, 6 law_k, 7 law_one -/
def l_names_fn : Fn := ⟨2, 6, l_names_body⟩
abbrev F_l_names : Nat := 1055
/-! ### 1066 law.law_head:f41065a6 -/
def l_head_2_r1 : Ss := (.cons (.ex (.bmeth .append (.loc 3) (.cons (.tup (.cons (.idx (.loc 1) (.bin .add (.bcall .len (.cons (.loc 3) .nil)) (.bcall .len (.cons (.loc 4) .nil)))) (.cons (.int 1) (.cons (.bin .add (.str [107]) (.bcall .str (.cons (.bin .mod (.loc 7) (.int 2)) .nil))) (.cons (.loc 9) (.cons (.loc 8) .nil)))))) .nil))) .nil)
def l_head_2_f2 : Ss := (.cons (.asg (.nm 6) (.bin .mod (.idx (.loc 2) (.bin .add (.int 1) (.bin .mul (.int 2) (.loc 5)))) (.int 3))) (.cons (.asg (.nm 7) (.idx (.loc 2) (.bin .add (.int 2) (.bin .mul (.int 2) (.loc 5))))) (.cons (.asg (.nm 8) (.tup (.cons (.bin .add (.int 1) (.idx (.loc 2) (.bin .add (.int 1) (.bin .mul (.int 2) (.loc 5))))) (.cons (.loc 7) (.cons (.bin .mod (.bin .mul (.int 31) (.loc 7)) (.int 997)) .nil))))) (.cons (.ite (.or_ (.cmp .eq (.loc 3) (.lst .nil)) (.cons (.cmp .eq (.loc 6) (.int 2)) .nil)) (.cons (.asg (.nm 9) (.str [])) (.cons (.ite (.and_ (.cmp .ne (.loc 4) (.lst .nil)) (.cons (.cmp .gt (.bin .mod (.loc 7) (.int 4)) (.int 0)) .nil)) (.cons (.asg (.nm 9) (.idx (.idx (.loc 4) (.bin .mod (.bin .fdiv (.loc 7) (.int 4)) (.bcall .len (.cons (.loc 4) .nil)))) (.int 0))) .nil) .nil) l_head_2_r1)) (.cons (.asg (.nm 10) (.idx (.idx (.loc 3) (.bin .mod (.loc 7) (.bcall .len (.cons (.loc 3) .nil)))) (.int 0))) (.cons (.ex (.bmeth .append (.loc 4) (.cons (.tup (.cons (.idx (.loc 1) (.bin .add (.bcall .len (.cons (.loc 3) .nil)) (.bcall .len (.cons (.loc 4) .nil)))) (.cons (.int 2) (.cons (.loc 10) (.cons (.bin .add (.bin .add (.int 1) (.loc 5)) (.bin .mul (.idx (.loc 2) (.int 50)) (.bin .pow (.int 10) (.int 7)))) (.cons (.loc 8) .nil)))))) .nil))) .nil))) .nil))))
def l_head_2_r3 : Ss := (.cons (.ret (.tup (.cons (.idx (.loc 2) (.int 51)) (.cons (.tup (.cons (.tup (.cons (.str [107, 48]) (.cons (.int 5) .nil))) (.cons (.tup (.cons (.str [107, 49]) (.cons (.idx (.loc 2) (.int 52)) .nil))) .nil))) (.cons (.bcall .tuple (.cons (.bcall .sorted (.cons (.bin .add (.loc 3) (.loc 4)) .nil)) .nil)) .nil))))) .nil)
def l_head_2_body : Ss := (.cons (.asg (.nm 2) (.call 1053 (.cons (.call 1001 (.cons (.loc 0) (.cons (.int 1) .nil))) (.cons (.int 60) .nil)))) (.cons (.asg (.nm 3) (.lst .nil)) (.cons (.asg (.nm 4) (.lst .nil)) (.cons (.for_ (.nm 5) (.rng (.bin .mod (.idx (.loc 2) (.int 0)) (.int 20))) l_head_2_f2) l_head_2_r3))))
/- 0 law_script, 1 law_names_here, 2 law_row_here, 3 law_stems, 4 law_seals, 5 law_k, 6 law_way, 7 law_at, 8 law_tag, 9 law_origin, 10 law_stem -/
def l_head_2_fn : Fn := ⟨2, 9, l_head_2_body⟩
abbrev F_l_head_2 : Nat := 1066
/-! ### 1113 law.law_history:a86ae3837 -/
def l_history_r1 : Ss := (.cons (.asg (.nm 4) (.idx (.lc (.idx (.loc 6) (.int 2)) (.nm 6) (.seq (.idx (.loc 0) (.int 2))) (.some (.cmp .eq (.idx (.loc 6) (.int 0)) (.loc 2))) [6]) (.int 0))) (.cons (.asg (.nm 5) (.call 1113 (.cons (.loc 0) (.cons (.loc 4) .nil)))) (.cons (.ret (.bin .add (.slc (.loc 5) .none (.some (.bin .add (.bmeth .lindex (.loc 5) (.cons (.loc 2) .nil)) (.int 1)))) (.lc (.loc 8) (.tp (.cons (.nm 7) (.cons (.nm 8) .nil))) (.seq (.loc 3)) .none [7, 8]))) .nil)))
def l_history_body : Ss := (.cons (.asg (.nm 2) (.idx (.lc (.idx (.loc 6) (.int 3)) (.nm 6) (.seq (.idx (.loc 0) (.int 2))) (.some (.cmp .eq (.idx (.loc 6) (.int 0)) (.loc 1))) [6]) (.int 0))) (.cons (.asg (.nm 3) (.bcall .sorted (.cons (.lc (.tup (.cons (.idx (.loc 6) (.int 3)) (.cons (.idx (.loc 6) (.int 0)) .nil))) (.nm 6) (.seq (.idx (.loc 0) (.int 2))) (.some (.and_ (.cmp .eq (.idx (.loc 6) (.int 1)) (.int 2)) (.cons (.cmp .eq (.idx (.loc 6) (.int 2)) (.loc 1)) .nil))) [6]) .nil))) (.cons (.ite (.cmp .eq (.loc 2) (.str [])) (.cons (.ret (.lc (.loc 8) (.tp (.cons (.nm 7) (.cons (.nm 8) .nil))) (.seq (.loc 3)) .none [7, 8])) .nil) .nil) l_history_r1)))
/- 0 law_head_here, 1 law_stem, 2 law_origin, 3 law_own, 4 law_other, 5 law_ahead, 6 law_entry, 7 law_turn, 8 law_name -/
def l_history_fn : Fn := ⟨2, 7, l_history_body⟩
abbrev F_l_history : Nat := 1113
/-- own exceptions stand below StemError, that below ValueError -/
def supE (k j : Nat) : Bool := Nat.beq k j || (Nat.beq j 0 || (Nat.beq j 90 || Nat.beq j 91))
def gfn (f : Nat) : Option Fn := (bif Nat.ble f 82 then (bif Nat.ble f 19 then (bif Nat.ble f 6 then (bif Nat.ble f 2 then (bif Nat.ble f 0 then (bif Nat.beq f 0 then some signs_number_of_fn else none) else (bif Nat.ble f 1 then (bif Nat.beq f 1 then some signs_sign_of_fn else none) else (bif Nat.beq f 2 then some signs_is_text_fn else none))) else (bif Nat.ble f 4 then (bif Nat.ble f 3 then (bif Nat.beq f 3 then some signs_numbers_of_fn else none) else (bif Nat.beq f 4 then some things_is_number_fn else none)) else (bif Nat.ble f 5 then (bif Nat.beq f 5 then some things_is_within_fn else none) else (bif Nat.beq f 6 then some things_is_thing_fn else none)))) else (bif Nat.ble f 9 then (bif Nat.ble f 7 then (bif Nat.beq f 7 then some things_words_of_fn else none) else (bif Nat.ble f 8 then (bif Nat.beq f 8 then some things_text_at_fn else none) else (bif Nat.beq f 9 then some things_thing_at_fn else none))) else (bif Nat.ble f 17 then (bif Nat.ble f 10 then (bif Nat.beq f 10 then some things_thing_of_fn else none) else (bif Nat.beq f 17 then some blocks_is_name_fn else none)) else (bif Nat.ble f 18 then (bif Nat.beq f 18 then some blocks_is_tag_fn else none) else (bif Nat.beq f 19 then some blocks_is_row_fn else none))))) else (bif Nat.ble f 26 then (bif Nat.ble f 22 then (bif Nat.ble f 20 then (bif Nat.beq f 20 then some blocks_is_entry_fn else none) else (bif Nat.ble f 21 then (bif Nat.beq f 21 then some blocks_is_folder_fn else none) else (bif Nat.beq f 22 then some blocks_is_block_fn else none))) else (bif Nat.ble f 24 then (bif Nat.ble f 23 then (bif Nat.beq f 23 then some blocks_told_of_fn else none) else (bif Nat.beq f 24 then some blocks_sum_of_fn else none)) else (bif Nat.ble f 25 then (bif Nat.beq f 25 then some blocks_size_of_fn else none) else (bif Nat.beq f 26 then some blocks_tags_in_fn else none)))) else (bif Nat.ble f 78 then (bif Nat.ble f 76 then (bif Nat.beq f 76 then some heads_is_count_fn else none) else (bif Nat.ble f 77 then (bif Nat.beq f 77 then some heads_is_rising_fn else none) else (bif Nat.beq f 78 then some heads_is_keeper_fn else none))) else (bif Nat.ble f 80 then (bif Nat.ble f 79 then (bif Nat.beq f 79 then some heads_is_entry_fn else none) else (bif Nat.beq f 80 then some heads_called_fn else none)) else (bif Nat.ble f 81 then (bif Nat.beq f 81 then some heads_turns_fit_fn else none) else (bif Nat.beq f 82 then some heads_leads_right_fn else none)))))) else (bif Nat.ble f 1005 then (bif Nat.ble f 152 then (bif Nat.ble f 106 then (bif Nat.ble f 83 then (bif Nat.beq f 83 then some heads_is_head_fn else none) else (bif Nat.ble f 105 then (bif Nat.beq f 105 then some fractions_common_fn else none) else (bif Nat.beq f 106 then some fractions_fraction_fn else none))) else (bif Nat.ble f 108 then (bif Nat.ble f 107 then (bif Nat.beq f 107 then some fractions_summed_fn else none) else (bif Nat.beq f 108 then some fractions_is_above_fn else none)) else (bif Nat.ble f 148 then (bif Nat.beq f 148 then some names_seals_of_fn else none) else (bif Nat.beq f 152 then some histories_grafted_fn else none)))) else (bif Nat.ble f 1001 then (bif Nat.ble f 160 then (bif Nat.beq f 160 then some histories_history_in_fn else none) else (bif Nat.ble f 1000 then (bif Nat.beq f 1000 then some l_signs_fn else none) else (bif Nat.beq f 1001 then some l_cell_at_fn else none))) else (bif Nat.ble f 1003 then (bif Nat.ble f 1002 then (bif Nat.beq f 1002 then some l_numbers_fn else none) else (bif Nat.beq f 1003 then some l_whole_fn else none)) else (bif Nat.ble f 1004 then (bif Nat.beq f 1004 then some l_thing_fn else none) else (bif Nat.beq f 1005 then some l_words_fn else none))))) else (bif Nat.ble f 1014 then (bif Nat.ble f 1010 then (bif Nat.ble f 1006 then (bif Nat.beq f 1006 then some l_same_fn else none) else (bif Nat.ble f 1007 then (bif Nat.beq f 1007 then some l_copied_fn else none) else (bif Nat.beq f 1010 then some l_whole_from_fn else none))) else (bif Nat.ble f 1012 then (bif Nat.ble f 1011 then (bif Nat.beq f 1011 then some l_is_name_fn else none) else (bif Nat.beq f 1012 then some l_tag_fn else none)) else (bif Nat.ble f 1013 then (bif Nat.beq f 1013 then some l_name_fn else none) else (bif Nat.beq f 1014 then some l_block_fn else none)))) else (bif Nat.ble f 1053 then (bif Nat.ble f 1015 then (bif Nat.beq f 1015 then some l_told_fn else none) else (bif Nat.ble f 1016 then (bif Nat.beq f 1016 then some l_sum_fn else none) else (bif Nat.beq f 1053 then some l_row_2_fn else none))) else (bif Nat.ble f 1055 then (bif Nat.ble f 1054 then (bif Nat.beq f 1054 then some l_common_fn else none) else (bif Nat.beq f 1055 then some l_names_fn else none)) else (bif Nat.ble f 1066 then (bif Nat.beq f 1066 then some l_head_2_fn else none) else (bif Nat.beq f 1113 then some l_history_fn else none)))))))
def fnames : List Str := ["number", "rows_kept", "writes_done", "writes_left", "own_tag", "words", "named", "times", "within", "depth", "boards", "taken", "by_sum", "draft", "name", "path", "now", "held", "done_yet", "patrons", "rows", "plain_trees", "ground", "dwelling"]
def fldName (f : Nat) : Str := fnAt fnames f
theorem fldName_inj : ∀ f g, fldName f = fldName g → f = g := fnAt_inj (by decide +kernel)
def fdcE (k f : Nat) : Bool := (bif Nat.beq k 7 then (Nat.beq f 1 || Nat.beq f 2 || Nat.beq f 3) else (bif Nat.beq k 8 then (Nat.beq f 4 || Nat.beq f 5 || Nat.beq f 6 || Nat.beq f 7 || Nat.beq f 8 || Nat.beq f 9) else (bif Nat.beq k 9 then (Nat.beq f 7 || Nat.beq f 8 || Nat.beq f 9 || Nat.beq f 10 || Nat.beq f 11 || Nat.beq f 12 || Nat.beq f 13) else (bif Nat.beq k 15 then (Nat.beq f 10 || Nat.beq f 16 || Nat.beq f 17) else (bif Nat.beq k 19 then (Nat.beq f 18 || Nat.beq f 19 || Nat.beq f 20 || Nat.beq f 21) else (bif Nat.beq k 20 then (Nat.beq f 22 || Nat.beq f 23) else false))))))
def xfdE (k : Nat) : Option Nat := (bif Nat.beq k 6 then some 0 else (bif Nat.beq k 11 then some 14 else (bif Nat.beq k 12 then some 14 else (bif Nat.beq k 13 then some 15 else (bif Nat.beq k 14 then some 14 else (bif Nat.beq k 16 then some 14 else (bif Nat.beq k 17 then some 14 else none)))))))
def xfsE (k : Nat) : Str := match xfdE k with
  | some f => fldName f
  | none => ""
def Pof (L : List Fn) : Pg := ⟨fun f => bif Nat.ble 3000 f then L[f - 3000]? else gfn f, fdcE, supE, xfdE, xfsE⟩
end Gp
namespace LK59
open PySem Mp Gp
/-! ### 3000 _law_entry -/
def law_entry_body : Ss := (.cons (.ret (.idx (.lc (.loc 2) (.nm 2) (.seq (.idx (.loc 0) (.int 2))) (.some (.cmp .eq (.idx (.loc 2) (.int 0)) (.loc 1))) [2]) (.int 0))) .nil)
/- 0 law_head_here, 1 law_name, 2 law_entry_here -/
def law_entry_fn : Fn := ⟨2, 1, law_entry_body⟩
/-! ### 3001 _law_due -/
def law_due_r1 : Ss := (.cons (.ex (.bmeth .append (.loc 5) (.cons (.loc 6) .nil))) .nil)
def law_due_f2 : Ss := (.cons (.ite (.cmp .eq (.loc 6) (.loc 2)) (.cons (.asg (.nm 6) (.tup (.cons (.idx (.loc 6) (.int 0)) (.cons (.int 1) (.cons (.idx (.loc 6) (.int 2)) (.cons (.idx (.loc 4) (.int 3)) (.cons (.idx (.loc 6) (.int 4)) .nil))))))) .nil) (.cons (.ite (.cmp .eq (.loc 6) (.loc 4)) (.cons (.asg (.nm 6) (.tup (.cons (.idx (.loc 6) (.int 0)) (.cons (.int 1) (.cons (.idx (.loc 6) (.int 2)) (.cons (.idx (.loc 3) (.int 0)) (.cons (.idx (.loc 6) (.int 4)) .nil))))))) .nil) (.cons (.ite (.and_ (.cmp .eq (.idx (.loc 6) (.int 1)) (.int 2)) (.cons (.cmp .eq (.idx (.loc 6) (.int 2)) (.idx (.loc 4) (.int 0))) (.cons (.cmp .le (.idx (.loc 6) (.int 3)) (.idx (.loc 3) (.int 3))) .nil))) (.cons (.asg (.nm 6) (.tup (.cons (.idx (.loc 6) (.int 0)) (.cons (.int 2) (.cons (.loc 1) (.cons (.idx (.loc 6) (.int 3)) (.cons (.idx (.loc 6) (.int 4)) .nil))))))) .nil) .nil) .nil)) .nil)) law_due_r1)
def law_due_r3 : Ss := (.cons (.ret (.tup (.cons (.idx (.loc 0) (.int 0)) (.cons (.idx (.loc 0) (.int 1)) (.cons (.bcall .tuple (.cons (.loc 5) .nil)) .nil))))) .nil)
def law_due_body : Ss := (.cons (.asg (.nm 2) (.call 3000 (.cons (.loc 0) (.cons (.loc 1) .nil)))) (.cons (.asg (.nm 3) (.call 3000 (.cons (.loc 0) (.cons (.idx (.loc 2) (.int 3)) .nil)))) (.cons (.asg (.nm 4) (.call 3000 (.cons (.loc 0) (.cons (.idx (.loc 3) (.int 2)) .nil)))) (.cons (.asg (.nm 5) (.lst .nil)) (.cons (.for_ (.nm 6) (.seq (.idx (.loc 0) (.int 2))) law_due_f2) law_due_r3)))))
/- 0 law_head_here, 1 law_stem, 2 law_entry_here, 3 law_origin, 4 law_other, 5 law_found, 6 law_one -/
def law_due_fn : Fn := ⟨2, 5, law_due_body⟩
/-! ### 3002 law -/
def law_f1 : Ss := (.cons (.ite (.cmp .ne (.call 1113 (.cons (.loc 6) (.cons (.loc 7) .nil))) (.call 1113 (.cons (.loc 2) (.cons (.loc 7) .nil)))) (.cons (.ret (.bl false)) .nil) .nil) .nil)
def law_r2 : Ss := (.cons (.ite (.cmp .ne (.call 152 (.cons (.loc 6) (.cons (.idx (.call 3000 (.cons (.loc 2) (.cons (.idx (.call 3000 (.cons (.loc 2) (.cons (.loc 5) .nil))) (.int 3)) .nil))) (.int 2)) .nil))) (.loc 2)) (.cons (.ret (.bl false)) .nil) .nil) .nil)
def law_r3 : Ss := (.cons (.for_ (.nm 7) (.seq (.loc 4)) law_f1) law_r2)
def law_f4 : Ss := (.cons (.asg (.nm 6) (.call 152 (.cons (.loc 2) (.cons (.loc 5) .nil)))) (.cons (.ite (.or_ (.not_ (.call 83 (.cons (.loc 6) .nil))) (.cons (.cmp .ne (.loc 6) (.call 3001 (.cons (.loc 2) (.cons (.loc 5) .nil)))) .nil)) (.cons (.ret (.bl false)) .nil) .nil) law_r3))
def law_r5 : Ss := (.cons (.ret (.cmp .eq (.loc 2) (.loc 3))) .nil)
def law_body : Ss := (.cons (.asg (.nm 1) (.call 1055 (.cons (.call 1053 (.cons (.call 1001 (.cons (.loc 0) (.cons (.int 0) .nil))) (.cons (.int 10) .nil))) (.cons (.int 20) .nil)))) (.cons (.asg (.nm 2) (.call 1066 (.cons (.loc 0) (.cons (.loc 1) .nil)))) (.cons (.asg (.nm 3) (.tup (.cons (.idx (.loc 2) (.int 0)) (.cons (.idx (.loc 2) (.int 1)) (.cons (.bcall .tuple (.cons (.bcall .list (.cons (.idx (.loc 2) (.int 2)) .nil)) .nil)) .nil))))) (.cons (.asg (.nm 4) (.lc (.idx (.loc 8) (.int 0)) (.nm 8) (.seq (.idx (.loc 2) (.int 2))) (.some (.cmp .eq (.idx (.loc 8) (.int 1)) (.int 1))) [8])) (.cons (.for_ (.nm 5) (.seq (.lc (.idx (.loc 8) (.int 0)) (.nm 8) (.seq (.idx (.loc 2) (.int 2))) (.some (.and_ (.cmp .eq (.idx (.loc 8) (.int 1)) (.int 1)) (.cons (.cmp .ne (.idx (.loc 8) (.int 3)) (.str [])) .nil))) [8])) law_f4) law_r5)))))
/- 0 law_script, 1 law_names_here, 2 law_head_here, 3 law_handed, 4 law_stems, 5 law_stem, 6 law_found, 7 law_name, 8 law_entry_here -/
def law_fn : Fn := ⟨1, 8, law_body⟩
def own : List Fn := [law_entry_fn, law_due_fn, law_fn]
def P : Pg := Pof own
def T : Tb := ⟨[(4, "is_number"), (17, "is_name"), (18, "is_tag"), (76, "is_count"), (77, "is_rising"), (78, "is_keeper"), (79, "is_entry"), (80, "called"), (81, "turns_fit"), (82, "leads_right"), (83, "is_head"), (152, "grafted"), (1001, "_law_cell_at"), (1053, "_law_row"), (1055, "_law_names"), (1066, "_law_head"), (1113, "_law_history"), (3000, "_law_entry"), (3001, "_law_due"), (3002, "law")], [], [("BY", .int 997), ("GREATEST_heads", .int 999999999), ("GREATEST_things", .int 999999999), ("MOST_CELLS", .int 999999), ("MOST_KEEPERS", .int 8), ("MOST_NAMED", .int 8), ("MOST_NAMES", .int 24), ("NAMED", k_blocks_NAMED)], [], [], [], [], []⟩
def xsB (k : Nat) : Bool := (T.xnm.lookup k).isSome || (T.xn1.lookup k).isSome
def cx (ca : Nat → Addr) : Cx0 := ⟨P, ⟨ca, fldName, fldName_inj, fdcE⟩, none, xsB⟩
section
open PySem.Spec PyProof.Rows L2
def topS (i : Nat) : Stmt := PySem.Challenge.pw_stemshelf_k59_grafts.main.body.getD i (.Pass ⟨0, 0, 0, 0⟩)
abbrev s_things_is_number : Stmt := topS 2
theorem sc_things_is_number : FnScope ["thing"] ["thing"] (defScope s_things_is_number) := ⟨rfl, rfl, rfl, by decide +kernel, rfl, by decide +kernel, by decide +kernel⟩
theorem ck_things_is_number : ckSs (T.ck ["thing"] (defScope s_things_is_number)) things_is_number_body (defBody s_things_is_number) = true := by decide +kernel
abbrev s_blocks_is_name : Stmt := topS 8
theorem sc_blocks_is_name : FnScope ["thing", "sign"] ["thing"] (defScope s_blocks_is_name) := ⟨rfl, rfl, rfl, by decide +kernel, rfl, by decide +kernel, by decide +kernel⟩
theorem ck_blocks_is_name : ckSs (T.ck ["thing", "sign"] (defScope s_blocks_is_name)) blocks_is_name_body (defBody s_blocks_is_name) = true := by decide +kernel
abbrev s_blocks_is_tag : Stmt := topS 9
theorem sc_blocks_is_tag : FnScope ["thing", "part"] ["thing"] (defScope s_blocks_is_tag) := ⟨rfl, rfl, rfl, by decide +kernel, rfl, by decide +kernel, by decide +kernel⟩
theorem ck_blocks_is_tag : ckSs (T.ck ["thing", "part"] (defScope s_blocks_is_tag)) blocks_is_tag_body (defBody s_blocks_is_tag) = true := by decide +kernel
abbrev s_heads_is_count : Stmt := topS 14
theorem sc_heads_is_count : FnScope ["thing"] ["thing"] (defScope s_heads_is_count) := ⟨rfl, rfl, rfl, by decide +kernel, rfl, by decide +kernel, by decide +kernel⟩
theorem ck_heads_is_count : ckSs (T.ck ["thing"] (defScope s_heads_is_count)) heads_is_count_body (defBody s_heads_is_count) = true := by decide +kernel
abbrev s_heads_is_rising : Stmt := topS 15
theorem sc_heads_is_rising : FnScope ["rows", "k"] ["rows"] (defScope s_heads_is_rising) := ⟨rfl, rfl, rfl, by decide +kernel, rfl, by decide +kernel, by decide +kernel⟩
theorem ck_heads_is_rising : ckSs (T.ck ["rows", "k"] (defScope s_heads_is_rising)) heads_is_rising_body (defBody s_heads_is_rising) = true := by decide +kernel
abbrev s_heads_is_keeper : Stmt := topS 16
theorem sc_heads_is_keeper : FnScope ["thing"] ["thing"] (defScope s_heads_is_keeper) := ⟨rfl, rfl, rfl, by decide +kernel, rfl, by decide +kernel, by decide +kernel⟩
theorem ck_heads_is_keeper : ckSs (T.ck ["thing"] (defScope s_heads_is_keeper)) heads_is_keeper_body (defBody s_heads_is_keeper) = true := by decide +kernel
abbrev s_heads_is_entry : Stmt := topS 17
theorem sc_heads_is_entry : FnScope ["thing"] ["thing"] (defScope s_heads_is_entry) := ⟨rfl, rfl, rfl, by decide +kernel, rfl, by decide +kernel, by decide +kernel⟩
theorem ck_heads_is_entry : ckSs (T.ck ["thing"] (defScope s_heads_is_entry)) heads_is_entry_body (defBody s_heads_is_entry) = true := by decide +kernel
abbrev s_heads_called : Stmt := topS 18
theorem sc_heads_called : FnScope ["names", "name", "entry"] ["names", "name"] (defScope s_heads_called) := ⟨rfl, rfl, rfl, by decide +kernel, rfl, by decide +kernel, by decide +kernel⟩
theorem ck_heads_called : ckSs (T.ck ["names", "name", "entry"] (defScope s_heads_called)) heads_called_body (defBody s_heads_called) = true := by decide +kernel
abbrev s_heads_turns_fit : Stmt := topS 19
theorem sc_heads_turns_fit : FnScope ["names", "turns", "entry", "origin"] ["names"] (defScope s_heads_turns_fit) := ⟨rfl, rfl, rfl, by decide +kernel, rfl, by decide +kernel, by decide +kernel⟩
theorem ck_heads_turns_fit : ckSs (T.ck ["names", "turns", "entry", "origin"] (defScope s_heads_turns_fit)) heads_turns_fit_body (defBody s_heads_turns_fit) = true := by decide +kernel
abbrev s_heads_leads_right : Stmt := topS 20
theorem sc_heads_leads_right : FnScope ["keepers", "names", "entry", "stem", "origin", "keeper"] ["keepers", "names", "entry"] (defScope s_heads_leads_right) := ⟨rfl, rfl, rfl, by decide +kernel, rfl, by decide +kernel, by decide +kernel⟩
theorem ck_heads_leads_right : ckSs (T.ck ["keepers", "names", "entry", "stem", "origin", "keeper"] (defScope s_heads_leads_right)) heads_leads_right_body (defBody s_heads_leads_right) = true := by decide +kernel
abbrev s_heads_is_head : Stmt := topS 21
theorem sc_heads_is_head : FnScope ["thing", "age", "keepers", "names", "keeper", "entry"] ["thing"] (defScope s_heads_is_head) := ⟨rfl, rfl, rfl, by decide +kernel, rfl, by decide +kernel, by decide +kernel⟩
theorem ck_heads_is_head : ckSs (T.ck ["thing", "age", "keepers", "names", "keeper", "entry"] (defScope s_heads_is_head)) heads_is_head_body (defBody s_heads_is_head) = true := by decide +kernel
abbrev s_histories_grafted : Stmt := topS 23
theorem sc_histories_grafted : FnScope ["head", "stem", "names", "origin", "other", "rows", "name", "kind", "first", "second", "tag"] ["head", "stem"] (defScope s_histories_grafted) := ⟨rfl, rfl, rfl, by decide +kernel, rfl, by decide +kernel, by decide +kernel⟩
theorem ck_histories_grafted : ckSs (T.ck ["head", "stem", "names", "origin", "other", "rows", "name", "kind", "first", "second", "tag"] (defScope s_histories_grafted)) histories_grafted_body (defBody s_histories_grafted) = true := by decide +kernel
abbrev s_l_cell_at : Stmt := topS 25
theorem sc_l_cell_at : FnScope ["_law_script", "_law_k"] ["_law_script", "_law_k"] (defScope s_l_cell_at) := ⟨rfl, rfl, rfl, by decide +kernel, rfl, by decide +kernel, by decide +kernel⟩
theorem ck_l_cell_at : ckSs (T.ck ["_law_script", "_law_k"] (defScope s_l_cell_at)) l_cell_at_body (defBody s_l_cell_at) = true := by decide +kernel
abbrev s_l_row_2 : Stmt := topS 26
theorem sc_l_row_2 : FnScope ["_law_cell", "_law_many", "_law_found", "_law_k", "_law_number"] ["_law_cell", "_law_many"] (defScope s_l_row_2) := ⟨rfl, rfl, rfl, by decide +kernel, rfl, by decide +kernel, by decide +kernel⟩
theorem ck_l_row_2 : ckSs (T.ck ["_law_cell", "_law_many", "_law_found", "_law_k", "_law_number"] (defScope s_l_row_2)) l_row_2_body (defBody s_l_row_2) = true := by decide +kernel
abbrev s_l_names : Stmt := topS 27
theorem sc_l_names : FnScope ["_law_row_here", "_law_many", "_law_signs", "_law_word", "_law_at", "_law_found", "_law_k", "_law_one"] ["_law_row_here", "_law_many"] (defScope s_l_names) := ⟨rfl, rfl, rfl, by decide +kernel, rfl, by decide +kernel, by decide +kernel⟩
theorem ck_l_names : ckSs (T.ck ["_law_row_here", "_law_many", "_law_signs", "_law_word", "_law_at", "_law_found", "_law_k", "_law_one"] (defScope s_l_names)) l_names_body (defBody s_l_names) = true := by decide +kernel
abbrev s_l_head_2 : Stmt := topS 28
theorem sc_l_head_2 : FnScope ["_law_script", "_law_names_here", "_law_row_here", "_law_stems", "_law_seals", "_law_k", "_law_way", "_law_at", "_law_tag", "_law_origin", "_law_stem"] ["_law_script", "_law_names_here"] (defScope s_l_head_2) := ⟨rfl, rfl, rfl, by decide +kernel, rfl, by decide +kernel, by decide +kernel⟩
theorem ck_l_head_2 : ckSs (T.ck ["_law_script", "_law_names_here", "_law_row_here", "_law_stems", "_law_seals", "_law_k", "_law_way", "_law_at", "_law_tag", "_law_origin", "_law_stem"] (defScope s_l_head_2)) l_head_2_body (defBody s_l_head_2) = true := by decide +kernel
abbrev s_l_history : Stmt := topS 29
theorem sc_l_history : FnScope ["_law_head_here", "_law_stem", "_law_origin", "_law_own", "_law_other", "_law_ahead", "_law_entry_here", "_law_turn", "_law_name"] ["_law_head_here", "_law_stem"] (defScope s_l_history) := ⟨rfl, rfl, rfl, by decide +kernel, rfl, by decide +kernel, by decide +kernel⟩
theorem ck_l_history : ckSs (T.ck ["_law_head_here", "_law_stem", "_law_origin", "_law_own", "_law_other", "_law_ahead", "_law_entry_here", "_law_turn", "_law_name"] (defScope s_l_history)) l_history_body (defBody s_l_history) = true := by decide +kernel
abbrev s_law_entry : Stmt := topS 30
theorem sc_law_entry : FnScope ["_law_head_here", "_law_name", "_law_entry_here"] ["_law_head_here", "_law_name"] (defScope s_law_entry) := ⟨rfl, rfl, rfl, by decide +kernel, rfl, by decide +kernel, by decide +kernel⟩
theorem ck_law_entry : ckSs (T.ck ["_law_head_here", "_law_name", "_law_entry_here"] (defScope s_law_entry)) law_entry_body (defBody s_law_entry) = true := by decide +kernel
abbrev s_law_due : Stmt := topS 31
theorem sc_law_due : FnScope ["_law_head_here", "_law_stem", "_law_entry_here", "_law_origin", "_law_other", "_law_found", "_law_one"] ["_law_head_here", "_law_stem"] (defScope s_law_due) := ⟨rfl, rfl, rfl, by decide +kernel, rfl, by decide +kernel, by decide +kernel⟩
theorem ck_law_due : ckSs (T.ck ["_law_head_here", "_law_stem", "_law_entry_here", "_law_origin", "_law_other", "_law_found", "_law_one"] (defScope s_law_due)) law_due_body (defBody s_law_due) = true := by decide +kernel
abbrev s_law : Stmt := topS 32
theorem sc_law : FnScope ["_law_script", "_law_names_here", "_law_head_here", "_law_handed", "_law_stems", "_law_stem", "_law_found", "_law_name", "_law_entry_here"] ["_law_script"] (defScope s_law) := ⟨rfl, rfl, rfl, by decide +kernel, rfl, by decide +kernel, by decide +kernel⟩
theorem ck_law : ckSs (T.ck ["_law_script", "_law_names_here", "_law_head_here", "_law_handed", "_law_stems", "_law_stem", "_law_found", "_law_name", "_law_entry_here"] (defScope s_law)) law_body (defBody s_law) = true := by decide +kernel
set_option maxHeartbeats 4000000 in
theorem mk_top {w : World} {K : PySem.W.Frag} {h : Heap} {mg : Str → Option Value} {fa : Addr} {n : Nat} (X : K.In h) (G : h.Ns mainGlobals mg) (hfa : mg "law" = some (.ref fa))
    {od0 an0 : Option Addr} {sl0 : Array (Option Value)} {f0 : Addr} {oc0 kV0 dc0 pm0 cd0 ct0 : Value} (a0 : PySem.W.nsIn K mainGlobals "is_number" = some (some (.ref f0))) (l0 : K.lookup f0 = some ⟨oc0, od0, .func (PySem.W.fnOf "is_number" "is_number" (defArgs s_things_is_number) (defBody s_things_is_number) (defScope s_things_is_number) .none kV0 dc0 pm0 an0 cd0 ct0), sl0⟩) (c0 : PySem.W.codeIn K cd0 "is_number" = true) (k0 : PySem.W.keepIn K (.ref f0) = true)
    {od1 an1 : Option Addr} {sl1 : Array (Option Value)} {f1 : Addr} {oc1 kV1 dc1 pm1 cd1 ct1 : Value} (a1 : PySem.W.nsIn K mainGlobals "is_name" = some (some (.ref f1))) (l1 : K.lookup f1 = some ⟨oc1, od1, .func (PySem.W.fnOf "is_name" "is_name" (defArgs s_blocks_is_name) (defBody s_blocks_is_name) (defScope s_blocks_is_name) .none kV1 dc1 pm1 an1 cd1 ct1), sl1⟩) (c1 : PySem.W.codeIn K cd1 "is_name" = true) (k1 : PySem.W.keepIn K (.ref f1) = true)
    {od2 an2 : Option Addr} {sl2 : Array (Option Value)} {f2 : Addr} {oc2 kV2 dc2 pm2 cd2 ct2 : Value} (a2 : PySem.W.nsIn K mainGlobals "is_tag" = some (some (.ref f2))) (l2 : K.lookup f2 = some ⟨oc2, od2, .func (PySem.W.fnOf "is_tag" "is_tag" (defArgs s_blocks_is_tag) (defBody s_blocks_is_tag) (defScope s_blocks_is_tag) .none kV2 dc2 pm2 an2 cd2 ct2), sl2⟩) (c2 : PySem.W.codeIn K cd2 "is_tag" = true) (k2 : PySem.W.keepIn K (.ref f2) = true)
    {od3 an3 : Option Addr} {sl3 : Array (Option Value)} {f3 : Addr} {oc3 kV3 dc3 pm3 cd3 ct3 : Value} (a3 : PySem.W.nsIn K mainGlobals "is_count" = some (some (.ref f3))) (l3 : K.lookup f3 = some ⟨oc3, od3, .func (PySem.W.fnOf "is_count" "is_count" (defArgs s_heads_is_count) (defBody s_heads_is_count) (defScope s_heads_is_count) .none kV3 dc3 pm3 an3 cd3 ct3), sl3⟩) (c3 : PySem.W.codeIn K cd3 "is_count" = true) (k3 : PySem.W.keepIn K (.ref f3) = true)
    {od4 an4 : Option Addr} {sl4 : Array (Option Value)} {f4 : Addr} {oc4 kV4 dc4 pm4 cd4 ct4 : Value} (a4 : PySem.W.nsIn K mainGlobals "is_rising" = some (some (.ref f4))) (l4 : K.lookup f4 = some ⟨oc4, od4, .func (PySem.W.fnOf "is_rising" "is_rising" (defArgs s_heads_is_rising) (defBody s_heads_is_rising) (defScope s_heads_is_rising) .none kV4 dc4 pm4 an4 cd4 ct4), sl4⟩) (c4 : PySem.W.codeIn K cd4 "is_rising" = true) (k4 : PySem.W.keepIn K (.ref f4) = true)
    {od5 an5 : Option Addr} {sl5 : Array (Option Value)} {f5 : Addr} {oc5 kV5 dc5 pm5 cd5 ct5 : Value} (a5 : PySem.W.nsIn K mainGlobals "is_keeper" = some (some (.ref f5))) (l5 : K.lookup f5 = some ⟨oc5, od5, .func (PySem.W.fnOf "is_keeper" "is_keeper" (defArgs s_heads_is_keeper) (defBody s_heads_is_keeper) (defScope s_heads_is_keeper) .none kV5 dc5 pm5 an5 cd5 ct5), sl5⟩) (c5 : PySem.W.codeIn K cd5 "is_keeper" = true) (k5 : PySem.W.keepIn K (.ref f5) = true)
    {od6 an6 : Option Addr} {sl6 : Array (Option Value)} {f6 : Addr} {oc6 kV6 dc6 pm6 cd6 ct6 : Value} (a6 : PySem.W.nsIn K mainGlobals "is_entry" = some (some (.ref f6))) (l6 : K.lookup f6 = some ⟨oc6, od6, .func (PySem.W.fnOf "is_entry" "is_entry" (defArgs s_heads_is_entry) (defBody s_heads_is_entry) (defScope s_heads_is_entry) .none kV6 dc6 pm6 an6 cd6 ct6), sl6⟩) (c6 : PySem.W.codeIn K cd6 "is_entry" = true) (k6 : PySem.W.keepIn K (.ref f6) = true)
    {od7 an7 : Option Addr} {sl7 : Array (Option Value)} {f7 : Addr} {oc7 kV7 dc7 pm7 cd7 ct7 : Value} (a7 : PySem.W.nsIn K mainGlobals "called" = some (some (.ref f7))) (l7 : K.lookup f7 = some ⟨oc7, od7, .func (PySem.W.fnOf "called" "called" (defArgs s_heads_called) (defBody s_heads_called) (defScope s_heads_called) .none kV7 dc7 pm7 an7 cd7 ct7), sl7⟩) (c7 : PySem.W.codeIn K cd7 "called" = true) (k7 : PySem.W.keepIn K (.ref f7) = true)
    {od8 an8 : Option Addr} {sl8 : Array (Option Value)} {f8 : Addr} {oc8 kV8 dc8 pm8 cd8 ct8 : Value} (a8 : PySem.W.nsIn K mainGlobals "turns_fit" = some (some (.ref f8))) (l8 : K.lookup f8 = some ⟨oc8, od8, .func (PySem.W.fnOf "turns_fit" "turns_fit" (defArgs s_heads_turns_fit) (defBody s_heads_turns_fit) (defScope s_heads_turns_fit) .none kV8 dc8 pm8 an8 cd8 ct8), sl8⟩) (c8 : PySem.W.codeIn K cd8 "turns_fit" = true) (k8 : PySem.W.keepIn K (.ref f8) = true)
    {od9 an9 : Option Addr} {sl9 : Array (Option Value)} {f9 : Addr} {oc9 kV9 dc9 pm9 cd9 ct9 : Value} (a9 : PySem.W.nsIn K mainGlobals "leads_right" = some (some (.ref f9))) (l9 : K.lookup f9 = some ⟨oc9, od9, .func (PySem.W.fnOf "leads_right" "leads_right" (defArgs s_heads_leads_right) (defBody s_heads_leads_right) (defScope s_heads_leads_right) .none kV9 dc9 pm9 an9 cd9 ct9), sl9⟩) (c9 : PySem.W.codeIn K cd9 "leads_right" = true) (k9 : PySem.W.keepIn K (.ref f9) = true)
    {od10 an10 : Option Addr} {sl10 : Array (Option Value)} {f10 : Addr} {oc10 kV10 dc10 pm10 cd10 ct10 : Value} (a10 : PySem.W.nsIn K mainGlobals "is_head" = some (some (.ref f10))) (l10 : K.lookup f10 = some ⟨oc10, od10, .func (PySem.W.fnOf "is_head" "is_head" (defArgs s_heads_is_head) (defBody s_heads_is_head) (defScope s_heads_is_head) .none kV10 dc10 pm10 an10 cd10 ct10), sl10⟩) (c10 : PySem.W.codeIn K cd10 "is_head" = true) (k10 : PySem.W.keepIn K (.ref f10) = true)
    {od11 an11 : Option Addr} {sl11 : Array (Option Value)} {f11 : Addr} {oc11 kV11 dc11 pm11 cd11 ct11 : Value} (a11 : PySem.W.nsIn K mainGlobals "grafted" = some (some (.ref f11))) (l11 : K.lookup f11 = some ⟨oc11, od11, .func (PySem.W.fnOf "grafted" "grafted" (defArgs s_histories_grafted) (defBody s_histories_grafted) (defScope s_histories_grafted) .none kV11 dc11 pm11 an11 cd11 ct11), sl11⟩) (c11 : PySem.W.codeIn K cd11 "grafted" = true) (k11 : PySem.W.keepIn K (.ref f11) = true)
    {od12 an12 : Option Addr} {sl12 : Array (Option Value)} {f12 : Addr} {oc12 kV12 dc12 pm12 cd12 ct12 : Value} (a12 : PySem.W.nsIn K mainGlobals "_law_cell_at" = some (some (.ref f12))) (l12 : K.lookup f12 = some ⟨oc12, od12, .func (PySem.W.fnOf "_law_cell_at" "_law_cell_at" (defArgs s_l_cell_at) (defBody s_l_cell_at) (defScope s_l_cell_at) .none kV12 dc12 pm12 an12 cd12 ct12), sl12⟩) (c12 : PySem.W.codeIn K cd12 "_law_cell_at" = true) (k12 : PySem.W.keepIn K (.ref f12) = true)
    {od13 an13 : Option Addr} {sl13 : Array (Option Value)} {f13 : Addr} {oc13 kV13 dc13 pm13 cd13 ct13 : Value} (a13 : PySem.W.nsIn K mainGlobals "_law_row" = some (some (.ref f13))) (l13 : K.lookup f13 = some ⟨oc13, od13, .func (PySem.W.fnOf "_law_row" "_law_row" (defArgs s_l_row_2) (defBody s_l_row_2) (defScope s_l_row_2) .none kV13 dc13 pm13 an13 cd13 ct13), sl13⟩) (c13 : PySem.W.codeIn K cd13 "_law_row" = true) (k13 : PySem.W.keepIn K (.ref f13) = true)
    {od14 an14 : Option Addr} {sl14 : Array (Option Value)} {f14 : Addr} {oc14 kV14 dc14 pm14 cd14 ct14 : Value} (a14 : PySem.W.nsIn K mainGlobals "_law_names" = some (some (.ref f14))) (l14 : K.lookup f14 = some ⟨oc14, od14, .func (PySem.W.fnOf "_law_names" "_law_names" (defArgs s_l_names) (defBody s_l_names) (defScope s_l_names) .none kV14 dc14 pm14 an14 cd14 ct14), sl14⟩) (c14 : PySem.W.codeIn K cd14 "_law_names" = true) (k14 : PySem.W.keepIn K (.ref f14) = true)
    {od15 an15 : Option Addr} {sl15 : Array (Option Value)} {f15 : Addr} {oc15 kV15 dc15 pm15 cd15 ct15 : Value} (a15 : PySem.W.nsIn K mainGlobals "_law_head" = some (some (.ref f15))) (l15 : K.lookup f15 = some ⟨oc15, od15, .func (PySem.W.fnOf "_law_head" "_law_head" (defArgs s_l_head_2) (defBody s_l_head_2) (defScope s_l_head_2) .none kV15 dc15 pm15 an15 cd15 ct15), sl15⟩) (c15 : PySem.W.codeIn K cd15 "_law_head" = true) (k15 : PySem.W.keepIn K (.ref f15) = true)
    {od16 an16 : Option Addr} {sl16 : Array (Option Value)} {f16 : Addr} {oc16 kV16 dc16 pm16 cd16 ct16 : Value} (a16 : PySem.W.nsIn K mainGlobals "_law_history" = some (some (.ref f16))) (l16 : K.lookup f16 = some ⟨oc16, od16, .func (PySem.W.fnOf "_law_history" "_law_history" (defArgs s_l_history) (defBody s_l_history) (defScope s_l_history) .none kV16 dc16 pm16 an16 cd16 ct16), sl16⟩) (c16 : PySem.W.codeIn K cd16 "_law_history" = true) (k16 : PySem.W.keepIn K (.ref f16) = true)
    {od17 an17 : Option Addr} {sl17 : Array (Option Value)} {f17 : Addr} {oc17 kV17 dc17 pm17 cd17 ct17 : Value} (a17 : PySem.W.nsIn K mainGlobals "_law_entry" = some (some (.ref f17))) (l17 : K.lookup f17 = some ⟨oc17, od17, .func (PySem.W.fnOf "_law_entry" "_law_entry" (defArgs s_law_entry) (defBody s_law_entry) (defScope s_law_entry) .none kV17 dc17 pm17 an17 cd17 ct17), sl17⟩) (c17 : PySem.W.codeIn K cd17 "_law_entry" = true) (k17 : PySem.W.keepIn K (.ref f17) = true)
    {od18 an18 : Option Addr} {sl18 : Array (Option Value)} {f18 : Addr} {oc18 kV18 dc18 pm18 cd18 ct18 : Value} (a18 : PySem.W.nsIn K mainGlobals "_law_due" = some (some (.ref f18))) (l18 : K.lookup f18 = some ⟨oc18, od18, .func (PySem.W.fnOf "_law_due" "_law_due" (defArgs s_law_due) (defBody s_law_due) (defScope s_law_due) .none kV18 dc18 pm18 an18 cd18 ct18), sl18⟩) (c18 : PySem.W.codeIn K cd18 "_law_due" = true) (k18 : PySem.W.keepIn K (.ref f18) = true)
    {od19 an19 : Option Addr} {sl19 : Array (Option Value)} {f19 : Addr} {oc19 kV19 dc19 pm19 cd19 ct19 : Value} (a19 : PySem.W.nsIn K mainGlobals "law" = some (some (.ref f19))) (l19 : K.lookup f19 = some ⟨oc19, od19, .func (PySem.W.fnOf "law" "law" (defArgs s_law) (defBody s_law) (defScope s_law) .none kV19 dc19 pm19 an19 cd19 ct19), sl19⟩) (c19 : PySem.W.codeIn K cd19 "law" = true) (k19 : PySem.W.keepIn K (.ref f19) = true)
    (z0 : PySem.W.nsIn K mainGlobals "len" = some none)
    (z1 : PySem.W.nsIn K mainGlobals "int" = some none)
    (z2 : PySem.W.nsIn K mainGlobals "str" = some none)
    (z3 : PySem.W.nsIn K mainGlobals "list" = some none)
    (z4 : PySem.W.nsIn K mainGlobals "tuple" = some none)
    (z5 : PySem.W.nsIn K mainGlobals "abs" = some none)
    (z6 : PySem.W.nsIn K mainGlobals "sum" = some none)
    (z7 : PySem.W.nsIn K mainGlobals "all" = some none)
    (z8 : PySem.W.nsIn K mainGlobals "any" = some none)
    (z9 : PySem.W.nsIn K mainGlobals "min" = some none)
    (z10 : PySem.W.nsIn K mainGlobals "max" = some none)
    (z11 : PySem.W.nsIn K mainGlobals "sorted" = some none)
    (z12 : PySem.W.nsIn K mainGlobals "range" = some none)
    (z13 : PySem.W.nsIn K mainGlobals "enumerate" = some none)
    (z14 : PySem.W.nsIn K mainGlobals "zip" = some none)
    (z15 : PySem.W.nsIn K mainGlobals "reversed" = some none)
    (z16 : PySem.W.nsIn K mainGlobals "isinstance" = some none)
    (z17 : PySem.W.nsIn K mainGlobals "bool" = some none)
    (z18 : PySem.W.nsIn K mainGlobals "dict" = some none)
    (z19 : PySem.W.nsIn K mainGlobals "set" = some none)
    {tk0 : Tok} (y0 : PySem.W.nsIn K mainGlobals "BY" = some (some (.int 997 tk0)))
    {tk1 : Tok} (y1 : PySem.W.nsIn K mainGlobals "GREATEST_heads" = some (some (.int 999999999 tk1)))
    {tk2 : Tok} (y2 : PySem.W.nsIn K mainGlobals "GREATEST_things" = some (some (.int 999999999 tk2)))
    {tk3 : Tok} (y3 : PySem.W.nsIn K mainGlobals "MOST_CELLS" = some (some (.int 999999 tk3)))
    {tk4 : Tok} (y4 : PySem.W.nsIn K mainGlobals "MOST_KEEPERS" = some (some (.int 8 tk4)))
    {tk5 : Tok} (y5 : PySem.W.nsIn K mainGlobals "MOST_NAMED" = some (some (.int 8 tk5)))
    {tk6 : Tok} (y6 : PySem.W.nsIn K mainGlobals "MOST_NAMES" = some (some (.int 24 tk6)))
    {tk7 : Tok} (y7 : PySem.W.nsIn K mainGlobals "NAMED" = some (some (.str (strS [97, 98, 99, 100, 101, 102, 103, 104, 105, 106, 107, 108, 109, 110, 111, 112, 113, 114, 115, 116, 117, 118, 119, 120, 121, 122, 48, 49, 50, 51, 52, 53, 54, 55, 56, 57]) tk7)))
    : ∃ fd : FuncData, (∀ (s : Shared) (v : Value), BindsTo s fd ⟨[v], []⟩ [("_law_script", v)]) ∧ ∀ base : Heap, K.In base → base.Ns mainGlobals mg → FnOk PySem.Challenge.rw_stemshelf_k59_grafts.prog w K mg base (L2.CX PySem.Challenge.rw_stemshelf_k59_grafts.prog w) (2 * n) fa fd ["_law_script"] (fun vs H Q E => ∀ ca, spN (cx ca) (callN P n) K 3002 vs H Q E) := by
  have e := hfa.symm.trans (PySem.W.mg_of X G a19)
  cases e
  have F0 := fun_mk (st := s_things_is_number) l0 c0 k0
  have b0 := F0.binds (ps := ["thing"]) fun _ _ _ _ _ _ us hl => match us, hl with | [_], _ => rfl
  have D0 : FnDat T K mg 4 things_is_number_fn f0 _ ["thing"] := ⟨_, _, _, ["thing"], rfl, PySem.W.mg_of X G a0, F0, b0, sc_things_is_number, rfl, rfl, ck_things_is_number⟩
  have F1 := fun_mk (st := s_blocks_is_name) l1 c1 k1
  have b1 := F1.binds (ps := ["thing"]) fun _ _ _ _ _ _ us hl => match us, hl with | [_], _ => rfl
  have D1 : FnDat T K mg 17 blocks_is_name_fn f1 _ ["thing"] := ⟨_, _, _, ["thing", "sign"], rfl, PySem.W.mg_of X G a1, F1, b1, sc_blocks_is_name, rfl, rfl, ck_blocks_is_name⟩
  have F2 := fun_mk (st := s_blocks_is_tag) l2 c2 k2
  have b2 := F2.binds (ps := ["thing"]) fun _ _ _ _ _ _ us hl => match us, hl with | [_], _ => rfl
  have D2 : FnDat T K mg 18 blocks_is_tag_fn f2 _ ["thing"] := ⟨_, _, _, ["thing", "part"], rfl, PySem.W.mg_of X G a2, F2, b2, sc_blocks_is_tag, rfl, rfl, ck_blocks_is_tag⟩
  have F3 := fun_mk (st := s_heads_is_count) l3 c3 k3
  have b3 := F3.binds (ps := ["thing"]) fun _ _ _ _ _ _ us hl => match us, hl with | [_], _ => rfl
  have D3 : FnDat T K mg 76 heads_is_count_fn f3 _ ["thing"] := ⟨_, _, _, ["thing"], rfl, PySem.W.mg_of X G a3, F3, b3, sc_heads_is_count, rfl, rfl, ck_heads_is_count⟩
  have F4 := fun_mk (st := s_heads_is_rising) l4 c4 k4
  have b4 := F4.binds (ps := ["rows"]) fun _ _ _ _ _ _ us hl => match us, hl with | [_], _ => rfl
  have D4 : FnDat T K mg 77 heads_is_rising_fn f4 _ ["rows"] := ⟨_, _, _, ["rows", "k"], rfl, PySem.W.mg_of X G a4, F4, b4, sc_heads_is_rising, rfl, rfl, ck_heads_is_rising⟩
  have F5 := fun_mk (st := s_heads_is_keeper) l5 c5 k5
  have b5 := F5.binds (ps := ["thing"]) fun _ _ _ _ _ _ us hl => match us, hl with | [_], _ => rfl
  have D5 : FnDat T K mg 78 heads_is_keeper_fn f5 _ ["thing"] := ⟨_, _, _, ["thing"], rfl, PySem.W.mg_of X G a5, F5, b5, sc_heads_is_keeper, rfl, rfl, ck_heads_is_keeper⟩
  have F6 := fun_mk (st := s_heads_is_entry) l6 c6 k6
  have b6 := F6.binds (ps := ["thing"]) fun _ _ _ _ _ _ us hl => match us, hl with | [_], _ => rfl
  have D6 : FnDat T K mg 79 heads_is_entry_fn f6 _ ["thing"] := ⟨_, _, _, ["thing"], rfl, PySem.W.mg_of X G a6, F6, b6, sc_heads_is_entry, rfl, rfl, ck_heads_is_entry⟩
  have F7 := fun_mk (st := s_heads_called) l7 c7 k7
  have b7 := F7.binds (ps := ["names", "name"]) fun _ _ _ _ _ _ us hl => match us, hl with | [_, _], _ => rfl
  have D7 : FnDat T K mg 80 heads_called_fn f7 _ ["names", "name"] := ⟨_, _, _, ["names", "name", "entry"], rfl, PySem.W.mg_of X G a7, F7, b7, sc_heads_called, rfl, rfl, ck_heads_called⟩
  have F8 := fun_mk (st := s_heads_turns_fit) l8 c8 k8
  have b8 := F8.binds (ps := ["names"]) fun _ _ _ _ _ _ us hl => match us, hl with | [_], _ => rfl
  have D8 : FnDat T K mg 81 heads_turns_fit_fn f8 _ ["names"] := ⟨_, _, _, ["names", "turns", "entry", "origin"], rfl, PySem.W.mg_of X G a8, F8, b8, sc_heads_turns_fit, rfl, rfl, ck_heads_turns_fit⟩
  have F9 := fun_mk (st := s_heads_leads_right) l9 c9 k9
  have b9 := F9.binds (ps := ["keepers", "names", "entry"]) fun _ _ _ _ _ _ us hl => match us, hl with | [_, _, _], _ => rfl
  have D9 : FnDat T K mg 82 heads_leads_right_fn f9 _ ["keepers", "names", "entry"] := ⟨_, _, _, ["keepers", "names", "entry", "stem", "origin", "keeper"], rfl, PySem.W.mg_of X G a9, F9, b9, sc_heads_leads_right, rfl, rfl, ck_heads_leads_right⟩
  have F10 := fun_mk (st := s_heads_is_head) l10 c10 k10
  have b10 := F10.binds (ps := ["thing"]) fun _ _ _ _ _ _ us hl => match us, hl with | [_], _ => rfl
  have D10 : FnDat T K mg 83 heads_is_head_fn f10 _ ["thing"] := ⟨_, _, _, ["thing", "age", "keepers", "names", "keeper", "entry"], rfl, PySem.W.mg_of X G a10, F10, b10, sc_heads_is_head, rfl, rfl, ck_heads_is_head⟩
  have F11 := fun_mk (st := s_histories_grafted) l11 c11 k11
  have b11 := F11.binds (ps := ["head", "stem"]) fun _ _ _ _ _ _ us hl => match us, hl with | [_, _], _ => rfl
  have D11 : FnDat T K mg 152 histories_grafted_fn f11 _ ["head", "stem"] := ⟨_, _, _, ["head", "stem", "names", "origin", "other", "rows", "name", "kind", "first", "second", "tag"], rfl, PySem.W.mg_of X G a11, F11, b11, sc_histories_grafted, rfl, rfl, ck_histories_grafted⟩
  have F12 := fun_mk (st := s_l_cell_at) l12 c12 k12
  have b12 := F12.binds (ps := ["_law_script", "_law_k"]) fun _ _ _ _ _ _ us hl => match us, hl with | [_, _], _ => rfl
  have D12 : FnDat T K mg 1001 l_cell_at_fn f12 _ ["_law_script", "_law_k"] := ⟨_, _, _, ["_law_script", "_law_k"], rfl, PySem.W.mg_of X G a12, F12, b12, sc_l_cell_at, rfl, rfl, ck_l_cell_at⟩
  have F13 := fun_mk (st := s_l_row_2) l13 c13 k13
  have b13 := F13.binds (ps := ["_law_cell", "_law_many"]) fun _ _ _ _ _ _ us hl => match us, hl with | [_, _], _ => rfl
  have D13 : FnDat T K mg 1053 l_row_2_fn f13 _ ["_law_cell", "_law_many"] := ⟨_, _, _, ["_law_cell", "_law_many", "_law_found", "_law_k", "_law_number"], rfl, PySem.W.mg_of X G a13, F13, b13, sc_l_row_2, rfl, rfl, ck_l_row_2⟩
  have F14 := fun_mk (st := s_l_names) l14 c14 k14
  have b14 := F14.binds (ps := ["_law_row_here", "_law_many"]) fun _ _ _ _ _ _ us hl => match us, hl with | [_, _], _ => rfl
  have D14 : FnDat T K mg 1055 l_names_fn f14 _ ["_law_row_here", "_law_many"] := ⟨_, _, _, ["_law_row_here", "_law_many", "_law_signs", "_law_word", "_law_at", "_law_found", "_law_k", "_law_one"], rfl, PySem.W.mg_of X G a14, F14, b14, sc_l_names, rfl, rfl, ck_l_names⟩
  have F15 := fun_mk (st := s_l_head_2) l15 c15 k15
  have b15 := F15.binds (ps := ["_law_script", "_law_names_here"]) fun _ _ _ _ _ _ us hl => match us, hl with | [_, _], _ => rfl
  have D15 : FnDat T K mg 1066 l_head_2_fn f15 _ ["_law_script", "_law_names_here"] := ⟨_, _, _, ["_law_script", "_law_names_here", "_law_row_here", "_law_stems", "_law_seals", "_law_k", "_law_way", "_law_at", "_law_tag", "_law_origin", "_law_stem"], rfl, PySem.W.mg_of X G a15, F15, b15, sc_l_head_2, rfl, rfl, ck_l_head_2⟩
  have F16 := fun_mk (st := s_l_history) l16 c16 k16
  have b16 := F16.binds (ps := ["_law_head_here", "_law_stem"]) fun _ _ _ _ _ _ us hl => match us, hl with | [_, _], _ => rfl
  have D16 : FnDat T K mg 1113 l_history_fn f16 _ ["_law_head_here", "_law_stem"] := ⟨_, _, _, ["_law_head_here", "_law_stem", "_law_origin", "_law_own", "_law_other", "_law_ahead", "_law_entry_here", "_law_turn", "_law_name"], rfl, PySem.W.mg_of X G a16, F16, b16, sc_l_history, rfl, rfl, ck_l_history⟩
  have F17 := fun_mk (st := s_law_entry) l17 c17 k17
  have b17 := F17.binds (ps := ["_law_head_here", "_law_name"]) fun _ _ _ _ _ _ us hl => match us, hl with | [_, _], _ => rfl
  have D17 : FnDat T K mg 3000 law_entry_fn f17 _ ["_law_head_here", "_law_name"] := ⟨_, _, _, ["_law_head_here", "_law_name", "_law_entry_here"], rfl, PySem.W.mg_of X G a17, F17, b17, sc_law_entry, rfl, rfl, ck_law_entry⟩
  have F18 := fun_mk (st := s_law_due) l18 c18 k18
  have b18 := F18.binds (ps := ["_law_head_here", "_law_stem"]) fun _ _ _ _ _ _ us hl => match us, hl with | [_, _], _ => rfl
  have D18 : FnDat T K mg 3001 law_due_fn f18 _ ["_law_head_here", "_law_stem"] := ⟨_, _, _, ["_law_head_here", "_law_stem", "_law_entry_here", "_law_origin", "_law_other", "_law_found", "_law_one"], rfl, PySem.W.mg_of X G a18, F18, b18, sc_law_due, rfl, rfl, ck_law_due⟩
  have F19 := fun_mk (st := s_law) l19 c19 k19
  have b19 := F19.binds (ps := ["_law_script"]) fun _ _ _ _ _ _ us hl => match us, hl with | [_], _ => rfl
  have D19 : FnDat T K mg 3002 law_fn fa _ ["_law_script"] := ⟨_, _, _, ["_law_script", "_law_names_here", "_law_head_here", "_law_handed", "_law_stems", "_law_stem", "_law_found", "_law_name", "_law_entry_here"], rfl, PySem.W.mg_of X G a19, F19, b19, sc_law, rfl, rfl, ck_law⟩
  have En : Env1 (cx fun k => 0) T K mg := by
    refine ⟨fun f x h => ?_, fun x hx => ?_, fun x v hx => ?_, fun f x h => ?_, rfl, fun k x h => ?_, fun f k m h => ?_, fun f k x h => ?_, fun k f hk hf => ?_, rfl, fun k x h => ?_, fun k h => ?_, fun j y h => ?_⟩
    · exact (show ∀ p ∈ T.fnm, ∃ d fa fd ps, P.fns p.1 = some d ∧ FnDat T K mg p.1 d fa fd ps from fa_cons ⟨_, _, _, _, rfl, D0⟩ (fa_cons ⟨_, _, _, _, rfl, D1⟩ (fa_cons ⟨_, _, _, _, rfl, D2⟩ (fa_cons ⟨_, _, _, _, rfl, D3⟩ (fa_cons ⟨_, _, _, _, rfl, D4⟩ (fa_cons ⟨_, _, _, _, rfl, D5⟩ (fa_cons ⟨_, _, _, _, rfl, D6⟩ (fa_cons ⟨_, _, _, _, rfl, D7⟩ (fa_cons ⟨_, _, _, _, rfl, D8⟩ (fa_cons ⟨_, _, _, _, rfl, D9⟩ (fa_cons ⟨_, _, _, _, rfl, D10⟩ (fa_cons ⟨_, _, _, _, rfl, D11⟩ (fa_cons ⟨_, _, _, _, rfl, D12⟩ (fa_cons ⟨_, _, _, _, rfl, D13⟩ (fa_cons ⟨_, _, _, _, rfl, D14⟩ (fa_cons ⟨_, _, _, _, rfl, D15⟩ (fa_cons ⟨_, _, _, _, rfl, D16⟩ (fa_cons ⟨_, _, _, _, rfl, D17⟩ (fa_cons ⟨_, _, _, _, rfl, D18⟩ (fa_cons ⟨_, _, _, _, rfl, D19⟩ (fa_nil))))))))))))))))))))) (f, x) (lookup_mem h)
    · simp only [bltNames, List.mem_cons, List.not_mem_nil, or_false] at hx
      rcases hx with rfl | rfl | rfl | rfl | rfl | rfl | rfl | rfl | rfl | rfl | rfl | rfl | rfl | rfl | rfl | rfl | rfl | rfl | rfl | rfl
      · exact PySem.W.mg_none_of X G z0
      · exact PySem.W.mg_none_of X G z1
      · exact PySem.W.mg_none_of X G z2
      · exact PySem.W.mg_none_of X G z3
      · exact PySem.W.mg_none_of X G z4
      · exact PySem.W.mg_none_of X G z5
      · exact PySem.W.mg_none_of X G z6
      · exact PySem.W.mg_none_of X G z7
      · exact PySem.W.mg_none_of X G z8
      · exact PySem.W.mg_none_of X G z9
      · exact PySem.W.mg_none_of X G z10
      · exact PySem.W.mg_none_of X G z11
      · exact PySem.W.mg_none_of X G z12
      · exact PySem.W.mg_none_of X G z13
      · exact PySem.W.mg_none_of X G z14
      · exact PySem.W.mg_none_of X G z15
      · exact PySem.W.mg_none_of X G z16
      · exact PySem.W.mg_none_of X G z17
      · exact PySem.W.mg_none_of X G z18
      · exact PySem.W.mg_none_of X G z19
    · simp only [T, List.mem_cons, List.not_mem_nil, or_false, Prod.mk.injEq] at hx
      rcases hx with ⟨rfl, rfl⟩ | ⟨rfl, rfl⟩ | ⟨rfl, rfl⟩ | ⟨rfl, rfl⟩ | ⟨rfl, rfl⟩ | ⟨rfl, rfl⟩ | ⟨rfl, rfl⟩ | ⟨rfl, rfl⟩
      · exact ⟨.int 997, _, PySem.W.mg_of X G y0, ⟨_, rfl⟩, fun H ex => by simp only [RepU]⟩
      · exact ⟨.int 999999999, _, PySem.W.mg_of X G y1, ⟨_, rfl⟩, fun H ex => by simp only [RepU]⟩
      · exact ⟨.int 999999999, _, PySem.W.mg_of X G y2, ⟨_, rfl⟩, fun H ex => by simp only [RepU]⟩
      · exact ⟨.int 999999, _, PySem.W.mg_of X G y3, ⟨_, rfl⟩, fun H ex => by simp only [RepU]⟩
      · exact ⟨.int 8, _, PySem.W.mg_of X G y4, ⟨_, rfl⟩, fun H ex => by simp only [RepU]⟩
      · exact ⟨.int 8, _, PySem.W.mg_of X G y5, ⟨_, rfl⟩, fun H ex => by simp only [RepU]⟩
      · exact ⟨.int 24, _, PySem.W.mg_of X G y6, ⟨_, rfl⟩, fun H ex => by simp only [RepU]⟩
      · exact ⟨.str (strS [97, 98, 99, 100, 101, 102, 103, 104, 105, 106, 107, 108, 109, 110, 111, 112, 113, 114, 115, 116, 117, 118, 119, 120, 121, 122, 48, 49, 50, 51, 52, 53, 54, 55, 56, 57]), _, PySem.W.mg_of X G y7, ⟨_, rfl⟩, fun H ex => by
          simp only [k_blocks_NAMED, RepU]
          exact ⟨rfl, by simp [sizeLine], by decide⟩⟩
    · exact (show ∀ p ∈ T.fdn, fldName p.1 = p.2 from fa_nil) (f, x) (lookup_mem h)
    · exact (show ∀ p ∈ T.xn1, xsB p.1 = true ∧ X1 K mg ((fun k : Nat => (0 : Addr)) p.1) p.2 (xfsE p.1) from fa_nil) (k, x) (lookup_mem h)
    · exact (show ∀ p ∈ T.mth, Cls K ((fun k : Nat => (0 : Addr)) p.2.1) ∧ ∃ d fa fd ps, P.fns p.1 = some d ∧ Meth K ((fun k : Nat => (0 : Addr)) p.2.1) p.2.2 fa ∧ FnTxt T K d fa fd ps from fa_nil) (f, k, m) (lookup_mem h)
    · exact (show ∀ p ∈ T.mks, mg p.2.2 = some (.ref ((fun k : Nat => (0 : Addr)) p.2.1)) ∧ FdOk (fun k : Nat => (0 : Addr)) fldName fdcE K p.2.1 ∧ ∃ d fa fd ps, P.fns p.1 = some d ∧ Mk K ((fun k : Nat => (0 : Addr)) p.2.1) fa ∧ FnTxt T K d fa fd ps from fa_nil) (f, k, x) (lookup_mem h)
    · refine xs_of (l := T.xnm) (m := T.xn1) (k := k) (p := fun k => xfdE k = some f → xfsE k = fldName f ∧ XfC K ((fun k : Nat => (0 : Addr)) k) ∧ PySem.W.findIn K (.ref ((fun k : Nat => (0 : Addr)) k)) (fldName f) = some none) hk (fa_nil) (fa_nil) hf
    · exact (show ∀ p ∈ T.xnm, xsB p.1 = true ∧ mg p.2 = some (.ref ((fun k : Nat => (0 : Addr)) p.1)) ∧ XC K ((fun k : Nat => (0 : Addr)) p.1) from fa_nil) (k, x) (lookup_mem h)
    · exact xs_of (l := T.xnm) (m := T.xn1) (k := k) (p := fun k => ExcC K ((fun k : Nat => (0 : Addr)) k)) h (fa_nil) (fa_nil)
    · refine (show ∀ p ∈ T.cnm, ∃ (cw : V) (cv : Value), (mg p.2 = some cv ∨ (mg p.2 = none ∧ bootBuiltins p.2 = some cv)) ∧ RelV cw cv ∧ (∀ u, RelV cw u → u = cv) ∧ (∀ q ∈ T.xnm, PySem.W.exmOne K (.ref ((fun k : Nat => (0 : Addr)) q.1)) cv = some (supE q.1 p.1) ∧ PySem.W.kitOne K (.ref ((fun k : Nat => (0 : Addr)) q.1)) cv = some (supE q.1 p.1)) ∧ ∀ q ∈ T.xn1, PySem.W.exmOne K (.ref ((fun k : Nat => (0 : Addr)) q.1)) cv = some (supE q.1 p.1) ∧ PySem.W.kitOne K (.ref ((fun k : Nat => (0 : Addr)) q.1)) cv = some (supE q.1 p.1) from ?_) (j, y) (lookup_mem h) |>.elim fun cw ⟨cv, h1, h2, h3, h4, h5⟩ => ⟨cw, cv, h1, h2, h3, fun k hk => xs_of (l := T.xnm) (m := T.xn1) (k := k) (p := fun k => PySem.W.exmOne K (.ref ((fun k : Nat => (0 : Addr)) k)) cv = some (supE k j) ∧ PySem.W.kitOne K (.ref ((fun k : Nat => (0 : Addr)) k)) cv = some (supE k j)) hk h4 h5⟩
      exact fa_nil
  exact ⟨_, fun s v => .of_eq rfl, fun base _ _ => (level En n 3002 _ _ _ _ rfl D19.txt).imp fun _ _ _ _ h => h _⟩
end
end LK59
section
open Mp Gp
local macro_rules | `(tactic| walk_at "ok") => `(tactic| first | exact rfl | assumption | exact ok_ints _ | exact ok_strs _ | exact ok_ints [] | (simp only [okU]; done))
local macro_rules | `(tactic| walk_at "side") => `(tactic| first
   | exact Nat.le_of_ble_eq_true rfl | exact rfl | assumption | omega
   | (simp only [id_eq, rep_len, List.length_map, List.length_append, List.length_cons, List.length_nil, sizeLine_def]; omega)
   | exact trivial | exact ⟨Nat.le_of_ble_eq_true rfl, rfl⟩ | exact ⟨rfl, rfl⟩ | exact ⟨rfl, rfl, rfl, rfl⟩ | exact mulOk_l (by assumption) | exact mulOk_r (by assumption) | exact divOk (by decide) (by decide) | exact mulOk_r (by decide) | exact mulOk_l (by decide)
   | exact ⟨by walk_at "ok", by walk_at "ok"⟩ | exact ⟨by decide, by decide, by decide⟩ | decide)
local macro_rules | `(tactic| walk_at "go") => `(tactic| (conv => whnf); (first
   | ((refine And.intro (by walk_at "side") ?_); walk_at "go")
   | ((refine Br.nt ?_); walk_at "go")
   | ((refine Br.tt (by assumption) ?_); walk_at "go")
   | ((refine Br.ff (by assumption) ?_); walk_at "go")
   | ((refine fun (_ : PySem.Addr) => ?_); walk_at "go")
   | ((refine Br.dec (fun hc => ?_) (fun hc => ?_)) <;> (first | exact absurd rfl hc | (exfalso; omega) | walk_at "go"))
   | ((refine optK_in (by assumption) ?_); walk_at "go")
   | ((refine ⟨_, Sub.refl _, ?_⟩); walk_at "go")
   | skip))
local macro_rules | `(tactic| walk_at "upto") => `(tactic| (conv => whnf); (first
   | ((refine And.intro (by walk_at "side") ?_); walk_at "upto")
   | ((refine Br.nt ?_); walk_at "upto")
   | ((refine fun (_ : PySem.Addr) => ?_); walk_at "upto")
   | ((refine optK_in (by assumption) ?_); walk_at "upto")
   | ((refine ⟨_, Sub.refl _, ?_⟩); walk_at "upto")
   | skip))
local macro_rules | `(tactic| walk_at "heap") => `(tactic| first | assumption | exact put_self | (refine put_at (by first | assumption | omega) ?_; walk_at "heap"))
local macro_rules | `(tactic| walk_at "hp") => `(tactic| first
   | ((refine ins_in (by walk_at "heap") ?_); walk_at "go"; walk_at "hp")
   | ((refine vw_con (by walk_at "heap") ?_); walk_at "go"; walk_at "hp")
   | skip)
-- needs:
namespace Gp
open Mp
/-! S_base: what most laws use. -/
abbrev Xg := Nat → List U → Hh → Prop
abbrev Qg := R → Hh → Prop
/-- a list handed in: as a value, its own, or lent -/
def Lp (sv : SV) (u : U) : Prop := sv = .u u ∨ sv = .own u ∨ ∃ t, sv = .fz t u
theorem Lp.v {u : U} : Lp (.u u) u := .inl rfl
theorem Lp.o {u : U} : Lp (.own u) u := .inr (.inl rfl)
theorem Lp.f {u : U} {t : PySem.Addr} : Lp (.fz t u) u := .inr (.inr ⟨t, rfl⟩)
theorem lvl {k m : Nat} (h : k < m) : ∃ n, m = n + 1 ∧ k ≤ n := ⟨m - 1, by omega, by omega⟩
theorem ints_mem {x : U} {l : List Int} (h : x ∈ l.map U.int) : ∃ i ∈ l, x = .int i := by
  obtain ⟨i, hi, e⟩ := List.mem_map.mp h
  exact ⟨i, hi, e.symm⟩
theorem range_len {a b : Int} : (rangeI a b).length = (b - a).toNat := by simp [rangeI]
/-- range(a, b) as a map -/
theorem range_map (a b : Int) : rangeI a b = (List.range (b - a).toNat).map fun (k : Nat) => U.int (a + (k : Int)) := rfl
theorem range_map0 (n : Nat) : rangeI 0 (n : Int) = (List.range n).map fun (k : Nat) => U.int (k : Int) := by
  unfold rangeI
  rw [Int.sub_zero, Int.toNat_natCast]
  refine List.map_congr_left fun k _ => by rw [Int.zero_add]
theorem range_mem {a b : Int} {x : U} (h : x ∈ rangeI a b) : ∃ i, x = .int i ∧ a ≤ i ∧ i < b := by
  unfold rangeI at h
  obtain ⟨k, hk, e⟩ := List.mem_map.mp h
  have := List.mem_range.mp hk
  exact ⟨_, e.symm, by omega, by omega⟩
theorem range_at' {a b : Int} {ys zs : List U} {x : U} (e : ys ++ x :: zs = rangeI a b) : x = .int (a + ys.length) ∧ (ys.length : Int) < b - a := by
  have h0 : ys.length < (b - a).toNat := by rw [← range_len, ← e]; simp
  have h2 : (rangeI a b)[ys.length]? = some x := by rw [← e]; simp
  unfold rangeI at h2
  rw [List.getElem?_map, List.getElem?_range h0] at h2
  exact ⟨(Option.some.inj h2).symm, by omega⟩
theorem cut_sub {α : Type} {xs : List α} {lo hi : Option Int} {x : α} (h : x ∈ cut xs lo hi) : x ∈ xs := List.mem_of_mem_drop (List.mem_of_mem_take h)
theorem cut_lenle {α : Type} (xs : List α) (lo hi : Option Int) : (cut xs lo hi).length ≤ xs.length := by
  unfold cut
  rw [List.length_take, List.length_drop]
  omega
/-- xs[i:j] for places in turn -/
theorem cut_nat {α : Type} (xs : List α) (i j : Nat) : cut xs (some (i : Int)) (some (j : Int)) = (xs.drop i).take (j - i) := by
  unfold cut
  rw [HT.sIx_nat, HT.sIx_nat]
  by_cases h : i ≤ xs.length
  · rw [Nat.min_eq_left h]
    by_cases h2 : j ≤ xs.length
    · rw [Nat.min_eq_left h2]
    · rw [Nat.min_eq_right (by omega), List.take_of_length_le (by rw [List.length_drop]; omega), List.take_of_length_le (by rw [List.length_drop]; omega)]
  · rw [Nat.min_eq_right (show xs.length ≤ i by omega), List.drop_of_length_le (Nat.le_refl _), List.drop_of_length_le (show xs.length ≤ i by omega), List.take_nil, List.take_nil]
theorem cut_len2 {α : Type} {xs : List α} {i j : Int} {a b : Nat} (hi : i = (a : Int)) (hj : j = (b : Int)) (hb : b ≤ xs.length) : (cut xs (some i) (some j)).length = b - a := by
  rw [hi, hj, cut_nat, List.length_take, List.length_drop]
  omega
/-- an item by its place -/
theorem at_ok {α : Type} {xs : List α} {i : Int} (h0 : 0 ≤ i) (h1 : i < xs.length) : ∃ x, x ∈ xs ∧ xs[i.toNat]? = some x ∧ L2.atI xs i = some x := by
  have h : i.toNat < xs.length := by omega
  refine ⟨xs[i.toNat], List.getElem_mem h, List.getElem?_eq_getElem h, ?_⟩
  have := atI_nat (List.getElem?_eq_getElem h)
  rwa [Int.toNat_of_nonneg h0] at this
theorem at_map {α β : Type} {xs : List α} {i : Int} {x : α} {f : α → β} (h : L2.atI xs i = some x) : L2.atI (xs.map f) i = some (f x) := by
  unfold L2.atI at *
  rw [List.length_map]
  cases e : L2.ixN xs.length i with
  | none => rw [e] at h; cases h
  | some j =>
    rw [e] at h
    show (xs.map f)[j]? = _
    rw [List.getElem?_map, show xs[j]? = some x from h]
    rfl
theorem at_lit {α : Type} {xs : List α} {i : Int} {j : Nat} {x : α} (h : i = (j : Int)) (e : xs[j]? = some x) : L2.atI xs i = some x := by
  rw [h]
  exact atI_nat e
/-- [0] + script[:k] -/
theorem cells_len {ns : List Int} {k : Int} (hl : ns.length ≤ 63) : [U.int 0].length + (cut (List.map U.int ns) none (some k)).length ≤ PySem.sizeLine := by
  have := cut_lenle (List.map U.int ns) none (some k)
  rw [List.length_map] at this
  simp only [List.length_cons, List.length_nil, sizeLine_def]
  omega
theorem cells_map (ns : List Int) (k : Int) : [U.int 0] ++ cut (List.map U.int ns) none (some k) = (0 :: cut ns none (some k)).map U.int := by
  rw [cut_map]
  rfl
theorem cells_mem {ns : List Int} {k : Int} {x : U} (h : x ∈ id ([U.int 0] ++ cut (List.map U.int ns) none (some k))) : ∃ i, x = .int i := by
  rw [id_eq, cells_map] at h
  obtain ⟨i, _, e⟩ := ints_mem h
  exact ⟨i, e⟩
/-- what the numbers drawn are, as far as it matters -/
def Drawn (k : Nat) (ns : List Int) : Prop := ns.length = k ∧ ∀ x ∈ ns, 0 ≤ x ∧ x < 2147483647
theorem Drawn.at {k : Nat} {ns : List Int} (h : Drawn k ns) {i : Int} (h0 : 0 ≤ i) (h1 : i < k) : ∃ x : Int, 0 ≤ x ∧ x < 2147483647 ∧ x ∈ ns ∧ L2.atI (ns.map U.int) i = some (.int x) := by
  obtain ⟨x, hx, _, e⟩ := at_ok (xs := ns) h0 (by rw [h.1]; exact h1)
  exact ⟨x, (h.2 x hx).1, (h.2 x hx).2, hx, at_map e⟩
theorem numbers_ok {L : List Fn} {m : Nat} (hm : 0 < m) {c : Int} {k : Nat} (hk : k ≤ 1000) {G : Hh} {X : Xg} {Q : Qg} (h : ∀ ns : List Int, Drawn k ns → Q (.tmp (.lst (ns.map U.int))) G) : callN (Pof L) m F_l_numbers [.u (.int c), .u (.int (k : Int))] G X Q := by
  obtain ⟨m, rfl, _⟩ := lvl hm
  have hlen : (rangeI 0 (k : Int)).length = k := by simp [rangeI]
  have hlen2 : (rangeI 0 ((k : Int) + 1)).length = k + 1 := by simp [rangeI] <;> omega
  walk_at "go"
  · refine for_pre (fun ys ρ G' => ∃ n x acc, ρ = [some (.u (.int c)), some (.u (.int (k : Int))), some (.own (.lst (acc.map U.int))), some (.u (.int n)), x] ∧ G' = G ∧ acc.length = ys.length ∧ ∀ x ∈ acc, 0 ≤ x ∧ x < 2147483647) ⟨_, _, [], rfl, rfl, rfl, by simp⟩ ?_ ?_
    · rintro ys x zs ρ G' K e ⟨n, x1, acc, rfl, rfl, h1, h2⟩ hK
      have hl : ys.length < k := by rw [← hlen, ← e]; simp
      walk_at "go"
      refine hK _ _ ⟨_, _, acc ++ [n % 5040], by simp only [List.map_append, List.map_cons, List.map_nil]; rfl, rfl, by simp [h1], fun y hy => ?_⟩
      rcases List.mem_append.mp hy with hy | hy
      · exact h2 y hy
      · simp at hy; omega
    · rintro ρ G' ⟨n, x1, acc, rfl, rfl, h1, h2⟩
      walk_at "go"
      exact h acc ⟨by rw [h1, hlen], h2⟩
  · refine for_pre (fun ys ρ G' => ∃ n x acc, ρ = [some (.u (.int c)), some (.u (.int (k : Int))), some (.own (.lst (acc.map U.int))), some (.u (.int n)), x] ∧ G' = G ∧ acc.length = ys.length ∧ ∀ x ∈ acc, 0 ≤ x ∧ x < 2147483647) ⟨_, _, [], rfl, rfl, rfl, by simp⟩ ?_ ?_
    · rintro ys x zs ρ G' K e ⟨n, x1, acc, rfl, rfl, h1, h2⟩ hK
      obtain ⟨rfl, hl⟩ := range_at' e
      generalize (0 : Int) + (ys.length : Int) = i
      walk_at "go"
      refine hK _ _ ⟨_, _, acc ++ [(n + i + 1) * 48271 % 2147483647 * 69621 % 2147483629], by simp only [List.map_append, List.map_cons, List.map_nil]; rfl, rfl, by simp [h1], fun y hy => ?_⟩
      rcases List.mem_append.mp hy with hy | hy
      · exact h2 y hy
      · simp at hy; omega
    · rintro ρ G' ⟨n, x1, acc, rfl, rfl, h1, h2⟩
      walk_at "go"
      have := h (acc.drop 1) ⟨by rw [List.length_drop, h1, hlen2]; omega, fun x hx => h2 x (List.mem_of_mem_drop hx)⟩
      rw [cut_map, show (1 : Int) = ((1 : Nat) : Int) from rfl, cut_from]
      exact this
theorem cell_at_ok {L : List Fn} {m : Nat} (hm : 0 < m) {sv : SV} {ns : List Int} (hs : Lp sv (.lst (ns.map U.int))) {k : Nat} {G : Hh} {X : Xg} {Q : Qg} (h : ∀ c : Int, Q (.u (.int c)) G) : callN (Pof L) m F_l_cell_at [sv, .u (.int (k : Int))] G X Q := by
  obtain ⟨m, rfl, _⟩ := lvl hm
  rcases hs with rfl | rfl | ⟨t, rfl⟩
  all_goals
    walk_at "go"
    · rename_i hc
      obtain ⟨x, _, _, e⟩ := at_ok (xs := ns) (i := (k : Int)) (by omega) (by simpa using hc)
      refine optK_in (at_map e) ?_
      walk_at "go"
      exact h _
    · exact h _
/-! ### signs -/
def sg : List Nat := [32, 33, 34, 35, 36, 38, 39, 40, 41, 42, 43, 44, 45, 46, 47, 48, 49, 50, 51, 52, 53, 54, 55, 56, 57, 58, 59, 60, 61, 62, 63, 64, 65, 66, 67, 68, 69, 70, 71, 72, 73, 74, 75, 76, 77, 78, 79, 80, 81, 82, 83, 84, 85, 86, 87, 88, 89, 90, 91, 92, 93, 94, 95, 96, 97, 98, 99, 100, 101, 102, 103, 104, 105, 106, 107, 108, 109, 110, 111, 112, 113, 114, 115, 116, 117, 118, 119, 120, 121, 122, 123, 124, 125, 126]
theorem sg_at : ∀ j : Nat, j < 94 → ∃ c, sg[j]? = some c ∧ c ∈ sg ∧ idxOfS c sg 0 = some j := by
  have h : (List.range 94).all (fun j => match sg[j]? with
    | some c => decide (c ∈ sg) && decide (idxOfS c sg 0 = some j)
    | none => false) = true := by decide +kernel
  intro j hj
  have := List.all_eq_true.mp h j (List.mem_range.mpr hj)
  cases e : sg[j]? with
  | none => rw [e] at this; cases this
  | some c =>
    rw [e] at this
    simp only [Bool.and_eq_true, decide_eq_true_eq] at this
    exact ⟨c, rfl, this.1, this.2⟩
/-- a sign's number -/
def num (c : Nat) : Nat := (idxOfS c sg 0).getD 0
theorem sg_num {c : Nat} (h : c ∈ sg) : idxOfS c sg 0 = some (num c) ∧ num c < 94 ∧ sg[num c]? = some c := by
  have k : sg.all (fun c => match idxOfS c sg 0 with
    | some j => decide (j < 94) && decide (sg[j]? = some c)
    | none => false) = true := by decide +kernel
  have := List.all_eq_true.mp k c h
  unfold num
  cases e : idxOfS c sg 0 with
  | none => rw [e] at this; cases this
  | some j =>
    rw [e] at this
    simp only [Bool.and_eq_true, decide_eq_true_eq] at this
    exact ⟨rfl, this.1, this.2⟩
theorem num_inj {c d : Nat} (hc : c ∈ sg) (hd : d ∈ sg) (h : num c = num d) : c = d := by
  have h1 := (sg_num hc).2.2
  have h2 := (sg_num hd).2.2
  rw [h, h2] at h1
  exact (Option.some.inj h1).symm
theorem sg_ok : ∀ c ∈ sg, c < 1114112 := by decide +kernel
theorem signs_ok {L : List Fn} {m : Nat} (hm : 0 < m) {G : Hh} {X : Xg} {Q : Qg} (h : Q (.u (.str sg)) G) : callN (Pof L) m F_l_signs [] G X Q := by
  obtain ⟨m, rfl, _⟩ := lvl hm
  walk_at "go"
  exact h
theorem number_of_ok {L : List Fn} {m : Nat} (hm : 0 < m) {c : Nat} (hc : c ∈ sg) {G : Hh} {X : Xg} {Q : Qg} (h : Q (.u (.int (num c))) G) : callN (Pof L) m F_signs_number_of [.u (.str [c])] G X Q := by
  obtain ⟨m, rfl, _⟩ := lvl hm
  have e := (sg_num hc).1
  walk_at "go"
  first | exact h | (refine optK_in e ?_; walk_at "go"; exact h)
theorem sign_of_ok {L : List Fn} {m : Nat} (hm : 0 < m) {j : Nat} {c : Nat} (hj : sg[j]? = some c) {G : Hh} {X : Xg} {Q : Qg} (h : Q (.u (.str [c])) G) : callN (Pof L) m F_signs_sign_of [.u (.int (j : Int))] G X Q := by
  obtain ⟨m, rfl, _⟩ := lvl hm
  walk_at "go"
  refine optK_in (atI_nat hj) ?_
  walk_at "go"
  exact h
theorem strs_mem {x : U} {s : List Nat} (h : x ∈ s.map fun c => U.str [c]) : ∃ c ∈ s, x = .str [c] := by
  obtain ⟨i, hi, e⟩ := List.mem_map.mp h
  exact ⟨i, hi, e.symm⟩
theorem allInt_nat (l : List Int) : allInt (l.map U.int) = some l := allInt_map l
theorem numbers_of_ok {L : List Fn} {m : Nat} (hm : 1 < m) {s : List Nat} (hs : ∀ c ∈ s, c ∈ sg) (hl : s.length ≤ 100000) {G : Hh} {X : Xg} {Q : Qg} (h : Q (.tmp (.lst (s.map fun c => U.int (num c)))) G) : callN (Pof L) m F_signs_numbers_of [.u (.str s)] G X Q := by
  obtain ⟨m, rfl, _⟩ := lvl hm
  walk_at "go"
  refine lc_map (f := fun c => U.str [c]) (fun c => some (.int (num c))) (fun c hc N hN => ?_) ?_
  · walk_at "go"
    refine number_of_ok (by omega) (hs c hc) ?_
    walk_at "go"
    exact hN
  · rw [List.nil_append, filterMap_some]
    walk_at "go"
    exact h
/-! ### is_text, is_number -/
theorem all_true {α : Type} {f : α → Bool} {xs : List α} : (xs.map f).all id = xs.all f := by
  rw [List.all_map]
  rfl
theorem allBl_mapf {α : Type} (f : α → Bool) (xs : List α) : allBl (xs.map fun x => U.bl (f x)) = some (xs.map f) := by
  have := allBl_map (xs.map f)
  rwa [List.map_map] at this
def isText (u : U) (most : Int) : Bool := match u with
  | .str s => decide ((s.length : Int) ≤ most) && s.all fun c => decide (c ∈ sg)
  | _ => false
def isNumber (u : U) : Bool := match u with
  | .int i => decide (0 ≤ i) && decide (i ≤ 999999999)
  | _ => false
mutual
/-- plain data, at most n deep, of sizes that may be -/
def plU : Nat → U → Bool
  | _, .non => true
  | _, .bl _ => true
  | _, .int _ => true
  | _, .str s => decide (s.length ≤ 1000000)
  | n + 1, .tup xs => decide (xs.length ≤ 1000000) && plUs n xs
  | n + 1, .lst xs => decide (xs.length ≤ 1000000) && plUs n xs
  | _, _ => false
def plUs : Nat → List U → Bool
  | _, [] => true
  | n, x :: xs => plU n x && plUs n xs
end
mutual
theorem plU_ok : ∀ (n : Nat) (u : U), plU n u = true → okU n u = true
  | _, .non, _ => by simp [okU]
  | _, .bl _, _ => by simp [okU]
  | _, .int _, _ => by simp [okU]
  | _, .str _, _ => by simp [okU]
  | n + 1, .tup xs, h => by
    simp only [plU, Bool.and_eq_true] at h
    simp only [okU]
    exact plUs_ok n xs h.2
  | n + 1, .lst xs, h => by
    simp only [plU, Bool.and_eq_true] at h
    simp only [okU]
    exact plUs_ok n xs h.2
  | 0, .tup _, h => by simp [plU] at h
  | 0, .lst _, h => by simp [plU] at h
  | _, .dic _ _, h => by simp [plU] at h
  | _, .set _, h => by simp [plU] at h
  | _, .ref _, h => by simp [plU] at h
theorem plUs_ok : ∀ (n : Nat) (us : List U), plUs n us = true → okUs n us = true
  | _, [], _ => by simp [okUs]
  | n, u :: us, h => by
    simp only [plUs, Bool.and_eq_true] at h
    simp only [okUs, Bool.and_eq_true]
    exact ⟨plU_ok n u h.1, plUs_ok n us h.2⟩
end
mutual
theorem plU_mono : ∀ (n m : Nat) (u : U), n ≤ m → plU n u = true → plU m u = true
  | n, m, .non, _, _ => by simp [plU]
  | n, m, .bl _, _, _ => by simp [plU]
  | n, m, .int _, _, _ => by simp [plU]
  | n, m, .str _, _, h => by simpa [plU] using h
  | n + 1, m + 1, .tup xs, l, h => by
    simp only [plU, Bool.and_eq_true] at h ⊢
    exact ⟨h.1, plUs_mono n m xs (by omega) h.2⟩
  | n + 1, m + 1, .lst xs, l, h => by
    simp only [plU, Bool.and_eq_true] at h ⊢
    exact ⟨h.1, plUs_mono n m xs (by omega) h.2⟩
  | n + 1, 0, .tup _, l, h => by omega
  | n + 1, 0, .lst _, l, h => by omega
  | 0, m, .tup _, _, h => by simp [plU] at h
  | 0, m, .lst _, _, h => by simp [plU] at h
  | _, m, .dic _ _, _, h => by simp [plU] at h
  | _, m, .set _, _, h => by simp [plU] at h
  | _, m, .ref _, _, h => by simp [plU] at h
theorem plUs_mono : ∀ (n m : Nat) (us : List U), n ≤ m → plUs n us = true → plUs m us = true
  | _, _, [], _, _ => by simp [plUs]
  | n, m, u :: us, l, h => by
    simp only [plUs, Bool.and_eq_true] at h ⊢
    exact ⟨plU_mono n m u l h.1, plUs_mono n m us l h.2⟩
end
theorem plUs_iff {n : Nat} : ∀ {us : List U}, plUs n us = true ↔ ∀ u ∈ us, plU n u = true
  | [] => by simp [plUs]
  | u :: us => by simp [plUs, plUs_iff (us := us)]
theorem plU_str {n : Nat} {s : List Nat} (h : plU n (.str s) = true) : s.length ≤ 1000000 := by simpa [plU] using h
theorem plU_tup {n : Nat} {xs : List U} (h : plU (n + 1) (.tup xs) = true) : xs.length ≤ 1000000 ∧ plUs n xs = true := by
  simpa [plU] using h
theorem plU_lst {n : Nat} {xs : List U} (h : plU (n + 1) (.lst xs) = true) : xs.length ≤ 1000000 ∧ plUs n xs = true := by
  simpa [plU] using h
theorem plU_tup' {n : Nat} {xs : List U} (h : plU n (.tup xs) = true) : ∃ k, n = k + 1 ∧ xs.length ≤ 1000000 ∧ plUs k xs = true := by
  cases n with
  | zero => simp [plU] at h
  | succ k => exact ⟨k, rfl, by simpa [plU] using h⟩
theorem plU_lst' {n : Nat} {xs : List U} (h : plU n (.lst xs) = true) : ∃ k, n = k + 1 ∧ xs.length ≤ 1000000 ∧ plUs k xs = true := by
  cases n with
  | zero => simp [plU] at h
  | succ k => exact ⟨k, rfl, by simpa [plU] using h⟩
mutual
theorem eq_self : ∀ (n : Nat) (u : U), okU n u = true → eqU u u = true
  | _, .non, _ => by simp [eqU]
  | _, .bl _, _ => by simp [eqU]
  | _, .int _, _ => by simp [eqU]
  | _, .str _, _ => by simp [eqU]
  | n + 1, .tup xs, h => by
    simp only [okU] at h
    simp only [eqU]
    exact eqs_self n xs h
  | n + 1, .lst xs, h => by
    simp only [okU] at h
    simp only [eqU]
    exact eqs_self n xs h
  | 0, .tup _, h => by simp [okU] at h
  | 0, .lst _, h => by simp [okU] at h
  | _, .dic _ _, h => by simp [okU] at h
  | _, .set _, h => by simp [okU] at h
  | _, .ref _, h => by simp [okU] at h
theorem eqs_self : ∀ (n : Nat) (us : List U), okUs n us = true → eqUs us us = true
  | _, [], _ => by simp [eqUs]
  | n, u :: us, h => by
    simp only [okUs, Bool.and_eq_true] at h
    simp only [eqUs, Bool.and_eq_true]
    exact ⟨eq_self n u h.1, eqs_self n us h.2⟩
end
theorem eq_ints_self (xs : List Int) : eqU (.lst (xs.map U.int)) (.lst (xs.map U.int)) = true := eq_self _ _ (ok_ints xs)
theorem eq_strs_self (xs : List (List Nat)) : eqU (.lst (xs.map U.str)) (.lst (xs.map U.str)) = true := eq_self _ _ (ok_strs xs)
theorem is_text_ok {L : List Fn} {m n : Nat} (hm : 0 < m) {u : U} {most : Int} (hu : plU n u = true) {G : Hh} {X : Xg} {Q : Qg} (h : Q (.u (.bl (isText u most))) G) : callN (Pof L) m F_signs_is_text [.u u, .u (.int most)] G X Q := by
  obtain ⟨m, rfl, _⟩ := lvl hm
  cases u
  case ref a => simp [plU] at hu
  all_goals walk_at "go"
  all_goals first | exact h | skip
  · rename_i s hc
    have hl := plU_str hu
    refine ⟨by rw [sizeLine_def]; simp; omega, ?_⟩
    walk_at "go"
    refine lc_map (f := fun c => U.str [c]) (fun c => some (.bl (decide (c ∈ sg)))) (fun c hc N hN => ?_) ?_
    · walk_at "go"
      exact hN
    · rw [List.nil_append, filterMap_some]
      walk_at "go"
      refine optK_in (allBl_mapf _ _) ?_
      walk_at "go"
      have e : isText (.str s) most = List.all (s.map fun c => decide (c ∈ sg)) id := by
        rw [all_true]
        simp [isText, hc]
      rw [e] at h
      exact h
  · rename_i s hc
    have e : isText (.str s) most = false := by simp [isText, hc]
    rw [e] at h
    exact h
theorem is_number_ok {L : List Fn} {m n : Nat} (hm : 0 < m) {u : U} (hu : plU n u = true) {G : Hh} {X : Xg} {Q : Qg} (h : Q (.u (.bl (isNumber u))) G) : callN (Pof L) m F_things_is_number [.u u] G X Q := by
  obtain ⟨m, rfl, _⟩ := lvl hm
  cases u
  case ref a => simp [plU] at hu
  all_goals walk_at "go"
  all_goals first | exact h | skip
  · rename_i i h0
    simp only [isNumber, h0, decide_true, Bool.true_and] at h
    exact h
  · rename_i i h0
    simp only [isNumber, h0, decide_false, Bool.false_and] at h
    exact h
/-- comprehensions over items that are no map -/
theorem lc_mem {own : List Nat} {ck : Rho → Hh → Prop} {turn : U → Rho → Hh → (Option U → Rho → Hh → Prop) → Prop} {Q : List U → Rho → Hh → Prop} {ρ : Rho} {G : Hh} (g : U → Option U) {us acc : List U}
    (hs : ∀ x ∈ us, ∀ N : Option U → Rho → Hh → Prop, N (g x) ρ G → turn x ρ G (fun o ρ' G' => wipeK ρ' own fun ρ2 => ck ρ2 G' ∧ N o ρ2 G')) (h : Q (acc ++ us.filterMap g) ρ G) : lcI own ck turn us acc ρ G Q := by
  have := lc_map (own := own) (ck := ck) (turn := turn) (Q := Q) (f := id) (ρ := ρ) (G := G) g (xs := us) (acc := acc) hs h
  rwa [List.map_id] at this
theorem plU_eq {n : Nat} {u : U} (h : plU n u = true) (hn : n ≤ 40) : okU deepU u = true ∧ eqU u u = true := by
  have h1 := plU_ok _ _ (plU_mono n 40 u hn h)
  exact ⟨h1, eq_self _ _ h1⟩
theorem eq_nil {xs : List U} : eqU (.lst xs) (.lst []) = xs.isEmpty := by
  cases xs <;> simp [eqU, eqUs]
end Gp

-- needs: S_base
namespace Gp
open Mp
/-! S_things: is_thing; copies. -/
mutual
def thg : Nat → U → Bool
  | d + 1, .int i => decide (0 ≤ i) && decide (i ≤ 999999999)
  | d + 1, .str s => decide (s.length ≤ 400) && s.all fun c => decide (c ∈ sg)
  | d + 1, .tup xs => decide (xs.length ≤ 100) && thgs d xs
  | _, _ => false
def thgs : Nat → List U → Bool
  | _, [] => true
  | d, x :: xs => thg d x && thgs d xs
end
theorem thgs_all {d : Nat} : ∀ {xs : List U}, thgs d xs = xs.all (thg d)
  | [] => by simp [thgs]
  | x :: xs => by simp [thgs, thgs_all (xs := xs)]
theorem thg_zero {u : U} : thg 0 u = false := by cases u <;> simp [thg]
theorem thg_succ {d : Nat} {u : U} : thg (d + 1) u = (isNumber u || isText u 400 || match u with
  | .tup xs => decide (xs.length ≤ 100) && thgs d xs
  | _ => false) := by
  cases u <;> simp [thg, isNumber, isText]
  rw [show ((400 : Int)) = ((400 : Nat) : Int) from rfl]
  simp only [Int.ofNat_le]
theorem within_ok {L : List Fn} : ∀ (d : Nat) {m n : Nat} (_ : d ≤ 8) (_ : d + 1 < m) {u : U} (_ : plU n u = true) {G : Hh} {X : Xg} {Q : Qg} (_ : Q (.u (.bl (thg d u))) G), callN (Pof L) m F_things_is_within [.u u, .u (.int (d : Int))] G X Q := by
  intro d
  induction d with
  | zero =>
    intro m n hd hm u hu G X Q h
    obtain ⟨m, rfl, hm2⟩ := lvl hm
    rw [thg_zero] at h
    walk_at "go"
    refine is_number_ok (n := n) (by omega) hu ?_
    walk_at "go"
    refine Br.any (fun h1 => ?_) (fun h1 => ?_)
    · walk_at "go"
      exact h
    · walk_at "go"
      refine is_text_ok (n := n) (by omega) hu ?_
      walk_at "go"
      refine Br.any (fun h2 => ?_) (fun h2 => ?_)
      · walk_at "go"
        exact h
      · cases u
        case ref a => simp [plU] at hu
        case tup xs =>
          walk_at "go"
          all_goals exact h
        all_goals
          walk_at "go"
          exact h
  | succ d ih =>
    intro m n hd hm u hu G X Q h
    obtain ⟨m, rfl, hm2⟩ := lvl hm
    rw [thg_succ] at h
    have hpos' : decide ((0 : Int) < ((d + 1 : Nat) : Int)) = true := decide_eq_true (by omega)
    walk_at "go"
    refine is_number_ok (n := n) (by omega) hu ?_
    walk_at "go"
    refine Br.any (fun h1 => ?_) (fun h1 => ?_)
    · rw [h1] at h
      walk_at "go"
      rw [hpos']
      exact h
    · rw [h1] at h
      walk_at "go"
      refine is_text_ok (n := n) (by omega) hu ?_
      walk_at "go"
      refine Br.any (fun h2 => ?_) (fun h2 => ?_)
      · rw [h2] at h
        walk_at "go"
        rw [hpos']
        exact h
      · rw [h2] at h
        cases u
        case ref a => simp [plU] at hu
        case tup xs =>
          obtain ⟨k, rfl, hxl, hxs⟩ := plU_tup' hu
          simp only [Bool.false_or] at h
          by_cases hl : (xs.length : Int) > 100
          · have : decide (xs.length ≤ 100) = false := decide_eq_false (by omega)
            rw [this] at h
            walk_at "go"
            exact h
          · have : decide (xs.length ≤ 100) = true := decide_eq_true (by omega)
            rw [this] at h
            have hsz : (id xs).length ≤ PySem.sizeLine := by rw [sizeLine_def]; simp; omega
            have hd1 : ((d + 1 : Nat) : Int) - 1 = (d : Int) := by omega
            walk_at "go"
            refine lc_mem (fun x => some (.bl (thg d x))) (fun x hx N hN => ?_) ?_
            · walk_at "go"
              rw [hd1]
              refine ih (n := k) (by omega) (by omega) (plUs_iff.mp hxs x hx) ?_
              walk_at "go"
              exact hN
            · rw [List.nil_append, filterMap_some]
              walk_at "go"
              refine optK_in (allBl_mapf _ _) ?_
              walk_at "go"
              simp only [Bool.true_and, thgs_all] at h
              rw [all_true]
              exact h
        all_goals
          walk_at "go"
          exact h
theorem is_thing_ok {L : List Fn} {m n : Nat} (hm : 10 < m) {u : U} (hu : plU n u = true) {G : Hh} {X : Xg} {Q : Qg} (h : Q (.u (.bl (thg 8 u))) G) : callN (Pof L) m F_things_is_thing [.u u] G X Q := by
  obtain ⟨m, rfl, hm2⟩ := lvl hm
  walk_at "go"
  refine within_ok (n := n) 8 (by omega) (by omega) hu ?_
  walk_at "go"
  exact h
/-- a copy of plain data -/
theorem copied_ok {L : List Fn} : ∀ (n : Nat) {m : Nat} (_ : n < m) {u : U} (_ : plU n u = true) {G : Hh} {X : Xg} {Q : Qg} (_ : ∀ r, (r = .u u ∨ (r = .tmp u ∧ ∃ xs, u = .lst xs)) → Q r G), callN (Pof L) m F_l_copied [.u u] G X Q := by
  intro n
  induction n with
  | zero =>
    intro m hm u hu G X Q h
    obtain ⟨m, rfl, hm2⟩ := lvl hm
    cases u
    case ref a => simp [plU] at hu
    case tup xs => simp [plU] at hu
    case lst xs => simp [plU] at hu
    all_goals
      walk_at "go"
      exact h _ (.inl rfl)
  | succ n ih =>
    intro m hm u hu G X Q h
    obtain ⟨m, rfl, hm2⟩ := lvl hm
    have one : ∀ xs : List U, (xs.filterMap fun x => some x) = xs := fun xs => by
      induction xs with
      | nil => rfl
      | cons a xs ih => simp
    cases u
    case ref a => simp [plU] at hu
    case tup xs =>
      obtain ⟨hxl, hxs⟩ := plU_tup hu
      have hsz : (id xs).length ≤ PySem.sizeLine := by rw [sizeLine_def]; simp; omega
      walk_at "go"
      refine lc_mem (fun x => some x) (fun x hx N hN => ?_) ?_
      · walk_at "go"
        refine ih (by omega) (plUs_iff.mp hxs x hx) fun r hr => ?_
        rcases hr with rfl | ⟨rfl, _⟩
        · walk_at "go"
          exact hN
        · walk_at "go"
          exact hN
      · rw [List.nil_append, one]
        walk_at "go"
        exact h _ (.inl rfl)
    case lst xs =>
      obtain ⟨hxl, hxs⟩ := plU_lst hu
      have hsz : (id xs).length ≤ PySem.sizeLine := by rw [sizeLine_def]; simp; omega
      walk_at "go"
      refine lc_mem (fun x => some x) (fun x hx N hN => ?_) ?_
      · walk_at "go"
        refine ih (by omega) (plUs_iff.mp hxs x hx) fun r hr => ?_
        rcases hr with rfl | ⟨rfl, _⟩
        · walk_at "go"
          exact hN
        · walk_at "go"
          exact hN
      · rw [List.nil_append, one]
        walk_at "go"
        exact h _ (.inr ⟨rfl, _, rfl⟩)
    all_goals
      walk_at "go"
      exact h _ (.inl rfl)
end Gp

-- needs: S_base
namespace Gp
open Mp
/-! S_blocks: names, tags. -/
def named : List Nat := [97, 98, 99, 100, 101, 102, 103, 104, 105, 106, 107, 108, 109, 110, 111, 112, 113, 114, 115, 116, 117, 118, 119, 120, 121, 122, 48, 49, 50, 51, 52, 53, 54, 55, 56, 57]
def isName : U → Bool
  | .str s => (decide (1 ≤ s.length) && decide (s.length ≤ 8)) && s.all fun c => decide (c ∈ named)
  | _ => false
def isTag : U → Bool
  | .tup [a, b, c] => (isNumber a && (isNumber b && isNumber c)) && (match a, c with
    | .int i, .int k => (decide (1 ≤ i) && decide (i ≤ 999999)) && decide (k < 997)
    | _, _ => false)
  | _ => false
theorem is_name_ok {L : List Fn} {m n : Nat} (hm : 0 < m) {u : U} (hu : plU n u = true) {G : Hh} {X : Xg} {Q : Qg} (h : Q (.u (.bl (isName u))) G) : callN (Pof L) m F_blocks_is_name [.u u] G X Q := by
  obtain ⟨m, rfl, _⟩ := lvl hm
  cases u
  case ref a => simp [plU] at hu
  case str s =>
    have hl := plU_str hu
    have hsz : (id (s.map fun c => U.str [c])).length ≤ PySem.sizeLine := by rw [sizeLine_def]; simp; omega
    simp only [isName] at h
    walk_at "go"
    · rename_i h1 h2
      rw [decide_eq_true (show 1 ≤ s.length by omega), decide_eq_true (show s.length ≤ 8 by omega), Bool.true_and, Bool.true_and] at h
      refine lc_map (f := fun c => U.str [c]) (fun c => some (.bl (decide (c ∈ named)))) (fun c hc N hN => ?_) ?_
      · walk_at "go"
        exact hN
      · rw [List.nil_append, filterMap_some]
        walk_at "go"
        refine optK_in (allBl_mapf _ _) ?_
        walk_at "go"
        rw [all_true]
        exact h
    · rename_i h1 h2
      rw [decide_eq_false (show ¬ s.length ≤ 8 by omega), Bool.and_false, Bool.false_and] at h
      exact h
    · rename_i h1
      rw [decide_eq_false (show ¬ 1 ≤ s.length by omega), Bool.false_and, Bool.false_and] at h
      exact h
  all_goals
    walk_at "go"
    exact h
theorem isNumber_int {u : U} (h : isNumber u = true) : ∃ i : Int, u = .int i ∧ 0 ≤ i ∧ i ≤ 999999999 := by
  cases u <;> simp only [isNumber, Bool.and_eq_true, decide_eq_true_eq, reduceCtorEq] at h
  exact ⟨_, rfl, h.1, h.2⟩
theorem isTag_len {xs : List U} (h : xs.length ≠ 3) : isTag (.tup xs) = false := by
  match xs, h with
  | [], _ => rfl
  | [_], _ => rfl
  | [_, _], _ => rfl
  | [_, _, _], h => exact absurd rfl h
  | _ :: _ :: _ :: _ :: _, _ => rfl
theorem is_tag_ok {L : List Fn} {m n : Nat} (hm : 1 < m) {u : U} (hu : plU n u = true) {G : Hh} {X : Xg} {Q : Qg} (h : Q (.u (.bl (isTag u))) G) : callN (Pof L) m F_blocks_is_tag [.u u] G X Q := by
  obtain ⟨m, rfl, _⟩ := lvl hm
  cases u
  case ref a => simp [plU] at hu
  case tup xs =>
    obtain ⟨k, rfl, hl, hxs⟩ := plU_tup' hu
    have hsz : (id xs).length ≤ PySem.sizeLine := by rw [sizeLine_def]; simp; omega
    by_cases h3 : xs.length = 3
    · match xs, h3 with
      | [a, b, c], _ =>
        simp only [plUs, Bool.and_eq_true, and_true] at hxs
        walk_at "go"
        refine lc_mem (fun x => some (.bl (isNumber x))) (fun x hx N hN => ?_) ?_
        · walk_at "go"
          refine is_number_ok (n := k) (by omega) (by
            rcases List.mem_cons.mp hx with rfl | hx
            · exact hxs.1
            rcases List.mem_cons.mp hx with rfl | hx
            · exact hxs.2.1
            rcases List.mem_cons.mp hx with rfl | hx
            · exact hxs.2.2
            · cases hx) ?_
          walk_at "go"
          exact hN
        · rw [List.nil_append, filterMap_some]
          walk_at "go"
          have e : ((fun x => isNumber a :: x) ((fun x => isNumber b :: x) ((fun x => isNumber c :: x) []))).all id = (isNumber a && (isNumber b && isNumber c)) := by simp
          rw [e]
          simp only [isTag] at h
          refine Br.any (fun h1 => ?_) (fun h1 => ?_)
          · rw [h1, Bool.true_and] at h
            simp only [Bool.and_eq_true] at h1
            obtain ⟨i, rfl, hi0, hi1⟩ := isNumber_int h1.1
            obtain ⟨j, rfl, hj0, hj1⟩ := isNumber_int h1.2.2
            simp only at h
            walk_at "go"
            all_goals
              refine Eq.mp (congrArg (fun b => Q (R.u (U.bl b)) G) (?_ : (decide (1 ≤ i) && decide (i ≤ 999999) && decide (j < 997)) = _)) h
              simp [*]
          · rw [h1, Bool.false_and] at h
            walk_at "go"
            exact h
    · rw [isTag_len h3] at h
      walk_at "go"
      exact h
  all_goals
    walk_at "go"
    exact h
def wholeB (u : U) (a b : Int) : Bool := match u with
  | .int i => decide (a ≤ i) && decide (i ≤ b)
  | _ => false
theorem whole_from_ok {L : List Fn} {m n : Nat} (hm : 0 < m) {u : U} {a b : Int} (hu : plU n u = true) {G : Hh} {X : Xg} {Q : Qg} (h : Q (.u (.bl (wholeB u a b))) G) : callN (Pof L) m F_l_whole_from [.u u, .u (.int a), .u (.int b)] G X Q := by
  obtain ⟨m, rfl, _⟩ := lvl hm
  cases u
  case ref a => simp [plU] at hu
  case int i =>
    simp only [wholeB] at h
    walk_at "go"
    all_goals
      refine Eq.mp (congrArg (fun b => Q (R.u (U.bl b)) G) (?_ : (decide (a ≤ i) && decide (i ≤ b)) = _)) h
      simp [*]
  all_goals
    walk_at "go"
    exact h
theorem lname_ok {L : List Fn} {m n : Nat} (hm : 0 < m) {u : U} (hu : plU n u = true) (hn : n ≤ 40) {G : Hh} {X : Xg} {Q : Qg} (h : Q (.u (.bl (isName u))) G) : callN (Pof L) m F_l_is_name [.u u] G X Q := by
  obtain ⟨m, rfl, _⟩ := lvl hm
  cases u
  case ref a => simp [plU] at hu
  case str s =>
    have hl := plU_str hu
    have hsz : (id (s.map fun c => U.str [c])).length ≤ PySem.sizeLine := by rw [sizeLine_def]; simp; omega
    simp only [isName] at h
    walk_at "go"
    · rename_i h1
      rw [decide_eq_false (show ¬ 1 ≤ s.length by omega), Bool.false_and, Bool.false_and] at h
      exact h
    · rename_i h1 h2
      rw [decide_eq_false (show ¬ s.length ≤ 8 by omega), Bool.and_false, Bool.false_and] at h
      exact h
    · rename_i h1 h2
      rw [decide_eq_true (show 1 ≤ s.length by omega), decide_eq_true (show s.length ≤ 8 by omega), Bool.true_and, Bool.true_and] at h
      refine lc_map (f := fun c => U.str [c]) (fun c => if c ∈ named then none else some (.str [c])) (fun c hc N hN => ?_) ?_
      · by_cases hcs : c ∈ named
        · rw [if_pos hcs] at hN
          walk_at "go"
          · exact hN
          · rename_i z
            exact absurd hcs z
        · rw [if_neg hcs] at hN
          walk_at "go"
          · rename_i z
            exact absurd z hcs
          · exact hN
      · have okk : okU deepU (.lst (s.filterMap fun c => if c ∈ named then none else some (U.str [c]))) = true := by
          show okUs 39 _ = true
          clear h hsz h1 h2
          induction s with
          | nil => rfl
          | cons c s ih2 =>
            rw [List.filterMap_cons]
            split
            · exact ih2 (by simp [plU] at hu ⊢; omega) (by simp at hl; omega)
            · rename_i y hy
              split at hy
              · cases hy
              · cases hy
                simp only [okUs, okU, Bool.true_and]
                exact ih2 (by simp [plU] at hu ⊢; omega) (by simp at hl; omega)
        have e : (s.filterMap fun c => if c ∈ named then none else some (U.str [c])).isEmpty = s.all fun c => decide (c ∈ named) := by
          clear h hsz h1 h2 okk hu hl
          induction s with
          | nil => rfl
          | cons c s ih2 =>
            rw [List.filterMap_cons, List.all_cons, ← ih2]
            by_cases hcs : c ∈ named <;> simp [hcs]
        rw [← e, ← eq_nil] at h
        walk_at "go"
        exact h
  all_goals
    walk_at "go"
    exact h
end Gp

-- needs: S_base
namespace Gp
open Mp
/-! S_frac: fractions. -/
/-- a comprehension with turns that are known by a law of what is gathered -/
theorem lc_inv {own : List Nat} {ck : Rho → Hh → Prop} {turn : U → Rho → Hh → (Option U → Rho → Hh → Prop) → Prop} {Q : List U → Rho → Hh → Prop} {ρ : Rho} {G : Hh} {us : List U} (I : List U → List U → Prop) (h0 : I [] [])
    (hs : ∀ ys x zs acc, ys ++ x :: zs = us → I ys acc → ∀ N : Option U → Rho → Hh → Prop, (∀ o, I (ys ++ [x]) (addO acc o) → N o ρ G) → turn x ρ G (fun o ρ' G' => wipeK ρ' own fun ρ2 => ck ρ2 G' ∧ N o ρ2 G'))
    (h : ∀ acc, I us acc → Q acc ρ G) : lcI own ck turn us [] ρ G Q := by
  suffices key : ∀ (ys zs acc : List U), I ys acc → ys ++ zs = us → lcI own ck turn zs acc ρ G Q from key [] us [] h0 rfl
  intro ys zs
  induction zs generalizing ys with
  | nil =>
    intro acc hI e
    rw [lcI_nil]
    exact h acc (by rw [List.append_nil] at e; rw [← e]; exact hI)
  | cons x zs ih =>
    intro acc hI e
    rw [lcI_cons]
    exact hs ys x zs acc e hI _ fun o ho => ih (ys ++ [x]) _ ho (by simpa using e)
/-- both parts by their greatest common divisor -/
def red (p : Int × Int) : Int × Int := (p.1 / (Int.gcd p.1 p.2 : Int), p.2 / (Int.gcd p.1 p.2 : Int))
def prU (p : Int × Int) : U := .tup [.int p.1, .int p.2]
/-- p in lowest terms is the fraction q -/
def Red (p q : Int × Int) : Prop := 0 < p.2 ∧ 0 < q.2 ∧ p.1 * q.2 = q.1 * p.2 ∧ Int.gcd p.1 p.2 = 1
theorem red_ok {p : Int × Int} (h : 0 < p.2) : Red (red p) p := by
  obtain ⟨a, b⟩ := p
  have hg : 0 < Int.gcd a b := Int.gcd_pos_of_ne_zero_right a (by simp at h; omega)
  obtain ⟨x, hx⟩ := Int.gcd_dvd_left (a := a) (b := b)
  obtain ⟨y, hy⟩ := Int.gcd_dvd_right (a := a) (b := b)
  have hg0 : ((Int.gcd a b : Nat) : Int) ≠ 0 := by omega
  have hgp : (0 : Int) < ((Int.gcd a b : Nat) : Int) := by omega
  simp only at h
  simp only [red, Red]
  have h1 := Int.gcd_mul_left (Int.gcd a b : Int) x y
  rw [← hx, ← hy] at h1
  simp only [Int.natAbs_natCast] at h1
  have h2 : Int.gcd x y = 1 := by
    have : Int.gcd a b * 1 = Int.gcd a b * Int.gcd x y := by omega
    exact (Nat.eq_of_mul_eq_mul_left hg this).symm
  generalize (Int.gcd a b : Int) = g at *
  subst hx
  subst hy
  rw [Int.mul_ediv_cancel_left _ hg0, Int.mul_ediv_cancel_left _ hg0]
  refine ⟨?_, h, ?_, h2⟩
  · exact Int.pos_of_mul_pos_left (by rw [Int.mul_comm]; exact h) hgp
  · rw [Int.mul_left_comm, Int.mul_assoc]
theorem Red.cop {p q : Int × Int} (h : Red p q) : p.2 ≤ q.2 ∧ p.1.natAbs ≤ q.1.natAbs := by
  obtain ⟨a, b⟩ := p
  obtain ⟨c, d⟩ := q
  obtain ⟨h1, h2, h3, h4⟩ := h
  simp only at *
  have e : a.natAbs * d.natAbs = c.natAbs * b.natAbs := by rw [← Int.natAbs_mul, ← Int.natAbs_mul, h3]
  have hd : b.natAbs ∣ d.natAbs := by
    have : b.natAbs ∣ a.natAbs * d.natAbs := by rw [e]; exact Nat.dvd_mul_left _ _
    exact Nat.Coprime.dvd_of_dvd_mul_left (Nat.Coprime.symm h4) this
  have hbd := Nat.le_of_dvd (by omega) hd
  refine ⟨by omega, ?_⟩
  rcases Nat.lt_or_ge c.natAbs a.natAbs with z | z
  · exfalso
    have h5 : c.natAbs * b.natAbs ≤ c.natAbs * d.natAbs := Nat.mul_le_mul_left _ hbd
    have h6 : c.natAbs * d.natAbs < a.natAbs * d.natAbs := Nat.mul_lt_mul_of_pos_right z (by omega)
    omega
  · exact z
/-- the sum -/
def addP (p q : Int × Int) : Int × Int := (p.1 * q.2 + q.1 * p.2, p.2 * q.2)
theorem Red.add {p q p2 q2 : Int × Int} (h : Red p q) (k : Red p2 q2) : Red (red (addP p p2)) (addP q q2) := by
  obtain ⟨a, b⟩ := p
  obtain ⟨c, d⟩ := q
  obtain ⟨a2, b2⟩ := p2
  obtain ⟨c2, d2⟩ := q2
  obtain ⟨h1, h2, h3, h4⟩ := h
  obtain ⟨k1, k2, k3, k4⟩ := k
  simp only [addP] at *
  have hb : 0 < b * b2 := Int.mul_pos h1 k1
  have hd : 0 < d * d2 := Int.mul_pos h2 k2
  obtain ⟨r1, r2, r3, r4⟩ := red_ok (p := (a * b2 + a2 * b, b * b2)) hb
  generalize red (a * b2 + a2 * b, b * b2) = r at *
  obtain ⟨x, y⟩ := r
  simp only at *
  refine ⟨r1, hd, ?_, r4⟩
  have e : (a * b2 + a2 * b) * (d * d2) = (c * d2 + c2 * d) * (b * b2) := by
    calc (a * b2 + a2 * b) * (d * d2) = (a * d) * (b2 * d2) + (a2 * d2) * (b * d) := by
          simp only [Int.add_mul, Int.mul_add, Int.mul_assoc, Int.mul_comm, Int.mul_left_comm]
      _ = (c * b) * (b2 * d2) + (c2 * b2) * (b * d) := by rw [h3, k3]
      _ = (c * d2 + c2 * d) * (b * b2) := by
          simp only [Int.add_mul, Int.mul_add, Int.mul_assoc, Int.mul_comm, Int.mul_left_comm]
  have : (b * b2) * (x * (d * d2)) = (b * b2) * ((c * d2 + c2 * d) * y) := by
    calc (b * b2) * (x * (d * d2)) = (x * (b * b2)) * (d * d2) := by
          simp only [Int.mul_assoc, Int.mul_comm, Int.mul_left_comm]
      _ = ((a * b2 + a2 * b) * y) * (d * d2) := by rw [r3]
      _ = ((a * b2 + a2 * b) * (d * d2)) * y := by
          rw [Int.mul_right_comm]
      _ = ((c * d2 + c2 * d) * (b * b2)) * y := by rw [e]
      _ = (b * b2) * ((c * d2 + c2 * d) * y) := by
          rw [Int.mul_comm (c * d2 + c2 * d), Int.mul_assoc]
  exact Int.eq_of_mul_eq_mul_left (by omega) this
theorem whl_gcd {L : List Fn} {m : Nat} {rt : R → Rho → Hh → Prop} {ex : Nat → List U → Rho → Hh → Prop} {Q : Rho → Hh → Prop} {G : Hh} : ∀ (n b : Nat), b < n → ∀ (a : Nat) (_ : b < 2 ^ 8000), Q [some (.u (.int (Nat.gcd a b : Nat))), some (.u (.int 0))] G → whlN (fun ρ1 G1 K => wpE (Pof L) (callN (Pof L) m) (.cmp .ne (.loc 1) (.int 0)) ρ1 G1 ex fun r ρ2 G2 => tstK r ρ2 G2 fun k => K k ρ2 G2) (fun ρ1 G1 K => wpSs (Pof L) (callN (Pof L) m) fractions_common_w1 ρ1 G1 K rt K ex) n [some (.u (.int a)), some (.u (.int b))] G Q := by
  intro n
  induction n with
  | zero => intro b h; omega
  | succ n ih =>
    intro b hn a hb h
    walk_at "go"
    · rename_i h0
      have h0 : b = 0 := by omega
      subst h0
      simpa using h
    · rename_i h0
      have h1 : DivOk (b : Int) := ⟨by omega, by rw [Int.natAbs_natCast]; exact hb⟩
      have h2 : ((a : Int) % (b : Int)) = ((a % b : Nat) : Int) := by simp
      have h3 : a % b < b := Nat.mod_lt _ (by omega)
      have h4 : Nat.gcd b (a % b) = Nat.gcd a b := by rw [Nat.gcd_comm, ← Nat.gcd_rec, Nat.gcd_comm]
      walk_at "go"
      rw [h2]
      refine ih _ (by omega) _ (Nat.lt_trans h3 hb) ?_
      rw [h4]
      exact h
theorem common_ok {L : List Fn} {m : Nat} (hm : 0 < m) {a b : Nat} (hb : b < 2 ^ 8000) {G : Hh} {X : Xg} {Q : Qg} (h : Q (.u (.int (Nat.gcd a b : Nat))) G) : callN (Pof L) m F_fractions_common [.u (.int a), .u (.int b)] G X Q := by
  obtain ⟨m, rfl, _⟩ := lvl hm
  walk_at "go"
  refine ⟨b + 1, whl_gcd (b + 1) b (by omega) a hb ?_⟩
  walk_at "go"
  exact h
theorem lcommon_ok {L : List Fn} {m : Nat} (hm : 0 < m) {a b : Nat} (hb : b < 2 ^ 8000) {G : Hh} {X : Xg} {Q : Qg} (h : Q (.u (.int (Nat.gcd a b : Nat))) G) : callN (Pof L) m F_l_common [.u (.int a), .u (.int b)] G X Q := by
  obtain ⟨m, rfl, _⟩ := lvl hm
  walk_at "go"
  refine ⟨b + 1, whl_gcd (b + 1) b (by omega) a hb ?_⟩
  walk_at "go"
  exact h
theorem fraction_ok {L : List Fn} {m : Nat} (hm : 1 < m) {p : Int × Int} (h0 : 0 < p.2) (hb : p.2.natAbs < 2 ^ 8000) {G : Hh} {X : Xg} {Q : Qg} (h : Q (.u (prU (red p))) G) : callN (Pof L) m F_fractions_fraction [.u (.int p.1), .u (.int p.2)] G X Q := by
  obtain ⟨m, rfl, _⟩ := lvl hm
  obtain ⟨a, b⟩ := p
  simp only at h0 hb ⊢
  obtain ⟨b, rfl⟩ : ∃ n : Nat, b = n := ⟨b.natAbs, by omega⟩
  have hg : 0 < Nat.gcd a.natAbs b := Nat.gcd_pos_of_pos_right _ (by omega)
  have hg2 : Nat.gcd a.natAbs b ≤ b := Nat.gcd_le_right _ (by omega)
  have hd : DivOk ((Nat.gcd a.natAbs b : Nat) : Int) := ⟨by omega, by rw [Int.natAbs_natCast] at hb ⊢; exact Nat.lt_of_le_of_lt hg2 hb⟩
  walk_at "go"
  refine common_ok (by omega) (by simpa using hb) ?_
  walk_at "go"
  exact h
/-- not too wide -/
def Nrw (i : Int) : Prop := i.natAbs < 2 ^ 3000
theorem Nrw.mul {i j : Int} (h : Nrw i) (k : Nrw j) : MulOk i j := .inr (L2.wide_mul h k (by decide) (by decide) (by decide))
theorem Nrw.mul8 {i j : Int} (h : Nrw i) (k : Nrw j) : (i * j).natAbs < 2 ^ 8000 := by
  exact Nat.lt_of_lt_of_le (L2.wide_lt h k) (Nat.pow_le_pow_right (by decide) (by decide))
def smd (l : List (Int × Int)) : Int × Int := l.foldl (fun p q => red (addP p q)) (0, 1)
theorem summed_ok {L : List Fn} {m : Nat} (hm : 2 < m) {sv : SV} {l : List (Int × Int)} (hs : Lp sv (.lst (l.map prU))) (h1 : ∀ q ∈ l, Nrw q.1 ∧ Nrw q.2 ∧ 0 < q.2) (h2 : ∀ ys zs, ys ++ zs = l → Nrw (smd ys).1 ∧ Nrw (smd ys).2 ∧ 0 < (smd ys).2) {G : Hh} {X : Xg} {Q : Qg} (h : Q (.u (prU (smd l))) G) : callN (Pof L) m F_fractions_summed [sv] G X Q := by
  obtain ⟨m, rfl, _⟩ := lvl hm
  rcases hs with rfl | rfl | ⟨t, rfl⟩
  all_goals
    walk_at "go"
    refine for_map (fun ys ρ G' => ∃ a b c, ρ = [a, some (.u (prU (smd ys))), b, c] ∧ G' = G) ⟨_, _, _, rfl, rfl⟩ ?_ ?_
    · rintro ys x zs ρ G' K e ⟨a, b, c, rfl, rfl⟩ hK
      obtain ⟨p1, p2, p3⟩ := h2 ys (x :: zs) e
      obtain ⟨q1, q2, q3⟩ := h1 x (by rw [← e]; simp)
      have e1 : smd (ys ++ [x]) = red (addP (smd ys) x) := by simp [smd]
      have hK := hK [a, some (.u (prU (smd (ys ++ [x])))), some (.u (.int x.1)), some (.u (.int x.2))] G' ⟨_, _, _, rfl, rfl⟩
      rw [e1] at hK
      generalize smd ys = p at *
      obtain ⟨p, q⟩ := p
      obtain ⟨t, o⟩ := x
      have m1 := p1.mul q2
      have m2 := q1.mul p2
      have m3 := p2.mul q2
      have m4 := p2.mul8 q2
      simp only at *
      walk_at "go"
      refine fraction_ok (p := addP (p, q) (t, o)) (by omega) (Int.mul_pos p3 q3) m4 ?_
      walk_at "go"
      exact hK
    · rintro ρ G' ⟨a, b, c, rfl, rfl⟩
      walk_at "go"
      exact h
theorem is_above_ok {L : List Fn} {m : Nat} (hm : 0 < m) {p q : Int × Int} (hp : Nrw p.1 ∧ Nrw p.2) (hq : Nrw q.1 ∧ Nrw q.2) {G : Hh} {X : Xg} {Q : Qg} (h : Q (.u (.bl (decide (p.1 * q.2 > q.1 * p.2)))) G) : callN (Pof L) m F_fractions_is_above [.u (prU p), .u (prU q)] G X Q := by
  obtain ⟨m, rfl, _⟩ := lvl hm
  obtain ⟨a, b⟩ := p
  obtain ⟨c, d⟩ := q
  have m1 := hp.1.mul hq.2
  have m2 := hq.1.mul hp.2
  simp only [prU] at *
  walk_at "go"
  exact h
end Gp

-- needs: S_base S_things
namespace Gp
open Mp
/-! S_words: the words of things. -/
mutual
def wordsU : U → List Int
  | .int i => [0, i]
  | .str s => 1 :: (s.length : Int) :: s.map fun c => ((num c : Nat) : Int)
  | .tup xs => 2 :: (xs.length : Int) :: wordsUs xs
  | _ => []
def wordsUs : List U → List Int
  | [] => []
  | x :: xs => wordsU x ++ wordsUs xs
end
theorem wordsUs_app : ∀ xs ys : List U, wordsUs (xs ++ ys) = wordsUs xs ++ wordsUs ys
  | [], ys => by simp [wordsUs]
  | x :: xs, ys => by simp [wordsUs, wordsUs_app xs ys]
theorem wordsUs_snoc (xs : List U) (x : U) : wordsUs (xs ++ [x]) = wordsUs xs ++ wordsU x := by
  rw [wordsUs_app]; simp [wordsUs]
theorem words_of_ok {L : List Fn} : ∀ (d : Nat) {m : Nat} (_ : d + 2 < m) {u : U} (_ : thg d u = true) (_ : (wordsU u).length ≤ 4000000) {G : Hh} {X : Xg} {Q : Qg} (_ : Q (.tmp (.lst ((wordsU u).map U.int))) G), callN (Pof L) m F_things_words_of [.u u] G X Q := by
  intro d
  induction d with
  | zero =>
    intro m hm u hu
    rw [thg_zero] at hu
    cases hu
  | succ d ih =>
    intro m hm u hu hw G X Q h
    obtain ⟨m, rfl, hm2⟩ := lvl hm
    cases u <;> simp only [thg, Bool.and_eq_true, decide_eq_true_eq, Bool.false_eq_true] at hu
    case int i =>
      walk_at "go"
      exact h
    case str s =>
      have hs : ∀ c ∈ s, c ∈ sg := fun c hc => by simpa using List.all_eq_true.mp hu.2 c hc
      have h1 : (wordsU (.str s)).map U.int = [U.int 1, U.int s.length] ++ s.map fun c => U.int (num c) := by
        simp [wordsU]
      rw [h1] at h
      walk_at "go"
      refine numbers_of_ok (by omega) hs (by omega) ?_
      have hl : [U.int 1, U.int s.length].length + (s.map fun c => U.int (num c)).length ≤ PySem.sizeLine := by
        rw [sizeLine_def]; simp; omega
      walk_at "go"
      exact h
    case tup xs =>
      walk_at "go"
      refine for_pre (fun ys ρ G' => ∃ a, ρ = [some (.u (.tup xs)), some (.own (.lst ((2 :: (xs.length : Int) :: wordsUs ys).map U.int))), a] ∧ G' = G) ⟨_, rfl, rfl⟩ ?_ ?_
      · rintro ys x zs ρ G' K e ⟨a, rfl, rfl⟩ hK
        have hx : thg d x = true := by
          have := hu.2
          rw [thgs_all] at this
          exact List.all_eq_true.mp this x (by rw [← show ys ++ x :: zs = xs from e]; simp)
        have hsz : (wordsU (.tup xs)).length = 2 + (wordsUs ys).length + (wordsU x).length + (wordsUs zs).length := by
          rw [← show ys ++ x :: zs = xs from e]
          simp [wordsU, wordsUs_app, wordsUs]
          omega
        have hl : ((2 :: (xs.length : Int) :: wordsUs ys).map U.int).length + ((wordsU x).map U.int).length ≤ PySem.sizeLine := by
          rw [sizeLine_def]; simp; omega
        walk_at "go"
        refine ih (by omega) hx (by omega) ?_
        walk_at "go"
        refine hK _ _ ⟨some (.u x), ?_, rfl⟩
        rw [wordsUs_snoc]
        simp
      · rintro ρ G' ⟨a, rfl, rfl⟩
        walk_at "go"
        exact h
theorem lwords_ok {L : List Fn} : ∀ (d : Nat) {m : Nat} (_ : d + 2 < m) {u : U} (_ : thg d u = true) (_ : (wordsU u).length ≤ 4000000) {G : Hh} {X : Xg} {Q : Qg} (_ : Q (.tmp (.lst ((wordsU u).map U.int))) G), callN (Pof L) m F_l_words [.u u] G X Q := by
  intro d
  induction d with
  | zero =>
    intro m hm u hu
    rw [thg_zero] at hu
    cases hu
  | succ d ih =>
    intro m hm u hu hw G X Q h
    obtain ⟨m, rfl, hm2⟩ := lvl hm
    cases u <;> simp only [thg, Bool.and_eq_true, decide_eq_true_eq, Bool.false_eq_true] at hu
    case int i =>
      walk_at "go"
      exact h
    case str s =>
      have hs : ∀ c ∈ s, c ∈ sg := fun c hc => by simpa using List.all_eq_true.mp hu.2 c hc
      have hsz : (id (s.map fun c => U.str [c])).length ≤ PySem.sizeLine := by rw [sizeLine_def]; simp; omega
      have h1 : (wordsU (.str s)).map U.int = [U.int 1, U.int s.length] ++ s.map fun c => U.int (num c) := by
        simp [wordsU]
      rw [h1] at h
      walk_at "go"
      refine lc_map (f := fun c => U.str [c]) (fun c => some (.int (num c))) (fun c hc N hN => ?_) ?_
      · walk_at "go"
        refine signs_ok (by omega) ?_
        have e := (sg_num (hs c hc)).1
        walk_at "go"
        first | exact hN | (refine optK_in e ?_; walk_at "go"; exact hN)
      · rw [List.nil_append, filterMap_some]
        have hl : [U.int 1, U.int s.length].length + (s.map fun c => U.int (num c)).length ≤ PySem.sizeLine := by
          rw [sizeLine_def]; simp; omega
        walk_at "go"
        exact h
    case tup xs =>
      walk_at "go"
      refine for_pre (fun ys ρ G' => ∃ a, ρ = [some (.u (.tup xs)), some (.own (.lst ((2 :: (xs.length : Int) :: wordsUs ys).map U.int))), a, none] ∧ G' = G) ⟨_, rfl, rfl⟩ ?_ ?_
      · rintro ys x zs ρ G' K e ⟨a, rfl, rfl⟩ hK
        have hx : thg d x = true := by
          have := hu.2
          rw [thgs_all] at this
          exact List.all_eq_true.mp this x (by rw [← show ys ++ x :: zs = xs from e]; simp)
        have hsz : (wordsU (.tup xs)).length = 2 + (wordsUs ys).length + (wordsU x).length + (wordsUs zs).length := by
          rw [← show ys ++ x :: zs = xs from e]
          simp [wordsU, wordsUs_app, wordsUs]
          omega
        have hl : ((2 :: (xs.length : Int) :: wordsUs ys).map U.int).length + ((wordsU x).map U.int).length ≤ PySem.sizeLine := by
          rw [sizeLine_def]; simp; omega
        walk_at "go"
        refine ih (by omega) hx (by omega) ?_
        walk_at "go"
        refine hK _ _ ⟨some (.u x), ?_, rfl⟩
        rw [wordsUs_snoc]
        simp
      · rintro ρ G' ⟨a, rfl, rfl⟩
        walk_at "go"
        exact h
theorem whole_ok1 {L : List Fn} {m : Nat} (hm : 0 < m) {i : Int} {G : Hh} {X : Xg} {Q : Qg} (h : Q (.u (.bl true)) G) : callN (Pof L) m F_l_whole [.u (.int i)] G X Q := by
  obtain ⟨m, rfl, _⟩ := lvl hm
  walk_at "go"
  exact h
theorem zipI_self : ∀ xs : List U, zipI xs xs = xs.map fun x => U.tup [x, x]
  | [] => rfl
  | x :: xs => by rw [zipI, zipI_self xs]; rfl
theorem lsame_ok {L : List Fn} : ∀ (d : Nat) {m : Nat} (_ : d + 1 < m) {u : U} (_ : thg d u = true) {G : Hh} {X : Xg} {Q : Qg} (_ : Q (.u (.bl true)) G), callN (Pof L) m F_l_same [.u u, .u u] G X Q := by
  intro d
  induction d with
  | zero =>
    intro m hm u hu
    rw [thg_zero] at hu
    cases hu
  | succ d ih =>
    intro m hm u hu G X Q h
    obtain ⟨m, rfl, hm2⟩ := lvl hm
    cases u <;> simp only [thg, Bool.and_eq_true, decide_eq_true_eq, Bool.false_eq_true] at hu
    case int i =>
      have e : eqU (.int i) (.int i) = true := by simp [eqU]
      walk_at "go"
      refine whole_ok1 (by omega) ?_
      walk_at "go"
      rw [e]
      exact h
    case str s =>
      have e : eqU (.str s) (.str s) = true := by simp [eqU]
      walk_at "go"
      rw [e]
      exact h
    case tup xs =>
      have hz : zipI xs xs = xs.map fun x => U.tup [x, x] := zipI_self xs
      have hsz : (zipI xs xs).length ≤ PySem.sizeLine := by rw [hz, sizeLine_def]; simp; omega
      have hal := hu.2
      rw [thgs_all] at hal
      walk_at "go"
      rw [hz]
      refine lc_map (f := fun x => U.tup [x, x]) (fun _ => some (.bl true)) (fun x hx N hN => ?_) ?_
      · walk_at "go"
        refine ih (by omega) (List.all_eq_true.mp hal x hx) ?_
        walk_at "go"
        exact hN
      · rw [List.nil_append, filterMap_some]
        walk_at "go"
        refine optK_in (allBl_mapf (fun _ => true) _) ?_
        walk_at "go"
        rw [all_true, show (xs.all fun _ => true) = true by simp]
        exact h
end Gp

-- needs: S_base S_things S_words
namespace Gp
open Mp
/-! S_read: things read from words. -/
def txt : List Int → Option (List Nat)
  | [] => some []
  | w :: ws => if 0 ≤ w ∧ w < 94 then (txt ws).map (sg.getD w.toNat 0 :: ·) else none
theorem txt_snoc : ∀ (ws : List Int) (w : Int), txt (ws ++ [w]) = (txt ws).bind fun s => if 0 ≤ w ∧ w < 94 then some (s ++ [sg.getD w.toNat 0]) else none
  | [], w => by
    simp only [List.nil_append, txt, Option.bind_some]
    split <;> rfl
  | v :: ws, w => by
    simp only [List.cons_append, txt, txt_snoc ws w]
    split
    · cases txt ws with
      | none => rfl
      | some s =>
        simp only [Option.bind_some, Option.map_some]
        split <;> rfl
    · rfl
theorem txt_bad : ∀ (ws zs : List Int) (w : Int), ¬ (0 ≤ w ∧ w < 94) → txt (ws ++ w :: zs) = none
  | [], zs, w, h => by simp only [List.nil_append, txt, if_neg h]
  | v :: ws, zs, w, h => by
    simp only [List.cons_append, txt, txt_bad ws zs w h]
    split <;> rfl
theorem txt_len : ∀ {ws : List Int} {s : List Nat}, txt ws = some s → s.length = ws.length
  | [], s, h => by cases h; rfl
  | w :: ws, s, h => by
    simp only [txt] at h
    split at h
    · cases e : txt ws with
      | none => rw [e] at h; cases h
      | some t => rw [e] at h; cases h; simp [txt_len e]
    · cases h
theorem sgD {j : Nat} (h : j < 94) : ∃ c, sg[j]? = some c ∧ sg.getD j 0 = c := by
  obtain ⟨c, e, _⟩ := sg_at j h
  exact ⟨c, e, by rw [List.getD_eq_getElem?_getD, e]; rfl⟩
theorem text_at_ok {L : List Fn} {m : Nat} (hm : 1 < m) {sv : SV} {ws : List Int} {a n : Nat} (hs : Lp sv (.lst (ws.map U.int))) (hw : ws.length ≤ 4000000) (hn : n ≤ 400) {G : Hh} {X : Xg} {Q : Qg}
    (h : match txt ((ws.drop a).take n) with
      | some s => Q (.u (.str s)) G
      | none => X 1 [] G) : callN (Pof L) m F_things_text_at [sv, .u (.int (a : Int)), .u (.int (n : Int))] G X Q := by
  obtain ⟨m, rfl, _⟩ := lvl hm
  have hc : cut (ws.map U.int) (some (a : Int)) (some ((a : Int) + (n : Int))) = ((ws.drop a).take n).map U.int := by
    rw [show (a : Int) + (n : Int) = ((a + n : Nat) : Int) by omega, cut_nat, Nat.add_sub_cancel_left, List.map_take, List.map_drop]
  rcases hs with rfl | rfl | ⟨t, rfl⟩
  all_goals
    walk_at "go"
    rw [id_eq, hc]
    refine for_map (fun ys ρ G' => ∃ s b, ρ = [_, some (.u (.int (a : Int))), some (.u (.int (n : Int))), some (.u (.str s)), b] ∧ txt ys = some s ∧ G' = G) ⟨[], _, rfl, rfl, rfl⟩ ?_ ?_
    · rintro ys x zs ρ G' K e ⟨s, b, rfl, hs, rfl⟩ hK
      have hl := txt_len hs
      have hle : ys.length ≤ 400 := by
        have := congrArg List.length e
        simp only [List.length_append, List.length_cons, List.length_take] at this
        omega
      by_cases hx : 0 ≤ x ∧ x < 94
      · obtain ⟨j, rfl⟩ : ∃ j : Nat, x = j := ⟨x.toNat, by omega⟩
        obtain ⟨c, e1, e2⟩ := sgD (j := j) (by omega)
        have hsz : s.length + [c].length ≤ PySem.sizeLine := by rw [sizeLine_def]; simp; omega
        walk_at "go"
        · refine sign_of_ok (by omega) e1 ?_
          walk_at "go"
          refine hK _ _ ⟨s ++ [c], _, rfl, ?_, rfl⟩
          rw [txt_snoc, hs]
          simp only [Option.bind_some, Int.toNat_natCast]
          rw [if_pos hx, e2]
        · rename_i z
          exact absurd hx.2 z
      · rw [← e, txt_bad ys zs x hx] at h
        simp only at h
        walk_at "go"
        · rename_i z1 z2
          exact absurd ⟨z1, z2⟩ hx
        all_goals exact h
    · rintro ρ G' ⟨s, b, rfl, hs, rfl⟩
      rw [hs] at h
      walk_at "go"
      exact h
def rds (f : List Int → Option (U × List Int)) : Nat → List Int → Option (List U × List Int)
  | 0, r => some ([], r)
  | n + 1, r => match f r with
    | some (u, r') => (rds f n r').map fun p => (u :: p.1, p.2)
    | none => none
/-- the thing that words tell, and what stands behind it -/
def rd : Nat → List Int → Option (U × List Int)
  | 0, _ => none
  | d + 1, l => match l with
    | k :: n :: r =>
      if k = 0 ∧ 0 ≤ n ∧ n ≤ 999999999 then some (.int n, r)
      else if k = 1 ∧ 0 ≤ n ∧ n ≤ 400 ∧ n ≤ r.length then (txt (r.take n.toNat)).map fun s => (.str s, r.drop n.toNat)
      else if k = 2 ∧ 0 ≤ n ∧ n ≤ 100 then (rds (rd d) n.toNat r).map fun p => (.tup p.1, p.2)
      else none
    | _ => none
theorem rds_snoc {f : List Int → Option (U × List Int)} : ∀ {n : Nat} {r : List Int}, rds f (n + 1) r = (rds f n r).bind fun p => (f p.2).map fun q => (p.1 ++ [q.1], q.2)
  | 0, r => by
    simp only [rds, Option.bind_some]
    cases f r with
    | none => rfl
    | some p => rfl
  | n + 1, r => by
    rw [rds]
    cases e : f r with
    | none => simp [rds, e]
    | some p =>
      obtain ⟨u, r'⟩ := p
      simp only
      rw [rds_snoc (n := n), rds, e]
      simp only
      cases rds f n r' with
      | none => rfl
      | some q =>
        simp only [Option.map_some, Option.bind_some]
        cases f q.2 with
        | none => rfl
        | some v => rfl
theorem rds_none {f : List Int → Option (U × List Int)} {n : Nat} {r : List Int} (h : rds f n r = none) : ∀ k, rds f (n + k) r = none
  | 0 => h
  | k + 1 => by
    rw [← Nat.add_assoc, rds_snoc, rds_none h k]
    rfl
theorem rds_len {f : List Int → Option (U × List Int)} : ∀ {n : Nat} {r : List Int} {us : List U} {t : List Int}, rds f n r = some (us, t) → us.length = n
  | 0, r, us, t, h => by cases h; rfl
  | n + 1, r, us, t, h => by
    rw [rds] at h
    cases e : f r with
    | none => rw [e] at h; cases h
    | some p =>
      rw [e] at h
      simp only at h
      cases e2 : rds f n p.2 with
      | none => rw [e2] at h; cases h
      | some q =>
        rw [e2] at h
        cases h
        simp [rds_len e2]
/-- what stands behind is an end -/
def Suf (l r : List Int) : Prop := ∃ k, k ≤ l.length ∧ r = l.drop k
theorem Suf.refl (l : List Int) : Suf l l := ⟨0, Nat.zero_le _, rfl⟩
theorem Suf.trans {a b c : List Int} (h : Suf a b) (k : Suf b c) : Suf a c := by
  obtain ⟨i, hi, rfl⟩ := h
  obtain ⟨j, hj, rfl⟩ := k
  rw [List.length_drop] at hj
  exact ⟨i + j, by omega, by rw [List.drop_drop]⟩
theorem rds_suf {f : List Int → Option (U × List Int)} (hf : ∀ r u t, f r = some (u, t) → Suf r t) : ∀ {n : Nat} {r : List Int} {us : List U} {t : List Int}, rds f n r = some (us, t) → Suf r t
  | 0, r, us, t, h => by cases h; exact Suf.refl r
  | n + 1, r, us, t, h => by
    rw [rds] at h
    cases e : f r with
    | none => rw [e] at h; cases h
    | some p =>
      rw [e] at h
      simp only at h
      cases e2 : rds f n p.2 with
      | none => rw [e2] at h; cases h
      | some q =>
        rw [e2] at h
        cases h
        exact (hf _ _ _ e).trans (rds_suf hf e2)
theorem rd_suf : ∀ {d : Nat} {l : List Int} {u : U} {t : List Int}, rd d l = some (u, t) → Suf l t
  | 0, l, u, t, h => by simp [rd] at h
  | d + 1, l, u, t, h => by
    match l, h with
    | [], h => simp [rd] at h
    | [_], h => simp [rd] at h
    | k :: n :: r, h =>
      have h2 : Suf (k :: n :: r) r := ⟨2, by simp, rfl⟩
      simp only [rd] at h
      split at h
      · cases h; exact h2
      · split at h
        · rename_i h1 h3
          cases e : txt (r.take n.toNat) with
          | none => rw [e] at h; cases h
          | some s =>
            rw [e] at h
            cases h
            exact h2.trans ⟨n.toNat, by omega, rfl⟩
        · split at h
          · cases e : rds (rd d) n.toNat r with
            | none => rw [e] at h; cases h
            | some q =>
              rw [e] at h
              cases h
              exact h2.trans (rds_suf (fun r u t => rd_suf) e)
          · cases h
theorem drop_cons {α : Type} {xs r : List α} {x : α} {a : Nat} (h : xs.drop a = x :: r) : xs[a]? = some x ∧ xs.drop (a + 1) = r := by
  refine ⟨?_, ?_⟩
  · have := congrArg (·[0]?) h
    simpa using this
  · rw [← List.drop_drop, h]
    rfl
set_option maxHeartbeats 2000000 in
theorem thing_at_ok {L : List Fn} : ∀ (d : Nat) {m : Nat} (_ : d + 2 < m) {sv : SV} {ws : List Int} {a : Nat} (_ : Lp sv (.lst (ws.map U.int))) (_ : ws.length ≤ 4000000) (_ : a ≤ ws.length) {G : Hh} {X : Xg} {Q : Qg}
    (_ : ∀ u t (p : Nat), rd d (ws.drop a) = some (u, t) → p ≤ ws.length → ws.drop p = t → Q (.u (.tup [u, .int (p : Int)])) G) (_ : rd d (ws.drop a) = none → X 1 [] G), callN (Pof L) m F_things_thing_at [sv, .u (.int (a : Int)), .u (.int (d : Int))] G X Q := by
  intro d
  induction d with
  | zero =>
    intro m hm sv ws a hs hw ha G X Q h1 h2
    obtain ⟨m, rfl, hm2⟩ := lvl hm
    have h2 := h2 rfl
    rcases hs with rfl | rfl | ⟨t, rfl⟩
    all_goals
      walk_at "go"
      exact h2
  | succ d ih =>
    intro m hm sv ws a hs hw ha G X Q h1 h2
    obtain ⟨m, rfl, hm2⟩ := lvl hm
    have hlm : (ws.map U.int).length = ws.length := List.length_map ..
    by_cases hl : a + 2 ≤ ws.length
    · obtain ⟨k, n, r, hr⟩ : ∃ k n r, ws.drop a = k :: n :: r := by
        have : (ws.drop a).length = ws.length - a := List.length_drop
        match e : ws.drop a, this with
        | [], q => simp at q; omega
        | [_], q => simp at q; omega
        | k :: n :: r, _ => exact ⟨k, n, r, rfl⟩
      obtain ⟨e1, e2⟩ := drop_cons hr
      obtain ⟨e3, e4⟩ := drop_cons e2
      have ea : L2.atI (ws.map U.int) (a : Int) = some (.int k) := at_map (atI_nat e1)
      have ea1 : L2.atI (ws.map U.int) ((a : Int) + 1) = some (.int n) := at_map (by rw [show (a : Int) + 1 = ((a + 1 : Nat) : Int) by omega]; exact atI_nat e3)
      rw [hr] at h1 h2
      have hd1 : (((d + 1 : Nat) : Int) - 1) = (d : Int) := by omega
      have ha2 : ((a : Int) + 2) = ((a + 2 : Nat) : Int) := by omega
      have hrl : r.length = ws.length - (a + 2) := by rw [← e4]; exact List.length_drop
      by_cases hk0 : k = 0
      · subst hk0
        by_cases hn : 0 ≤ n ∧ n ≤ 999999999
        · have h1 := h1 (.int n) r (a + 2) (by simp [rd, hn]) hl e4
          rcases hs with rfl | rfl | ⟨t, rfl⟩
          all_goals
            walk_at "go"
            rw [ha2]
            exact h1
        · have h2 := h2 (by simp [rd, hn])
          rcases hs with rfl | rfl | ⟨t, rfl⟩
          all_goals
            walk_at "go"
            all_goals exact h2
      · have f0 : eqU (.int k) (.int 0) = false := by rw [eq_int]; exact decide_eq_false hk0
        by_cases hk1 : k = 1
        · subst hk1
          by_cases hn : 0 ≤ n ∧ n ≤ 400 ∧ n ≤ (r.length : Int)
          · obtain ⟨j, rfl⟩ : ∃ j : Nat, n = j := ⟨n.toNat, by omega⟩
            have et : rd (d + 1) (1 :: (j : Int) :: r) = (txt (r.take j)).map fun s => (.str s, r.drop j) := by
              simp only [rd]
              rw [if_neg (by omega), if_pos (by first | exact ⟨rfl, hn⟩ | exact ⟨trivial, hn⟩), Int.toNat_natCast]
            rw [et] at h1 h2
            rcases hs with rfl | rfl | ⟨t, rfl⟩
            all_goals
              walk_at "go"
              rw [ha2]
              refine text_at_ok (by omega) (by first | exact Lp.v | exact Lp.o | exact Lp.f) hw (by omega) ?_
              rw [e4]
              cases e : txt (r.take j) with
              | none =>
                rw [e] at h2
                walk_at "go"
                exact h2 rfl
              | some s =>
                rw [e] at h1
                have h1 := h1 (.str s) (r.drop j) (a + 2 + j) rfl (by omega) (by rw [← List.drop_drop]; congr 1)
                walk_at "go"
                rw [show (((a : Int) + 2) + (j : Int)) = ((a + 2 + j : Nat) : Int) by omega]
                exact h1
          · have h2 := h2 (by
              simp only [rd]
              rw [if_neg (by omega), if_neg (by omega), if_neg (by omega)])
            rcases hs with rfl | rfl | ⟨t, rfl⟩
            all_goals
              walk_at "go"
              all_goals exact h2
        · have f1 : eqU (.int k) (.int 1) = false := by rw [eq_int]; exact decide_eq_false hk1
          by_cases hk2 : k = 2
          · subst hk2
            by_cases hn : 0 ≤ n ∧ n ≤ 100
            · obtain ⟨j, rfl⟩ : ∃ j : Nat, n = j := ⟨n.toNat, by omega⟩
              have et : rd (d + 1) (2 :: (j : Int) :: r) = (rds (rd d) j r).map fun p => (.tup p.1, p.2) := by
                simp only [rd]
                rw [if_neg (by omega), if_neg (by omega), if_pos (by first | exact ⟨rfl, hn⟩ | exact ⟨trivial, hn⟩), Int.toNat_natCast]
              rw [et] at h1 h2
              obtain ⟨hn1, hn2⟩ := hn
              rcases hs with rfl | rfl | ⟨t, rfl⟩
              all_goals
                walk_at "go"
                rw [ha2]
                refine for_pre (fun ys ρ G' => ∃ us p t x5 x6, ρ = [_, some (.u (.int ((p : Nat) : Int))), some (.u (.int ((d + 1 : Nat) : Int))), some (.u (.int (j : Int))), some (.own (.lst us)), x5, x6] ∧ rds (rd d) ys.length r = some (us, t) ∧ p ≤ ws.length ∧ ws.drop p = t ∧ G' = G) ⟨[], a + 2, r, _, _, rfl, rfl, hl, e4, rfl⟩ ?_ ?_
                · rintro ys x zs ρ G' K e ⟨us, p, t, x5, x6, rfl, hus, hp, hpt, rfl⟩ hK
                  obtain ⟨rfl, hyl⟩ := range_at' e
                  have hul := rds_len hus
                  have hsz : us.length < PySem.sizeLine := by rw [sizeLine_def]; omega
                  walk_at "go"
                  rw [hd1]
                  refine ih (by omega) (by first | exact Lp.v | exact Lp.o | exact Lp.f) hw hp (fun u t' p' e3 hp' e5 => ?_) (fun e3 => ?_)
                  · walk_at "go"
                    refine hK _ _ ⟨us ++ [u], p', t', _, _, rfl, ?_, hp', e5, rfl⟩
                    rw [List.length_append, List.length_singleton, rds_snoc, hus]
                    simp only [Option.bind_some]
                    rw [← hpt, e3]
                    rfl
                  · have hno : rds (rd d) j r = none := by
                      have : rds (rd d) (ys.length + 1) r = none := by
                        rw [rds_snoc, hus]
                        simp only [Option.bind_some]
                        rw [← hpt, e3]
                        rfl
                      have := rds_none this (j - (ys.length + 1))
                      rwa [show ys.length + 1 + (j - (ys.length + 1)) = j by omega] at this
                    rw [hno] at h2
                    walk_at "go"
                    exact h2 rfl
                · rintro ρ G' ⟨us, p, t, x5, x6, rfl, hus, hp, hpt, rfl⟩
                  rw [range_len, show ((j : Int) - 0).toNat = j by omega] at hus
                  rw [hus] at h1
                  have h1 := h1 (.tup us) t p rfl hp hpt
                  walk_at "go"
                  exact h1
            · have h2 := h2 (by
                simp only [rd]
                rw [if_neg (by omega), if_neg (by omega), if_neg (by omega)])
              rcases hs with rfl | rfl | ⟨t, rfl⟩
              all_goals
                walk_at "go"
                all_goals exact h2
          · have f2 : eqU (.int k) (.int 2) = false := by rw [eq_int]; exact decide_eq_false hk2
            have h2 := h2 (by
              simp only [rd]
              rw [if_neg (by omega), if_neg (by omega), if_neg (by omega)])
            rcases hs with rfl | rfl | ⟨t, rfl⟩
            all_goals
              walk_at "go"
              all_goals exact h2
    · have h2 := h2 (by
        have : (ws.drop a).length = ws.length - a := List.length_drop
        match e : ws.drop a, this with
        | [], q => rfl
        | [_], q => rfl
        | k :: n :: r, q => simp at q; omega)
      rcases hs with rfl | rfl | ⟨t, rfl⟩
      all_goals
        walk_at "go"
        exact h2
end Gp

-- needs: S_base S_things S_words S_read
namespace Gp
open Mp
/-! S_rdw: thing_of; the words of a thing are read as it. -/
theorem thing_of_ok {L : List Fn} {m : Nat} (hm : 11 < m) {sv : SV} {ws : List Int} (hs : Lp sv (.lst (ws.map U.int))) (hw : ws.length ≤ 4000000) {G : Hh} {X : Xg} {Q : Qg}
    (h1 : ∀ u, rd 8 ws = some (u, []) → Q (.u u) G) (h2 : (∀ u, rd 8 ws ≠ some (u, [])) → X 1 [] G) : callN (Pof L) m F_things_thing_of [sv] G X Q := by
  obtain ⟨m, rfl, _⟩ := lvl hm
  have hlm : (ws.map U.int).length = ws.length := List.length_map ..
  rcases hs with rfl | rfl | ⟨t, rfl⟩
  all_goals
    walk_at "go"
    refine thing_at_ok 8 (m := m) (a := 0) (by omega) (by first | exact Lp.v | exact Lp.o | exact Lp.f) hw (Nat.zero_le _) (fun u t p e hp e2 => ?_) (fun e => ?_)
    · by_cases hl : p = ws.length
      · have ht : t = [] := by rw [← e2, hl]; exact List.drop_length
        subst ht
        have h1 := h1 u e
        have f : eqU (.int (p : Int)) (.int (((ws.map U.int).length : Nat) : Int)) = true := by rw [eq_int]; exact decide_eq_true (by omega)
        walk_at "go"
        exact h1
      · have h2 := h2 fun v hv => by
          have e' : rd 8 ws = some (u, t) := e
          rw [hv] at e'
          cases e'
          have := congrArg List.length e2
          rw [List.length_drop] at this
          simp at this
          omega
        have f : eqU (.int (p : Int)) (.int (((ws.map U.int).length : Nat) : Int)) = false := by rw [eq_int]; exact decide_eq_false (by omega)
        walk_at "go"
        exact h2
    · have h2 := h2 fun v hv => by
        have e' : rd 8 ws = none := e
        rw [e'] at hv
        cases hv
      walk_at "go"
      exact h2
theorem txt_num : ∀ {s : List Nat}, (∀ c ∈ s, c ∈ sg) → txt (s.map fun c => ((num c : Nat) : Int)) = some s
  | [], _ => rfl
  | c :: s, h => by
    have hc := sg_num (h c (by simp))
    simp only [List.map_cons, txt]
    rw [if_pos (by omega), txt_num fun d hd => h d (by simp [hd])]
    simp only [Option.map_some, Int.toNat_natCast]
    rw [List.getD_eq_getElem?_getD, hc.2.2]
    rfl
theorem rds_words {f : List Int → Option (U × List Int)} : ∀ (xs : List U) (r : List Int), (∀ x ∈ xs, ∀ r, f (wordsU x ++ r) = some (x, r)) → rds f xs.length (wordsUs xs ++ r) = some (xs, r)
  | [], r, _ => rfl
  | x :: xs, r, h => by
    rw [wordsUs, List.append_assoc, List.length_cons, rds, h x (by simp)]
    simp only
    rw [rds_words xs r fun y hy => h y (by simp [hy])]
    rfl
theorem rd_words : ∀ {d : Nat} {u : U}, thg d u = true → ∀ r, rd d (wordsU u ++ r) = some (u, r)
  | 0, u, h, r => by rw [thg_zero] at h; cases h
  | d + 1, u, h, r => by
    cases u <;> simp only [thg, Bool.and_eq_true, decide_eq_true_eq, Bool.false_eq_true] at h
    case int i =>
      simp [wordsU, rd, h]
    case str s =>
      have hs : ∀ c ∈ s, c ∈ sg := fun c hc => by simpa using List.all_eq_true.mp h.2 c hc
      simp only [wordsU, List.cons_append, rd]
      rw [if_neg (by omega), if_pos (by refine ⟨trivial, by omega, by omega, ?_⟩; simp; omega)]
      rw [Int.toNat_natCast, List.take_append_of_le_length (by simp), List.take_of_length_le (by simp), txt_num hs]
      simp only [Option.map_some]
      rw [List.drop_append_of_le_length (by simp), List.drop_of_length_le (by simp), List.nil_append]
    case tup xs =>
      have hal := h.2
      rw [thgs_all] at hal
      simp only [wordsU, List.cons_append, rd]
      rw [if_neg (by omega), if_neg (by omega), if_pos (by refine ⟨trivial, by omega, by omega⟩)]
      rw [Int.toNat_natCast, rds_words xs r fun x hx r => rd_words (List.all_eq_true.mp hal x hx) r]
      rfl
end Gp

-- needs: S_base S_things S_words S_read S_rdw
namespace Gp
open Mp
/-! S_rdi: what is read is a thing, and has just these words. -/
theorem txt_sg : ∀ {ws : List Int} {s : List Nat}, txt ws = some s → ∀ c ∈ s, c ∈ sg
  | [], s, h, c, hc => by cases h; cases hc
  | w :: ws, s, h, c, hc => by
    simp only [txt] at h
    split at h
    · rename_i hw
      cases e : txt ws with
      | none => rw [e] at h; cases h
      | some t =>
        rw [e] at h
        cases h
        rcases List.mem_cons.mp hc with rfl | hc
        · obtain ⟨d, e1, e2⟩ := sgD (j := w.toNat) (by omega)
          rw [e2]
          exact List.mem_of_getElem? e1
        · exact txt_sg e c hc
    · cases h
theorem txt_inv : ∀ {ws : List Int} {s : List Nat}, txt ws = some s → ws = s.map fun c => ((num c : Nat) : Int)
  | [], s, h => by cases h; rfl
  | w :: ws, s, h => by
    simp only [txt] at h
    split at h
    · rename_i hw
      cases e : txt ws with
      | none => rw [e] at h; cases h
      | some t =>
        rw [e] at h
        cases h
        obtain ⟨d, e1, e2, e3⟩ := sg_at w.toNat (by omega)
        rw [List.map_cons, ← txt_inv e, List.getD_eq_getElem?_getD, e1]
        simp only [Option.getD_some]
        unfold num
        rw [e3]
        simp only [Option.getD_some]
        rw [Int.toNat_of_nonneg (by omega)]
    · cases h
theorem rds_thg {d : Nat} {f : List Int → Option (U × List Int)} (hf : ∀ r u t, f r = some (u, t) → thg d u = true ∧ r = wordsU u ++ t) : ∀ {n : Nat} {r : List Int} {us : List U} {t : List Int}, rds f n r = some (us, t) → thgs d us = true ∧ r = wordsUs us ++ t
  | 0, r, us, t, h => by cases h; simp [thgs, wordsUs]
  | n + 1, r, us, t, h => by
    rw [rds] at h
    cases e : f r with
    | none => rw [e] at h; cases h
    | some p =>
      obtain ⟨u, r'⟩ := p
      rw [e] at h
      simp only at h
      cases e2 : rds f n r' with
      | none => rw [e2] at h; cases h
      | some q =>
        rw [e2] at h
        cases h
        obtain ⟨h1, h2⟩ := hf _ _ _ e
        obtain ⟨h3, h4⟩ := rds_thg hf e2
        refine ⟨by simp [thgs, h1, h3], ?_⟩
        rw [wordsUs, List.append_assoc, ← h4, ← h2]
theorem rd_thg : ∀ {d : Nat} {l : List Int} {u : U} {t : List Int}, rd d l = some (u, t) → thg d u = true ∧ l = wordsU u ++ t
  | 0, l, u, t, h => by simp [rd] at h
  | d + 1, l, u, t, h => by
    match l, h with
    | [], h => simp [rd] at h
    | [_], h => simp [rd] at h
    | k :: n :: r, h =>
      simp only [rd] at h
      split at h
      · rename_i h1
        cases h
        refine ⟨by simp [thg]; omega, by simp [wordsU]; omega⟩
      · split at h
        · rename_i h1 h3
          cases e : txt (r.take n.toNat) with
          | none => rw [e] at h; cases h
          | some s =>
            rw [e] at h
            cases h
            have hl := txt_len e
            rw [List.length_take] at hl
            have hi := txt_inv e
            refine ⟨?_, ?_⟩
            · simp only [thg, Bool.and_eq_true, decide_eq_true_eq, List.all_eq_true]
              exact ⟨by omega, txt_sg e⟩
            · simp only [wordsU, List.cons_append]
              rw [← hi, List.take_append_drop, h3.1]
              congr 2
              omega
        · split at h
          · rename_i h1 h2 h3
            cases e : rds (rd d) n.toNat r with
            | none => rw [e] at h; cases h
            | some q =>
              rw [e] at h
              cases h
              obtain ⟨a, b⟩ := rds_thg (fun r u t => rd_thg) e
              have hl := rds_len e
              refine ⟨?_, ?_⟩
              · simp only [thg, Bool.and_eq_true, decide_eq_true_eq]
                exact ⟨by omega, a⟩
              · simp only [wordsU, List.cons_append]
                rw [← b, h3.1]
                congr 2
                omega
          · cases h
theorem words_ne {d : Nat} {u : U} (h : thg d u = true) : 2 ≤ (wordsU u).length := by
  cases d with
  | zero => rw [thg_zero] at h; cases h
  | succ d => cases u <;> simp [thg, wordsU] at h ⊢
/-- of things == is sameness -/
theorem thg_eq : ∀ {d : Nat} {u v : U}, thg d u = true → thg d v = true → (eqU u v = true ↔ u = v)
  | 0, u, v, h, _ => by rw [thg_zero] at h; cases h
  | d + 1, u, v, h, k => by
    cases u <;> simp only [thg, Bool.and_eq_true, decide_eq_true_eq, Bool.false_eq_true] at h <;> cases v <;> simp only [thg, Bool.and_eq_true, decide_eq_true_eq, Bool.false_eq_true] at k <;> try (simp [eqU]; done)
    rename_i xs ys
    have key : ∀ xs ys : List U, thgs d xs = true → thgs d ys = true → (eqUs xs ys = true ↔ xs = ys) := by
      intro xs
      induction xs with
      | nil => intro ys _ _; cases ys <;> simp [eqUs]
      | cons x xs ih =>
        intro ys h1 h2
        cases ys with
        | nil => simp [eqUs]
        | cons y ys =>
          simp only [thgs, Bool.and_eq_true] at h1 h2
          simp only [eqUs, Bool.and_eq_true, thg_eq h1.1 h2.1, ih ys h1.2 h2.2, List.cons.injEq]
    simp only [eqU, key xs ys h.2 k.2, U.tup.injEq]
theorem words_inj {u v : U} (h : thg 8 u = true) (k : thg 8 v = true) {r : List Int} (e : wordsU u = wordsU v ++ r) : u = v ∧ r = [] := by
  have h1 := rd_words h []
  rw [List.append_nil, e, rd_words k r] at h1
  cases h1
  exact ⟨rfl, rfl⟩
end Gp

-- needs: S_base S_things S_words S_read
namespace Gp
open Mp
/-! S_draw: the things that are drawn. -/
def wb : Nat → Nat
  | 0 => 134
  | d + 1 => 3 * wb d + 2
theorem wb_8 : wb 8 ≤ 4000000 := by decide
theorem wb_ge : ∀ d, 134 ≤ wb d
  | 0 => Nat.le_refl _
  | d + 1 => by have := wb_ge d; simp only [wb]; omega
theorem wb_1 (d : Nat) : 402 ≤ wb (d + 1) := by
  have := wb_ge d
  simp only [wb]
  omega
/-- a drawn thing, and the place behind it -/
def Drw (d : Nat) (Q : Qg) (G : Hh) : Prop := ∀ (u : U) (p : Nat), thg d u = true → (wordsU u).length ≤ wb d → Q (.u (.tup [u, .int (p : Int)])) G
theorem thing_leaf {L : List Fn} {m : Nat} (hm : 0 < m) {sv : SV} {a : Nat} {d x : Int} {dd : Nat} {G : Hh} {Q : Qg} (hx : 0 ≤ x) (hx2 : x < 2147483647) (h : Drw (dd + 1) Q G) {ex : Nat → List U → Rho → Hh → Prop} {nx ct : Rho → Hh → Prop} :
    wpSs (Pof L) (callN (Pof L) m) l_thing_r6 [some sv, some (.u (.int (a : Int))), some (.u (.int d)), some (.u (.int x)), some (.u (.int 0)), none, none, none, none, none] G nx (fun r ρ G' => fin r ρ G' Q) ct ex := by
  walk_at "go"
  obtain ⟨v, hv, _, ev⟩ := at_ok (xs := [U.int (x / 3 % 10), U.int (x / 3 * 7919 % 1000000000), U.int 999999999]) (i := x / 3 % 3) (by omega) (by simp; omega)
  refine optK_in ev ?_
  have : ∃ i, v = .int i ∧ 0 ≤ i ∧ i ≤ 999999999 := by
    simp only [List.mem_cons, List.not_mem_nil, or_false] at hv
    rcases hv with rfl | rfl | rfl
    · exact ⟨_, rfl, by omega, by omega⟩
    · exact ⟨_, rfl, by omega, by omega⟩
    · exact ⟨_, rfl, by omega, by omega⟩
  obtain ⟨i, rfl, h0, h1⟩ := this
  walk_at "go"
  have := h (.int i) (a + 1) (by simp [thg, h0, h1]) (by have := wb_1 dd; simp [wordsU]; omega)
  rw [show ((a : Int) + 1) = ((a + 1 : Nat) : Int) by omega]
  exact this
theorem rng_nat {n : Nat} : rangeI 0 (n : Int) = (List.range n).map fun (k : Nat) => U.int (k : Int) := range_map0 n
theorem allStr_one {α : Type} (f : α → Nat) : ∀ xs : List α, allStr (xs.map fun k => U.str [f k]) = some (xs.map fun k => [f k])
  | [] => rfl
  | x :: xs => by simp [allStr, allStr_one f xs]
theorem join_one {α : Type} (f : α → Nat) : ∀ xs : List α, joinS [] (xs.map fun k => [f k]) = xs.map f
  | [] => rfl
  | [x] => rfl
  | x :: y :: xs => by
    have := join_one f (y :: xs)
    simp only [List.map_cons] at this ⊢
    rw [joinS, this]
    rfl
theorem sum_one {α : Type} (f : α → Nat) : ∀ xs : List α, ((xs.map fun k => [f k]).map List.length).sum = xs.length
  | [] => rfl
  | x :: xs => by
    have := sum_one f xs
    simp only [List.map_cons, List.sum_cons, List.length_cons, List.length_nil, this]
    omega
theorem thing_text {L : List Fn} {m : Nat} (hm : 0 < m) {sv : SV} {a : Nat} {d x : Int} {dd : Nat} {G : Hh} {Q : Qg} (hx : 0 ≤ x) (hx2 : x < 2147483647) (h : Drw (dd + 1) Q G) {ex : Nat → List U → Rho → Hh → Prop} {nx ct : Rho → Hh → Prop} :
    wpSs (Pof L) (callN (Pof L) m) l_thing_r6 [some sv, some (.u (.int (a : Int))), some (.u (.int d)), some (.u (.int x)), some (.u (.int 1)), none, none, none, none, none] G nx (fun r ρ G' => fin r ρ G' Q) ct ex := by
  walk_at "go"
  have key : ∀ b : Bool, ∃ n : Nat, L2.atI [U.int (x / 3 / 4 % 12), U.int 400] (if b then 1 else 0) = some (.int (n : Int)) ∧ n ≤ 400 := fun b => by
    cases b
    · exact ⟨(x / 3 / 4 % 12).toNat, by rw [Int.toNat_of_nonneg (by omega)]; rfl, by omega⟩
    · exact ⟨400, rfl, by omega⟩
  obtain ⟨n, en, hn⟩ := key (eqU (U.int (x / 3 % 29)) (U.int 5))
  refine optK_in en ?_
  have hsz : (rangeI 0 (n : Int)).length ≤ PySem.sizeLine := by rw [range_len, sizeLine_def]; omega
  walk_at "go"
  rw [rng_nat]
  refine lc_map (f := fun k : Nat => U.int (k : Int)) (fun k => some (.str [sg.getD (((x / 3 / 7 + (k : Int) * (1 + x / 3 / 3 % 93)) % 94).toNat) 0])) (fun k hk N hN => ?_) ?_
  · have hk : k < n := List.mem_range.mp hk
    obtain ⟨c, e1, e2⟩ := sgD (j := ((x / 3 / 7 + (k : Int) * (1 + x / 3 / 3 % 93)) % 94).toNat) (by omega)
    have ei : L2.atI sg ((x / 3 / 7 + (k : Int) * (1 + x / 3 / 3 % 93)) % 94) = some c := by
      have := atI_nat e1
      rwa [Int.toNat_of_nonneg (by omega)] at this
    rw [e2] at hN
    have mo : MulOk (k : Int) (1 + x / 3 / 3 % 93) := mulOk_l (by omega)
    walk_at "go"
    refine signs_ok (by omega) ?_
    walk_at "go"
    first | exact hN | (refine optK_in ei ?_; walk_at "go"; exact hN)
  · rw [List.nil_append, filterMap_some]
    walk_at "go"
    refine optK_in (allStr_one _ _) ?_
    have hsum := sum_one (fun k : Nat => sg.getD ((x / 3 / 7 + (k : Int) * (1 + x / 3 / 3 % 93)) % 94).toNat 0) (List.range n)
    have hs2 : ((((List.range n).map fun k : Nat => [sg.getD ((x / 3 / 7 + (k : Int) * (1 + x / 3 / 3 % 93)) % 94).toNat 0]).map List.length).sum + ((List.range n).map fun k : Nat => [sg.getD ((x / 3 / 7 + (k : Int) * (1 + x / 3 / 3 % 93)) % 94).toNat 0]).length * ([] : List Nat).length) ≤ PySem.sizeLine := by
      rw [hsum, sizeLine_def]; simp; omega
    walk_at "go"
    rw [join_one]
    have hall : ∀ c ∈ ((List.range n).map fun k : Nat => sg.getD ((x / 3 / 7 + (k : Int) * (1 + x / 3 / 3 % 93)) % 94).toNat 0), c ∈ sg := fun c hc => by
      obtain ⟨k, _, rfl⟩ := List.mem_map.mp hc
      obtain ⟨c, e1, e2⟩ := sgD (j := ((x / 3 / 7 + (k : Int) * (1 + x / 3 / 3 % 93)) % 94).toNat) (by omega)
      rw [e2]
      exact List.mem_of_getElem? e1
    have := h (.str ((List.range n).map fun k : Nat => sg.getD ((x / 3 / 7 + (k : Int) * (1 + x / 3 / 3 % 93)) % 94).toNat 0)) (a + 1) (by simp only [thg, Bool.and_eq_true, decide_eq_true_eq, List.all_eq_true]; exact ⟨by simpa using hn, hall⟩) (by have := wb_1 dd; simp [wordsU]; omega)
    rw [show ((a : Int) + 1) = ((a + 1 : Nat) : Int) by omega]
    exact this
theorem thgs_snoc {d : Nat} : ∀ {us : List U} {u : U}, thgs d (us ++ [u]) = (thgs d us && thg d u)
  | [], u => by simp [thgs]
  | v :: us, u => by simp [thgs, thgs_snoc (us := us), Bool.and_assoc]
theorem thing_tup {L : List Fn} {m : Nat} (hm : 0 < m) {sv : SV} {ds : List Int} (hs : Lp sv (.lst (ds.map U.int))) {a : Nat} {x : Int} {dd : Nat} {G : Hh} {Q : Qg} {X : Xg} (hx : 0 ≤ x) (hx2 : x < 2147483647) (h : Drw (dd + 2) Q G)
    (ih : ∀ {sv : SV} {a : Nat} {G : Hh} {X : Xg} {Q : Qg}, Lp sv (.lst (ds.map U.int)) → Drw (dd + 1) Q G → callN (Pof L) m F_l_thing [sv, .u (.int (a : Int)), .u (.int ((dd + 1 : Nat) : Int))] G X Q) {nx ct : Rho → Hh → Prop} {ex : Nat → List U → Rho → Hh → Prop} :
    wpSs (Pof L) (callN (Pof L) m) l_thing_r6 [some sv, some (.u (.int (a : Int))), some (.u (.int ((dd + 2 : Nat) : Int))), some (.u (.int x)), some (.u (.int 2)), none, none, none, none, none] G nx (fun r ρ G' => fin r ρ G' Q) ct ex := by
  have hd1 : ((dd + 2 : Nat) : Int) - 1 = ((dd + 1 : Nat) : Int) := by omega
  have ha1 : (a : Int) + 1 = ((a + 1 : Nat) : Int) := by omega
  have hw2 : 404 ≤ wb (dd + 2) := by have := wb_1 dd; simp only [wb] at this ⊢; omega
  rcases hs with rfl | rfl | ⟨t, rfl⟩
  all_goals
    by_cases h31 : x / 3 % 31 = 7
    · have f : eqU (.int (x / 3 % 31)) (.int 7) = true := by rw [eq_int]; exact decide_eq_true h31
      have hsz : (rangeI 0 (100 : Int)).length ≤ PySem.sizeLine := by rw [range_len, sizeLine_def]; omega
      walk_at "go"
      rw [show (100 : Int) = ((100 : Nat) : Int) from rfl, rng_nat]
      refine lc_map (f := fun k : Nat => U.int (k : Int)) (fun k => some (.int ((k : Int) * (x / 3) % 1000000000))) (fun k hk N hN => ?_) ?_
      · have hk : k < 100 := List.mem_range.mp hk
        have mo : MulOk (k : Int) (x / 3) := mulOk_l (by omega)
        walk_at "go"
        exact hN
      · rw [List.nil_append, filterMap_some]
        have := h (.tup ((List.range 100).map fun k : Nat => U.int ((k : Int) * (x / 3) % 1000000000))) (a + 1) (by
          simp only [thg, thgs_all, Bool.and_eq_true, decide_eq_true_eq, List.all_eq_true]
          refine ⟨by simp, fun u hu => ?_⟩
          obtain ⟨k, _, rfl⟩ := List.mem_map.mp hu
          simp only [thg, Bool.and_eq_true, decide_eq_true_eq]
          omega) (by
          have e : ∀ l : List Nat, (wordsUs (l.map fun k : Nat => U.int ((k : Int) * (x / 3) % 1000000000))).length = 2 * l.length := fun l => by
            induction l with
            | nil => rfl
            | cons k l ih => rw [List.map_cons, wordsUs, List.length_append, ih]; simp [wordsU]; omega
          simp only [wordsU, List.length_cons, e, List.length_range]
          omega)
        walk_at "go"
        rw [ha1]
        exact this
    · have f : eqU (.int (x / 3 % 31)) (.int 7) = false := by rw [eq_int]; exact decide_eq_false h31
      obtain ⟨n, hn, hn4⟩ : ∃ n : Nat, x / 3 % 4 = n ∧ n ≤ 3 := ⟨(x / 3 % 4).toNat, by omega, by omega⟩
      walk_at "go"
      rw [hn, ha1]
      refine for_pre (fun ys ρ G' => ∃ us p x8 x9, ρ = [_, some (.u (.int ((p : Nat) : Int))), some (.u (.int ((dd + 2 : Nat) : Int))), some (.u (.int (x / 3))), some (.u (.int 2)), none, none, some (.own (.lst us)), x8, x9] ∧ us.length = ys.length ∧ thgs (dd + 1) us = true ∧ (wordsUs us).length ≤ ys.length * wb (dd + 1) ∧ G' = G) ⟨[], a + 1, _, _, rfl, rfl, rfl, by simp [wordsUs], rfl⟩ ?_ ?_
      · rintro ys y zs ρ G' K e ⟨us, p, x8, x9, rfl, hul, hth, hwl, rfl⟩ hK
        obtain ⟨rfl, hyl⟩ := range_at' e
        have hsz : us.length < PySem.sizeLine := by rw [sizeLine_def]; omega
        walk_at "go"
        rw [hd1]
        refine ih (by first | exact Lp.v | exact Lp.o | exact Lp.f) (fun u p' hu hw => ?_)
        walk_at "go"
        refine hK _ _ ⟨us ++ [u], p', _, _, rfl, by simp [hul], by rw [thgs_snoc, hth, hu]; rfl, ?_, rfl⟩
        rw [wordsUs_snoc, List.length_append, List.length_append, List.length_singleton, Nat.add_mul, Nat.one_mul]
        exact Nat.add_le_add hwl hw
      · rintro ρ G' ⟨us, p, x8, x9, rfl, hul, hth, hwl, rfl⟩
        rw [range_len, show ((n : Int) - 0).toNat = n by omega] at hul hwl
        have := h (.tup us) p (by simp only [thg, Bool.and_eq_true, decide_eq_true_eq]; exact ⟨by omega, hth⟩) (by
          simp only [wordsU, List.length_cons, wb]
          have h3 : n * wb (dd + 1) ≤ 3 * wb (dd + 1) := Nat.mul_le_mul_right _ hn4
          simp only [wb] at h3 hwl
          omega)
        walk_at "go"
        exact this
/-- a drawn thing's kind is found, then -/
def thingPre (r : Ss) : Ss := (.cons (.asg (.nm 3) (.idx (.loc 0) (.bin .mod (.loc 1) (.bcall .len (.cons (.loc 0) .nil))))) (.cons (.asg (.nm 4) (.bin .mod (.loc 3) (.int 3))) (.cons (.ite (.or_ (.cmp .lt (.loc 2) (.int 2)) (.cons (.cmp .ge (.bin .add (.loc 1) (.int 1)) (.bcall .len (.cons (.loc 0) .nil))) .nil)) (.cons (.asg (.nm 4) (.bin .mod (.loc 3) (.int 2))) .nil) .nil) r)))
theorem pre_ok {L : List Fn} {m : Nat} {ds : List Int} {k : Nat} (hk : 0 < k) (hk2 : k ≤ 1000) (hd : Drawn k ds) {r6 : Ss} {sv : SV} (hs : Lp sv (.lst (ds.map U.int))) {a d : Nat} {G : Hh} {nx ct : Rho → Hh → Prop} {rt : R → Rho → Hh → Prop} {ex : Nat → List U → Rho → Hh → Prop}
    (h : ∀ x κ : Int, 0 ≤ x → x < 2147483647 → (κ = 0 ∨ κ = 1 ∨ (κ = 2 ∧ 2 ≤ d)) → wpSs (Pof L) (callN (Pof L) m) r6 [some sv, some (.u (.int (a : Int))), some (.u (.int (d : Int))), some (.u (.int x)), some (.u (.int κ)), none, none, none, none, none] G nx rt ct ex) :
    wpSs (Pof L) (callN (Pof L) m) (thingPre r6) [some sv, some (.u (.int (a : Int))), some (.u (.int (d : Int))), none, none, none, none, none, none, none] G nx rt ct ex := by
  have hlm : (ds.map U.int).length = k := by rw [List.length_map, hd.1]
  have hp : ((a : Int) % (((ds.map U.int).length : Nat) : Int)) = ((a % k : Nat) : Int) := by rw [hlm]; simp
  have hl0 : 0 < (((ds.map U.int).length : Nat) : Int) := by omega
  obtain ⟨x, b1, b2, _, e⟩ := hd.at (i := ((a % k : Nat) : Int)) (by omega) (by have := Nat.mod_lt a hk; omega)
  rw [← hp] at e
  rcases hs with rfl | rfl | ⟨t, rfl⟩
  all_goals
    walk_at "go"
    all_goals exact h _ _ b1 b2 (by omega)
theorem lthing_ok {L : List Fn} {ds : List Int} {k : Nat} (hk : 0 < k) (hk2 : k ≤ 1000) (hd : Drawn k ds) : ∀ (d : Nat) {m : Nat} (_ : d + 1 < m) {sv : SV} {a : Nat} {G : Hh} {X : Xg} {Q : Qg}, Lp sv (.lst (ds.map U.int)) → Drw (d + 1) Q G → callN (Pof L) m F_l_thing [sv, .u (.int (a : Int)), .u (.int ((d + 1 : Nat) : Int))] G X Q := by
  intro d
  induction d with
  | zero =>
    intro m hm sv a G X Q hs h
    obtain ⟨m, rfl, hm2⟩ := lvl hm
    show wpSs (Pof L) (callN (Pof L) m) (thingPre l_thing_r6) [some sv, some (.u (.int (a : Int))), some (.u (.int ((0 + 1 : Nat) : Int))), none, none, none, none, none, none, none] G (fun ρ G' => fin (.u .non) ρ G' Q) (fun r ρ G' => fin r ρ G' Q) (fun _ _ => False) (fun k as _ G' => ∃ G'', Sub G'' G' ∧ X k as G'')
    refine pre_ok hk hk2 hd hs fun x κ b1 b2 hκ => ?_
    rcases hκ with rfl | rfl | ⟨_, z⟩
    · exact thing_leaf (by omega) b1 b2 h
    · exact thing_text (by omega) b1 b2 h
    · omega
  | succ d ih =>
    intro m hm sv a G X Q hs h
    obtain ⟨m, rfl, hm2⟩ := lvl hm
    show wpSs (Pof L) (callN (Pof L) m) (thingPre l_thing_r6) [some sv, some (.u (.int (a : Int))), some (.u (.int ((d + 1 + 1 : Nat) : Int))), none, none, none, none, none, none, none] G (fun ρ G' => fin (.u .non) ρ G' Q) (fun r ρ G' => fin r ρ G' Q) (fun _ _ => False) (fun k as _ G' => ∃ G'', Sub G'' G' ∧ X k as G'')
    refine pre_ok hk hk2 hd hs fun x κ b1 b2 hκ => ?_
    rcases hκ with rfl | rfl | ⟨rfl, z⟩
    · exact thing_leaf (by omega) b1 b2 h
    · exact thing_text (by omega) b1 b2 h
    · exact thing_tup (X := X) (by omega) hs b1 b2 h fun h1 h2 => ih (by omega) h1 h2
end Gp

-- needs: S_base
namespace Gp
open Mp
open PySem (Addr)
/-! S_dict: dicts as lists of pairs; facts of the shared heap. -/
section
variable {κ α : Type} [DecidableEq κ]
def kset (d : List (κ × α)) (k : κ) (v : α) : List (κ × α) := if d.any (fun p => decide (p.1 = k)) then d.map (fun p => if p.1 = k then (p.1, v) else p) else d ++ [(k, v)]
def kdel (d : List (κ × α)) (k : κ) : List (κ × α) := d.filter fun p => decide (p.1 ≠ k)
def kget : List (κ × α) → κ → Option α
  | [], _ => none
  | p :: d, k => if p.1 = k then some p.2 else kget d k
theorem kget_none {k : κ} : ∀ {d : List (κ × α)}, d.any (fun p => decide (p.1 = k)) = false → kget d k = none
  | [], _ => rfl
  | p :: d, h => by
    simp only [List.any_cons, Bool.or_eq_false_iff, decide_eq_false_iff_not] at h
    rw [kget, if_neg h.1, kget_none h.2]
theorem kget_app {k : κ} : ∀ {d e : List (κ × α)}, kget (d ++ e) k = (kget d k).or (kget e k)
  | [], e => by simp [kget]
  | p :: d, e => by
    rw [List.cons_append, kget, kget]
    split
    · rfl
    · exact kget_app
theorem kset_no {k : κ} {v : α} : ∀ {d : List (κ × α)}, d.any (fun p => decide (p.1 = k)) = false → (d.map fun p => if p.1 = k then (p.1, v) else p) = d
  | [], _ => rfl
  | p :: d, h => by
    rw [List.any_cons, Bool.or_eq_false_iff, decide_eq_false_iff_not] at h
    rw [List.map_cons, if_neg h.1, kset_no h.2]
theorem kget_map (k : κ) (v : α) (j : κ) : ∀ d : List (κ × α), kget (d.map fun p => if p.1 = k then (p.1, v) else p) j = if j = k then (if d.any (fun p => decide (p.1 = k)) then some v else none) else kget d j
  | [] => by simp [kget]
  | p :: d => by
    rw [List.map_cons, kget, kget_map k v j d, kget, List.any_cons]
    by_cases hp : p.1 = k
    · rw [if_pos hp, decide_eq_true hp, Bool.true_or, if_pos rfl]
      by_cases hj : j = k
      · rw [if_pos (by rw [hj]; exact hp), if_pos hj]
      · rw [if_neg (by rw [hp]; exact fun z => hj z.symm), if_neg hj, if_neg hj, if_neg (by rw [hp]; exact fun z => hj z.symm)]
    · rw [if_neg hp, decide_eq_false hp, Bool.false_or]
      by_cases hj : j = k
      · rw [if_neg (by rw [hj]; exact hp), if_pos hj, if_pos hj]
      · rw [if_neg hj, if_neg hj]
theorem kget_set (d : List (κ × α)) (k : κ) (v : α) (j : κ) : kget (kset d k v) j = if j = k then some v else kget d j := by
  unfold kset
  by_cases h : d.any (fun p => decide (p.1 = k)) = true
  · rw [if_pos h, kget_map, if_pos h]
  · have h' : d.any (fun p => decide (p.1 = k)) = false := Bool.not_eq_true _ ▸ h
    rw [if_neg h, kget_app]
    by_cases hj : j = k
    · rw [if_pos hj, hj, kget_none h']
      simp [kget]
    · have : k ≠ j := fun z => hj z.symm
      rw [if_neg hj]
      simp [kget, this]
theorem kget_del (k j : κ) : ∀ d : List (κ × α), kget (kdel d k) j = if j = k then none else kget d j
  | [] => by simp [kdel, kget]
  | p :: d => by
    have ih := kget_del k j d
    unfold kdel at ih ⊢
    rw [List.filter_cons]
    by_cases hp : p.1 = k
    · rw [if_neg (by simpa using hp), ih, kget]
      by_cases hj : j = k
      · simp [hj]
      · have : k ≠ j := fun z => hj z.symm
        rw [if_neg hj, if_neg hj, if_neg (by rw [hp]; exact this)]
    · rw [if_pos (by simpa using hp), kget, ih, kget]
      by_cases hj : j = k
      · subst hj
        simp [hp]
      · simp [hj]
theorem kset_len (d : List (κ × α)) (k : κ) (v : α) : (kset d k v).length ≤ d.length + 1 := by
  unfold kset
  split <;> simp
theorem kdel_len (d : List (κ × α)) (k : κ) : (kdel d k).length ≤ d.length := List.length_filter_le _ _
theorem kset_mem {d : List (κ × α)} {k : κ} {v : α} {p : κ × α} (h : p ∈ kset d k v) : p = (k, v) ∨ p ∈ d := by
  unfold kset at h
  split at h
  · obtain ⟨q, hq, rfl⟩ := List.mem_map.mp h
    split
    · rename_i e
      left
      rw [e]
    · exact .inr hq
  · rcases List.mem_append.mp h with h | h
    · exact .inr h
    · left
      simpa using h
theorem kdel_mem {d : List (κ × α)} {k : κ} {p : κ × α} (h : p ∈ kdel d k) : p ∈ d := (List.mem_filter.mp h).1
theorem kget_mem {k : κ} {v : α} : ∀ {d : List (κ × α)}, kget d k = some v → (k, v) ∈ d
  | [], h => by cases h
  | p :: d, h => by
    rw [kget] at h
    split at h
    · rename_i e
      cases h
      rw [← e]
      exact List.mem_cons_self ..
    · exact List.mem_cons_of_mem _ (kget_mem h)
/-- of two keys -/
def KeyF (kf : κ → U) : Prop := ∀ a b, eqU (kf a) (kf b) = decide (a = b)
def dks (kf : κ → U) (d : List (κ × α)) : List U := d.map fun p => kf p.1
def dvs (vf : α → U) (d : List (κ × α)) : List U := d.map fun p => vf p.2
def dU (kf : κ → U) (vf : α → U) (d : List (κ × α)) : U := .dic (dks kf d) (dvs vf d)
theorem KeyF.eq {kf : κ → U} (hk : KeyF kf) (a b : κ) : eqU (kf a) (kf b) = decide (a = b) := hk a b
theorem dks_len (kf : κ → U) (d : List (κ × α)) : (dks kf d).length = d.length := List.length_map ..
theorem has_dks {kf : κ → U} (hk : KeyF kf) (k : κ) : ∀ d : List (κ × α), hasD (dks kf d) (kf k) = d.any fun p => decide (p.1 = k)
  | [] => rfl
  | p :: d => by
    show (eqU (kf p.1) (kf k) || hasD (dks kf d) (kf k)) = _
    rw [has_dks hk k d, hk.eq, List.any_cons]
theorem has_get {kf : κ → U} (hk : KeyF kf) (k : κ) : ∀ d : List (κ × α), hasD (dks kf d) (kf k) = (kget d k).isSome
  | [] => rfl
  | p :: d => by
    show (eqU (kf p.1) (kf k) || hasD (dks kf d) (kf k)) = _
    rw [has_get hk k d, hk.eq, kget]
    by_cases h : p.1 = k <;> simp [h]
theorem look_dks {kf : κ → U} {vf : α → U} (hk : KeyF kf) (k : κ) : ∀ d : List (κ × α), lookD (dks kf d) (dvs vf d) (kf k) = (kget d k).map vf
  | [] => rfl
  | p :: d => by
    show (if eqU (kf p.1) (kf k) then some (vf p.2) else lookD (dks kf d) (dvs vf d) (kf k)) = _
    rw [look_dks hk k d, hk.eq, kget]
    by_cases h : p.1 = k <;> simp [h]
theorem upd_dks {kf : κ → U} {vf : α → U} (hk : KeyF kf) (k : κ) (v : α) : ∀ d : List (κ × α), updD (dks kf d) (dvs vf d) (kf k) (vf v) = dvs vf (d.map fun p => if p.1 = k then (p.1, v) else p)
  | [] => rfl
  | p :: d => by
    show (if eqU (kf p.1) (kf k) then vf v else vf p.2) :: updD (dks kf d) (dvs vf d) (kf k) (vf v) = _
    rw [upd_dks hk k v d, hk.eq]
    by_cases h : p.1 = k <;> simp [h, dvs]
theorem put_dks {kf : κ → U} (hk : KeyF kf) (k : κ) (v : α) (d : List (κ × α)) : putDk (dks kf d) (kf k) = dks kf (kset d k v) := by
  unfold putDk kset
  rw [has_dks hk]
  split
  · simp only [dks, List.map_map]
    refine List.map_congr_left fun p _ => ?_
    simp only [Function.comp]
    split <;> rfl
  · simp [dks]
theorem put_dvs {kf : κ → U} {vf : α → U} (hk : KeyF kf) (k : κ) (v : α) (d : List (κ × α)) : putDv (dks kf d) (dvs vf d) (kf k) (vf v) = dvs vf (kset d k v) := by
  unfold putDv kset
  rw [has_dks hk]
  split
  · exact upd_dks hk k v d
  · simp [dvs]
theorem put_d {kf : κ → U} {vf : α → U} (hk : KeyF kf) (k : κ) (v : α) (d : List (κ × α)) : U.dic (putDk (dks kf d) (kf k)) (putDv (dks kf d) (dvs vf d) (kf k) (vf v)) = dU kf vf (kset d k v) := by
  rw [put_dks hk k v, put_dvs hk]
  rfl
theorem del_dks {kf : κ → U} (hk : KeyF kf) (k : κ) : ∀ d : List (κ × α), delDk (dks kf d) (kf k) = dks kf (kdel d k)
  | [] => rfl
  | p :: d => by
    show (if eqU (kf p.1) (kf k) then delDk (dks kf d) (kf k) else kf p.1 :: delDk (dks kf d) (kf k)) = _
    rw [del_dks hk k d, hk.eq]
    by_cases h : p.1 = k <;> simp [h, kdel, dks]
theorem del_dvs {kf : κ → U} {vf : α → U} (hk : KeyF kf) (k : κ) : ∀ d : List (κ × α), delDv (dks kf d) (dvs vf d) (kf k) = dvs vf (kdel d k)
  | [] => rfl
  | p :: d => by
    show (if eqU (kf p.1) (kf k) then delDv (dks kf d) (dvs vf d) (kf k) else vf p.2 :: delDv (dks kf d) (dvs vf d) (kf k)) = _
    rw [del_dvs hk k d, hk.eq]
    by_cases h : p.1 = k <;> simp [h, kdel, dvs]
theorem kget_lookup {k : κ} : ∀ {d : List (κ × α)}, d.any (fun p => decide (p.1 = k)) = true → ∃ v, kget d k = some v
  | [], h => by cases h
  | p :: d, h => by
    rw [kget]
    by_cases hp : p.1 = k
    · exact ⟨_, if_pos hp⟩
    · rw [List.any_cons, decide_eq_false hp, Bool.false_or] at h
      rw [if_neg hp]
      exact kget_lookup h
end
theorem key_int : KeyF U.int := fun a b => eq_int a b
theorem key_str : KeyF U.str := fun a b => eq_str a b
end Gp

-- needs: S_base S_things S_blocks S_frac S_words S_read S_draw S_dict
namespace Gp
open Mp
/-! S_blk: blocks, and how they are drawn. -/
structure Tg where
  n : Int
  b : Int
  s : Int
  deriving DecidableEq
def Tg.u (t : Tg) : U := .tup [.int t.n, .int t.b, .int t.s]
def Tg.ok (t : Tg) : Prop := (1 ≤ t.n ∧ t.n ≤ 999999) ∧ (0 ≤ t.b ∧ t.b ≤ 999999999) ∧ 0 ≤ t.s ∧ t.s ≤ 996
structure Ent where
  nm : List Nat
  k : Int
  t : Tg
  deriving DecidableEq
def Ent.u (e : Ent) : U := .tup [.str e.nm, .int e.k, e.t.u]
def okName (s : List Nat) : Prop := 1 ≤ s.length ∧ s.length ≤ 8 ∧ ∀ c ∈ s, c ∈ named
def Ent.ok (e : Ent) : Prop := okName e.nm ∧ (1 ≤ e.k ∧ e.k ≤ 2) ∧ e.t.ok
inductive Blk where
  | pc (s : List Nat) | row (l : Int) (ts : List Tg) | fo (es : List Ent)
  deriving DecidableEq
def Blk.u : Blk → U
  | .pc s => .tup [.int 0, .str s]
  | .row l ts => .tup [.int 1, .int l, .tup (ts.map Tg.u)]
  | .fo es => .tup [.int 2, .tup (es.map Ent.u)]
def Blk.ok : Blk → Prop
  | .pc s => 1 ≤ s.length ∧ s.length ≤ 8 ∧ ∀ c ∈ s, c ∈ sg
  | .row l ts => 1 ≤ l ∧ l ≤ 9 ∧ ts.length ≤ 8 ∧ (1 < l → ts ≠ []) ∧ ∀ t ∈ ts, t.ok
  | .fo es => es.length ≤ 16 ∧ (∀ e ∈ es, e.ok) ∧ (es.map Ent.nm).Pairwise (· < ·)
theorem l_tag_ok {L : List Fn} {m : Nat} (hm : 0 < m) {x : Int} (hx : 0 ≤ x) {G : Hh} {X : Xg} {Q : Qg} (h : ∀ t : Tg, t.ok → Q (.u t.u) G) : callN (Pof L) m F_l_tag [.u (.int x)] G X Q := by
  obtain ⟨m, rfl, _⟩ := lvl hm
  obtain ⟨v, hv, _, ev⟩ := at_ok (xs := [U.int 996, U.int 0]) (i := x / 7 % 2) (by omega) (by simp; omega)
  have hv : v = .int 996 ∨ v = .int 0 := by simpa using hv
  walk_at "go"
  · rcases hv with rfl | rfl
    · exact h ⟨999999, 999999999, 996⟩ (by simp [Tg.ok])
    · exact h ⟨999999, 999999999, 0⟩ (by simp [Tg.ok])
  · exact h ⟨1 + x % 9, x / 9 % 2, x / 18 % 997⟩ (by simp only [Tg.ok]; omega)
  · have e : ((10 : Int) ^ Int.toNat 9) = 1000000000 := rfl
    exact h ⟨1 + x % 999999, x * 48271 % 10 ^ Int.toNat 9, x / 5 % 997⟩ (by simp only [Tg.ok, e]; omega)
theorem l_name_ok {L : List Fn} {m : Nat} (hm : 0 < m) {x : Int} (hx : 0 ≤ x) {G : Hh} {X : Xg} {Q : Qg} (h : ∀ s, okName s → Q (.u (.str s)) G) : callN (Pof L) m F_l_name [.u (.int x)] G X Q := by
  obtain ⟨m, rfl, _⟩ := lvl hm
  have hsz : (rangeI 0 (1 + x % 8)).length ≤ PySem.sizeLine := by rw [range_len, sizeLine_def]; omega
  walk_at "go"
  refine lc_inv (fun ys acc => ∃ s : List Nat, acc = s.map (fun c => U.str [c]) ∧ s.length = ys.length ∧ ∀ c ∈ s, c ∈ named) ⟨[], rfl, rfl, by simp⟩ ?_ ?_
  · rintro ys y zs acc e ⟨s, rfl, hsl, hs⟩ N hN
    obtain ⟨rfl, hyl⟩ := range_at' e
    obtain ⟨c, hc, _, ec⟩ := at_ok (xs := named) (i := (x / 8 + (0 + (ys.length : Int)) * (x / 288 % 36)) % 36) (by omega) (by have : named.length = 36 := rfl; rw [this]; omega)
    have mo : MulOk (0 + (ys.length : Int)) (x / 288 % 36) := mulOk_r (by omega)
    walk_at "go"
    exact hN (some (.str [c])) ⟨s ++ [c], by simp [Mp.addO], by simp [hsl], fun d hd => by
      rcases List.mem_append.mp hd with hd | hd
      · exact hs d hd
      · rw [List.mem_singleton.mp hd]; exact hc⟩
  · rintro acc ⟨s, rfl, hsl, hs⟩
    rw [range_len] at hsl
    walk_at "go"
    refine optK_in (allStr_one (fun c => c) s) ?_
    have hsum := sum_one (fun c : Nat => c) s
    have hs2 : ((s.map fun c => [c]).map List.length).sum + (s.map fun c => [c]).length * ([] : List Nat).length ≤ PySem.sizeLine := by
      rw [hsum, sizeLine_def]; simp; omega
    walk_at "go"
    have hj : joinS [] (s.map fun c => [c]) = s := by rw [join_one (fun c => c) s]; simp
    rw [hj]
    exact h s ⟨by omega, by omega, hs⟩
theorem allStr_map : ∀ ss : List (List Nat), allStr (ss.map U.str) = some ss
  | [] => rfl
  | s :: ss => by rw [List.map_cons, allStr, allStr_map ss]; rfl
theorem sortU_strs {ss : List (List Nat)} (hl : ss.length < 64) {K : R → Prop} (h : K (.tmp (.lst ((sortS ss).map U.str)))) : sortU (ss.map U.str) K := by
  cases ss with
  | nil => exact h
  | cons s ss =>
    have e : allStr ((s :: ss).map U.str) = some (s :: ss) := allStr_map _
    have e2 : allInt ((s :: ss).map U.str) = none := rfl
    unfold sortU
    rw [e2, e]
    exact ⟨hl, h⟩
theorem sortM_elim {ss : List (List Nat)} {A : List Int → Prop} {B : List (List Nat) → Prop} {C : Prop} (hl : ss.length < 64) (h1 : ss = [] → A []) (h2 : B ss) : (match (generalizing := false) allInt (ss.map U.str) with
    | some ns => A ns
    | none => match (generalizing := false) allStr (ss.map U.str) with
      | some s => s.length < 64 ∧ B s
      | none => C) := by
  cases ss with
  | nil => exact h1 rfl
  | cons s ss =>
    have e : allStr ((s :: ss).map U.str) = some (s :: ss) := allStr_map _
    have e2 : allInt ((s :: ss).map U.str) = none := rfl
    rw [e2, e]
    exact ⟨hl, h2⟩
theorem sortS_lt {ss : List (List Nat)} (hn : ss.Nodup) : (sortS ss).Pairwise (· < ·) := by
  refine ((sortS_rises ss).and ((sortS_perm ss).nodup_iff.mpr hn)).imp fun {a b} h => ?_
  exact Decidable.byContradiction fun z => h.2 (List.le_antisymm h.1 z)
theorem kset_keys {κ α : Type} [DecidableEq κ] {d : List (κ × α)} {k : κ} {v : α} (h : (d.map Prod.fst).Nodup) : ((kset d k v).map Prod.fst).Nodup := by
  unfold kset
  by_cases ha : d.any (fun p => decide (p.1 = k)) = true
  · rw [if_pos ha, List.map_map]
    have : (Prod.fst ∘ fun p : κ × α => if p.1 = k then (p.1, v) else p) = Prod.fst := by
      funext p
      simp only [Function.comp]
      split <;> rfl
    rw [this]
    exact h
  · rw [if_neg ha, List.map_append, List.nodup_append]
    refine ⟨h, by simp, fun a ha2 b hb => ?_⟩
    simp only [List.map_cons, List.map_nil, List.mem_singleton] at hb
    subst hb
    rintro rfl
    apply ha
    obtain ⟨p, hp, rfl⟩ := List.mem_map.mp ha2
    exact List.any_eq_true.mpr ⟨p, hp, by simp⟩
/-- what is drawn into a folder -/
abbrev Ed := List (List Nat × (Int × Tg))
def edv (p : Int × Tg) : U := .tup [.int p.1, p.2.u]
def edOk (d : Ed) : Prop := ∀ p ∈ d, okName p.1 ∧ (1 ≤ p.2.1 ∧ p.2.1 ≤ 2) ∧ p.2.2.ok
def edE (d : Ed) (s : List Nat) : Ent := match kget d s with
  | some (k, t) => ⟨s, k, t⟩
  | none => ⟨s, 1, ⟨1, 0, 0⟩⟩
theorem sg_atI {j : Int} (h0 : 0 ≤ j) (h1 : j < 94) : ∃ c, c ∈ sg ∧ L2.atI sg j = some c := by
  obtain ⟨c, hc, _, ec⟩ := at_ok (xs := sg) (i := j) h0 (by have : sg.length = 94 := rfl; rw [this]; omega)
  exact ⟨c, hc, ec⟩
theorem block_pc {L : List Fn} {m : Nat} (hm : 1 < m) {sv : SV} {ds : List Int} {k : Nat} (hk : 24 ≤ k) (hd : Drawn k ds) (hs : Lp sv (.lst (ds.map U.int))) {x0 : Int} (e0 : L2.atI (ds.map U.int) 0 = some (.int x0)) (h0 : x0 % 3 = 0) {G : Hh} {X : Xg} {Q : Qg} (h : ∀ b : Blk, b.ok → Q (.u b.u) G) : callN (Pof L) m F_l_block [sv] G X Q := by
  obtain ⟨m, rfl, _⟩ := lvl hm
  obtain ⟨x1, b1, b2, _, e1⟩ := hd.at (i := 1) (by omega) (by omega)
  have f : eqU (.int (x0 % 3)) (.int 0) = true := by rw [eq_int]; exact decide_eq_true h0
  have hcl : (cut (ds.map U.int) (some 2) (some (3 + x1 % 8))).length = (x1 % 8).toNat + 1 := by
    have := cut_len2 (xs := ds.map U.int) (i := 2) (j := 3 + x1 % 8) (a := 2) (b := (3 + x1 % 8).toNat) rfl (by omega) (by rw [List.length_map, hd.1]; omega)
    rw [this]
    omega
  have hsz : (id (cut (ds.map U.int) (some 2) (some (3 + x1 % 8)))).length ≤ PySem.sizeLine := by rw [sizeLine_def, id_eq]; omega
  rcases hs with rfl | rfl | ⟨t, rfl⟩
  all_goals
    walk_at "go"
    rw [id_eq]
    refine lc_inv (fun ys acc => ∃ s : List Nat, acc = s.map (fun c => U.str [c]) ∧ s.length = ys.length ∧ ∀ c ∈ s, c ∈ sg) ⟨[], rfl, rfl, by simp⟩ ?_ ?_
    · rintro ys y zs acc e ⟨s, rfl, hsl, hs⟩ N hN
      obtain ⟨w, hwm, rfl⟩ := ints_mem (x := y) (cut_sub (xs := ds.map U.int) (lo := some 2) (hi := some (3 + x1 % 8)) (by rw [← e]; simp))
      obtain ⟨hw0, hw1⟩ := hd.2 w hwm
      obtain ⟨c, hc, ec⟩ := sg_atI (j := w % 94) (by omega) (by omega)
      walk_at "go"
      refine signs_ok (by omega) ?_
      walk_at "go"
      exact hN (some (.str [c])) ⟨s ++ [c], by simp [Mp.addO], by simp [hsl], fun d hd => by
        rcases List.mem_append.mp hd with hd | hd
        · exact hs d hd
        · rw [List.mem_singleton.mp hd]; exact hc⟩
    · rintro acc ⟨s, rfl, hsl, hs⟩
      rw [hcl] at hsl
      walk_at "go"
      refine optK_in (allStr_one (fun c => c) s) ?_
      have hsum := sum_one (fun c : Nat => c) s
      have hs2 : ((s.map fun c => [c]).map List.length).sum + (s.map fun c => [c]).length * ([] : List Nat).length ≤ PySem.sizeLine := by
        rw [hsum, sizeLine_def]; simp; omega
      walk_at "go"
      have hj : joinS [] (s.map fun c => [c]) = s := by rw [join_one (fun c => c) s]; simp
      rw [hj]
      exact h (.pc s) ⟨by omega, by omega, hs⟩
theorem block_row {L : List Fn} {m : Nat} (hm : 1 < m) {sv : SV} {ds : List Int} {k : Nat} (hk : 24 ≤ k) (hd : Drawn k ds) (hs : Lp sv (.lst (ds.map U.int))) {x0 : Int} (e0 : L2.atI (ds.map U.int) 0 = some (.int x0)) (h0 : x0 % 3 = 1) {G : Hh} {X : Xg} {Q : Qg} (h : ∀ b : Blk, b.ok → Q (.u b.u) G) : callN (Pof L) m F_l_block [sv] G X Q := by
  obtain ⟨m, rfl, _⟩ := lvl hm
  obtain ⟨x1, b1, b2, _, e1⟩ := hd.at (i := 1) (by omega) (by omega)
  obtain ⟨x2, c1, c2, _, e2⟩ := hd.at (i := 2) (by omega) (by omega)
  have f : eqU (.int (x0 % 3)) (.int 0) = false := by rw [eq_int]; exact decide_eq_false (by omega)
  have f1 : eqU (.int (x0 % 3)) (.int 1) = true := by rw [eq_int]; exact decide_eq_true h0
  obtain ⟨y, hy⟩ : ∃ y : Int, (if x2 % 9 > (if decide (1 < 1 + x1 % 9) = true then 1 else 0) then x2 % 9 else (if decide (1 < 1 + x1 % 9) = true then 1 else 0)) = y := ⟨_, rfl⟩
  have hy0 : 0 ≤ y ∧ y ≤ 8 ∧ (1 < 1 + x1 % 9 → 1 ≤ y) := by
    rw [← hy]
    by_cases q : 1 < 1 + x1 % 9
    · simp only [decide_eq_true q, if_true]
      split <;> omega
    · simp only [decide_eq_false q]
      simp only [Bool.false_eq_true, if_false]
      split <;> omega
  have hcl : (cut (ds.map U.int) (some 3) (some (3 + y))).length = y.toNat := by
    have := cut_len2 (xs := ds.map U.int) (i := 3) (j := 3 + y) (a := 3) (b := (3 + y).toNat) rfl (by omega) (by rw [List.length_map, hd.1]; omega)
    rw [this]
    omega
  have hsz : (id (cut (ds.map U.int) (some 3) (some (3 + y)))).length ≤ PySem.sizeLine := by rw [sizeLine_def, id_eq]; omega
  rcases hs with rfl | rfl | ⟨t, rfl⟩
  all_goals
    walk_at "go"
    rw [hy]
    walk_at "go"
    rw [id_eq]
    refine lc_inv (fun ys acc => ∃ ts : List Tg, acc = ts.map Tg.u ∧ ts.length = ys.length ∧ ∀ t ∈ ts, t.ok) ⟨[], rfl, rfl, by simp⟩ ?_ ?_
    · rintro ys z zs acc e ⟨ts, rfl, htl, hts⟩ N hN
      obtain ⟨w, hwm, rfl⟩ := ints_mem (x := z) (cut_sub (xs := ds.map U.int) (lo := some 3) (hi := some (3 + y)) (by rw [← e]; simp))
      obtain ⟨hw0, hw1⟩ := hd.2 w hwm
      walk_at "go"
      refine l_tag_ok (by omega) hw0 fun t ht => ?_
      walk_at "go"
      exact hN (some t.u) ⟨ts ++ [t], by simp [Mp.addO], by simp [htl], fun d hd => by
        rcases List.mem_append.mp hd with hd | hd
        · exact hts d hd
        · rw [List.mem_singleton.mp hd]; exact ht⟩
    · rintro acc ⟨ts, rfl, htl, hts⟩
      rw [hcl] at htl
      walk_at "go"
      exact h (.row (1 + x1 % 9) ts) ⟨by omega, by omega, by omega, fun q z => by subst z; have := hy0.2.2 q; simp at htl; omega, hts⟩
theorem edE_at {d : Ed} {s : List Nat} (h : s ∈ d.map Prod.fst) : ∃ k t, kget d s = some (k, t) ∧ edE d s = ⟨s, k, t⟩ ∧ (s, (k, t)) ∈ d := by
  obtain ⟨p, hp, rfl⟩ := List.mem_map.mp h
  have hany : d.any (fun q => decide (q.1 = p.1)) = true := List.any_eq_true.mpr ⟨p, hp, by simp⟩
  obtain ⟨⟨k, t⟩, e⟩ := kget_lookup hany
  refine ⟨k, t, e, ?_, kget_mem e⟩
  unfold edE
  rw [e]
theorem named_ok : ∀ c ∈ named, c < 1114112 := by decide +kernel
theorem block_fo {L : List Fn} {m : Nat} (hm : 1 < m) {sv : SV} {ds : List Int} {k : Nat} (hk : 24 ≤ k) (hd : Drawn k ds) (hs : Lp sv (.lst (ds.map U.int))) {x0 : Int} (e0 : L2.atI (ds.map U.int) 0 = some (.int x0)) (h0 : x0 % 3 = 2) {G : Hh} {X : Xg} {Q : Qg} (h : ∀ b : Blk, b.ok → Q (.u b.u) G) : callN (Pof L) m F_l_block [sv] G X Q := by
  obtain ⟨m, rfl, _⟩ := lvl hm
  obtain ⟨x1, b1, b2, _, e1⟩ := hd.at (i := 1) (by omega) (by omega)
  have f : eqU (.int (x0 % 3)) (.int 0) = false := by rw [eq_int]; exact decide_eq_false (by omega)
  have f1 : eqU (.int (x0 % 3)) (.int 1) = false := by rw [eq_int]; exact decide_eq_false (by omega)
  have hcl : (cut (ds.map U.int) (some 2) (some (2 + x1 % 17))).length = (x1 % 17).toNat := by
    have := cut_len2 (xs := ds.map U.int) (i := 2) (j := 2 + x1 % 17) (a := 2) (b := (2 + x1 % 17).toNat) rfl (by omega) (by rw [List.length_map, hd.1]; omega)
    rw [this]
    omega
  have hsz : (id (cut (ds.map U.int) (some 2) (some (2 + x1 % 17)))).length ≤ PySem.sizeLine := by rw [sizeLine_def, id_eq]; omega
  rcases hs with rfl | rfl | ⟨t, rfl⟩
  all_goals
    walk_at "go"
    refine for_pre (fun ys ρ G' => ∃ (d : Ed) (x4 : Option SV), ρ = [_, none, none, some (.own (dU U.str edv d)), x4, none] ∧ d.length ≤ ys.length ∧ edOk d ∧ (d.map Prod.fst).Nodup ∧ G' = G) ⟨[], _, rfl, Nat.le_refl _, (fun p hp => by cases hp), List.nodup_nil, rfl⟩ ?_ ?_
    · rintro ys y zs ρ G' K e ⟨d, x4, rfl, hdl, hdo, hdn, rfl⟩ hK
      have hyl : ys.length ≤ 16 := by
        have := congrArg List.length e
        rw [id_eq, hcl] at this
        simp at this
        omega
      obtain ⟨w, hwm, rfl⟩ := ints_mem (x := y) (cut_sub (xs := ds.map U.int) (lo := some 2) (hi := some (2 + x1 % 17)) (by rw [id_eq] at e; rw [← e]; simp))
      obtain ⟨hw0, hw1⟩ := hd.2 w hwm
      have hkl : (dks U.str d).length < PySem.sizeLine := by rw [dks_len, sizeLine_def]; omega
      walk_at "go"
      refine l_tag_ok (by omega) (by omega) fun t ht => ?_
      walk_at "go"
      refine l_name_ok (by omega) hw0 fun s hs => ?_
      walk_at "go"
      refine hK _ _ ⟨kset d s (1 + w / 7 % 2, t), some (.u (.int w)), ?_, ?_, ?_, kset_keys hdn, rfl⟩
      · have e5 : U.dic (putDk (dks U.str d) (.str s)) (putDv (dks U.str d) (dvs edv d) (.str s) (.tup [.int (1 + w / 7 % 2), t.u])) = dU U.str edv (kset d s (1 + w / 7 % 2, t)) := put_d key_str s (1 + w / 7 % 2, t) d
        rw [← e5]
      · have := kset_len d s (1 + w / 7 % 2, t)
        rw [List.length_append, List.length_singleton]
        omega
      · intro p hp
        rcases kset_mem hp with rfl | hp
        · exact ⟨hs, by show 1 ≤ 1 + w / 7 % 2 ∧ 1 + w / 7 % 2 ≤ 2; omega, ht⟩
        · exact hdo p hp
    · rintro ρ G' ⟨d, x4, rfl, hdl, hdo, hdn, rfl⟩
      rw [id_eq, hcl] at hdl
      have ekeys : dks U.str d = (d.map Prod.fst).map U.str := by simp [dks]
      have hk64 : (dks U.str d).length < 64 ∧ (dks U.str d).all goodU = true := by
        refine ⟨by rw [dks_len]; omega, List.all_eq_true.mpr fun x hx => ?_⟩
        obtain ⟨p, hp, rfl⟩ := List.mem_map.mp hx
        have hn := (hdo p hp).1
        simp only [goodU, Bool.and_eq_true, decide_eq_true_eq, List.all_eq_true]
        exact ⟨by rw [sizeLine_def]; have := hn.2.1; omega, fun c hc => named_ok c (hn.2.2 c hc)⟩
      walk_at "go"
      rw [ekeys]
      refine sortM_elim (ss := d.map Prod.fst) (by rw [List.length_map]; omega) (fun hnil => ?_) ?_
      rw [show List.map U.int (sortI []) = List.map U.str (sortS (d.map Prod.fst)) by rw [hnil]; rfl]
      all_goals
        have hsz2 : (id ((sortS (d.map Prod.fst)).map U.str)).length ≤ PySem.sizeLine := by rw [id_eq, List.length_map, (sortS_perm _).length_eq, List.length_map, sizeLine_def]; omega
        walk_at "go"
        rw [id_eq]
        refine lc_map (f := U.str) (fun s => some (edE d s).u) (fun s hs N hN => ?_) ?_
        · obtain ⟨k', t', g1, g2, g3⟩ := edE_at ((sortS_perm _).mem_iff.mp hs)
          have hl : lookD (dks U.str d) (dvs edv d) (.str s) = some (edv (k', t')) := by
            have := look_dks (vf := edv) key_str s d
            rw [g1] at this
            exact this
          rw [g2] at hN
          walk_at "go"
          exact hN
        · rw [List.nil_append, filterMap_some]
          walk_at "go"
          have := h (.fo ((sortS (d.map Prod.fst)).map (edE d))) ⟨by rw [List.length_map, (sortS_perm _).length_eq, List.length_map]; omega, fun e he => ?_, ?_⟩
          · simp only [Blk.u, List.map_map] at this
            exact this
          · obtain ⟨s, hs, rfl⟩ := List.mem_map.mp he
            obtain ⟨k', t', g1, g2, g3⟩ := edE_at ((sortS_perm _).mem_iff.mp hs)
            rw [g2]
            exact hdo _ g3
          · rw [List.map_map]
            have : (sortS (d.map Prod.fst)).map (Ent.nm ∘ edE d) = sortS (d.map Prod.fst) := by
              conv => rhs; rw [← List.map_id (sortS (d.map Prod.fst))]
              refine List.map_congr_left fun s hs => ?_
              obtain ⟨k', t', g1, g2, g3⟩ := edE_at ((sortS_perm _).mem_iff.mp hs)
              simp only [Function.comp, g2, id]
            rw [this]
            exact sortS_lt hdn
theorem l_block_ok {L : List Fn} {m : Nat} (hm : 1 < m) {sv : SV} {ds : List Int} {k : Nat} (hk : 24 ≤ k) (hd : Drawn k ds) (hs : Lp sv (.lst (ds.map U.int))) {G : Hh} {X : Xg} {Q : Qg} (h : ∀ b : Blk, b.ok → Q (.u b.u) G) : callN (Pof L) m F_l_block [sv] G X Q := by
  obtain ⟨x0, a1, a2, _, e0⟩ := hd.at (i := 0) (by omega) (by omega)
  have : x0 % 3 = 0 ∨ x0 % 3 = 1 ∨ x0 % 3 = 2 := by omega
  rcases this with q | q | q
  · exact block_pc hm hk hd hs e0 q h
  · exact block_row hm hk hd hs e0 q h
  · exact block_fo hm hk hd hs e0 q h
end Gp

-- needs: S_base S_things S_blocks S_frac S_words S_read S_draw S_dict S_blk
namespace Gp
open Mp
/-! S_sum: sums, sizes, tags of blocks. -/
def toldE (e : Ent) : List Int := e.nm.map (fun c => ((num c : Nat) : Int)) ++ [e.k, e.t.s]
def toldB : Blk → List Int
  | .pc s => s.map fun c => ((num c : Nat) : Int)
  | .row l ts => l :: ts.map Tg.s
  | .fo es => es.flatMap toldE
def kindB : Blk → Int
  | .pc _ => 0
  | .row _ _ => 1
  | .fo _ => 2
def stepS (f n : Int) : Int := (31 * f + n + 1) % 997
def sumB (b : Blk) : Int := (toldB b).foldl stepS (kindB b + 1)
def tagsB : Blk → List Tg
  | .pc _ => []
  | .row _ ts => ts
  | .fo es => es.map Ent.t
theorem named_sg : ∀ c ∈ named, c ∈ sg := by decide +kernel
theorem toldE_len {e : Ent} (h : e.ok) : (toldE e).length ≤ 10 := by
  have := h.1.2.1
  simp only [toldE, List.length_append, List.length_map, List.length_cons, List.length_nil]
  omega
theorem flat_len : ∀ {es : List Ent}, (∀ e ∈ es, e.ok) → (es.flatMap toldE).length ≤ 10 * es.length
  | [], _ => Nat.le_refl _
  | e :: es, h => by
    have h1 := toldE_len (h e (by simp))
    have h2 := flat_len (es := es) fun x hx => h x (by simp [hx])
    rw [List.flatMap_cons, List.length_append, List.length_cons]
    omega
theorem told_len {b : Blk} (h : b.ok) : (toldB b).length ≤ 160 := by
  cases b with
  | pc s => have := h.2.1; simp [toldB]; omega
  | row l ts => have := h.2.2.1; simp [toldB]; omega
  | fo es => have := flat_len h.2.1; have := h.1; simp only [toldB]; omega
theorem told_of_ok {L : List Fn} {m : Nat} (hm : 3 < m) {b : Blk} (hb : b.ok) {G : Hh} {X : Xg} {Q : Qg} (h : Q (.tmp (.lst ((toldB b).map U.int))) G) : callN (Pof L) m F_blocks_told_of [.u b.u] G X Q := by
  obtain ⟨m, rfl, _⟩ := lvl hm
  cases b with
  | pc s =>
    obtain ⟨h1, h2, h3⟩ := hb
    walk_at "go"
    refine numbers_of_ok (by omega) h3 (by omega) ?_
    walk_at "go"
    simp only [toldB, List.map_map] at h
    exact h
  | row l ts =>
    obtain ⟨h1, h2, h3, h4, h5⟩ := hb
    have hsz : (id (ts.map Tg.u)).length ≤ PySem.sizeLine := by rw [sizeLine_def]; simp; omega
    walk_at "go"
    rw [id_eq]
    refine lc_map (f := Tg.u) (fun t => some (.int t.s)) (fun t ht N hN => ?_) ?_
    · walk_at "go"
      exact hN
    · rw [List.nil_append, filterMap_some]
      have hz : [U.int l].length + (ts.map fun t => U.int t.s).length ≤ PySem.sizeLine := by rw [sizeLine_def]; simp; omega
      walk_at "go"
      simp only [toldB, List.map_cons, List.map_map] at h
      exact h
  | fo es =>
    obtain ⟨h1, h2, h3⟩ := hb
    walk_at "go"
    refine for_map (f := Ent.u) (fun ys ρ G' => ∃ a2 a3 a4, ρ = [_, some (.own (.lst ((ys.flatMap toldE).map U.int))), a2, a3, a4] ∧ G' = G) ⟨_, _, _, rfl, rfl⟩ ?_ ?_
    · rintro ys e zs ρ G' K he ⟨a2, a3, a4, rfl, rfl⟩ hK
      have heo : e.ok := h2 e (by rw [← he]; simp)
      have hyl := flat_len (es := ys) fun x hx => h2 x (by rw [← he]; simp [hx])
      have hy2 : ys.length ≤ 16 := by have := congrArg List.length he; simp at this; omega
      have hnl := heo.1.2.1
      walk_at "go"
      refine numbers_of_ok (by omega) (fun c hc => named_sg c (heo.1.2.2 c hc)) (by omega) ?_
      have hz : (e.nm.map fun c => U.int (num c)).length + [U.int e.k, U.int e.t.s].length ≤ PySem.sizeLine := by rw [sizeLine_def]; simp; omega
      have hz2 : ((ys.flatMap toldE).map U.int).length + ((e.nm.map fun c => U.int (num c)) ++ [U.int e.k, U.int e.t.s]).length ≤ PySem.sizeLine := by
        rw [sizeLine_def, List.length_map]; simp; simp at hyl; omega
      walk_at "go"
      refine hK _ _ ⟨some (.u (.str e.nm)), some (.u (.int e.k)), some (.u e.t.u), ?_, rfl⟩
      have e5 : ((ys ++ [e]).flatMap toldE).map U.int = (ys.flatMap toldE).map U.int ++ ((e.nm.map fun c => U.int (num c)) ++ [U.int e.k, U.int e.t.s]) := by
        simp [toldE, List.flatMap_append]
      rw [e5]
    · rintro ρ G' ⟨a2, a3, a4, rfl, rfl⟩
      walk_at "go"
      exact h
theorem l_told_ok {L : List Fn} {m : Nat} (hm : 3 < m) {b : Blk} (hb : b.ok) {G : Hh} {X : Xg} {Q : Qg} (h : Q (.tmp (.lst ((toldB b).map U.int))) G) : callN (Pof L) m F_l_told [.u b.u] G X Q := by
  obtain ⟨m, rfl, _⟩ := lvl hm
  have idx : ∀ {s : List Nat} {x0 x1 x2 x3 x4 x5 : Option SV} {G : Hh} {N : Option U → Rho → Hh → Prop}, True := trivial
  cases b with
  | pc s =>
    obtain ⟨h1, h2, h3⟩ := hb
    have hsz : (id (s.map fun c => U.str [c])).length ≤ PySem.sizeLine := by rw [sizeLine_def]; simp; omega
    walk_at "go"
    rw [id_eq]
    refine lc_map (f := fun c => U.str [c]) (fun c => some (.int (num c))) (fun c hc N hN => ?_) ?_
    · have hx := (sg_num (h3 c hc)).1
      walk_at "go"
      refine signs_ok (by omega) ?_
      walk_at "go"
      exact hN
    · rw [List.nil_append, filterMap_some]
      walk_at "go"
      simp only [toldB, List.map_map] at h
      exact h
  | row l ts =>
    obtain ⟨h1, h2, h3, h4, h5⟩ := hb
    have hsz : (id (ts.map Tg.u)).length ≤ PySem.sizeLine := by rw [sizeLine_def]; simp; omega
    walk_at "go"
    rw [id_eq]
    refine lc_map (f := Tg.u) (fun t => some (.int t.s)) (fun t ht N hN => ?_) ?_
    · walk_at "go"
      exact hN
    · rw [List.nil_append, filterMap_some]
      have hz : [U.int l].length + (ts.map fun t => U.int t.s).length ≤ PySem.sizeLine := by rw [sizeLine_def]; simp; omega
      walk_at "go"
      simp only [toldB, List.map_cons, List.map_map] at h
      exact h
  | fo es =>
    obtain ⟨h1, h2, h3⟩ := hb
    walk_at "go"
    refine for_map (f := Ent.u) (fun ys ρ G' => ∃ a2 a3 a4, ρ = [_, some (.own (.lst ((ys.flatMap toldE).map U.int))), a2, a3, a4, none] ∧ G' = G) ⟨_, _, _, rfl, rfl⟩ ?_ ?_
    · rintro ys e zs ρ G' K he ⟨a2, a3, a4, rfl, rfl⟩ hK
      have heo : e.ok := h2 e (by rw [← he]; simp)
      have hyl := flat_len (es := ys) fun x hx => h2 x (by rw [← he]; simp [hx])
      have hy2 : ys.length ≤ 16 := by have := congrArg List.length he; simp at this; omega
      have hnl := heo.1.2.1
      have hsz : (id (e.nm.map fun c => U.str [c])).length ≤ PySem.sizeLine := by rw [sizeLine_def]; simp; omega
      walk_at "go"
      rw [id_eq]
      refine lc_map (f := fun c => U.str [c]) (fun c => some (.int (num c))) (fun c hc N hN => ?_) ?_
      · have hx := (sg_num (named_sg c (heo.1.2.2 c hc))).1
        walk_at "go"
        refine signs_ok (by omega) ?_
        walk_at "go"
        exact hN
      · rw [List.nil_append, filterMap_some]
        have hz : ((ys.flatMap toldE).map U.int).length + (e.nm.map fun c => U.int (num c)).length ≤ PySem.sizeLine := by rw [sizeLine_def, List.length_map]; simp; simp at hyl; omega
        have hz2 : ((ys.flatMap toldE).map U.int ++ e.nm.map fun c => U.int (num c)).length + [U.int e.k, U.int e.t.s].length ≤ PySem.sizeLine := by
          rw [sizeLine_def, List.length_append, List.length_map]; simp; simp at hyl; omega
        walk_at "go"
        refine hK _ _ ⟨some (.u (.str e.nm)), some (.u (.int e.k)), some (.u e.t.u), ?_, rfl⟩
        have e5 : ((ys ++ [e]).flatMap toldE).map U.int = ((ys.flatMap toldE).map U.int ++ e.nm.map fun c => U.int (num c)) ++ [U.int e.k, U.int e.t.s] := by
          simp [toldE, List.flatMap_append]
        rw [e5]
    · rintro ρ G' ⟨a2, a3, a4, rfl, rfl⟩
      walk_at "go"
      exact h
theorem foldl_snoc {α β : Type} (f : β → α → β) (z : β) (xs : List α) (x : α) : (xs ++ [x]).foldl f z = f (xs.foldl f z) x := by rw [List.foldl_append]; rfl
theorem step_rng {f n : Int} : 0 ≤ stepS f n ∧ stepS f n < 997 := by unfold stepS; omega
theorem fold_rng {z : Int} (h0 : 0 ≤ z) (h1 : z < 997) : ∀ xs : List Int, 0 ≤ xs.foldl stepS z ∧ xs.foldl stepS z < 997
  | [] => ⟨h0, h1⟩
  | x :: xs => fold_rng step_rng.1 step_rng.2 xs
theorem sum_rng (b : Blk) : 0 ≤ sumB b ∧ sumB b < 997 := fold_rng (by cases b <;> simp [kindB]) (by cases b <;> simp [kindB]) _
theorem sum_of_ok {L : List Fn} {m : Nat} (hm : 5 < m) {b : Blk} (hb : b.ok) {G : Hh} {X : Xg} {Q : Qg} (h : Q (.u (.int (sumB b))) G) : callN (Pof L) m F_blocks_sum_of [.u b.u] G X Q := by
  obtain ⟨m, rfl, _⟩ := lvl hm
  have key : ∀ {k : Int} {x : SV}, k = kindB b + 1 → wpSs (Pof L) (callN (Pof L) m) (.cons (.for_ (.nm 2) (.seq (.call 23 (.cons (.loc 0) .nil))) blocks_sum_of_f1) blocks_sum_of_r2) [some (.u b.u), some (.u (.int k)), none] G (fun ρ G' => fin (.u .non) ρ G' Q) (fun r ρ G' => fin r ρ G' Q) (fun _ _ => False) (fun k as _ G' => ∃ G'', Sub G'' G' ∧ X k as G'') := fun {k x} hk => by
    walk_at "go"
    refine told_of_ok (m := m) (by omega) hb ?_
    walk_at "go"
    rw [id_eq]
    refine for_map (f := U.int) (fun ys ρ G' => ∃ a2, ρ = [some (.u b.u), some (.u (.int (ys.foldl stepS k))), a2] ∧ G' = G) ⟨_, rfl, rfl⟩ ?_ ?_
    · rintro ys n zs ρ G' K he ⟨a2, rfl, rfl⟩ hK
      walk_at "go"
      exact hK _ _ ⟨_, by rw [foldl_snoc]; rfl, rfl⟩
    · rintro ρ G' ⟨a2, rfl, rfl⟩
      subst hk
      walk_at "go"
      exact h
  cases b <;> exact key (x := .u .non) rfl
theorem l_sum_ok {L : List Fn} {m : Nat} (hm : 5 < m) {b : Blk} (hb : b.ok) {G : Hh} {X : Xg} {Q : Qg} (h : Q (.u (.int (sumB b))) G) : callN (Pof L) m F_l_sum [.u b.u] G X Q := by
  obtain ⟨m, rfl, _⟩ := lvl hm
  have key : ∀ {k : Int} {x : SV}, k = kindB b + 1 → wpSs (Pof L) (callN (Pof L) m) (.cons (.for_ (.nm 2) (.seq (.call 1015 (.cons (.loc 0) .nil))) l_sum_f1) l_sum_r2) [some (.u b.u), some (.u (.int k)), none] G (fun ρ G' => fin (.u .non) ρ G' Q) (fun r ρ G' => fin r ρ G' Q) (fun _ _ => False) (fun k as _ G' => ∃ G'', Sub G'' G' ∧ X k as G'') := fun {k x} hk => by
    walk_at "go"
    refine l_told_ok (m := m) (by omega) hb ?_
    walk_at "go"
    rw [id_eq]
    refine for_map (f := U.int) (fun ys ρ G' => ∃ a2, ρ = [some (.u b.u), some (.u (.int (ys.foldl stepS k))), a2] ∧ G' = G) ⟨_, rfl, rfl⟩ ?_ ?_
    · rintro ys n zs ρ G' K he ⟨a2, rfl, rfl⟩ hK
      walk_at "go"
      exact hK _ _ ⟨_, by rw [foldl_snoc]; rfl, rfl⟩
    · rintro ρ G' ⟨a2, rfl, rfl⟩
      subst hk
      walk_at "go"
      exact h
  cases b <;> exact key (x := .u .non) rfl
theorem tag_thg {t : Tg} (h : t.ok) (d : Nat) : thg (d + 2) t.u = true := by
  obtain ⟨h1, h2, h3⟩ := h
  simp only [Tg.u, thg, thgs, Bool.and_eq_true, decide_eq_true_eq, and_true]
  refine ⟨by simp, ?_, ?_, ?_⟩ <;> omega
theorem blk_thg {b : Blk} (h : b.ok) : thg 5 b.u = true := by
  cases b with
  | pc s =>
    obtain ⟨h1, h2, h3⟩ := h
    simp only [Blk.u, thg, thgs, Bool.and_eq_true, decide_eq_true_eq, and_true, List.all_eq_true]
    exact ⟨by simp, ⟨by omega, by omega⟩, by omega, h3⟩
  | row l ts =>
    obtain ⟨h1, h2, h3, h4, h5⟩ := h
    simp only [Blk.u, thg, thgs, Bool.and_eq_true, decide_eq_true_eq, and_true, thgs_all, List.all_map, List.all_eq_true]
    refine ⟨by simp, ⟨by omega, by omega⟩, ⟨by omega, by omega⟩, by simp; omega, fun t ht => tag_thg (h5 t ht) 1⟩
  | fo es =>
    obtain ⟨h1, h2, h3⟩ := h
    simp only [Blk.u, thg, thgs, Bool.and_eq_true, decide_eq_true_eq, and_true, thgs_all, List.all_map, List.all_eq_true]
    refine ⟨by simp, ⟨by omega, by omega⟩, by simp; omega, fun e he => ?_⟩
    obtain ⟨g1, g2, g3⟩ := h2 e he
    have := tag_thg g3 0
    simp only [Function.comp, Ent.u, thg, thgs, Bool.and_eq_true, decide_eq_true_eq, and_true, List.all_eq_true]
    refine ⟨by simp, ⟨by have := g1.2.1; omega, fun c hc => named_sg c (g1.2.2 c hc)⟩, ⟨by omega, by omega⟩, this⟩
def sizeB : Blk → Nat
  | .pc s => 6 + s.length
  | .row _ ts => 8 + 8 * ts.length
  | .fo es => 6 + (es.map fun e => 14 + e.nm.length).sum
theorem tag_words (t : Tg) : (wordsU t.u).length = 8 := by simp [Tg.u, wordsU, wordsUs]
theorem size_is (b : Blk) : (wordsU b.u).length = sizeB b := by
  cases b with
  | pc s => simp [Blk.u, wordsU, wordsUs, sizeB]; omega
  | row l ts =>
    have : (wordsUs (ts.map Tg.u)).length = 8 * ts.length := by
      induction ts with
      | nil => rfl
      | cons t ts ih => rw [List.map_cons, wordsUs, List.length_append, tag_words, ih]; simp; omega
    simp [Blk.u, wordsU, wordsUs, sizeB, this]; omega
  | fo es =>
    have : (wordsUs (es.map Ent.u)).length = (es.map fun e => 14 + e.nm.length).sum := by
      induction es with
      | nil => rfl
      | cons e es ih =>
        have : (wordsU e.u).length = 14 + e.nm.length := by
          have := tag_words e.t
          simp [Ent.u, wordsU, wordsUs, this]; omega
        rw [List.map_cons, wordsUs, List.length_append, ih, this, List.map_cons, List.sum_cons]
    simp [Blk.u, wordsU, wordsUs, sizeB, this]; omega
theorem sum_le {es : List Ent} (h : ∀ e ∈ es, e.ok) : (es.map fun e => 14 + e.nm.length).sum ≤ 22 * es.length := by
  induction es with
  | nil => exact Nat.le_refl _
  | cons e es ih =>
    have h1 := (h e (by simp)).1.2.1
    have h2 := ih fun x hx => h x (by simp [hx])
    rw [List.map_cons, List.sum_cons, List.length_cons]
    omega
theorem size_le {b : Blk} (h : b.ok) : sizeB b ≤ 400 := by
  cases b with
  | pc s => have := h.2.1; simp only [sizeB]; omega
  | row l ts => have := h.2.2.1; simp only [sizeB]; omega
  | fo es => have := sum_le h.2.1; have := h.1; simp only [sizeB]; omega
theorem size_of_ok {L : List Fn} {m : Nat} (hm : 20 < m) {b : Blk} (hb : b.ok) {G : Hh} {X : Xg} {Q : Qg} (h : Q (.u (.int (sizeB b : Int))) G) : callN (Pof L) m F_blocks_size_of [.u b.u] G X Q := by
  obtain ⟨m, rfl, _⟩ := lvl hm
  walk_at "go"
  refine words_of_ok 5 (m := m) (by omega) (blk_thg hb) (by have := size_le hb; rw [size_is]; omega) ?_
  rw [← size_is, ← List.length_map (f := U.int)] at h
  walk_at "go"
  exact h
theorem tags_in_ok {L : List Fn} {m : Nat} (hm : 0 < m) {b : Blk} (hb : b.ok) {G : Hh} {X : Xg} {Q : Qg} (h : Q (.tmp (.lst ((tagsB b).map Tg.u))) G) : callN (Pof L) m F_blocks_tags_in [.u b.u] G X Q := by
  obtain ⟨m, rfl, _⟩ := lvl hm
  cases b with
  | pc s =>
    walk_at "go"
    exact h
  | row l ts =>
    walk_at "go"
    exact h
  | fo es =>
    obtain ⟨h1, h2, h3⟩ := hb
    have hsz : (id (es.map Ent.u)).length ≤ PySem.sizeLine := by rw [sizeLine_def]; simp; omega
    walk_at "go"
    rw [id_eq]
    refine lc_map (f := Ent.u) (fun e => some e.t.u) (fun e he N hN => ?_) ?_
    · walk_at "go"
      exact hN
    · rw [List.nil_append, filterMap_some]
      walk_at "go"
      simp only [tagsB, List.map_map] at h
      exact h
theorem tags_ok (ts : List Tg) : okU deepU (.lst (ts.map Tg.u)) = true := by
  have : ∀ ts : List Tg, okUs 39 (ts.map Tg.u) = true := fun ts => by
    induction ts with
    | nil => rfl
    | cons t ts ih =>
      rw [List.map_cons, okUs, ih]
      rfl
  exact this ts
theorem tags_len {b : Blk} (h : b.ok) : (tagsB b).length ≤ 16 := by
  cases b with
  | pc s => exact Nat.zero_le _
  | row l ts => have := h.2.2.1; simp only [tagsB]; omega
  | fo es => have := h.1; simp only [tagsB, List.length_map]; omega
end Gp

-- needs: S_base S_things S_blocks S_frac S_words S_read S_draw S_dict S_blk
namespace Gp
open Mp
/-! S_isb: is_block. -/
theorem vw_pl {n : Nat} {u : U} (h : plU n u = true) {ρ : Rho} {G : Hh} {K : U → Prop} (k : K u) : vwK (.u u) ρ G K := by
  cases u <;> first | exact k | (simp only [plU, Bool.false_eq_true] at h)
def isRow (l t : U) : Bool := match l, t with
  | .int i, .tup ts => if 1 ≤ i ∧ i ≤ 9 ∧ ts.length ≤ 8 ∧ ¬ (ts.length = 0 ∧ 1 < i) then ts.all isTag else false
  | _, _ => false
def isEntry (u : U) : Bool := match u with
  | .tup [a, .int k, c] => isName a && (if 1 ≤ k ∧ k ≤ 2 then isTag c else false)
  | _ => false
def nameOf : U → List Nat
  | .tup (.str s :: _) => s
  | _ => []
def adj : List (List Nat) → Bool
  | a :: b :: r => decide (a < b) && adj (b :: r)
  | _ => true
def isFolder (u : U) : Bool := match u with
  | .tup es => if es.length ≤ 16 then es.all isEntry && adj (es.map nameOf) else false
  | _ => false
def isBlock (u : U) : Bool := match u with
  | .tup [.int k, a] => if k = 0 then (isText a 8 && !eqU a (.str [])) else if k = 2 then isFolder a else false
  | .tup [.int k, a, b] => if k = 1 then isRow a b else false
  | _ => false
theorem isRow_no {l t : U} (h : ∀ ts, t ≠ .tup ts) : isRow l t = false := by
  cases l <;> cases t <;> first | rfl | exact absurd rfl (h _)
theorem is_row_ok {L : List Fn} {m n : Nat} (hm : 2 < m) {l t : U} (hl : plU n l = true) (ht : plU n t = true) {G : Hh} {X : Xg} {Q : Qg} (h : Q (.u (.bl (isRow l t))) G) : callN (Pof L) m F_blocks_is_row [.u (.tup [.int 1, l, t])] G X Q := by
  obtain ⟨m, rfl, _⟩ := lvl hm
  have nl : isNumber l = false → isRow l t = false := fun z => by
    cases l <;> try rfl
    rename_i i
    cases t <;> try rfl
    have : ¬ (1 ≤ i ∧ i ≤ 9) := fun q => by
      have : isNumber (.int i) = true := by simp only [isNumber, Bool.and_eq_true, decide_eq_true_eq]; omega
      rw [this] at z
      cases z
    exact if_neg fun q => this ⟨q.1, q.2.1⟩
  cases t
  case ref a => simp [plU] at ht
  case tup ts =>
    obtain ⟨k, rfl, hl2, hts⟩ := plU_tup' ht
    walk_at "go"
    refine is_number_ok (by omega) hl ?_
    walk_at "go"
    refine Br.any (fun h1 => ?_) (fun h1 => ?_)
    · obtain ⟨i, rfl, hi0, hi1⟩ := isNumber_int h1
      have hsz : (id ts).length ≤ PySem.sizeLine := by rw [sizeLine_def, id_eq]; omega
      have no : ¬ (1 ≤ i ∧ i ≤ 9 ∧ ts.length ≤ 8 ∧ ¬ (ts.length = 0 ∧ 1 < i)) → Q (.u (.bl false)) G := fun z => by
        rw [show isRow (.int i) (.tup ts) = false from if_neg z] at h
        exact h
      have yes : (1 ≤ i ∧ i ≤ 9 ∧ ts.length ≤ 8 ∧ ¬ (ts.length = 0 ∧ 1 < i)) → Q (.u (.bl (ts.all isTag))) G := fun z => by
        rw [show isRow (.int i) (.tup ts) = ts.all isTag from if_pos z] at h
        exact h
      walk_at "go"
      all_goals first
        | exact no (by omega)
        | (have yes := yes (by omega)
           rw [id_eq]
           refine lc_mem (fun x => some (.bl (isTag x))) (fun x hx N hN => ?_) ?_
           · walk_at "go"
             refine is_tag_ok (n := k) (by omega) (plUs_iff.mp hts x hx) ?_
             walk_at "go"
             exact hN
           · rw [List.nil_append, filterMap_some]
             walk_at "go"
             refine optK_in (allBl_mapf _ _) ?_
             walk_at "go"
             rw [all_true]
             exact yes)
    · rw [nl h1] at h
      walk_at "go"
      exact h
  all_goals
    rw [isRow_no (by intro ts z; cases z)] at h
    walk_at "go"
    refine is_number_ok (by omega) hl ?_
    walk_at "go"
    refine Br.any (fun h1 => ?_) (fun h1 => ?_)
    · obtain ⟨i, rfl, hi0, hi1⟩ := isNumber_int h1
      walk_at "go"
      all_goals exact h
    · walk_at "go"
      exact h
theorem isEntry_len {xs : List U} (h : xs.length ≠ 3) : isEntry (.tup xs) = false := by
  match xs, h with
  | [], _ => rfl
  | [_], _ => rfl
  | [_, b], _ => cases b <;> rfl
  | [_, _, _], h => exact absurd rfl h
  | _ :: b :: _ :: _ :: _, _ => cases b <;> rfl
theorem is_entry_ok {L : List Fn} {m n : Nat} (hm : 3 < m) {u : U} (hu : plU n u = true) {G : Hh} {X : Xg} {Q : Qg} (h : Q (.u (.bl (isEntry u))) G) : callN (Pof L) m F_blocks_is_entry [.u u] G X Q := by
  obtain ⟨m, rfl, _⟩ := lvl hm
  cases u
  case ref a => simp [plU] at hu
  case tup xs =>
    obtain ⟨k, rfl, hl, hxs⟩ := plU_tup' hu
    by_cases h3 : xs.length = 3
    · match xs, h3 with
      | [a, b, c], _ =>
        simp only [plUs, Bool.and_eq_true, and_true] at hxs
        walk_at "go"
        refine is_name_ok (n := k) (by omega) hxs.1 ?_
        walk_at "go"
        refine Br.any (fun h1 => ?_) (fun h1 => ?_)
        · walk_at "go"
          refine is_number_ok (n := k) (by omega) hxs.2.1 ?_
          walk_at "go"
          refine Br.any (fun h2 => ?_) (fun h2 => ?_)
          · obtain ⟨i, rfl, hi0, hi1⟩ := isNumber_int h2
            have no : ¬ (1 ≤ i ∧ i ≤ 2) → Q (.u (.bl false)) G := fun z => by
              rw [show isEntry (.tup [a, .int i, c]) = false from by simp only [isEntry, if_neg z, Bool.and_false]] at h
              exact h
            walk_at "go"
            · refine is_tag_ok (n := k) (by omega) hxs.2.2 ?_
              rw [show isEntry (.tup [a, .int i, c]) = isTag c from by simp only [isEntry, h1, Bool.true_and]; exact if_pos (by omega)] at h
              walk_at "go"
              exact h
            all_goals exact no (by omega)
          · have e : isEntry (.tup [a, b, c]) = false := by
              cases b <;> try rfl
              rename_i i _
              have : ¬ (1 ≤ i ∧ i ≤ 2) := fun q => by
                have : isNumber (.int i) = true := by simp only [isNumber, Bool.and_eq_true, decide_eq_true_eq]; omega
                rw [this] at h2
                cases h2
              simp only [isEntry, if_neg this, Bool.and_false]
            rw [e] at h
            walk_at "go"
            exact h
        · have e : isEntry (.tup [a, b, c]) = false := by
            cases b <;> try rfl
            simp only [isEntry, h1, Bool.false_and]
          rw [e] at h
          walk_at "go"
          exact h
    · rw [isEntry_len h3] at h
      walk_at "go"
      exact h
  all_goals
    walk_at "go"
    exact h
theorem adj_range : ∀ l : List (List Nat), (List.range (l.length - 1)).all (fun k => decide (l.getD k [] < l.getD (k + 1) [])) = adj l
  | [] => rfl
  | [_] => rfl
  | a :: b :: r => by
    have ih := adj_range (b :: r)
    rw [show (a :: b :: r).length - 1 = ((b :: r).length - 1) + 1 by simp, List.range_succ_eq_map, List.all_cons, List.all_map]
    simp only [adj]
    rw [← ih]
    rfl
theorem rng_pred (n : Nat) : rangeI 0 ((n : Int) - 1) = (List.range (n - 1)).map fun (k : Nat) => U.int (k : Int) := by
  cases n with
  | zero => rfl
  | succ n =>
    rw [show (((n + 1 : Nat) : Int) - 1) = (n : Int) by omega]
    exact rng_nat
theorem entry_name {u : U} (h : isEntry u = true) : ∃ s b c, u = .tup [.str s, b, c] ∧ nameOf u = s := by
  unfold isEntry at h
  split at h
  · rename_i a k c
    simp only [Bool.and_eq_true] at h
    cases a <;> simp only [isName, Bool.false_eq_true, false_and] at h
    exact ⟨_, _, _, rfl, rfl⟩
  · cases h
theorem is_folder_ok {L : List Fn} {m n : Nat} (hm : 4 < m) {u : U} (hu : plU n u = true) {G : Hh} {X : Xg} {Q : Qg} (h : Q (.u (.bl (isFolder u))) G) : callN (Pof L) m F_blocks_is_folder [.u u] G X Q := by
  obtain ⟨m, rfl, _⟩ := lvl hm
  cases u
  case ref a => simp [plU] at hu
  case tup es =>
    obtain ⟨k, rfl, hl, hes⟩ := plU_tup' hu
    have hsz : (id es).length ≤ PySem.sizeLine := by rw [sizeLine_def, id_eq]; omega
    have hsz2 : (rangeI 0 ((es.length : Int) - 1)).length ≤ PySem.sizeLine := by rw [range_len, sizeLine_def]; omega
    by_cases h16 : es.length ≤ 16
    · have e : isFolder (.tup es) = (es.all isEntry && adj (es.map nameOf)) := if_pos h16
      rw [e] at h
      walk_at "go"
      rw [id_eq]
      refine lc_mem (fun x => some (.bl (isEntry x))) (fun x hx N hN => ?_) ?_
      · walk_at "go"
        refine is_entry_ok (n := k) (by omega) (plUs_iff.mp hes x hx) ?_
        walk_at "go"
        exact hN
      · rw [List.nil_append, filterMap_some]
        walk_at "go"
        refine optK_in (allBl_mapf _ _) ?_
        walk_at "go"
        rw [all_true]
        refine Br.any (fun h1 => ?_) (fun h1 => ?_)
        · rw [h1, Bool.true_and, ← adj_range, List.length_map] at h
          walk_at "go"
          rw [rng_pred]
          have hn : ∀ j : Nat, j < es.length → ∃ s b c, L2.atI es (j : Int) = some (.tup [.str s, b, c]) ∧ (es.map nameOf).getD j [] = s := fun j hj => by
            obtain ⟨s, b, c, e1, e2⟩ := entry_name (List.all_eq_true.mp h1 es[j] (List.getElem_mem hj))
            refine ⟨s, b, c, atI_nat (by rw [List.getElem?_eq_getElem hj, e1]), ?_⟩
            rw [List.getD_eq_getElem?_getD, List.getElem?_map, List.getElem?_eq_getElem hj]
            exact e2
          refine lc_map (f := fun k : Nat => U.int (k : Int)) (fun k => some (.bl (decide ((es.map nameOf).getD k [] < (es.map nameOf).getD (k + 1) [])))) (fun j hj N hN => ?_) ?_
          · have hj := List.mem_range.mp hj
            obtain ⟨s, b, c, e1, e2⟩ := hn j (by omega)
            obtain ⟨s', b', c', e1', e2'⟩ := hn (j + 1) (by omega)
            rw [e2, e2'] at hN
            have e1' : L2.atI es ((j : Int) + 1) = some (.tup [.str s', b', c']) := e1'
            walk_at "go"
            exact hN
          · rw [List.nil_append, filterMap_some]
            walk_at "go"
            refine optK_in (allBl_mapf _ _) ?_
            walk_at "go"
            rw [all_true]
            exact h
        · rw [h1, Bool.false_and] at h
          walk_at "go"
          exact h
    · have e : isFolder (.tup es) = false := if_neg h16
      rw [e] at h
      walk_at "go"
      exact h
  all_goals
    walk_at "go"
    exact h
theorem is_block_ok {L : List Fn} {m n : Nat} (hm : 6 < m) {u : U} (hu : plU n u = true) (hn : n ≤ 40) {G : Hh} {X : Xg} {Q : Qg} (h : Q (.u (.bl (isBlock u))) G) : callN (Pof L) m F_blocks_is_block [.u u] G X Q := by
  obtain ⟨m, rfl, _⟩ := lvl hm
  cases u
  case ref a => simp [plU] at hu
  case tup xs =>
    obtain ⟨k, rfl, hl, hxs⟩ := plU_tup' hu
    match xs with
    | [] =>
      walk_at "go"
      exact h
    | [x] =>
      walk_at "go"
      have e : isBlock (.tup [x]) = false := by cases x <;> rfl
      rw [e] at h
      exact h
    | [x, a] =>
      simp only [plUs, Bool.and_eq_true, and_true] at hxs
      have oka := (plU_eq hxs.2 (by omega)).1
      walk_at "go"
      refine is_number_ok (n := k) (by omega) hxs.1 ?_
      walk_at "go"
      refine Br.any (fun h1 => ?_) (fun h1 => ?_)
      · obtain ⟨i, rfl, hi0, hi1⟩ := isNumber_int h1
        by_cases q1 : i = 1
        · subst q1
          walk_at "go"
          exact h
        · by_cases q0 : i = 0
          · subst q0
            walk_at "go"
            refine is_text_ok (n := k) (by omega) hxs.2 ?_
            walk_at "go"
            have e : isBlock (.tup [.int 0, a]) = (isText a 8 && !eqU a (.str [])) := rfl
            rw [e] at h
            refine Br.any (fun h2 => ?_) (fun h2 => ?_)
            · rw [h2, Bool.true_and] at h
              walk_at "go"
              refine vw_pl hxs.2 ?_
              walk_at "go"
              exact h
            · rw [h2, Bool.false_and] at h
              walk_at "go"
              exact h
          · have f1 : eqU (.int i) (.int 1) = false := by rw [eq_int]; exact decide_eq_false q1
            have f0 : eqU (.int i) (.int 0) = false := by rw [eq_int]; exact decide_eq_false q0
            by_cases q2 : i = 2
            · subst q2
              walk_at "go"
              refine is_folder_ok (n := k) (by omega) hxs.2 ?_
              walk_at "go"
              exact h
            · have f2 : eqU (.int i) (.int 2) = false := by rw [eq_int]; exact decide_eq_false q2
              have e : isBlock (.tup [.int i, a]) = false := by simp only [isBlock, if_neg q0, if_neg q2]
              rw [e] at h
              walk_at "go"
              exact h
      · have e : isBlock (.tup [x, a]) = false := by
          cases x <;> try rfl
          rename_i i
          have : ¬ (0 ≤ i ∧ i ≤ 999999999) := fun q => by
            have : isNumber (.int i) = true := by simp only [isNumber, Bool.and_eq_true, decide_eq_true_eq]; omega
            rw [this] at h1
            cases h1
          simp only [isBlock, if_neg (show ¬ i = 0 by omega), if_neg (show ¬ i = 2 by omega)]
        rw [e] at h
        walk_at "go"
        exact h
    | [x, a, b] =>
      simp only [plUs, Bool.and_eq_true, and_true] at hxs
      walk_at "go"
      refine is_number_ok (n := k) (by omega) hxs.1 ?_
      walk_at "go"
      refine Br.any (fun h1 => ?_) (fun h1 => ?_)
      · obtain ⟨i, rfl, hi0, hi1⟩ := isNumber_int h1
        by_cases q1 : i = 1
        · subst q1
          walk_at "go"
          refine is_row_ok (n := k) (by omega) hxs.2.1 hxs.2.2 ?_
          walk_at "go"
          exact h
        · have f1 : eqU (.int i) (.int 1) = false := by rw [eq_int]; exact decide_eq_false q1
          have e : isBlock (.tup [.int i, a, b]) = false := by simp only [isBlock, if_neg q1]
          rw [e] at h
          walk_at "go"
          exact h
      · have e : isBlock (.tup [x, a, b]) = false := by
          cases x <;> try rfl
          rename_i i
          have : ¬ (0 ≤ i ∧ i ≤ 999999999) := fun q => by
            have : isNumber (.int i) = true := by simp only [isNumber, Bool.and_eq_true, decide_eq_true_eq]; omega
            rw [this] at h1
            cases h1
          simp only [isBlock, if_neg (show ¬ i = 1 by omega)]
        rw [e] at h
        walk_at "go"
        exact h
    | x :: a :: b :: c :: r =>
      simp only [plUs, Bool.and_eq_true] at hxs
      have e : isBlock (.tup (x :: a :: b :: c :: r)) = false := by
        unfold isBlock
        cases x <;> rfl
      rw [e] at h
      have e2 : eqU (.int (((x :: a :: b :: c :: r).length : Nat) : Int)) (.int 3) = false := by rw [eq_int]; exact decide_eq_false (by simp; omega)
      have e3 : eqU (.int (((x :: a :: b :: c :: r).length : Nat) : Int)) (.int 2) = false := by rw [eq_int]; exact decide_eq_false (by simp; omega)
      have e4 : (2 : Int) ≤ (((x :: a :: b :: c :: r).length : Nat) : Int) := by simp; omega
      have e7 : L2.atI (x :: a :: b :: c :: r) 0 = some x := atI_nat (xs := x :: a :: b :: c :: r) (j := 0) rfl
      walk_at "go"
      refine is_number_ok (n := k) (by omega) hxs.1 ?_
      walk_at "go"
      refine Br.any (fun h1 => ?_) (fun h1 => ?_)
      · obtain ⟨i, rfl, hi0, hi1⟩ := isNumber_int h1
        walk_at "go"
        all_goals exact h
      · walk_at "go"
        exact h
  all_goals
    walk_at "go"
    exact h
theorem adj_of : ∀ {l : List (List Nat)}, l.Pairwise (· < ·) → adj l = true
  | [], _ => rfl
  | [_], _ => rfl
  | a :: b :: r, h => by
    rw [List.pairwise_cons] at h
    simp only [adj, Bool.and_eq_true, decide_eq_true_eq]
    exact ⟨h.1 b (by simp), adj_of h.2⟩
theorem tag_is {t : Tg} (h : t.ok) : isTag t.u = true := by
  obtain ⟨h1, h2, h3⟩ := h
  simp only [Tg.u, isTag, isNumber, Bool.and_eq_true, decide_eq_true_eq]
  omega
theorem name_is {s : List Nat} (h : okName s) : isName (.str s) = true := by
  obtain ⟨h1, h2, h3⟩ := h
  simp only [isName, Bool.and_eq_true, decide_eq_true_eq, List.all_eq_true]
  exact ⟨⟨h1, h2⟩, h3⟩
theorem ent_is {e : Ent} (h : e.ok) : isEntry e.u = true := by
  obtain ⟨h1, h2, h3⟩ := h
  simp only [Ent.u, isEntry, name_is h1, Bool.true_and, if_pos h2, tag_is h3]
theorem blk_is {b : Blk} (h : b.ok) : isBlock b.u = true := by
  cases b with
  | pc s =>
    obtain ⟨h1, h2, h3⟩ := h
    simp only [Blk.u, isBlock, if_true, isText, Bool.and_eq_true, Bool.not_eq_true', decide_eq_true_eq, List.all_eq_true]
    refine ⟨?_, ?_⟩
    · first
        | exact ⟨by omega, h3⟩
        | (simp; exact ⟨by omega, h3⟩)
    · rw [eq_str]
      exact decide_eq_false fun z => by rw [z] at h1; simp at h1
  | row l ts =>
    obtain ⟨h1, h2, h3, h4, h5⟩ := h
    have : isRow (.int l) (.tup (ts.map Tg.u)) = (ts.map Tg.u).all isTag := if_pos ⟨h1, h2, by simpa using h3, fun z => h4 z.2 (by simpa using z.1)⟩
    simp only [Blk.u, isBlock, if_true, this, List.all_map, List.all_eq_true]
    exact fun t ht => tag_is (h5 t ht)
  | fo es =>
    obtain ⟨h1, h2, h3⟩ := h
    have : isFolder (.tup (es.map Ent.u)) = ((es.map Ent.u).all isEntry && adj ((es.map Ent.u).map nameOf)) := if_pos (by simpa using h1)
    have e2 : (es.map Ent.u).map nameOf = es.map Ent.nm := by rw [List.map_map]; rfl
    simp only [Blk.u, isBlock, this, e2, adj_of h3, Bool.and_true, List.all_map, List.all_eq_true]
    have : (2 : Int) ≠ 0 := by decide
    simp only [if_neg this, if_true, List.all_eq_true]
    exact fun e he => ent_is (h2 e he)
end Gp

-- needs: S_base
namespace Hs
open Mp Gp
open PySem (Addr)
/-! ### heads' entries -/
inductive En where
  | st (nm kp og : List Nat) (tg : U)
  | se (nm sm : List Nat) (tn : Int) (tg : U)
def En.nm : En → List Nat
  | .st n _ _ _ => n
  | .se n _ _ _ => n
def enU : En → U
  | .st nm kp og tg => .tup [.str nm, .int 1, .str kp, .str og, tg]
  | .se nm sm tn tg => .tup [.str nm, .int 2, .str sm, .int tn, tg]
def find (es : List En) (n : List Nat) : Option En := es.find? fun e => decide (e.nm = n)
def enO : Option En → U
  | some e => enU e
  | none => .non
theorem find_some {es : List En} {n : List Nat} {e : En} (h : find es n = some e) : e ∈ es ∧ e.nm = n := by
  refine ⟨List.mem_of_find?_eq_some h, ?_⟩
  have := List.find?_some h
  simpa using this
theorem find_none {es : List En} {n : List Nat} (h : find es n = none) : ∀ e ∈ es, e.nm ≠ n := by
  intro e he
  have := List.find?_eq_none.mp h e he
  simpa using this
theorem find_mem {es : List En} (nd : (es.map En.nm).Nodup) {e : En} (h : e ∈ es) : find es e.nm = some e := by
  induction es with
  | nil => cases h
  | cons x xs ih =>
    obtain ⟨n1, n2⟩ := List.nodup_cons.mp nd
    unfold find
    rw [List.find?_cons]
    by_cases z : x.nm = e.nm
    · simp only [z, decide_true]
      rcases List.mem_cons.mp h with w | w
      · rw [w]
      · exact absurd (List.mem_map.mpr ⟨e, w, z.symm⟩) n1
    · simp only [z, decide_false]
      rcases List.mem_cons.mp h with w | w
      · exact absurd (by rw [w]) z
      · exact ih n2 w
theorem called_ok {L : List Fn} {m : Nat} (hm : 0 < m) {es : List En} {n : List Nat} {G : Hh} {X : Xg} {Q : Qg} (h : Q (.u (enO (find es n))) G) : callN (Pof L) m F_heads_called [.u (.tup (es.map enU)), .u (.str n)] G X Q := by
  obtain ⟨m, rfl, _⟩ := lvl hm
  walk_at "go"
  refine for_map (f := enU) (fun ys ρ G' => ∃ z, ρ = [some (.u (.tup (es.map enU))), some (.u (.str n)), z] ∧ G' = G ∧ ∀ e ∈ ys, e.nm ≠ n) ⟨_, rfl, rfl, by simp⟩ ?_ ?_
  · rintro ys e zs ρ G' K e1 ⟨z, rfl, rfl, h1⟩ hK
    have hidx : L2.atI (match enU e with | .tup xs => xs | _ => []) 0 = some (.str e.nm) := by cases e <;> exact at_lit (j := 0) rfl rfl
    have he : ∃ r, enU e = .tup r ∧ L2.atI r 0 = some (.str e.nm) := by
      cases e
      · exact ⟨_, rfl, at_lit (j := 0) rfl rfl⟩
      · exact ⟨_, rfl, at_lit (j := 0) rfl rfl⟩
    obtain ⟨r, e2, e3⟩ := he
    rw [e2]
    by_cases hn : e.nm = n
    · have hb : eqU (.str e.nm) (.str n) = true := by rw [eq_str, hn]; simp
      walk_at "go"
      have hf : find es n = some e := by
        unfold find
        rw [← e1, List.find?_append]
        have : ys.find? (fun e => decide (e.nm = n)) = none := List.find?_eq_none.mpr fun x hx => by simpa using h1 x hx
        rw [this, List.find?_cons]
        simp [hn]
      rw [hf] at h
      show Q (.u (.tup r)) _
      rw [← e2]
      exact h
    · have hb : eqU (.str e.nm) (.str n) = false := by rw [eq_str]; simp [hn]
      walk_at "go"
      refine hK _ _ ⟨_, rfl, rfl, fun x hx => ?_⟩
      rcases List.mem_append.mp hx with hx | hx
      · exact h1 x hx
      · simp at hx; rw [hx]; exact hn
  · rintro ρ G' ⟨z, rfl, rfl, h1⟩
    walk_at "go"
    have hf : find es n = none := List.find?_eq_none.mpr fun x hx => by simpa using h1 x hx
    rw [hf] at h
    exact h
/-! ### seals by turns -/
def isSe (s : List Nat) : En → Bool
  | .se _ sm _ _ => decide (sm = s)
  | .st .. => false
def tnOf : En → Int
  | .se _ _ t _ => t
  | .st .. => 0
def insT (x : En) : List En → List En
  | [] => [x]
  | y :: ys => if tnOf x ≤ tnOf y then x :: y :: ys else y :: insT x ys
def sortT : List En → List En
  | [] => []
  | x :: xs => insT x (sortT xs)
def ownS (es : List En) (s : List Nat) : List En := sortT (es.filter (isSe s))
section
variable {f : En → U} (hf : ∀ e, ∃ r, f e = .tup (.int (tnOf e) :: r))
include hf
theorem hLe_f (a b : En) : hLe (f a) (f b) = decide (tnOf a ≤ tnOf b) := by
  obtain ⟨r, e⟩ := hf a
  obtain ⟨t, e2⟩ := hf b
  rw [e, e2]
  rfl
theorem insH_map (x : En) : ∀ ys : List En, insertH (f x) (ys.map f) = (insT x ys).map f
  | [] => rfl
  | y :: ys => by
    rw [List.map_cons, insertH, insT, hLe_f hf]
    by_cases h : tnOf x ≤ tnOf y
    · rw [if_pos (by simpa using h), if_pos h]; rfl
    · rw [if_neg (by simpa using h), if_neg h, insH_map x ys]; rfl
theorem sortH_map : ∀ xs : List En, sortH (xs.map f) = (sortT xs).map f
  | [] => rfl
  | x :: xs => by
    rw [List.map_cons, sortH, sortH_map xs, insH_map hf]
    rfl
theorem headsI_map : ∀ xs : List En, headsI (xs.map f) = some (xs.map tnOf)
  | [] => rfl
  | x :: xs => by
    obtain ⟨r, e⟩ := hf x
    have h1 : headsI ((x :: xs).map f) = (headsI (xs.map f)).map (tnOf x :: ·) := by rw [List.map_cons, e, headsI]
    rw [h1, headsI_map xs]
    rfl
theorem sortT_elim {l : List En} (nd : (l.map tnOf).Nodup) {A : List Int → Prop} {B : List (List Nat) → Prop} {C D : Prop} {E : List (List Nat) → Prop} (h1 : l = [] → A []) (h2 : C) : (match (generalizing := false) allInt (l.map f) with
    | some ns => A ns
    | none => match (generalizing := false) allStr (l.map f) with
      | some ss => B ss
      | none => match (generalizing := false) headsI (l.map f) with
        | some hs => hs.Nodup ∧ C
        | none => match (generalizing := false) headsS (l.map f) with
          | some hs => E hs
          | none => D) := by
  cases l with
  | nil => exact h1 rfl
  | cons x xs =>
    obtain ⟨r, e⟩ := hf x
    have e1 : allInt ((x :: xs).map f) = none := by rw [List.map_cons, e]; rfl
    have e2 : allStr ((x :: xs).map f) = none := by rw [List.map_cons, e]; rfl
    rw [e1, e2, headsI_map hf]
    exact ⟨nd, h2⟩
theorem sortI_nil {l : List En} (e : l = []) : List.map U.int (sortI []) = (sortT l).map f := by
  rw [e]; rfl
end
theorem insT_perm (x : En) : ∀ ys : List En, (insT x ys).Perm (x :: ys)
  | [] => .refl _
  | y :: ys => by
    unfold insT
    split
    · exact .refl _
    · exact ((insT_perm x ys).cons y).trans (.swap x y ys)
theorem sortT_perm : ∀ xs : List En, (sortT xs).Perm xs
  | [] => .refl _
  | x :: xs => (insT_perm x _).trans ((sortT_perm xs).cons x)
theorem insT_rises (x : En) : ∀ ys : List En, ys.Pairwise (fun a b => tnOf a ≤ tnOf b) → (insT x ys).Pairwise fun a b => tnOf a ≤ tnOf b
  | [], _ => by simp [insT]
  | y :: ys, h => by
    rw [List.pairwise_cons] at h
    unfold insT
    split
    · rename_i hxy
      rw [List.pairwise_cons]
      exact ⟨fun z hz => (List.mem_cons.mp hz).elim (fun e => by rw [e]; exact hxy) fun hz => Int.le_trans hxy (h.1 z hz), by rw [List.pairwise_cons]; exact h⟩
    · rename_i hxy
      rw [List.pairwise_cons]
      refine ⟨fun z hz => ?_, insT_rises x ys h.2⟩
      rcases List.mem_cons.mp ((insT_perm x ys).mem_iff.mp hz) with e | hz
      · rw [e]; omega
      · exact h.1 z hz
theorem sortT_rises : ∀ xs : List En, (sortT xs).Pairwise fun a b => tnOf a ≤ tnOf b
  | [] => List.Pairwise.nil
  | x :: xs => insT_rises x _ (sortT_rises xs)
def rowE (e : En) : U := .tup [.int (tnOf e), enU e]
def hdU (a : Int) (ks : U) (es : List En) : U := .tup [.int a, ks, .tup (es.map enU)]
theorem fm_if {α β : Type} (p : α → Bool) (f : α → β) : ∀ xs : List α, xs.filterMap (fun x => if p x = true then some (f x) else none) = (xs.filter p).map f
  | [] => rfl
  | x :: xs => by
    rw [List.filterMap_cons, List.filter_cons]
    by_cases h : p x = true
    · rw [if_pos h, if_pos h]; simp [fm_if p f xs]
    · rw [if_neg h, if_neg h]; simp [fm_if p f xs]
theorem fm_some {α β : Type} (f : α → β) : ∀ xs : List α, xs.filterMap (fun x => some (f x)) = xs.map f
  | [] => rfl
  | x :: xs => by simp [fm_some f xs]
theorem seals_of_ok {L : List Fn} {m : Nat} (hm : 0 < m) {a : Int} {ks : U} {es : List En} (hl : es.length ≤ 100) {s : List Nat} (nd : ((es.filter (isSe s)).map tnOf).Nodup) {G : Hh} {X : Xg} {Q : Qg} (h : Q (.tmp (.lst ((ownS es s).map enU))) G) : callN (Pof L) m F_names_seals_of [.u (hdU a ks es), .u (.str s)] G X Q := by
  obtain ⟨m, rfl, _⟩ := lvl hm
  walk_at "go"
  refine lc_map (f := enU) (fun e => if isSe s e = true then some (rowE e) else none) (fun e he N hN => ?_) ?_
  · cases e with
    | st nm kp og tg =>
      walk_at "go"
      exact hN
    | se nm sm tn tg =>
      by_cases hs : sm = s
      · have hb : eqU (.str sm) (.str s) = true := by rw [eq_str, hs]; simp
        have hi : isSe s (.se nm sm tn tg) = true := by simp [isSe, hs]
        rw [hi, if_pos rfl] at hN
        walk_at "go"
        exact hN
      · have hb : eqU (.str sm) (.str s) = false := by rw [eq_str]; simp [hs]
        have hi : isSe s (.se nm sm tn tg) = false := by simp [isSe, hs]
        rw [hi] at hN
        walk_at "go"
        exact hN
  rw [fm_if]
  have hcl : (sortT (es.filter (isSe s))).length ≤ 100 := by
    rw [(sortT_perm _).length_eq]
    exact Nat.le_trans (List.length_filter_le _ _) hl
  walk_at "go"
  rw [List.nil_append]
  have hf : ∀ e, ∃ r, rowE e = .tup (.int (tnOf e) :: r) := fun e => ⟨_, rfl⟩
  refine sortT_elim hf nd (fun e => ?_) ?_
  · rw [sortI_nil hf e]
    walk_at "go"
    rw [id_eq]
    refine lc_map (f := rowE) (fun e => some (enU e)) (fun e he N hN => ?_) ?_
    · walk_at "go"
      exact hN
    rw [fm_some enU]
    walk_at "go"
    exact h
  · rw [sortH_map hf]
    walk_at "go"
    rw [id_eq]
    refine lc_map (f := rowE) (fun e => some (enU e)) (fun e he N hN => ?_) ?_
    · walk_at "go"
      exact hN
    rw [fm_some enU]
    walk_at "go"
    exact h
/-! ### histories -/
def cutN (es : List En) (t : List Nat) (tn : Int) : List (List Nat) := ((ownS es t).filter fun e => decide (tnOf e ≤ tn)).map En.nm
def nmS (es : List En) (s : List Nat) : List (List Nat) := (ownS es s).map En.nm
/-- what lies ahead of a stem's own seals -/
inductive Pre (es : List En) : List Nat → List (List Nat) → Nat → Prop
  | nil {s kp : List Nat} {tg : U} : find es s = some (.st s kp [] tg) → Pre es s [] 0
  | cons {s kp q : List Nat} {tg : U} {t : List Nat} {tn : Int} {tg2 : U} {l : List (List Nat)} {d : Nat} : find es s = some (.st s kp q tg) → q ≠ [] → find es q = some (.se q t tn tg2) → Pre es t l d → Pre es s (l ++ cutN es t tn) (d + 1)
theorem Pre.only {es : List En} {s : List Nat} {l l2 : List (List Nat)} {d d2 : Nat} (h : Pre es s l d) : Pre es s l2 d2 → d = d2 := by
  induction h generalizing l2 d2 with
  | nil e => intro h2; cases h2 with
    | nil _ => rfl
    | cons e1 hq _ _ => rw [e] at e1; cases e1; exact absurd rfl hq
  | cons e hq e2 h ih => intro h2; cases h2 with
    | nil e1 => rw [e] at e1; cases e1; exact absurd rfl hq
    | cons e1 _ e3 h3 =>
      rw [e] at e1; cases e1
      rw [e2] at e3; cases e3
      rw [ih h3]
structure Wf (es : List En) : Prop where
  nd : (es.map En.nm).Nodup
  ne : ∀ e ∈ es, e.nm ≠ []
  td : ∀ s, ((es.filter (isSe s)).map tnOf).Nodup
  len : es.length ≤ 40
theorem ownS_mem {es : List En} {s : List Nat} {e : En} : e ∈ ownS es s ↔ e ∈ es ∧ isSe s e = true := by
  unfold ownS
  rw [(sortT_perm _).mem_iff, List.mem_filter]
theorem Pre.mem {es : List En} {s : List Nat} {l : List (List Nat)} {d : Nat} (h : Pre es s l d) : ∀ x ∈ l, ∃ t l' d', d' < d ∧ Pre es t l' d' ∧ ∃ e ∈ es, isSe t e = true ∧ e.nm = x := by
  induction h with
  | nil e => intro x hx; cases hx
  | cons e hq e2 h ih =>
    intro x hx
    rcases List.mem_append.mp hx with hx | hx
    · obtain ⟨t, l', d', h1, h2, h3⟩ := ih x hx
      exact ⟨t, l', d', by omega, h2, h3⟩
    · obtain ⟨e, he, rfl⟩ := List.mem_map.mp hx
      obtain ⟨h1, h2⟩ := ownS_mem.mp (List.mem_filter.mp he).1
      exact ⟨_, _, _, by omega, h, e, h1, h2, rfl⟩
theorem idxOfL_app {q : List Nat} {b : List (List Nat)} : ∀ {a : List (List Nat)} {k : Nat}, q ∉ a → idxOfL q (a ++ q :: b) k = some (k + a.length)
  | [], k, _ => by simp [idxOfL]
  | x :: a, k, h => by
    rw [List.cons_append, idxOfL]
    have hx : x ≠ q := fun z => h (by simp [z])
    rw [if_neg hx, idxOfL_app (fun z => h (List.mem_cons_of_mem _ z)), List.length_cons]
    congr 1
    omega
theorem filter_up {a b : List En} {e : En} (h : (a ++ e :: b).Pairwise fun x y => tnOf x < tnOf y) : (a ++ e :: b).filter (fun x => decide (tnOf x ≤ tnOf e)) = a ++ [e] := by
  obtain ⟨h1, h2, h3⟩ := List.pairwise_append.mp h
  rw [List.filter_append, List.filter_cons]
  have e1 : a.filter (fun x => decide (tnOf x ≤ tnOf e)) = a := List.filter_eq_self.mpr fun x hx => by have := h3 x hx e (by simp); simp; omega
  have e2 : b.filter (fun x => decide (tnOf x ≤ tnOf e)) = [] := List.filter_eq_nil_iff.mpr fun x hx => by have := (List.pairwise_cons.mp h2).1 x hx; simp; omega
  rw [e1, e2]
  simp
theorem ownS_up {es : List En} (w : Wf es) (s : List Nat) : (ownS es s).Pairwise fun x y => tnOf x < tnOf y := by
  have h1 := sortT_rises (es.filter (isSe s))
  have h2 : ((ownS es s).map tnOf).Nodup := ((sortT_perm _).map tnOf).nodup_iff.mpr (w.td s)
  have h2 : (ownS es s).Pairwise fun x y => tnOf x ≠ tnOf y := List.pairwise_map.mp h2
  exact (h1.and h2).imp fun h => by have := h.1; have := h.2; omega
/-- a history cut behind an origin -/
theorem cut_hist {es : List En} (w : Wf es) {t : List Nat} {l : List (List Nat)} {d : Nat} (h : Pre es t l d) {q : List Nat} {tn : Int} {tg : U} (hq : find es q = some (.se q t tn tg)) : ∃ k : Nat, idxOfL q (l ++ nmS es t) 0 = some k ∧ (l ++ nmS es t).take (k + 1) = l ++ cutN es t tn ∧ k < (l ++ nmS es t).length := by
  obtain ⟨hm, _⟩ := find_some hq
  have hown : En.se q t tn tg ∈ ownS es t := ownS_mem.mpr ⟨hm, by simp [isSe]⟩
  obtain ⟨a, b, hab⟩ := List.append_of_mem hown
  have up := ownS_up w t
  rw [hab] at up
  have nd : ((ownS es t).map En.nm).Nodup := by
    have h1 : ((es.filter (isSe t)).map En.nm).Nodup := (List.filter_sublist.map _).nodup w.nd
    exact ((sortT_perm _).map En.nm).nodup_iff.mpr h1
  have nq : q ∉ l ++ a.map En.nm := fun z => by
    rcases List.mem_append.mp z with z | z
    · obtain ⟨t', l', d', h1, h2, e, h3, h4, h5⟩ := h.mem q z
      have e1 := find_mem w.nd h3
      rw [h5, hq] at e1
      cases e1
      simp [isSe] at h4
      subst h4
      have := h.only h2
      omega
    · rw [hab, List.map_append, List.map_cons] at nd
      exact (List.nodup_append.mp nd).2.2 q z q (by simp [En.nm]) rfl
  have e2 : l ++ nmS es t = (l ++ a.map En.nm) ++ q :: b.map En.nm := by
    unfold nmS
    rw [hab, List.map_append, List.map_cons, List.append_assoc]
    rfl
  refine ⟨(l ++ a.map En.nm).length, by rw [e2, idxOfL_app nq]; simp, ?_, by rw [e2]; simp [List.length_append]⟩
  rw [e2, show (l ++ a.map En.nm) ++ q :: b.map En.nm = ((l ++ a.map En.nm) ++ [q]) ++ b.map En.nm by simp, List.take_left' (by simp; omega)]
  unfold cutN
  rw [hab]
  have := filter_up up
  rw [show tnOf (.se q t tn tg) = tn from rfl] at this
  rw [this]
  simp [En.nm]
theorem Pre.fnd {es : List En} {s : List Nat} {l : List (List Nat)} {d : Nat} (h : Pre es s l d) : ∃ kp og tg, find es s = some (.st s kp og tg) := by
  cases h with
  | nil e => exact ⟨_, _, _, e⟩
  | cons e _ _ _ => exact ⟨_, _, _, e⟩
theorem find_nil {es : List En} (w : Wf es) : find es [] = none := List.find?_eq_none.mpr fun e he => by simpa using w.ne e he
theorem cutN_len {es : List En} (w : Wf es) (t : List Nat) (tn : Int) : (cutN es t tn).length ≤ 40 := by
  unfold cutN
  rw [List.length_map]
  refine Nat.le_trans (List.length_filter_le _ _) ?_
  unfold ownS
  rw [(sortT_perm _).length_eq]
  exact Nat.le_trans (List.length_filter_le _ _) w.len
theorem nmS_len {es : List En} (w : Wf es) (t : List Nat) : (nmS es t).length ≤ 40 := by
  unfold nmS ownS
  rw [List.length_map, (sortT_perm _).length_eq]
  exact Nat.le_trans (List.length_filter_le _ _) w.len
theorem ownS_len {es : List En} (w : Wf es) (t : List Nat) : ((ownS es t).map enU).length ≤ PySem.sizeLine := by
  unfold ownS
  rw [List.length_map, (sortT_perm _).length_eq, PySem.sizeLine_eq]
  have := List.length_filter_le (isSe t) es
  have := w.len
  omega
/-- the loop of history_in, from the stem t on -/
theorem hloop {L : List Fn} {m : Nat} (hm : 1 < m) {a : Int} {ks : U} {es : List En} (w : Wf es) {sx : List Nat} {G : Hh} {rt : R → Rho → Hh → Prop} {ex : Nat → List U → Rho → Hh → Prop} {t : List Nat} {l : List (List Nat)} {d : Nat} (h : Pre es t l d) :
    ∀ {kp og : List Nat} {tg : U} {F : List (List Nat)} {nx : Rho → Hh → Prop}, find es t = some (.st t kp og tg) → F.length + 41 * d ≤ 4000 → (∀ z4, nx [some (.u (hdU a ks es)), some (.u (.str sx)), some (.u (.tup (es.map enU))), some (.own (.lst ((l ++ F).map U.str))), z4, none] G) →
    whlN (fun ρ1 G1 K => wpE (Pof L) (callN (Pof L) m) (.isN (.loc 4) true) ρ1 G1 ex fun r ρ2 G2 => tstK r ρ2 G2 fun k => K k ρ2 G2) (fun ρ1 G1 K => wpSs (Pof L) (callN (Pof L) m) histories_history_in_w1 ρ1 G1 K rt K ex) (d + 1) [some (.u (hdU a ks es)), some (.u (.str sx)), some (.u (.tup (es.map enU))), some (.own (.lst (F.map U.str))), some (.u (enO (find es og))), none] G nx := by
  induction h with
  | nil e =>
    intro kp og tg F nx e1 hF hn
    rw [e] at e1
    cases e1
    rw [find_nil w]
    walk_at "upto"
    exact hn _
  | @cons s0 kp0 q tg0 t tn tg2 l d e hq e2 h ih =>
    intro kp og tg F nx e1 hF hn
    rw [e] at e1
    cases e1
    rw [e2]
    obtain ⟨kp1, og1, tg1, e3⟩ := h.fnd
    have hn' : ∀ z4, nx [some (.u (hdU a ks es)), some (.u (.str sx)), some (.u (.tup (es.map enU))), some (.own (.lst ((l ++ (cutN es t tn ++ F)).map U.str))), z4, none] G := fun z4 => by
      have := hn z4
      rwa [List.append_assoc] at this
    have hcl := cutN_len w t tn
    have hol := ownS_len w t
    have ih' := ih (F := cutN es t tn ++ F) e3 (by rw [List.length_append]; omega) hn'
    walk_at "upto"
    refine seals_of_ok (by omega) (Nat.le_trans w.len (by omega)) (w.td t) ?_
    walk_at "upto"
    rw [id_eq]
    refine lc_map (f := enU) (fun e => if decide (tnOf e ≤ tn) = true then some (.str e.nm) else none) (fun e he N hN => ?_) ?_
    · obtain ⟨_, hs⟩ := ownS_mem.mp he
      cases e with
      | st => cases hs
      | se nm sm tn' tg' =>
        have hN : N (if decide (tn' ≤ tn) = true then some (.str nm) else none) _ G := hN
        by_cases hc : tn' ≤ tn
        · have hb : decide (tn' ≤ tn) = true := decide_eq_true hc
          rw [hb, if_pos rfl] at hN
          walk_at "go"
          all_goals first | exact hN | (exfalso; omega)
        · have hb : decide (tn' ≤ tn) = false := decide_eq_false hc
          rw [hb] at hN
          walk_at "go"
          all_goals first | exact hN | (exfalso; omega)
    rw [fm_if, List.nil_append, show (List.filter (fun e => decide (tnOf e ≤ tn)) (ownS es t)).map (fun e => U.str e.nm) = (cutN es t tn).map U.str by unfold cutN; rw [List.map_map]; rfl]
    have hsz : ((cutN es t tn).map U.str).length + (F.map U.str).length ≤ PySem.sizeLine := by rw [List.length_map, List.length_map, PySem.sizeLine_eq]; omega
    walk_at "upto"
    refine called_ok (by omega) ?_
    rw [e3]
    walk_at "upto"
    refine called_ok (by omega) ?_
    walk_at "upto"
    rw [← List.map_append]
    exact ih'
theorem history_ok {L : List Fn} {m : Nat} (hm : 2 < m) {a : Int} {ks : U} {es : List En} (w : Wf es) {s : List Nat} {l : List (List Nat)} {d : Nat} (h : Pre es s l d) (hd : d ≤ 40) {G : Hh} {X : Xg} {Q : Qg} (hq : Q (.tmp (.lst ((l ++ nmS es s).map U.str))) G) : callN (Pof L) m F_histories_history_in [.u (hdU a ks es), .u (.str s)] G X Q := by
  obtain ⟨m, rfl, _⟩ := lvl hm
  obtain ⟨kp, og, tg, e⟩ := h.fnd
  have hnl := nmS_len w s
  have hol := ownS_len w s
  walk_at "go"
  refine seals_of_ok (by omega) (Nat.le_trans w.len (by omega)) (w.td s) ?_
  walk_at "go"
  rw [id_eq]
  refine lc_map (f := enU) (fun e => some (.str e.nm)) (fun e he N hN => ?_) ?_
  · cases e <;> (walk_at "upto"; exact hN)
  rw [fm_some, List.nil_append, show (ownS es s).map (fun e => U.str e.nm) = (nmS es s).map U.str by unfold nmS; rw [List.map_map]; rfl]
  walk_at "go"
  refine called_ok (by omega) ?_
  rw [e]
  walk_at "go"
  refine called_ok (by omega) ?_
  walk_at "upto"
  refine ⟨d + 1, hloop (by omega) w h e (by omega) fun z4 => ?_⟩
  walk_at "go"
  exact hq
/-! ### the law's own history -/
theorem allStr_strs : ∀ ss : List (List Nat), allStr (ss.map U.str) = some ss
  | [] => rfl
  | s :: ss => by rw [List.map_cons, allStr, allStr_strs ss]; rfl
def rowN (e : En) : U := .tup [.int (tnOf e), .str e.nm]
theorem filter_nm {es : List En} (nd : (es.map En.nm).Nodup) {n : List Nat} {e : En} (h : find es n = some e) : es.filter (fun x => decide (x.nm = n)) = [e] := by
  induction es with
  | nil => cases h
  | cons x xs ih =>
    obtain ⟨n1, n2⟩ := List.nodup_cons.mp nd
    unfold find at h
    rw [List.find?_cons] at h
    rw [List.filter_cons]
    by_cases z : x.nm = n
    · simp only [z, decide_true] at h ⊢
      cases h
      have : xs.filter (fun x => decide (x.nm = n)) = [] := List.filter_eq_nil_iff.mpr fun y hy => by
        simp only [decide_eq_true_eq]
        intro w
        exact n1 (List.mem_map.mpr ⟨y, hy, by rw [w, z]⟩)
      rw [this]; simp
    · simp only [z, decide_false] at h ⊢
      simpa using ih n2 h
def third : En → U
  | .st _ _ og _ => .str og
  | .se _ _ tn _ => .int tn
def second : En → U
  | .st _ kp _ _ => .str kp
  | .se _ sm _ _ => .str sm
theorem Pre.len {es : List En} (w : Wf es) {s : List Nat} {l : List (List Nat)} {d : Nat} (h : Pre es s l d) : l.length ≤ 40 * d := by
  induction h with
  | nil e => simp
  | @cons _ _ _ _ t tn _ _ _ e hq e2 h ih =>
    have := cutN_len w t tn
    rw [List.length_append]
    omega
theorem lh_r {L : List Fn} {m : Nat} {a : Int} {ks : U} {es : List En} (w : Wf es) {d : Nat} {s : List Nat} {l : List (List Nat)} (h : Pre es s l d) {kp og : List Nat} {tg : U} (e : find es s = some (.st s kp og tg)) {G : Hh} (hd : d ≤ 40)
    (rec : ∀ {t : List Nat} {l' : List (List Nat)} {d' : Nat}, Pre es t l' d' → d' < d → ∀ {X : Xg} {Q : Qg}, Q (.tmp (.lst ((l' ++ nmS es t).map U.str))) G → callN (Pof L) m F_l_history [.u (hdU a ks es), .u (.str t)] G X Q)
    {nx ct : Rho → Hh → Prop} {rt : R → Rho → Hh → Prop} {ex : Nat → List U → Rho → Hh → Prop} (hq : ∀ ρ, rt (.tmp (.lst ((l ++ nmS es s).map U.str))) ρ G) :
    wpSs (Pof L) (callN (Pof L) m) (.cons (.ite (.cmp .eq (.loc 2) (.str [])) (.cons (.ret (.lc (.loc 8) (.tp (.cons (.nm 7) (.cons (.nm 8) .nil))) (.seq (.loc 3)) .none [7, 8])) .nil) .nil) l_history_r1) [some (.u (hdU a ks es)), some (.u (.str s)), some (.u (.str og)), some (.own (.lst ((ownS es s).map rowN))), none, none, none, none, none] G nx rt ct ex := by
  have hol : ((ownS es s).map rowN).length ≤ PySem.sizeLine := by have := ownS_len w s; rw [List.length_map] at this ⊢; exact this
  have hnl := nmS_len w s
  have hsl : (es.map enU).length ≤ PySem.sizeLine := by have := w.len; rw [List.length_map, PySem.sizeLine_eq]; omega
  cases h with
  | nil e1 =>
    rw [e] at e1
    cases e1
    have hb : eqU (.str []) (.str []) = true := rfl
    walk_at "go"
    rw [id_eq]
    refine lc_map (f := rowN) (fun e => some (.str e.nm)) (fun e he N hN => ?_) ?_
    · walk_at "go"
      exact hN
    rw [fm_some, List.nil_append, show (ownS es s).map (fun e => U.str e.nm) = (nmS es s).map U.str by unfold nmS; rw [List.map_map]; rfl]
    walk_at "go"
    exact hq _
  | @cons _ _ _ _ t tn tg2 l' d e1 hne e2 h' =>
    rw [e] at e1
    cases e1
    have hb : eqU (.str og) (.str []) = false := by rw [eq_str]; simp [hne]
    walk_at "go"
    rw [id_eq]
    refine lc_map (f := enU) (fun e => if decide (e.nm = og) = true then some (second e) else none) (fun e he N hN => ?_) ?_
    · have hb : eqU (.str e.nm) (.str og) = decide (e.nm = og) := eq_str _ _
      cases hd : decide (e.nm = og)
      · rw [hd] at hb hN
        cases e <;> (simp only [En.nm] at hb; walk_at "go"; exact hN)
      · rw [hd] at hb hN
        cases e <;> (simp only [En.nm] at hb; walk_at "go"; exact hN)
    rw [fm_if, filter_nm w.nd e2, List.nil_append, List.map_cons, List.map_nil, show second (.se og t tn tg2) = .str t from rfl]
    walk_at "go"
    refine rec h' (by omega) ?_
    obtain ⟨k, k1, k2, k3⟩ := cut_hist w h' e2
    have e5 : allStr ((l' ++ nmS es t).map U.str) = some (l' ++ nmS es t) := allStr_strs _
    have hcl := cutN_len w t tn
    walk_at "go"
    rw [id_eq]
    refine lc_map (f := rowN) (fun e => some (.str e.nm)) (fun e he N hN => ?_) ?_
    · walk_at "go"
      exact hN
    rw [fm_some, List.nil_append, show (ownS es s).map (fun e => U.str e.nm) = (nmS es s).map U.str by unfold nmS; rw [List.map_map]; rfl]
    rw [cut_map, show ((k : Int) + 1) = ((k + 1 : Nat) : Int) by omega, cut_to, k2]
    have hsz : ((l' ++ cutN es t tn).map U.str).length + ((nmS es s).map U.str).length ≤ PySem.sizeLine := by
      have h1 : (l' ++ cutN es t tn).length ≤ (l' ++ nmS es t).length := by rw [← k2, List.length_take]; omega
      have h2 := h'.len w
      have h3 := nmS_len w t
      rw [List.length_append (as := l') (bs := nmS es t)] at h1
      rw [List.length_map, List.length_map, PySem.sizeLine_eq]
      omega
    walk_at "go"
    rw [← List.map_append]
    exact hq _
theorem l_history_ok {L : List Fn} {a : Int} {ks : U} {es : List En} (w : Wf es) (d : Nat) {s : List Nat} {l : List (List Nat)} (h : Pre es s l d) (hd : d ≤ 40) {m : Nat} (hm : d + 1 < m) {G : Hh} {X : Xg} {Q : Qg} (hq : Q (.tmp (.lst ((l ++ nmS es s).map U.str))) G) : callN (Pof L) m F_l_history [.u (hdU a ks es), .u (.str s)] G X Q := by
  obtain ⟨m, rfl, _⟩ := lvl (show 0 < m by omega)
  obtain ⟨kp, og, tg, e⟩ := h.fnd
  have hol := ownS_len w s
  have hnl := nmS_len w s
  have hsl : (es.map enU).length ≤ PySem.sizeLine := by have := w.len; rw [List.length_map, PySem.sizeLine_eq]; omega
  walk_at "go"
  refine lc_map (f := enU) (fun e => if decide (e.nm = s) = true then some (third e) else none) (fun e he N hN => ?_) ?_
  · have hb : eqU (.str e.nm) (.str s) = decide (e.nm = s) := eq_str _ _
    cases hdd : decide (e.nm = s)
    · rw [hdd] at hb hN
      cases e <;> (simp only [En.nm] at hb; walk_at "go"; exact hN)
    · rw [hdd] at hb hN
      cases e <;> (simp only [En.nm] at hb; walk_at "go"; exact hN)
  rw [fm_if, filter_nm w.nd e, List.nil_append, List.map_cons, List.map_nil, show third (.st s kp og tg) = .str og from rfl]
  walk_at "go"
  rw [id_eq]
  refine lc_map (f := enU) (fun e => if isSe s e = true then some (rowN e) else none) (fun e he N hN => ?_) ?_
  · cases e with
    | st nm kp og tg =>
      walk_at "go"
      exact hN
    | se nm sm tn tg =>
      by_cases hs : sm = s
      · have hb : eqU (.str sm) (.str s) = true := by rw [eq_str, hs]; simp
        have hi : isSe s (.se nm sm tn tg) = true := by simp [isSe, hs]
        rw [hi, if_pos rfl] at hN
        walk_at "go"
        exact hN
      · have hb : eqU (.str sm) (.str s) = false := by rw [eq_str]; simp [hs]
        have hi : isSe s (.se nm sm tn tg) = false := by simp [isSe, hs]
        rw [hi] at hN
        walk_at "go"
        exact hN
  rw [fm_if, List.nil_append]
  have hf : ∀ e, ∃ r, rowN e = .tup (.int (tnOf e) :: r) := fun e => ⟨_, rfl⟩
  walk_at "go"
  have fin := fun {nx ct : Rho → Hh → Prop} {rt : R → Rho → Hh → Prop} {ex : Nat → List U → Rho → Hh → Prop} => lh_r (L := L) (m := m) (a := a) (ks := ks) w h e (G := G) hd (fun {t l' d'} h' hlt {X Q} hq => l_history_ok w d' h' (by omega) (by omega) hq) (nx := nx) (ct := ct) (rt := rt) (ex := ex)
  refine sortT_elim hf (w.td s) (fun e1 => ?_) ?_
  · rw [sortI_nil hf e1]
    exact fin fun ρ => ⟨_, Mp.Sub.refl _, hq⟩
  · rw [sortH_map hf]
    exact fin fun ρ => ⟨_, Mp.Sub.refl _, hq⟩
termination_by d
end Hs

-- needs: S_base S_things S_blocks S_frac S_words S_read S_rdw S_draw S_dict S_blk S_hist
namespace Hs
open Mp Gp
open PySem (Addr)
/-! ### drawn heads: the laws' rows, names -/
def R60 (k : Nat) (ns : List Int) : Prop := ns.length = k ∧ ∀ x ∈ ns, 0 ≤ x ∧ x < 60
theorem R60.at {k : Nat} {ns : List Int} (h : R60 k ns) {i : Int} (h0 : 0 ≤ i) (h1 : i < k) : ∃ x : Int, 0 ≤ x ∧ x < 60 ∧ x ∈ ns ∧ L2.atI (ns.map U.int) i = some (.int x) := by
  obtain ⟨x, hx, _, e⟩ := at_ok (xs := ns) h0 (by rw [h.1]; exact h1)
  exact ⟨x, (h.2 x hx).1, (h.2 x hx).2, hx, at_map e⟩
theorem row2_ok {L : List Fn} {m : Nat} (hm : 0 < m) {c : Int} {k : Nat} (hk : k ≤ 1000) {G : Hh} {X : Xg} {Q : Qg} (h : ∀ ns : List Int, R60 k ns → Q (.tmp (.lst (ns.map U.int))) G) : callN (Pof L) m F_l_row_2 [.u (.int c), .u (.int (k : Int))] G X Q := by
  obtain ⟨m, rfl, _⟩ := lvl hm
  have hlen : (rangeI 0 (k : Int)).length = k := by simp [rangeI]
  walk_at "go"
  refine for_pre (fun ys ρ G' => ∃ n x y acc, ρ = [some (.u (.int n)), some (.u (.int (k : Int))), some (.own (.lst (acc.map U.int))), x, y] ∧ G' = G ∧ acc.length = ys.length ∧ ∀ x ∈ acc, 0 ≤ x ∧ x < 60) ⟨_, _, _, [], rfl, rfl, rfl, by simp⟩ ?_ ?_
  · rintro ys x zs ρ G' K e ⟨n, x1, y1, acc, rfl, rfl, h1, h2⟩ hK
    obtain ⟨rfl, hyl⟩ := range_at' e
    have hl : ys.length < k := by omega
    generalize hi : (0 : Int) + (ys.length : Int) = i
    have hi0 : 0 ≤ i := by omega
    have hi1 : i < 1000 := by omega
    have mo1 : MulOk i i := mulOk_l (by omega)
    have mo2 : MulOk (i * i) 69621 := mulOk_r (by decide)
    have put : ∀ {n' v : Int} {x' y' : Option SV}, 0 ≤ v → v < 60 → K [some (.u (.int n')), some (.u (.int (k : Int))), some (.own (.lst (acc.map U.int ++ [.int v]))), x', y'] G' := fun {n' v x' y'} h0 h1' => by
      refine hK _ _ ⟨_, _, _, acc ++ [v], by simp only [List.map_append, List.map_cons, List.map_nil]; rfl, rfl, by simp [h1], fun y hy => ?_⟩
      rcases List.mem_append.mp hy with hy | hy
      · exact h2 y hy
      · rw [List.mem_singleton.mp hy]; exact ⟨h0, h1'⟩
    walk_at "go"
    · refine ⟨mulOk_l (by omega), ?_⟩
      walk_at "go"
      exact put (by omega) (by omega)
    all_goals exact put (by omega) (by omega)
  · rintro ρ G' ⟨n, x1, y1, acc, rfl, rfl, h1, h2⟩
    walk_at "go"
    exact h acc ⟨by rw [h1, hlen], h2⟩
/-- unlike names -/
structure Nms (n : Nat) (ss : List (List Nat)) : Prop where
  len : ss.length = n
  nd : ss.Nodup
  ok : ∀ s ∈ ss, s ≠ [] ∧ s.length ≤ 8 ∧ ∀ c ∈ s, c ∈ named
theorem named_nd : named.Nodup := by decide +kernel
/-- the k-th name has the sign for k at the place a -/
def Nk (a x8 : Nat) (j : Nat) (s : List Nat) : Prop := s.length ≤ 8 ∧ (∀ c ∈ s, c ∈ named) ∧ ∃ c, s[a]? = some c ∧ named[(x8 + j) % 36]? = some c
theorem nms_of {a x8 k : Nat} (hk : k ≤ 36) {ss : List (List Nat)} (hl : ss.length = k) (h : ∀ j s, ss[j]? = some s → Nk a x8 j s) : Nms k ss := by
  refine ⟨hl, ?_, fun s hs => ?_⟩
  · refine List.pairwise_iff_getElem.mpr fun i j hi hj hij e => ?_
    obtain ⟨_, _, c, h1, h2⟩ := h i _ (List.getElem?_eq_getElem hi)
    obtain ⟨_, _, c', h3, h4⟩ := h j _ (List.getElem?_eq_getElem hj)
    rw [e, h3] at h1
    cases h1
    have l1 : (x8 + i) % 36 < named.length := (List.getElem?_eq_some_iff.mp h2).1
    have := (List.getElem?_inj l1 named_nd).mp (h2.trans h4.symm)
    omega
  · obtain ⟨j, hj, e⟩ := List.mem_iff_getElem.mp hs
    obtain ⟨h1, h2, c, h3, _⟩ := h j s (by rw [List.getElem?_eq_getElem hj, e])
    refine ⟨fun z => ?_, h1, h2⟩
    rw [z] at h3
    simp at h3
theorem names_ok {L : List Fn} {m : Nat} (hm : 0 < m) {k : Nat} (hk : k ≤ 36) {ns : List Int} {q : Nat} (hq : 10 ≤ q) (hr : R60 q ns) {G : Hh} {X : Xg} {Q : Qg} (h : ∀ ss, Nms k ss → Q (.tmp (.lst (ss.map U.str))) G) : callN (Pof L) m F_l_names [.own (.lst (ns.map U.int)), .u (.int (k : Int))] G X Q := by
  obtain ⟨m, rfl, _⟩ := lvl hm
  obtain ⟨x7, b7, _, _, a7⟩ := hr.at (i := 7) (by omega) (by omega)
  obtain ⟨x8, b8, _, _, a8⟩ := hr.at (i := 8) (by omega) (by omega)
  obtain ⟨x9, b9, _, _, a9⟩ := hr.at (i := 9) (by omega) (by omega)
  have hrl : (rangeI 0 (7 : Int)).length = 7 := rfl
  have hkl : (rangeI 0 (k : Int)).length = k := by rw [range_len]; omega
  obtain ⟨a, ha7, hae⟩ := nat_of (p := x7 % 7) (n := 7) (by omega) (by omega)
  obtain ⟨y8, hy8, hye⟩ := nat_of (p := x8) (n := 60) (by omega) (by omega)
  · walk_at "go"
    refine lc_inv (fun ys acc => ∃ s : List Nat, acc = s.map (fun c => U.str [c]) ∧ s.length = ys.length ∧ ∀ c ∈ s, c ∈ named) ⟨[], rfl, rfl, by simp⟩ ?_ ?_
    · rintro ys y zs acc e ⟨s, rfl, hsl, hs⟩ N hN
      obtain ⟨rfl, hyl⟩ := range_at' e
      obtain ⟨z, bz, bz2, _, az⟩ := hr.at (i := 0 + (ys.length : Int)) (by omega) (by omega)
      obtain ⟨c, hc, _, ec⟩ := at_ok (xs := named) (i := z % 36) (by omega) (by have : named.length = 36 := rfl; rw [this]; omega)
      walk_at "go"
      exact hN (some (.str [c])) ⟨s ++ [c], by simp [Mp.addO], by simp [hsl], fun d hd => by
        rcases List.mem_append.mp hd with hd | hd
        · exact hs d hd
        · rw [List.mem_singleton.mp hd]; exact hc⟩
    rintro acc ⟨w, rfl, hwl, hw⟩
    rw [hrl] at hwl
    walk_at "go"
    refine optK_in (allStr_one (fun c => c) w) ?_
    have hsum := sum_one (fun c : Nat => c) w
    have hs2 : ((w.map fun c => [c]).map List.length).sum + (w.map fun c => [c]).length * ([] : List Nat).length ≤ PySem.sizeLine := by
      rw [hsum, sizeLine_def]; simp; omega
    walk_at "go"
    have hj : joinS [] (w.map fun c => [c]) = w := by rw [join_one (fun c => c) w]; simp
    rw [hj, hae]
    refine for_pre (fun ys ρ G' => ∃ x6 x7' ss, ρ = [some (.own (.lst (ns.map U.int))), some (.u (.int (k : Int))), some (.u (.str named)), some (.u (.str w)), some (.u (.int (a : Int))), some (.own (.lst (ss.map U.str))), x6, x7'] ∧ G' = G ∧ ss.length = ys.length ∧ ∀ j s, ss[j]? = some s → Nk a y8 j s) ⟨_, _, [], rfl, rfl, rfl, by simp⟩ ?_ ?_
    · rintro ys x zs ρ G' K e ⟨x6, x7', ss, rfl, rfl, h1, h2⟩ hK
      obtain ⟨rfl, hyl⟩ := range_at' e
      obtain ⟨c, hc, hce, ec⟩ := at_ok (xs := named) (i := (x8 + (0 + (ys.length : Int))) % 36) (by omega) (by have : named.length = 36 := rfl; rw [this]; omega)
      obtain ⟨c2, hc2, hce2, ec2⟩ := at_ok (xs := named) (i := (0 + (ys.length : Int))) (by omega) (by have : named.length = 36 := rfl; rw [this]; omega)
      have cut1 : cut w none (some (a : Int)) = w.take a := cut_to w a
      have cut2 : cut w (some ((a : Int) + 1)) none = w.drop (a + 1) := cut_from w (a + 1)
      have hta : (w.take a).length = a := by rw [List.length_take]; omega
      obtain ⟨one, hone⟩ : ∃ one, one = cut w none (some (a : Int)) ++ [c] ++ cut w (some ((a : Int) + 1)) none := ⟨_, rfl⟩
      have hone' : one = w.take a ++ c :: w.drop (a + 1) := by rw [hone, cut1, cut2]; simp
      have hol : one.length = 7 := by rw [hone', List.length_append, List.length_cons, List.length_drop, hta]; omega
      have hoa : one[a]? = some c := by rw [hone', List.getElem?_append_right (by omega), hta]; simp
      have hom : ∀ d ∈ one, d ∈ named := fun d hd => by
        rw [hone'] at hd
        rcases List.mem_append.mp hd with z | z
        · exact hw d (List.mem_of_mem_take z)
        · rcases List.mem_cons.mp z with z | z
          · rw [z]; exact hc
          · exact hw d (List.mem_of_mem_drop z)
      have hcn : named[(y8 + ys.length) % 36]? = some c := by
        rw [← hce]
        congr 1
        omega
      have cut3 : cut one none (some ((a : Int) + 1)) = one.take (a + 1) := cut_to one (a + 1)
      obtain ⟨v, hv, hvk⟩ : ∃ v, L2.atI [U.str one, .str (cut one none (some ((a : Int) + 1))), .str (one ++ [c2])] ((x9 + (0 + (ys.length : Int))) % 3) = some (.str v) ∧ Nk a y8 ys.length v := by
        have : (x9 + (0 + (ys.length : Int))) % 3 = 0 ∨ (x9 + (0 + (ys.length : Int))) % 3 = 1 ∨ (x9 + (0 + (ys.length : Int))) % 3 = 2 := by omega
        rcases this with e | e | e <;> rw [e]
        · exact ⟨_, at_lit (j := 0) rfl rfl, by omega, hom, c, hoa, hcn⟩
        · refine ⟨_, at_lit (j := 1) rfl rfl, ?_, ?_, c, ?_, hcn⟩
          · rw [cut3, List.length_take]; omega
          · intro d hd; rw [cut3] at hd; exact hom d (List.mem_of_mem_take hd)
          · rw [cut3, List.getElem?_take_of_lt (by omega)]; exact hoa
        · refine ⟨_, at_lit (j := 2) rfl rfl, by simp; omega, ?_, c, ?_, hcn⟩
          · intro d hd
            rcases List.mem_append.mp hd with z | z
            · exact hom d z
            · rw [List.mem_singleton.mp z]; exact hc2
          · rw [List.getElem?_append_left (by omega)]; exact hoa
      have hz1 : (cut w none (some (a : Int))).length + [c].length ≤ PySem.sizeLine := by rw [cut1, hta, sizeLine_def]; simp; omega
      have hz2 : (cut w none (some (a : Int)) ++ [c]).length + (cut w (some ((a : Int) + 1)) none).length ≤ PySem.sizeLine := by rw [← List.length_append, ← hone, hol, sizeLine_def]; omega
      have hz3 : one.length + [c2].length ≤ PySem.sizeLine := by rw [hol, sizeLine_def]; simp
      walk_at "go"
      rw [← hone]
      walk_at "go"
      refine hK _ _ ⟨_, _, ss ++ [v], by simp only [List.map_append, List.map_cons, List.map_nil]; rfl, rfl, by simp [h1], fun j s hj => ?_⟩
      rcases Nat.lt_or_ge j ss.length with z | z
      · rw [List.getElem?_append_left z] at hj
        exact h2 j s hj
      · have : j = ss.length := by
          have := (List.getElem?_eq_some_iff.mp hj).1
          simp at this
          omega
        subst this
        rw [List.getElem?_append_right (Nat.le_refl _)] at hj
        simp at hj
        rw [← hj, h1]
        exact hvk
    · rintro ρ G' ⟨x6, x7', ss, rfl, rfl, h1, h2⟩
      walk_at "go"
      exact h ss (nms_of hk (by rw [h1, hkl]) h2)
/-! ### drawn heads -/
def kpOk (kp : List Nat) : Prop := kp = [107, 48] ∨ kp = [107, 49]
def tgOf : En → U
  | .st _ _ _ tg => tg
  | .se _ _ _ tg => tg
/-- stems and seals as they came: newest last -/
structure Bt (names : List (List Nat)) (c : Int) (k : Nat) (S Q : List En) : Prop where
  nm : ∀ e ∈ S ++ Q, ∃ i : Nat, i < k ∧ names[i]? = some e.nm
  nd : ((S ++ Q).map En.nm).Nodup
  cnt : S.length + Q.length = k
  st : ∀ e ∈ S, ∃ nm kp og tg, e = .st nm kp og tg ∧ (og = [] ∨ ∃ x ∈ Q, x.nm = og)
  se : ∀ e ∈ Q, ∃ nm sm tn tg, e = .se nm sm tn tg ∧ (∃ x ∈ S, x.nm = sm) ∧ ∃ i : Nat, i < k ∧ tn = 1 + (i : Int) + c
  td : (Q.map tnOf).Nodup
  pl : ∀ e ∈ S ++ Q, plU 3 (enU e) = true
  kp : ∀ nm kp og tg, En.st nm kp og tg ∈ S → kpOk kp
  tg : ∀ e ∈ S ++ Q, ∃ t : Tg, t.ok ∧ tgOf e = t.u
  late : ∀ nm kp og tg, En.st nm kp og tg ∈ S → ∀ x ∈ Q, x.nm = og → ∀ y ∈ Q, isSe nm y = true → tnOf x < tnOf y
def isOg (S : List En) (n : List Nat) : Prop := ∃ nm kp tg, En.st nm kp n tg ∈ S
/-- each stem has what lies ahead of it, in any head that holds all of these -/
def Ahd (S Q : List En) : Prop := ∀ F : List En, Wf F → (∀ e ∈ S, e ∈ F) → (∀ e ∈ Q, isOg S e.nm → e ∈ F) → ∀ e ∈ S, ∃ l d, d < S.length ∧ Pre F e.nm l d
theorem names_inj {names : List (List Nat)} (hN : names.Nodup) {i j : Nat} {s : List Nat} (h1 : names[i]? = some s) (h2 : names[j]? = some s) : i = j :=
  (List.getElem?_inj (List.getElem?_eq_some_iff.mp h1).1 hN).mp (h1.trans h2.symm)
theorem Bt.st_add {names : List (List Nat)} {c : Int} {k : Nat} {S Q : List En} (h : Bt names c k S Q) (hN : names.Nodup) {nm kp og : List Nat} {tg : U} (e1 : names[k]? = some nm) (ho : og = [] ∨ ∃ x ∈ Q, x.nm = og) (hp : plU 3 (enU (.st nm kp og tg)) = true) (hkp : kpOk kp) (htg : ∃ t : Tg, t.ok ∧ tg = t.u) : Bt names c (k + 1) (S ++ [.st nm kp og tg]) Q := by
  have pm : ((S ++ [En.st nm kp og tg]) ++ Q).Perm (.st nm kp og tg :: (S ++ Q)) := by
    rw [List.append_assoc]
    exact List.perm_middle
  have mem : ∀ e, e ∈ (S ++ [En.st nm kp og tg]) ++ Q ↔ e = .st nm kp og tg ∨ e ∈ S ++ Q := fun e => by rw [pm.mem_iff, List.mem_cons]
  have fresh : ∀ e ∈ S ++ Q, e.nm ≠ nm := fun e he z => by
    obtain ⟨i, hi, ei⟩ := h.nm e he
    rw [z] at ei
    have := names_inj hN ei e1
    omega
  refine ⟨fun e he => ?_, ?_, by have := h.cnt; simp; omega, fun e he => ?_, fun e he => ?_, h.td, fun e he => ?_, fun n k' o' t' he => ?_, fun e he => ?_, fun n k' o' t' he x hx hxo y hy hs => ?_⟩
  · rcases (mem e).mp he with rfl | he
    · exact ⟨k, by omega, e1⟩
    · obtain ⟨i, hi, ei⟩ := h.nm e he
      exact ⟨i, by omega, ei⟩
  · refine ((pm.map En.nm).nodup_iff).mpr (List.nodup_cons.mpr ⟨fun z => ?_, h.nd⟩)
    obtain ⟨e, he, z⟩ := List.mem_map.mp z
    exact fresh e he z
  · rcases List.mem_append.mp he with he | he
    · exact h.st e he
    · rw [List.mem_singleton.mp he]
      exact ⟨_, _, _, _, rfl, ho⟩
  · obtain ⟨n, sm, tn, tg', r1, ⟨x, hx, r2⟩, i, hi, r3⟩ := h.se e he
    exact ⟨n, sm, tn, tg', r1, ⟨x, by simp [hx], r2⟩, i, by omega, r3⟩
  · rcases (mem e).mp he with rfl | he
    · exact hp
    · exact h.pl e he
  · rcases List.mem_append.mp he with he | he
    · exact h.kp _ _ _ _ he
    · cases List.mem_singleton.mp he; exact hkp
  · rcases (mem e).mp he with rfl | he
    · exact htg
    · exact h.tg e he
  · rcases List.mem_append.mp he with he | he
    · exact h.late _ _ _ _ he x hx hxo y hy hs
    · cases List.mem_singleton.mp he
      obtain ⟨_, sm, _, _, rfl, ⟨z, hz, rfl⟩, _⟩ := h.se y hy
      simp only [isSe, decide_eq_true_eq] at hs
      exact absurd hs (fresh z (List.mem_append_left _ hz))
theorem Bt.se_add {names : List (List Nat)} {c : Int} {k : Nat} {S Q : List En} (h : Bt names c k S Q) (hN : names.Nodup) {nm sm : List Nat} {tg : U} (e1 : names[k]? = some nm) (ho : ∃ x ∈ S, x.nm = sm) (hp : plU 3 (enU (.se nm sm (1 + (k : Int) + c) tg)) = true) (htg : ∃ t : Tg, t.ok ∧ tg = t.u) (hne : nm ≠ []) : Bt names c (k + 1) S (Q ++ [.se nm sm (1 + (k : Int) + c) tg]) := by
  have pm : (S ++ (Q ++ [En.se nm sm (1 + (k : Int) + c) tg])).Perm (.se nm sm (1 + (k : Int) + c) tg :: (S ++ Q)) := by
    rw [← List.append_assoc]
    exact List.perm_append_singleton _ _
  have mem : ∀ e, e ∈ S ++ (Q ++ [En.se nm sm (1 + (k : Int) + c) tg]) ↔ e = .se nm sm (1 + (k : Int) + c) tg ∨ e ∈ S ++ Q := fun e => by rw [pm.mem_iff, List.mem_cons]
  have fresh : ∀ e ∈ S ++ Q, e.nm ≠ nm := fun e he z => by
    obtain ⟨i, hi, ei⟩ := h.nm e he
    rw [z] at ei
    have := names_inj hN ei e1
    omega
  refine ⟨fun e he => ?_, ?_, by have := h.cnt; simp; omega, fun e he => ?_, fun e he => ?_, ?_, fun e he => ?_, fun n k' o' t' he => h.kp _ _ _ _ he, fun e he => ?_, fun n k' o' t' he x hx hxo y hy hs => ?_⟩
  · rcases (mem e).mp he with rfl | he
    · exact ⟨k, by omega, e1⟩
    · obtain ⟨i, hi, ei⟩ := h.nm e he
      exact ⟨i, by omega, ei⟩
  · refine ((pm.map En.nm).nodup_iff).mpr (List.nodup_cons.mpr ⟨fun z => ?_, h.nd⟩)
    obtain ⟨e, he, z⟩ := List.mem_map.mp z
    exact fresh e he z
  · obtain ⟨n, kp, og, tg', r1, r2⟩ := h.st e he
    exact ⟨n, kp, og, tg', r1, r2.imp id fun ⟨x, hx, r⟩ => ⟨x, by simp [hx], r⟩⟩
  · rcases List.mem_append.mp he with he | he
    · obtain ⟨n, sm', tn, tg', r1, r2, i, hi, r3⟩ := h.se e he
      exact ⟨n, sm', tn, tg', r1, r2, i, by omega, r3⟩
    · rw [List.mem_singleton.mp he]
      exact ⟨_, _, _, _, rfl, ho, k, by omega, rfl⟩
  · rw [List.map_append, List.map_cons, List.map_nil]
    refine List.nodup_append.mpr ⟨h.td, by simp, fun x hx y hy z => ?_⟩
    obtain ⟨e, he, rfl⟩ := List.mem_map.mp hx
    obtain ⟨n, sm', tn, tg', rfl, _, i, hi, r3⟩ := h.se e he
    simp [tnOf] at hy z
    omega
  · rcases (mem e).mp he with rfl | he
    · exact hp
    · exact h.pl e he
  · rcases (mem e).mp he with rfl | he
    · exact htg
    · exact h.tg e he
  · have hxQ : x ∈ Q := by
      rcases List.mem_append.mp hx with z | z
      · exact z
      · rw [List.mem_singleton.mp z] at hxo
        have hxo : nm = o' := hxo
        obtain ⟨_, _, _, _, e, ho⟩ := h.st _ he
        cases e
        rcases ho with ho | ⟨w, hw, ho⟩
        · exact absurd (hxo.trans ho) hne
        · exact absurd (ho.trans hxo.symm) (fresh w (List.mem_append_right _ hw))
    rcases List.mem_append.mp hy with z | z
    · exact h.late _ _ _ _ he x hxQ hxo y z hs
    · rw [List.mem_singleton.mp z]
      obtain ⟨_, _, _, _, rfl, _, i, hi, e⟩ := h.se x hxQ
      show _ < 1 + (k : Int) + c
      simp only [tnOf]
      omega
theorem Ahd.st_add {names : List (List Nat)} {c : Int} {k : Nat} {S Q : List En} (hb : Bt names c k S Q) (h : Ahd S Q) {nm kp og : List Nat} {tg : U} (ho : og = [] ∨ ∃ x ∈ Q, x.nm = og) : Ahd (S ++ [.st nm kp og tg]) Q := by
  intro F w hS hQ e he
  have old := h F w (fun e he => hS e (by simp [he])) fun e he ⟨n, k', t, hi⟩ => hQ e he ⟨n, k', t, by simp [hi]⟩
  rcases List.mem_append.mp he with he | he
  · obtain ⟨l, d, hd, hp⟩ := old e he
    exact ⟨l, d, by simp; omega, hp⟩
  · rw [List.mem_singleton.mp he]
    have f1 := find_mem w.nd (hS (.st nm kp og tg) (by simp))
    rcases ho with rfl | ⟨x, hx, rfl⟩
    · exact ⟨[], 0, by simp, .nil f1⟩
    · have hxF := hQ x hx ⟨nm, kp, tg, by simp⟩
      obtain ⟨n, sm, tn, tg', rfl, ⟨y, hy, rfl⟩, _⟩ := hb.se x hx
      obtain ⟨l, d, hd, hp⟩ := old y hy
      exact ⟨_, d + 1, by simp; omega, .cons f1 (w.ne _ hxF) (find_mem w.nd hxF) hp⟩
theorem Ahd.se_add {S Q : List En} (h : Ahd S Q) {x : En} : Ahd S (Q ++ [x]) := by
  intro F w hS hQ e he
  exact h F w hS (fun e he hi => hQ e (by simp [he]) hi) e he
theorem Bt.wf {names : List (List Nat)} {c : Int} {k : Nat} {S Q : List En} (h : Bt names c k S Q) (hk : k ≤ 40) (hne : ∀ s ∈ names, s ≠ []) {es : List En} (hp : es.Perm (S ++ Q)) : Wf es := by
  refine ⟨((hp.map En.nm).nodup_iff).mpr h.nd, fun e he => ?_, fun s => ?_, by rw [hp.length_eq, List.length_append, h.cnt]; exact hk⟩
  · obtain ⟨i, _, e1⟩ := h.nm e (hp.mem_iff.mp he)
    exact hne _ (List.mem_of_getElem? e1)
  · have hf : ((es.filter (isSe s)).map tnOf).Perm (((S ++ Q).filter (isSe s)).map tnOf) := (hp.filter _).map _
    rw [hf.nodup_iff, List.filter_append]
    have e1 : S.filter (isSe s) = [] := List.filter_eq_nil_iff.mpr fun e he => by
      obtain ⟨_, _, _, _, rfl, _⟩ := h.st e he
      simp [isSe]
    rw [e1, List.nil_append]
    exact (List.filter_sublist.map _).nodup h.td
theorem eq_nil (xs : List U) : eqU (.lst xs) (.lst []) = decide (xs = []) := by
  cases xs <;> simp [eqU, eqUs]
theorem headsS_map : ∀ l : List En, headsS (l.map enU) = some (l.map En.nm)
  | [] => rfl
  | x :: xs => by
    have h1 : headsS ((x :: xs).map enU) = (headsS (xs.map enU)).map (x.nm :: ·) := by cases x <;> rfl
    exact h1.trans (by rw [headsS_map xs]; rfl)
theorem sortN_elim {l : List En} (nd : (l.map En.nm).Nodup) {A : List Int → Prop} {B : List (List Nat) → Prop} {C : List Int → Prop} {D E : Prop} (h1 : l = [] → A []) (h2 : D) : (match (generalizing := false) allInt (l.map enU) with
    | some ns => A ns
    | none => match (generalizing := false) allStr (l.map enU) with
      | some ss => B ss
      | none => match (generalizing := false) headsI (l.map enU) with
        | some hs => C hs
        | none => match (generalizing := false) headsS (l.map enU) with
          | some hs => hs.Nodup ∧ D
          | none => E) := by
  cases l with
  | nil => exact h1 rfl
  | cons x xs =>
    have e1 : allInt ((x :: xs).map enU) = none := by cases x <;> rfl
    have e2 : allStr ((x :: xs).map enU) = none := by cases x <;> rfl
    have e3 : headsI ((x :: xs).map enU) = none := by cases x <;> rfl
    rw [e1, e2, e3, headsS_map]
    exact ⟨nd, h2⟩
theorem hLe_en (a b : En) : hLe (enU a) (enU b) = decide (a.nm ≤ b.nm) := by cases a <;> cases b <;> rfl
theorem sortN_perm (l : List En) (nd : (l.map En.nm).Nodup) : ∃ es : List En, es.Perm l ∧ sortH (l.map enU) = es.map enU ∧ (es.map En.nm).Pairwise (· < ·) := by
  obtain ⟨es, h1, h2⟩ := SrtH.perm_map_ex (f := enU) (sortH_perm (l.map enU)) rfl
  refine ⟨es, h1, h2.symm, ?_⟩
  have hr := sortH_rises (P := fun u => ∃ e : En, u = enU e) (fun x y ⟨a, ha⟩ ⟨b, hb⟩ => by
      rw [ha, hb, hLe_en, hLe_en, decide_eq_true_eq, decide_eq_true_eq]
      exact List.le_total _ _) (fun x y z ⟨a, ha⟩ ⟨b, hb⟩ ⟨d, hd⟩ => by
      rw [ha, hb, hd, hLe_en, hLe_en, hLe_en, decide_eq_true_eq, decide_eq_true_eq, decide_eq_true_eq]
      exact List.le_trans) (l.map enU) (fun u hu => by
      obtain ⟨e, _, z⟩ := List.mem_map.mp hu
      exact ⟨e, z.symm⟩)
  rw [← h2] at hr
  have hr := List.pairwise_map.mp hr
  have hn : (es.map En.nm).Nodup := ((h1.map _).nodup_iff).mpr nd
  refine List.pairwise_map.mpr ((hr.and (List.pairwise_map.mp hn)).imp fun {a b} h => ?_)
  have e1 := h.1
  rw [hLe_en, decide_eq_true_eq] at e1
  rcases List.le_iff_lt_or_eq.mp e1 with z | z
  · exact z
  · exact absurd z h.2
def ksU (b : Int) : U := .tup [.tup [.str [107, 48], .int 5], .tup [.str [107, 49], .int b]]
/-- what a drawn head's names are -/
structure Hd (es : List En) : Prop where
  wf : Wf es
  pl : ∀ e ∈ es, plU 3 (enU e) = true
  pre : ∀ F : List En, Wf F → (∀ nm kp og tg, En.st nm kp og tg ∈ es → En.st nm kp og tg ∈ F) → (∀ e ∈ es, isOg es e.nm → e ∈ F) → ∀ nm kp og tg, En.st nm kp og tg ∈ es → ∃ l d, d ≤ 18 ∧ Pre F nm l d
  bt : ∃ names c k S Q, Bt names c k S Q ∧ k ≤ 19 ∧ (0 ≤ c ∧ c ≤ 590000000) ∧ (∀ s ∈ names, okName s) ∧ es.Perm (S ++ Q)
  up : (es.map En.nm).Pairwise (· < ·)
theorem hd_of {names : List (List Nat)} {c : Int} {k : Nat} {S Q : List En} (h : Bt names c k S Q) (hk : k ≤ 19) (hc : 0 ≤ c ∧ c ≤ 590000000) (hne : ∀ s ∈ names, okName s) (ha : Ahd S Q) {es : List En} (hp : es.Perm (S ++ Q)) (up : (es.map En.nm).Pairwise (· < ·)) : Hd es := by
  have hne' : ∀ s ∈ names, s ≠ [] := fun s hs z => by have := (hne s hs).1; rw [z] at this; simp at this
  have stS : ∀ nm kp og tg, En.st nm kp og tg ∈ es → En.st nm kp og tg ∈ S := fun nm kp og tg he => by
    rcases List.mem_append.mp (hp.mem_iff.mp he) with z | z
    · exact z
    · obtain ⟨_, _, _, _, e, _⟩ := h.se _ z
      cases e
  refine ⟨h.wf (by omega) hne' hp, fun e he => h.pl e (hp.mem_iff.mp he), fun F w f1 f2 nm kp og tg he => ?_, ⟨names, c, k, S, Q, h, hk, hc, hne, hp⟩, up⟩
  have g1 : ∀ e ∈ S, e ∈ F := fun e he => by
    obtain ⟨_, _, _, _, rfl, _⟩ := h.st e he
    exact f1 _ _ _ _ (hp.mem_iff.mpr (List.mem_append_left _ he))
  have g2 : ∀ e ∈ Q, isOg S e.nm → e ∈ F := fun e he hi => by
    refine f2 e (hp.mem_iff.mpr (List.mem_append_right _ he)) ?_
    obtain ⟨n, kp', t, hi⟩ := hi
    exact ⟨n, kp', t, hp.mem_iff.mpr (List.mem_append_left _ hi)⟩
  obtain ⟨l, d, hd, hpre⟩ := ha F w g1 g2 _ (stS _ _ _ _ he)
  have := h.cnt
  exact ⟨l, d, by omega, hpre⟩
theorem dec0 : decS 0 = [48] := by decide +kernel
theorem dec1 : decS 1 = [49] := by decide +kernel
theorem okl {l : List En} (h : ∀ e ∈ l, plU 3 (enU e) = true) : okU deepU (.lst (l.map enU)) = true := by
  show okUs 39 (l.map enU) = true
  induction l with
  | nil => simp [okUs]
  | cons x xs ih =>
    have h1 := plU_ok 39 (enU x) (plU_mono 3 39 (enU x) (by omega) (h x (by simp)))
    have h2 := ih fun e he => h e (List.mem_cons_of_mem _ he)
    simp only [List.map_cons, okUs, h1, h2, Bool.and_self]
theorem pl_st {nm kp og : List Nat} {a b c : Int} (h1 : nm.length ≤ 100) (h2 : kp.length ≤ 100) (h3 : og.length ≤ 100) : plU 3 (enU (.st nm kp og (.tup [.int a, .int b, .int c]))) = true := by
  simp [enU, plU, plUs]; omega
theorem pl_se {nm sm : List Nat} {t a b c : Int} (h1 : nm.length ≤ 100) (h2 : sm.length ≤ 100) : plU 3 (enU (.se nm sm t (.tup [.int a, .int b, .int c]))) = true := by
  simp [enU, plU, plUs]; omega
set_option maxHeartbeats 2000000 in
theorem head2_ok {L : List Fn} {m : Nat} (hm : 1 < m) {names : List (List Nat)} (hN : Nms 20 names) {t : Addr} {ms : List Int} {G : Hh} {X : Xg} {Q : Qg}
    (h : ∀ (a b : Int) (es : List En), Hd es → (0 ≤ a ∧ a < 60) → (0 ≤ b ∧ b < 60) → Q (.u (hdU a (ksU b) es)) G) : callN (Pof L) m F_l_head_2 [.u (.lst (ms.map U.int)), .fz t (.lst (names.map U.str))] G X Q := by
  obtain ⟨m, rfl, _⟩ := lvl (show 0 < m by omega)
  walk_at "go"
  refine cell_at_ok (k := 1) (by omega) Lp.v fun c0 => ?_
  walk_at "go"
  refine row2_ok (k := 60) (by omega) (by omega) fun ns hr => ?_
  obtain ⟨x0, b0, b0', _, a0⟩ := hr.at (i := 0) (by omega) (by omega)
  obtain ⟨x50, b50, b50', _, a50⟩ := hr.at (i := 50) (by omega) (by omega)
  obtain ⟨x51, b51, b51', _, a51⟩ := hr.at (i := 51) (by omega) (by omega)
  obtain ⟨x52, b52, b52', _, a52⟩ := hr.at (i := 52) (by omega) (by omega)
  have hkl : (rangeI 0 (x0 % 20)).length = (x0 % 20).toNat := by rw [range_len]; congr 1; omega
  walk_at "go"
  refine for_pre (fun ys ρ G' => ∃ S Q z5 z6 z7 z8 z9 z10, ρ = [some (.u (.lst (ms.map U.int))), some (.fz t (.lst (names.map U.str))), some (.own (.lst (ns.map U.int))), some (.own (.lst (S.map enU))), some (.own (.lst (Q.map enU))), z5, z6, z7, z8, z9, z10] ∧ G' = G ∧ Bt names (x50 * 10 ^ 7) ys.length S Q ∧ Ahd S Q) ⟨[], [], _, _, _, _, _, _, rfl, rfl, ⟨by simp, by simp, rfl, by simp, by simp, by simp, by simp, by simp, by simp, by simp⟩, fun F w _ _ e he => by cases he⟩ ?_ ?_
  · rintro ys x zs ρ G' K e ⟨S, Q', z5, z6, z7, z8, z9, z10, rfl, rfl, hB, hA⟩ hK
    obtain ⟨rfl, hyl⟩ := range_at' e
    have hk20 : ys.length < 20 := by omega
    rw [show (0 : Int) + (ys.length : Int) = (ys.length : Int) by omega]
    obtain ⟨v1, c1, c1', _, d1⟩ := hr.at (i := 1 + 2 * (ys.length : Int)) (by omega) (by omega)
    obtain ⟨v2, c2, c2', _, d2⟩ := hr.at (i := 2 + 2 * (ys.length : Int)) (by omega) (by omega)
    have hcnt := hB.cnt
    obtain ⟨nm, hnm, hnme, dn⟩ := at_ok (xs := names) (i := ((S.map enU).length : Int) + ((Q'.map enU).length : Int)) (by omega) (by rw [List.length_map, List.length_map, hN.len]; omega)
    have dn := at_map (f := U.str) dn
    have hnmk : names[ys.length]? = some nm := by
      rw [← hnme]
      congr 1
      rw [List.length_map, List.length_map]
      omega
    obtain ⟨hnne, hnl, _⟩ := hN.ok nm hnm
    have e0 := eq_nil (S.map enU)
    have e1 := eq_nil (Q'.map enU)
    have oS := okl fun e he => hB.pl e (List.mem_append_left _ he)
    have oQ := okl fun e he => hB.pl e (List.mem_append_right _ he)
    have o0 : okU deepU (.lst []) = true := rfl
    have nml : ∀ e ∈ S ++ Q', e.nm.length ≤ 8 := fun e he => by
      obtain ⟨i, _, ei⟩ := hB.nm e he
      exact (hN.ok _ (List.mem_of_getElem? ei)).2.1
    have hg : (v2 % 2).natAbs < 2 ^ 1000 ∧ goodU (.str (decS (v2 % 2))) = true := by
      have : v2 % 2 = 0 ∨ v2 % 2 = 1 := by omega
      rcases this with e | e <;> rw [e]
      · rw [dec0]; exact ⟨Nat.two_pow_pos 1000, by decide⟩
      · rw [dec1]; exact ⟨Nat.one_lt_two_pow (by decide), by decide⟩
    have hdl : (decS (v2 % 2)).length = 1 := by
      have : v2 % 2 = 0 ∨ v2 % 2 = 1 := by omega
      rcases this with e | e <;> rw [e]
      · rw [dec0]; rfl
      · rw [dec1]; rfl
    have hkp : kpOk ([107] ++ decS (v2 % 2)) := by
      have : v2 % 2 = 0 ∨ v2 % 2 = 1 := by omega
      rcases this with e | e <;> rw [e]
      · rw [dec0]; exact .inl rfl
      · rw [dec1]; exact .inr rfl
    have htg : (⟨1 + v1, v2, 31 * v2 % 997⟩ : Tg).ok := by simp only [Tg.ok]; omega
    have hz : ([107] : List Nat).length + (decS (v2 % 2)).length ≤ PySem.sizeLine := by rw [hdl, sizeLine_def]; simp
    have hlS : (S.map enU).length < PySem.sizeLine := by rw [List.length_map, sizeLine_def]; omega
    have hlQ : (Q'.map enU).length < PySem.sizeLine := by rw [List.length_map, sizeLine_def]; omega
    have addS : ∀ {og : List Nat} {w5 w6 w7 w8 w9 w10 : Option SV}, (og = [] ∨ ∃ x ∈ Q', x.nm = og) → K [some (.u (.lst (ms.map U.int))), some (.fz t (.lst (names.map U.str))), some (.own (.lst (ns.map U.int))), some (.own (.lst (S.map enU ++ [.tup [.str nm, .int 1, .str ([107] ++ decS (v2 % 2)), .str og, .tup [.int (1 + v1), .int v2, .int (31 * v2 % 997)]]]))), some (.own (.lst (Q'.map enU))), w5, w6, w7, w8, w9, w10] G' := fun {og w5 w6 w7 w8 w9 w10} ho => by
      refine hK _ _ ⟨S ++ [.st nm ([107] ++ decS (v2 % 2)) og (.tup [.int (1 + v1), .int v2, .int (31 * v2 % 997)])], Q', _, _, _, _, _, _, by rw [List.map_append]; rfl, rfl, ?_, hA.st_add hB ho⟩
      rw [List.length_append]
      refine hB.st_add hN.nd hnmk ho (pl_st (by omega) (by simp [hdl]) ?_) hkp ⟨_, htg, rfl⟩
      rcases ho with rfl | ⟨x, hx, rfl⟩
      · simp
      · have := nml x (List.mem_append_right _ hx); omega
    have addQ : ∀ {sm : List Nat} {w5 w6 w7 w8 w9 w10 : Option SV}, (∃ x ∈ S, x.nm = sm) → K [some (.u (.lst (ms.map U.int))), some (.fz t (.lst (names.map U.str))), some (.own (.lst (ns.map U.int))), some (.own (.lst (S.map enU))), some (.own (.lst (Q'.map enU ++ [.tup [.str nm, .int 2, .str sm, .int (1 + (ys.length : Int) + x50 * 10 ^ 7), .tup [.int (1 + v1), .int v2, .int (31 * v2 % 997)]]]))), w5, w6, w7, w8, w9, w10] G' := fun {sm w5 w6 w7 w8 w9 w10} ho => by
      refine hK _ _ ⟨S, Q' ++ [.se nm sm (1 + (ys.length : Int) + x50 * 10 ^ 7) (.tup [.int (1 + v1), .int v2, .int (31 * v2 % 997)])], _, _, _, _, _, _, by rw [List.map_append]; rfl, rfl, ?_, hA.se_add⟩
      rw [List.length_append]
      refine hB.se_add hN.nd hnmk ho (pl_se (by omega) ?_) ⟨_, htg, rfl⟩ hnne
      obtain ⟨x, hx, rfl⟩ := ho
      have := nml x (List.mem_append_left _ hx); omega
    obtain ⟨eS, hbS⟩ : ∃ b, eqU (.lst (S.map enU)) (.lst []) = b := ⟨_, rfl⟩
    obtain ⟨eQ, hbQ⟩ : ∃ b, eqU (.lst (Q'.map enU)) (.lst []) = b := ⟨_, rfl⟩
    have hx0 : ∀ x : En, ∃ r, enU x = .tup r ∧ L2.atI r 0 = some (.str x.nm) := fun x => by
      cases x
      · exact ⟨_, rfl, at_lit (j := 0) rfl rfl⟩
      · exact ⟨_, rfl, at_lit (j := 0) rfl rfl⟩
    cases eQ with
    | true =>
      cases eS with
      | true =>
        walk_at "go"
        all_goals first | exact addS (.inl rfl)
      | false =>
        have hSl : S.map enU ≠ [] := fun z => by rw [z] at hbS; cases hbS
        have hSp : 0 < (S.map enU).length := List.length_pos_iff.mpr hSl
        obtain ⟨x, hx, _, ex⟩ := at_ok (xs := S) (i := v2 % ((S.map enU).length : Int)) (Int.emod_nonneg _ (by omega)) (by have := Int.emod_lt_of_pos v2 (show (0 : Int) < ((S.map enU).length : Int) by omega); rw [List.length_map] at this ⊢; exact this)
        have ex := at_map (f := enU) ex
        obtain ⟨r, r1, r2⟩ := hx0 x
        rw [r1] at ex
        walk_at "go"
        all_goals first | exact addS (.inl rfl) | exact addQ ⟨x, hx, rfl⟩
    | false =>
      have hQl : Q'.map enU ≠ [] := fun z => by rw [z] at hbQ; cases hbQ
      have hQp : 0 < (Q'.map enU).length := List.length_pos_iff.mpr hQl
      obtain ⟨xq, hxq, _, exq⟩ := at_ok (xs := Q') (i := v2 / 4 % ((Q'.map enU).length : Int)) (Int.emod_nonneg _ (by omega)) (by have := Int.emod_lt_of_pos (v2 / 4) (show (0 : Int) < ((Q'.map enU).length : Int) by omega); rw [List.length_map] at this ⊢; exact this)
      have exq := at_map (f := enU) exq
      obtain ⟨rq, rq1, rq2⟩ := hx0 xq
      rw [rq1] at exq
      cases eS with
      | true =>
        walk_at "go"
        all_goals first | exact addS (.inl rfl) | exact addS (.inr ⟨xq, hxq, rfl⟩)
      | false =>
        have hSl : S.map enU ≠ [] := fun z => by rw [z] at hbS; cases hbS
        have hSp : 0 < (S.map enU).length := List.length_pos_iff.mpr hSl
        obtain ⟨x, hx, _, ex⟩ := at_ok (xs := S) (i := v2 % ((S.map enU).length : Int)) (Int.emod_nonneg _ (by omega)) (by have := Int.emod_lt_of_pos v2 (show (0 : Int) < ((S.map enU).length : Int) by omega); rw [List.length_map] at this ⊢; exact this)
        have ex := at_map (f := enU) ex
        obtain ⟨r, r1, r2⟩ := hx0 x
        rw [r1] at ex
        walk_at "go"
        all_goals first | exact addS (.inl rfl) | exact addS (.inr ⟨xq, hxq, rfl⟩) | exact addQ ⟨x, hx, rfl⟩
  · rintro ρ G' ⟨S, Q', z5, z6, z7, z8, z9, z10, rfl, rfl, hB, hA⟩
    obtain ⟨es, hp, hes, hup⟩ := sortN_perm (S ++ Q') hB.nd
    have hc : 0 ≤ x50 * 10 ^ 7 ∧ x50 * 10 ^ 7 ≤ 590000000 := by omega
    have hd := hd_of hB (by rw [hkl]; omega) hc (fun s hs => by obtain ⟨h1, h2, h3⟩ := hN.ok s hs; exact ⟨List.length_pos_iff.mpr h1, h2, h3⟩) hA hp hup
    have hsz : (S.map enU).length + (Q'.map enU).length ≤ PySem.sizeLine := by have := hB.cnt; rw [List.length_map, List.length_map, sizeLine_def]; omega
    walk_at "go"
    rw [← List.map_append]
    refine sortN_elim hB.nd (fun e => ?_) ?_
    · rw [show List.map U.int (sortI []) = sortH ((S ++ Q').map enU) by rw [e]; rfl, hes]
      walk_at "go"
      exact h x51 x52 es hd ⟨b51, b51'⟩ ⟨b52, b52'⟩
    · rw [hes]
      walk_at "go"
      exact h x51 x52 es hd ⟨b51, b51'⟩ ⟨b52, b52'⟩
end Hs

-- needs: S_base S_hist
namespace Hs
open Mp Gp
open PySem (Addr)
/-! ### grafts, in plain -/
def isSl : En → Bool
  | .se .. => true
  | .st .. => false
def pr (e : En) : Int × List Nat := (tnOf e, e.nm)
def prs (es : List En) (x : List Nat) : List (Int × List Nat) := (ownS es x).map pr
theorem nmS_prs (es : List En) (x : List Nat) : nmS es x = (prs es x).map (·.2) := by
  unfold nmS prs
  rw [List.map_map]
  rfl
theorem cutN_prs (es : List En) (x : List Nat) (t : Int) : cutN es x t = ((prs es x).filter fun p => decide (p.1 ≤ t)).map (·.2) := by
  unfold cutN prs
  rw [List.filter_map, List.map_map]
  rfl
theorem prs_up {es : List En} (w : Wf es) (x : List Nat) : (prs es x).Pairwise fun a b => a.1 < b.1 := List.pairwise_map.mpr (ownS_up w x)
theorem prs_perm (es : List En) (x : List Nat) : (prs es x).Perm ((es.filter (isSe x)).map pr) := (sortT_perm _).map pr
theorem prs_only {es : List En} (w : Wf es) {x : List Nat} {l : List (Int × List Nat)} (h1 : l.Pairwise fun a b => a.1 < b.1) (h2 : l.Perm ((es.filter (isSe x)).map pr)) : l = prs es x :=
  List.Perm.eq_of_pairwise (le := fun a b => a.1 < b.1) (fun a b _ _ h h' => absurd h (by omega)) h1 (prs_up w x) (h2.trans (prs_perm es x).symm)
theorem filter_or {α : Type} {p q : α → Bool} (h : ∀ a, p a = true → q a = false) : ∀ l : List α, (l.filter fun a => p a || q a).Perm (l.filter p ++ l.filter q)
  | [] => .refl _
  | a :: l => by
    rw [List.filter_cons, List.filter_cons, List.filter_cons]
    cases hp : p a
    · cases hq : q a
      · simpa using filter_or h l
      · simp only [Bool.or_true, if_true, if_false, Bool.false_eq_true]
        exact ((filter_or h l).cons a).trans List.perm_middle.symm
    · rw [h a hp]
      simpa using (filter_or h l).cons a
structure Gr (es : List En) (s o q p : List Nat) (tq : Int) : Prop where
  wf : Wf es
  tdg : ∀ a ∈ es, ∀ b ∈ es, isSl a = true → isSl b = true → tnOf a = tnOf b → a.nm = b.nm
  fs : ∃ kp tg, find es s = some (.st s kp q tg)
  fq : ∃ tg, find es q = some (.se q o tq tg)
  fo : ∃ kp tg, find es o = some (.st o kp p tg)
  so : s ≠ o
  late : ∀ e ∈ es, isSe s e = true → tq < tnOf e
  qn : q ≠ []
def gr (s o q p : List Nat) (tq : Int) : En → En
  | .se nm sm tn tg => if sm = o ∧ tn ≤ tq then .se nm s tn tg else .se nm sm tn tg
  | .st nm kp og tg => if nm = s then .st nm kp p tg else if nm = o then .st nm kp q tg else .st nm kp og tg
section
variable {es : List En} {s o q p : List Nat} {tq : Int}
theorem gr_st {nm kp og : List Nat} {tg : U} : gr s o q p tq (.st nm kp og tg) = if nm = s then .st nm kp p tg else if nm = o then .st nm kp q tg else .st nm kp og tg := rfl
theorem gr_se {nm sm : List Nat} {tn : Int} {tg : U} : gr s o q p tq (.se nm sm tn tg) = if sm = o ∧ tn ≤ tq then .se nm s tn tg else .se nm sm tn tg := rfl
theorem gr_nm (e : En) : (gr s o q p tq e).nm = e.nm := by
  cases e with
  | st => rw [gr_st]; (repeat' split) <;> rfl
  | se => rw [gr_se]; split <;> rfl
theorem gr_tn (e : En) : tnOf (gr s o q p tq e) = tnOf e := by
  cases e with
  | st => rw [gr_st]; (repeat' split) <;> rfl
  | se => rw [gr_se]; split <;> rfl
theorem gr_sl (e : En) : isSl (gr s o q p tq e) = isSl e := by
  cases e with
  | st => rw [gr_st]; (repeat' split) <;> rfl
  | se => rw [gr_se]; split <;> rfl
theorem gr_pr (e : En) : pr (gr s o q p tq e) = pr e := by unfold pr; rw [gr_nm, gr_tn]
theorem find_gr (n : List Nat) : find (es.map (gr s o q p tq)) n = (find es n).map (gr s o q p tq) := by
  unfold find
  rw [List.find?_map]
  congr 1
  congr 1
  funext e
  simp only [Function.comp, gr_nm]
theorem gr_isS (hso : s ≠ o) (e : En) : isSe s (gr s o q p tq e) = ((isSe o e && decide (tnOf e ≤ tq)) || isSe s e) := by
  cases e with
  | st nm kp og tg =>
    rw [gr_st]
    (repeat' split) <;> rfl
  | se nm sm tn tg =>
    rw [gr_se]
    simp only [isSe, tnOf]
    by_cases h1 : sm = o <;> by_cases h2 : tn ≤ tq <;> simp [h1, h2, isSe, Ne.symm hso]
theorem gr_isO (hso : s ≠ o) (e : En) : isSe o (gr s o q p tq e) = (isSe o e && decide (tq < tnOf e)) := by
  cases e with
  | st nm kp og tg =>
    rw [gr_st]
    (repeat' split) <;> rfl
  | se nm sm tn tg =>
    rw [gr_se]
    simp only [isSe, tnOf]
    by_cases h1 : sm = o
    · by_cases h2 : tn ≤ tq
      · have h3 : ¬ tq < tn := by omega
        simp [h1, h2, h3, isSe, hso]
      · have h3 : tq < tn := by omega
        simp [h1, h2, h3, isSe]
    · simp [h1, isSe]
theorem gr_isX {x : List Nat} (h1 : x ≠ s) (h2 : x ≠ o) (e : En) : isSe x (gr s o q p tq e) = isSe x e := by
  cases e with
  | st nm kp og tg =>
    rw [gr_st]
    (repeat' split) <;> rfl
  | se nm sm tn tg =>
    rw [gr_se]
    split
    · rename_i h
      simp [isSe, h.1, Ne.symm h1, Ne.symm h2]
    · rfl
theorem td_of {l : List En} (h : ∀ a ∈ l, ∀ b ∈ l, tnOf a = tnOf b → a.nm = b.nm) (nd : (l.map En.nm).Nodup) : (l.map tnOf).Nodup := by
  refine List.pairwise_map.mpr ?_
  have nd : l.Pairwise fun a b => a.nm ≠ b.nm := List.pairwise_map.mp nd
  exact nd.imp_of_mem fun ha hb hne e => hne (h _ ha _ hb e)
theorem isSe_sl {x : List Nat} {e : En} (h : isSe x e = true) : isSl e = true := by
  cases e with
  | st => cases h
  | se => rfl
theorem Gr.wfF (g : Gr es s o q p tq) : Wf (es.map (gr s o q p tq)) := by
  have hm : (es.map (gr s o q p tq)).map En.nm = es.map En.nm := by
    rw [List.map_map]
    exact List.map_congr_left fun e _ => gr_nm e
  refine ⟨by rw [hm]; exact g.wf.nd, fun e he => ?_, fun x => ?_, by rw [List.length_map]; exact g.wf.len⟩
  · obtain ⟨e', he', rfl⟩ := List.mem_map.mp he
    rw [gr_nm]
    exact g.wf.ne e' he'
  · refine td_of (fun a ha b hb e => ?_) ((List.filter_sublist.map _).nodup (by rw [hm]; exact g.wf.nd))
    obtain ⟨ha, sa⟩ := List.mem_filter.mp ha
    obtain ⟨hb, sb⟩ := List.mem_filter.mp hb
    obtain ⟨a', ha', rfl⟩ := List.mem_map.mp ha
    obtain ⟨b', hb', rfl⟩ := List.mem_map.mp hb
    rw [gr_nm, gr_nm]
    have sa := isSe_sl sa
    have sb := isSe_sl sb
    rw [gr_sl] at sa sb
    rw [gr_tn, gr_tn] at e
    exact g.tdg a' ha' b' hb' sa sb e
theorem filter_gr (x : List Nat) : (((es.map (gr s o q p tq)).filter (isSe x)).map pr) = (es.filter fun e => isSe x (gr s o q p tq e)).map pr := by
  rw [List.filter_map, List.map_map]
  exact List.map_congr_left fun e _ => gr_pr e
theorem Gr.prsS (g : Gr es s o q p tq) : prs (es.map (gr s o q p tq)) s = ((prs es o).filter fun a => decide (a.1 ≤ tq)) ++ prs es s := by
  symm
  refine prs_only g.wfF ?_ ?_
  · refine List.pairwise_append.mpr ⟨(prs_up g.wf o).sublist List.filter_sublist, prs_up g.wf s, fun a ha b hb => ?_⟩
    have h1 := (List.mem_filter.mp ha).2
    simp only [decide_eq_true_eq] at h1
    obtain ⟨e, he, rfl⟩ := List.mem_map.mp ((prs_perm es s).mem_iff.mp hb)
    obtain ⟨he, hs⟩ := List.mem_filter.mp he
    have := g.late e he hs
    show a.1 < tnOf e
    omega
  · rw [filter_gr, show (fun e => isSe s (gr s o q p tq e)) = fun e => (isSe o e && decide (tnOf e ≤ tq)) || isSe s e from funext fun e => gr_isS g.so e]
    have h1 := (filter_or (p := fun e => isSe o e && decide (tnOf e ≤ tq)) (q := isSe s) (fun e he => by
      cases e with
      | st => rfl
      | se nm sm tn tg =>
        simp only [isSe, Bool.and_eq_true, decide_eq_true_eq] at he ⊢
        simp only [decide_eq_false_iff_not, he.1]
        exact fun z => g.so z.symm) es).map pr
    refine List.Perm.trans ?_ h1.symm
    rw [List.map_append]
    refine List.Perm.append ?_ (prs_perm es s)
    have h2 := (prs_perm es o).filter fun a => decide (a.1 ≤ tq)
    refine h2.trans ?_
    rw [List.filter_map, List.filter_filter]
    refine List.Perm.of_eq ?_
    congr 1
    congr 1
    funext e
    exact Bool.and_comm _ _
theorem Gr.prsO (g : Gr es s o q p tq) : prs (es.map (gr s o q p tq)) o = (prs es o).filter fun a => decide (tq < a.1) := by
  symm
  refine prs_only g.wfF ((prs_up g.wf o).sublist List.filter_sublist) ?_
  rw [filter_gr, show (fun e => isSe o (gr s o q p tq e)) = fun e => isSe o e && decide (tq < tnOf e) from funext fun e => gr_isO g.so e]
  refine ((prs_perm es o).filter _).trans (List.Perm.of_eq ?_)
  rw [List.filter_map, List.filter_filter]
  congr 1
  congr 1
  funext e
  exact Bool.and_comm _ _
theorem Gr.prsX (g : Gr es s o q p tq) {x : List Nat} (h1 : x ≠ s) (h2 : x ≠ o) : prs (es.map (gr s o q p tq)) x = prs es x := by
  symm
  refine prs_only g.wfF (prs_up g.wf x) ?_
  rw [filter_gr, show (fun e => isSe x (gr s o q p tq e)) = isSe x from funext fun e => gr_isX h1 h2 e]
  exact prs_perm es x
theorem split_le {a b : Int} (hab : a ≤ b) : ∀ {l : List (Int × List Nat)}, l.Pairwise (fun x y => x.1 < y.1) → l.filter (fun x => decide (x.1 ≤ b)) = l.filter (fun x => decide (x.1 ≤ a)) ++ (l.filter (fun x => decide (a < x.1))).filter fun x => decide (x.1 ≤ b)
  | [], _ => rfl
  | x :: l, h => by
    obtain ⟨h1, h2⟩ := List.pairwise_cons.mp h
    rw [List.filter_cons, List.filter_cons, List.filter_cons, split_le hab h2]
    by_cases hx : x.1 ≤ a
    · have e1 : x.1 ≤ b := by omega
      have e2 : ¬ a < x.1 := by omega
      simp [hx, e1, e2]
    · have e2 : a < x.1 := by omega
      have e3 : l.filter (fun x => decide (x.1 ≤ a)) = [] := List.filter_eq_nil_iff.mpr fun y hy => by have := h1 y hy; simp; omega
      rw [e3]
      by_cases e1 : x.1 ≤ b
      · simp [hx, e1, e2]
      · simp [hx, e1, e2]
theorem split_all {a : Int} {l : List (Int × List Nat)} (h : l.Pairwise (fun x y => x.1 < y.1)) : l = l.filter (fun x => decide (x.1 ≤ a)) ++ l.filter (fun x => decide (a < x.1)) := by
  induction l with
  | nil => rfl
  | cons x l ih =>
    obtain ⟨h1, h2⟩ := List.pairwise_cons.mp h
    rw [List.filter_cons, List.filter_cons]
    by_cases hx : x.1 ≤ a
    · have e2 : ¬ a < x.1 := by omega
      simp only [hx, e2, decide_true, decide_false, if_true, if_false, Bool.false_eq_true, List.cons_append]
      rw [← ih h2]
    · have e2 : a < x.1 := by omega
      have e3 : l.filter (fun x => decide (x.1 ≤ a)) = [] := List.filter_eq_nil_iff.mpr fun y hy => by have := h1 y hy; simp; omega
      have e4 : l.filter (fun x => decide (a < x.1)) = l := List.filter_eq_self.mpr fun y hy => by have := h1 y hy; simp; omega
      simp [hx, e2, e3, e4]
variable (g : Gr es s o q p tq)
include g
theorem Gr.late' : ∀ a ∈ prs es s, tq < a.1 := fun a ha => by
  obtain ⟨e, he, rfl⟩ := List.mem_map.mp ((prs_perm es s).mem_iff.mp ha)
  obtain ⟨he, hs⟩ := List.mem_filter.mp he
  exact g.late e he hs
theorem Gr.cutS {tr : Int} (h : tr ≤ tq) : cutN (es.map (gr s o q p tq)) s tr = cutN es o tr := by
  rw [cutN_prs, cutN_prs, g.prsS, List.filter_append, List.filter_filter]
  have e1 : (prs es s).filter (fun p => decide (p.1 ≤ tr)) = [] := List.filter_eq_nil_iff.mpr fun a ha => by have := g.late' a ha; simp; omega
  rw [e1, List.append_nil]
  congr 1
  refine List.filter_congr fun a _ => ?_
  by_cases h1 : a.1 ≤ tr
  · have h2 : a.1 ≤ tq := by omega
    simp [h1, h2]
  · simp [h1]
theorem Gr.cutS' {tr : Int} (h : tq < tr) : cutN (es.map (gr s o q p tq)) s tr = cutN es o tq ++ cutN es s tr := by
  rw [cutN_prs, cutN_prs, cutN_prs, g.prsS, List.filter_append, List.filter_filter, List.map_append]
  congr 1
  congr 1
  refine List.filter_congr fun a _ => ?_
  by_cases h1 : a.1 ≤ tq
  · have h2 : a.1 ≤ tr := by omega
    simp [h1, h2]
  · simp [h1]
theorem Gr.cutO {tr : Int} (h : tq < tr) : cutN es o tq ++ cutN (es.map (gr s o q p tq)) o tr = cutN es o tr := by
  rw [cutN_prs, cutN_prs, cutN_prs, g.prsO, ← List.map_append]
  rw [split_le (Int.le_of_lt h) (prs_up g.wf o)]
theorem Gr.fF {n : List Nat} {e : En} (h : find es n = some e) : find (es.map (gr s o q p tq)) n = some (gr s o q p tq e) := by rw [find_gr, h]; rfl
/-- what is asked of lesser depths -/
abbrev UpAt (es F : List En) (d : Nat) : Prop := ∀ {t : List Nat} {l : List (List Nat)}, Pre es t l d → ∀ {r : List Nat} {tr : Int} {tg : U}, find es r = some (.se r t tr tg) → ∃ t' l' d', find F r = some (.se r t' tr tg) ∧ Pre F t' l' d' ∧ d' ≤ 2 * d + 2 ∧ l' ++ cutN F t' tr = l ++ cutN es t tr
theorem Gr.preS {l : List (List Nat)} {d : Nat} (h : Pre es o l d) (ih : ∀ d' < d, UpAt es (es.map (gr s o q p tq)) d') : ∃ dS, dS ≤ 2 * d + 1 ∧ Pre (es.map (gr s o q p tq)) s l dS := by
  obtain ⟨kp, tg, fs⟩ := g.fs
  obtain ⟨kp2, tg2, fo⟩ := g.fo
  have f1 : find (es.map (gr s o q p tq)) s = some (.st s kp p tg) := by rw [g.fF fs, gr_st, if_pos rfl]
  cases h with
  | nil e =>
    rw [fo] at e
    cases e
    exact ⟨0, by omega, .nil f1⟩
  | @cons _ _ _ _ t2 tn2 tg3 l2 d2 e hp e2 h2 =>
    rw [fo] at e
    cases e
    obtain ⟨t', l', d', i1, i2, i3, i4⟩ := ih d2 (by omega) h2 e2
    rw [← i4]
    exact ⟨d' + 1, by omega, .cons f1 hp i1 i2⟩
theorem Gr.up : ∀ d, UpAt es (es.map (gr s o q p tq)) d := fun d => by
  induction d using Nat.strongRecOn with
  | _ d ih =>
    intro t l h r tr tg hr
    obtain ⟨kp1, tg1, fs⟩ := g.fs
    obtain ⟨kp2, tg2, fo⟩ := g.fo
    obtain ⟨tg3, fq⟩ := g.fq
    have so := g.so
    by_cases h1 : t = o
    · subst h1
      obtain ⟨dS, k1, k2⟩ := g.preS h ih
      by_cases h2 : tr ≤ tq
      · refine ⟨s, l, dS, ?_, k2, by omega, by rw [g.cutS h2]⟩
        rw [g.fF hr, gr_se, if_pos ⟨rfl, h2⟩]
      · have f1 : find (es.map (gr s t q p tq)) t = some (.st t kp2 q tg2) := by rw [g.fF fo, gr_st, if_neg (Ne.symm so), if_pos rfl]
        have f2 : find (es.map (gr s t q p tq)) q = some (.se q s tq tg3) := by rw [g.fF fq, gr_se, if_pos ⟨rfl, Int.le_refl _⟩]
        refine ⟨t, _, dS + 1, ?_, .cons f1 g.qn f2 k2, by omega, ?_⟩
        · rw [g.fF hr, gr_se, if_neg fun z => h2 z.2]
        · rw [g.cutS (Int.le_refl _), List.append_assoc, g.cutO (by omega)]
    · by_cases h2 : t = s
      · subst h2
        have hlt : tq < tr := by
          obtain ⟨hm, _⟩ := find_some hr
          exact g.late _ hm (by simp [isSe])
        cases h with
        | nil e => rw [fs] at e; cases e; exact absurd rfl g.qn
        | @cons _ _ _ _ t2 tn2 tg4 lo d0 e hq e2 ho =>
          rw [fs] at e
          cases e
          rw [fq] at e2
          cases e2
          obtain ⟨dS, k1, k2⟩ := g.preS ho fun d' hd => ih d' (by omega)
          refine ⟨t, lo, dS, ?_, k2, by omega, ?_⟩
          · rw [g.fF hr, gr_se, if_neg fun z => so z.1]
          · rw [g.cutS' hlt, List.append_assoc]
      · have fr : find (es.map (gr s o q p tq)) r = some (.se r t tr tg) := by rw [g.fF hr, gr_se, if_neg fun z => h1 z.1]
        have hc : cutN (es.map (gr s o q p tq)) t tr = cutN es t tr := by rw [cutN_prs, cutN_prs, g.prsX h2 h1]
        cases h with
        | nil e =>
          exact ⟨t, [], 0, fr, .nil (by rw [g.fF e, gr_st, if_neg h2, if_neg h1]), by omega, by rw [hc]⟩
        | @cons _ _ _ _ t2 tn2 tg4 l2 d2 e hq e2 h2' =>
          obtain ⟨t', l', d', i1, i2, i3, i4⟩ := ih d2 (by omega) h2' e2
          refine ⟨t, _, d' + 1, fr, .cons (by rw [g.fF e, gr_st, if_neg h2, if_neg h1]) hq i1 i2, by omega, by rw [hc, i4]⟩
/-- all histories are as they were -/
theorem Gr.hist {x : List Nat} {l : List (List Nat)} {d : Nat} (h : Pre es x l d) : ∃ l' d', Pre (es.map (gr s o q p tq)) x l' d' ∧ d' ≤ 2 * d + 2 ∧ l' ++ nmS (es.map (gr s o q p tq)) x = l ++ nmS es x := by
  obtain ⟨kp1, tg1, fs⟩ := g.fs
  obtain ⟨kp2, tg2, fo⟩ := g.fo
  obtain ⟨tg3, fq⟩ := g.fq
  have so := g.so
  by_cases h1 : x = o
  · subst h1
    obtain ⟨dS, k1, k2⟩ := g.preS h fun d' _ => g.up d'
    have f1 : find (es.map (gr s x q p tq)) x = some (.st x kp2 q tg2) := by rw [g.fF fo, gr_st, if_neg (Ne.symm so), if_pos rfl]
    have f2 : find (es.map (gr s x q p tq)) q = some (.se q s tq tg3) := by rw [g.fF fq, gr_se, if_pos ⟨rfl, Int.le_refl _⟩]
    refine ⟨_, dS + 1, .cons f1 g.qn f2 k2, by omega, ?_⟩
    rw [g.cutS (Int.le_refl _), List.append_assoc, cutN_prs, nmS_prs, nmS_prs, g.prsO, ← List.map_append, ← split_all (prs_up g.wf x)]
  · by_cases h2 : x = s
    · subst h2
      cases h with
      | nil e => rw [fs] at e; cases e; exact absurd rfl g.qn
      | @cons _ _ _ _ t2 tn2 tg4 lo d0 e hq e2 ho =>
        rw [fs] at e
        cases e
        rw [fq] at e2
        cases e2
        obtain ⟨dS, k1, k2⟩ := g.preS ho fun d' _ => g.up d'
        refine ⟨lo, dS, k2, by omega, ?_⟩
        rw [nmS_prs, nmS_prs, g.prsS, List.map_append, cutN_prs, List.append_assoc]
    · have hc : nmS (es.map (gr s o q p tq)) x = nmS es x := by rw [nmS_prs, nmS_prs, g.prsX h2 h1]
      cases h with
      | nil e => exact ⟨[], 0, .nil (by rw [g.fF e, gr_st, if_neg h2, if_neg h1]), by omega, by rw [hc]⟩
      | @cons _ _ _ _ t2 tn2 tg4 l2 d2 e hq e2 h2' =>
        obtain ⟨t', l', d', i1, i2, i3, i4⟩ := g.up d2 h2' e2
        exact ⟨_, d' + 1, .cons (by rw [g.fF e, gr_st, if_neg h2, if_neg h1]) hq i1 i2, by omega, by rw [hc, i4]⟩
end
end Hs

-- needs: S_base S_things S_blocks S_frac S_words S_read S_rdw S_rdi S_draw S_dict S_blk S_sum S_isb S_hist S_hdraw S_graft
namespace Hs
open Mp Gp
open PySem (Addr)
/-! ### right heads -/
structure Ok (es : List En) : Prop where
  wf : Wf es
  l24 : es.length ≤ 24
  tdg : ∀ a ∈ es, ∀ b ∈ es, isSl a = true → isSl b = true → tnOf a = tnOf b → a.nm = b.nm
  up : (es.map En.nm).Pairwise (· < ·)
  nmk : ∀ e ∈ es, okName e.nm
  st : ∀ nm kp og tg, En.st nm kp og tg ∈ es → kpOk kp ∧ (∃ t : Tg, t.ok ∧ tg = t.u) ∧ (og = [] ∨ ∃ t tn tg', find es og = some (.se og t tn tg') ∧ ∀ e ∈ es, isSe nm e = true → tn < tnOf e)
  se : ∀ nm sm tn tg, En.se nm sm tn tg ∈ es → (∃ t : Tg, t.ok ∧ tg = t.u) ∧ (0 < tn ∧ tn ≤ 999999999) ∧ ∃ kp og tg', find es sm = some (.st sm kp og tg')
theorem kp_name {kp : List Nat} (h : kpOk kp) : okName kp := by
  rcases h with rfl | rfl
  · exact ⟨by decide, by decide, by decide +kernel⟩
  · exact ⟨by decide, by decide, by decide +kernel⟩
theorem is_count_ok {L : List Fn} {m : Nat} (hm : 0 < m) {a : Int} (h0 : 0 ≤ a) (h1 : a ≤ 999999999) {G : Hh} {X : Xg} {Q : Qg} (h : Q (.u (.bl true)) G) : callN (Pof L) m F_heads_is_count [.u (.int a)] G X Q := by
  obtain ⟨m, rfl, _⟩ := lvl hm
  walk_at "go"
  all_goals first | exact h | (exfalso; omega) | (rw [decide_eq_true h1]; exact h)
theorem plS {s : List Nat} (h : s.length ≤ 100) : plU 1 (.str s) = true := by simp [plU]; omega
theorem plT (t : Tg) : plU 1 t.u = true := by simp [Tg.u, plU, plUs]
theorem is_keeper_ok {L : List Fn} {m : Nat} (hm : 1 < m) {s : List Nat} (hs : okName s) {b : Int} (h0 : 0 ≤ b) (h1 : b ≤ 999999999) {G : Hh} {X : Xg} {Q : Qg} (h : Q (.u (.bl true)) G) : callN (Pof L) m F_heads_is_keeper [.u (.tup [.str s, .int b])] G X Q := by
  obtain ⟨m, rfl, _⟩ := lvl hm
  have hs2 : s.length ≤ 8 := hs.2.1
  have hi := name_is hs
  walk_at "go"
  refine is_name_ok (by omega) (plS (by omega)) ?_
  rw [hi]
  walk_at "go"
  refine is_count_ok (by omega) h0 h1 ?_
  walk_at "go"
  exact h
theorem is_entry_ok {L : List Fn} {m : Nat} (hm : 2 < m) {es : List En} (hk : Ok es) {e : En} (he : e ∈ es) {G : Hh} {X : Xg} {Q : Qg} (h : Q (.u (.bl true)) G) : callN (Pof L) m F_heads_is_entry [.u (enU e)] G X Q := by
  obtain ⟨m, rfl, _⟩ := lvl (show 0 < m by omega)
  have hn := hk.nmk e he
  have hnl : e.nm.length ≤ 8 := hn.2.1
  have hi := name_is hn
  cases e with
  | st nm kp og tg =>
    obtain ⟨hkp, ⟨t, ht, rfl⟩, hog⟩ := hk.st _ _ _ _ he
    have hki := name_is (kp_name hkp)
    have hkl : kp.length ≤ 8 := (kp_name hkp).2.1
    have hti := tag_is ht
    walk_at "go"
    refine is_name_ok (by omega) (plS (s := nm) (by simp only [En.nm] at hnl; omega)) ?_
    rw [show isName (.str nm) = true from hi]
    walk_at "go"
    refine is_tag_ok (by omega) (plT t) ?_
    rw [hti]
    walk_at "go"
    refine is_count_ok (by omega) (by omega) (by omega) ?_
    walk_at "go"
    refine is_name_ok (by omega) (plS (s := kp) (by omega)) ?_
    rw [hki]
    walk_at "go"
    rcases hog with rfl | ⟨t2, tn2, tg2, hf, _⟩
    · have hb : eqU (.str []) (.str []) = true := rfl
      walk_at "go"
      exact h
    · obtain ⟨hm2, _⟩ := find_some hf
      have ho := hk.nmk _ hm2
      have ho : okName og := ho
      have hol : og.length ≤ 8 := ho.2.1
      have hoi := name_is ho
      have hb : eqU (.str og) (.str []) = false := by
        rw [eq_str]
        exact decide_eq_false fun z => by have := ho.1; rw [z] at this; simp at this
      walk_at "go"
      refine is_name_ok (by omega) (plS (s := og) (by omega)) ?_
      rw [hoi]
      walk_at "go"
      exact h
  | se nm sm tn tg =>
    obtain ⟨⟨t, ht, rfl⟩, ⟨h1, h2⟩, kp, og, tg', hf⟩ := hk.se _ _ _ _ he
    have hs := hk.nmk _ (find_some hf).1
    have hs : okName sm := hs
    have hsi := name_is hs
    have hsl : sm.length ≤ 8 := hs.2.1
    have hti := tag_is ht
    walk_at "go"
    refine is_name_ok (by omega) (plS (s := nm) (by simp only [En.nm] at hnl; omega)) ?_
    rw [show isName (.str nm) = true from hi]
    walk_at "go"
    refine is_tag_ok (by omega) (plT t) ?_
    rw [hti]
    walk_at "go"
    refine is_count_ok (by omega) (by omega) (by omega) ?_
    walk_at "go"
    refine is_name_ok (by omega) (plS (s := sm) (by omega)) ?_
    rw [hsi]
    walk_at "go"
    refine is_count_ok (by omega) (by omega) h2 ?_
    walk_at "go"
    rw [decide_eq_true h1]
    exact h
/-- rows by rising names -/
theorem is_rising_ok {L : List Fn} {m : Nat} (hm : 0 < m) {α : Type} {f : α → U} {nm : α → List Nat} (hf : ∀ a, ∃ r, f a = .tup (.str (nm a) :: r)) {xs : List α} (hl : xs.length ≤ 1000) (hp : (xs.map nm).Pairwise (· < ·)) {G : Hh} {X : Xg} {Q : Qg} (h : Q (.u (.bl true)) G) : callN (Pof L) m F_heads_is_rising [.u (.tup (xs.map f))] G X Q := by
  obtain ⟨m, rfl, _⟩ := lvl hm
  have hsz2 : (rangeI 0 ((xs.length : Int) - 1)).length ≤ PySem.sizeLine := by rw [range_len, sizeLine_def]; omega
  have hn : ∀ j : Nat, j < xs.length → ∃ r, L2.atI (xs.map f) (j : Int) = some (.tup (.str ((xs.map nm).getD j []) :: r)) := fun j hj => by
    obtain ⟨r, e⟩ := hf xs[j]
    refine ⟨r, atI_nat ?_⟩
    rw [List.getElem?_map, List.getElem?_eq_getElem hj, List.getD_eq_getElem?_getD, List.getElem?_map, List.getElem?_eq_getElem hj]
    exact congrArg some e
  walk_at "go"
  rw [List.length_map]
  walk_at "go"
  rw [rng_pred]
  refine lc_map (f := fun k : Nat => U.int (k : Int)) (fun k => some (.bl (decide ((xs.map nm).getD k [] < (xs.map nm).getD (k + 1) [])))) (fun j hj N hN => ?_) ?_
  · have hj := List.mem_range.mp hj
    obtain ⟨r, e1⟩ := hn j (by omega)
    obtain ⟨r', e1'⟩ := hn (j + 1) (by omega)
    have e1' : L2.atI (xs.map f) ((j : Int) + 1) = some (.tup (.str ((xs.map nm).getD (j + 1) []) :: r')) := e1'
    have i1 : L2.atI (U.str ((xs.map nm).getD j []) :: r) 0 = some (.str ((xs.map nm).getD j [])) := at_lit (j := 0) rfl rfl
    have i2 : L2.atI (U.str ((xs.map nm).getD (j + 1) []) :: r') 0 = some (.str ((xs.map nm).getD (j + 1) [])) := at_lit (j := 0) rfl rfl
    walk_at "go"
    exact hN
  rw [List.nil_append, filterMap_some]
  walk_at "go"
  refine optK_in (allBl_mapf _ _) ?_
  walk_at "go"
  have e9 := adj_range (xs.map nm)
  rw [List.length_map] at e9
  rw [all_true, e9, adj_of hp]
  exact h
theorem leads_right_ok {L : List Fn} {m : Nat} (hm : 1 < m) {b : Int} {es : List En} (hk : Ok es) {e : En} (he : e ∈ es) {G : Hh} {X : Xg} {Q : Qg} (h : Q (.u (.bl true)) G) : callN (Pof L) m F_heads_leads_right [.u (ksU b), .u (.tup (es.map enU)), .u (enU e)] G X Q := by
  obtain ⟨m, rfl, _⟩ := lvl (show 0 < m by omega)
  cases e with
  | st nm kp og tg =>
    obtain ⟨hkp, _, hog⟩ := hk.st _ _ _ _ he
    walk_at "go"
    refine lc_map (f := fun x : List Nat × Int => U.tup [.str x.1, .int x.2]) (xs := [([107, 48], 5), ([107, 49], b)]) (fun x => some (.str x.1)) (fun x hx N hN => ?_) ?_
    · walk_at "go"
      exact hN
    simp only [List.filterMap_cons, List.filterMap_nil, List.nil_append]
    have hin : ([U.str [107, 48], U.str [107, 49]].any fun y => eqU y (.str kp)) = true := by
      rcases hkp with rfl | rfl
      · rfl
      · rfl
    have ok1 : okU deepU (.str kp) = true := by simp only [okU]
    have ok2 : okUs deepU [U.str [107, 48], .str [107, 49]] = true := rfl
    walk_at "go"
    refine called_ok (by omega) ?_
    rcases hog with rfl | ⟨t2, tn2, tg2, hf, _⟩
    · have hb : eqU (.str []) (.str []) = true := rfl
      walk_at "go"
      exact h
    · have hb : eqU (.str og) (.str []) = false := by
        rw [eq_str]
        exact decide_eq_false fun z => hk.wf.ne _ (find_some hf).1 z
      rw [hf]
      walk_at "go"
      exact h
  | se nm sm tn tg =>
    obtain ⟨_, _, kp, og, tg', hf⟩ := hk.se _ _ _ _ he
    walk_at "go"
    refine called_ok (by omega) ?_
    rw [hf]
    walk_at "go"
    exact h
theorem turns_fit_ok {L : List Fn} {m : Nat} (hm : 1 < m) {es : List En} (hk : Ok es) {G : Hh} {X : Xg} {Q : Qg} (h : Q (.u (.bl true)) G) : callN (Pof L) m F_heads_turns_fit [.u (.tup (es.map enU))] G X Q := by
  obtain ⟨m, rfl, _⟩ := lvl (show 0 < m by omega)
  have hsl : (es.map enU).length ≤ PySem.sizeLine := by have := hk.l24; rw [List.length_map, sizeLine_def]; omega
  walk_at "go"
  rw [id_eq]
  refine lc_map (f := enU) (fun e => if isSl e = true then some (.int (tnOf e)) else none) (fun e he N hN => ?_) ?_
  · cases e <;> (walk_at "go"; exact hN)
  rw [List.nil_append, fm_if, show (es.filter isSl).map (fun e => U.int (tnOf e)) = ((es.filter isSl).map tnOf).map U.int by rw [List.map_map]; rfl]
  have nd : ((es.filter isSl).map tnOf).Nodup := by
    refine td_of (fun a ha b hb e => ?_) ((List.filter_sublist.map _).nodup hk.wf.nd)
    obtain ⟨ha, sa⟩ := List.mem_filter.mp ha
    obtain ⟨hb, sb⟩ := List.mem_filter.mp hb
    exact hk.tdg a ha b hb sa sb e
  have hll : ((es.filter isSl).map tnOf).length < 64 := by
    have := List.length_filter_le isSl es
    have := hk.l24
    rw [List.length_map]
    omega
  walk_at "go"
  refine optK_in (allInt_map _) ?_
  walk_at "go"
  · rw [id_eq]
    refine for_map (f := enU) (fun ys ρ G' => ∃ z2 z3, ρ = [some (.u (.tup (es.map enU))), some (.own (.lst (((es.filter isSl).map tnOf).map U.int))), z2, z3] ∧ G' = G) ⟨_, _, rfl, rfl⟩ ?_ ?_
    · rintro ys e zs ρ G' K e1 ⟨z2, z3, rfl, rfl⟩ hK
      have he : e ∈ es := by rw [← e1]; simp
      cases e with
      | st nm kp og tg =>
        walk_at "go"
        exact hK _ _ ⟨_, _, rfl, rfl⟩
      | se nm sm tn tg =>
        obtain ⟨_, _, kp, og, tg', hf⟩ := hk.se _ _ _ _ he
        obtain ⟨_, _, hog⟩ := hk.st _ _ _ _ (find_some hf).1
        walk_at "go"
        refine called_ok (by omega) ?_
        rw [hf]
        walk_at "go"
        refine called_ok (by omega) ?_
        rcases hog with rfl | ⟨t2, tn2, tg2, hf2, hlt⟩
        · rw [find_nil hk.wf]
          walk_at "go"
          exact hK _ _ ⟨_, _, rfl, rfl⟩
        · rw [hf2]
          have := hlt _ he (by simp [isSe])
          have this : tn2 < tn := this
          walk_at "go"
          all_goals first | exact hK _ _ ⟨_, _, rfl, rfl⟩ | (exfalso; omega)
    · rintro ρ G' ⟨z2, z3, rfl, rfl⟩
      walk_at "go"
      exact h
  · rename_i hc
    exact absurd (by simp) hc
theorem is_head_ok {L : List Fn} {m : Nat} (hm : 4 < m) {a b : Int} (ha : 0 ≤ a ∧ a ≤ 999999999) (hb : 0 ≤ b ∧ b ≤ 999999999) {es : List En} (hk : Ok es) {G : Hh} {X : Xg} {Q : Qg} (h : Q (.u (.bl true)) G) : callN (Pof L) m F_heads_is_head [.u (hdU a (ksU b) es)] G X Q := by
  obtain ⟨m, rfl, _⟩ := lvl (show 0 < m by omega)
  have hl := hk.l24
  have hsl : (es.map enU).length ≤ PySem.sizeLine := by rw [List.length_map, sizeLine_def]; omega
  walk_at "go"
  refine is_count_ok (by omega) ha.1 ha.2 ?_
  walk_at "go"
  · rename_i hc
    rw [List.length_map] at hc
    exfalso
    omega
  · rw [id_eq]
    refine lc_map (f := fun x : List Nat × Int => U.tup [.str x.1, .int x.2]) (xs := [([107, 48], 5), ([107, 49], b)]) (fun _ => some (.bl true)) (fun x hx N hN => ?_) ?_
    · have : okName x.1 ∧ 0 ≤ x.2 ∧ x.2 ≤ 999999999 := by
        simp only [List.mem_cons, List.not_mem_nil, or_false] at hx
        rcases hx with rfl | rfl
        · exact ⟨kp_name (.inl rfl), by decide, by decide⟩
        · exact ⟨kp_name (.inr rfl), hb⟩
      walk_at "go"
      refine is_keeper_ok (by omega) this.1 this.2.1 this.2.2 ?_
      walk_at "go"
      exact hN
    simp only [List.filterMap_cons, List.filterMap_nil, List.nil_append]
    walk_at "go"
    rw [id_eq]
    refine lc_map (f := enU) (fun e => some (.bl ((fun _ => true) e))) (fun e he N hN => ?_) ?_
    · walk_at "go"
      refine is_entry_ok (by omega) hk he ?_
      walk_at "go"
      exact hN
    rw [List.nil_append, filterMap_some]
    have ht : (es.map fun _ => true).all id = true := by simp
    walk_at "go"
    refine optK_in (allBl_mapf (fun _ => true) es) ?_
    walk_at "go"
    refine is_rising_ok (α := List Nat × Int) (f := fun x => U.tup [.str x.1, .int x.2]) (nm := Prod.fst) (xs := [([107, 48], 5), ([107, 49], b)]) (by omega) (fun a => ⟨_, rfl⟩) (by simp) (by simp; decide) ?_
    walk_at "go"
    refine is_rising_ok (α := En) (f := enU) (nm := En.nm) (by omega) (fun e => by cases e <;> exact ⟨_, rfl⟩) (by omega) hk.up ?_
    walk_at "go"
    rw [id_eq]
    refine lc_map (f := enU) (fun e => some (.bl ((fun _ => true) e))) (fun e he N hN => ?_) ?_
    · walk_at "go"
      refine leads_right_ok (by omega) hk he ?_
      walk_at "go"
      exact hN
    rw [List.nil_append, filterMap_some]
    walk_at "go"
    refine optK_in (allBl_mapf (fun _ => true) es) ?_
    walk_at "go"
    refine turns_fit_ok (by omega) hk ?_
    walk_at "go"
    exact h
theorem map_inj {α β : Type} {f : α → β} : ∀ {l : List α}, (l.map f).Nodup → ∀ a ∈ l, ∀ b ∈ l, f a = f b → a = b
  | [], _, a, ha, _, _, _ => by cases ha
  | x :: xs, h, a, ha, b, hb, e => by
    obtain ⟨h1, h2⟩ := List.nodup_cons.mp h
    rcases List.mem_cons.mp ha with e1 | ha <;> rcases List.mem_cons.mp hb with e2 | hb
    · rw [e1, e2]
    · exact absurd (List.mem_map.mpr ⟨b, hb, by rw [← e, e1]⟩) h1
    · exact absurd (List.mem_map.mpr ⟨a, ha, by rw [e, e2]⟩) h1
    · exact map_inj h2 a ha b hb e
theorem Hd.ok {es : List En} (hd : Hd es) : Ok es := by
  obtain ⟨names, c, k, S, Q, hB, hk, hc, hN, hp⟩ := hd.bt
  have stS : ∀ {nm kp og tg}, En.st nm kp og tg ∈ es → En.st nm kp og tg ∈ S := fun {nm kp og tg} he => by
    rcases List.mem_append.mp (hp.mem_iff.mp he) with z | z
    · exact z
    · obtain ⟨_, _, _, _, e, _⟩ := hB.se _ z
      cases e
  have seQ : ∀ {e}, e ∈ es → isSl e = true → e ∈ Q := fun {e} he hs => by
    rcases List.mem_append.mp (hp.mem_iff.mp he) with z | z
    · obtain ⟨_, _, _, _, rfl, _⟩ := hB.st _ z
      cases hs
    · exact z
  have inS : ∀ {e}, e ∈ S → e ∈ es := fun h => hp.mem_iff.mpr (List.mem_append_left _ h)
  have inQ : ∀ {e}, e ∈ Q → e ∈ es := fun h => hp.mem_iff.mpr (List.mem_append_right _ h)
  refine ⟨hd.wf, ?_, fun a ha b hb sa sb e => ?_, hd.up, fun e he => ?_, fun nm kp og tg he => ⟨hB.kp _ _ _ _ (stS he), ?_, ?_⟩, fun nm sm tn tg he => ⟨?_, ?_, ?_⟩⟩
  · have := hB.cnt
    rw [hp.length_eq, List.length_append]
    omega
  · rw [map_inj hB.td a (seQ ha sa) b (seQ hb sb) e]
  · obtain ⟨i, _, e1⟩ := hB.nm e (hp.mem_iff.mp he)
    exact hN _ (List.mem_of_getElem? e1)
  · exact hB.tg _ (hp.mem_iff.mp he)
  · obtain ⟨_, _, _, _, e, ho⟩ := hB.st _ (stS he)
    cases e
    refine ho.imp id fun ⟨x, hx, hxo⟩ => ?_
    obtain ⟨n, sm, tn, tg', rfl, _⟩ := hB.se x hx
    have f1 := find_mem hd.wf.nd (inQ hx)
    have hxo' : n = _ := hxo
    subst hxo'
    exact ⟨sm, tn, tg', f1, fun y hy hs => hB.late _ _ _ _ (stS he) _ hx rfl y (seQ hy (isSe_sl hs)) hs⟩
  · exact hB.tg _ (hp.mem_iff.mp he)
  · obtain ⟨_, _, _, _, e, _, i, hi, ht⟩ := hB.se _ (seQ he rfl)
    cases e
    omega
  · obtain ⟨_, _, _, _, e, ⟨x, hx, hxn⟩, _⟩ := hB.se _ (seQ he rfl)
    cases e
    obtain ⟨n, kp, og, tg', rfl, _⟩ := hB.st x hx
    have f1 := find_mem hd.wf.nd (inS hx)
    have hxn' : n = _ := hxn
    subst hxn'
    exact ⟨kp, og, tg', f1⟩
/-- what a stem with an origin stands on -/
theorem Ok.gr {es : List En} (hk : Ok es) {s kp q : List Nat} {tg : U} (hs : find es s = some (.st s kp q tg)) (hq : q ≠ []) : ∃ o p tq, Gr es s o q p tq := by
  obtain ⟨_, _, hog⟩ := hk.st _ _ _ _ (find_some hs).1
  rcases hog with rfl | ⟨o, tq, tg', hf, hl⟩
  · exact absurd rfl hq
  obtain ⟨_, _, kp2, p, tg2, ho⟩ := hk.se _ _ _ _ (find_some hf).1
  refine ⟨o, p, tq, hk.wf, hk.tdg, ⟨kp, tg, hs⟩, ⟨tg', hf⟩, ⟨kp2, tg2, ho⟩, fun z => ?_, hl, hq⟩
  have := hl _ (find_some hf).1 (by simp [isSe, z])
  simp [tnOf] at this
section
variable {es : List En} {s o q p : List Nat} {tq : Int} (g : Gr es s o q p tq)
include g
theorem Gr.ok (hk : Ok es) : Ok (es.map (gr s o q p tq)) := by
  have hm : (es.map (gr s o q p tq)).map En.nm = es.map En.nm := by
    rw [List.map_map]
    exact List.map_congr_left fun e _ => gr_nm e
  obtain ⟨kp1, tg1, fs⟩ := g.fs
  obtain ⟨kp2, tg2, fo⟩ := g.fo
  obtain ⟨tg3, fq⟩ := g.fq
  have fse : ∀ {n t : List Nat} {tn : Int} {tg : U}, find es n = some (.se n t tn tg) → ∃ t', find (es.map (gr s o q p tq)) n = some (.se n t' tn tg) := fun {n t tn tg} h => by
    rw [g.fF h, gr_se]
    split
    · exact ⟨_, rfl⟩
    · exact ⟨_, rfl⟩
  have fst : ∀ {n kp og : List Nat} {tg : U}, find es n = some (.st n kp og tg) → ∃ og', find (es.map (gr s o q p tq)) n = some (.st n kp og' tg) := fun {n kp og tg} h => by
    rw [g.fF h, gr_st]
    (repeat' split) <;> exact ⟨_, rfl⟩
  refine ⟨g.wfF, by rw [List.length_map]; exact hk.l24, fun a ha b hb sa sb e => ?_, by rw [hm]; exact hk.up, fun e he => ?_, fun nm kp og tg he => ?_, fun nm sm tn tg he => ?_⟩
  · obtain ⟨a', ha', rfl⟩ := List.mem_map.mp ha
    obtain ⟨b', hb', rfl⟩ := List.mem_map.mp hb
    rw [gr_nm, gr_nm]
    rw [gr_sl] at sa sb
    rw [gr_tn, gr_tn] at e
    exact hk.tdg a' ha' b' hb' sa sb e
  · obtain ⟨e', he', rfl⟩ := List.mem_map.mp he
    rw [gr_nm]
    exact hk.nmk e' he'
  · obtain ⟨e', he', e1⟩ := List.mem_map.mp he
    cases e' with
    | se nm' sm' tn' tg' => rw [gr_se] at e1; split at e1 <;> cases e1
    | st nm' kp' og' tg' =>
      obtain ⟨h1, h2, h3⟩ := hk.st _ _ _ _ he'
      rw [gr_st] at e1
      split at e1
      · rename_i hn
        cases e1
        subst hn
        refine ⟨h1, h2, ?_⟩
        obtain ⟨_, _, h4⟩ := hk.st _ _ _ _ (find_some fo).1
        refine h4.imp id fun ⟨t, tn, tgp, hf, hl⟩ => ?_
        obtain ⟨t', hf'⟩ := fse hf
        refine ⟨t', tn, tgp, hf', fun e he hse => ?_⟩
        obtain ⟨e0, he0, rfl⟩ := List.mem_map.mp he
        rw [gr_isS g.so, Bool.or_eq_true, Bool.and_eq_true] at hse
        rw [gr_tn]
        rcases hse with ⟨z, _⟩ | z
        · exact hl e0 he0 z
        · have h5 := g.late e0 he0 z
          have h6 := hl _ (find_some fq).1 (by simp [isSe])
          have h6 : tn < tq := h6
          omega
      · split at e1
        · rename_i hn
          cases e1
          subst hn
          refine ⟨h1, h2, .inr ⟨s, tq, tg3, ?_, fun e he hse => ?_⟩⟩
          · rw [g.fF fq, gr_se, if_pos ⟨rfl, Int.le_refl _⟩]
          · obtain ⟨e0, he0, rfl⟩ := List.mem_map.mp he
            rw [gr_isO g.so, Bool.and_eq_true, decide_eq_true_eq] at hse
            rw [gr_tn]
            exact hse.2
        · rename_i n1 n2
          cases e1
          refine ⟨h1, h2, h3.imp id fun ⟨t, tn, tgp, hf, hl⟩ => ?_⟩
          obtain ⟨t', hf'⟩ := fse hf
          refine ⟨t', tn, tgp, hf', fun e he hse => ?_⟩
          obtain ⟨e0, he0, rfl⟩ := List.mem_map.mp he
          rw [gr_isX n1 n2] at hse
          rw [gr_tn]
          exact hl e0 he0 hse
  · obtain ⟨e', he', e1⟩ := List.mem_map.mp he
    cases e' with
    | st nm' kp' og' tg' => rw [gr_st] at e1; (repeat' split at e1) <;> cases e1
    | se nm' sm' tn' tg' =>
      obtain ⟨h1, h2, kp3, og3, tg3', h3⟩ := hk.se _ _ _ _ he'
      rw [gr_se] at e1
      split at e1
      · cases e1
        obtain ⟨og', hf⟩ := fst fs
        exact ⟨h1, h2, _, _, _, hf⟩
      · cases e1
        obtain ⟨og', hf⟩ := fst h3
        exact ⟨h1, h2, _, _, _, hf⟩
/-- grafted back -/
theorem Gr.back : Gr (es.map (gr s o q p tq)) o s q p tq := by
  obtain ⟨kp1, tg1, fs⟩ := g.fs
  obtain ⟨kp2, tg2, fo⟩ := g.fo
  obtain ⟨tg3, fq⟩ := g.fq
  refine ⟨g.wfF, fun a ha b hb sa sb e => ?_, ⟨kp2, tg2, ?_⟩, ⟨tg3, ?_⟩, ⟨kp1, tg1, ?_⟩, Ne.symm g.so, fun e he hse => ?_, g.qn⟩
  · obtain ⟨a', ha', rfl⟩ := List.mem_map.mp ha
    obtain ⟨b', hb', rfl⟩ := List.mem_map.mp hb
    rw [gr_nm, gr_nm]
    rw [gr_sl] at sa sb
    rw [gr_tn, gr_tn] at e
    exact g.tdg a' ha' b' hb' sa sb e
  · rw [g.fF fo, gr_st, if_neg (Ne.symm g.so), if_pos rfl]
  · rw [g.fF fq, gr_se, if_pos ⟨rfl, Int.le_refl _⟩]
  · rw [g.fF fs, gr_st, if_pos rfl]
  · obtain ⟨e0, he0, rfl⟩ := List.mem_map.mp he
    rw [gr_isO g.so, Bool.and_eq_true, decide_eq_true_eq] at hse
    rw [gr_tn]
    exact hse.2
theorem Gr.twice : (es.map (gr s o q p tq)).map (gr o s q p tq) = es := by
  obtain ⟨kp1, tg1, fs⟩ := g.fs
  obtain ⟨kp2, tg2, fo⟩ := g.fo
  rw [List.map_map]
  conv => rhs; rw [← List.map_id es]
  refine List.map_congr_left fun e he => ?_
  show gr o s q p tq (gr s o q p tq e) = e
  cases e with
  | st nm kp og tg =>
    have f := find_mem g.wf.nd he
    rw [gr_st]
    by_cases h1 : nm = s
    · subst h1
      rw [if_pos rfl, gr_st, if_neg g.so, if_pos rfl]
      have f : find es nm = _ := f
      rw [fs] at f
      cases f
      rfl
    · rw [if_neg h1]
      by_cases h2 : nm = o
      · subst h2
        rw [if_pos rfl, gr_st, if_pos rfl]
        have f : find es nm = _ := f
        rw [fo] at f
        cases f
        rfl
      · rw [if_neg h2, gr_st, if_neg h2, if_neg h1]
  | se nm sm tn tg =>
    rw [gr_se]
    by_cases h1 : sm = o ∧ tn ≤ tq
    · rw [if_pos h1, gr_se, if_pos ⟨rfl, h1.2⟩, h1.1]
    · rw [if_neg h1, gr_se, if_neg]
      intro z
      have := g.late _ he (by simp [isSe, z.1])
      have h2 := z.2
      simp only [tnOf] at this
      omega
end
end Hs

-- needs: S_base S_things S_blocks S_frac S_words S_read S_rdw S_rdi S_draw S_dict S_blk S_sum S_isb S_hist S_hdraw S_graft S_head
namespace LK59
open Mp Gp Hs
open PySem (Addr)
def lv : Nat := 60
theorem ok_pl {es : List En} (hk : Ok es) {e : En} (he : e ∈ es) : plU 3 (enU e) = true := by
  have hn := (hk.nmk e he).2.1
  cases e with
  | st nm kp og tg =>
    obtain ⟨h1, ⟨t, _, rfl⟩, h3⟩ := hk.st _ _ _ _ he
    have h2 := (kp_name h1).2.1
    simp only [En.nm] at hn
    refine pl_st (by omega) (by omega) ?_
    rcases h3 with rfl | ⟨t, tn, tg', hf, _⟩
    · simp
    · have := (hk.nmk _ (find_some hf).1).2.1
      simp only [En.nm] at this
      omega
  | se nm sm tn tg =>
    obtain ⟨⟨t, _, rfl⟩, _, kp, og, tg', hf⟩ := hk.se _ _ _ _ he
    have := (hk.nmk _ (find_some hf).1).2.1
    simp only [En.nm] at this hn
    exact pl_se (by omega) (by omega)
theorem hd_pl {es : List En} (hk : Ok es) (a b : Int) : plU 5 (hdU a (ksU b) es) = true := by
  have h1 : plUs 3 (es.map enU) = true := plUs_iff.mpr fun u hu => by
    obtain ⟨e, he, rfl⟩ := List.mem_map.mp hu
    exact ok_pl hk he
  have h2 : plU 4 (.tup (es.map enU)) = true := by
    have := hk.l24
    simp only [plU, h1, List.length_map, Bool.and_true, decide_eq_true_eq]
    omega
  have h3 : plU 4 (ksU b) = true := by simp [ksU, plU, plUs]
  have h4 : plUs 4 [.int a, ksU b, .tup (es.map enU)] = true := plUs_iff.mpr fun u hu => by
    simp only [List.mem_cons, List.not_mem_nil, or_false] at hu
    rcases hu with rfl | rfl | rfl
    · simp [plU]
    · exact h3
    · exact h2
  unfold hdU
  simp only [plU, h4, Bool.and_true, decide_eq_true_eq, List.length_cons, List.length_nil]
  omega
theorem eq_en {a b : En} (h : a.nm ≠ b.nm) : eqU (enU a) (enU b) = false := by
  cases a <;> cases b <;> simp only [En.nm] at h <;> simp [enU, eqU, eqUs, h]
theorem entry_ok {m : Nat} (hm : 0 < m) {a : Int} {ks : U} {es : List En} (w : Wf es) {n : List Nat} {e : En} (hf : find es n = some e) {G : Hh} {X : Xg} {Q : Qg} (h : Q (.u (enU e)) G) : callN P m 3000 [.u (hdU a ks es), .u (.str n)] G X Q := by
  obtain ⟨m, rfl, _⟩ := lvl hm
  have hsl : (es.map enU).length ≤ PySem.sizeLine := by have := w.len; rw [List.length_map, sizeLine_def]; omega
  walk_at "go"
  rw [id_eq]
  refine lc_map (f := enU) (fun e => if decide (e.nm = n) = true then some (enU e) else none) (fun e he N hN => ?_) ?_
  · have hb : eqU (.str e.nm) (.str n) = decide (e.nm = n) := eq_str _ _
    cases hdd : decide (e.nm = n)
    · rw [hdd] at hb hN
      cases e <;> (simp only [En.nm] at hb; walk_at "go"; exact hN)
    · rw [hdd] at hb hN
      cases e <;> (simp only [En.nm] at hb; walk_at "go"; exact hN)
  rw [fm_if, filter_nm w.nd hf, List.nil_append, List.map_cons, List.map_nil]
  walk_at "go"
  exact h
theorem grafted_ok {m : Nat} (hm : 1 < m) {a : Int} {ks : U} {es : List En} {s o q p : List Nat} {tq : Int} (g : Gr es s o q p tq) {G : Hh} {X : Xg} {Q : Qg} (h : Q (.u (hdU a ks (es.map (gr s o q p tq)))) G) : callN P m F_histories_grafted [.u (hdU a ks es), .u (.str s)] G X Q := by
  obtain ⟨m, rfl, _⟩ := lvl (show 0 < m by omega)
  obtain ⟨kp1, tg1, fs⟩ := g.fs
  obtain ⟨kp2, tg2, fo⟩ := g.fo
  obtain ⟨tg3, fq⟩ := g.fq
  have hl := g.wf.len
  walk_at "go"
  refine called_ok (L := own) (by omega) ?_
  rw [fs]
  walk_at "go"
  refine called_ok (L := own) (by omega) ?_
  rw [fq]
  walk_at "go"
  rw [id_eq]
  refine for_map (f := enU) (fun ys ρ G' => ∃ z6 z7 z8 z9 z10, ρ = [some (.u (hdU a ks es)), some (.u (.str s)), some (.u (.tup (es.map enU))), some (.u (enU (.se q o tq tg3))), some (.u (.str o)), some (.own (.lst ((ys.map (gr s o q p tq)).map enU))), z6, z7, z8, z9, z10] ∧ G' = G) ⟨_, _, _, _, _, rfl, rfl⟩ ?_ ?_
  · rintro ys e zs ρ G' K e1 ⟨z6, z7, z8, z9, z10, rfl, rfl⟩ hK
    have he : e ∈ es := by rw [← e1]; simp
    have hyl : ys.length < es.length := by rw [← e1]; simp
    have hsz : ((ys.map (gr s o q p tq)).map enU).length < PySem.sizeLine := by rw [List.length_map, List.length_map, sizeLine_def]; omega
    have put : ∀ {u : U} {w6 w7 w8 w9 w10 : Option SV}, u = enU (gr s o q p tq e) → K [some (.u (hdU a ks es)), some (.u (.str s)), some (.u (.tup (es.map enU))), some (.u (enU (.se q o tq tg3))), some (.u (.str o)), some (.own (.lst ((ys.map (gr s o q p tq)).map enU ++ [u]))), w6, w7, w8, w9, w10] G' := fun {u w6 w7 w8 w9 w10} hu => by
      rw [hu]
      have := hK [some (.u (hdU a ks es)), some (.u (.str s)), some (.u (.tup (es.map enU))), some (.u (enU (.se q o tq tg3))), some (.u (.str o)), some (.own (.lst (((ys ++ [e]).map (gr s o q p tq)).map enU))), w6, w7, w8, w9, w10] G' ⟨_, _, _, _, _, rfl, rfl⟩
      rw [List.map_append, List.map_append] at this
      exact this
    cases e with
    | st nm kp og tg =>
      by_cases h1 : nm = s
      · have hb : eqU (.str nm) (.str s) = true := by rw [eq_str, h1]; simp
        walk_at "go"
        refine called_ok (L := own) (by omega) ?_
        rw [fo]
        walk_at "go"
        refine put ?_
        rw [gr_st, if_pos h1]
        rfl
      · have hb : eqU (.str nm) (.str s) = false := by rw [eq_str]; simp [h1]
        by_cases h2 : nm = o
        · have hb2 : eqU (.str nm) (.str o) = true := by rw [eq_str, h2]; simp
          walk_at "go"
          refine put ?_
          rw [gr_st, if_neg h1, if_pos h2]
          rfl
        · have hb2 : eqU (.str nm) (.str o) = false := by rw [eq_str]; simp [h2]
          walk_at "go"
          refine put ?_
          rw [gr_st, if_neg h1, if_neg h2]
          rfl
    | se nm sm tn tg =>
      have n1 : nm ≠ s := fun z => by
        have f := find_mem g.wf.nd he
        simp only [En.nm] at f
        rw [z, fs] at f
        cases f
      have n2 : nm ≠ o := fun z => by
        have f := find_mem g.wf.nd he
        simp only [En.nm] at f
        rw [z, fo] at f
        cases f
      have hb : eqU (.str nm) (.str s) = false := by rw [eq_str]; simp [n1]
      have hb2 : eqU (.str nm) (.str o) = false := by rw [eq_str]; simp [n2]
      by_cases h1 : sm = o
      · have hb3 : eqU (.str sm) (.str o) = true := by rw [eq_str, h1]; simp
        walk_at "go"
        all_goals refine put ?_
        all_goals rw [gr_se]
        · rw [if_pos ⟨h1, by assumption⟩]; rfl
        · rw [if_neg fun z => by have := z.2; omega]; rfl
      · have hb3 : eqU (.str sm) (.str o) = false := by rw [eq_str]; simp [h1]
        walk_at "go"
        refine put ?_
        rw [gr_se, if_neg fun z => h1 z.1]
        rfl
  · rintro ρ G' ⟨z6, z7, z8, z9, z10, rfl, rfl⟩
    walk_at "go"
    exact h
theorem due_ok {m : Nat} (hm : 1 < m) {a : Int} {ks : U} {es : List En} (hk : Ok es) {s o q p : List Nat} {tq : Int} (g : Gr es s o q p tq) {G : Hh} {X : Xg} {Q : Qg} (h : Q (.u (hdU a ks (es.map (gr s o q p tq)))) G) : callN P m 3001 [.u (hdU a ks es), .u (.str s)] G X Q := by
  obtain ⟨m, rfl, _⟩ := lvl (show 0 < m by omega)
  obtain ⟨kp1, tg1, fs⟩ := g.fs
  obtain ⟨kp2, tg2, fo⟩ := g.fo
  obtain ⟨tg3, fq⟩ := g.fq
  have hl := g.wf.len
  have so := g.so
  have oE : ∀ {e : En}, e ∈ es → okU deepU (enU e) = true := fun he => (plU_eq (ok_pl hk he) (by omega)).1
  have sE : ∀ {e : En}, e ∈ es → eqU (enU e) (enU e) = true := fun he => (plU_eq (ok_pl hk he) (by omega)).2
  have o1 := oE (find_some fs).1
  have o2 := oE (find_some fo).1
  have s1 := sE (find_some fs).1
  have s2 := sE (find_some fo).1
  walk_at "go"
  refine entry_ok (by omega) g.wf fs ?_
  walk_at "go"
  refine entry_ok (by omega) g.wf fq ?_
  walk_at "go"
  refine entry_ok (by omega) g.wf fo ?_
  walk_at "go"
  rw [id_eq]
  refine for_map (f := enU) (fun ys ρ G' => ∃ z6, ρ = [some (.u (hdU a ks es)), some (.u (.str s)), some (.u (enU (.st s kp1 q tg1))), some (.u (enU (.se q o tq tg3))), some (.u (enU (.st o kp2 p tg2))), some (.own (.lst ((ys.map (gr s o q p tq)).map enU))), z6] ∧ G' = G) ⟨_, rfl, rfl⟩ ?_ ?_
  · rintro ys e zs ρ G' K e1 ⟨z6, rfl, rfl⟩ hK
    have he : e ∈ es := by rw [← e1]; simp
    have hyl : ys.length < es.length := by rw [← e1]; simp
    have hsz : ((ys.map (gr s o q p tq)).map enU).length < PySem.sizeLine := by rw [List.length_map, List.length_map, sizeLine_def]; omega
    have put : ∀ {u : U} {w6 : Option SV}, u = enU (gr s o q p tq e) → K [some (.u (hdU a ks es)), some (.u (.str s)), some (.u (enU (.st s kp1 q tg1))), some (.u (enU (.se q o tq tg3))), some (.u (enU (.st o kp2 p tg2))), some (.own (.lst ((ys.map (gr s o q p tq)).map enU ++ [u]))), w6] G' := fun {u w6} hu => by
      rw [hu]
      have := hK [some (.u (hdU a ks es)), some (.u (.str s)), some (.u (enU (.st s kp1 q tg1))), some (.u (enU (.se q o tq tg3))), some (.u (enU (.st o kp2 p tg2))), some (.own (.lst (((ys ++ [e]).map (gr s o q p tq)).map enU))), w6] G' ⟨_, rfl, rfl⟩
      rw [List.map_append, List.map_append] at this
      exact this
    have o3 := oE he
    by_cases h1 : e.nm = s
    · have f := find_mem g.wf.nd he
      rw [h1, fs] at f
      cases f
      walk_at "go"
      refine put ?_
      rw [gr_st, if_pos rfl]
      rfl
    · have hb1 : eqU (enU e) (enU (.st s kp1 q tg1)) = false := eq_en h1
      by_cases h2 : e.nm = o
      · have f := find_mem g.wf.nd he
        rw [h2, fo] at f
        cases f
        walk_at "go"
        refine put ?_
        rw [gr_st, if_neg (Ne.symm so), if_pos rfl]
        rfl
      · have hb2 : eqU (enU e) (enU (.st o kp2 p tg2)) = false := eq_en h2
        cases e with
        | st nm kp og tg =>
          simp only [En.nm] at h1 h2
          walk_at "go"
          refine put ?_
          rw [gr_st, if_neg h1, if_neg h2]
        | se nm sm tn tg =>
          by_cases h3 : sm = o
          · have hb3 : eqU (.str sm) (.str o) = true := by rw [eq_str, h3]; simp
            walk_at "go"
            all_goals refine put ?_
            all_goals rw [gr_se]
            · rw [if_pos ⟨h3, by assumption⟩]; rfl
            · rw [if_neg fun z => by have := z.2; omega]
          · have hb3 : eqU (.str sm) (.str o) = false := by rw [eq_str]; simp [h3]
            walk_at "go"
            refine put ?_
            rw [gr_se, if_neg fun z => h3 z.1]
  · rintro ρ G' ⟨z6, rfl, rfl⟩
    walk_at "go"
    exact h
/-! ### the law -/
def stO : En → Option (List Nat)
  | .st nm _ _ _ => some nm
  | .se .. => none
def goO : En → Option (List Nat)
  | .st nm _ og _ => if og = [] then none else some nm
  | .se .. => none
theorem fm_str (f : En → Option (List Nat)) (es : List En) : es.filterMap (fun e => (f e).map U.str) = (es.filterMap f).map U.str := by
  induction es with
  | nil => rfl
  | cons e es ih =>
    rw [List.filterMap_cons, List.filterMap_cons, ih]
    cases f e <;> rfl
theorem sts_mem {es : List En} {s : List Nat} (h : s ∈ es.filterMap stO) : ∃ kp og tg, En.st s kp og tg ∈ es := by
  obtain ⟨e, he, h2⟩ := List.mem_filterMap.mp h
  cases e with
  | st nm kp og tg => cases h2; exact ⟨_, _, _, he⟩
  | se => cases h2
theorem go_mem {es : List En} {s : List Nat} (h : s ∈ es.filterMap goO) : ∃ kp og tg, En.st s kp og tg ∈ es ∧ og ≠ [] := by
  obtain ⟨e, he, h2⟩ := List.mem_filterMap.mp h
  cases e with
  | st nm kp og tg =>
    have h2 : (if og = [] then none else some nm) = some s := h2
    by_cases z : og = []
    · rw [if_pos z] at h2; cases h2
    · rw [if_neg z] at h2; cases h2; exact ⟨_, _, _, he, z⟩
  | se => cases h2
theorem law_go {m : Nat} (hm : 50 < m) (ns : List Int) (hl : ns.length ≤ 63) : callN P (m + 1) 3002 [.u (.lst (ns.map U.int))] (fun _ => none) (fun _ _ _ => False) fun r _ => r = .u (.bl true) := by
  walk_at "go"
  refine cell_at_ok (L := own) (k := 0) (by omega) Lp.v fun c0 => ?_
  walk_at "go"
  refine row2_ok (L := own) (k := 10) (by omega) (by omega) fun rs hr => ?_
  walk_at "go"
  refine names_ok (L := own) (k := 20) (by omega) (by omega) (by omega) hr fun ss hss => ?_
  walk_at "go"
  refine head2_ok (L := own) (by omega) hss fun a b es hd ha hb => ?_
  have hk := hd.ok
  have hsl : (es.map enU).length ≤ PySem.sizeLine := by have := hd.wf.len; rw [List.length_map, sizeLine_def]; omega
  have hself := plU_eq (hd_pl hk a b) (by omega)
  have hs1 := hself.1
  have hs2 := hself.2
  walk_at "go"
  rw [id_eq]
  refine lc_map (f := enU) (fun e => (stO e).map U.str) (fun e he N hN => ?_) ?_
  · cases e <;> (walk_at "go"; exact hN)
  rw [List.nil_append, fm_str]
  walk_at "go"
  rw [id_eq]
  refine lc_map (f := enU) (fun e => (goO e).map U.str) (fun e he N hN => ?_) ?_
  · cases e with
    | st nm kp og tg =>
      by_cases z : og = []
      · have hbb : eqU (.str og) (.str []) = true := by rw [z]; rfl
        rw [show goO (.st nm kp og tg) = none from if_pos z, Option.map_none] at hN
        walk_at "go"
        exact hN
      · have hbb : eqU (.str og) (.str []) = false := by rw [eq_str]; simp [z]
        rw [show goO (.st nm kp og tg) = some nm from if_neg z, Option.map_some] at hN
        walk_at "go"
        exact hN
    | se => walk_at "go"; exact hN
  rw [List.nil_append, fm_str]
  walk_at "go"
  rw [id_eq]
  refine for_map (f := U.str) (fun ys ρ G' => ∃ z4 z5 z6 z7, ρ = [some (.u (.lst (ns.map U.int))), some (.own (.lst (ss.map U.str))), some (.u (hdU a (ksU b) es)), some (.u (.tup [.int a, ksU b, .tup (es.map enU)])), z4, z5, z6, z7, none] ∧ (z4 = some (.own (.lst ((es.filterMap stO).map U.str))) ∨ z4 = some (.u (.lst ((es.filterMap stO).map U.str)))) ∧ G' = fun _ => none) ⟨_, _, _, _, rfl, .inl rfl, rfl⟩ ?_ ?_
  · rintro ys s zs ρ G' K e1 ⟨z4, z5, z6, z7, rfl, h4, rfl⟩ hK
    obtain ⟨kp, q, tg, hs, hq⟩ := go_mem (es := es) (s := s) (by rw [← e1]; simp)
    have fs := find_mem hk.wf.nd hs
    have fs : find es s = some (.st s kp q tg) := fs
    obtain ⟨o, p, tq, g⟩ := hk.gr fs hq
    obtain ⟨tg3, fq⟩ := g.fq
    have hkF := g.ok hk
    have hF := plU_eq (hd_pl hkF a b) (by omega)
    have hF1 := hF.1
    have hF2 := hF.2
    have tw := g.twice
    rcases h4 with rfl | rfl
    all_goals
      walk_at "go"
      refine grafted_ok (by omega) g ?_
      walk_at "go"
      refine is_head_ok (L := own) (by omega) (by omega) (by omega) hkF ?_
      walk_at "go"
      refine due_ok (by omega) hk g ?_
      walk_at "go"
      rw [id_eq]
      refine for_map (f := U.str) (fun ys ρ G' => ∃ z7, ρ = [some (.u (.lst (ns.map U.int))), some (.own (.lst (ss.map U.str))), some (.u (hdU a (ksU b) es)), some (.u (.tup [.int a, ksU b, .tup (es.map enU)])), some (.u (.lst ((es.filterMap stO).map U.str))), some (.u (.str s)), some (.u (hdU a (ksU b) (es.map (gr s o q p tq)))), z7, none] ∧ G' = fun _ => none) ⟨_, rfl, rfl⟩ ?_ ?_
      · rintro ys2 x zs2 ρ G' K2 e2 ⟨z7', rfl, rfl⟩ hK2
        obtain ⟨kp3, og3, tg4, hx⟩ := sts_mem (es := es) (s := x) (by rw [← e2]; simp)
        obtain ⟨l, d, hd18, hp⟩ := hd.pre _ hd.wf (fun _ _ _ _ h => h) (fun _ h _ => h) _ _ _ _ hx
        obtain ⟨l', d', hp', hd', he'⟩ := g.hist hp
        have hes : eqU (.lst ((l' ++ nmS (es.map (gr s o q p tq)) x).map U.str)) (.lst ((l ++ nmS es x).map U.str)) = true := by rw [eq_strs, he']; simp
        have hok := ok_strs (l ++ nmS es x)
        have hok' := ok_strs (l' ++ nmS (es.map (gr s o q p tq)) x)
        walk_at "go"
        refine l_history_ok (L := own) g.wfF d' hp' (by omega) (by omega) ?_
        walk_at "go"
        refine l_history_ok (L := own) hk.wf d hp (by omega) (by omega) ?_
        walk_at "go"
        exact hK2 _ _ ⟨_, rfl, rfl⟩
      · rintro ρ G' ⟨z7', rfl, rfl⟩
        walk_at "go"
        refine entry_ok (by omega) hk.wf fs ?_
        walk_at "go"
        refine entry_ok (by omega) hk.wf fq ?_
        walk_at "go"
        refine grafted_ok (by omega) g.back ?_
        rw [tw]
        walk_at "go"
        exact hK _ _ ⟨_, _, _, _, rfl, .inr rfl, rfl⟩
  · rintro ρ G' ⟨z4, z5, z6, z7, rfl, h4, rfl⟩
    walk_at "go"
    show R.u (.bl (eqU (hdU a (ksU b) es) (hdU a (ksU b) es))) = _
    rw [hs2]
theorem law_ok (ns : List Int) (hl : ns.length ≤ 63) (hb : ∀ z ∈ ns, PySem.Builtin.Int.intBits z ≤ 1048576) : lawOk P lv 3002 ns := law_go (m := 59) (by decide) ns hl
end LK59

end
open PySem PySem.W PyProof.Rows
set_option maxHeartbeats 0 in
theorem PySem.Challenge.cw_stemshelf_k59_grafts_holds : PySem.Challenge.rw_stemshelf_k59_grafts.Holds := by
  w_on; o_law; k_head; (case hw => w_witness2)
  k_fill
  refine L2.walk_ofB (l := PySem.Challenge.rw_stemshelf_k59_grafts) (n := 63) (k := 2 * LK59.lv) (x := "_law_script") (CX := fun w => L2.CX PySem.Challenge.rw_stemshelf_k59_grafts.prog w) (sp := fun w vs H Q E => ∀ ca, Mp.spN (LK59.cx ca) (Mp.callN LK59.P LK59.lv) _ 3002 vs H Q E) rfl (by decide) rfl ⟨rfl, by decide, by decide⟩ (fun w h Y => PySem.W.kIn_of Y) ?F (fun _ H a ns hl hb _ hS ca => Mp.law_sp (c := LK59.cx ca) (LK59.law_ok ns hl hb) hS) (fun _ _ _ _ _ h => by obtain ⟨_, _, _, _, _, _, _, _, _, _, _, _, z⟩ := h; exact z)
  case F =>
    intro w mg fa h KX G hmg
    refine' LK59.mk_top (n := LK59.lv) KX G hmg ?a0 ?l0 ?c0 ?k0 ?a1 ?l1 ?c1 ?k1 ?a2 ?l2 ?c2 ?k2 ?a3 ?l3 ?c3 ?k3 ?a4 ?l4 ?c4 ?k4 ?a5 ?l5 ?c5 ?k5 ?a6 ?l6 ?c6 ?k6 ?a7 ?l7 ?c7 ?k7 ?a8 ?l8 ?c8 ?k8 ?a9 ?l9 ?c9 ?k9 ?a10 ?l10 ?c10 ?k10 ?a11 ?l11 ?c11 ?k11 ?a12 ?l12 ?c12 ?k12 ?a13 ?l13 ?c13 ?k13 ?a14 ?l14 ?c14 ?k14 ?a15 ?l15 ?c15 ?k15 ?a16 ?l16 ?c16 ?k16 ?a17 ?l17 ?c17 ?k17 ?a18 ?l18 ?c18 ?k18 ?a19 ?l19 ?c19 ?k19 ?z0 ?z1 ?z2 ?z3 ?z4 ?z5 ?z6 ?z7 ?z8 ?z9 ?z10 ?z11 ?z12 ?z13 ?z14 ?z15 ?z16 ?z17 ?z18 ?z19 ?y0 ?y1 ?y2 ?y3 ?y4 ?y5 ?y6 ?y7
    (case a0 => k_is); (case l0 => k_is); (case c0 => k_is); (case k0 => k_is); (case a1 => k_is); (case l1 => k_is); (case c1 => k_is); (case k1 => k_is); (case a2 => k_is); (case l2 => k_is); (case c2 => k_is); (case k2 => k_is); (case a3 => k_is); (case l3 => k_is); (case c3 => k_is); (case k3 => k_is); (case a4 => k_is); (case l4 => k_is); (case c4 => k_is); (case k4 => k_is); (case a5 => k_is); (case l5 => k_is); (case c5 => k_is); (case k5 => k_is); (case a6 => k_is); (case l6 => k_is); (case c6 => k_is); (case k6 => k_is); (case a7 => k_is); (case l7 => k_is); (case c7 => k_is); (case k7 => k_is); (case a8 => k_is); (case l8 => k_is); (case c8 => k_is); (case k8 => k_is); (case a9 => k_is); (case l9 => k_is); (case c9 => k_is); (case k9 => k_is); (case a10 => k_is); (case l10 => k_is); (case c10 => k_is); (case k10 => k_is); (case a11 => k_is); (case l11 => k_is); (case c11 => k_is); (case k11 => k_is); (case a12 => k_is); (case l12 => k_is); (case c12 => k_is); (case k12 => k_is); (case a13 => k_is); (case l13 => k_is); (case c13 => k_is); (case k13 => k_is); (case a14 => k_is); (case l14 => k_is); (case c14 => k_is); (case k14 => k_is); (case a15 => k_is); (case l15 => k_is); (case c15 => k_is); (case k15 => k_is); (case a16 => k_is); (case l16 => k_is); (case c16 => k_is); (case k16 => k_is); (case a17 => k_is); (case l17 => k_is); (case c17 => k_is); (case k17 => k_is); (case a18 => k_is); (case l18 => k_is); (case c18 => k_is); (case k18 => k_is); (case a19 => k_is); (case l19 => k_is); (case c19 => k_is); (case k19 => k_is); (case z0 => k_is); (case z1 => k_is); (case z2 => k_is); (case z3 => k_is); (case z4 => k_is); (case z5 => k_is); (case z6 => k_is); (case z7 => k_is); (case z8 => k_is); (case z9 => k_is); (case z10 => k_is); (case z11 => k_is); (case z12 => k_is); (case z13 => k_is); (case z14 => k_is); (case z15 => k_is); (case z16 => k_is); (case z17 => k_is); (case z18 => k_is); (case z19 => k_is); (case y0 => k_is); (case y1 => k_is); (case y2 => k_is); (case y3 => k_is); (case y4 => k_is); (case y5 => k_is); (case y6 => k_is); (case y7 => k_is)
